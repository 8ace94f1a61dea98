import PyProof.Rows.All
import Wide.All
import OpenK.AllK
import Wide.FinOn
import HandS.ForMost
import HandS.ForExc
import HandS.Wide
import HandS.SortInts
import HandS.SortRule
import HandS.Conv
import HandS.IsInst
import HandS.Deep
import HandS.Property
import HandS.Evl
import HandS.Style
import HandS.More
import HandS.ExcOwn
import HandS.ExcIs
import HandS.TryOnly
import HandS.WordsExc
import HandS.Iter
import HandS.Flow
import HandS.NoneIn
import HandS.DictComp
import KE.SortKeyed
import HandS.DictTup
import HandS.Nested
import HandS.EndTab
import HandS.HeadWalk
import KE.KDictZip
import KE.SortData
import KE.DataCmp
import HandS.Star
import HandS.SortKw
import KE.KSortKey
import PySem.Challenge.RW_ownhues_k69_painted_by_two

set_option Elab.async false
set_option linter.all false
set_option maxRecDepth 100000
set_option maxHeartbeats 4000000
/-! OC: short steps through a reading, own lemmas. -/
namespace OC
open PySem PySem.Spec PyProof.Rows L2
abbrev St := L2.St

/-! ### heaps -/
/-- all but u is as it was -/
def Keep (u : Addr) (H H' : Hp) : Prop := ∀ a o, H a = some o → a ≠ u → H' a = some o
theorem Keep.refl {u : Addr} (H : Hp) : Keep u H H := fun _ _ h _ => h
theorem Keep.trans {u : Addr} {H H1 H2 : Hp} (a : Keep u H H1) (b : Keep u H1 H2) : Keep u H H2 := fun x o h n => b x o (a x o h n) n
theorem Keep.same {u : Addr} {H H1 H2 : Hp} (a : Keep u H H1) (b : Same H1 H2) : Keep u H H2 := fun x o h n => b x o (a x o h n)
theorem Same.keep {u : Addr} {H H1 H2 : Hp} (a : Same H H1) (b : Keep u H1 H2) : Keep u H H2 := fun x o h n => b x o (a x o h) n
theorem Same.toKeep {u : Addr} {H H1 : Hp} (a : Same H H1) : Keep u H H1 := fun x o h _ => a x o h
theorem Keep.at {u a : Addr} {H H' : Hp} {o : HO} (k : Keep u H H') (h : H a = some o) (n : a ≠ u) : H' a = some o := k a o h n
theorem sat {a : Addr} {H H' : Hp} {o : HO} (k : Same H H') (h : H a = some o) : H' a = some o := k a o h
theorem same_new {H : Hp} {p : Addr} {o : HO} (h : H p = none) : Same H (upd H p o) := fun b x e => by
  rw [upd_ne (ne_of_none e h)]
  exact e
theorem new_at {H : Hp} {p a : Addr} {o x : HO} (h : H p = none) (e : H a = some x) : upd H p o a = some x := same_new h a x e
theorem upd_at {H : Hp} {p a : Addr} {o x : HO} (n : a ≠ p) (e : H a = some x) : upd H p o a = some x := by
  rw [upd_ne n]
  exact e
theorem upd_none {H : Hp} {p a : Addr} {o : HO} (n : a ≠ p) (e : H a = none) : upd H p o a = none := by
  rw [upd_ne n]
  exact e
/-- what H does not know may change -/
theorem same_mut {H H' : Hp} {p : Addr} {o : HO} (e : Same H H') (h : H p = none) : Same H (upd H' p o) := fun a x q => by
  rw [upd_ne (ne_of_none q h)]
  exact e a x q
theorem keep_mut {u p : Addr} {H H' : Hp} {o : HO} (e : Keep u H H') (h : H p = none) : Keep u H (upd H' p o) := fun a x q n => by
  rw [upd_ne (ne_of_none q h)]
  exact e a x q n
theorem keep_self {u : Addr} {H H' : Hp} {o : HO} (e : Keep u H H') : Keep u H (upd H' u o) := fun a x q n => by
  rw [upd_ne n]
  exact e a x q n
theorem keep_new {u p : Addr} {H H' : Hp} {o : HO} (e : Keep u H H') (h : H' p = none) : Keep u H (upd H' p o) := e.same (same_new h)
theorem sq_l {K : PySem.W.Frag} {H : Hp} {a : Addr} {xs : List V} (h : H a = some (.lst xs)) : SqL K H a xs := .inl (.inl h)
theorem sq_t {K : PySem.W.Frag} {H : Hp} {a : Addr} {xs : List V} (h : H a = some (.tup xs)) : SqT K H a xs := .inl (.inl h)

/-! ### steps through a reading -/
section
variable {K : PySem.W.Frag} {σ : St} {H : Hp} {ta tb te tc : TE} {t u : TT} {ts us : TS} {Q : VK} {n r b c : St → Hp → Prop} {rt : VK} {bk ct : St → Hp → Prop}
theorem x_seq (h : ts ⟨us ⟨n, rt, bk, ct⟩, rt, bk, ct⟩ σ H) : tSeq ts us ⟨n, rt, bk, ct⟩ σ H := h
theorem x_next (h : n σ H) : tNext ⟨n, rt, bk, ct⟩ σ H := h
theorem x_break (h : bk σ H) : tBreak ⟨n, rt, bk, ct⟩ σ H := h
theorem x_cont (h : ct σ H) : tCont ⟨n, rt, bk, ct⟩ σ H := h
theorem x_asg {g : TG} (h : te σ H fun x H1 => g x σ H1 n) : tAsg te g ⟨n, rt, bk, ct⟩ σ H := h
theorem x_name {i : Nat} {v : V} {Qs : St → Hp → Prop} {σ' : St} (e : σ.set i (some v) = σ') (h : Qs σ' H) : gName i v σ H Qs := by
  subst e
  exact h
theorem x_drop (h : te σ H fun _ H1 => n σ H1) : tDrop te ⟨n, rt, bk, ct⟩ σ H := h
theorem x_ret (h : te σ H rt) : tRet te ⟨n, rt, bk, ct⟩ σ H := h
theorem x_retN (h : rt .non H) : tRetN ⟨n, rt, bk, ct⟩ σ H := h
theorem x_ifs (h : t σ H fun z H1 => if z = true then ts ⟨n, rt, bk, ct⟩ σ H1 else us ⟨n, rt, bk, ct⟩ σ H1) : tIfS t ts us ⟨n, rt, bk, ct⟩ σ H := h
theorem x_var {i : Nat} {v : V} (e : σ[i]? = some (some v)) (h : Q v H) : tVar i σ H Q := ⟨v, e, h⟩
theorem x_c {v : V} (h : Q v H) : tC v σ H Q := h
theorem x_op {r : R2} (h : ta σ H fun x H1 => tb σ H1 fun y H2 => r x y H2 Q) : tOp r ta tb σ H Q := h
theorem x_un {r : V → Hp → VK → Prop} (h : ta σ H fun x H1 => r x H1 Q) : tUn r ta σ H Q := h
theorem x_I0 {g : Int → Int → V} {i j : Int} (h : Q (g i j) H) : rI0 g (.int i) (.int j) H Q := ⟨i, j, rfl, rfl, h⟩
theorem x_I {C : Int → Int → Prop} {g : Int → Int → V} {i j : Int} (c : C i j) (h : Q (g i j) H) : rI C g (.int i) (.int j) H Q := ⟨i, j, rfl, rfl, c, h⟩
theorem x_U {g : Int → V} {i : Int} (h : Q (g i) H) : rU g (.int i) H Q := ⟨i, rfl, h⟩
theorem x_test {Qb : Bool → Hp → Prop} {f : TE} (h : f σ H fun x H1 => ∃ k, x = .bl k ∧ Qb k H1) : tTest f σ H Qb := h
theorem x_B {Qb : Bool → Hp → Prop} (h : te σ H fun x H1 => ∃ k, x = .bl k ∧ Qb k H1) : tB te σ H Qb := h
theorem x_bl {z : Bool} {P : Bool → Prop} (h : P z) : ∃ k, V.bl z = .bl k ∧ P k := ⟨z, rfl, h⟩
theorem x_not {Qb : Bool → Hp → Prop} (h : t σ H fun z H1 => Qb (!z) H1) : tNot t σ H Qb := h
theorem x_and {Qb : Bool → Hp → Prop} (h : t σ H fun z H1 => if z = true then u σ H1 Qb else Qb false H1) : tAnd t u σ H Qb := h
theorem x_or {Qb : Bool → Hp → Prop} (h : t σ H fun z H1 => if z = true then Qb true H1 else u σ H1 Qb) : tOr t u σ H Qb := h
theorem x_and' {p q : Prop} {dp : Decidable p} {dq : Decidable q} {Qb : Bool → Hp → Prop} (h1 : ∀ R : Bool → Hp → Prop, R (decide p) H → t σ H R) (h2 : p → ∀ R : Bool → Hp → Prop, R (decide q) H → u σ H R) (h : Qb (decide (p ∧ q)) H) : tAnd t u σ H Qb := by
  refine h1 _ ?_
  by_cases c : p
  · rw [decide_eq_true c]
    refine h2 c _ ?_
    have e : decide (p ∧ q) = decide q := by simp [c]
    rw [e] at h
    exact h
  · rw [decide_eq_false c]
    have e : decide (p ∧ q) = false := by simp [c]
    rw [e] at h
    exact h
theorem x_or' {p q : Prop} {dp : Decidable p} {dq : Decidable q} {Qb : Bool → Hp → Prop} (h1 : ∀ R : Bool → Hp → Prop, R (decide p) H → t σ H R) (h2 : ¬ p → ∀ R : Bool → Hp → Prop, R (decide q) H → u σ H R) (h : Qb (decide (p ∨ q)) H) : tOr t u σ H Qb := by
  refine h1 _ ?_
  by_cases c : p
  · rw [decide_eq_true c]
    have e : decide (p ∨ q) = true := by simp [c]
    rw [e] at h
    exact h
  · rw [decide_eq_false c]
    refine h2 c _ ?_
    have e : decide (p ∨ q) = decide q := by simp [c]
    rw [e] at h
    exact h
theorem x_andV (h : ta σ H fun x H1 => ∃ k, x = .bl k ∧ if k = true then tb σ H1 Q else Q (.bl false) H1) : tAndV ta tb σ H Q := h
theorem x_orV (h : ta σ H fun x H1 => ∃ k, x = .bl k ∧ if k = true then Q (.bl true) H1 else tb σ H1 Q) : tOrV ta tb σ H Q := h
theorem x_notV (h : ta σ H fun x H1 => ∃ k, x = .bl k ∧ Q (.bl (!k)) H1) : tNotV ta σ H Q := h
theorem x_if {t : TT} (h : t σ H fun z H1 => if z = true then ta σ H1 Q else tb σ H1 Q) : tIf t ta tb σ H Q := h
theorem x_eq {x y : V} (s : scal x y = true) (h : Q (.bl (decide (x = y))) H) : rEq x y H Q := ⟨s, h⟩
theorem x_ne {x y : V} (s : scal x y = true) (h : Q (.bl (!decide (x = y))) H) : rNe x y H Q := ⟨s, h⟩
theorem x_eqI {i j : Int} (h : Q (.bl (decide (i = j))) H) : rEq (.int i) (.int j) H Q := ⟨rfl, by
  have e : decide (V.int i = V.int j) = decide (i = j) := by
    by_cases q : i = j
    · subst q; simp
    · rw [decide_eq_false q, decide_eq_false fun z => q (V.int.inj z)]
  rw [e]; exact h⟩
theorem x_neI {i j : Int} (h : Q (.bl (!decide (i = j))) H) : rNe (.int i) (.int j) H Q := ⟨rfl, by
  have e : decide (V.int i = V.int j) = decide (i = j) := by
    by_cases q : i = j
    · subst q; simp
    · rw [decide_eq_false q, decide_eq_false fun z => q (V.int.inj z)]
  rw [e]; exact h⟩
theorem x_ixL {p : Addr} {xs : List V} {i : Int} {v : V} (s : H p = some (.lst xs)) (a : atI xs i = some v) (h : Q v H) : rIxL K (.ref p) (.int i) H Q := ⟨p, xs, i, v, rfl, rfl, sq_l s, a, h⟩
theorem x_ixLs {p : Addr} {xs : List V} {i : Int} {v : V} (s : SqL K H p xs) (a : atI xs i = some v) (h : Q v H) : rIxL K (.ref p) (.int i) H Q := ⟨p, xs, i, v, rfl, rfl, s, a, h⟩
theorem x_ixT {p : Addr} {xs : List V} {i : Int} {v : V} (s : H p = some (.tup xs)) (a : atI xs i = some v) (h : Q v H) : rIxT K (.ref p) (.int i) H Q := ⟨p, xs, i, v, rfl, rfl, sq_t s, a, h⟩
theorem x_nil {Qa : List V → Hp → Prop} (h : Qa [] H) : tNil σ H Qa := h
theorem x_cons {tr : TA} {Qa : List V → Hp → Prop} (h : ta σ H fun x H1 => tr σ H1 fun xs H2 => Qa (x :: xs) H2) : tCons ta tr σ H Qa := h
theorem x_cb {r : List V → Hp → VK → Prop} {tr : TA} (h : tr σ H fun vs H1 => r vs H1 Q) : tCB r tr σ H Q := h
theorem x_call {sp : Sp} {E : XK} {tr : TA} (h : tr σ H fun vs H1 => sp vs H1 Q E) : tCall sp [] E tr σ H Q := by
  have e : (fun (vs : List V) (H1 : Hp) => sp (vs ++ []) H1 Q E) = fun vs H1 => sp vs H1 Q E := by
    funext vs H1
    rw [List.append_nil]
  show tr σ H fun vs H1 => sp (vs ++ []) H1 Q E
  rw [e]
  exact h
theorem x_meth0 {C : Addr} {m : Str} {sp : Sp} {E : XK} (h : ta σ H fun x H1 => ∃ a dx fs, x = .ref a ∧ H1 a = some (.ins C dx fs) ∧ fs.lookup m = none ∧ sp [x] H1 Q E) : tMeth C m sp [] E ta tNil σ H Q := h
theorem x_meth {C : Addr} {m : Str} {sp : Sp} {E : XK} {tr : TA} (h : ta σ H fun x H1 => ∃ a dx fs, x = .ref a ∧ H1 a = some (.ins C dx fs) ∧ fs.lookup m = none ∧ tr σ H1 fun vs H2 => sp (x :: vs) H2 Q E) : tMeth C m sp [] E ta tr σ H Q := by
  have e : (fun (x : V) (vs : List V) (H1 : Hp) => sp (x :: (vs ++ [])) H1 Q E) = fun x vs H1 => sp (x :: vs) H1 Q E := by
    funext x vs H1
    rw [List.append_nil]
  show ta σ H fun x H1 => ∃ a dx fs, x = .ref a ∧ H1 a = some (.ins C dx fs) ∧ fs.lookup m = none ∧ tr σ H1 fun vs H2 => (fun (x : V) (vs : List V) (H1 : Hp) => sp (x :: (vs ++ [])) H1 Q E) x vs H2
  rw [e]
  exact h
theorem x_make {C : Addr} {sp : Sp} {E : XK} {tr : TA} (h : tr σ H fun vs H1 => ∀ x dx, H1 x = none → H1 dx = none → dx ≠ x → sp (.ref x :: vs) (upd (upd H1 dx (.own x)) x (.ins C dx [])) (fun v H2 => v = .non ∧ Q (.ref x) H2) E) : tMake C sp [] E tr σ H Q := by
  have e : (fun (vs : List V) (H1 : Hp) => ∀ x dx, H1 x = none → H1 dx = none → dx ≠ x → sp (.ref x :: (vs ++ [])) (upd (upd H1 dx (.own x)) x (.ins C dx [])) (fun v H2 => v = .non ∧ Q (.ref x) H2) E) =
      fun vs H1 => ∀ x dx, H1 x = none → H1 dx = none → dx ≠ x → sp (.ref x :: vs) (upd (upd H1 dx (.own x)) x (.ins C dx [])) (fun v H2 => v = .non ∧ Q (.ref x) H2) E := by
    funext vs H1
    rw [List.append_nil]
  show tr σ H (fun (vs : List V) (H1 : Hp) => ∀ x dx, H1 x = none → H1 dx = none → dx ≠ x → sp (.ref x :: (vs ++ [])) (upd (upd H1 dx (.own x)) x (.ins C dx [])) (fun v H2 => v = .non ∧ Q (.ref x) H2) E)
  rw [e]
  exact h
theorem x_ins {C : Addr} {m : Str} {P : Prop} {a dx : Addr} {fs : List (Str × V)} (h : H a = some (.ins C dx fs)) (l : fs.lookup m = none) (k : P) : ∃ a' dx' fs', V.ref a = .ref a' ∧ H a' = some (.ins C dx' fs') ∧ fs'.lookup m = none ∧ P := ⟨a, dx, fs, rfl, h, l, k⟩
theorem x_prop {C : Addr} {sp : Sp} {E : XK} (h : te σ H fun x H1 => ∃ a dx fs, x = .ref a ∧ H1 a = some (.ins C dx fs) ∧ sp [.ref a] H1 Q E) : tProp C sp [] E te σ H Q := h
theorem x_inp {C : Addr} {sp : Sp} {E : XK} {a dx : Addr} {fs : List (Str × V)} (h : H a = some (.ins C dx fs)) (k : sp [.ref a] H Q E) : ∃ a' dx' fs', V.ref a = .ref a' ∧ H a' = some (.ins C dx' fs') ∧ sp [.ref a'] H Q E := ⟨a, dx, fs, rfl, h, k⟩
theorem x_tup {tr : TA} (h : tr σ H fun xs H1 => xs.length ≤ sizeLine ∧ ∀ p, H1 p = none → Q (.ref p) (upd H1 p (.tup xs))) : tTup tr σ H Q := h
theorem x_lst {tr : TA} (h : tr σ H fun xs H1 => xs.length ≤ sizeLine ∧ ∀ p, H1 p = none → Q (.ref p) (upd H1 p (.lst xs))) : tLst tr σ H Q := h
theorem x_bm {T : String} {r : V → List V → Hp → VK → Prop} {tr : TA} (h : ta σ H fun x H1 => tyV K T x H1 ∧ tr σ H1 fun xs H2 => r x xs H2 Q) : tBM K T r ta tr σ H Q := h
theorem x_bm0 {T : String} {r : V → List V → Hp → VK → Prop} (h : ta σ H fun x H1 => tyV K T x H1 ∧ r x [] H1 Q) : tBM0 K T r ta σ H Q := h
theorem x_tyL {p : Addr} {xs : List V} {P : Prop} (s : H p = some (.lst xs)) (h : P) : tyV K "list" (.ref p) H ∧ P := ⟨.inl ⟨rfl, _, sq_l s⟩, h⟩
theorem x_append {p : Addr} {xs : List V} {v : V} (s : H p = some (.lst xs)) (l : xs.length < sizeLine) (h : Q .non (upd H p (.lst (xs ++ [v])))) : rAppend (.ref p) [v] H Q := ⟨p, xs, v, rfl, rfl, s, l, h⟩
theorem x_setL {p : Addr} {xs : List V} {k : Int} {v : V} {Qh : Hp → Prop} (s : H p = some (.lst xs)) (a : 0 ≤ k) (l : k < xs.length) (h : Qh (upd H p (.lst (xs.set k.toNat v)))) : rSetL (.ref p) (.int k) v H Qh :=
  ⟨p, xs, k, k.toNat, rfl, rfl, s, by unfold ixN; rw [if_pos a, if_pos l], h⟩
theorem x_sub {to ti : TE} {tset : TSet} {v : V} {Qs : St → Hp → Prop} (h : to σ H fun o H1 => ti σ H1 fun i H2 => tset o i v H2 fun H3 => Qs σ H3) : gSub to ti tset v σ H Qs := h
theorem x_gTup {nn : Nat} {g : TGs} {p : Addr} {xs : List V} {Qs : St → Hp → Prop} (s : H p = some (.tup xs)) (l : xs.length = nn) (h : g xs σ H Qs) : gTup K nn g (.ref p) σ H Qs := ⟨p, xs, rfl, sq_t s, l, h⟩
theorem x_gCons {g : TG} {gs : TGs} {v : V} {vs : List V} {Qs : St → Hp → Prop} (h : g v σ H fun σ' H' => gs vs σ' H' Qs) : gCons g gs (v :: vs) σ H Qs := ⟨v, vs, rfl, h⟩
theorem x_gNil {Qs : St → Hp → Prop} (h : Qs σ H) : gNil [] σ H Qs := ⟨rfl, h⟩
theorem x_augI {i : Nat} {f : Int → Int → Int} {a : Int} (e : σ[i]? = some (some (.int a))) (h : te σ H fun y H1 => ∃ b, y = .int b ∧ n (σ.set i (some (.int (f a b)))) H1) : tAug i te (ipI f) ⟨n, rt, bk, ct⟩ σ H := ⟨.int a, e, by
  have w : ∀ (y : V) (H1 : Hp), (∃ b, y = .int b ∧ n (σ.set i (some (.int (f a b)))) H1) → ipI f (.int a) y H1 fun z H2 => n (σ.set i (some z)) H2 := fun y H1 ⟨b, e1, q⟩ => ⟨a, b, rfl, e1, q⟩
  have e : (fun (y : V) (H1 : Hp) => ∃ b, y = .int b ∧ n (σ.set i (some (.int (f a b)))) H1) = fun y H1 => ipI f (.int a) y H1 fun z H2 => n (σ.set i (some z)) H2 := by
    funext y H1
    exact propext ⟨w y H1, fun ⟨i1, j1, e1, e2, q⟩ => ⟨j1, e2, by cases e1; exact q⟩⟩
  show te σ H fun y H1 => ipI f (.int a) y H1 fun z H2 => n (σ.set i (some z)) H2
  rw [← e]
  exact h⟩
theorem x_int {i : Int} {P : Int → Prop} (h : P i) : ∃ b, V.int i = .int b ∧ P b := ⟨i, rfl, h⟩
theorem x_it {p : Prop} {_d : Decidable p} {A B : Prop} (c : p) (h : A) : if decide p = true then A else B := by rw [decide_eq_true c]; exact h
theorem x_if0 {p : Prop} {_d : Decidable p} {A B : Prop} (c : ¬ p) (h : B) : if decide p = true then A else B := by rw [decide_eq_false c]; exact h
theorem x_ite {p : Prop} {_d : Decidable p} {A B : Prop} (h1 : p → A) (h2 : ¬ p → B) : if decide p = true then A else B := by
  by_cases q : p
  · rw [decide_eq_true q]; exact h1 q
  · rw [decide_eq_false q]; exact h2 q
theorem x_iten {p : Prop} {_d : Decidable p} {A B : Prop} (h1 : ¬ p → A) (h2 : p → B) : if (!decide p) = true then A else B := by
  by_cases q : p
  · rw [decide_eq_true q]; exact h2 q
  · rw [decide_eq_false q]; exact h1 q
theorem x_itb {z : Bool} {A B : Prop} (h1 : z = true → A) (h2 : z = false → B) : if z = true then A else B := by
  cases z
  · exact h2 rfl
  · exact h1 rfl
theorem x_itn0 {p : Prop} {_d : Decidable p} {A B : Prop} (c : p) (h : B) : if (!decide p) = true then A else B := by rw [decide_eq_true c]; exact h
theorem x_itn1 {p : Prop} {_d : Decidable p} {A B : Prop} (c : ¬ p) (h : A) : if (!decide p) = true then A else B := by rw [decide_eq_false c]; exact h
theorem x_cut (Mid : St → Hp → Prop) (h : ts ⟨Mid, rt, bk, ct⟩ σ H) (k : ∀ σ' H', Mid σ' H' → us ⟨n, rt, bk, ct⟩ σ' H') : Evl.tCut ts us ⟨n, rt, bk, ct⟩ σ H := ⟨Mid, h, k⟩
theorem x_nT {A B : Prop} (h : B) : if (!true) = true then A else B := h
theorem x_nF {A B : Prop} (h : A) : if (!false) = true then A else B := h
theorem x_T {A B : Prop} (h : A) : if true = true then A else B := h
theorem x_F {A B : Prop} (h : B) : if false = true then A else B := h
theorem x_intI {i : Int} {C : Prop} (h : Q (.int i) H) : (∃ j, [V.int i] = [.int j] ∧ Q (.int j) H) ∨ C := .inl ⟨i, rfl, h⟩
end
section
variable {σ : St} {H : Hp} {ta : TE} {Q : VK}
theorem x_tRg1 {Qr : Int → Int → Hp → Prop} (h : ta σ H fun x H1 => ∃ n, x = .int n ∧ Qr 0 n H1) : tRg1 ta σ H Qr := h
theorem x_rgN {N : Int} {Qr : Int → Prop} (h : Qr N) : ∃ n, V.int N = .int n ∧ Qr n := ⟨N, rfl, h⟩
theorem x_rgOk {N : Int} {A : Prop} (a : 0 ≤ N) (b : N ≤ 100000) (h : A) : RgOk 0 N ∧ A := ⟨RgOk.of_le (by decide) (by omega) (by decide) a, h⟩
theorem x_lstRg {te : St → Hp → (Int → Int → Hp → Prop) → Prop} (h : te σ H fun a b H1 => RgOk a b ∧ ∀ q, H1 q = none → Q (.ref q) (upd H1 q (.lst (rgV a b)))) : tLstRg te σ H Q := h
end
theorem sz_ok {n : Nat} (h : n ≤ 100000) : n ≤ sizeLine := Nat.le_trans h (by decide)
theorem sz_lt {n : Nat} (h : n < 100000) : n < sizeLine := Nat.lt_of_lt_of_le h (by decide)
theorem mul_l {i j : Int} (h1 : -(2 ^ 64) < i) (h2 : i < 2 ^ 64) : CMul i j := .inl ⟨h1, h2⟩
theorem mul_r {i j : Int} (h1 : -(2 ^ 64) < j) (h2 : j < 2 ^ 64) : CMul i j := .inr ⟨h1, h2⟩

section
variable {H : Hp} {Q : VK} {g : Int → Int → V} {i j : Int}
theorem x_div (a : 0 < j) (b : j < 1073741824) (h : Q (g i j) H) : rI CDiv g (.int i) (.int j) H Q := x_I ⟨a, b⟩ h
theorem x_mod (a : 0 < j) (h : Q (g i j) H) : rI (fun _ j => 0 < j) g (.int i) (.int j) H Q := x_I a h
theorem x_mull (a : -(2 ^ 64) < i) (b : i < 2 ^ 64) (h : Q (g i j) H) : rI CMul g (.int i) (.int j) H Q := x_I (mul_l a b) h
theorem x_mulr (a : -(2 ^ 64) < j) (b : j < 2 ^ 64) (h : Q (g i j) H) : rI CMul g (.int i) (.int j) H Q := x_I (mul_r a b) h
theorem x_pow (a : 0 ≤ j) (b : j ≤ 1000000) (c : i.natAbs < 2 ^ 64) (h : Q (g i j) H) : rI CPow g (.int i) (.int j) H Q := x_I ⟨a, b, c⟩ h
theorem x_divW (a : 0 < j) (b : j.natAbs < 2 ^ 64) (h : Q (g i j) H) : rI CDivW g (.int i) (.int j) H Q := x_I (wide_div a b (by decide) (by decide)) h
end
/-! ### built-ins, their readings by name -/
def rInt : List V → Hp → VK → Prop := fun xs H Q => (∃ i, xs = [.int i] ∧ Q (.int i) H) ∨ ∃ k, xs = [.bl k] ∧ Q (.int (if k then 1 else 0)) H
def rLen (K : PySem.W.Frag) : List V → Hp → VK → Prop := fun xs H Q => ∃ p ys, xs = [.ref p] ∧ (SqL K H p ys ∨ SqT K H p ys) ∧ Q (.int ys.length) H
def rListOf (K : PySem.W.Frag) : List V → Hp → VK → Prop := fun xs H Q => ∃ p ys, xs = [.ref p] ∧ (SqL K H p ys ∨ SqT K H p ys) ∧ ∀ l, H l = none → Q (.ref l) (upd H l (.lst ys))
def rMax2 : List V → Hp → VK → Prop := fun xs H Q => ∃ i j, xs = [.int i, .int j] ∧ Q (.int (if j > i then j else i)) H
def rMin2 : List V → Hp → VK → Prop := fun xs H Q => ∃ i j, xs = [.int i, .int j] ∧ Q (.int (if j < i then j else i)) H
section
variable {X : Cx}
theorem cl_int : CallR X (.type "int") rInt := call_int1
theorem cl_max2 (hc : X.calm = true) : CallR X (.builtin "max") rMax2 := call_max2 hc
theorem cl_min2 (hc : X.calm = true) : CallR X (.builtin "min") rMin2 := call_min2 hc
end
section
variable {K : PySem.W.Frag} {H : Hp} {Q : VK}
theorem x_int_i {i : Int} (h : Q (.int i) H) : rInt [.int i] H Q := .inl ⟨i, rfl, h⟩
theorem x_int_b {b : Bool} (h : Q (.int (if b then 1 else 0)) H) : rInt [.bl b] H Q := .inr ⟨b, rfl, h⟩
theorem x_len {p : Addr} {ys : List V} (s : H p = some (.lst ys)) (h : Q (.int ys.length) H) : rLen K [.ref p] H Q := ⟨p, ys, rfl, .inl (sq_l s), h⟩
theorem x_lenT {p : Addr} {ys : List V} (s : H p = some (.tup ys)) (h : Q (.int ys.length) H) : rLen K [.ref p] H Q := ⟨p, ys, rfl, .inr (sq_t s), h⟩
theorem x_lenS {p : Addr} {ys : List V} (s : SqL K H p ys) (h : Q (.int ys.length) H) : rLen K [.ref p] H Q := ⟨p, ys, rfl, .inl s, h⟩
theorem x_listOf {p : Addr} {ys : List V} (s : H p = some (.lst ys)) (h : ∀ l, H l = none → Q (.ref l) (upd H l (.lst ys))) : rListOf K [.ref p] H Q := ⟨p, ys, rfl, .inl (sq_l s), h⟩
theorem x_max2 {i j : Int} (h : Q (.int (if j > i then j else i)) H) : rMax2 [.int i, .int j] H Q := ⟨i, j, rfl, h⟩
theorem x_min2 {i j : Int} (h : Q (.int (if j < i then j else i)) H) : rMin2 [.int i, .int j] H Q := ⟨i, j, rfl, h⟩
theorem x_sz {n : Nat} {A : Prop} (s : n ≤ 100000) (h : A) : n ≤ sizeLine ∧ A := ⟨sz_ok s, h⟩
theorem x_isi {x c : V} {t u : Value} {b : Bool} (k : ClsV c u) (ty : TyX K H x t) (e : PySem.W.kitOne K t u = some b) (h : Q (.bl b) H) : rIsi K [x, c] H Q := ⟨x, c, t, u, b, rfl, k, ty, e, h⟩
theorem x_ext {l b : Addr} {xs zs : List V} (s : H l = some (.lst xs)) (s2 : H b = some (.lst zs)) (z : xs.length + zs.length ≤ 100000) (h : Q .non (upd H l (.lst (xs ++ zs)))) : rExtend (.ref l) [.ref b] H Q := ⟨l, b, xs, zs, rfl, rfl, s, s2, sz_ok z, h⟩
theorem x_rev {l : Addr} {xs : List V} (s : H l = some (.lst xs)) (h : Q .non (upd H l (.lst xs.reverse))) : rReverse (.ref l) [] H Q := ⟨l, xs, rfl, rfl, s, h⟩
theorem x_popAt {l : Addr} {xs : List V} {k : Int} {y : V} (s : H l = some (.lst xs)) (z : xs.length ≤ 100000) (a : 0 ≤ k) (e : xs[k.toNat]? = some y) (h : Q y (upd H l (.lst (xs.eraseIdx k.toNat)))) : rPopAt (.ref l) [.int k] H Q := by
  have hk := (List.getElem?_eq_some_iff.mp e).1
  exact ⟨l, xs, k, k.toNat, y, rfl, rfl, s, by omega, by omega, PySem.seqIndex_of a (by omega), e, h⟩
end

/-! ### rules with the written part by name (within a block, too) -/
section
variable {X : Cx} (K : PySem.W.Frag) (hK : X.K = K := by rfl)
include hK
theorem cl_len : CallR X (.builtin "len") (rLen K) := by subst hK; exact call_len_seq
theorem cl_listOf : CallR X (.type "list") (rListOf K) := by subst hK; exact call_list_of
theorem cl_isi : CallR X (.builtin "isinstance") (rIsi K) := by subst hK; exact call_isi
theorem cl_sortedI : CallR X (.builtin "sorted") (rSortedI K) := by subst hK; exact cr_sortedI
theorem cl_sortedPO : CallR X (.builtin "sorted") (rSortedPO K) := by subst hK; exact cr_sortedPO
theorem ix_l : IxR X (rIxL K) := by subst hK; exact ix_list
theorem ix_t : IxR X (rIxT K) := by subst hK; exact ix_tup
theorem k_in : OpR X (compareOp .In) (rIn K false) := by subst hK; exact op_in_seq
theorem k_nin : OpR X (compareOp .NotIn) (rIn K true) := by subst hK; exact op_notIn_seq
theorem k_sll : SlR X (rSlL K) := by subst hK; exact sl_list
theorem k_slt : SlR X (rSlT K) := by subst hK; exact sl_tup
end
section
variable {X : Cx} (K : PySem.W.Frag)
theorem cl_all (hc : X.calm = true) (hK : X.K = K := by rfl) : CallR X (.builtin "all") (rAll K) := by subst hK; exact cr_all hc
theorem cl_any (hc : X.calm = true) (hK : X.K = K := by rfl) : CallR X (.builtin "any") (rAny K) := by subst hK; exact cr_any hc
theorem cl_sum (hc : X.calm = true) (hK : X.K = K := by rfl) : CallR X (.builtin "sum") (rSum K) := by subst hK; exact cr_sum hc
theorem cl_max (hc : X.calm = true) (hK : X.K = K := by rfl) : CallR X (.builtin "max") (rMax K) := by subst hK; exact cr_max hc
theorem cl_min (hc : X.calm = true) (hK : X.K = K := by rfl) : CallR X (.builtin "min") (rMin K) := by subst hK; exact cr_min hc
theorem k_eqD (hu : X.A.units + 64 < cLine) (hK : X.K = K := by rfl) : OpR X (compareOp .Eq) (rEqD K) := by subst hK; exact op_eqD hu
theorem k_neD (hu : X.A.units + 64 < cLine) (hK : X.K = K := by rfl) : OpR X (compareOp .NotEq) (rNeD K) := by subst hK; exact op_neD hu
theorem k_inD (hu : X.A.units + 65 < cLine) (hK : X.K = K := by rfl) : OpR X (compareOp .In) (rInD K) := by subst hK; exact op_inD hu
theorem k_ninD (hu : X.A.units + 65 < cLine) (hK : X.K = K := by rfl) : OpR X (compareOp .NotIn) (rNotInD K) := by subst hK; exact op_notInD hu
variable {e o value : Expr} {f : Str} {pos pos' apos cpos : Pos} {ta tv to te : TE}
theorem k_fld (he : PE X e ta) (hb : attributeBase e f X.env (eval e X.env) = eval e X.env) (hK : X.K = K := by rfl) : PE X (.Attribute e f pos) (tFld K ta f) := by subst hK; exact pe_fld he hb
theorem k_sfld (ha : PE X o ta) (hv : PE X value tv) (hs : swapsWith value (some (.Attribute o f pos')) pos.line X.env = pure false) (hK : X.K = K := by rfl) : PS X (.Assign [.Attribute o f pos'] value pos) (sFld K ta tv f) := by subst hK; exact ps_fld ha hv hs
theorem k_tup {es : List Expr} {k : Nat} {t : TGs} {n : Nat} (hc : X.calm = true) (h : PGs X es t)
    (hn : (assignEach es X.env).length = n := by rfl) (hst : (assignEach es X.env).findIdx? (·.1) = none := by rfl) (hK : X.K = K := by rfl) : PG X (.Tuple es k pos) (gTup K n t) := by subst hK; exact pg_tup hc h hn hst
theorem k_pil {tg l : Expr} {tl : TE} (hl : PE X l tl) (hK : X.K = K := by rfl) : PI X tg l (iList K tl) := by subst hK; exact pi_list hl
theorem k_pit {tg l : Expr} {tl : TE} (hl : PE X l tl) (hK : X.K = K := by rfl) : PI X tg l (iTup K tl) := by subst hK; exact pi_tup hl
theorem k_bm {T : String} {name : Str} {id : String} {r : V → List V → Hp → VK → Prop} {es : List Expr} {t : TA} (pa : PlainAttrs T) (slot : Slot T name id) (hty : typeOf (.builtin id) = pure (.type "method_descriptor")) (hm : MtR X id r) (ho : PE X o to) (ha : PA X (e :: es) t)
    (hbase : attributeBase o name X.env (eval o X.env) = eval o X.env := by rfl)
    (hfew : ((backTo cpos (starEach (e :: es) X.env)).all (fun x => !x.1) && (backToKw cpos (keywordEach [] X.env)).all (fun x => x.1.isSome)
      && decide ((e :: es).length + ([] : List Keyword).length + (if ([] : List Keyword).isEmpty then 0 else 1) < 30)) = true := by rfl)
    (hline : (apos.endLine == cpos.line) = true := by rfl) (hs : starEach (e :: es) X.env = (false, eval e X.env) :: starEach es X.env := by rfl) (hplain : (backTo cpos (starEach es X.env)).any (·.1) = false := by rfl) (hK : X.K = K := by rfl) :
    PE X (.Call (.Attribute o name apos) (e :: es) [] cpos) (tBM K T r to t) := by subst hK; exact pe_bm pa slot hty hm ho ha hbase hfew hline hs hplain
theorem k_bm0 {T : String} {name : Str} {id : String} {r : V → List V → Hp → VK → Prop} (pa : PlainAttrs T) (slot : Slot T name id) (hty : typeOf (.builtin id) = pure (.type "method_descriptor")) (hm : MtR X id r) (ho : PE X o to)
    (hbase : attributeBase o name X.env (eval o X.env) = eval o X.env := by rfl) (hline : (apos.endLine == cpos.line) = true := by rfl) (hK : X.K = K := by rfl) : PE X (.Call (.Attribute o name apos) [] [] cpos) (tBM0 K T r to) := by subst hK; exact pe_bm0 pa slot hty hm ho hbase hline
end
theorem hu65 {k : Nat} {A : Around} (hr : Room k A) : A.units + 65 < cLine := by
  have := hr.un
  omega

/-! ### calls by name, with what may leave -/
structure Cal (P : Program) (w : World) (K : PySem.W.Frag) (mg : Str → Option Value) (base : Heap) (CX : CXT) (k : Nat) (x : Str) (sp : Sp) : Prop where
  ex : ∃ (f : Addr) (fd : FuncData) (ps : List Str), FnOk P w K mg base CX k f fd ps sp ∧ mg x = some (.ref f) ∧ PySem.W.keepIn K (.ref f) = true ∧ Binds K fd ps []
theorem pe_cal {X : Cx} {CX : CXT} {k j : Nat} {x : Str} {sp : Sp} {E : XK} {e : Expr} {es : List Expr} {t : TA} {p pos : Pos} (c : Cal X.prog X.w X.K X.mg X.base CX k x sp) (hr : Room j X.A) (hk : k ≤ j) (hg : Gl X x) (hx : Passes CX X E) (ht : PA X (e :: es) t)
    (hdb : (x == ("__debug__" : Str)) = false := by decide) (he : starEach (e :: es) X.env = (false, eval e X.env) :: starEach es X.env := by rfl) (hpl : (backTo pos (starEach es X.env)).any (·.1) = false := by rfl) :
    PE X (.Call (.Name x p) (e :: es) [] pos) (tCall sp [] E t) := by
  obtain ⟨f, fd, ps, F, hm, kp, b⟩ := c.ex
  exact pe_call F (hr.mono hk) hg hm kp b .nil hx ht hdb he hpl
/-! ### loops, comprehensions: the questions by name -/
/-- a for over what J walks -/
def FW (J : It) (g : TG) (tb : TS) (D : Ends) (σ : St) (H1 : Hp) : Prop := ∃ W : Nat → Nat → St → Hp → Prop, (∃ m, W 0 m σ H1) ∧ ∀ i m σ H, W i m σ H →
  (J.stop i H ∧ D.nx σ H) ∨ (J.go i H ∧ ∃ N : St → Hp → Prop, (∀ σ' H', N σ' H' → ∃ m', m' < m ∧ W (i + 1) m' σ' H') ∧ ∀ x H', J.yld i H x H' → g x σ H' fun σ2 H2 => tb { D with nx := N, ct := N, bk := D.nx } σ2 H2)
/-- a comprehension over what J walks, its list at D -/
def LW (J : It) (D : Addr) (g : TG) (tt : TT) (te : TE) (vs : List Nat) (σ : St) (H1 : Hp) (Q : VK) : Prop := ∃ W : Nat → Nat → Hp → Prop, (∃ m, W 0 m (upd H1 D (.lst []))) ∧ ∀ i m H, W i m H →
  (J.stop i H ∧ Q (.ref D) H) ∨ (J.go i H ∧ ∃ Nx : Hp → Prop, (∀ H', Nx H' → ∃ m', m' < m ∧ W (i + 1) m' H') ∧ ∀ x H', J.yld i H x H' → g x (wipe σ vs) H' fun σ2 H2 => wipe σ2 vs = wipe σ vs ∧ tt σ2 H2 fun b H3 =>
    if b = true then te σ2 H3 fun y H4 => ∃ acc, H4 D = some (.lst acc) ∧ acc.length < sizeLine ∧ Nx (upd H4 D (.lst (acc ++ [y]))) else Nx H3)
def Rg1 (vs : List V) (H : Hp) (R : It → Hp → Prop) : Prop := ∃ j : Int, vs = [.int j] ∧ -(2 ^ 62) ≤ j ∧ j < 2 ^ 62 ∧ R (Itr 0 j.toNat) H
def Rg2 (vs : List V) (H : Hp) (R : It → Hp → Prop) : Prop := ∃ i j : Int, vs = [.int i, .int j] ∧ (-(2 ^ 62) ≤ i ∧ i < 2 ^ 62 ∧ -(2 ^ 62) ≤ j ∧ j < 2 ^ 62) ∧ R (Itr i (j - i).toNat) H
def Il (K : PySem.W.Frag) (x : V) (H : Hp) (R : It → Hp → Prop) : Prop := ∃ a, x = .ref a ∧ (∃ xs, SqL K H a xs) ∧ R (Itl K a) H
section
variable {K : PySem.W.Frag} {σ : St} {H : Hp} {ta : TA} {te tl : TE} {tt : TT} {wi : TI} {g : TG} {tb : TS} {Q : VK} {D : Ends} {R : It → Hp → Prop} {vs : List Nat}
theorem x_for {n : St → Hp → Prop} {rt : VK} {bk ct : St → Hp → Prop} (h : wi σ H fun J H1 => FW J g tb ⟨n, rt, bk, ct⟩ σ H1) : tFor wi g tb ⟨n, rt, bk, ct⟩ σ H := h
theorem x_lc (h : wi σ H fun J H1 => ∀ D, H1 D = none → LW J D g tt te vs σ H1 Q) : tLc wi g tt te vs σ H Q := h
theorem x_rg1 (h : ta σ H fun vs H1 => Rg1 vs H1 R) : iRng1 ta σ H R := h
theorem x_rg2 (h : ta σ H fun vs H1 => Rg2 vs H1 R) : iRng2 ta σ H R := h
theorem x_il (h : tl σ H fun x H1 => Il K x H1 R) : iList K tl σ H R := h
theorem x_r1 {j : Int} (a : -(2 ^ 62) ≤ j) (b : j < 2 ^ 62) (h : R (Itr 0 j.toNat) H) : Rg1 [.int j] H R := ⟨j, rfl, a, b, h⟩
theorem x_r2 {i j : Int} (a : -(2 ^ 62) ≤ i) (a' : i < 2 ^ 62) (b : -(2 ^ 62) ≤ j) (b' : j < 2 ^ 62) (h : R (Itr i (j - i).toNat) H) : Rg2 [.int i, .int j] H R := ⟨i, j, rfl, ⟨a, a', b, b'⟩, h⟩
theorem x_ill {a : Addr} {xs : List V} (s : H a = some (.lst xs)) (h : R (Itl K a) H) : Il K (.ref a) H R := ⟨a, rfl, ⟨xs, sq_l s⟩, h⟩
theorem x_ils {a : Addr} {xs : List V} (s : SqL K H a xs) (h : R (Itl K a) H) : Il K (.ref a) H R := ⟨a, rfl, ⟨xs, s⟩, h⟩
/-- for i in range: the invariant, its start, a turn, the end -/
theorem x_fwR {lo : Int} {n : Nat} {nx : St → Hp → Prop} {rt : VK} {bk ct : St → Hp → Prop} (Pv : Nat → St → Hp → Prop) (h0 : Pv 0 σ H)
    (hs : ∀ i σ H, i < n → Pv i σ H → g (.int (lo + (i : Int))) σ H fun σ2 H2 => tb ⟨Pv (i + 1), rt, nx, Pv (i + 1)⟩ σ2 H2) (hd : ∀ σ H, Pv n σ H → nx σ H) : FW (Itr lo n) g tb ⟨nx, rt, bk, ct⟩ σ H :=
  for_range (D := ⟨nx, rt, bk, ct⟩) Pv h0 hs hd
theorem x_fwL {a : Addr} {xs : List V} {nx : St → Hp → Prop} {rt : VK} {bk ct : St → Hp → Prop} (Pv : Nat → St → Hp → Prop) (h0 : Pv 0 σ H) (hl : ∀ i σ H, i ≤ xs.length → Pv i σ H → SqL K H a xs)
    (hs : ∀ i x σ H, xs[i]? = some x → Pv i σ H → g x σ H fun σ2 H2 => tb ⟨Pv (i + 1), rt, nx, Pv (i + 1)⟩ σ2 H2) (hd : ∀ σ H, Pv xs.length σ H → nx σ H) : FW (Itl K a) g tb ⟨nx, rt, bk, ct⟩ σ H :=
  for_list (D := ⟨nx, rt, bk, ct⟩) Pv h0 hl hs hd
/-- comprehensions -/
theorem x_lwR {lo : Int} {n : Nat} {Dl : Addr} (Pv : Nat → Hp → Prop) (h0 : Pv 0 (upd H Dl (.lst [])))
    (hs : ∀ i H, i < n → Pv i H → g (.int (lo + (i : Int))) (wipe σ vs) H fun σ2 H2 => wipe σ2 vs = wipe σ vs ∧ tt σ2 H2 fun b H3 =>
      if b = true then te σ2 H3 fun y H4 => ∃ acc, H4 Dl = some (.lst acc) ∧ acc.length < sizeLine ∧ Pv (i + 1) (upd H4 Dl (.lst (acc ++ [y]))) else Pv (i + 1) H3) (hd : ∀ H, Pv n H → Q (.ref Dl) H) :
    LW (Itr lo n) Dl g tt te vs σ H Q := lc_range (Qd := fun H => Q (.ref Dl) H) Pv h0 hs hd
theorem x_lwL {a : Addr} {xs : List V} {Dl : Addr} (Pv : Nat → Hp → Prop) (h0 : Pv 0 (upd H Dl (.lst []))) (hl : ∀ i H, i ≤ xs.length → Pv i H → SqL K H a xs)
    (hs : ∀ i x H, xs[i]? = some x → Pv i H → g x (wipe σ vs) H fun σ2 H2 => wipe σ2 vs = wipe σ vs ∧ tt σ2 H2 fun b H3 =>
      if b = true then te σ2 H3 fun y H4 => ∃ acc, H4 Dl = some (.lst acc) ∧ acc.length < sizeLine ∧ Pv (i + 1) (upd H4 Dl (.lst (acc ++ [y]))) else Pv (i + 1) H3) (hd : ∀ H, Pv xs.length H → Q (.ref Dl) H) :
    LW (Itl K a) Dl g tt te vs σ H Q := lc_list (Qd := fun H => Q (.ref Dl) H) Pv h0 hl hs hd
theorem x_fwR0 {n : Nat} {nx : St → Hp → Prop} {rt : VK} {bk ct : St → Hp → Prop} (Pv : Nat → St → Hp → Prop) (h0 : Pv 0 σ H)
    (hs : ∀ i σ H, i < n → Pv i σ H → g (.int (i : Int)) σ H fun σ2 H2 => tb ⟨Pv (i + 1), rt, nx, Pv (i + 1)⟩ σ2 H2) (hd : ∀ σ H, Pv n σ H → nx σ H) : FW (Itr 0 n) g tb ⟨nx, rt, bk, ct⟩ σ H :=
  x_fwR Pv h0 (fun i σ H hi p => by rw [Int.zero_add]; exact hs i σ H hi p) hd
theorem x_lwR0 {n : Nat} {Dl : Addr} (Pv : Nat → Hp → Prop) (h0 : Pv 0 (upd H Dl (.lst [])))
    (hs : ∀ i H, i < n → Pv i H → g (.int (i : Int)) (wipe σ vs) H fun σ2 H2 => wipe σ2 vs = wipe σ vs ∧ tt σ2 H2 fun b H3 =>
      if b = true then te σ2 H3 fun y H4 => ∃ acc, H4 Dl = some (.lst acc) ∧ acc.length < sizeLine ∧ Pv (i + 1) (upd H4 Dl (.lst (acc ++ [y]))) else Pv (i + 1) H3) (hd : ∀ H, Pv n H → Q (.ref Dl) H) :
    LW (Itr 0 n) Dl g tt te vs σ H Q := x_lwR Pv h0 (fun i H hi p => by rw [Int.zero_add]; exact hs i H hi p) hd
theorem x_while {c : TT} {nx : St → Hp → Prop} {rt : VK} {bk ct : St → Hp → Prop} (W : Nat → St → Hp → Prop) (m0 : Nat) (h0 : W m0 σ H)
    (hs : ∀ m σ H, W m σ H → c σ H fun b H1 => if b = true then ∃ N : St → Hp → Prop, (∀ σ' H', N σ' H' → ∃ m', m' < m ∧ W m' σ' H') ∧ tb ⟨N, rt, nx, N⟩ σ H1 else nx σ H1) : tWhile c tb ⟨nx, rt, bk, ct⟩ σ H := ⟨W, ⟨m0, h0⟩, hs⟩
theorem x_wgo {nx : St → Hp → Prop} {rt : VK} {W : Nat → St → Hp → Prop} {m : Nat} (h : tb ⟨fun σ' H' => ∃ m', m' < m ∧ W m' σ' H', rt, nx, fun σ' H' => ∃ m', m' < m ∧ W m' σ' H'⟩ σ H) :
    ∃ N : St → Hp → Prop, (∀ σ' H', N σ' H' → ∃ m', m' < m ∧ W m' σ' H') ∧ tb ⟨N, rt, nx, N⟩ σ H := ⟨_, fun _ _ h => h, h⟩
theorem x_yes {Qb : Bool → Hp → Prop} (h : Qb true H) : tYes σ H Qb := h
theorem x_wipe {σ2 σ1 : St} {A : Prop} (e : σ2 = σ1) (h : A) : σ2 = σ1 ∧ A := ⟨e, h⟩
theorem x_acc {Dl : Addr} {acc : List V} {P : Hp → Prop} {y : V} (s : H Dl = some (.lst acc)) (z : acc.length < 100000) (h : P (upd H Dl (.lst (acc ++ [y])))) :
    ∃ acc, H Dl = some (.lst acc) ∧ acc.length < sizeLine ∧ P (upd H Dl (.lst (acc ++ [y]))) := ⟨acc, s, sz_lt z, h⟩
end

/-- a comprehension of two fors, its list at D; the inner walk -/
def LI (J1 : It) (D : Addr) (Nx : Hp → Prop) (g1 : TG) (tt1 : TT) (te : TE) (vs1 : List Nat) (σ2 : St) (H4 : Hp) : Prop := ∃ W1 : Nat → Nat → Hp → Prop, (∃ m, W1 0 m H4) ∧ ∀ j k H, W1 j k H →
      (J1.stop j H ∧ Nx H) ∨ (J1.go j H ∧ ∃ Nx1 : Hp → Prop, (∀ H', Nx1 H' → ∃ k', k' < k ∧ W1 (j + 1) k' H') ∧ ∀ x H', J1.yld j H x H' → g1 x (wipe σ2 vs1) H' fun σ3 H5 => wipe σ3 vs1 = wipe σ2 vs1 ∧ tt1 σ3 H5 fun b H6 =>
        if b = true then te σ3 H6 fun y H7 => ∃ acc, H7 D = some (.lst acc) ∧ acc.length < sizeLine ∧ Nx1 (upd H7 D (.lst (acc ++ [y]))) else Nx1 H6)
def LW2 (J : It) (D : Addr) (g : TG) (tt : TT) (wi1 : TI) (g1 : TG) (tt1 : TT) (te : TE) (vs vs1 : List Nat) (σ : St) (H1 : Hp) (Q : VK) : Prop := ∃ W : Nat → Nat → Hp → Prop, (∃ m, W 0 m (upd H1 D (.lst []))) ∧ ∀ i m H, W i m H →
  (J.stop i H ∧ Q (.ref D) H) ∨ (J.go i H ∧ ∃ Nx : Hp → Prop, (∀ H', Nx H' → ∃ m', m' < m ∧ W (i + 1) m' H') ∧ ∀ x H', J.yld i H x H' → g x (wipe σ vs) H' fun σ2 H2 => wipe σ2 vs = wipe σ vs ∧ tt σ2 H2 fun b H3 =>
    if b = true then wi1 σ2 H3 fun J1 H4 => LI J1 D Nx g1 tt1 te vs1 σ2 H4 else Nx H3)
theorem x_lc2 {σ : St} {H : Hp} {wi wi1 : TI} {g g1 : TG} {tt tt1 : TT} {te : TE} {vs vs1 : List Nat} {Q : VK} (h : wi σ H fun J H1 => ∀ D, H1 D = none → LW2 J D g tt wi1 g1 tt1 te vs vs1 σ H1 Q) : tLc2 wi g tt wi1 g1 tt1 te vs vs1 σ H Q := h
section
variable {K : PySem.W.Frag} {σ σ2 : St} {H1 H4 : Hp} {wi1 : TI} {g g1 : TG} {tt tt1 : TT} {te : TE} {vs vs1 : List Nat} {Q : VK} {D : Addr} {Nx : Hp → Prop}
theorem x_lw2R {lo : Int} {n : Nat} (Pv : Nat → Hp → Prop) (h0 : Pv 0 (upd H1 D (.lst [])))
    (hs : ∀ i H, i < n → Pv i H → g (.int (lo + (i : Int))) (wipe σ vs) H fun σ2 H2 => wipe σ2 vs = wipe σ vs ∧ tt σ2 H2 fun b H3 => if b = true then wi1 σ2 H3 fun J1 H4 => LI J1 D (Pv (i + 1)) g1 tt1 te vs1 σ2 H4 else Pv (i + 1) H3)
    (hd : ∀ H, Pv n H → Q (.ref D) H) : LW2 (Itr lo n) D g tt wi1 g1 tt1 te vs vs1 σ H1 Q := by
  refine ⟨fun i m H => m = n - i ∧ i ≤ n ∧ Pv i H, ⟨n, by simp, Nat.zero_le _, h0⟩, ?_⟩
  rintro i m H ⟨rfl, hi, p⟩
  by_cases hlt : i < n
  · refine .inr ⟨hlt, Pv (i + 1), fun H' p' => ⟨n - (i + 1), by omega, rfl, hlt, p'⟩, fun x H' y => ?_⟩
    obtain ⟨e, y⟩ := y
    subst e y
    exact hs i _ hlt p
  · have e : i = n := by omega
    subst e
    exact .inl ⟨Nat.le_refl _, hd _ p⟩
theorem x_lw2L {a : Addr} {xs : List V} (Pv : Nat → Hp → Prop) (h0 : Pv 0 (upd H1 D (.lst []))) (hl : ∀ i H, i ≤ xs.length → Pv i H → SqL K H a xs)
    (hs : ∀ i x H, xs[i]? = some x → Pv i H → g x (wipe σ vs) H fun σ2 H2 => wipe σ2 vs = wipe σ vs ∧ tt σ2 H2 fun b H3 => if b = true then wi1 σ2 H3 fun J1 H4 => LI J1 D (Pv (i + 1)) g1 tt1 te vs1 σ2 H4 else Pv (i + 1) H3)
    (hd : ∀ H, Pv xs.length H → Q (.ref D) H) : LW2 (Itl K a) D g tt wi1 g1 tt1 te vs vs1 σ H1 Q := by
  refine ⟨fun i m H => m = xs.length - i ∧ i ≤ xs.length ∧ Pv i H, ⟨xs.length, by simp, Nat.zero_le _, h0⟩, ?_⟩
  rintro i m H ⟨rfl, hi, p⟩
  have q := hl i H hi p
  by_cases hlt : i < xs.length
  · refine .inr ⟨⟨xs, xs[i], q, by simp [hlt]⟩, Pv (i + 1), fun H' p' => ⟨xs.length - (i + 1), by omega, rfl, hlt, p'⟩, fun x H' y => ?_⟩
    obtain ⟨e, y⟩ := y
    subst e
    exact hs i x _ (y xs q) p
  · have e : i = xs.length := by omega
    subst e
    exact .inl ⟨⟨xs, q, by omega⟩, hd _ p⟩
theorem x_liR {lo : Int} {n : Nat} (Pv : Nat → Hp → Prop) (h0 : Pv 0 H4)
    (hs : ∀ i H, i < n → Pv i H → g1 (.int (lo + (i : Int))) (wipe σ2 vs1) H fun σ3 H5 => wipe σ3 vs1 = wipe σ2 vs1 ∧ tt1 σ3 H5 fun b H6 =>
      if b = true then te σ3 H6 fun y H7 => ∃ acc, H7 D = some (.lst acc) ∧ acc.length < sizeLine ∧ Pv (i + 1) (upd H7 D (.lst (acc ++ [y]))) else Pv (i + 1) H6) (hd : ∀ H, Pv n H → Nx H) :
    LI (Itr lo n) D Nx g1 tt1 te vs1 σ2 H4 := by
  refine ⟨fun i m H => m = n - i ∧ i ≤ n ∧ Pv i H, ⟨n, by simp, Nat.zero_le _, h0⟩, ?_⟩
  rintro i m H ⟨rfl, hi, p⟩
  by_cases hlt : i < n
  · refine .inr ⟨hlt, Pv (i + 1), fun H' p' => ⟨n - (i + 1), by omega, rfl, hlt, p'⟩, fun x H' y => ?_⟩
    obtain ⟨e, y⟩ := y
    subst e y
    exact hs i _ hlt p
  · have e : i = n := by omega
    subst e
    exact .inl ⟨Nat.le_refl _, hd _ p⟩
theorem x_liL {a : Addr} {xs : List V} (Pv : Nat → Hp → Prop) (h0 : Pv 0 H4) (hl : ∀ i H, i ≤ xs.length → Pv i H → SqL K H a xs)
    (hs : ∀ i x H, xs[i]? = some x → Pv i H → g1 x (wipe σ2 vs1) H fun σ3 H5 => wipe σ3 vs1 = wipe σ2 vs1 ∧ tt1 σ3 H5 fun b H6 =>
      if b = true then te σ3 H6 fun y H7 => ∃ acc, H7 D = some (.lst acc) ∧ acc.length < sizeLine ∧ Pv (i + 1) (upd H7 D (.lst (acc ++ [y]))) else Pv (i + 1) H6) (hd : ∀ H, Pv xs.length H → Nx H) :
    LI (Itl K a) D Nx g1 tt1 te vs1 σ2 H4 := by
  refine ⟨fun i m H => m = xs.length - i ∧ i ≤ xs.length ∧ Pv i H, ⟨xs.length, by simp, Nat.zero_le _, h0⟩, ?_⟩
  rintro i m H ⟨rfl, hi, p⟩
  have q := hl i H hi p
  by_cases hlt : i < xs.length
  · refine .inr ⟨⟨xs, xs[i], q, by simp [hlt]⟩, Pv (i + 1), fun H' p' => ⟨xs.length - (i + 1), by omega, rfl, hlt, p'⟩, fun x H' y => ?_⟩
    obtain ⟨e, y⟩ := y
    subst e
    exact hs i x _ (y xs q) p
  · have e : i = xs.length := by omega
    subst e
    exact .inl ⟨⟨xs, q, by omega⟩, hd _ p⟩
theorem x_lw2R0 {n : Nat} (Pv : Nat → Hp → Prop) (h0 : Pv 0 (upd H1 D (.lst [])))
    (hs : ∀ i H, i < n → Pv i H → g (.int (i : Int)) (wipe σ vs) H fun σ2 H2 => wipe σ2 vs = wipe σ vs ∧ tt σ2 H2 fun b H3 => if b = true then wi1 σ2 H3 fun J1 H4 => LI J1 D (Pv (i + 1)) g1 tt1 te vs1 σ2 H4 else Pv (i + 1) H3)
    (hd : ∀ H, Pv n H → Q (.ref D) H) : LW2 (Itr 0 n) D g tt wi1 g1 tt1 te vs vs1 σ H1 Q := x_lw2R Pv h0 (fun i H hi p => by rw [Int.zero_add]; exact hs i H hi p) hd
theorem x_liR0 {n : Nat} (Pv : Nat → Hp → Prop) (h0 : Pv 0 H4)
    (hs : ∀ i H, i < n → Pv i H → g1 (.int (i : Int)) (wipe σ2 vs1) H fun σ3 H5 => wipe σ3 vs1 = wipe σ2 vs1 ∧ tt1 σ3 H5 fun b H6 =>
      if b = true then te σ3 H6 fun y H7 => ∃ acc, H7 D = some (.lst acc) ∧ acc.length < sizeLine ∧ Pv (i + 1) (upd H7 D (.lst (acc ++ [y]))) else Pv (i + 1) H6) (hd : ∀ H, Pv n H → Nx H) :
    LI (Itr 0 n) D Nx g1 tt1 te vs1 σ2 H4 := x_liR Pv h0 (fun i H hi p => by rw [Int.zero_add]; exact hs i H hi p) hd
end

/-! ### instances -/
structure Own (K : PySem.W.Frag) (mg : Str → Option Value) (nm : Str) (C : Addr) : Prop where
  cl : Cls K C
  mgC : mg nm = some (.ref C)
  makes : PySem.W.makesIn K C = true
  kp : PySem.W.keepIn K (.ref C) = true
section
variable {K : PySem.W.Frag} {σ : St} {H : Hp} {te ta : TE} {Q : VK}
theorem x_fld {a C dx : Addr} {fs : List (Str × V)} {f : Str} {v : V} {P : V → Prop} (h : H a = some (.ins C dx fs)) (c : Cls K C) (n : NoAttr K C f) (l : fs.lookup f = some v) (k : P v) :
    ∃ a' C' dx' fs' v', V.ref a = .ref a' ∧ H a' = some (.ins C' dx' fs') ∧ Cls K C' ∧ NoAttr K C' f ∧ fs'.lookup f = some v' ∧ P v' := ⟨a, C, dx, fs, v, rfl, h, c, n, l, k⟩
theorem x_tfld {f : Str} (h : te σ H fun x H1 => ∃ a C dx fs v, x = .ref a ∧ H1 a = some (.ins C dx fs) ∧ Cls K C ∧ NoAttr K C f ∧ fs.lookup f = some v ∧ Q v H1) : tFld K te f σ H Q := h
end
section
variable {K : PySem.W.Frag} {σ : St} {H : Hp} {tv ta : TE} {n : St → Hp → Prop} {rt : VK} {bk ct : St → Hp → Prop} {f : Str}
theorem x_sfld (h : tv σ H fun y H1 => ta σ H1 fun x H2 => ∃ a C dx fs, x = .ref a ∧ H2 a = some (.ins C dx fs) ∧ Cls K C ∧ NoAttr K C f ∧ fs.length < 1000 ∧ n σ (upd H2 a (.ins C dx (putF f y fs)))) : sFld K ta tv f ⟨n, rt, bk, ct⟩ σ H := h
theorem x_sfl {a C dx : Addr} {fs : List (Str × V)} {P : Addr → Addr → Addr → List (Str × V) → Prop} (h : H a = some (.ins C dx fs)) (c : Cls K C) (nA : NoAttr K C f) (l : fs.length < 1000) (k : P a C dx fs) :
    ∃ a' C' dx' fs', V.ref a = .ref a' ∧ H a' = some (.ins C' dx' fs') ∧ Cls K C' ∧ NoAttr K C' f ∧ fs'.length < 1000 ∧ P a' C' dx' fs' := ⟨a, C, dx, fs, rfl, h, c, nA, l, k⟩
theorem x_sortedI {p : Addr} {ns : List Int} {Q : VK} (h : H p = some (.lst (ns.map V.int))) (k : ∀ (ns' : List Int) (q : Addr), ns'.Perm ns → ns'.Pairwise (· ≤ ·) → H q = none → Q (.ref q) (upd H q (.lst (ns'.map V.int)))) : rSortedI K [.ref p] H Q :=
  ⟨p, ns, rfl, sq_l h, k⟩
theorem x_in {p : Addr} {x : V} {xs : List V} {Q : VK} (h : H p = some (.lst xs)) (fx : flatV x = true) (fs : xs.all flatV = true) (k : Q (.bl (inV x xs)) H) : rIn K false x (.ref p) H Q := ⟨p, xs, rfl, .inl (sq_l h), fx, fs, k⟩
theorem x_nin {p : Addr} {x : V} {xs : List V} {Q : VK} (h : H p = some (.lst xs)) (fx : flatV x = true) (fs : xs.all flatV = true) (k : Q (.bl (!inV x xs)) H) : rIn K true x (.ref p) H Q := ⟨p, xs, rfl, .inl (sq_l h), fx, fs, k⟩
end
theorem x_all {K : PySem.W.Frag} {H : Hp} {p : Addr} {bs : List Bool} {b : Bool} {Q : VK} (h : H p = some (.lst (bs.map V.bl))) (e : bs.all id = b) (k : Q (.bl b) H) : rAll K [.ref p] H Q := ⟨p, bs, rfl, sq_l h, by rw [e]; exact k⟩
theorem x_any {K : PySem.W.Frag} {H : Hp} {p : Addr} {bs : List Bool} {b : Bool} {Q : VK} (h : H p = some (.lst (bs.map V.bl))) (e : bs.any id = b) (k : Q (.bl b) H) : rAny K [.ref p] H Q := ⟨p, bs, rfl, sq_l h, by rw [e]; exact k⟩
/-! ### dicts of ints -/
section
variable {σ : St} {H : Hp} {ty td tv : TE} {Q : VK} {n : St → Hp → Prop} {rt : VK} {bk ct : St → Hp → Prop}
theorem x_dnew (h : ∀ p, H p = none → Q (.ref p) (upd H p (.dK []))) : tDNewK σ H Q := h
theorem x_din (h : ty σ H fun y H1 => td σ H1 fun x H2 => ∃ a o, x = .ref a ∧ DGet H2 a y o ∧ Q (.bl o.isSome) H2) : tDIn ty td σ H Q := h
theorem x_dnin (h : ty σ H fun y H1 => td σ H1 fun x H2 => ∃ a o, x = .ref a ∧ DGet H2 a y o ∧ Q (.bl (!o.isSome)) H2) : tDNotIn ty td σ H Q := h
theorem x_dput (h : tv σ H fun v H1 => td σ H1 fun x H2 => ty σ H2 fun y H3 => ∃ a H4, x = .ref a ∧ DPut H3 a y v H4 ∧ n σ H4) : sDPut td ty tv ⟨n, rt, bk, ct⟩ σ H := h
/-- the dict of the ints of S, each with the value f gives -/
def sD (S : List (Int × V)) : List (Key × V) := S.map fun p => (Sum.inl p.1, p.2)
theorem sD_val (S : List (Int × V)) (k : Int) : valV (sD S) (Sum.inl k : Key) = (S.find? fun p => decide (p.1 = k)).map (·.2) := by
  induction S with
  | nil => rfl
  | cons p r ih =>
    show valV ((Sum.inl p.1, p.2) :: sD r) (Sum.inl k) = _
    by_cases e : p.1 = k
    · rw [valV_pos (by rw [e]), List.find?_cons_of_pos (by simpa using e)]
      rfl
    · rw [valV_neg (fun z => e (Sum.inl.inj z)), List.find?_cons_of_neg (by simpa using e), ih]
theorem x_dgetI {d : Addr} {k : Int} {kvs : List (Key × V)} {P : Option V → Prop} (h : H d = some (.dK kvs)) (p : P (valV kvs (Sum.inl k : Key))) : ∃ a o, V.ref d = .ref a ∧ DGet H a (.int k) o ∧ P o := ⟨d, _, rfl, DGet.k (k := Sum.inl k) h, p⟩
theorem x_dputI {d : Addr} {k : Int} {kvs : List (Key × V)} {v : V} {P : Hp → Prop} (h : H d = some (.dK kvs)) (z : kvs.length < 100000) (p : P (upd H d (.dK (putK kvs (Sum.inl k : Key) v)))) : ∃ a H4, V.ref d = .ref a ∧ DPut H a (.int k) v H4 ∧ P H4 :=
  ⟨d, _, rfl, DPut.k (k := Sum.inl k) h (sz_lt z), p⟩
end
/-- a method -/
structure MetAt (K : PySem.W.Frag) (C : Addr) (m qual : Str) (st : Stmt) (ps : List Str) : Prop where
  ex : ∃ (f : Addr) (fd : FuncData), Fun K m qual st f fd ∧ PySem.W.findIn K (.ref C) m = some (some (.ref f)) ∧ PySem.W.isFn K (.ref f) = true ∧ Binds K fd ps []
structure Met (P : Program) (w : World) (K : PySem.W.Frag) (mg : Str → Option Value) (base : Heap) (CX : CXT) (k : Nat) (C : Addr) (m : Str) (sp : Sp) : Prop where
  ex : ∃ (f : Addr) (fd : FuncData) (ps : List Str), FnOk P w K mg base CX k f fd ps sp ∧ PySem.W.findIn K (.ref C) m = some (some (.ref f)) ∧ PySem.W.isFn K (.ref f) = true ∧ PySem.W.keepIn K (.ref f) = true ∧ Binds K fd ps []
/-- a property's getter -/
structure PrpAt (K : PySem.W.Frag) (C : Addr) (m qual : Str) (st : Stmt) : Prop where
  ex : ∃ (p f : Addr) (fd : FuncData), Fun K m qual st f fd ∧ PropOf K C m p f ∧ Binds K fd ["self"] []
structure Prp (P : Program) (w : World) (K : PySem.W.Frag) (mg : Str → Option Value) (base : Heap) (CX : CXT) (k : Nat) (C : Addr) (m : Str) (sp : Sp) : Prop where
  ex : ∃ (p f : Addr) (fd : FuncData) (ps : List Str), FnOk P w K mg base CX k f fd ps sp ∧ PropOf K C m p f ∧ Binds K fd ps []
section
variable {P : Program} {w : World} {K : PySem.W.Frag} {mg : Str → Option Value} {base : Heap}
/-- a def under its name -/
structure DefAt (K : PySem.W.Frag) (mg : Str → Option Value) (x : Str) (st : Stmt) (ps : List Str) : Prop where
  ex : ∃ (f : Addr) (fd : FuncData), Fun K x x st f fd ∧ mg x = some (.ref f) ∧ Binds K fd ps []
abbrev Bdy (P : Program) (w : World) (K : PySem.W.Frag) (mg : Str → Option Value) (base : Heap) (N : List Str) (qual : Str) (st : Stmt) (k : Nat) (sp : Sp) : Prop :=
  ∀ (f : Addr) (cdv : Value) (A : Around) (outer : List Env) (s : Shared) (H : Hp) (vs : List V) (Q : VK) (E : XK), Room k (A.deeper (envOfC qual (defScope st) s.heap.objs.size f cdv)) → sp vs H Q E →
      ∃ t, PSs (cxOf CX0 P w K mg base N qual (defScope st) f cdv A outer s H E).nox (defBody st) t ∧ t { nx := fun _ H' => Q .non H', rt := Q } (start N vs) H
/-- its promise, by its body; nothing leaves it but by return -/
theorem DefAt.cal {x : Str} {st : Stmt} {N ps : List Str} {k : Nat} {sp : Sp} (F : DefAt K mg x st ps) (S : FnScope N ps (defScope st)) (len : ∀ vs H Q E, sp vs H Q E → vs.length = ps.length)
    (hbody : Bdy P w K mg base N x st k sp) : Cal P w K mg base CX0 (k + 1) x sp := by
  obtain ⟨f, fd, F, m, b⟩ := F.ex
  exact ⟨f, fd, ps, F.ok S len (fun cdv A outer s H vs Q E hr h => hbody f cdv A outer s H vs Q E hr h), m, F.kp, b⟩
theorem MetAt.met {C : Addr} {m qual : Str} {st : Stmt} {N ps : List Str} {k : Nat} {sp : Sp} (F : MetAt K C m qual st ps) (S : FnScope N ps (defScope st)) (len : ∀ vs H Q E, sp vs H Q E → vs.length = ps.length)
    (hbody : Bdy P w K mg base N qual st k sp) : Met P w K mg base CX0 (k + 1) C m sp := by
  obtain ⟨f, fd, F, m1, m2, b⟩ := F.ex
  exact ⟨f, fd, ps, F.ok S len (fun cdv A outer s H vs Q E hr h => hbody f cdv A outer s H vs Q E hr h), m1, m2, F.kp, b⟩
theorem PrpAt.prp {C : Addr} {m qual : Str} {st : Stmt} {N : List Str} {k : Nat} {sp : Sp} (F : PrpAt K C m qual st) (S : FnScope N ["self"] (defScope st)) (len : ∀ vs H Q E, sp vs H Q E → vs.length = 1)
    (hbody : Bdy P w K mg base N qual st k sp) : Prp P w K mg base CX0 (k + 1) C m sp := by
  obtain ⟨p, f, fd, F, m1, b⟩ := F.ex
  exact ⟨p, f, fd, ["self"], F.ok S len (fun cdv A outer s H vs Q E hr h => hbody f cdv A outer s H vs Q E hr h), m1, b⟩
end
section
variable {X : Cx} {CX : CXT} {k j : Nat} {C : Addr} {m : Str} {sp : Sp} {E : XK} {o e : Expr} {es : List Expr} {pos apos : Pos} {ta : TE} {t : TA}
theorem pe_prp (p : Prp X.prog X.w X.K X.mg X.base CX k C m sp) (c : Cls X.K C) (hr : Room j X.A) (hk : k + 1 ≤ j) (hx : Passes CX X.nox E) (he : PE X e ta) (hab : attributeBase e m X.env (eval e X.env) = eval e X.env) : PE X (.Attribute e m pos) (tProp C sp [] E ta) := by
  obtain ⟨p, f, fd, ps, F, m1, b⟩ := p.ex
  exact pe_prop he c m1 F (hr.mono hk) b .nil hx hab
theorem pe_mak {x : Str} {p : Pos} (M : Met X.prog X.w X.K X.mg X.base CX k C "__init__" sp) (O : Own X.K X.mg x C) (hr : Room j X.A) (hk : k + 1 ≤ j) (hg : Gl X x) (hx : Passes CX X E) (ha : PA X (e :: es) t)
    (hdb : (x == ("__debug__" : Str)) = false := by decide) (he : starEach (e :: es) X.env = (false, eval e X.env) :: starEach es X.env := by rfl) (hpl : (backTo pos (starEach es X.env)).any (·.1) = false := by rfl) :
    PE X (.Call (.Name x p) (e :: es) [] pos) (tMake C sp [] E t) := by
  obtain ⟨f, fd, ps, F, m1, m2, m3, b⟩ := M.ex
  exact pe_make ⟨O.makes, m1, m2, O.kp⟩ F (hr.mono hk) hg O.mgC b .nil hx ha hdb he hpl
/-- len of an instance by its own __len__ -/
def rLenO (C : Addr) (sp : Sp) (E : XK) : List V → Hp → VK → Prop := fun xs H Q => ∃ a dx fs, xs = [.ref a] ∧ H a = some (.ins C dx fs) ∧ sp [.ref a] H (fun v H' => ∃ n : Int, v = .int n ∧ 0 ≤ n ∧ n < 2 ^ 63 ∧ Q (.int n) H') E
theorem call_lenO (M : Met X.prog X.w X.K X.mg X.base CX k C "__len__" sp) (hr : Room j X.A) (hk : k + 1 ≤ j) (hx : Passes CX X E) : CallR X (.builtin "len") (rLenO C sp E) := by
  intro pins s σ H xs us Q I r h
  obtain ⟨a, dx, fs, rfl, ha, hsp⟩ := h
  obtain ⟨u, rfl, ru⟩ := vals1 r
  obtain rfl : u = Value.ref a := ru
  obtain ⟨f, fd, ps, F, m1, m2, m3, b⟩ := M.ex
  obtain ⟨mA, J, _⟩ := ins_get I.hok ha
  obtain ⟨od, J, _⟩ := J.look
  obtain ⟨mm, hF⟩ := I.fr
  refine PySem.W.len_K hF I.ok.mod.kin J m1 m2 ?_
  have hl := F.len _ _ _ _ hsp
  have r2 : Vals [V.ref a] [Value.ref a] := .cons rfl .nil
  refine wpAny_call (codeAny_mono (F.run X.A.in1 X.stack s H ⟨[.ref a], []⟩ [.ref a] [.ref a] _ E (hr.mono hk).in1 I.env0.in1 (by
    have := b s [.ref a] I.kIn (by simpa using hl)
    simpa using this) r2 hsp) fun r s' hq => ?_)
  cases r with
  | error e => exact hx pins σ H s e s' I hq
  | ok fl =>
    cases fl with
    | ret w =>
      obtain ⟨z, H', I', rz, n, rfl, n0, n1, q⟩ := I.after hq
      obtain ⟨t', rfl⟩ := rz
      exact ⟨⟨n0, n1⟩, ⟨.int n, H', I'.tok _, ⟨_, rfl⟩, q⟩⟩
    | next => exact False.elim hq
    | brk => exact False.elim hq
    | cont => exact False.elim hq
end

/-! ### kinds of values -/
def kinds : List String := ["NoneType", "bool", "int", "str", "list", "tuple", "dict"]
/-- x is a value of the built-in kind T -/
structure Knd (K : PySem.W.Frag) (H : Hp) (x : V) (T : String) : Prop where
  ty : TyX K H x (.type T)
  mem : T ∈ kinds
theorem knd_int {K : PySem.W.Frag} {H : Hp} (i : Int) : Knd K H (.int i) "int" := ⟨.base (.int i), by decide⟩
theorem knd_bl {K : PySem.W.Frag} {H : Hp} (i : Bool) : Knd K H (.bl i) "bool" := ⟨.base (.bl i), by decide⟩
theorem knd_non {K : PySem.W.Frag} {H : Hp} : Knd K H .non "NoneType" := ⟨.base .non, by decide⟩
theorem knd_str {K : PySem.W.Frag} {H : Hp} (z : Str) : Knd K H (.str z) "str" := ⟨.base (.str z), by decide⟩
theorem knd_lst {K : PySem.W.Frag} {H : Hp} {a : Addr} {xs : List V} (h : H a = some (.lst xs)) : Knd K H (.ref a) "list" := ⟨.base (.lst h), by decide⟩
theorem knd_tup {K : PySem.W.Frag} {H : Hp} {a : Addr} {xs : List V} (h : H a = some (.tup xs)) : Knd K H (.ref a) "tuple" := ⟨.base (.tup h), by decide⟩
theorem knd_dK {K : PySem.W.Frag} {H : Hp} {a : Addr} {xs : List (Key × V)} (h : H a = some (.dK xs)) : Knd K H (.ref a) "dict" := ⟨.base (.dK h), by decide⟩
theorem kit_int {T : String} (h : T ∈ kinds) : kitB T "int" = some (T == "int" || T == "bool") := by
  simp only [kinds, List.mem_cons, List.not_mem_nil, or_false] at h
  rcases h with rfl | rfl | rfl | rfl | rfl | rfl | rfl <;> decide +kernel
theorem kit_bool {T : String} (h : T ∈ kinds) : kitB T "bool" = some (T == "bool") := by
  simp only [kinds, List.mem_cons, List.not_mem_nil, or_false] at h
  rcases h with rfl | rfl | rfl | rfl | rfl | rfl | rfl <;> decide +kernel
theorem kit_list {T : String} (h : T ∈ kinds) : kitB T "list" = some (T == "list") := by
  simp only [kinds, List.mem_cons, List.not_mem_nil, or_false] at h
  rcases h with rfl | rfl | rfl | rfl | rfl | rfl | rfl <;> decide +kernel
theorem kit_tuple {T : String} (h : T ∈ kinds) : kitB T "tuple" = some (T == "tuple") := by
  simp only [kinds, List.mem_cons, List.not_mem_nil, or_false] at h
  rcases h with rfl | rfl | rfl | rfl | rfl | rfl | rfl <;> decide +kernel
section
variable {K : PySem.W.Frag} {H : Hp} {Q : VK} {x : V} {T : String}
theorem y_isInt {b : Bool} (k : Knd K H x T) (e : (T == "int" || T == "bool") = b) (h : Q (.bl b) H) : rIsi K [x, .ty "int"] H Q := x_isi (.ty _) k.ty (kit_ty (e ▸ kit_int k.mem)) h
theorem x_isInt (k : Knd K H x T) (h : Q (.bl (T == "int" || T == "bool")) H) : rIsi K [x, .ty "int"] H Q := x_isi (.ty _) k.ty (kit_ty (kit_int k.mem)) h
theorem y_isBool {b : Bool} (k : Knd K H x T) (e : (T == "bool") = b) (h : Q (.bl b) H) : rIsi K [x, .ty "bool"] H Q := x_isi (.ty _) k.ty (kit_ty (e ▸ kit_bool k.mem)) h
theorem x_isBool (k : Knd K H x T) (h : Q (.bl (T == "bool")) H) : rIsi K [x, .ty "bool"] H Q := x_isi (.ty _) k.ty (kit_ty (kit_bool k.mem)) h
theorem y_isList {b : Bool} (k : Knd K H x T) (e : (T == "list") = b) (h : Q (.bl b) H) : rIsi K [x, .ty "list"] H Q := x_isi (.ty _) k.ty (kit_ty (e ▸ kit_list k.mem)) h
theorem x_isList (k : Knd K H x T) (h : Q (.bl (T == "list")) H) : rIsi K [x, .ty "list"] H Q := x_isi (.ty _) k.ty (kit_ty (kit_list k.mem)) h
theorem y_isTuple {b : Bool} (k : Knd K H x T) (e : (T == "tuple") = b) (h : Q (.bl b) H) : rIsi K [x, .ty "tuple"] H Q := x_isi (.ty _) k.ty (kit_ty (e ▸ kit_tuple k.mem)) h
theorem x_isTuple (k : Knd K H x T) (h : Q (.bl (T == "tuple")) H) : rIsi K [x, .ty "tuple"] H Q := x_isi (.ty _) k.ty (kit_ty (kit_tuple k.mem)) h
end

/-! ### what the top has written -/
section
variable {K : PySem.W.Frag} {h : Heap} {mg : Str → Option Value}
theorem defAt_mk {x : Str} {st : Stmt} {ps : List Str} {f : Addr} {oc : Value} {od an : Option Addr} {osl : Array (Option Value)} {kV doc pm cdv ct : Value} (X : K.In h) (G : h.Ns mainGlobals mg)
    (a : PySem.W.nsIn K mainGlobals x = some (some (.ref f))) (l : K.lookup f = some ⟨oc, od, .func (PySem.W.fnOf x x (defArgs st) (defBody st) (defScope st) .none kV doc pm an cdv ct), osl⟩) (c : PySem.W.codeIn K cdv x = true) (k : PySem.W.keepIn K (.ref f) = true)
    (b : ∀ (kV doc pm : Value) (an : Option Addr) (cdv ct : Value) (us : List Value), us.length = ps.length → bindArgs (PySem.W.fnOf x x (defArgs st) (defBody st) (defScope st) .none kV doc pm an cdv ct) ⟨us, []⟩ = pure (ps.zip us)) : DefAt K mg x st ps :=
  ⟨f, _, fun_mk l c k, PySem.W.mg_of X G a, (fun_mk l c k).binds b⟩
theorem metAt_mk {m qual : Str} {st : Stmt} {ps : List Str} {f C : Addr} {oc : Value} {od an : Option Addr} {osl : Array (Option Value)} {kV doc pm cdv ct : Value}
    (a : PySem.W.findIn K (.ref C) m = some (some (.ref f))) (i : PySem.W.isFn K (.ref f) = true) (l : K.lookup f = some ⟨oc, od, .func (PySem.W.fnOf m qual (defArgs st) (defBody st) (defScope st) .none kV doc pm an cdv ct), osl⟩) (c : PySem.W.codeIn K cdv qual = true) (k : PySem.W.keepIn K (.ref f) = true)
    (b : ∀ (kV doc pm : Value) (an : Option Addr) (cdv ct : Value) (us : List Value), us.length = ps.length → bindArgs (PySem.W.fnOf m qual (defArgs st) (defBody st) (defScope st) .none kV doc pm an cdv ct) ⟨us, []⟩ = pure (ps.zip us)) : MetAt K C m qual st ps :=
  ⟨f, _, fun_mk l c k, a, i, (fun_mk l c k).binds b⟩
theorem prpAt_mk {m qual : Str} {st : Stmt} {p f C : Addr} {oc : Value} {od an : Option Addr} {osl : Array (Option Value)} {kV doc pm cdv ct : Value} {rest : List Value}
    (a : PySem.W.findIn K (.ref C) m = some (some (.ref p))) (g : PySem.W.specialIn K (.ref p) "__get__" = some (some (.builtin "property.__get__"))) (t : PySem.W.takesIn K (.ref p) = some true) (r : PySem.W.recIn K p "property" = some (.ref f :: rest))
    (l : K.lookup f = some ⟨oc, od, .func (PySem.W.fnOf m qual (defArgs st) (defBody st) (defScope st) .none kV doc pm an cdv ct), osl⟩) (c : PySem.W.codeIn K cdv qual = true) (k : PySem.W.keepIn K (.ref f) = true)
    (b : ∀ (kV doc pm : Value) (an : Option Addr) (cdv ct : Value) (us : List Value), us.length = (["self"] : List Str).length → bindArgs (PySem.W.fnOf m qual (defArgs st) (defBody st) (defScope st) .none kV doc pm an cdv ct) ⟨us, []⟩ = pure ((["self"] : List Str).zip us)) : PrpAt K C m qual st :=
  ⟨p, f, _, fun_mk l c k, ⟨a, g, t, _, r⟩, (fun_mk l c k).binds b⟩
theorem own_mk {nm : Str} {C : Addr} (X : K.In h) (G : h.Ns mainGlobals mg) (a : PySem.W.nsIn K mainGlobals nm = some (some (.ref C))) (pg : PySem.W.plainGet K C Str.empty = true) (hd : PySem.W.hasDictIn K C = true) (po : PySem.W.plainOver K C = true)
    (sa : PySem.W.findIn K (.ref C) "__setattr__" = some (some (.builtin "object.__setattr__"))) (mk : PySem.W.makesIn K C = true) (kp : PySem.W.keepIn K (.ref C) = true) : Own K mg nm C := ⟨⟨pg, hd, po, sa⟩, PySem.W.mg_of X G a, mk, kp⟩
end
def spLaw (K : PySem.W.Frag) : Sp := fun vs H Q _ => ∃ (a : Addr) (ns : List Int), vs = [.ref a] ∧ SqL K H a (ns.map V.int) ∧ ns.length ≤ 63 ∧ ∀ H', Q (.bl true) H'
theorem same_keep {H H1 H2 : Hp} {p : Addr} (s : Same H H1) (k : Keep p H1 H2) (p0 : H p = none) : Same H H2 := fun a o h => k a o (s a o h) (ne_of_none h p0)
end OC

namespace OC
open PySem PySem.Spec PyProof.Rows L2
/-! ### the steps -/
local macro_rules | `(tactic| walk_at "look") => `(tactic| first
  | assumption
  | exact upd_same
  | (refine new_at (by assumption) ?_; walk_at "look")
  | (refine upd_at (by walk_at "ne") ?_; walk_at "look")
  | (refine Keep.at (by assumption) ?_ (by walk_at "ne"); walk_at "look")
  | (refine sat (by assumption) ?_; walk_at "look"))
local macro_rules | `(tactic| walk_at "knd") => `(tactic| first
  | exact knd_int _
  | exact knd_lst (by walk_at "look")
  | exact knd_tup (by walk_at "look")
  | exact knd_bl _
  | exact knd_non
  | exact knd_str _
  | exact knd_dK (by walk_at "look"))
local macro_rules | `(tactic| walk_at "ne") => `(tactic| first
  | assumption
  | exact Ne.symm (by assumption))
local macro_rules | `(tactic| walk_at "ar") => `(tactic| first
  | omega
  | assumption
  | (simp only [List.length_cons, List.length_nil, List.length_append, List.length_map]; omega)
  | rfl
  | decide)
local macro_rules | `(tactic| walk_at "s1") => `(tactic| first
  | with_reducible refine x_seq ?_
  | ((with_reducible refine' x_var ?k0 ?_); (case k0 => with_unfolding_all rfl))
  | with_reducible refine x_c ?_
  | with_reducible refine x_op ?_
  | with_reducible refine x_I0 ?_
  | with_reducible refine x_asg ?_
  | ((with_reducible refine' x_name ?k0 ?_); (case k0 => with_unfolding_all rfl))
  | with_reducible refine x_next ?_
  | with_reducible refine x_ret ?_
  | with_reducible refine x_drop ?_
  | with_reducible refine x_ifs ?_
  | with_reducible refine x_test ?_
  | with_reducible refine x_B ?_
  | with_reducible refine x_bl ?_
  | with_reducible refine x_cons ?_
  | with_reducible refine x_nil ?_
  | with_reducible refine x_cb ?_
  | with_reducible refine x_call ?_
  | with_reducible refine x_tup ?_
  | with_reducible refine x_lst ?_
  | with_reducible refine x_bm ?_
  | with_reducible refine x_bm0 ?_
  | with_reducible refine x_un ?_
  | with_reducible refine x_U ?_
  | with_reducible refine x_not ?_
  | with_reducible refine x_and ?_
  | with_reducible refine x_or ?_
  | with_reducible refine x_andV ?_
  | with_reducible refine x_orV ?_
  | with_reducible refine x_notV ?_
  | with_reducible refine x_if ?_
  | with_reducible refine x_sub ?_
  | with_reducible refine x_gCons ?_
  | with_reducible refine x_gNil ?_
  | with_reducible refine x_retN ?_
  | with_reducible refine x_break ?_
  | with_reducible refine x_cont ?_
  | with_reducible refine x_T ?_
  | with_reducible refine x_nT ?_
  | with_reducible refine x_nF ?_
  | with_reducible refine x_meth0 ?_
  | with_reducible refine x_meth ?_
  | with_reducible refine x_prop ?_
  | with_reducible refine x_F ?_
  | with_reducible refine x_int_i ?_
  | with_reducible refine x_int_b ?_
  | with_reducible refine x_max2 ?_
  | with_reducible refine x_min2 ?_
  | with_reducible refine x_for ?_
  | with_reducible refine x_lc ?_
  | with_reducible refine x_lc2 ?_
  | with_reducible refine x_rg1 ?_
  | with_reducible refine x_rg2 ?_
  | with_reducible refine x_il ?_
  | with_reducible refine x_yes ?_
  | with_reducible refine x_tfld ?_
  | with_reducible refine x_din ?_
  | with_reducible refine x_dnin ?_
  | with_reducible refine x_dput ?_
  | with_reducible refine x_lstRg ?_
  | with_reducible refine x_tRg1 ?_
  | with_reducible refine x_rgN ?_
  | with_reducible refine x_sfld ?_
  | with_reducible refine x_make ?_
  | with_reducible refine x_eqI ?_
  | with_reducible refine x_neI ?_)
local macro_rules | `(tactic| walk_at "s2") => `(tactic| first
  | ((with_reducible refine' x_ixL ?k0 ?k1 ?_); (case k0 => walk_at "look"); (case k1 => first | assumption | with_unfolding_all rfl))
  | ((with_reducible refine' x_ixT ?k0 ?k1 ?_); (case k0 => walk_at "look"); (case k1 => first | assumption | with_unfolding_all rfl))
  | ((with_reducible refine' x_mod ?k0 ?_); (case k0 => walk_at "ar"))
  | ((with_reducible refine' x_div ?k0 ?k1 ?_); (case k0 => walk_at "ar"); (case k1 => walk_at "ar"))
  | ((with_reducible refine' x_mull ?k0 ?k1 ?_); (case k0 => omega); (case k1 => omega))
  | ((with_reducible refine' x_mulr ?k0 ?k1 ?_); (case k0 => omega); (case k1 => omega))
  | ((with_reducible refine' x_pow ?k0 ?k1 ?k2 ?_); (case k0 => decide); (case k1 => decide); (case k2 => decide))
  | ((with_reducible refine' x_divW ?k0 ?k1 ?_); (case k0 => decide); (case k1 => decide))
  | ((with_reducible refine' x_tyL ?k0 ?_); (case k0 => walk_at "look"))
  | ((with_reducible refine' x_append ?k0 ?k1 ?_); (case k0 => walk_at "look"); (case k1 => exact sz_lt (by walk_at "ar")))
  | ((with_reducible refine' x_setL ?k0 ?k1 ?k2 ?_); (case k0 => walk_at "look"); (case k1 => walk_at "ar"); (case k2 => walk_at "ar"))
  | ((with_reducible refine' x_gTup ?k0 ?k1 ?_); (case k0 => walk_at "look"); (case k1 => with_unfolding_all rfl))
  | ((with_reducible refine' x_it ?k0 ?_); (case k0 => walk_at "ar"))
  | ((with_reducible refine' x_if0 ?k0 ?_); (case k0 => walk_at "ar"))
  | ((with_reducible refine' x_itn0 ?k0 ?_); (case k0 => walk_at "ar"))
  | ((with_reducible refine' x_itn1 ?k0 ?_); (case k0 => walk_at "ar"))
  | ((with_reducible refine' x_r1 ?k0 ?k1 ?_); (case k0 => walk_at "ar"); (case k1 => walk_at "ar"))
  | ((with_reducible refine' x_r2 ?k0 ?k1 ?k2 ?k3 ?_); (case k0 => walk_at "ar"); (case k1 => walk_at "ar"); (case k2 => walk_at "ar"); (case k3 => walk_at "ar"))
  | ((with_reducible refine' x_rgOk ?k0 ?k1 ?_); (case k0 => walk_at "ar"); (case k1 => walk_at "ar"))
  | ((with_reducible refine' x_ill ?k0 ?_); (case k0 => walk_at "look"))
  | ((with_reducible refine' x_wipe ?k0 ?_); (case k0 => with_unfolding_all rfl))
  | ((with_reducible refine' x_fld ?k0 ?k1 ?k2 ?k3 ?_); (case k0 => walk_at "look"); (case k1 => assumption); (case k2 => assumption); (case k3 => assumption))
  | ((with_reducible refine' y_isInt (b := true) ?k0 ?k1 ?_); (case k0 => walk_at "knd"); (case k1 => decide))
  | ((with_reducible refine' y_isInt (b := false) ?k0 ?k1 ?_); (case k0 => walk_at "knd"); (case k1 => decide))
  | ((with_reducible refine' y_isBool (b := true) ?k0 ?k1 ?_); (case k0 => walk_at "knd"); (case k1 => decide))
  | ((with_reducible refine' y_isBool (b := false) ?k0 ?k1 ?_); (case k0 => walk_at "knd"); (case k1 => decide))
  | ((with_reducible refine' y_isList (b := true) ?k0 ?k1 ?_); (case k0 => walk_at "knd"); (case k1 => decide))
  | ((with_reducible refine' y_isList (b := false) ?k0 ?k1 ?_); (case k0 => walk_at "knd"); (case k1 => decide))
  | ((with_reducible refine' y_isTuple (b := true) ?k0 ?k1 ?_); (case k0 => walk_at "knd"); (case k1 => decide))
  | ((with_reducible refine' y_isTuple (b := false) ?k0 ?k1 ?_); (case k0 => walk_at "knd"); (case k1 => decide))
  | ((with_reducible refine' x_inp ?k0 ?_); (case k0 => walk_at "look"))
  | ((with_reducible refine' x_len ?k0 ?_); (case k0 => walk_at "look"))
  | ((with_reducible refine' x_lenT ?k0 ?_); (case k0 => walk_at "look"))
  | ((with_reducible refine' x_rev ?k0 ?_); (case k0 => walk_at "look")))
local macro_rules | `(tactic| walk_at "go") => `(tactic| repeat (first | walk_at "s1" | walk_at "s2"))
open LamX
variable {TL : List (Addr × Str)}
def topS (i : Nat) : Stmt := PySem.Challenge.pw_ownhues_k69_painted_by_two.main.body.getD i (.Pass ⟨0, 0, 0, 0⟩)
/-- what the top has left alone -/
structure Tx (mg : Str → Option Value) : Prop where
  z_abs : mg "abs" = none
  z_all : mg "all" = none
  z_bool : mg "bool" = none
  z_int : mg "int" = none
  z_isinstance : mg "isinstance" = none
  z_len : mg "len" = none
  z_list : mg "list" = none
  z_max : mg "max" = none
  z_min : mg "min" = none
  z_property : mg "property" = none
  z_range : mg "range" = none
  z_sorted : mg "sorted" = none
  z_tuple : mg "tuple" = none
/-! ### whether a value is an integer -/
def spIsInt (K : PySem.W.Frag) : Sp := fun vs H Q _ => ∃ x T, vs = [x] ∧ Knd K H x T ∧ Q (.bl (T == "int")) H
theorem isint_val {T : String} (h : T ∈ kinds) : (T == "int" || T == "bool") = true → (!(T == "bool")) = (T == "int") := by
  simp only [kinds, List.mem_cons, List.not_mem_nil, or_false] at h
  rcases h with rfl | rfl | rfl | rfl | rfl | rfl | rfl <;> decide
theorem isint_no {T : String} (h : (T == "int" || T == "bool") = false) : (T == "int") = false := (Bool.or_eq_false_iff.mp h).1
theorem x_spInt {K : PySem.W.Frag} {H : Hp} {Q : VK} {E : XK} {i : Int} (h : Q (.bl true) H) : spIsInt K [.int i] H Q E := ⟨.int i, "int", rfl, knd_int i, h⟩
abbrev s_is_integer : Stmt := topS 6
theorem sc_is_integer : FnScope ["value"] ["value"] (defScope s_is_integer) := ⟨rfl, rfl, rfl, by decide +kernel, rfl, by decide +kernel, by decide +kernel⟩
section
variable {P : Program} {w : World} {K : PySem.W.Frag} {mg : Str → Option Value} {base : Heap}
theorem c_is_integer (T : Tx mg) (F : DefAt K mg "is_integer" s_is_integer ["value"]) : Cal P w K mg base CX0 1 "is_integer" (spIsInt K) := by
  refine F.cal sc_is_integer (fun vs H Q E h => ?_) (fun f cdv A outer s H vs Q E hr h => ?_)
  · obtain ⟨x, T, rfl, _⟩ := h
    rfl
  · obtain ⟨x, Ty, rfl, k, q⟩ := h
    refine ⟨_, (pss_one (ps_ret (pe_and (pe_callB (cl_isi K) (by rfl) T.z_isinstance (by decide +kernel) (pa_cons (pv 0) (pa_cons (pe_bltn (v := .ty "int") (by rfl) T.z_int (by decide +kernel) rfl) pa_nil))) (pe_one (pe_not (pe_callB (cl_isi K) (by rfl) T.z_isinstance (by decide +kernel) (pa_cons (pv 0) (pa_cons (pe_bltn (v := .ty "bool") (by rfl) T.z_bool (by decide +kernel) rfl) pa_nil)))))))), ?_⟩
    walk_at "go"
    refine x_isInt k ?_
    walk_at "go"
    refine x_itb (fun c => ?_) (fun c => ?_)
    · walk_at "go"
      refine x_isBool k ?_
      walk_at "go"
      rw [isint_val k.mem c]
      exact q
    · rw [isint_no c] at q
      exact q
end
abbrev s_is_tie : Stmt := topS 7
theorem sc_is_tie : FnScope ["places", "value"] ["places", "value"] (defScope s_is_tie) := ⟨rfl, rfl, rfl, by decide +kernel, rfl, by decide +kernel, by decide +kernel⟩
def spTie : Sp := fun vs H Q _ => ∃ (n : Int) (t : Addr) (a b : Int), vs = [.int n, .ref t] ∧ H t = some (.tup [.int a, .int b]) ∧ Q (.bl (decide (0 ≤ a ∧ a < b ∧ b < n))) H
section
variable {P : Program} {w : World} {K : PySem.W.Frag} {mg : Str → Option Value} {base : Heap}
theorem c_is_tie (T : Tx mg) (F : DefAt K mg "is_tie" s_is_tie ["places", "value"]) (c_is_integer : Cal P w K mg base CX0 1 "is_integer" (spIsInt K)) : Cal P w K mg base CX0 2 "is_tie" spTie := by
  refine F.cal sc_is_tie (fun vs H Q E h => ?_) (fun f cdv A outer s H vs Q E hr h => ?_)
  · obtain ⟨n, t, a, b, rfl, _⟩ := h
    rfl
  · obtain ⟨n, t, a, b, rfl, ht, q⟩ := h
    refine ⟨_, (pss_cons (ps_if (PW.pt (pw_or (pt_not (pt_val (pe_callB (cl_isi K) (by rfl) T.z_isinstance (by decide +kernel) (pa_cons (pv 1) (pa_cons (pe_bltn (v := .ty "tuple") (by rfl) T.z_tuple (by decide +kernel) rfl) pa_nil))))) (pw_or1 (pt_cmpR op_ne (pe_callB (cl_len K) (by rfl) T.z_len PySem.boot_len (pa_cons (pv 1) pa_nil)) pe_int (nomark _)))))
        (pss_one (ps_ret pe_bl)) pss_nil)
      (pss_cons (ps_if (PW.pt (pw_or (pt_not (pt_val (pe_cal c_is_integer hr (by decide) rfl pass0 (pa_cons (pe_ix (ix_t K) (pv 1) pe_int (fun _ _ => rfl)) pa_nil)))) (pw_or1 (pt_not (pt_val (pe_cal c_is_integer hr (by decide) rfl pass0 (pa_cons (pe_ix (ix_t K) (pv 1) pe_int (fun _ _ => rfl)) pa_nil)))))))
        (pss_one (ps_ret pe_bl)) pss_nil)
      (pss_one (ps_ret (pe_and (pe_cmpR op_le pe_int (pe_ix (ix_t K) (pv 1) pe_int (fun _ _ => rfl)) (nomark _)) (pe_and (pe_cmpR op_lt (pe_ix (ix_t K) (pv 1) pe_int (fun _ _ => rfl)) (pe_ix (ix_t K) (pv 1) pe_int (fun _ _ => rfl)) (nomark _)) (pe_one (pe_cmpR op_lt (pe_ix (ix_t K) (pv 1) pe_int (fun _ _ => rfl)) (pv 0) (nomark _))))))))), ?_⟩
    walk_at "go"
    refine x_spInt ?_
    walk_at "go"
    refine x_spInt ?_
    walk_at "go"
    refine x_ite (fun c1 => ?_) (fun c1 => ?_)
    · walk_at "go"
      refine x_ite (fun c2 => ?_) (fun c2 => ?_)
      · walk_at "go"
        have e : decide (b < n) = decide (0 ≤ a ∧ a < b ∧ b < n) := by simp [c1, c2]
        rw [e]
        exact q
      · rw [decide_eq_false (by omega)] at q
        exact q
    · rw [decide_eq_false (by omega)] at q
      exact q
end
/-! ### webs in plain Lean: a number of places, a relation -/
abbrev Rel := Nat → Nat → Bool
/-- a web of n places -/
structure Gr (n : Nat) (e : Rel) : Prop where
  sym : ∀ u v, e u v = e v u
  irr : ∀ u, e u u = false
  lt : ∀ u v, e u v = true → u < n
theorem Gr.lt2 {n : Nat} {e : Rel} (g : Gr n e) {u v : Nat} (h : e u v = true) : v < n := g.lt v u (by rw [g.sym]; exact h)
/-- the neighbours of a place, ascending -/
def nb (n : Nat) (e : Rel) (u : Nat) : List Nat := (List.range n).filter (e u)
theorem mem_nb {n : Nat} {e : Rel} {u v : Nat} : v ∈ nb n e u ↔ v < n ∧ e u v = true := by
  unfold nb
  rw [List.mem_filter, List.mem_range]
theorem nb_pw (n : Nat) (e : Rel) (u : Nat) : (nb n e u).Pairwise (· < ·) := List.Pairwise.filter _ List.pairwise_lt_range
theorem nodup_of_lt {l : List Nat} (h : l.Pairwise (· < ·)) : l.Nodup := h.imp fun h => Nat.ne_of_lt h
theorem nb_len (n : Nat) (e : Rel) (u : Nat) : (nb n e u).length ≤ n := by
  have h := List.length_filter_le (e u) (List.range n)
  rw [List.length_range] at h
  exact h
/-- two ascending lists of the same numbers are one -/
theorem asc_eq {l m : List Nat} (hl : l.Pairwise (· < ·)) (hm : m.Pairwise (· < ·)) (h : ∀ x, x ∈ l ↔ x ∈ m) : l = m := by
  have p : l.Perm m := (List.perm_ext_iff_of_nodup (nodup_of_lt hl) (nodup_of_lt hm)).mpr h
  exact List.Perm.eq_of_pairwise (fun a b _ _ h1 h2 => absurd (Nat.lt_trans h1 h2) (Nat.lt_irrefl _)) hl hm p
abbrev Tie := Nat × Nat
/-- the relation of a list of ties -/
def eOf (ps : List Tie) : Rel := fun u v => ps.contains (u, v) || ps.contains (v, u)
theorem eOf_iff {ps : List Tie} {u v : Nat} : eOf ps u v = true ↔ (u, v) ∈ ps ∨ (v, u) ∈ ps := by
  unfold eOf
  rw [Bool.or_eq_true, List.contains_iff_mem, List.contains_iff_mem]
/-- ties of a web of n places -/
structure TOk (n : Nat) (ps : List Tie) : Prop where
  nd : ps.Nodup
  ok : ∀ p ∈ ps, p.1 < p.2 ∧ p.2 < n
theorem TOk.gr {n : Nat} {ps : List Tie} (t : TOk n ps) : Gr n (eOf ps) where
  sym := fun u v => by unfold eOf; rw [Bool.or_comm]
  irr := fun u => by
    cases h : eOf ps u u
    · rfl
    · rcases eOf_iff.mp h with h | h <;> exact absurd (t.ok _ h).1 (Nat.lt_irrefl _)
  lt := fun u v h => by
    rcases eOf_iff.mp h with h | h
    · have := t.ok _ h
      exact Nat.lt_trans this.1 this.2
    · exact (t.ok _ h).2
theorem TOk.perm {n : Nat} {ps qs : List Tie} (t : TOk n ps) (p : qs.Perm ps) : TOk n qs := ⟨p.nodup_iff.mpr t.nd, fun x hx => t.ok x (p.mem_iff.mp hx)⟩
theorem eOf_perm {ps qs : List Tie} (p : qs.Perm ps) : eOf qs = eOf ps := by
  funext u v
  have h : eOf qs u v = true ↔ eOf ps u v = true := by rw [eOf_iff, eOf_iff, p.mem_iff, p.mem_iff]
  cases a : eOf qs u v <;> cases b : eOf ps u v <;> simp_all
/-- the other ends at j, in the order of the ties -/
def ends (j : Nat) (p : Tie) : Option Nat := if p.1 = j then some p.2 else if p.2 = j then some p.1 else none
def nbr (ps : List Tie) (j : Nat) : List Nat := ps.filterMap (ends j)
theorem nbr_snoc (ps : List Tie) (p : Tie) (j : Nat) : nbr (ps ++ [p]) j = nbr ps j ++ (ends j p).toList := by
  unfold nbr
  rw [List.filterMap_append]
  cases h : ends j p <;> simp [List.filterMap_cons, h]
theorem mem_nbr {n : Nat} {ps : List Tie} (t : TOk n ps) {j v : Nat} : v ∈ nbr ps j ↔ eOf ps j v = true := by
  unfold nbr
  rw [List.mem_filterMap, eOf_iff]
  constructor
  · rintro ⟨⟨a, b⟩, h, e⟩
    unfold ends at e
    simp only at e
    split at e
    · rename_i q
      cases e
      subst q
      exact .inl h
    · split at e
      · rename_i q
        cases e
        subst q
        exact .inr h
      · cases e
  · rintro (h | h)
    · exact ⟨_, h, by simp [ends]⟩
    · refine ⟨_, h, ?_⟩
      have := t.ok _ h
      simp only at this
      unfold ends
      simp only
      rw [if_neg (by omega)]
      simp
theorem nbr_nodup {n : Nat} : ∀ {ps : List Tie}, TOk n ps → ∀ j, (nbr ps j).Nodup
  | [], _, _ => List.nodup_nil
  | p :: r, t, j => by
    have t' : TOk n r := ⟨(List.nodup_cons.mp t.nd).2, fun x hx => t.ok x (List.mem_cons_of_mem _ hx)⟩
    have ih := nbr_nodup t' j
    show (List.filterMap (ends j) (p :: r)).Nodup
    rw [List.filterMap_cons]
    cases e : ends j p with
    | none => exact ih
    | some v =>
      refine List.nodup_cons.mpr ⟨fun hm => ?_, ih⟩
      have h1 := (mem_nbr t').mp hm
      have np := (List.nodup_cons.mp t.nd).1
      have op := t.ok p (List.mem_cons_self ..)
      obtain ⟨a, b⟩ := p
      simp only at op
      unfold ends at e
      simp only at e
      split at e
      · rename_i q
        cases e
        subst q
        rcases eOf_iff.mp h1 with h | h
        · exact np h
        · have := t'.ok _ h
          simp only at this
          omega
      · split at e
        · rename_i q
          cases e
          subst q
          rcases eOf_iff.mp h1 with h | h
          · have := t'.ok _ h
            simp only at this
            omega
          · exact np h
        · cases e
/-- in order, these are the neighbours -/
theorem nbr_sorted {n : Nat} {ps : List Tie} (t : TOk n ps) {j : Nat} {l : List Int} (p : l.Perm ((nbr ps j).map fun (v : Nat) => (v : Int))) (s : l.Pairwise (· ≤ ·)) : l = (nb n (eOf ps) j).map fun (v : Nat) => (v : Int) := by
  have q : (nb n (eOf ps) j).Perm (nbr ps j) := by
    refine (List.perm_ext_iff_of_nodup (nodup_of_lt (nb_pw _ _ _)) (nbr_nodup t j)).mpr fun v => ?_
    rw [mem_nb, mem_nbr t]
    exact ⟨fun h => h.2, fun h => ⟨t.gr.lt2 h, h⟩⟩
  refine List.Perm.eq_of_pairwise (le := (· ≤ ·)) (fun a b _ _ h1 h2 => Int.le_antisymm h1 h2) s ?_ (p.trans (q.map _).symm)
  refine List.pairwise_map.mpr ((nb_pw _ _ _).imp fun h => ?_)
  omega
/-- all ties of a web, ascending -/
def tiesOf (n : Nat) (e : Rel) : List Tie := (List.range n).flatMap fun u => ((nb n e u).filter fun v => decide (u < v)).map fun v => (u, v)
theorem mem_tiesOf {n : Nat} {e : Rel} {p : Tie} : p ∈ tiesOf n e ↔ p.1 < n ∧ p.2 < n ∧ p.1 < p.2 ∧ e p.1 p.2 = true := by
  obtain ⟨a, b⟩ := p
  unfold tiesOf
  rw [List.mem_flatMap]
  simp only [List.mem_map, List.mem_filter, mem_nb, List.mem_range, decide_eq_true_eq, Prod.mk.injEq]
  constructor
  · rintro ⟨u, hu, v, ⟨⟨h1, h2⟩, h3⟩, rfl, rfl⟩
    exact ⟨hu, h1, h3, h2⟩
  · rintro ⟨h1, h2, h3, h4⟩
    exact ⟨a, h1, b, ⟨⟨h2, h4⟩, h3⟩, rfl, rfl⟩
def ltT (p q : Tie) : Prop := p.1 < q.1 ∨ p.1 = q.1 ∧ p.2 < q.2
theorem ltT_asymm {p q : Tie} (h : ltT p q) (k : ltT q p) : False := by
  unfold ltT at h k
  omega
theorem tiesOf_pw (n : Nat) (e : Rel) : (tiesOf n e).Pairwise ltT := by
  unfold tiesOf
  rw [List.pairwise_flatMap]
  constructor
  · intro u _
    refine List.pairwise_map.mpr (List.Pairwise.filter _ ((nb_pw n e u).imp fun h => ?_))
    exact .inr ⟨rfl, h⟩
  · refine List.pairwise_lt_range.imp fun h => ?_
    intro x hx y hy
    obtain ⟨v, _, rfl⟩ := List.mem_map.mp hx
    obtain ⟨w, _, rfl⟩ := List.mem_map.mp hy
    exact .inl h
theorem ascT_eq {l m : List Tie} (hl : l.Pairwise ltT) (hm : m.Pairwise ltT) (h : ∀ x, x ∈ l ↔ x ∈ m) : l = m := by
  have nd : ∀ {k : List Tie}, k.Pairwise ltT → k.Nodup := fun hk => hk.imp fun h e => by
    subst e
    exact ltT_asymm h h
  have p : l.Perm m := (List.perm_ext_iff_of_nodup (nd hl) (nd hm)).mpr h
  exact List.Perm.eq_of_pairwise (fun a b _ _ h1 h2 => (ltT_asymm h1 h2).elim) hl hm p
theorem nodupT {k : List Tie} (hk : k.Pairwise ltT) : k.Nodup := hk.imp fun h e => by
  subst e
  exact ltT_asymm h h
/-- the ties in order are all ties of their web -/
theorem ties_eq {n : Nat} {ps : List Tie} (t : TOk n ps) (s : ps.Pairwise ltT) : tiesOf n (eOf ps) = ps := by
  refine ascT_eq (tiesOf_pw _ _) s fun p => ?_
  rw [mem_tiesOf]
  obtain ⟨a, b⟩ := p
  constructor
  · rintro ⟨h1, h2, h3, h4⟩
    rcases eOf_iff.mp h4 with h | h
    · exact h
    · have := t.ok _ h
      simp only at this h3
      omega
  · intro h
    have := t.ok _ h
    simp only at this ⊢
    exact ⟨by omega, by omega, by omega, eOf_iff.mpr (.inl h)⟩
theorem nodup_le {n : Nat} {l : List Nat} (nd : l.Nodup) (h : ∀ x ∈ l, x < n) : l.length ≤ n := by
  have s := nd.length_le_of_subset (l₂ := List.range n) fun x hx => List.mem_range.mpr (h x hx)
  rw [List.length_range] at s
  exact s
/-! ### a web in the heap -/
def nv (l : List Nat) : List V := l.map fun (v : Nat) => V.int (v : Int)
theorem nv_len (l : List Nat) : (nv l).length = l.length := by unfold nv; rw [List.length_map]
theorem nv_app (l m : List Nat) : nv (l ++ m) = nv l ++ nv m := by unfold nv; rw [List.map_append]
theorem nv_flat (l : List Nat) : (nv l).all flatV = true := by
  unfold nv
  rw [List.all_map, List.all_eq_true]
  exact fun _ _ => rfl
theorem nv_ints (l : List Nat) : nv l = (l.map fun (v : Nat) => (v : Int)).map V.int := by
  unfold nv
  rw [List.map_map]
  rfl
theorem nv_at {l : List Nat} {i v : Nat} (h : l[i]? = some v) : (nv l)[i]? = some (.int (v : Int)) := by
  unfold nv
  rw [List.getElem?_map, h]
  rfl
theorem of_nv {l : List Nat} {i : Nat} {x : V} (h : (nv l)[i]? = some x) : ∃ v : Nat, x = .int (v : Int) ∧ l[i]? = some v := by
  unfold nv at h
  rw [List.getElem?_map] at h
  cases e : l[i]? with
  | none => rw [e] at h; cases h
  | some a => rw [e] at h; exact ⟨a, (Option.some.inj h).symm, rfl⟩
theorem refs_at {l : List Addr} {i : Nat} {a : Addr} (h : l[i]? = some a) : (l.map V.ref)[i]? = some (.ref a) := by
  rw [List.getElem?_map, h]
  rfl
theorem of_refs {l : List Addr} {i : Nat} {x : V} (h : (l.map V.ref)[i]? = some x) : ∃ a, x = .ref a ∧ l[i]? = some a := by
  rw [List.getElem?_map] at h
  cases e : l[i]? with
  | none => rw [e] at h; cases h
  | some a => rw [e] at h; exact ⟨a, (Option.some.inj h).symm, rfl⟩
theorem nv_in {v : Nat} {l : List Nat} : inV (.int (v : Int)) (nv l) = decide (v ∈ l) := by
  unfold inV nv
  rw [List.any_map, Bool.eq_iff_iff, List.any_eq_true, decide_eq_true_eq]
  constructor
  · rintro ⟨a, ha, e⟩
    have e2 : (a : Int) = (v : Int) := by simpa [eqV] using e
    have : a = v := by omega
    rw [← this]; exact ha
  · intro h
    exact ⟨v, h, by simp [eqV]⟩
theorem x_inN {K : PySem.W.Frag} {H : Hp} {p : Addr} {v : Nat} {l : List Nat} {Q : VK} (h : H p = some (.lst (nv l))) (k : Q (.bl (decide (v ∈ l))) H) : rIn K false (.int (v : Int)) (.ref p) H Q := by
  refine x_in h rfl (nv_flat l) ?_
  rw [nv_in]
  exact k
theorem x_ninN {K : PySem.W.Frag} {H : Hp} {p : Addr} {v : Nat} {l : List Nat} {Q : VK} (h : H p = some (.lst (nv l))) (k : Q (.bl (!decide (v ∈ l))) H) : rIn K true (.int (v : Int)) (.ref p) H Q := by
  refine x_nin h rfl (nv_flat l) ?_
  rw [nv_in]
  exact k
/-- without u -/
def Hd (u : Addr) (H : Hp) : Hp := fun a => if a = u then none else H a
theorem hd_at {u a : Addr} {H : Hp} {o : HO} (h : H a = some o) (n : a ≠ u) : Hd u H a = some o := by unfold Hd; rw [if_neg n]; exact h
theorem hd_of {u a : Addr} {H : Hp} {o : HO} (h : Hd u H a = some o) : H a = some o ∧ a ≠ u := by
  unfold Hd at h
  split at h
  · cases h
  · rename_i n
    exact ⟨h, n⟩
theorem hd_same {u : Addr} {H : Hp} : Same (Hd u H) H := fun _ _ h => (hd_of h).1
theorem Keep.hd {u : Addr} {H H' : Hp} (k : Keep u H H') : Same (Hd u H) (Hd u H') := fun a o h => hd_at (k a o (hd_of h).1 (hd_of h).2) (hd_of h).2
theorem Same.hd {u : Addr} {H H' : Hp} (k : Same H H') : Same (Hd u H) (Hd u H') := fun a o h => hd_at (k a o (hd_of h).1) (hd_of h).2
/-- what is new, and x -/
def Nw (x : Addr) (H H' : Hp) : Hp := fun a => if a = x ∨ H a = none then H' a else none
theorem nw_at {x a : Addr} {H H' : Hp} {o : HO} (h : H' a = some o) (n : a = x ∨ H a = none) : Nw x H H' a = some o := by unfold Nw; rw [if_pos n]; exact h
theorem nw_of {x a : Addr} {H H' : Hp} {o : HO} (h : Nw x H H' a = some o) : H' a = some o ∧ (a = x ∨ H a = none) := by
  unfold Nw at h
  split at h
  · rename_i n
    exact ⟨h, n⟩
  · cases h
theorem nw_same {x : Addr} {H H' : Hp} : Same (Nw x H H') H' := fun _ _ h => (nw_of h).1
theorem nw_none {x a : Addr} {H H' : Hp} {o : HO} (h : H a = some o) (n : a ≠ x) : Nw x H H' a = none := by
  unfold Nw
  rw [if_neg]
  rintro (e | e)
  · exact n e
  · rw [h] at e; cases e
def fB (d : Addr) : List (Str × V) := putF "beside" (.ref d) []
theorem fB_beside (d : Addr) : (fB d).lookup ("beside" : Str) = some (.ref d) := by
  unfold fB
  rw [lookup_putF, if_pos rfl]
theorem fB_no (d : Addr) {m : Str} (h : ¬ m = "beside") : (fB d).lookup m = none := by
  unfold fB
  rw [lookup_putF, if_neg h]
  all_goals rfl
structure WebAt (C : Addr) (H : Hp) (x : Addr) (n : Nat) (e : Rel) : Prop where
  ex : ∃ (dx d : Addr) (rows : List Addr), H x = some (.ins C dx (fB d)) ∧ H d = some (.lst (rows.map V.ref)) ∧ rows.length = n ∧ ∀ (i : Nat) (a : Addr), rows[i]? = some a → H a = some (.lst (nv (nb n e i)))
theorem WebAt.same {C x : Addr} {H H' : Hp} {n : Nat} {e : Rel} (w : WebAt C H x n e) (k : Same H H') : WebAt C H' x n e := by
  obtain ⟨dx, d, rows, h1, h2, h3, h4⟩ := w.ex
  exact ⟨dx, d, rows, k _ _ h1, k _ _ h2, h3, fun i a h => k _ _ (h4 i a h)⟩
/-- the tuple of a tie -/
def TieV (H : Hp) (v : V) (p : Tie) : Prop := ∃ t, v = .ref t ∧ H t = some (.tup [.int (p.1 : Int), .int (p.2 : Int)])
/-- item by item -/
inductive A2 {α β : Type} (R : α → β → Prop) : List α → List β → Prop where
  | nil : A2 R [] []
  | cons {a : α} {b : β} {as : List α} {bs : List β} : R a b → A2 R as bs → A2 R (a :: as) (b :: bs)
section
variable {α β : Type} {R S : α → β → Prop}
theorem A2.len {as : List α} {bs : List β} (h : A2 R as bs) : as.length = bs.length := by
  induction h with
  | nil => rfl
  | cons _ _ ih => rw [List.length_cons, List.length_cons, ih]
theorem A2.imp {as : List α} {bs : List β} (h : A2 R as bs) (f : ∀ a b, R a b → S a b) : A2 S as bs := by
  induction h with
  | nil => exact .nil
  | cons r _ ih => exact .cons (f _ _ r) ih
theorem A2.get {as : List α} {bs : List β} (h : A2 R as bs) : ∀ {i : Nat} {a : α}, as[i]? = some a → ∃ b, bs[i]? = some b ∧ R a b := by
  induction h with
  | nil => intro i a e; simp at e
  | cons r _ ih =>
    intro i a e
    cases i with
    | zero => cases e; exact ⟨_, rfl, r⟩
    | succ i => exact ih (by simpa using e)
theorem A2.app {as cs : List α} {bs ds : List β} (h : A2 R as bs) (k : A2 R cs ds) : A2 R (as ++ cs) (bs ++ ds) := by
  induction h with
  | nil => exact k
  | cons r _ ih => exact .cons r ih
theorem A2.snoc {as : List α} {bs : List β} {a : α} {b : β} (h : A2 R as bs) (r : R a b) : A2 R (as ++ [a]) (bs ++ [b]) := h.app (.cons r .nil)
theorem A2.perm {as cs : List α} (p : cs.Perm as) : ∀ {bs : List β}, A2 R as bs → ∃ ds, ds.Perm bs ∧ A2 R cs ds := by
  induction p with
  | nil => intro bs h; exact ⟨bs, List.Perm.refl _, h⟩
  | cons x _ ih =>
    intro bs h
    cases h with
    | cons r t =>
      obtain ⟨ds, p, k⟩ := ih t
      exact ⟨_ :: ds, p.cons _, .cons r k⟩
  | swap x y l =>
    intro bs h
    cases h with
    | cons r t =>
      cases t with
      | cons r' t' => exact ⟨_, List.Perm.swap _ _ _, .cons r' (.cons r t')⟩
  | trans _ _ ih1 ih2 =>
    intro bs h
    obtain ⟨ds, p, k⟩ := ih2 h
    obtain ⟨es, q, k'⟩ := ih1 k
    exact ⟨es, q.trans p, k'⟩
end
abbrev TieL (H : Hp) (vs : List V) (ps : List Tie) : Prop := A2 (TieV H) vs ps
theorem TieV.same {H H' : Hp} {v : V} {p : Tie} (k : Same H H') (h : TieV H v p) : TieV H' v p := by
  obtain ⟨t, e, h⟩ := h
  exact ⟨t, e, k _ _ h⟩
theorem TieL.same {H H' : Hp} {vs : List V} {ps : List Tie} (k : Same H H') (h : TieL H vs ps) : TieL H' vs ps := h.imp fun _ _ => TieV.same k
theorem TieV.keep {u : Addr} {H H' : Hp} {us : List V} {v : V} {p : Tie} (k : Keep u H H') (hu : H u = some (.lst us)) (h : TieV H v p) : TieV H' v p := by
  obtain ⟨t, e, h⟩ := h
  exact ⟨t, e, k _ _ h (ne_of h hu (fun z => nomatch z))⟩
theorem TieL.keep {u : Addr} {H H' : Hp} {us : List V} {vs : List V} {ps : List Tie} (k : Keep u H H') (hu : H u = some (.lst us)) (h : TieL H vs ps) : TieL H' vs ps := h.imp fun _ _ => TieV.keep k hu
theorem TieL.upd {u : Addr} {H : Hp} {us vs : List V} {ps : List Tie} {o : HO} (hu : H u = some (.lst us)) (h : TieL H vs ps) : TieL (upd H u o) vs ps := h.keep (keep_self (Keep.refl H)) hu
/-! ### Web(places, ties) -/
/-- the rows that __init__ fills -/
structure Bs (H H1 : Hp) (D : Addr) (rows : List Addr) (f : Nat → List Nat) : Prop where
  sm : Same H H1
  nD : H D = none
  hD : H1 D = some (.lst (rows.map V.ref))
  nd : rows.Nodup
  out : D ∉ rows
  rw : ∀ (i : Nat) (a : Addr), rows[i]? = some a → H a = none ∧ H1 a = some (.lst (nv (f i)))
theorem Bs.push {H H1 : Hp} {D p : Addr} {rows : List Addr} (b : Bs H H1 D rows fun _ => []) (hp : H1 p = none) : Bs H (upd (upd H1 p (.lst [])) D (.lst (rows.map V.ref ++ [V.ref p]))) D (rows ++ [p]) fun _ => [] := by
  have nDp : D ≠ p := ne_of_none b.hD hp
  have np : p ∉ rows := fun h => by
    obtain ⟨i, e⟩ := List.mem_iff_getElem?.mp h
    have := (b.rw i p e).2
    rw [hp] at this
    cases this
  refine ⟨same_mut (b.sm.trans (same_new hp)) b.nD, b.nD, ?_, ?_, ?_, fun i a e => ?_⟩
  · rw [upd_same, List.map_append]
    rfl
  · exact List.nodup_append.mpr ⟨b.nd, by simp, fun x hx y hy => by simp only [List.mem_singleton] at hy; subst hy; exact fun z => np (z ▸ hx)⟩
  · intro h
    rcases List.mem_append.mp h with h | h
    · exact b.out h
    · exact nDp (List.mem_singleton.mp h)
  · by_cases hi : i < rows.length
    · rw [List.getElem?_append_left hi] at e
      have q := b.rw i a e
      have nDa : a ≠ D := fun z => b.out (z ▸ List.mem_of_getElem? e)
      exact ⟨q.1, upd_at nDa (new_at hp q.2)⟩
    · rw [List.getElem?_append_right (by omega)] at e
      have h0 : i - rows.length = 0 := by
        by_cases z : i - rows.length = 0
        · exact z
        · rw [List.getElem?_eq_none (by simp only [List.length_cons, List.length_nil]; omega)] at e
          cases e
      rw [h0] at e
      have ea : p = a := Option.some.inj e
      subst ea
      exact ⟨b.sm.free hp, upd_at nDp.symm upd_same⟩
theorem Bs.app {H H1 : Hp} {D a : Addr} {rows : List Addr} {f g : Nat → List Nat} {i v : Nat} (b : Bs H H1 D rows f) (e : rows[i]? = some a) (hg : g i = f i ++ [v]) (ho : ∀ j, j ≠ i → g j = f j) : Bs H (upd H1 a (.lst (nv (f i) ++ [.int (v : Int)]))) D rows g := by
  have q := b.rw i a e
  have nDa : D ≠ a := fun z => b.out (z ▸ List.mem_of_getElem? e)
  refine ⟨same_mut b.sm q.1, b.nD, upd_at nDa b.hD, b.nd, b.out, fun j c hc => ?_⟩
  by_cases hj : j = i
  · subst hj
    rw [e] at hc
    cases hc
    refine ⟨q.1, ?_⟩
    rw [upd_same, hg, nv_app]
    rfl
  · have q' := b.rw j c hc
    have nca : c ≠ a := fun z => by
      subst z
      exact hj (nd_ix b.nd hc e)
    rw [ho j hj]
    exact ⟨q'.1, upd_at nca q'.2⟩
def spInitW (C : Addr) : Sp := fun vs H Q _ => ∃ (x dx t : Addr) (n : Nat) (vs' : List V) (ps : List Tie), vs = [.ref x, .int (n : Int), .ref t] ∧ H x = some (.ins C dx []) ∧ H t = some (.lst vs') ∧ TieL H vs' ps ∧ TOk n ps ∧ n ≤ 100 ∧ ps.length ≤ 50000 ∧
  ∀ H', Keep x H H' → WebAt C (Nw x H H') x n (eOf ps) → Q .non H'
theorem x_spTie {H : Hp} {Q : VK} {E : XK} {n : Int} {t : Addr} {a b : Int} (h : H t = some (.tup [.int a, .int b])) (q : Q (.bl (decide (0 ≤ a ∧ a < b ∧ b < n))) H) : spTie [.int n, .ref t] H Q E := ⟨n, t, a, b, rfl, h, q⟩
abbrev s_WebD_initD : Stmt := inClass (topS 8) 0
theorem sc_WebD_initD : FnScope ["self", "places", "ties", "beside", "tie", "u", "v", "place", "row"] ["self", "places", "ties"] (defScope s_WebD_initD) := ⟨rfl, rfl, rfl, by decide +kernel, rfl, by decide +kernel, by decide +kernel⟩
section
variable {P : Program} {w : World} {K : PySem.W.Frag} {mg : Str → Option Value} {base : Heap}
theorem m_Web_init {C : Addr} (T : Tx mg) (O_Web : Own K mg "Web" C) (nB : NoAttr K C "beside") (F : MetAt K C "__init__" "Web.__init__" s_WebD_initD ["self", "places", "ties"]) (c_is_integer : Cal P w K mg base CX0 1 "is_integer" (spIsInt K)) (c_is_tie : Cal P w K mg base CX0 2 "is_tie" spTie) :
    Met P w K mg base CX0 3 C "__init__" (spInitW C) := by
  refine F.met sc_WebD_initD (fun vs H Q E h => ?_) (fun f cdv A outer s H vs Q E hr h => ?_)
  · obtain ⟨x, dx, t, n, vs', ps, rfl, _⟩ := h
    rfl
  · obtain ⟨x, dx, t, n, vs', ps, rfl, hx, ht, hT, tok, hn, hl, q⟩ := h
    refine ⟨_, (pss_cons (ps_if (PW.pt (pw_or (pt_not (pt_val (pe_cal c_is_integer hr (by decide) rfl pass0 (pa_cons (pv 1) pa_nil)))) (pw_or1 (pt_cmpR op_lt (pv 1) pe_int (nomark _)))))
        (pss_one ps_never) pss_nil)
      (pss_cons (ps_if (pt_not (pt_val (pe_callB (cl_isi K) (by rfl) T.z_isinstance (by decide +kernel) (pa_cons (pv 2) (pa_cons (pe_bltn (v := .ty "list") (by rfl) T.z_list (by decide +kernel) rfl) pa_nil)))))
        (pss_one ps_never) pss_nil)
      (pss_cons (ps_setLc (i := 3) (own := [("place", 7)]) (g := gName 7) rfl sc_WebD_initD.nd rfl rfl (sw_true rfl rfl rfl (by decide +kernel)) (pi_range1 rfl T.z_range (pa_cons (pv 1) pa_nil)) (blkOk_by (own := [("place", 7)]) (N := ["self", "places", "ties", "beside", "tie", "u", "v", "place", "row"]) (sc := defScope s_WebD_initD) (by decide +kernel)) (fun _ _ _ _ _ => (pg_name (i := 7) sc_WebD_initD.nd rfl (Or.inl rfl))) (fun _ _ _ _ _ => pts_nil) (fun _ _ _ _ _ => (pe_lst pa_nil)))
      (pss_cons (ps_for PassesOwn.never rfl (k_pil K (pv 2)) (pg_name (i := 4) sc_WebD_initD.nd rfl (Or.inl rfl))
        (pss_cons (ps_if (pt_not (pt_val (pe_cal c_is_tie hr (by decide) rfl pass0 (pa_cons (pv 1) (pa_cons (pv 4) pa_nil)))))
        (pss_one ps_never) pss_nil)
      (pss_cons (ps_asg (pv 4) (k_tup (n := 2) K rfl (pgs_cons (pg_name (i := 5) sc_WebD_initD.nd rfl (Or.inl rfl)) (pgs_cons (pg_name (i := 6) sc_WebD_initD.nd rfl (Or.inl rfl)) pgs_nil))))
      (pss_cons (ps_if (pt_cmpR (k_in K) (pv 6) (pe_ix (ix_l K) (pv 3) (pv 5) (fun _ _ => rfl)) (by first | exact nomark _ | rfl))
        (pss_one ps_never) pss_nil)
      (pss_cons (ps_expr (k_bm K PySem.F.plainAttrs_list PySem.F.slot_list_append PySem.F.type_list_append mt_append (pe_ix (ix_l K) (pv 3) (pv 5) (fun _ _ => rfl)) (pa_cons (pv 6) pa_nil)))
      (pss_one (ps_expr (k_bm K PySem.F.plainAttrs_list PySem.F.slot_list_append PySem.F.type_list_append mt_append (pe_ix (ix_l K) (pv 3) (pv 6) (fun _ _ => rfl)) (pa_cons (pv 5) pa_nil)))))))))
      (pss_one (k_sfld K (pv 0) (pe_lc (own := [("row", 8)]) (g := gName 8) rfl sc_WebD_initD.nd (k_pil K (pv 3)) (blkOk_by (own := [("row", 8)]) (N := ["self", "places", "ties", "beside", "tie", "u", "v", "place", "row"]) (sc := defScope s_WebD_initD) (by decide +kernel)) (fun _ _ _ _ _ => (pg_name (i := 8) sc_WebD_initD.nd rfl (Or.inl rfl))) (fun _ _ _ _ _ => pts_nil) (fun _ _ _ _ _ => (pe_callB (cl_sortedI K) (by rfl) T.z_sorted (by decide +kernel) (pa_cons (pv 8) pa_nil)))) rfl)))))), ?_⟩
    walk_at "go"
    refine x_spInt ?_
    walk_at "go"
    intro D hD
    -- beside: a new row for each place
    refine x_lwR (fun i H1 => ∃ rows, rows.length = i ∧ Bs H H1 D rows fun _ => []) ⟨[], rfl, same_new hD, hD, upd_same, List.nodup_nil, by simp, fun i a e => by simp at e⟩ ?_ ?_
    · rintro i H1 hi ⟨rows, rfl, b⟩
      walk_at "go"
      refine x_sz (by decide) fun p hp => ?_
      have nDp : D ≠ p := ne_of_none b.hD hp
      refine ⟨_, upd_at nDp b.hD, sz_lt (by rw [List.length_map]; omega), ?_⟩
      exact ⟨rows ++ [p], by simp, b.push hp⟩
    rintro H1 ⟨rows, hlen, b⟩
    have s1 := b.sm
    walk_at "go"
    -- the ties, one by one
    refine x_fwL (xs := vs') (fun i σ H2 => ∃ y4 y5 y6, σ = [some (.ref x), some (.int (n : Int)), some (.ref t), some (.ref D), y4, y5, y6, none, none] ∧ Bs H H2 D rows (nbr (ps.take i)))
      ⟨none, none, none, rfl, b⟩ ?_ ?_ ?_
    · rintro i σ H2 hi ⟨y4, y5, y6, rfl, b⟩
      exact sq_l (b.sm _ _ ht)
    · rintro i y σ H2 hi ⟨y4, y5, y6, rfl, b⟩
      obtain ⟨p, hp, tp, rfl, htp⟩ := hT.get hi
      have htp2 : H2 tp = some (.tup [.int (p.1 : Int), .int (p.2 : Int)]) := b.sm _ _ htp
      have hok := tok.ok p (List.mem_of_getElem? hp)
      have htk : ps.take (i + 1) = ps.take i ++ [p] := by rw [List.take_add_one, hp]; rfl
      walk_at "go"
      refine x_spTie htp2 ?_
      rw [decide_eq_true (show (0 : Int) ≤ (p.1 : Int) ∧ (p.1 : Int) < (p.2 : Int) ∧ (p.2 : Int) < (n : Int) by omega)]
      have r1 : p.1 < rows.length := by omega
      have r2 : p.2 < rows.length := by omega
      have e1 : rows[p.1]? = some rows[p.1] := List.getElem?_eq_getElem r1
      have e2 : rows[p.2]? = some rows[p.2] := List.getElem?_eq_getElem r2
      have g1 : atI (rows.map V.ref) (p.1 : Int) = some (.ref rows[p.1]) := atI_nat (refs_at e1)
      have g2 : atI (rows.map V.ref) (p.2 : Int) = some (.ref rows[p.2]) := atI_nat (refs_at e2)
      have hD2 := b.hD
      walk_at "go"
      refine x_inN (b.rw _ _ e1).2 ?_
      have tk : TOk n (ps.take i) := ⟨tok.nd.sublist (List.take_sublist _ _), fun z hz => tok.ok z (List.mem_of_mem_take hz)⟩
      have nm : ¬ p.2 ∈ nbr (ps.take i) p.1 := fun h => by
        rcases eOf_iff.mp ((mem_nbr tk).mp h) with h | h
        · have nd := tok.nd
          rw [← List.take_append_drop i ps] at nd
          have hd : p ∈ ps.drop i := by
            refine List.mem_of_getElem? (i := 0) ?_
            rw [List.getElem?_drop]
            exact hp
          exact (List.nodup_append.mp nd).2.2 _ h _ hd rfl
        · have := (tk.ok _ h).1
          simp only at this
          omega
      have q1 := (b.rw _ _ e1).2
      have z1 : (nv (nbr (ps.take i) p.1)).length < 100000 := by
        rw [nv_len]
        have := List.length_filterMap_le (ends p.1) (ps.take i)
        rw [List.length_take] at this
        unfold nbr
        omega
      let f1 : Nat → List Nat := fun j => if j = p.1 then nbr (ps.take i) j ++ [p.2] else nbr (ps.take i) j
      have b1 := b.app (g := f1) (v := p.2) e1 (if_pos rfl) (fun j hj => if_neg hj)
      have hD3 := b1.hD
      have q2 := (b1.rw _ _ e2).2
      have z2 : (nv (f1 p.2)).length < 100000 := by
        rw [nv_len]
        show (if p.2 = p.1 then _ else _ : List Nat).length < _
        rw [if_neg (by omega)]
        have := List.length_filterMap_le (ends p.2) (ps.take i)
        rw [List.length_take] at this
        unfold nbr
        omega
      walk_at "go"
      have b2 := b1.app (g := nbr (ps.take (i + 1))) (v := p.1) e2 (by
        show _ = (if p.2 = p.1 then _ else _ : List Nat) ++ [p.1]
        rw [if_neg (by omega), htk, nbr_snoc]
        unfold ends
        rw [if_neg (by omega), if_pos rfl]
        rfl) (fun j hj => by
        show _ = (if j = p.1 then _ else _ : List Nat)
        rw [htk, nbr_snoc]
        unfold ends
        split
        · rename_i h
          rw [if_pos h.symm]
          rfl
        · rename_i h
          rw [if_neg (fun z => hj z.symm), if_neg (fun z => h z.symm)]
          simp)
      exact ⟨_, _, _, rfl, b2⟩
    · rintro σ H2 ⟨y4, y5, y6, rfl, b⟩
      have hps : ps.take vs'.length = ps := by rw [hT.len, List.take_length]
      rw [hps] at b
      have hD2 := b.hD
      walk_at "go"
      -- the rows, in order
      intro D2 hD2n
      refine x_lwL (xs := rows.map V.ref) (fun i H3 => ∃ outs : List Addr, outs.length = i ∧ Same H2 H3 ∧ H3 D2 = some (.lst (outs.map V.ref)) ∧ ∀ (j : Nat) (a : Addr), outs[j]? = some a → H a = none ∧ a ≠ D2 ∧ H3 a = some (.lst (nv (nb n (eOf ps) j))))
        ⟨[], rfl, same_new hD2n, upd_same, fun j a e => by simp at e⟩ (fun i H3 hi ⟨outs, h1, h2, _⟩ => sq_l (h2 _ _ hD2)) ?_ ?_
      · rintro i y H3 hi ⟨outs, h1, h2, h3, h4⟩
        obtain ⟨a, rfl, ha⟩ := of_refs hi
        have hrow := h2 _ _ (b.rw _ _ ha).2
        walk_at "go"
        rw [nv_ints] at hrow
        refine x_sortedI hrow fun ns' p pm srt hp => ?_
        have e := nbr_sorted tok pm srt
        rw [e, ← nv_ints]
        walk_at "go"
        have npD : D2 ≠ p := ne_of_none h3 hp
        refine ⟨_, upd_at npD h3, sz_lt (by rw [List.length_map]; have := (List.getElem?_eq_some_iff.mp ha).1; omega), ?_⟩
        refine ⟨outs ++ [p], by simp [h1], same_mut (h2.trans (same_new hp)) hD2n, by rw [upd_same, List.map_append]; rfl, fun j c hc => ?_⟩
        by_cases hj : j < outs.length
        · rw [List.getElem?_append_left hj] at hc
          obtain ⟨q1, q2, q3⟩ := h4 j c hc
          exact ⟨q1, q2, upd_at q2 (new_at hp q3)⟩
        · rw [List.getElem?_append_right (by omega)] at hc
          have h0 : j - outs.length = 0 := by
            by_cases z : j - outs.length = 0
            · exact z
            · rw [List.getElem?_eq_none (by simp only [List.length_cons, List.length_nil]; omega)] at hc
              cases hc
          rw [h0] at hc
          cases hc
          have ej : j = i := by omega
          subst ej
          exact ⟨b.sm.free (h2.free hp), npD.symm, upd_at npD.symm upd_same⟩
      · rintro H3 ⟨outs, h1, h2, h3, h4⟩
        walk_at "go"
        have hx3 : H3 x = some (.ins C dx []) := h2 _ _ (b.sm _ _ hx)
        refine x_sfl hx3 O_Web.cl nB (by decide) ?_
        refine q _ ?_ ⟨dx, D2, outs, nw_at upd_same (.inl rfl), nw_at (upd_at (ne_of h3 hx3 (fun z => nomatch z)) h3) (.inr (b.sm.free hD2n)), by rw [h1, List.length_map, hlen]; rfl, fun i a ha => ?_⟩
        · exact keep_self (Same.toKeep (b.sm.trans h2))
        · obtain ⟨q1, q2, q3⟩ := h4 i a ha
          exact nw_at (upd_at (ne_of q3 hx3 (fun z => nomatch z)) q3) (.inr q1)
end
/-! ### orders of places -/
theorem a2_nv (l : List Nat) : A2 (fun (v : V) (k : Nat) => v = .int (k : Int)) (nv l) l := by
  induction l with
  | nil => exact .nil
  | cons x r ih => exact .cons rfl ih
theorem nv_a2 {vs : List V} {l : List Nat} (h : A2 (fun (v : V) (k : Nat) => v = .int (k : Int)) vs l) : vs = nv l := by
  induction h with
  | nil => rfl
  | cons r _ ih => subst r; rw [ih]; rfl
theorem perm_nv {vs : List V} {l : List Nat} (p : vs.Perm (nv l)) : ∃ m, m.Perm l ∧ vs = nv m := by
  obtain ⟨m, q, h⟩ := A2.perm p (a2_nv l)
  exact ⟨m, q, nv_a2 h⟩
theorem rg_nv (N : Nat) : rgV 0 (N : Int) = nv (List.range N) := by
  unfold rgV nv
  rw [show ((N : Int) - 0).toNat = N by omega]
  refine List.map_congr_left fun i _ => ?_
  rw [Int.zero_add]
/-! ### ties as data -/
def dT (p : Tie) : PyData := .tuple [.int (p.1 : Int), .int (p.2 : Int)]
section
variable {K : PySem.W.Frag} {H : Hp}
theorem dp_tie {v : V} {p : Tie} (h : TieV H v p) : Dp K H v (dT p) := by
  obtain ⟨t, rfl, h⟩ := h
  exact .tup (sq_t h) (.cons (.int _) (.cons (.int _) .nil))
theorem dp_ties {vs : List V} {ps : List Tie} (h : TieL H vs ps) : DpAll K H vs (ps.map dT) := by
  induction h with
  | nil => exact .nil
  | cons r _ ih => exact .cons (dp_tie r) ih
theorem dp_tieL {a : Addr} {vs : List V} {ps : List Tie} (ha : H a = some (.lst vs)) (h : TieL H vs ps) : Dp K H (.ref a) (.list (ps.map dT)) := .lst (sq_l ha) (dp_ties h)
end
theorem eqv_tie (p q : Tie) : PyData.eqv (dT p) (dT q) = decide (p = q) := by
  obtain ⟨a, b⟩ := p
  obtain ⟨c, d⟩ := q
  unfold dT
  simp only [PyData.eqv, PyData.eqvAll, Bool.and_true]
  rw [Bool.eq_iff_iff, Bool.and_eq_true, beq_iff_eq, beq_iff_eq, decide_eq_true_eq, Prod.mk.injEq]
  omega
theorem eqv_ties : ∀ ps qs : List Tie, PyData.eqvAll (ps.map dT) (qs.map dT) = decide (ps = qs)
  | [], [] => rfl
  | [], _ :: _ => rfl
  | _ :: _, [] => rfl
  | p :: ps, q :: qs => by
    show (PyData.eqv (dT p) (dT q) && PyData.eqvAll (ps.map dT) (qs.map dT)) = _
    rw [eqv_tie, eqv_ties ps qs, Bool.eq_iff_iff, Bool.and_eq_true, decide_eq_true_eq, decide_eq_true_eq, decide_eq_true_eq, List.cons.injEq]
theorem eqv_tieL (ps qs : List Tie) : PyData.eqv (.list (ps.map dT)) (.list (qs.map dT)) = decide (ps = qs) := by
  simp only [PyData.eqv]
  exact eqv_ties ps qs
theorem lay_ties : ∀ ps : List Tie, PyData.canLayAll0 (ps.map dT) = true
  | [] => rfl
  | p :: ps => by
    show (PyData.canLay0 (dT p) && PyData.canLayAll0 (ps.map dT)) = true
    rw [lay_ties ps]
    rfl
theorem depth_ties : ∀ ps : List Tie, PyData.depthAll (ps.map dT) ≤ 1
  | [] => by simp [PyData.depthAll]
  | p :: ps => by
    have ih := depth_ties ps
    show max (PyData.depth (dT p)) (PyData.depthAll (ps.map dT)) ≤ 1
    have e : PyData.depth (dT p) = 1 := rfl
    omega
theorem shaped_tie (p : Tie) : SeqAt.shaped (dT p) = true := rfl
theorem shaped_ties (ps : List Tie) : SeqAt.shaped (.list (ps.map dT)) = true := by
  unfold SeqAt.shaped
  rw [Bool.and_eq_true, decide_eq_true_eq]
  refine ⟨?_, ?_⟩
  · show PyData.canLayAll0 (ps.map dT) = true
    exact lay_ties ps
  · show PyData.depthAll (ps.map dT) + 1 ≤ 64
    have := depth_ties ps
    omega
theorem any_tie (p : Tie) (ps : List Tie) : ((ps.map dT).any fun z => PyData.eqv z (dT p)) = decide (p ∈ ps) := by
  rw [List.any_map, Bool.eq_iff_iff, List.any_eq_true, decide_eq_true_eq]
  constructor
  · rintro ⟨q, hq, e⟩
    have e2 : PyData.eqv (dT q) (dT p) = true := e
    rw [eqv_tie, decide_eq_true_eq] at e2
    exact e2 ▸ hq
  · intro h
    exact ⟨p, h, by show PyData.eqv (dT p) (dT p) = true; rw [eqv_tie, decide_eq_true rfl]⟩
section
variable {K : PySem.W.Frag} {H : Hp} {Q : VK}
/-- tie not in ties -/
theorem x_ninT {v : V} {p : Tie} {a : Addr} {vs : List V} {ps : List Tie} (hv : TieV H v p) (ha : H a = some (.lst vs)) (h : TieL H vs ps) (k : Q (.bl (!decide (p ∈ ps))) H) : rNotInD K v (.ref a) H Q := by
  refine ⟨dT p, ps.map dT, dp_tie hv, dp_tieL ha h, shaped_tie p, shaped_ties ps, ?_⟩
  rw [any_tie]
  exact k
theorem x_inT {v : V} {p : Tie} {a : Addr} {vs : List V} {ps : List Tie} (hv : TieV H v p) (ha : H a = some (.lst vs)) (h : TieL H vs ps) (k : Q (.bl (decide (p ∈ ps))) H) : rInD K v (.ref a) H Q := by
  refine ⟨dT p, ps.map dT, dp_tie hv, dp_tieL ha h, shaped_tie p, shaped_ties ps, ?_⟩
  rw [any_tie]
  exact k
/-- two lists of ties -/
theorem x_neT {a b : Addr} {vs ws : List V} {ps qs : List Tie} (ha : H a = some (.lst vs)) (h : TieL H vs ps) (hb : H b = some (.lst ws)) (h' : TieL H ws qs) (k : Q (.bl (!decide (ps = qs))) H) : rNeD K (.ref a) (.ref b) H Q := by
  refine ⟨_, _, dp_tieL ha h, dp_tieL hb h', shaped_ties ps, shaped_ties qs, ?_⟩
  rw [eqv_tieL]
  exact k
theorem x_eqT {a b : Addr} {vs ws : List V} {ps qs : List Tie} (ha : H a = some (.lst vs)) (h : TieL H vs ps) (hb : H b = some (.lst ws)) (h' : TieL H ws qs) (k : Q (.bl (decide (ps = qs))) H) : rEqD K (.ref a) (.ref b) H Q := by
  refine ⟨_, _, dp_tieL ha h, dp_tieL hb h', shaped_ties ps, shaped_ties qs, ?_⟩
  rw [eqv_tieL]
  exact k
/-- sorted(ties), all different -/
def keyT (H : Hp) (x : V) : Int × Int := match x with
  | .ref t => match H t with
    | some (.tup [.int a, .int b]) => (a, b)
    | _ => (0, 0)
  | _ => (0, 0)
theorem keyT_of {v : V} {p : Tie} (h : TieV H v p) : keyT H v = ((p.1 : Int), (p.2 : Int)) := by
  obtain ⟨t, rfl, h⟩ := h
  unfold keyT
  simp only [h]
theorem TieL.sorted {ys : List V} {qs : List Tie} (h : TieL H ys qs) (s : SrtO.Srtd (ltP (keyT H)) ys) (nd : qs.Nodup) : qs.Pairwise ltT := by
  induction h with
  | nil => exact List.Pairwise.nil
  | @cons v p vs ps r t ih =>
    refine List.pairwise_cons.mpr ⟨fun q hq => ?_, ih (List.pairwise_cons.mp s).2 (List.nodup_cons.mp nd).2⟩
    obtain ⟨i, e⟩ := List.mem_iff_getElem?.mp hq
    have hi : i < vs.length := by rw [t.len]; exact (List.getElem?_eq_some_iff.mp e).1
    obtain ⟨q', e', r'⟩ := t.get (List.getElem?_eq_getElem hi)
    rw [e] at e'
    cases e'
    have h1 := (List.pairwise_cons.mp s).1 _ (List.getElem_mem hi)
    have h2 := SrtO.lexB_no.mp h1
    rw [keyT_of r, keyT_of r'] at h2
    simp only at h2
    have h3 : p ≠ q := fun z => (List.nodup_cons.mp nd).1 (z ▸ hq)
    unfold ltT
    obtain ⟨a, b⟩ := p
    obtain ⟨c, d⟩ := q
    simp only at h2 h3 ⊢
    have h4 : ¬ (a = c ∧ b = d) := fun ⟨x, y⟩ => h3 (by rw [x, y])
    omega
theorem x_sortedT {a : Addr} {vs : List V} {ps : List Tie} (ha : H a = some (.lst vs)) (h : TieL H vs ps) (nd : ps.Nodup) (k : ∀ ys qs p, qs.Perm ps → TieL H ys qs → qs.Pairwise ltT → H p = none → Q (.ref p) (upd H p (.lst ys))) : rSortedPO K [.ref a] H Q := by
  refine ⟨a, vs, keyT H, rfl, sq_l ha, fun x hx => ?_, fun ys p s st hp => ?_⟩
  · obtain ⟨i, e⟩ := List.mem_iff_getElem?.mp hx
    obtain ⟨q, _, r⟩ := h.get e
    have e2 := keyT_of r
    obtain ⟨t, rfl, r⟩ := r
    exact ⟨t, rfl, by rw [e2]; exact r⟩
  · obtain ⟨qs, pm, h2⟩ := A2.perm st.perm h
    exact k ys qs p pm h2 (TieL.sorted h2 s (pm.nodup_iff.mpr nd)) hp
end
/-! ### lists of lists of places -/
def RowV (H : Hp) (v : V) (r : List Nat) : Prop := ∃ a, v = .ref a ∧ H a = some (.lst (nv r))
abbrev RowL (H : Hp) (vs : List V) (rss : List (List Nat)) : Prop := A2 (RowV H) vs rss
theorem RowV.same {H H' : Hp} {v : V} {r : List Nat} (k : Same H H') (h : RowV H v r) : RowV H' v r := by
  obtain ⟨a, e, h⟩ := h
  exact ⟨a, e, k _ _ h⟩
theorem RowL.same {H H' : Hp} {vs : List V} {rss : List (List Nat)} (k : Same H H') (h : RowL H vs rss) : RowL H' vs rss := h.imp fun _ _ => RowV.same k
/-- rows that are new behind H, each one of its own, in a list at D -/
structure LL (H H1 : Hp) (D : Addr) (rows : List Addr) (rss : List (List Nat)) : Prop where
  sm : Same H H1
  nD : H D = none
  hD : H1 D = some (.lst (rows.map V.ref))
  nd : rows.Nodup
  out : D ∉ rows
  len : rows.length = rss.length
  rw : ∀ (i : Nat) (a : Addr) (r : List Nat), rows[i]? = some a → rss[i]? = some r → H a = none ∧ H1 a = some (.lst (nv r))
section
variable {H H1 H2 : Hp} {D p a : Addr} {rows : List Addr} {rss : List (List Nat)} {l r : List Nat} {i : Nat}
theorem LL.nil (hD : H D = none) : LL H (upd H D (.lst [])) D [] [] := ⟨same_new hD, hD, upd_same, List.nodup_nil, by simp, rfl, fun i a r e => by simp at e⟩
theorem LL.same (b : LL H H1 D rows rss) (s : Same H1 H2) : LL H H2 D rows rss := ⟨b.sm.trans s, b.nD, s _ _ b.hD, b.nd, b.out, b.len, fun i a r h1 h2 => ⟨(b.rw i a r h1 h2).1, s _ _ (b.rw i a r h1 h2).2⟩⟩
theorem LL.get (b : LL H H1 D rows rss) (h : rows[i]? = some a) : ∃ r, rss[i]? = some r ∧ H a = none ∧ H1 a = some (.lst (nv r)) := by
  have hi : i < rss.length := by rw [← b.len]; exact (List.getElem?_eq_some_iff.mp h).1
  exact ⟨_, List.getElem?_eq_getElem hi, b.rw i a _ h (List.getElem?_eq_getElem hi)⟩
theorem LL.mem (b : LL H H1 D rows rss) (h : a ∈ rows) : H a = none ∧ ∃ r, H1 a = some (.lst (nv r)) := by
  obtain ⟨i, e⟩ := List.mem_iff_getElem?.mp h
  obtain ⟨r, _, q1, q2⟩ := b.get e
  exact ⟨q1, r, q2⟩
/-- a new row, put at the end -/
theorem LL.push (b : LL H H1 D rows rss) (h0 : H p = none) (hp : p ≠ D) (np : p ∉ rows) (h1 : H1 p = some (.lst (nv l))) : LL H (upd H1 D (.lst (rows.map V.ref ++ [V.ref p]))) D (rows ++ [p]) (rss ++ [l]) := by
  refine ⟨same_mut b.sm b.nD, b.nD, ?_, ?_, ?_, by rw [List.length_append, List.length_append, b.len]; rfl, fun i a r e e2 => ?_⟩
  · rw [upd_same, List.map_append]
    rfl
  · exact List.nodup_append.mpr ⟨b.nd, by simp, fun x hx y hy => by rw [List.mem_singleton.mp hy]; exact fun z => np (z ▸ hx)⟩
  · intro h
    rcases List.mem_append.mp h with h | h
    · exact b.out h
    · exact hp (List.mem_singleton.mp h).symm
  · by_cases hi : i < rows.length
    · rw [List.getElem?_append_left hi] at e
      rw [List.getElem?_append_left (by rw [← b.len]; exact hi)] at e2
      have q := b.rw i a r e e2
      have nDa : a ≠ D := fun z => b.out (z ▸ List.mem_of_getElem? e)
      exact ⟨q.1, upd_at nDa q.2⟩
    · rw [List.getElem?_append_right (by omega)] at e
      rw [List.getElem?_append_right (by rw [← b.len]; omega), ← b.len] at e2
      have h0' : i - rows.length = 0 := by
        by_cases z : i - rows.length = 0
        · exact z
        · rw [List.getElem?_eq_none (by simp only [List.length_cons, List.length_nil]; omega)] at e
          cases e
      rw [h0'] at e e2
      cases e
      cases e2
      exact ⟨h0, upd_at hp h1⟩
/-- a row that is made at once -/
theorem LL.new (b : LL H H1 D rows rss) (hp : H1 p = none) : LL H (upd (upd H1 p (.lst (nv l))) D (.lst (rows.map V.ref ++ [V.ref p]))) D (rows ++ [p]) (rss ++ [l]) := by
  have nDp : D ≠ p := ne_of_none b.hD hp
  refine (b.same (same_new hp)).push (b.sm.free hp) nDp.symm (fun h => ?_) upd_same
  obtain ⟨_, r, e⟩ := b.mem h
  rw [hp] at e
  cases e
/-- a row is changed -/
theorem LL.set (b : LL H H1 D rows rss) (e : rows[i]? = some a) : LL H (upd H1 a (.lst (nv l))) D rows (rss.set i l) := by
  obtain ⟨r, er, q1, q2⟩ := b.get e
  have nDa : D ≠ a := fun z => b.out (z ▸ List.mem_of_getElem? e)
  refine ⟨same_mut b.sm q1, b.nD, upd_at nDa b.hD, b.nd, b.out, by rw [List.length_set, b.len], fun j c r' hc hr => ?_⟩
  by_cases hj : j = i
  · subst hj
    rw [e] at hc
    cases hc
    rw [List.getElem?_set_self (by rw [← b.len]; exact (List.getElem?_eq_some_iff.mp e).1)] at hr
    cases hr
    exact ⟨q1, upd_same⟩
  · rw [List.getElem?_set_ne (fun z => hj z.symm)] at hr
    have q' := b.rw j c r' hc hr
    have nca : c ≠ a := fun z => by
      subst z
      exact hj (nd_ix b.nd hc e)
    exact ⟨q'.1, upd_at nca q'.2⟩
theorem LL.mut (b : LL H H1 D rows rss) {o : HO} (hp : H1 p = some o) (h : p ≠ D) (np : p ∉ rows) {x : HO} (h0 : H p = none) : LL H (upd H1 p x) D rows rss :=
  ⟨same_mut b.sm h0, b.nD, upd_at h.symm b.hD, b.nd, b.out, b.len, fun i a r h1 h2 => ⟨(b.rw i a r h1 h2).1, upd_at (fun z => np (z ▸ List.mem_of_getElem? h1)) (b.rw i a r h1 h2).2⟩⟩
theorem a2_of_get {α β : Type} {R : α → β → Prop} : ∀ {as : List α} {bs : List β}, as.length = bs.length → (∀ (i : Nat) (a : α) (b : β), as[i]? = some a → bs[i]? = some b → R a b) → A2 R as bs
  | [], [], _, _ => .nil
  | [], _ :: _, h, _ => by simp at h
  | _ :: _, [], h, _ => by simp at h
  | a :: as, b :: bs, h, f => .cons (f 0 a b rfl rfl) (a2_of_get (by simpa using h) fun i x y h1 h2 => f (i + 1) x y (by simpa using h1) (by simpa using h2))
theorem LL.rowL (b : LL H H1 D rows rss) : RowL H1 (rows.map V.ref) rss := a2_of_get (by rw [List.length_map, b.len]) fun i v r h1 h2 => by
  obtain ⟨a, rfl, ha⟩ := of_refs h1
  exact ⟨a, rfl, (b.rw i a r ha h2).2⟩
end
/-! ### as data -/
def dN (l : List Nat) : PyData := .list (l.map fun (v : Nat) => .int (v : Int))
section
variable {K : PySem.W.Frag} {H : Hp} {Q : VK}
theorem dp_all (l : List Nat) : DpAll K H (nv l) (l.map fun (v : Nat) => .int (v : Int)) := by
  induction l with
  | nil => exact .nil
  | cons x r ih => exact .cons (.int _) ih
theorem dp_nv {a : Addr} {l : List Nat} (h : H a = some (.lst (nv l))) : Dp K H (.ref a) (dN l) := .lst (sq_l h) (dp_all l)
theorem dp_rows {vs : List V} {rss : List (List Nat)} (h : RowL H vs rss) : DpAll K H vs (rss.map dN) := by
  induction h with
  | nil => exact .nil
  | cons r _ ih =>
    obtain ⟨a, rfl, h⟩ := r
    exact .cons (dp_nv h) ih
theorem dp_ll {a : Addr} {vs : List V} {rss : List (List Nat)} (ha : H a = some (.lst vs)) (h : RowL H vs rss) : Dp K H (.ref a) (.list (rss.map dN)) := .lst (sq_l ha) (dp_rows h)
end
theorem eqv_ints : ∀ l m : List Nat, PyData.eqvAll (l.map fun (v : Nat) => .int (v : Int)) (m.map fun (v : Nat) => .int (v : Int)) = decide (l = m)
  | [], [] => rfl
  | [], _ :: _ => rfl
  | _ :: _, [] => rfl
  | x :: l, y :: m => by
    show (PyData.eqv (.int (x : Int)) (.int (y : Int)) && PyData.eqvAll (l.map fun (v : Nat) => .int (v : Int)) (m.map fun (v : Nat) => .int (v : Int))) = _
    rw [eqv_ints l m]
    simp only [PyData.eqv]
    rw [Bool.eq_iff_iff, Bool.and_eq_true, beq_iff_eq, decide_eq_true_eq, decide_eq_true_eq, List.cons.injEq]
    exact ⟨fun ⟨h1, h2⟩ => ⟨by omega, h2⟩, fun ⟨h1, h2⟩ => ⟨by omega, h2⟩⟩
theorem eqv_dN (l m : List Nat) : PyData.eqv (dN l) (dN m) = decide (l = m) := by
  unfold dN
  simp only [PyData.eqv]
  exact eqv_ints l m
theorem eqv_dNs : ∀ l m : List (List Nat), PyData.eqvAll (l.map dN) (m.map dN) = decide (l = m)
  | [], [] => rfl
  | [], _ :: _ => rfl
  | _ :: _, [] => rfl
  | x :: l, y :: m => by
    show (PyData.eqv (dN x) (dN y) && PyData.eqvAll (l.map dN) (m.map dN)) = _
    rw [eqv_dNs l m, eqv_dN, Bool.eq_iff_iff, Bool.and_eq_true, decide_eq_true_eq, decide_eq_true_eq, decide_eq_true_eq, List.cons.injEq]
theorem lay_ints : ∀ l : List Nat, PyData.canLayAll0 (l.map fun (v : Nat) => .int (v : Int)) = true
  | [] => rfl
  | x :: l => by
    show (PyData.canLay0 (.int (x : Int)) && PyData.canLayAll0 (l.map fun (v : Nat) => .int (v : Int))) = true
    rw [lay_ints l]
    rfl
theorem dep_ints : ∀ l : List Nat, PyData.depthAll (l.map fun (v : Nat) => .int (v : Int)) = 0
  | [] => rfl
  | x :: l => by
    show max (PyData.depth (.int (x : Int))) (PyData.depthAll (l.map fun (v : Nat) => .int (v : Int))) = 0
    rw [dep_ints l]
    rfl
theorem dep_dN (l : List Nat) : PyData.depth (dN l) = 1 := by
  show PyData.depthAll (l.map fun (v : Nat) => .int (v : Int)) + 1 = 1
  rw [dep_ints]
theorem shaped_dN (l : List Nat) : SeqAt.shaped (dN l) = true := by
  unfold SeqAt.shaped
  rw [Bool.and_eq_true, decide_eq_true_eq, dep_dN]
  exact ⟨lay_ints l, by decide⟩
theorem lay_dNs : ∀ l : List (List Nat), PyData.canLayAll0 (l.map dN) = true
  | [] => rfl
  | x :: l => by
    show (PyData.canLay0 (dN x) && PyData.canLayAll0 (l.map dN)) = true
    rw [lay_dNs l, show PyData.canLay0 (dN x) = true from lay_ints x]
    rfl
theorem dep_dNs : ∀ l : List (List Nat), PyData.depthAll (l.map dN) ≤ 1
  | [] => by simp [PyData.depthAll]
  | x :: l => by
    have ih := dep_dNs l
    have e := dep_dN x
    show max (PyData.depth (dN x)) (PyData.depthAll (l.map dN)) ≤ 1
    omega
theorem shaped_dNs (l : List (List Nat)) : SeqAt.shaped (.list (l.map dN)) = true := by
  unfold SeqAt.shaped
  rw [Bool.and_eq_true, decide_eq_true_eq]
  refine ⟨lay_dNs l, ?_⟩
  have := dep_dNs l
  show PyData.depthAll (l.map dN) + 1 ≤ 64
  omega
section
variable {K : PySem.W.Frag} {H : Hp} {Q : VK} {a b : Addr}
theorem x_eqN {l m : List Nat} (ha : H a = some (.lst (nv l))) (hb : H b = some (.lst (nv m))) (k : Q (.bl (decide (l = m))) H) : rEqD K (.ref a) (.ref b) H Q := by
  refine ⟨_, _, dp_nv ha, dp_nv hb, shaped_dN l, shaped_dN m, ?_⟩
  rw [eqv_dN]
  exact k
theorem x_neN {l m : List Nat} (ha : H a = some (.lst (nv l))) (hb : H b = some (.lst (nv m))) (k : Q (.bl (!decide (l = m))) H) : rNeD K (.ref a) (.ref b) H Q := by
  refine ⟨_, _, dp_nv ha, dp_nv hb, shaped_dN l, shaped_dN m, ?_⟩
  rw [eqv_dN]
  exact k
theorem x_eqLL {vs ws : List V} {l m : List (List Nat)} (ha : H a = some (.lst vs)) (h : RowL H vs l) (hb : H b = some (.lst ws)) (h' : RowL H ws m) (k : Q (.bl (decide (l = m))) H) : rEqD K (.ref a) (.ref b) H Q := by
  refine ⟨_, _, dp_ll ha h, dp_ll hb h', shaped_dNs l, shaped_dNs m, ?_⟩
  show Q (.bl (PyData.eqv (.list (l.map dN)) (.list (m.map dN)))) H
  simp only [PyData.eqv]
  rw [eqv_dNs]
  exact k
theorem x_neLL {vs ws : List V} {l m : List (List Nat)} (ha : H a = some (.lst vs)) (h : RowL H vs l) (hb : H b = some (.lst ws)) (h' : RowL H ws m) (k : Q (.bl (!decide (l = m))) H) : rNeD K (.ref a) (.ref b) H Q := by
  refine ⟨_, _, dp_ll ha h, dp_ll hb h', shaped_dNs l, shaped_dNs m, ?_⟩
  show Q (.bl (!PyData.eqv (.list (l.map dN)) (.list (m.map dN)))) H
  simp only [PyData.eqv]
  rw [eqv_dNs]
  exact k
theorem x_sortedN {p : Addr} {l : List Nat} (h : H p = some (.lst (nv l))) (nd : l.Nodup) (k : ∀ (m : List Nat) (q : Addr), m.Perm l → m.Pairwise (· < ·) → H q = none → Q (.ref q) (upd H q (.lst (nv m)))) : rSortedI K [.ref p] H Q := by
  rw [nv_ints] at h
  refine x_sortedI h fun ns q pm srt hq => ?_
  obtain ⟨m, pm2, e⟩ := perm_nv (vs := ns.map V.int) (l := l) (by rw [nv_ints]; exact pm.map _)
  rw [e]
  refine k m q pm2 ?_ hq
  have nd2 : m.Nodup := pm2.nodup_iff.mpr nd
  have e2 : ns = m.map fun (v : Nat) => (v : Int) := by
    rw [nv_ints] at e
    exact (List.map_inj_right (fun a b h => V.int.inj h)).mp e
  rw [e2] at srt
  refine ((List.pairwise_map.mp srt).and nd2).imp fun h => ?_
  omega
end
/-! ### more steps -/
theorem k_revL {X : Cx} (K : PySem.W.Frag) {e : Expr} {te : TE} {k : Nat} {p1 p2 p3 pos : Pos} (he : PE X e te) (hK : X.K = K := by rfl) : PE X (.Subscript e (.Slice none none (some (.UnaryOp .USub (.Constant (.int 1) k p1) p2)) p3) pos) (tRevL K te) := by subst hK; exact pe_revL he
section
variable {X : Cx} {CX : CXT} {k j : Nat} {C : Addr} {m : Str} {sp : Sp} {E : XK} {o e : Expr} {es : List Expr} {ta : TE} {t : TA} {pos apos : Pos}
theorem pe_mth {x : Str} {pl : Sem Bool} (c : Met X.prog X.w X.K X.mg X.base CX k C m sp) (O : Own X.K X.mg x C) (hr : Room j X.A) (hk : k ≤ j) (hx : Passes CX X E) (he : PE X o ta) (ha : PA X (e :: es) t)
    (hst : starEach (e :: es) X.env = (false, eval e X.env) :: starEach es X.env := by rfl) (hpl : (backTo pos (starEach es X.env)).any (·.1) = false := by rfl)
    (ht : eval (.Call (.Attribute o m apos) (e :: es) [] pos) X.env = (do
      let ov ← eval o X.env
      standAt apos.atName
      let (f, first) ← holding [ov] (getMethod ov m pl)
      callWith pos f first (backTo pos (starEach (e :: es) X.env)) (backToKw pos (keywordEach [] X.env))) := by rfl) :
    PE X (.Call (.Attribute o m apos) (e :: es) [] pos) (tMeth C m sp [] E ta t) := by
  obtain ⟨f, fd, ps, F, m1, m2, m3, b⟩ := c.ex
  exact pe_meth (pl := pl) he O.cl ⟨m1, m2, m3⟩ F (hr.mono hk) b .nil hx ha hst hpl ht
theorem pe_mth0 {x : Str} {pl : Sem Bool} (c : Met X.prog X.w X.K X.mg X.base CX k C m sp) (O : Own X.K X.mg x C) (hr : Room j X.A) (hk : k ≤ j) (hx : Passes CX X E) (he : PE X o ta)
    (ht : eval (.Call (.Attribute o m apos) [] [] pos) X.env = (do
      let ov ← eval o X.env
      standAt apos.atName
      let (f, first) ← holding [ov] (getMethod ov m pl)
      callWith pos f first (backTo pos (starEach [] X.env)) (backToKw pos (keywordEach [] X.env))) := by rfl) :
    PE X (.Call (.Attribute o m apos) [] [] pos) (tMeth C m sp [] E ta tNil) := by
  obtain ⟨f, fd, ps, F, m1, m2, m3, b⟩ := c.ex
  exact pe_meth0 (pl := pl) he O.cl ⟨m1, m2, m3⟩ F (hr.mono hk) b .nil hx ht
end
section
variable {H : Hp} {σ : St} {Q : VK} {l b : Addr} {xs zs : List V}
theorem x_clear (s : H l = some (.lst xs)) (h : Q .non (upd H l (.lst []))) : rClear (.ref l) [] H Q := ⟨l, xs, rfl, rfl, s, h⟩
theorem x_cat (s : H l = some (.lst xs)) (s2 : H b = some (.lst zs)) (z : xs.length + zs.length ≤ 100000) (h : ∀ p, H p = none → Q (.ref p) (upd H p (.lst (xs ++ zs)))) : rCat (.ref l) (.ref b) H Q :=
  ⟨l, b, xs, zs, rfl, rfl, s, s2, Nat.le_trans z (by decide), h⟩
theorem x_revT {K : PySem.W.Frag} {te : TE} (h : te σ H fun x H1 => ∃ a xs, x = .ref a ∧ SqL K H1 a xs ∧ ∀ p, H1 p = none → Q (.ref p) (upd H1 p (.lst xs.reverse))) : tRevL K te σ H Q := h
end
section
variable {σ : St} {H : Hp} {Q : VK}
theorem x_chain {r r' : R2} {ta tb tc : TE} (h : ta σ H fun x H1 => tb σ H1 fun y H2 => r x y H2 fun z H3 => ∃ k, z = .bl k ∧ (if k = true then tc σ H3 fun w' H4 => r' y w' H4 Q else Q (.bl false) H3)) : tChain r r' ta tb tc σ H Q := h
theorem x_sl {r : V → Option Int → Option Int → Hp → VK → Prop} {te : TE} {tl th : TO} (h : te σ H fun x H1 => tl σ H1 fun l H2 => th σ H2 fun u H3 => r x l u H3 Q) : tSl r te tl th σ H Q := h
theorem x_part {t : TE} {R : Option Int → Hp → Prop} (h : t σ H fun x H1 => ∃ i, x = .int i ∧ R (some i) H1) : tPart t σ H R := h
end
section
variable {K : PySem.W.Frag} {σ : St} {H : Hp} {Q : VK}
theorem x_noPart {R : Option Int → Hp → Prop} (h : R none H) : tNoPart σ H R := h
/-- the first k items -/
theorem x_slTake {a : Addr} {xs : List V} {k : Nat} (s : H a = some (.lst xs)) (hk : k ≤ xs.length) (h : ∀ p, H p = none → Q (.ref p) (upd H p (.lst (xs.take k)))) : rSlL K (.ref a) none (some (k : Int)) H Q := by
  refine ⟨a, xs, rfl, sq_l s, fun p hp => ?_⟩
  have e : cutV xs none (some (k : Int)) = xs.take k := by
    have h0 : HT.sIx xs.length 0 none = 0 := rfl
    unfold cutV
    rw [h0, HT.sIx_nat, List.drop_zero, Nat.min_eq_left hk, Nat.sub_zero]
  rw [e]
  exact h p hp
theorem x_slN {a : Addr} {l : List Nat} {k : Nat} (s : H a = some (.lst (nv l))) (hk : k ≤ l.length) (h : ∀ p, H p = none → Q (.ref p) (upd H p (.lst (nv (l.take k))))) : rSlL K (.ref a) none (some (k : Int)) H Q := by
  refine x_slTake s (by rw [nv_len]; exact hk) fun p hp => ?_
  have e : (nv l).take k = nv (l.take k) := by
    unfold nv
    rw [List.map_take]
  rw [e]
  exact h p hp
end
/-! ### own errors -/
/-- what the top has written of the error class x at C -/
structure Exq (K : PySem.W.Frag) (mg : Str → Option Value) (x : Str) (C : Addr) : Prop where
  gC : mg x = some (.ref C)
  xc : PySem.W.excIn K C [.type "ValueError", .type "Exception", .type "BaseException", .type "object"] "ValueError.__new__" = true
  kp : PySem.W.keepIn K (.ref C) = true
  sb : PySem.W.subIn K (.ref C) (.type "BaseException") = some true
  ty : PySem.W.typeIn K (.ref C) = some (.type "type")
  is : PySem.W.isClsIn K C = true
  sf : PySem.W.subIn K (.ref C) (.ref C) = some true
/-- an error of the class at D met by the class at C -/
theorem exm_sub {K : PySem.W.Frag} {mg : Str → Option Value} {x : Str} {C : Addr} {D : Value} {b : Bool} (X : Exq K mg x C) (h : PySem.W.subIn K D (.ref C) = some b) : PySem.W.exmOne K D (.ref C) = some b := by
  have e1 : (PySem.W.subIn K (.ref C) (.type "BaseException") == some true) = true := by rw [X.sb] <;> rfl
  have e2 : ((PySem.W.clsIn K C).isSome && PySem.W.typeIn K (.ref C) == some (.type "type")) = true := by
    have h2' : (PySem.W.clsIn K C).isSome = true := X.is
    rw [h2', X.ty] <;> rfl
  show (if (PySem.W.subIn K (.ref C) (.type "BaseException") == some true) = true then (if ((PySem.W.clsIn K C).isSome && PySem.W.typeIn K (.ref C) == some (.type "type")) = true then PySem.W.subIn K D (.ref C) else none) else none) = some b
  rw [if_pos e1, if_pos e2]
  exact h
theorem passN {X : Cx} : Passes (L2.CX X.prog X.w) X (fun _ _ _ => False) := passes_call L2.takes0 (fun _ _ _ _ h => h)
section
variable {P : Program} {w : World} {K : PySem.W.Frag} {mg : Str → Option Value} {base : Heap}
abbrev BdyX (P : Program) (w : World) (K : PySem.W.Frag) (mg : Str → Option Value) (base : Heap) (N : List Str) (qual : Str) (st : Stmt) (k : Nat) (sp : Sp) : Prop :=
  ∀ (f : Addr) (cdv : Value) (A : Around) (outer : List Env) (s : Shared) (H : Hp) (vs : List V) (Q : VK) (E : XK), Room k (A.deeper (envOfC qual (defScope st) s.heap.objs.size f cdv)) → sp vs H Q E →
      ∃ t, PSs (cxOf (L2.CX P w) P w K mg base N qual (defScope st) f cdv A outer s H E) (defBody st) t ∧ t { nx := fun _ H' => Q .non H', rt := Q } (start N vs) H
/-- the promise of a def that may let an error out -/
theorem DefAt.calX {x : Str} {st : Stmt} {N ps : List Str} {k : Nat} {sp : Sp} (F : DefAt K mg x st ps) (S : FnScope N ps (defScope st)) (len : ∀ vs H Q E, sp vs H Q E → vs.length = ps.length)
    (hbody : BdyX P w K mg base N x st k sp) : Cal P w K mg base (L2.CX P w) (k + 1) x sp := by
  obtain ⟨f, fd, F, m, b⟩ := F.ex
  exact ⟨f, fd, ps, F.okX S len (fun cdv A outer s H vs Q E hr h => hbody f cdv A outer s H vs Q E hr h), m, F.kp, b⟩
theorem MetAt.metX {C : Addr} {m qual : Str} {st : Stmt} {N ps : List Str} {k : Nat} {sp : Sp} (F : MetAt K C m qual st ps) (S : FnScope N ps (defScope st)) (len : ∀ vs H Q E, sp vs H Q E → vs.length = ps.length)
    (hbody : BdyX P w K mg base N qual st k sp) : Met P w K mg base (L2.CX P w) (k + 1) C m sp := by
  obtain ⟨f, fd, F, m1, m2, b⟩ := F.ex
  exact ⟨f, fd, ps, F.okX S len (fun cdv A outer s H vs Q E hr h => hbody f cdv A outer s H vs Q E hr h), m1, m2, F.kp, b⟩
end
section
variable {X : Cx} {k j : Nat} {x : Str} {sp : Sp} {E : St → XK} {e : Expr} {es : List Expr} {t : TA} {p pos : Pos}
theorem pe_calS {CX : CXT} (c : Cal X.prog X.w X.K X.mg X.base CX k x sp) (hr : Room j X.A) (hk : k ≤ j) (hg : Gl X x) (hx : ∀ σ, PassesAt CX X σ (E σ)) (ha : PA X (e :: es) t)
    (hdb : (x == ("__debug__" : Str)) = false := by decide) (he : starEach (e :: es) X.env = (false, eval e X.env) :: starEach es X.env := by rfl) (hpl : (backTo pos (starEach es X.env)).any (·.1) = false := by rfl) :
    PE X (.Call (.Name x p) (e :: es) [] pos) (tCallS sp E t) := by
  obtain ⟨f, fd, ps, F, hm, kp, b⟩ := c.ex
  exact pe_callS F (hr.mono hk) hg hm kp b hx ha hdb he hpl
end
section
variable {K : PySem.W.Frag} {σ : St} {H : Hp} {Q : VK} {ta : TA}
theorem x_callS {sp : Sp} {E : St → XK} (h : ta σ H fun vs H1 => sp vs H1 Q (E σ)) : tCallS sp E ta σ H Q := h
end
/-! ### zip of two lists -/
theorem k_zip {X : Cx} (K : PySem.W.Frag) {e e2 : Expr} {ta : TA} {p pos tpos : Pos} {elts : List Expr} {kk : Nat} (hg : Gl X "zip") (hm : X.mg "zip" = none) (ha : PA X [e, e2] ta) (hK : X.K = K := by rfl)
    (hs : starEach [e, e2] X.env = (false, eval e X.env) :: starEach [e2] X.env := by rfl) (hpl : (backTo pos (starEach [e2] X.env)).any (·.1) = false := by rfl) :
    PI X (.Tuple elts kk tpos) (.Call (.Name "zip" p) [e, e2] [] pos) (iZip K ta) := by
  subst hK
  exact pi_zip hg hm ha hs hpl
def Zz (K : PySem.W.Frag) (vs : List V) (H : Hp) (R : It → Hp → Prop) : Prop := ∃ a b xs ys, vs = [.ref a, .ref b] ∧ SqL K H a xs ∧ SqL K H b ys ∧ R (Itz K a b) H
section
variable {K : PySem.W.Frag} {σ : St} {H : Hp} {Q : VK} {ta : TA} {te : TE} {tt : TT} {g : TG} {tb : TS} {vs : List Nat} {R : It → Hp → Prop} {a b : Addr} {xs ys : List V}
theorem x_zip (h : ta σ H fun vs H1 => Zz K vs H1 R) : iZip K ta σ H R := h
theorem x_zz (s1 : H a = some (.lst xs)) (s2 : H b = some (.lst ys)) (h : R (Itz K a b) H) : Zz K [.ref a, .ref b] H R := ⟨a, b, xs, ys, rfl, sq_l s1, sq_l s2, h⟩
theorem itz_at {T : Addr} {x' y' : V} {i : Nat} (qx : SqL K H a xs) (qy : SqL K H b ys) (hi : i < min xs.length ys.length) (f1 : ∀ xs, SqL K H a xs → xs[i]? = some x') (f2 : ∀ ys, SqL K H b ys → ys[i]? = some y') : xs[i]? = some x' ∧ ys[i]? = some y' := ⟨f1 xs qx, f2 ys qy⟩
theorem x_fwZ {nx : St → Hp → Prop} {rt : VK} {bk ct : St → Hp → Prop} (Pv : Nat → St → Hp → Prop) (h0 : Pv 0 σ H) (hl : ∀ i σ H, Pv i σ H → SqL K H a xs ∧ SqL K H b ys)
    (hs : ∀ i x y T σ H, xs[i]? = some x → ys[i]? = some y → Pv i σ H → H T = none → g (.ref T) σ (upd H T (.tup [x, y])) fun σ2 H2 => tb ⟨Pv (i + 1), rt, nx, Pv (i + 1)⟩ σ2 H2) (hd : ∀ σ H, Pv (min xs.length ys.length) σ H → nx σ H) : FW (Itz K a b) g tb ⟨nx, rt, bk, ct⟩ σ H := by
  refine ⟨fun i m σ H => m = min xs.length ys.length - i ∧ i ≤ min xs.length ys.length ∧ Pv i σ H, ⟨_, rfl, Nat.zero_le _, h0⟩, ?_⟩
  rintro i m σ H ⟨rfl, hi, p⟩
  obtain ⟨qx, qy⟩ := hl i σ H p
  by_cases hlt : i < min xs.length ys.length
  · have hx : xs[i]? = some (xs[i]'(by omega)) := List.getElem?_eq_getElem (by omega)
    have hy : ys[i]? = some (ys[i]'(by omega)) := List.getElem?_eq_getElem (by omega)
    refine .inr ⟨⟨xs, ys, _, _, qx, qy, hx, hy⟩, Pv (i + 1), fun σ' H' p' => ⟨min xs.length ys.length - (i + 1), by omega, rfl, hlt, p'⟩, fun v H' y => ?_⟩
    obtain ⟨T, x', y', rfl, hT, rfl, f1, f2⟩ := y
    exact hs i x' y' T σ H (f1 xs qx) (f2 ys qy) p hT
  · have e : i = min xs.length ys.length := by omega
    rw [e] at p
    exact .inl ⟨⟨xs, ys, qx, qy, by omega⟩, hd σ H p⟩
theorem x_lwZ {D : Addr} (Pv : Nat → Hp → Prop) (h0 : Pv 0 (upd H D (.lst []))) (hl : ∀ i H, Pv i H → SqL K H a xs ∧ SqL K H b ys)
    (hs : ∀ i x y T H, xs[i]? = some x → ys[i]? = some y → Pv i H → H T = none → g (.ref T) (wipe σ vs) (upd H T (.tup [x, y])) fun σ2 H2 => wipe σ2 vs = wipe σ vs ∧ tt σ2 H2 fun b H3 =>
      if b = true then te σ2 H3 fun y H4 => ∃ acc, H4 D = some (.lst acc) ∧ acc.length < sizeLine ∧ Pv (i + 1) (upd H4 D (.lst (acc ++ [y]))) else Pv (i + 1) H3) (hd : ∀ H, Pv (min xs.length ys.length) H → Q (.ref D) H) : LW (Itz K a b) D g tt te vs σ H Q := by
  refine ⟨fun i m H => m = min xs.length ys.length - i ∧ i ≤ min xs.length ys.length ∧ Pv i H, ⟨_, rfl, Nat.zero_le _, h0⟩, ?_⟩
  rintro i m H ⟨rfl, hi, p⟩
  obtain ⟨qx, qy⟩ := hl i H p
  by_cases hlt : i < min xs.length ys.length
  · have hx : xs[i]? = some (xs[i]'(by omega)) := List.getElem?_eq_getElem (by omega)
    have hy : ys[i]? = some (ys[i]'(by omega)) := List.getElem?_eq_getElem (by omega)
    refine .inr ⟨⟨xs, ys, _, _, qx, qy, hx, hy⟩, Pv (i + 1), fun H' p' => ⟨min xs.length ys.length - (i + 1), by omega, rfl, hlt, p'⟩, fun v H' y => ?_⟩
    obtain ⟨T, x', y', rfl, hT, rfl, f1, f2⟩ := y
    exact hs i x' y' T H (f1 xs qx) (f2 ys qy) p hT
  · have e : i = min xs.length ys.length := by omega
    rw [e] at p
    exact .inl ⟨⟨xs, ys, qx, qy, by omega⟩, hd H p⟩
end
/-! ### for .. else over a list -/
def FWE (J : It) (g : TG) (tb u : TS) (D : Ends) (σ : St) (H1 : Hp) : Prop := ∃ W : Nat → Nat → St → Hp → Prop, (∃ m, W 0 m σ H1) ∧ ∀ i m σ H, W i m σ H →
  (J.stop i H ∧ u D σ H) ∨ (J.go i H ∧ ∃ N : St → Hp → Prop, (∀ σ' H', N σ' H' → ∃ m', m' < m ∧ W (i + 1) m' σ' H') ∧ ∀ x H', J.yld i H x H' → g x σ H' fun σ2 H2 => tb { D with nx := N, ct := N, bk := D.nx } σ2 H2)
section
variable {K : PySem.W.Frag} {σ : St} {H : Hp} {wi : TI} {g : TG} {tb u : TS} {a : Addr} {xs : List V}
theorem x_forE {n : St → Hp → Prop} {rt : VK} {bk ct : St → Hp → Prop} (h : wi σ H fun J H1 => FWE J g tb u ⟨n, rt, bk, ct⟩ σ H1) : tForE wi g tb u ⟨n, rt, bk, ct⟩ σ H := h
theorem x_feL {nx : St → Hp → Prop} {rt : VK} {bk ct : St → Hp → Prop} (Pv : Nat → St → Hp → Prop) (h0 : Pv 0 σ H) (hl : ∀ i σ H, Pv i σ H → SqL K H a xs)
    (hs : ∀ i x σ H, xs[i]? = some x → Pv i σ H → g x σ H fun σ2 H2 => tb ⟨Pv (i + 1), rt, nx, Pv (i + 1)⟩ σ2 H2) (hd : ∀ σ H, Pv xs.length σ H → u ⟨nx, rt, bk, ct⟩ σ H) : FWE (Itl K a) g tb u ⟨nx, rt, bk, ct⟩ σ H := by
  refine ⟨fun i m σ H => m = xs.length - i ∧ i ≤ xs.length ∧ Pv i σ H, ⟨_, rfl, Nat.zero_le _, h0⟩, ?_⟩
  rintro i m σ H ⟨rfl, hi, p⟩
  have q := hl i σ H p
  by_cases hlt : i < xs.length
  · have hx : xs[i]? = some xs[i] := List.getElem?_eq_getElem hlt
    refine .inr ⟨⟨xs, xs[i], q, hx⟩, Pv (i + 1), fun σ' H' p' => ⟨xs.length - (i + 1), by omega, rfl, hlt, p'⟩, fun v H' y => ?_⟩
    obtain ⟨rfl, f⟩ := y
    exact hs i v σ H' (f xs q) p
  · have e : i = xs.length := by omega
    rw [e] at p
    exact .inl ⟨⟨xs, q, by omega⟩, hd σ H p⟩
end
/-- a dict of places, each True -/
def sT (S : List Nat) : List (Key × V) := S.map fun (v : Nat) => (Sum.inl (v : Int), V.bl true)
theorem sT_len (S : List Nat) : (sT S).length = S.length := by unfold sT; rw [List.length_map]
theorem sT_some {S : List Nat} {v : Nat} : (valV (sT S) (Sum.inl (v : Int) : Key)).isSome = decide (v ∈ S) := by
  induction S with
  | nil => rfl
  | cons x r ih =>
    show (valV ((Sum.inl (x : Int), V.bl true) :: sT r) (Sum.inl (v : Int) : Key)).isSome = _
    by_cases h : v = x
    · subst h
      rw [valV_pos rfl]
      simp
    · rw [valV_neg (fun z => h (by have := Sum.inl.inj z; omega)), ih]
      simp [h]
theorem sT_put {S : List Nat} {v : Nat} (h : v ∉ S) : putK (sT S) (Sum.inl (v : Int) : Key) (.bl true) = sT (S ++ [v]) := by
  have e : valV (sT S) (Sum.inl (v : Int) : Key) = none := by
    have := sT_some (S := S) (v := v)
    rw [decide_eq_false h] at this
    cases q : valV (sT S) (Sum.inl (v : Int) : Key) with
    | none => rfl
    | some y => rw [q] at this; cases this
  rw [putK_new _ e]
  unfold sT
  rw [List.map_append]
  rfl
/-! ### mirrors: what a value stands for, in a heap F that stays -/
structure Rep (α : Type) where
  r : Hp → V → α → Prop
  mono : ∀ {F F' : Hp} {v : V} {a : α}, Same F F' → r F v a → r F' v a
section
variable {α β γ : Type}
def rZ : Rep Int := ⟨fun _ v i => v = .int i, fun _ h => h⟩
def rN : Rep Nat := ⟨fun _ v n => v = .int (n : Int), fun _ h => h⟩
def rB : Rep Bool := ⟨fun _ v b => v = .bl b, fun _ h => h⟩
def rSt : Rep Str := ⟨fun _ v z => v = .str z, fun _ h => h⟩
def rNo : Rep Unit := ⟨fun _ v _ => v = .non, fun _ h => h⟩
def rV : Rep V := ⟨fun _ v a => v = a, fun _ h => h⟩
def rL (R : Rep α) : Rep (List α) := ⟨fun F v l => ∃ a vs, v = .ref a ∧ F a = some (.lst vs) ∧ A2 (R.r F) vs l, fun s ⟨a, vs, e, h, q⟩ => ⟨a, vs, e, s _ _ h, q.imp fun _ _ => R.mono s⟩⟩
def rT2 (R : Rep α) (S : Rep β) : Rep (α × β) := ⟨fun F v p => ∃ t x y, v = .ref t ∧ F t = some (.tup [x, y]) ∧ R.r F x p.1 ∧ S.r F y p.2, fun s ⟨t, x, y, e, h, q1, q2⟩ => ⟨t, x, y, e, s _ _ h, R.mono s q1, S.mono s q2⟩⟩
def rT3 (R : Rep α) (S : Rep β) (T : Rep γ) : Rep (α × β × γ) := ⟨fun F v p => ∃ t x y z, v = .ref t ∧ F t = some (.tup [x, y, z]) ∧ R.r F x p.1 ∧ S.r F y p.2.1 ∧ T.r F z p.2.2,
  fun s ⟨t, x, y, z, e, h, q1, q2, q3⟩ => ⟨t, x, y, z, e, s _ _ h, R.mono s q1, S.mono s q2, T.mono s q3⟩⟩
def rO (R : Rep α) : Rep (Option α) := ⟨fun F v o => match o with | none => v = .non | some a => R.r F v a, fun {F F' v a} s h => by
  cases a with
  | none => exact h
  | some x => exact R.mono s h⟩
structure Sa where
  p : Hp → Option V → Prop
  mono : ∀ {F F' : Hp} {v : Option V}, Same F F' → p F v → p F' v
def Rep.at (R : Rep α) (a : α) : Sa := ⟨fun F ov => ∃ v, ov = some v ∧ R.r F v a, fun s ⟨v, e, h⟩ => ⟨v, e, R.mono s h⟩⟩
def sRef (c : Addr) : Sa := ⟨fun _ ov => ov = some (.ref c), fun _ h => h⟩
def sAny : Sa := ⟨fun _ _ => True, fun _ h => h⟩
/-- no table, no other thing -/
def Pl (o : HO) : Prop := (∀ ps, o ≠ .tbl ps) ∧ ∀ φ, o ≠ .ext φ
structure Ca where
  p : Hp → HO → Prop
  mono : ∀ {F F' : Hp} {o : HO}, Same F F' → p F o → p F' o
  nt : ∀ {F : Hp} {o : HO}, p F o → Pl o
def cL (R : Rep α) (l : List α) : Ca := ⟨fun F o => ∃ vs, o = .lst vs ∧ A2 (R.r F) vs l, fun s ⟨vs, e, h⟩ => ⟨vs, e, h.imp fun _ _ => R.mono s⟩, fun ⟨vs, e, _⟩ => by subst e; exact ⟨(fun _ z => by cases z), (fun _ z => by cases z)⟩⟩
end
/-- without tables -/
def NoT (F : Hp) : Prop := ∀ a ps, F a ≠ some (.tbl ps)
theorem NoT.upd {F : Hp} (n : NoT F) {p : Addr} {o : HO} (hn : ∀ ps, o ≠ .tbl ps) : NoT (upd F p o) := fun a ps z => by
  by_cases c : a = p
  · rw [c, upd_same] at z
    exact hn ps (Option.some.inj z)
  · rw [upd_ne c] at z
    exact n a ps z
/-- all but the tables -/
def cutT (H : Hp) : Hp := fun a => match H a with | some (.tbl _) => none | o => o
theorem cutT_at {H : Hp} {a : Addr} {o : HO} (e : H a = some o) (n : ∀ ps, o ≠ .tbl ps) : cutT H a = some o := by
  unfold cutT
  split
  · rename_i z
    rw [e] at z
    exact absurd (Option.some.inj z) (n _)
  · exact e
theorem same_cutT (H : Hp) : Same (cutT H) H := fun a o e => by
  unfold cutT at e
  split at e
  · cases e
  · exact e
theorem noT_cutT (H : Hp) : NoT (cutT H) := fun a ps e => by
  unfold cutT at e
  split at e
  · cases e
  · rename_i n
    exact n ps e
theorem sql_cutT {K : PySem.W.Frag} {H : Hp} {a : Addr} {xs : List V} (h : SqL K H a xs) : SqL K (cutT H) a xs := by
  rcases h with h | h
  · rcases h with h | ⟨o, h⟩
    · exact .inl (.inl (cutT_at h (fun _ z => by cases z)))
    · exact .inl (.inr ⟨o, cutT_at h (fun _ z => by cases z)⟩)
  · exact .inr h
/-- what is no table stays -/
def SameN (H H' : Hp) : Prop := ∀ a o, H a = some o → (∀ ps, o ≠ .tbl ps) → H' a = some o
theorem Same.toN {H H' : Hp} (s : Same H H') : SameN H H' := fun a o e _ => s a o e
theorem tabs_upd {T : List (Addr × Str)} {H : Hp} {c : Addr} {oc o : HO} (t : LamX.Tabs T H) (e : H c = some oc) (n : Pl oc) : LamX.Tabs T (upd H c o) := fun p hp => by
  obtain ⟨ps, h1, h2, h3⟩ := t p hp
  refine ⟨ps, ?_, h2, fun pos cv hc => ?_⟩
  · rw [upd_ne (fun z => ?_)]
    · exact h1
    · rw [z, e] at h1
      exact n.1 ps (Option.some.inj h1)
  · obtain ⟨c', e1, e2⟩ := h3 pos cv hc
    refine ⟨c', e1, ?_⟩
    rw [upd_ne (fun z => ?_)]
    · exact e2
    · rw [z, e] at e2
      exact n.2 _ (Option.some.inj e2)
theorem tabs_keep {T : List (Addr × Str)} {H H' : Hp} {c : Addr} {oc : HO} (t : LamX.Tabs T H) (e : H c = some oc) (n : Pl oc) (k : ∀ p o, H p = some o → p ≠ c → H' p = some o) : LamX.Tabs T H' := fun p hp => by
  obtain ⟨ps, h1, h2, h3⟩ := t p hp
  refine ⟨ps, k _ _ h1 (fun z => ?_), h2, fun pos cv hc => ?_⟩
  · rw [z, e] at h1
    exact n.1 ps (Option.some.inj h1)
  · obtain ⟨c', e1, e2⟩ := h3 pos cv hc
    refine ⟨c', e1, k _ _ e2 (fun z => ?_)⟩
    rw [z, e] at e2
    exact n.2 _ (Option.some.inj e2)
/-- what may be changed; the tables of the lambdas -/
structure Mx where
  ad : List Addr
  tl : List (Addr × Str)
/-- what a run leaves: F grows by what is new, all but M is as it was -/
structure Ext (M : Mx) (F0 H0 F H : Hp) : Prop where
  ff : Same F0 F
  fh : Same F H
  hh : ∀ a o, a ∉ M.ad → H0 a = some o → (∀ ps, o ≠ .tbl ps) → H a = some o
  ap : ∀ a, F0 a = none → H0 a ≠ none → F a = none
  dm : ∀ a, H0 a ≠ none → H a ≠ none
  nt : NoT F
  tb : LamX.Tabs M.tl H0 → LamX.Tabs M.tl H
theorem Ext.refl {M : Mx} {F H : Hp} (s : Same F H) (n : NoT F) : Ext M F H F H := ⟨Same.refl F, s, fun _ _ _ h _ => h, fun _ h _ => h, fun _ h => h, n, fun t => t⟩
theorem Ext.trans {M : Mx} {F0 H0 F H F' H' : Hp} (x : Ext M F0 H0 F H) (y : Ext M F H F' H') : Ext M F0 H0 F' H' :=
  ⟨x.ff.trans y.ff, y.fh, fun a o n h q => y.hh a o n (x.hh a o n h q) q, fun a h n => y.ap a (x.ap a h n) (x.dm a n), fun a n => y.dm a (x.dm a n), y.nt, fun t => y.tb (x.tb t)⟩
theorem Ext.same {T : List (Addr × Str)} {F0 H0 F H : Hp} (x : Ext ⟨[], T⟩ F0 H0 F H) : SameN H0 H := fun a o h q => x.hh a o (by simp) h q
theorem ext_new {T : List (Addr × Str)} {F H : Hp} {p : Addr} {o : HO} (s : Same F H) (n : NoT F) (hp : H p = none) (hn : ∀ ps, o ≠ .tbl ps := by intro ps z; cases z) : Ext ⟨[], T⟩ F H (upd F p o) (upd H p o) := by
  have fp := s.free hp
  refine ⟨same_new fp, fun b x e => ?_, fun a x _ h _ => new_at hp h, fun a h n => ?_, fun a n e => ?_, n.upd hn, fun t => t.ext fun b o e => new_at hp e⟩
  · by_cases c : b = p
    · subst c
      rw [upd_same] at e ⊢
      exact e
    · rw [upd_ne c] at e ⊢
      exact s b x e
  · rw [upd_ne (fun c => n (by rw [c]; exact hp))]
    exact h
  · rw [upd_ne (fun c => n (by rw [c]; exact hp))] at e
    exact n e
/-- where a run stands: slots, cells of its own -/
structure Wst (M : Mx) (F0 H0 : Hp) (ss : List Sa) (cs : List (Addr × Ca)) (σ : St) (F H : Hp) : Prop where
  ex : Ext M F0 H0 F H
  sl : A2 (fun (s : Sa) ov => s.p F ov) ss σ
  cl : ∀ p ∈ cs, (∃ o, H p.1 = some o ∧ p.2.p F o) ∧ F p.1 = none ∧ (p.1 ∈ M.ad ∨ H0 p.1 = none)
  nd : (cs.map (·.1)).Nodup
theorem A2.setL {α β : Type} {R : α → β → Prop} {as : List α} {bs : List β} (h : A2 R as bs) : ∀ {i : Nat} {b : β} {a : α}, bs[i]? = some b → R a b → A2 R (as.set i a) bs := by
  induction h with
  | nil => intro i b a _ _; exact .nil
  | cons q t ih =>
    intro i b a e r
    cases i with
    | zero => cases e; exact .cons r t
    | succ i => exact .cons q (ih (by simpa using e) r)
theorem A2.setB {α β : Type} {R : α → β → Prop} {as : List α} {bs : List β} (h : A2 R as bs) {a : α} {b : β} (r : R a b) : ∀ i : Nat, A2 R (as.set i a) (bs.set i b) := by
  induction h with
  | nil => intro i; exact .nil
  | cons q t ih =>
    intro i
    cases i with
    | zero => exact .cons r t
    | succ i => exact .cons q (ih i)
section
variable {M : Mx} {F0 H0 F H F' H' : Hp} {ss ss' : List Sa} {cs cs' : List (Addr × Ca)} {σ : St} {c p : Addr} {A A' : Ca} {k i : Nat} {o : HO} {α β : Type} {R : Rep α} {a : α} {l : List α}
theorem Wst.fh (h : Wst M F0 H0 ss cs σ F H) : Same F H := h.ex.fh
theorem Wst.nt (h : Wst M F0 H0 ss cs σ F H) : NoT F := h.ex.nt
theorem Wst.tb (h : Wst M F0 H0 ss cs σ F H) (t : LamX.Tabs M.tl H0) : LamX.Tabs M.tl H := h.ex.tb t
theorem Wst.grow (h : Wst M F0 H0 ss cs σ F H) (e : Ext ⟨[], M.tl⟩ F H F' H') : Wst M F0 H0 ss cs σ F' H' := by
  refine ⟨⟨h.ex.ff.trans e.ff, e.fh, fun a o n q z => e.same a o (h.ex.hh a o n q z) z, fun a q n => e.ap a (h.ex.ap a q n) (h.ex.dm a n), fun a n => e.dm a (h.ex.dm a n), e.nt, fun t => e.tb (h.ex.tb t)⟩, h.sl.imp fun s _ => s.mono e.ff, fun p hp => ?_, h.nd⟩
  obtain ⟨⟨o, h1, h2⟩, h3, h4⟩ := h.cl p hp
  exact ⟨⟨o, e.same _ _ h1 (p.2.nt h2).1, p.2.mono e.ff h2⟩, e.ap _ h3 (by rw [h1]; exact nofun), h4⟩
theorem Wst.newC (h : Wst M F0 H0 ss cs σ F H) (hp : H p = none) (q : A.p F o) : Wst M F0 H0 ss ((p, A) :: cs) σ F (upd H p o) := by
  have fp := h.fh.free hp
  have h0 : H0 p = none := by
    cases e : H0 p with
    | none => rfl
    | some x => exact absurd hp (h.ex.dm p (by rw [e]; exact nofun))
  refine ⟨⟨h.ex.ff, same_mut h.fh fp, fun a x n e z => new_at hp (h.ex.hh a x n e z), h.ex.ap, fun a n e => ?_, h.ex.nt, fun t => (h.ex.tb t).ext fun b o e => new_at hp e⟩, h.sl, fun x hx => ?_, ?_⟩
  · rw [upd_ne (fun z => n (by rw [z]; exact h0))] at e
    exact h.ex.dm a n e
  · rcases List.mem_cons.mp hx with rfl | hx
    · exact ⟨⟨o, upd_same, q⟩, fp, .inr h0⟩
    · obtain ⟨⟨o', h1, h2⟩, h3⟩ := h.cl x hx
      exact ⟨⟨o', new_at hp h1, h2⟩, h3⟩
  · rw [List.map_cons, List.nodup_cons]
    refine ⟨fun z => ?_, h.nd⟩
    obtain ⟨x, hx, e⟩ := List.mem_map.mp z
    obtain ⟨⟨o', h1, _⟩, _⟩ := h.cl x hx
    rw [e, hp] at h1
    cases h1
theorem Wst.own (h : Wst M F0 H0 ss cs σ F H) (hp : H p = none) : H0 p = none := by
  cases e : H0 p with
  | none => rfl
  | some x => exact absurd hp (h.ex.dm p (by rw [e]; exact nofun))
theorem Wst.cell (h : Wst M F0 H0 ss cs σ F H) (e : cs[k]? = some (c, A)) : ∃ o, H c = some o ∧ A.p F o := (h.cl _ (List.mem_of_getElem? e)).1
theorem Wst.apart (h : Wst M F0 H0 ss cs σ F H) (e : cs[k]? = some (c, A)) : F c = none := (h.cl _ (List.mem_of_getElem? e)).2.1
theorem Wst.where (h : Wst M F0 H0 ss cs σ F H) (e : cs[k]? = some (c, A)) : c ∈ M.ad ∨ H0 c = none := (h.cl _ (List.mem_of_getElem? e)).2.2
theorem cells_set (e : cs[k]? = some (c, A)) : (cs.set k (c, A')).map (·.1) = cs.map (·.1) := by
  rw [List.map_set]
  refine List.ext_getElem? fun j => ?_
  rw [List.getElem?_set]
  split
  · rename_i z
    subst z
    rw [List.getElem?_map, e]
    have := (List.getElem?_eq_some_iff.mp e).1
    simp [this]
  · rfl
theorem cells_mem (nd : (cs.map (·.1)).Nodup) (e : cs[k]? = some (c, A)) {x : Addr × Ca} (hx : x ∈ cs.set k (c, A')) : x = (c, A') ∨ (x ∈ cs ∧ x.1 ≠ c) := by
  obtain ⟨j, hj⟩ := List.mem_iff_getElem?.mp hx
  rw [List.getElem?_set] at hj
  split at hj
  · rename_i z
    split at hj
    · exact .inl (Option.some.inj hj).symm
    · cases hj
  · rename_i z
    refine .inr ⟨List.mem_of_getElem? hj, fun q => ?_⟩
    have e1 : (cs.map (·.1))[j]? = some c := by rw [List.getElem?_map, hj]; exact congrArg some q
    have e2 : (cs.map (·.1))[k]? = some c := by rw [List.getElem?_map, e]; rfl
    exact z (nd_ix nd e2 e1)
theorem Wst.call1 (h : Wst M F0 H0 ss cs σ F H) (e : cs[k]? = some (c, A)) (x : Ext ⟨[c], M.tl⟩ F H F' H') (q : ∃ o, H' c = some o ∧ A'.p F' o) : Wst M F0 H0 ss (cs.set k (c, A')) σ F' H' := by
  have cw := h.where e
  obtain ⟨oc, hc, _⟩ := h.cell e
  have ca := h.apart e
  refine ⟨⟨h.ex.ff.trans x.ff, x.fh, fun a o n q zz => ?_, fun a q n => x.ap a (h.ex.ap a q n) (h.ex.dm a n), fun a n => x.dm a (h.ex.dm a n), x.nt, fun t => x.tb (h.ex.tb t)⟩, h.sl.imp fun s _ => s.mono x.ff, fun p hp => ?_, ?_⟩
  · refine x.hh a o (fun z => ?_) (h.ex.hh a o n q zz) zz
    rw [List.mem_singleton.mp z] at n q
    rcases cw with w | w
    · exact n w
    · rw [w] at q; cases q
  · rcases cells_mem h.nd e hp with rfl | ⟨hp, ne⟩
    · exact ⟨q, x.ap _ ca (by rw [hc]; exact nofun), cw⟩
    · obtain ⟨⟨o, h1, h2⟩, h3, h4⟩ := h.cl p hp
      exact ⟨⟨o, x.hh _ _ (fun z => ne (List.mem_singleton.mp z)) h1 (p.2.nt h2).1, p.2.mono x.ff h2⟩, x.ap _ h3 (by rw [h1]; exact nofun), h4⟩
  · rw [cells_set e]
    exact h.nd
theorem Wst.mut (h : Wst M F0 H0 ss cs σ F H) (e : cs[k]? = some (c, A)) (q : A'.p F o) : Wst M F0 H0 ss (cs.set k (c, A')) σ F (upd H c o) := by
  obtain ⟨oc, hc, hq⟩ := h.cell e
  refine h.call1 e (F' := F) ⟨Same.refl F, same_mut h.fh (h.apart e), fun a x n q _ => ?_, fun a q _ => q, fun a n z => ?_, h.ex.nt, fun t => tabs_upd t hc (A.nt hq)⟩ ⟨o, upd_same, q⟩
  · rw [upd_ne (fun z => n (List.mem_singleton.mpr z))]
    exact q
  · by_cases y : a = c
    · subst y
      rw [upd_same] at z
      cases z
    · rw [upd_ne y] at z
      exact n z
theorem Wst.dropC (h : Wst M F0 H0 ss cs σ F H) (j : Nat) : Wst M F0 H0 ss (cs.eraseIdx j) σ F H :=
  ⟨h.ex, h.sl, fun p hp => h.cl p (List.mem_of_mem_eraseIdx hp), h.nd.sublist ((List.eraseIdx_sublist _ _).map _)⟩
theorem Wst.setS {s : Sa} {ov : Option V} (h : Wst M F0 H0 ss cs σ F H) (q : s.p F ov) (i : Nat) : Wst M F0 H0 (ss.set i s) cs (σ.set i ov) F H := ⟨h.ex, h.sl.setB q i, h.cl, h.nd⟩
theorem Wst.retype {s s' : Sa} (h : Wst M F0 H0 ss cs σ F H) (e : ss[i]? = some s) (q : ∀ ov, s.p F ov → s'.p F ov) : Wst M F0 H0 (ss.set i s') cs σ F H := by
  obtain ⟨ov, h1, h2⟩ := A2.get h.sl e
  exact ⟨h.ex, h.sl.setL h1 (q _ h2), h.cl, h.nd⟩
theorem Wst.toAny (h : Wst M F0 H0 ss cs σ F H) (i : Nat) : Wst M F0 H0 (ss.set i sAny) cs σ F H := by
  cases e : ss[i]? with
  | none =>
    rw [List.set_eq_of_length_le (List.getElem?_eq_none_iff.mp e)]
    exact h
  | some s => exact h.retype e fun _ _ => trivial
/-- a list of one's own that is not changed any more -/
theorem Wst.freeze (h : Wst M F0 H0 ss cs σ F H) (e : cs[k]? = some (c, cL R l)) (h0 : H0 c = none) : ∃ F', Same F F' ∧ Wst M F0 H0 ss (cs.eraseIdx k) σ F' H ∧ (rL R).r F' (.ref c) l := by
  obtain ⟨o, hc, vs, rfl, hv⟩ := h.cell e
  have fc := h.apart e
  have sf : Same F (upd F c (.lst vs)) := same_new fc
  refine ⟨upd F c (.lst vs), sf, ⟨⟨h.ex.ff.trans sf, fun b x q => ?_, h.ex.hh, fun a q n => ?_, h.ex.dm, h.ex.nt.upd (fun _ z => by cases z), h.ex.tb⟩, h.sl.imp fun s _ => s.mono sf, fun p hp => ?_, (h.dropC k).nd⟩, ⟨c, vs, rfl, upd_same, hv.imp fun _ _ => R.mono sf⟩⟩
  · by_cases z : b = c
    · subst z
      rw [upd_same] at q
      rw [← q]
      exact hc
    · rw [upd_ne z] at q
      exact h.fh b x q
  · rw [upd_ne (fun z => n (by rw [z]; exact h0))]
    exact h.ex.ap a q n
  · obtain ⟨⟨o, h1, h2⟩, h3, h4⟩ := h.cl p (List.mem_of_mem_eraseIdx hp)
    refine ⟨⟨o, h1, p.2.mono sf h2⟩, ?_, h4⟩
    have ne : p.1 ≠ c := fun z => by
      have n2 := (h.dropC k).nd
      obtain ⟨j, hj⟩ := List.mem_iff_getElem?.mp hp
      rw [List.getElem?_eraseIdx] at hj
      have e2 : (cs.map (·.1))[k]? = some c := by rw [List.getElem?_map, e]; rfl
      have fin : ∀ j', j' ≠ k → cs[j']? = some p → False := fun j' nj hj' => by
        have e1 : (cs.map (·.1))[j']? = some c := by rw [List.getElem?_map, hj']; exact congrArg some z
        exact nj (nd_ix h.nd e1 e2)
      split at hj
      · exact fin j (by omega) hj
      · exact fin (j + 1) (by omega) hj
    rw [upd_ne ne]
    exact h3
theorem Wst.toAt (h : Wst M F0 H0 ss cs σ F H) (e : ss[i]? = some (sRef c)) (r : R.r F (.ref c) a) : Wst M F0 H0 (ss.set i (R.at a)) cs σ F H := h.retype e fun ov q => ⟨.ref c, q, r⟩
def wipeS (ss : List Sa) : List Nat → List Sa
  | [] => ss
  | v :: vs => (wipeS ss vs).set v sAny
theorem Wst.wipe (h : Wst M F0 H0 ss cs σ F H) : ∀ vs : List Nat, Wst M F0 H0 (wipeS ss vs) cs (L2.wipe σ vs) F H
  | [] => h
  | v :: vs => (h.wipe vs).setS (s := sAny) trivial v
theorem Wst.as (h : Wst M F0 H0 ss cs σ F H) (e : ss = ss') (e2 : cs = cs') : Wst M F0 H0 ss' cs' σ F H := by subst e; subst e2; exact h
theorem Wst.start {vs : List V} {n : Nat} (s : Same F H) (nt : NoT F) (cl : ∀ p ∈ cs, (∃ o, H p.1 = some o ∧ p.2.p F o) ∧ F p.1 = none ∧ p.1 ∈ M.ad) (nd : (cs.map (·.1)).Nodup) (q : A2 (fun (s : Sa) v => s.p F (some v)) ss vs) :
    Wst M F H (ss ++ List.replicate n sAny) cs (vs.map some ++ List.replicate n none) F H := by
  refine ⟨Ext.refl s nt, ?_, fun p hp => ⟨(cl p hp).1, (cl p hp).2.1, .inl (cl p hp).2.2⟩, nd⟩
  refine A2.app ?_ ?_
  · clear cl nd
    induction q with
    | nil => exact .nil
    | cons r _ ih => exact .cons r ih
  · induction n with
    | zero => exact .nil
    | succ n ih => exact .cons trivial ih
end
/-! ### partial answers -/
section
variable {α β S T : Type}
def gd (p : Prop) [Decidable p] : Option Unit := if p then some () else none
theorem gd_ok {p : Prop} [Decidable p] {u : Unit} (h : gd p = some u) : p := by
  unfold gd at h
  split at h
  · assumption
  · cases h
theorem gd_true {p : Prop} [Decidable p] (h : p) : gd p = some () := if_pos h
theorem bnd {m : Option α} {k : α → Option β} {r : β} (h : m.bind k = some r) : ∃ a, m = some a ∧ k a = some r := Option.bind_eq_some_iff.mp h
theorem ite_t {c : Bool} {a b r : α} (h : (if c = true then a else b) = r) (hc : c = true) : a = r := by rw [if_pos hc] at h; exact h
theorem ite_f {c : Bool} {a b r : α} (h : (if c = true then a else b) = r) (hc : c = false) : b = r := by rw [hc] at h; exact h
def foldO (body : S → α → Option S) : List α → S → Option S
  | [], s => some s
  | x :: xs, s => (body s x).bind (foldO body xs)
inductive Stp (S T : Type) where
  | nx (s : S)
  | bk (s : S)
  | rt (t : T)
def loopO (body : S → α → Option (Stp S T)) : List α → S → Option (Stp S T)
  | [], s => some (.nx s)
  | x :: xs, s => (body s x).bind fun
    | .nx s' => loopO body xs s'
    | .bk s' => some (.bk s')
    | .rt t => some (.rt t)
def compO (f : α → Option (Option β)) : List α → Option (List β)
  | [] => some []
  | x :: xs => (f x).bind fun o => (compO f xs).bind fun l => some (o.toList ++ l)
def whileO (c : S → Option Bool) (body : S → Option (Stp S T)) : Nat → S → Option (Stp S T)
  | 0, _ => none
  | n + 1, s => (c s).bind fun b => if b = true then (body s).bind fun
    | .nx s' => whileO c body n s'
    | .bk s' => some (.bk s')
    | .rt t => some (.rt t) else some (.nx s)
def whlO (c : S → Option Bool) (body : S → Option S) : Nat → S → Option S
  | 0, _ => none
  | n + 1, s => (c s).bind fun b => if b = true then (body s).bind (whlO c body n) else some s
/-- a loop by an invariant -/
theorem foldO_ok {body : S → α → Option S} (I : Nat → S → Prop) {xs : List α} {s0 : S} (h0 : I 0 s0) (hs : ∀ i x s, xs[i]? = some x → I i s → ∃ s', body s x = some s' ∧ I (i + 1) s') : ∃ s, foldO body xs s0 = some s ∧ I xs.length s := by
  induction xs generalizing s0 I with
  | nil => exact ⟨s0, rfl, h0⟩
  | cons x xs ih =>
    obtain ⟨s1, e1, h1⟩ := hs 0 x s0 rfl h0
    obtain ⟨s2, e2, h2⟩ := ih (fun i => I (i + 1)) h1 fun i x s hx hi => hs (i + 1) x s (by simpa using hx) hi
    refine ⟨s2, ?_, h2⟩
    show (body s0 x).bind (foldO body xs) = _
    rw [e1]
    exact e2
theorem foldO_map {body : S → α → Option S} {g : S → α → S} {xs : List α} {s0 : S} (h : ∀ s x, x ∈ xs → body s x = some (g s x)) : foldO body xs s0 = some (xs.foldl g s0) := by
  induction xs generalizing s0 with
  | nil => rfl
  | cons x xs ih =>
    show (body s0 x).bind (foldO body xs) = _
    rw [h s0 x (List.mem_cons_self ..)]
    exact ih fun s y hy => h s y (List.mem_cons_of_mem _ hy)
theorem compO_map {f : α → Option (Option β)} {g : α → Option β} {xs : List α} (h : ∀ x ∈ xs, f x = some (g x)) : compO f xs = some (xs.filterMap g) := by
  induction xs with
  | nil => rfl
  | cons x xs ih =>
    show (f x).bind (fun o => (compO f xs).bind fun l => some (o.toList ++ l)) = _
    rw [h x (List.mem_cons_self ..), ih fun y hy => h y (List.mem_cons_of_mem _ hy)]
    simp only [Option.bind_some, List.filterMap_cons]
    cases g x <;> rfl
theorem compO_all {f : α → Option (Option β)} {g : α → β} {xs : List α} (h : ∀ x ∈ xs, f x = some (some (g x))) : compO f xs = some (xs.map g) := by
  rw [compO_map (g := fun x => some (g x)) h]
  congr 1
  clear h
  induction xs with
  | nil => rfl
  | cons x xs ih => rw [List.filterMap_cons, List.map_cons, ih]
theorem compO_filter {f : α → Option (Option α)} {g : α → Bool} {xs : List α} (h : ∀ x ∈ xs, f x = some (if g x = true then some x else none)) : compO f xs = some (xs.filter g) := by
  rw [compO_map h]
  congr 1
  induction xs with
  | nil => rfl
  | cons x xs ih =>
    have ih := ih fun y hy => h y (List.mem_cons_of_mem _ hy)
    rw [List.filterMap_cons, List.filter_cons, ih]
    cases g x <;> rfl
end
/-! ### mirrors: steps -/
section
variable {M : Mx} {F0 H0 F H F' H' : Hp} {ss ss' : List Sa} {cs cs' : List (Addr × Ca)} {σ : St} {c : Addr} {A A' : Ca} {k i : Nat} {α β γ : Type} {R : Rep α} {S : Rep β} {T : Rep γ} {a : α} {b : β} {l l' : List α} {Q : VK} {Qs : St → Hp → Prop} {K : PySem.W.Frag} {v x y z : V}
theorem w_var (h : Wst M F0 H0 ss cs σ F H) (e : ss[i]? = some (R.at a)) (q : ∀ v, R.r F v a → Q v H) : tVar i σ H Q := by
  obtain ⟨ov, h1, v, rfl, r⟩ := A2.get h.sl e
  exact ⟨v, h1, q v r⟩
theorem w_vN {n : Nat} (h : Wst M F0 H0 ss cs σ F H) (e : ss[i]? = some (rN.at n)) (q : Q (.int (n : Int)) H) : tVar i σ H Q := w_var h e fun v r => by rw [show v = _ from r]; exact q
theorem w_vI {n : Int} (h : Wst M F0 H0 ss cs σ F H) (e : ss[i]? = some (rZ.at n)) (q : Q (.int n) H) : tVar i σ H Q := w_var h e fun v r => by rw [show v = _ from r]; exact q
theorem w_vB {n : Bool} (h : Wst M F0 H0 ss cs σ F H) (e : ss[i]? = some (rB.at n)) (q : Q (.bl n) H) : tVar i σ H Q := w_var h e fun v r => by rw [show v = _ from r]; exact q
theorem w_vS {n : Str} (h : Wst M F0 H0 ss cs σ F H) (e : ss[i]? = some (rSt.at n)) (q : Q (.str n) H) : tVar i σ H Q := w_var h e fun v r => by rw [show v = _ from r]; exact q
theorem w_ref (h : Wst M F0 H0 ss cs σ F H) (e : ss[i]? = some (sRef c)) (q : Q (.ref c) H) : tVar i σ H Q := by
  obtain ⟨ov, h1, h2⟩ := A2.get h.sl e
  rw [show ov = _ from h2] at h1
  exact ⟨_, h1, q⟩
theorem w_cN (n : Nat) (q : Q (.int (n : Int)) H) : tC (.int (n : Int)) σ H Q := q
theorem w_name (h : Wst M F0 H0 ss cs σ F H) (e : ss.set i (R.at a) = ss') (r : R.r F v a) (q : ∀ σ', Wst M F0 H0 ss' cs σ' F H → Qs σ' H) : gName i v σ H Qs := by
  subst e
  exact x_name rfl (q _ (h.setS (s := R.at a) ⟨v, rfl, r⟩ i))
theorem w_nameC (h : Wst M F0 H0 ss cs σ F H) (e : ss.set i (sRef c) = ss') (q : ∀ σ', Wst M F0 H0 ss' cs σ' F H → Qs σ' H) : gName i (.ref c) σ H Qs := by
  subst e
  exact x_name rfl (q _ (h.setS (s := sRef c) rfl i))
theorem w_nameA (h : Wst M F0 H0 ss cs σ F H) (e : ss.set i sAny = ss') (q : ∀ σ', Wst M F0 H0 ss' cs σ' F H → Qs σ' H) : gName i v σ H Qs := by
  subst e
  exact x_name rfl (q _ (h.setS (s := sAny) trivial i))
/-- a list that can be read -/
def LV (R : Rep α) (F H : Hp) (v : V) (l : List α) : Prop := ∃ a vs, v = .ref a ∧ H a = some (.lst vs) ∧ A2 (R.r F) vs l
theorem lv_f (s : Same F H) (r : (rL R).r F v l) : LV R F H v l := by
  obtain ⟨a, vs, e, h, q⟩ := r
  exact ⟨a, vs, e, s _ _ h, q⟩
theorem lv_c (h : Wst M F0 H0 ss cs σ F H) (e : cs[k]? = some (c, cL R l)) : LV R F H (.ref c) l := by
  obtain ⟨o, h1, vs, rfl, q⟩ := h.cell e
  exact ⟨c, vs, rfl, h1, q⟩
theorem A2.getB {α β : Type} {R : α → β → Prop} {as : List α} {bs : List β} (h : A2 R as bs) : ∀ {i : Nat} {b : β}, bs[i]? = some b → ∃ a, as[i]? = some a ∧ R a b := by
  induction h with
  | nil => intro i b e; simp at e
  | cons r _ ih =>
    intro i b e
    cases i with
    | zero => cases e; exact ⟨_, rfl, r⟩
    | succ i => exact ih (by simpa using e)
theorem w_ix {n : Nat} (r : LV R F H v l) (e : l[n]? = some a) (q : ∀ x, R.r F x a → Q x H) : rIxL K v (.int (n : Int)) H Q := by
  obtain ⟨p, vs, rfl, hp, hv⟩ := r
  obtain ⟨x, hx, rx⟩ := hv.getB e
  exact x_ixL hp (atI_nat hx) (q x rx)
/-- an item by an int, from the end, too -/
def ixO (l : List α) (j : Int) : Option α := if 0 ≤ j then l[j.toNat]? else if -j ≤ (l.length : Int) then l[(l.length + j).toNat]? else none
theorem atI_ixO {R : Hp → V → α → Prop} {vs : List V} {j : Int} (hv : A2 (R F) vs l) (e : ixO l j = some a) : ∃ x, atI vs j = some x ∧ R F x a := by
  have zl := hv.len
  unfold ixO at e
  split at e
  · obtain ⟨x, hx, rx⟩ := hv.getB e
    refine ⟨x, ?_, rx⟩
    have := atI_nat (xs := vs) hx
    rwa [show ((j.toNat : Nat) : Int) = j by omega] at this
  · split at e
    · obtain ⟨x, hx, rx⟩ := hv.getB e
      refine ⟨x, ?_, rx⟩
      unfold atI ixN
      rw [if_neg (by omega), if_pos (by omega)]
      show vs[(j + (vs.length : Int)).toNat]? = some x
      rw [← hx]
      congr 1
      omega
    · cases e
theorem w_ixI {j : Int} (r : LV R F H v l) (e : ixO l j = some a) (q : ∀ x, R.r F x a → Q x H) : rIxL K v (.int j) H Q := by
  obtain ⟨p, vs, rfl, hp, hv⟩ := r
  obtain ⟨x, hx, rx⟩ := atI_ixO (R := R.r) hv e
  exact x_ixL hp hx (q x rx)
theorem w_len (r : LV R F H v l) (q : Q (.int (l.length : Int)) H) : rLen K [v] H Q := by
  obtain ⟨p, vs, rfl, hp, hv⟩ := r
  refine x_len hp ?_
  rw [hv.len]
  exact q
theorem a2_nvN {vs : List V} {l : List Nat} (h : A2 (rN.r F) vs l) : vs = nv l := by
  induction h with
  | nil => rfl
  | cons r _ ih => rw [ih, show _ = _ from r]; rfl
theorem a2_bl {vs : List V} {l : List Bool} (h : A2 (rB.r F) vs l) : vs = l.map V.bl := by
  induction h with
  | nil => rfl
  | cons r _ ih => rw [ih, show _ = _ from r]; rfl
theorem a2_iv {vs : List V} {l : List Int} (h : A2 (rZ.r F) vs l) : vs = l.map V.int := by
  induction h with
  | nil => rfl
  | cons r _ ih => rw [ih, show _ = _ from r]; rfl
theorem nvN_a2 (l : List Nat) : A2 (rN.r F) (nv l) l := by
  induction l with
  | nil => exact .nil
  | cons x r ih => exact .cons rfl ih
theorem w_inN {n : Nat} {l : List Nat} (r : LV rN F H v l) (q : Q (.bl (decide (n ∈ l))) H) : rIn K false (.int (n : Int)) v H Q := by
  obtain ⟨p, vs, rfl, hp, hv⟩ := r
  rw [a2_nvN hv] at hp
  exact x_inN hp q
theorem w_ninN {n : Nat} {l : List Nat} (r : LV rN F H v l) (q : Q (.bl (!decide (n ∈ l))) H) : rIn K true (.int (n : Int)) v H Q := by
  obtain ⟨p, vs, rfl, hp, hv⟩ := r
  rw [a2_nvN hv] at hp
  exact x_ninN hp q
/-! new lists -/
def NewL (xs : List V) (H : Hp) (Q : VK) : Prop := xs.length ≤ sizeLine ∧ ∀ p, H p = none → Q (.ref p) (upd H p (.lst xs))
def NewT (xs : List V) (H : Hp) (Q : VK) : Prop := xs.length ≤ sizeLine ∧ ∀ p, H p = none → Q (.ref p) (upd H p (.tup xs))
def NewR (a b : Int) (H : Hp) (Q : VK) : Prop := RgOk a b ∧ ∀ q, H q = none → Q (.ref q) (upd H q (.lst (rgV a b)))
def NewV (K : PySem.W.Frag) (x : V) (H : Hp) (Q : VK) : Prop := ∃ a xs, x = .ref a ∧ SqL K H a xs ∧ ∀ p, H p = none → Q (.ref p) (upd H p (.lst xs.reverse))
theorem m_lst {tr : TA} (h : tr σ H fun xs H1 => NewL xs H1 Q) : tLst tr σ H Q := h
theorem m_tup {tr : TA} (h : tr σ H fun xs H1 => NewT xs H1 Q) : tTup tr σ H Q := h
theorem m_lstRg {te : St → Hp → (Int → Int → Hp → Prop) → Prop} (h : te σ H fun a b H1 => NewR a b H1 Q) : tLstRg te σ H Q := h
theorem m_revT {te : TE} (h : te σ H fun x H1 => NewV K x H1 Q) : tRevL K te σ H Q := h
theorem w_newF {vs : List V} (h : Wst M F0 H0 ss cs σ F H) (r : A2 (R.r F) vs l) (q : ∀ v F' H', Same F F' → Wst M F0 H0 ss cs σ F' H' → (rL R).r F' v l → Q v H') : ∀ p, H p = none → Q (.ref p) (upd H p (.lst vs)) := fun p hp => by
  have e := ext_new (T := M.tl) (o := .lst vs) h.fh h.nt hp
  exact q _ _ _ e.ff (h.grow e) ⟨p, vs, rfl, upd_same, r.imp fun _ _ => R.mono e.ff⟩
theorem w_newC {vs : List V} (h : Wst M F0 H0 ss cs σ F H) (r : A2 (R.r F) vs l) (q : ∀ p H', H0 p = none → Wst M F0 H0 ss ((p, cL R l) :: cs) σ F H' → Q (.ref p) H') : ∀ p, H p = none → Q (.ref p) (upd H p (.lst vs)) := fun p hp =>
  q p _ (h.own hp) (h.newC hp ⟨vs, rfl, r⟩)
theorem w_sz {n : Nat} {P : Prop} (z : n ≤ 100000) (h : P) : n ≤ sizeLine ∧ P := ⟨sz_ok z, h⟩
theorem w_tup2 (h : Wst M F0 H0 ss cs σ F H) (r1 : R.r F x a) (r2 : S.r F y b) (q : ∀ v F' H', Same F F' → Wst M F0 H0 ss cs σ F' H' → (rT2 R S).r F' v (a, b) → Q v H') : NewT [x, y] H Q :=
  ⟨sz_ok (by show 2 ≤ 100000; decide), fun p hp => by
    have e := ext_new (T := M.tl) (o := .tup [x, y]) h.fh h.nt hp
    exact q _ _ _ e.ff (h.grow e) ⟨p, x, y, rfl, upd_same, R.mono e.ff r1, S.mono e.ff r2⟩⟩
theorem w_tup3 {g : γ} (h : Wst M F0 H0 ss cs σ F H) (r1 : R.r F x a) (r2 : S.r F y b) (r3 : T.r F z g) (q : ∀ v F' H', Same F F' → Wst M F0 H0 ss cs σ F' H' → (rT3 R S T).r F' v (a, b, g) → Q v H') : NewT [x, y, z] H Q :=
  ⟨sz_ok (by show 3 ≤ 100000; decide), fun p hp => by
    have e := ext_new (T := M.tl) (o := .tup [x, y, z]) h.fh h.nt hp
    exact q _ _ _ e.ff (h.grow e) ⟨p, x, y, z, rfl, upd_same, R.mono e.ff r1, S.mono e.ff r2, T.mono e.ff r3⟩⟩
theorem w_gT2 {g : TGs} {p : α × β} (s : Same F H) (r : (rT2 R S).r F v p) (q : ∀ x y, R.r F x p.1 → S.r F y p.2 → g [x, y] σ H Qs) : gTup K 2 g v σ H Qs := by
  obtain ⟨t, x, y, rfl, ht, r1, r2⟩ := r
  exact x_gTup (s _ _ ht) rfl (q x y r1 r2)
theorem w_gT3 {g : TGs} {p : α × β × γ} (s : Same F H) (r : (rT3 R S T).r F v p) (q : ∀ x y z, R.r F x p.1 → S.r F y p.2.1 → T.r F z p.2.2 → g [x, y, z] σ H Qs) : gTup K 3 g v σ H Qs := by
  obtain ⟨t, x, y, z, rfl, ht, r1, r2, r3⟩ := r
  exact x_gTup (s _ _ ht) rfl (q x y z r1 r2 r3)
theorem w_ixT20 {p : α × β} (s : Same F H) (r : (rT2 R S).r F v p) (q : ∀ x, R.r F x p.1 → Q x H) : rIxT K v (.int 0) H Q := by
  obtain ⟨t, x, y, rfl, ht, r1, r2⟩ := r
  exact x_ixT (s _ _ ht) rfl (q x r1)
theorem w_ixT21 {p : α × β} (s : Same F H) (r : (rT2 R S).r F v p) (q : ∀ x, S.r F x p.2 → Q x H) : rIxT K v (.int 1) H Q := by
  obtain ⟨t, x, y, rfl, ht, r1, r2⟩ := r
  exact x_ixT (s _ _ ht) rfl (q y r2)
theorem w_ixT30 {p : α × β × γ} (s : Same F H) (r : (rT3 R S T).r F v p) (q : ∀ x, R.r F x p.1 → Q x H) : rIxT K v (.int 0) H Q := by
  obtain ⟨t, x, y, z, rfl, ht, r1, r2, r3⟩ := r
  exact x_ixT (s _ _ ht) rfl (q x r1)
theorem w_ixT31 {p : α × β × γ} (s : Same F H) (r : (rT3 R S T).r F v p) (q : ∀ x, S.r F x p.2.1 → Q x H) : rIxT K v (.int 1) H Q := by
  obtain ⟨t, x, y, z, rfl, ht, r1, r2, r3⟩ := r
  exact x_ixT (s _ _ ht) rfl (q y r2)
theorem w_ixT32 {p : α × β × γ} (s : Same F H) (r : (rT3 R S T).r F v p) (q : ∀ x, T.r F x p.2.2 → Q x H) : rIxT K v (.int 2) H Q := by
  obtain ⟨t, x, y, z, rfl, ht, r1, r2, r3⟩ := r
  exact x_ixT (s _ _ ht) rfl (q z r3)
/-! changes of a list of one's own -/
theorem A2.eraseT {α β : Type} {R : α → β → Prop} {as : List α} {bs : List β} (h : A2 R as bs) : ∀ n, A2 R (as.eraseIdx n) (bs.eraseIdx n) := by
  induction h with
  | nil => intro n; simp; exact .nil
  | cons r t ih =>
    intro n
    cases n with
    | zero => exact t
    | succ n => exact .cons r (ih n)
theorem w_tyC {P : Prop} (h : Wst M F0 H0 ss cs σ F H) (e : cs[k]? = some (c, cL R l)) (q : P) : tyV K "list" (.ref c) H ∧ P := by
  obtain ⟨o, h1, vs, rfl, _⟩ := h.cell e
  exact x_tyL h1 q
theorem w_app (h : Wst M F0 H0 ss cs σ F H) (e : cs[k]? = some (c, cL R l)) (z : l.length < 100000) (r : R.r F v a) (e2 : cs.set k (c, cL R (l ++ [a])) = cs') (q : ∀ H', Wst M F0 H0 ss cs' σ F H' → Q .non H') : rAppend (.ref c) [v] H Q := by
  subst e2
  obtain ⟨o, h1, vs, rfl, hv⟩ := h.cell e
  exact x_append h1 (sz_lt (by rw [hv.len]; exact z)) (q _ (h.mut e ⟨_, rfl, hv.snoc r⟩))
theorem w_ext (h : Wst M F0 H0 ss cs σ F H) (e : cs[k]? = some (c, cL R l)) (r : LV R F H v l') (z : l.length + l'.length ≤ 100000) (e2 : cs.set k (c, cL R (l ++ l')) = cs') (q : ∀ H', Wst M F0 H0 ss cs' σ F H' → Q .non H') : rExtend (.ref c) [v] H Q := by
  subst e2
  obtain ⟨o, h1, vs, rfl, hv⟩ := h.cell e
  obtain ⟨p, ws, rfl, hp, hw⟩ := r
  exact x_ext h1 hp (by rw [hv.len, hw.len]; exact z) (q _ (h.mut e ⟨_, rfl, hv.app hw⟩))
theorem w_set {n : Nat} {Qh : Hp → Prop} (h : Wst M F0 H0 ss cs σ F H) (e : cs[k]? = some (c, cL R l)) (z : n < l.length) (r : R.r F v a) (e2 : cs.set k (c, cL R (l.set n a)) = cs') (q : ∀ H', Wst M F0 H0 ss cs' σ F H' → Qh H') : rSetL (.ref c) (.int (n : Int)) v H Qh := by
  subst e2
  obtain ⟨o, h1, vs, rfl, hv⟩ := h.cell e
  have zl := hv.len
  refine x_setL h1 (by omega) (by omega) (q _ (h.mut e ⟨_, rfl, ?_⟩))
  exact hv.setB r n
theorem w_pop {n : Nat} (h : Wst M F0 H0 ss cs σ F H) (e : cs[k]? = some (c, cL R l)) (z : l.length ≤ 100000) (e1 : l[n]? = some a) (e2 : cs.set k (c, cL R (l.eraseIdx n)) = cs') (q : ∀ x H', R.r F x a → Wst M F0 H0 ss cs' σ F H' → Q x H') : rPopAt (.ref c) [.int (n : Int)] H Q := by
  subst e2
  obtain ⟨o, h1, vs, rfl, hv⟩ := h.cell e
  obtain ⟨x, hx, rx⟩ := hv.getB e1
  have zl := hv.len
  refine x_popAt h1 (by omega) (by omega) (by rw [Int.toNat_natCast]; exact hx) (q x _ rx (h.mut e ⟨_, rfl, ?_⟩))
  rw [Int.toNat_natCast]
  exact hv.eraseT n
/-! reading lists -/
theorem w_listF (h : Wst M F0 H0 ss cs σ F H) (r : LV R F H v l) (q : ∀ v F' H', Same F F' → Wst M F0 H0 ss cs σ F' H' → (rL R).r F' v l → Q v H') : rListOf K [v] H Q := by
  obtain ⟨p, vs, rfl, hp, hv⟩ := r
  exact x_listOf hp (w_newF h hv q)
theorem w_listC (h : Wst M F0 H0 ss cs σ F H) (r : LV R F H v l) (q : ∀ p H', H0 p = none → Wst M F0 H0 ss ((p, cL R l) :: cs) σ F H' → Q (.ref p) H') : rListOf K [v] H Q := by
  obtain ⟨p, vs, rfl, hp, hv⟩ := r
  exact x_listOf hp (w_newC h hv q)
theorem w_lstF {vs : List V} (h : Wst M F0 H0 ss cs σ F H) (z : vs.length ≤ 100000) (hv : A2 (R.r F) vs l) (q : ∀ v F' H', Same F F' → Wst M F0 H0 ss cs σ F' H' → (rL R).r F' v l → Q v H') : NewL vs H Q := ⟨sz_ok z, w_newF h hv q⟩
theorem w_lstC {vs : List V} (h : Wst M F0 H0 ss cs σ F H) (z : vs.length ≤ 100000) (hv : A2 (R.r F) vs l) (q : ∀ p H', H0 p = none → Wst M F0 H0 ss ((p, cL R l) :: cs) σ F H' → Q (.ref p) H') : NewL vs H Q := ⟨sz_ok z, w_newC h hv q⟩
/-- a slice by two numbers -/
def cutL (l : List α) (lo hi : Option Int) : List α := (l.drop (HT.sIx l.length 0 lo)).take (HT.sIx l.length l.length hi - HT.sIx l.length 0 lo)
theorem A2.dropT {α β : Type} {R : α → β → Prop} {as : List α} {bs : List β} (h : A2 R as bs) : ∀ n, A2 R (as.drop n) (bs.drop n) := by
  induction h with
  | nil => intro n; rw [List.drop_nil, List.drop_nil]; exact .nil
  | cons r t ih =>
    intro n
    cases n with
    | zero => exact .cons r t
    | succ n => exact ih n
theorem A2.takeT {α β : Type} {R : α → β → Prop} {as : List α} {bs : List β} (h : A2 R as bs) : ∀ n, A2 R (as.take n) (bs.take n) := by
  induction h with
  | nil => intro n; rw [List.take_nil, List.take_nil]; exact .nil
  | cons r t ih =>
    intro n
    cases n with
    | zero => exact .nil
    | succ n => exact .cons r (ih n)
theorem a2_cut {vs : List V} {lo hi : Option Int} (h : A2 (R.r F) vs l) : A2 (R.r F) (cutV vs lo hi) (cutL l lo hi) := by
  unfold cutV cutL
  rw [h.len]
  exact (h.dropT _).takeT _
theorem w_slF {lo hi : Option Int} (h : Wst M F0 H0 ss cs σ F H) (r : LV R F H v l) (q : ∀ v F' H', Same F F' → Wst M F0 H0 ss cs σ F' H' → (rL R).r F' v (cutL l lo hi) → Q v H') : rSlL K v lo hi H Q := by
  obtain ⟨p, vs, rfl, hp, hv⟩ := r
  exact ⟨p, vs, rfl, sq_l hp, w_newF h (a2_cut hv) q⟩
theorem w_slC {lo hi : Option Int} (h : Wst M F0 H0 ss cs σ F H) (r : LV R F H v l) (q : ∀ p H', H0 p = none → Wst M F0 H0 ss ((p, cL R (cutL l lo hi)) :: cs) σ F H' → Q (.ref p) H') : rSlL K v lo hi H Q := by
  obtain ⟨p, vs, rfl, hp, hv⟩ := r
  exact ⟨p, vs, rfl, sq_l hp, w_newC h (a2_cut hv) q⟩
theorem cut_take {n : Nat} : cutL l none (some (n : Int)) = l.take n := by
  have h0 : HT.sIx l.length 0 none = 0 := rfl
  unfold cutL
  rw [h0, HT.sIx_nat, List.drop_zero, Nat.sub_zero]
  by_cases c : n ≤ l.length
  · rw [Nat.min_eq_left c]
  · rw [Nat.min_eq_right (by omega), List.take_length, List.take_of_length_le (by omega)]
theorem cut_drop {n : Nat} : cutL l (some (n : Int)) none = l.drop n := by
  have h0 : HT.sIx l.length l.length none = l.length := rfl
  unfold cutL
  rw [h0, HT.sIx_nat]
  by_cases c : n ≤ l.length
  · rw [Nat.min_eq_left c, List.take_of_length_le (by rw [List.length_drop]; exact Nat.le_refl _)]
  · rw [Nat.min_eq_right (by omega), List.drop_length, List.drop_of_length_le (by omega), List.take_nil]
/-- a list put in order -/
def srtN (l : List Nat) : List Nat := l.mergeSort fun a b => decide (a ≤ b)
theorem srtN_perm (l : List Nat) : (srtN l).Perm l := List.mergeSort_perm ..
theorem srtN_le (l : List Nat) : (srtN l).Pairwise (· ≤ ·) := by
  have := List.pairwise_mergeSort (le := fun (a b : Nat) => decide (a ≤ b)) (by simp; omega) (by simp; omega) l
  exact this.imp fun h => of_decide_eq_true h
theorem srtN_eq {l m : List Nat} (p : m.Perm l) (s : m.Pairwise (· ≤ ·)) : m = srtN l := List.Perm.eq_of_pairwise (fun a b _ _ h1 h2 => Nat.le_antisymm h1 h2) s (srtN_le l) (p.trans (srtN_perm l).symm)
theorem srt_of {l : List Nat} (r : LV rN F H v l) (q : ∀ p, H p = none → Q (.ref p) (upd H p (.lst (nv (srtN l))))) : rSortedI K [v] H Q := by
  obtain ⟨p, vs, rfl, hp, hv⟩ := r
  rw [a2_nvN hv, nv_ints] at hp
  refine x_sortedI hp fun ns q' pm srt hq => ?_
  obtain ⟨m, pm2, e⟩ := perm_nv (vs := ns.map V.int) (l := l) (by rw [nv_ints]; exact pm.map _)
  rw [e]
  have e2 : ns = m.map fun (v : Nat) => (v : Int) := by
    rw [nv_ints] at e
    exact (List.map_inj_right (fun a b h => V.int.inj h)).mp e
  rw [e2] at srt
  have sm : m.Pairwise (· ≤ ·) := (List.pairwise_map.mp srt).imp fun h => by omega
  rw [srtN_eq pm2 sm]
  exact q q' hq
theorem w_srtF {l : List Nat} (h : Wst M F0 H0 ss cs σ F H) (r : LV rN F H v l) (q : ∀ v F' H', Same F F' → Wst M F0 H0 ss cs σ F' H' → (rL rN).r F' v (srtN l) → Q v H') : rSortedI K [v] H Q := srt_of r (w_newF h (nvN_a2 _) q)
theorem w_srtC {l : List Nat} (h : Wst M F0 H0 ss cs σ F H) (r : LV rN F H v l) (q : ∀ p H', H0 p = none → Wst M F0 H0 ss ((p, cL rN (srtN l)) :: cs) σ F H' → Q (.ref p) H') : rSortedI K [v] H Q := srt_of r (w_newC h (nvN_a2 _) q)
theorem w_all {l : List Bool} (r : LV rB F H v l) (q : Q (.bl (l.all id)) H) : rAll K [v] H Q := by
  obtain ⟨p, vs, rfl, hp, hv⟩ := r
  rw [a2_bl hv] at hp
  exact ⟨p, _, rfl, sq_l hp, q⟩
theorem w_any {l : List Bool} (r : LV rB F H v l) (q : Q (.bl (l.any id)) H) : rAny K [v] H Q := by
  obtain ⟨p, vs, rfl, hp, hv⟩ := r
  rw [a2_bl hv] at hp
  exact ⟨p, _, rfl, sq_l hp, q⟩
theorem A2.rev {α β : Type} {R : α → β → Prop} {as : List α} {bs : List β} (h : A2 R as bs) : A2 R as.reverse bs.reverse := by
  induction h with
  | nil => exact .nil
  | cons r _ ih =>
    rw [List.reverse_cons, List.reverse_cons]
    exact ih.snoc r
theorem w_revF (h : Wst M F0 H0 ss cs σ F H) (r : LV R F H v l) (q : ∀ v F' H', Same F F' → Wst M F0 H0 ss cs σ F' H' → (rL R).r F' v l.reverse → Q v H') : NewV K v H Q := by
  obtain ⟨p, vs, rfl, hp, hv⟩ := r
  exact ⟨p, vs, rfl, sq_l hp, w_newF h hv.rev q⟩
theorem w_revC (h : Wst M F0 H0 ss cs σ F H) (r : LV R F H v l) (q : ∀ p H', H0 p = none → Wst M F0 H0 ss ((p, cL R l.reverse) :: cs) σ F H' → Q (.ref p) H') : NewV K v H Q := by
  obtain ⟨p, vs, rfl, hp, hv⟩ := r
  exact ⟨p, vs, rfl, sq_l hp, w_newC h hv.rev q⟩
end
section
variable {H : Hp} {Q : VK} {a b : Nat}
theorem w_addN (q : Q (.int ((a + b : Nat) : Int)) H) : rI0 (fun i j => .int (i + j)) (.int (a : Int)) (.int (b : Int)) H Q := x_I0 (by rw [← Int.natCast_add]; exact q)
theorem w_subN (z : b ≤ a) (q : Q (.int ((a - b : Nat) : Int)) H) : rI0 (fun i j => .int (i - j)) (.int (a : Int)) (.int (b : Int)) H Q := x_I0 (by rw [← Int.natCast_sub z]; exact q)
theorem w_mulN (z : a < 2 ^ 64 ∨ b < 2 ^ 64) (q : Q (.int ((a * b : Nat) : Int)) H) : rI CMul (fun i j => .int (i * j)) (.int (a : Int)) (.int (b : Int)) H Q := by
  rcases z with z | z
  · exact x_mull (by omega) (by omega) (by rw [← Int.natCast_mul]; exact q)
  · exact x_mulr (by omega) (by omega) (by rw [← Int.natCast_mul]; exact q)
theorem w_modN (z : 0 < b) (q : Q (.int ((a % b : Nat) : Int)) H) : rI (fun _ j => 0 < j) (fun i j => .int (i % j)) (.int (a : Int)) (.int (b : Int)) H Q := x_mod (by omega) (by rw [← Int.natCast_emod]; exact q)
theorem w_divN (z : 0 < b ∧ b < 1073741824) (q : Q (.int ((a / b : Nat) : Int)) H) : rI CDiv (fun i j => .int (i / j)) (.int (a : Int)) (.int (b : Int)) H Q := x_div (by omega) (by omega) (by rw [← Int.natCast_ediv]; exact q)
theorem w_powN (z : b ≤ 1000000 ∧ a < 2 ^ 64) (q : Q (.int ((a ^ b : Nat) : Int)) H) : rI CPow (fun i j => .int (i ^ j.toNat)) (.int (a : Int)) (.int (b : Int)) H Q := x_pow (by omega) (by omega) (by omega) (by rw [Int.toNat_natCast, ← Int.natCast_pow]; exact q)
theorem dec_cast {p q : Prop} {dp : Decidable p} {dq : Decidable q} (h : p ↔ q) : decide p = decide q := by rw [Bool.eq_iff_iff, decide_eq_true_eq, decide_eq_true_eq]; exact h
theorem w_ltN (q : Q (.bl (decide (a < b))) H) : rI0 (fun i j => .bl (decide (i < j))) (.int (a : Int)) (.int (b : Int)) H Q := x_I0 (by rw [dec_cast (p := (a : Int) < (b : Int)) (q := a < b) (by omega)]; exact q)
theorem w_leN (q : Q (.bl (decide (a ≤ b))) H) : rI0 (fun i j => .bl (decide (i ≤ j))) (.int (a : Int)) (.int (b : Int)) H Q := x_I0 (by rw [dec_cast (p := (a : Int) ≤ (b : Int)) (q := a ≤ b) (by omega)]; exact q)
theorem w_gtN (q : Q (.bl (decide (b < a))) H) : rI0 (fun i j => .bl (decide (j < i))) (.int (a : Int)) (.int (b : Int)) H Q := x_I0 (by rw [dec_cast (p := (b : Int) < (a : Int)) (q := b < a) (by omega)]; exact q)
theorem w_geN (q : Q (.bl (decide (b ≤ a))) H) : rI0 (fun i j => .bl (decide (j ≤ i))) (.int (a : Int)) (.int (b : Int)) H Q := x_I0 (by rw [dec_cast (p := (b : Int) ≤ (a : Int)) (q := b ≤ a) (by omega)]; exact q)
theorem w_eqN (q : Q (.bl (decide (a = b))) H) : rEq (.int (a : Int)) (.int (b : Int)) H Q := x_eqI (by rw [dec_cast (p := (a : Int) = (b : Int)) (q := a = b) (by omega)]; exact q)
theorem w_neN (q : Q (.bl (!decide (a = b))) H) : rNe (.int (a : Int)) (.int (b : Int)) H Q := x_neI (by rw [dec_cast (p := (a : Int) = (b : Int)) (q := a = b) (by omega)]; exact q)
theorem w_max2N (q : Q (.int ((max a b : Nat) : Int)) H) : rMax2 [.int (a : Int), .int (b : Int)] H Q := x_max2 (by
  have e : (if (b : Int) > (a : Int) then (b : Int) else (a : Int)) = ((max a b : Nat) : Int) := by split <;> omega
  rw [e]; exact q)
theorem w_min2N (q : Q (.int ((min a b : Nat) : Int)) H) : rMin2 [.int (a : Int), .int (b : Int)] H Q := x_min2 (by
  have e : (if (b : Int) < (a : Int) then (b : Int) else (a : Int)) = ((min a b : Nat) : Int) := by split <;> omega
  rw [e]; exact q)
end
/-! ### mirrors: loops -/
theorem wipe_set {σ : St} {i : Nat} {o : Option V} : ∀ {vs : List Nat}, i ∈ vs → L2.wipe (σ.set i o) vs = L2.wipe σ vs
  | [], h => by cases h
  | v :: vs, h => by
    unfold L2.wipe
    by_cases e : v = i
    · subst e
      by_cases m : v ∈ vs
      · rw [wipe_set m]
      · have : ∀ {vs : List Nat}, v ∉ vs → L2.wipe (σ.set v o) vs = (L2.wipe σ vs).set v o := fun {vs} => by
          induction vs with
          | nil => intro _; rfl
          | cons u us ih =>
            intro hn
            have h1 : u ≠ v := fun z => hn (by rw [z]; exact List.mem_cons_self)
            have h2 : v ∉ us := fun z => hn (List.mem_cons_of_mem _ z)
            show (L2.wipe (σ.set v o) us).set u none = ((L2.wipe σ us).set u none).set v o
            rw [ih h2, List.set_comm _ _ h1.symm]
        rw [this m, List.set_set]
    · rcases List.mem_cons.mp h with z | z
      · exact absurd z.symm e
      · rw [wipe_set z]
theorem wipe_none {σ : St} {v : Nat} : ∀ {vs : List Nat}, v ∈ vs → (L2.wipe σ vs).set v none = L2.wipe σ vs
  | [], h => by cases h
  | u :: us, h => by
    unfold L2.wipe
    by_cases e : u = v
    · subst e
      rw [List.set_set]
    · rcases List.mem_cons.mp h with z | z
      · exact absurd z.symm e
      · rw [List.set_comm _ _ e, wipe_none z]
theorem wipe_wipe {σ : St} {ws : List Nat} : ∀ {vs : List Nat}, (∀ v ∈ vs, v ∈ ws) → L2.wipe (L2.wipe σ ws) vs = L2.wipe σ ws
  | [], _ => rfl
  | v :: vs, h => by
    show (L2.wipe (L2.wipe σ ws) vs).set v none = _
    rw [wipe_wipe fun x hx => h x (List.mem_cons_of_mem _ hx), wipe_none (h v List.mem_cons_self)]
section
variable {M : Mx} {F0 H0 F H : Hp} {α β S T : Type} {R : Rep α} {B : Rep β} {K : PySem.W.Frag} {σ : St} {xs : List α} {v : V} {g : TG} {tb : TS} {tt : TT} {te : TE} {nx : St → Hp → Prop} {rt : VK} {bk ct : St → Hp → Prop} {Q : VK}
/-- at the end of a turn -/
def NX (M : Mx) (F0 H0 : Hp) (n : Nat) (ss : S → (Nat → Addr) → List Sa) (cs : S → (Nat → Addr) → List (Addr × Ca)) (F : Hp) (s : S) : St → Hp → Prop := fun σ H => ∃ ad F', (∀ i, i < n → H0 (ad i) = none) ∧ Same F F' ∧ Wst M F0 H0 (ss s ad) (cs s ad) σ F' H
/-- a walk along the items xs -/
def JOk (J : It) (R : Rep α) (xs : List α) (F H : Hp) : Prop := ∀ i, (i < xs.length → J.go i H ∧ ∀ x H'', J.yld i H x H'' → ∃ F'', (∀ T, Ext ⟨[], T⟩ F H F'' H'') ∧ ∀ a, xs[i]? = some a → R.r F'' x a) ∧ (xs.length ≤ i → J.stop i H)
theorem jok_l {a : Addr} (s : Same F H) (nt : NoT F) (lv : LV R F H (.ref a) xs) : JOk (Itl K a) R xs F H := by
  obtain ⟨p, vs, e, hp, hv⟩ := lv
  cases e
  have zl := hv.len
  intro i
  refine ⟨fun hi => ?_, fun hi => ⟨vs, sq_l hp, by omega⟩⟩
  have ev : vs[i]? = some (vs[i]'(by omega)) := List.getElem?_eq_getElem (by omega)
  refine ⟨⟨vs, _, sq_l hp, ev⟩, fun x H'' y => ?_⟩
  obtain ⟨rfl, f⟩ := y
  refine ⟨F, fun T => Ext.refl s nt, fun a ha => ?_⟩
  obtain ⟨b, hb, r⟩ := hv.get (f vs (sq_l hp))
  rw [hb] at ha
  cases ha
  exact r
theorem jok_r0 {n : Nat} (s : Same F H) (nt : NoT F) : JOk (Itr 0 n) rN (List.range n) F H := by
  intro i
  refine ⟨fun hi => ?_, fun hi => by rw [List.length_range] at hi; exact hi⟩
  rw [List.length_range] at hi
  refine ⟨hi, fun x H'' y => ?_⟩
  obtain ⟨rfl, rfl⟩ := y
  refine ⟨F, fun T => Ext.refl s nt, fun a ha => ?_⟩
  rw [List.getElem?_range hi] at ha
  cases ha
  show V.int (0 + (i : Int)) = _
  rw [Int.zero_add]
theorem jok_r {lo n : Nat} (s : Same F H) (nt : NoT F) : JOk (Itr (lo : Int) n) rN ((List.range n).map fun k => lo + k) F H := by
  intro i
  rw [List.length_map, List.length_range]
  refine ⟨fun hi => ⟨hi, fun x H'' y => ?_⟩, fun hi => hi⟩
  obtain ⟨rfl, rfl⟩ := y
  refine ⟨F, fun T => Ext.refl s nt, fun a ha => ?_⟩
  rw [List.getElem?_map, List.getElem?_range hi] at ha
  cases ha
  show V.int ((lo : Int) + (i : Int)) = V.int ((lo + i : Nat) : Int)
  rw [Int.natCast_add]
theorem jok_z {a b : Addr} {ys : List β} (s : Same F H) (nt : NoT F) (l1 : LV R F H (.ref a) xs) (l2 : LV B F H (.ref b) ys) : JOk (Itz K a b) (rT2 R B) (xs.zip ys) F H := by
  obtain ⟨p, vs, e, hp, hv⟩ := l1
  cases e
  obtain ⟨p, ws, e, hw, hx⟩ := l2
  cases e
  have z1 := hv.len
  have z2 := hx.len
  intro i
  rw [List.length_zip]
  refine ⟨fun hi => ?_, fun hi => ⟨vs, ws, sq_l hp, sq_l hw, by omega⟩⟩
  have e1 : vs[i]? = some (vs[i]'(by omega)) := List.getElem?_eq_getElem (by omega)
  have e2 : ws[i]? = some (ws[i]'(by omega)) := List.getElem?_eq_getElem (by omega)
  refine ⟨⟨vs, ws, _, _, sq_l hp, sq_l hw, e1, e2⟩, fun x H'' y => ?_⟩
  obtain ⟨t, x', y', rfl, ht, rfl, f1, f2⟩ := y
  have x0 : ∀ T, Ext ⟨[], T⟩ F H (upd F t (.tup [x', y'])) (upd H t (.tup [x', y'])) := fun T => ext_new (o := .tup [x', y']) s nt ht
  have x1 := x0 []
  refine ⟨_, x0, fun a ha => ?_⟩
  obtain ⟨c, hc, r1⟩ := hv.get (f1 vs (sq_l hp))
  obtain ⟨d, hd, r2⟩ := hx.get (f2 ws (sq_l hw))
  rw [List.getElem?_zip_eq_some] at ha
  rw [hc, hd] at ha
  obtain ⟨q1, q2⟩ := ha
  have q1 := Option.some.inj q1
  have q2 := Option.some.inj q2
  refine ⟨t, x', y', rfl, upd_same, R.mono x1.ff ?_, B.mono x1.ff ?_⟩
  · rw [← q1]; exact r1
  · rw [← q2]; exact r2
theorem w_for {J : It} {body : S → α → Option S} {s0 e : S} (na : Nat) (ss : S → (Nat → Addr) → List Sa) (cs : S → (Nat → Addr) → List (Addr × Ca)) (hf : foldO body xs s0 = some e) (ad0 : Nat → Addr) (had : ∀ i, i < na → H0 (ad0 i) = none) (hE : Wst M F0 H0 (ss s0 ad0) (cs s0 ad0) σ F H)
    (hJ : ∀ s ad σ' F' H', Same F F' → Wst M F0 H0 (ss s ad) (cs s ad) σ' F' H' → JOk J R xs F' H')
    (hs : ∀ s ad x v s' σ' F' H', (∀ i, i < na → H0 (ad i) = none) → Same F F' → R.r F' v x → Wst M F0 H0 (ss s ad) (cs s ad) σ' F' H' → body s x = some s' → g v σ' H' fun σ2 H2 => tb ⟨NX M F0 H0 na ss cs F s', rt, nx, NX M F0 H0 na ss cs F s'⟩ σ2 H2)
    (hd : ∀ ad σ' F' H', (∀ i, i < na → H0 (ad i) = none) → Same F F' → Wst M F0 H0 (ss e ad) (cs e ad) σ' F' H' → nx σ' H') : FW J g tb ⟨nx, rt, bk, ct⟩ σ H := by
  refine ⟨fun i m σ H => m = xs.length - i ∧ i ≤ xs.length ∧ ∃ s ad F', (∀ i, i < na → H0 (ad i) = none) ∧ Same F F' ∧ Wst M F0 H0 (ss s ad) (cs s ad) σ F' H ∧ foldO body (xs.drop i) s = some e, ⟨_, rfl, Nat.zero_le _, s0, ad0, F, had, Same.refl F, hE, hf⟩, ?_⟩
  rintro i m σ1 H1 ⟨rfl, hi, s, ad, F1, ha, sm, w, q⟩
  obtain ⟨j1, j2⟩ := hJ s ad σ1 F1 H1 sm w i
  by_cases hlt : i < xs.length
  · obtain ⟨go, yl⟩ := j1 hlt
    have ex : xs[i]? = some (xs[i]'hlt) := List.getElem?_eq_getElem hlt
    rw [List.drop_eq_getElem_cons hlt] at q
    obtain ⟨s', hb, q⟩ := bnd q
    refine .inr ⟨go, NX M F0 H0 na ss cs F s', fun σ' H' ⟨ad2, F2, ha2, sm2, w2⟩ => ⟨_, by omega, rfl, hlt, s', ad2, F2, ha2, sm2, w2, q⟩, fun x H'' y => ?_⟩
    obtain ⟨F2, x2, r2⟩ := yl x H'' y
    exact hs s ad _ x s' σ1 F2 H'' ha (sm.trans (x2 M.tl).ff) (r2 _ ex) (w.grow (x2 M.tl)) hb
  · have e1 : i = xs.length := by omega
    rw [e1, List.drop_length] at q
    have q2 : s = e := Option.some.inj q
    rw [q2] at w
    exact .inl ⟨j2 (by omega), hd ad σ1 F1 H1 ha sm w⟩
/-- with break, return -/
theorem w_forS {J : It} {body : S → α → Option (Stp S T)} {s0 : S} {e : Stp S T} (na : Nat) (ss : S → (Nat → Addr) → List Sa) (cs : S → (Nat → Addr) → List (Addr × Ca)) (hf : loopO body xs s0 = some e) (ad0 : Nat → Addr) (had : ∀ i, i < na → H0 (ad0 i) = none) (hE : Wst M F0 H0 (ss s0 ad0) (cs s0 ad0) σ F H)
    (hJ : ∀ s ad σ' F' H', Same F F' → Wst M F0 H0 (ss s ad) (cs s ad) σ' F' H' → JOk J R xs F' H')
    (hs : ∀ s ad x v o σ' F' H', (∀ i, i < na → H0 (ad i) = none) → Same F F' → R.r F' v x → Wst M F0 H0 (ss s ad) (cs s ad) σ' F' H' → body s x = some o → (∀ t, o = .rt t → e = .rt t) → (∀ t, o = .bk t → e = .bk t) →
      g v σ' H' fun σ2 H2 => tb ⟨fun σ3 H3 => ∃ s', o = .nx s' ∧ NX M F0 H0 na ss cs F s' σ3 H3, rt, nx, fun σ3 H3 => ∃ s', o = .nx s' ∧ NX M F0 H0 na ss cs F s' σ3 H3⟩ σ2 H2)
    (hd : ∀ s ad σ' F' H', e = .nx s → (∀ i, i < na → H0 (ad i) = none) → Same F F' → Wst M F0 H0 (ss s ad) (cs s ad) σ' F' H' → nx σ' H') : FW J g tb ⟨nx, rt, bk, ct⟩ σ H := by
  refine ⟨fun i m σ H => m = xs.length - i ∧ i ≤ xs.length ∧ ∃ s ad F', (∀ i, i < na → H0 (ad i) = none) ∧ Same F F' ∧ Wst M F0 H0 (ss s ad) (cs s ad) σ F' H ∧ loopO body (xs.drop i) s = some e, ⟨_, rfl, Nat.zero_le _, s0, ad0, F, had, Same.refl F, hE, hf⟩, ?_⟩
  rintro i m σ1 H1 ⟨rfl, hi, s, ad, F1, ha, sm, w, q⟩
  obtain ⟨j1, j2⟩ := hJ s ad σ1 F1 H1 sm w i
  by_cases hlt : i < xs.length
  · obtain ⟨go, yl⟩ := j1 hlt
    have ex : xs[i]? = some (xs[i]'hlt) := List.getElem?_eq_getElem hlt
    rw [List.drop_eq_getElem_cons hlt] at q
    obtain ⟨o, hb, q⟩ := bnd q
    refine .inr ⟨go, fun σ3 H3 => ∃ s', o = .nx s' ∧ NX M F0 H0 na ss cs F s' σ3 H3, fun σ' H' ⟨s', eo, ad2, F2, ha2, sm2, w2⟩ => ⟨_, by omega, rfl, hlt, s', ad2, F2, ha2, sm2, w2, by subst eo; exact q⟩, fun x H'' y => ?_⟩
    obtain ⟨F2, x2, r2⟩ := yl x H'' y
    exact hs s ad _ x o σ1 F2 H'' ha (sm.trans (x2 M.tl).ff) (r2 _ ex) (w.grow (x2 M.tl)) hb (fun t et => by subst et; exact (Option.some.inj q).symm) (fun t et => by subst et; exact (Option.some.inj q).symm)
  · have e1 : i = xs.length := by omega
    rw [e1, List.drop_length] at q
    exact .inl ⟨j2 (by omega), hd s ad σ1 F1 H1 (Option.some.inj q).symm ha sm w⟩
theorem w_il {Rr : It → Hp → Prop} (lv : LV R F H v xs) (q : ∀ a, v = .ref a → Rr (Itl K a) H) : Il K v H Rr := by
  obtain ⟨a, vs, rfl, hp, _⟩ := lv
  exact x_ill hp (q a rfl)
theorem w_zz {w : V} {ys : List β} {Rr : It → Hp → Prop} (l1 : LV R F H v xs) (l2 : LV B F H w ys) (q : ∀ a b, v = .ref a → w = .ref b → Rr (Itz K a b) H) : Zz K [v, w] H Rr := by
  obtain ⟨a, vs, rfl, hp, _⟩ := l1
  obtain ⟨b, ws, rfl, hp2, _⟩ := l2
  exact x_zz hp hp2 (q a b rfl rfl)
theorem w_r1 {n : Nat} {Rr : It → Hp → Prop} (z : n < 2 ^ 62) (q : Rr (Itr 0 n) H) : Rg1 [.int (n : Int)] H Rr := x_r1 (by omega) (by omega) (by rw [Int.toNat_natCast]; exact q)
theorem w_r1I {n : Int} {Rr : It → Hp → Prop} (z : -(2 ^ 62) ≤ n ∧ n < 2 ^ 62) (q : Rr (Itr 0 n.toNat) H) : Rg1 [.int n] H Rr := x_r1 z.1 z.2 q
theorem w_r2 {m n : Nat} {Rr : It → Hp → Prop} (z : m < 2 ^ 62 ∧ n < 2 ^ 62) (q : Rr (Itr (m : Int) (n - m)) H) : Rg2 [.int (m : Int), .int (n : Int)] H Rr := x_r2 (by omega) (by omega) (by omega) (by omega) (by rw [show ((n : Int) - (m : Int)).toNat = n - m by omega]; exact q)
/-- a comprehension; what its turns change -/
def compS (f : S → α → Option (Option β × S)) : List α → S → Option (List β × S)
  | [], s => some ([], s)
  | x :: xs, s => (f s x).bind fun p => (compS f xs p.2).bind fun q => some (p.1.toList ++ q.1, q.2)
def CN (M : Mx) (F0 H0 : Hp) (ss : List Sa) (cs : S → List (Addr × Ca)) (F : Hp) (σw : St) (D : Addr) (B : Rep β) (acc : List β) (s : S) : Hp → Prop := fun H => ∃ F', Same F F' ∧ Wst M F0 H0 ss ((D, cL B acc) :: cs s) σw F' H
theorem w_lcS {J : It} {D : Addr} {vs : List Nat} {ss : List Sa} {f : S → α → Option (Option β × S)} {s0 : S} {lr : List β × S} (cs : S → List (Addr × Ca)) (hf : compS f xs s0 = some lr) (z : lr.1.length ≤ 100000) (hE : Wst M F0 H0 ss (cs s0) σ F H) (hD : H D = none)
    (hJ : ∀ s acc F' H', Same F F' → Wst M F0 H0 (wipeS ss vs) ((D, cL B acc) :: cs s) (L2.wipe σ vs) F' H' → JOk J R xs F' H')
    (hs : ∀ s x v o acc F' H', Same F F' → R.r F' v x → Wst M F0 H0 (wipeS ss vs) ((D, cL B acc) :: cs s) (L2.wipe σ vs) F' H' → f s x = some o → acc.length + o.1.toList.length ≤ 100000 → L2.wipe (L2.wipe σ vs) vs = L2.wipe σ vs →
      g v (L2.wipe σ vs) H' fun σ2 H2 => L2.wipe σ2 vs = L2.wipe σ vs ∧ tt σ2 H2 fun b H3 => if b = true then te σ2 H3 fun y H4 => ∃ ac, H4 D = some (.lst ac) ∧ ac.length < sizeLine ∧ CN M F0 H0 (wipeS ss vs) cs F (L2.wipe σ vs) D B (acc ++ o.1.toList) o.2 (upd H4 D (.lst (ac ++ [y]))) else CN M F0 H0 (wipeS ss vs) cs F (L2.wipe σ vs) D B (acc ++ o.1.toList) o.2 H3)
    (hd : ∀ F' H', H0 D = none → Same F F' → Wst M F0 H0 ss ((D, cL B lr.1) :: cs lr.2) σ F' H' → Q (.ref D) H') : LW J D g tt te vs σ H Q := by
  have hD0 := hE.own hD
  refine ⟨fun i m H => m = xs.length - i ∧ i ≤ xs.length ∧ ∃ s acc F' l', Same F F' ∧ Wst M F0 H0 (wipeS ss vs) ((D, cL B acc) :: cs s) (L2.wipe σ vs) F' H ∧ compS f (xs.drop i) s = some (l', lr.2) ∧ acc ++ l' = lr.1,
    ⟨_, rfl, Nat.zero_le _, s0, [], F, lr.1, Same.refl F, (hE.wipe vs).newC hD ⟨[], rfl, .nil⟩, hf, rfl⟩, ?_⟩
  rintro i m H1 ⟨rfl, hi, s, acc, F1, l', sm, w, q, el⟩
  obtain ⟨j1, j2⟩ := hJ s acc F1 H1 sm w i
  by_cases hlt : i < xs.length
  · obtain ⟨go, yl⟩ := j1 hlt
    have ex : xs[i]? = some (xs[i]'hlt) := List.getElem?_eq_getElem hlt
    rw [List.drop_eq_getElem_cons hlt] at q
    obtain ⟨o, hb, q⟩ := bnd q
    obtain ⟨p, hp, q⟩ := bnd q
    have q := Option.some.inj q
    have e1 : o.1.toList ++ p.1 = l' := (Prod.mk.inj q).1
    have e2 : p.2 = lr.2 := (Prod.mk.inj q).2
    refine .inr ⟨go, CN M F0 H0 (wipeS ss vs) cs F (L2.wipe σ vs) D B (acc ++ o.1.toList) o.2, fun H' ⟨F2, sm2, w2⟩ => ⟨_, by omega, rfl, hlt, o.2, acc ++ o.1.toList, F2, p.1, sm2, w2, ?_, ?_⟩, fun x H'' y => ?_⟩
    · rw [hp, ← e2]
    · rw [List.append_assoc, e1]; exact el
    · obtain ⟨F2, x2, r2⟩ := yl x H'' y
      refine hs s _ x o acc F2 H'' (sm.trans (x2 M.tl).ff) (r2 _ ex) (w.grow (x2 M.tl)) hb ?_ (wipe_wipe fun _ h => h)
      rw [← el, ← e1, List.length_append, List.length_append] at z
      omega
  · have e1 : i = xs.length := by omega
    rw [e1, List.drop_length] at q
    have q := Option.some.inj q
    have e2 : ([] : List β) = l' := (Prod.mk.inj q).1
    have e3 : s = lr.2 := (Prod.mk.inj q).2
    rw [← e2, List.append_nil] at el
    rw [el, e3] at w
    exact .inl ⟨j2 (by omega), hd F1 H1 hD0 sm ⟨w.ex, hE.sl.imp fun s _ => s.mono sm, w.cl, w.nd⟩⟩
theorem compS_pure {f : α → Option (Option β)} {xs : List α} {l : List β} (h : compO f xs = some l) : compS (fun (_ : Unit) x => (f x).bind fun o => some (o, ())) xs () = some (l, ()) := by
  induction xs generalizing l with
  | nil => cases h; rfl
  | cons x xs ih =>
    obtain ⟨o, ho, h⟩ := bnd (m := f x) h
    obtain ⟨l', hl, h⟩ := bnd h
    cases h
    show ((f x).bind fun o => some (o, ())).bind _ = _
    rw [ho]
    show (compS _ xs ()).bind _ = _
    rw [ih hl]
    rfl
theorem w_lc {J : It} {D : Addr} {vs : List Nat} {ss : List Sa} {cs : List (Addr × Ca)} {f : α → Option (Option β)} {lr : List β} (hf : compO f xs = some lr) (z : lr.length ≤ 100000) (hE : Wst M F0 H0 ss cs σ F H) (hD : H D = none)
    (hJ : ∀ acc F' H', Same F F' → Wst M F0 H0 (wipeS ss vs) ((D, cL B acc) :: cs) (L2.wipe σ vs) F' H' → JOk J R xs F' H')
    (hs : ∀ x v o acc F' H', Same F F' → R.r F' v x → Wst M F0 H0 (wipeS ss vs) ((D, cL B acc) :: cs) (L2.wipe σ vs) F' H' → f x = some o → acc.length + o.toList.length ≤ 100000 → L2.wipe (L2.wipe σ vs) vs = L2.wipe σ vs →
      g v (L2.wipe σ vs) H' fun σ2 H2 => L2.wipe σ2 vs = L2.wipe σ vs ∧ tt σ2 H2 fun b H3 => if b = true then te σ2 H3 fun y H4 => ∃ ac, H4 D = some (.lst ac) ∧ ac.length < sizeLine ∧ CN M F0 H0 (wipeS ss vs) (fun (_ : Unit) => cs) F (L2.wipe σ vs) D B (acc ++ o.toList) () (upd H4 D (.lst (ac ++ [y]))) else CN M F0 H0 (wipeS ss vs) (fun (_ : Unit) => cs) F (L2.wipe σ vs) D B (acc ++ o.toList) () H3)
    (hd : ∀ F' H', H0 D = none → Same F F' → Wst M F0 H0 ss ((D, cL B lr) :: cs) σ F' H' → Q (.ref D) H') : LW J D g tt te vs σ H Q := by
  refine w_lcS (fun _ => cs) (compS_pure hf) z hE hD (fun _ => hJ) (fun s x v o acc F' H' sm r w ho zl ww => ?_) hd
  obtain ⟨o', h1, h2⟩ := bnd ho
  cases h2
  exact hs x v o' acc F' H' sm r w h1 zl ww
/-- an element is put at the end -/
theorem w_acc {D : Addr} {ss ss2 : List Sa} {cs : S → List (Addr × Ca)} {F' : Hp} {σ2 σw : St} {vs : List Nat} {acc : List β} {y : V} {b : β} {s : S} (h : Wst M F0 H0 ss2 ((D, cL B acc) :: cs s) σ2 F' H) (sm : Same F F') (r : B.r F' y b) (z : acc.length + 1 ≤ 100000) (eσ : L2.wipe σ2 vs = σw) (eS : wipeS ss2 vs = ss) :
    ∃ ac, H D = some (.lst ac) ∧ ac.length < sizeLine ∧ CN M F0 H0 ss cs F σw D B (acc ++ [b]) s (upd H D (.lst (ac ++ [y]))) := by
  obtain ⟨o, h1, ws, rfl, hv⟩ := h.cell (k := 0) rfl
  refine ⟨ws, h1, sz_lt (by rw [hv.len]; omega), F', sm, ?_⟩
  have w := (h.mut (k := 0) (A' := cL B (acc ++ [b])) rfl ⟨_, rfl, hv.snoc r⟩).wipe vs
  rw [eσ, eS] at w
  exact w
theorem w_skip {D : Addr} {ss ss2 : List Sa} {cs : S → List (Addr × Ca)} {F' : Hp} {σ2 σw : St} {vs : List Nat} {acc : List β} {s : S} (h : Wst M F0 H0 ss2 ((D, cL B acc) :: cs s) σ2 F' H) (sm : Same F F') (eσ : L2.wipe σ2 vs = σw) (eS : wipeS ss2 vs = ss) : CN M F0 H0 ss cs F σw D B (acc ++ []) s H := by
  have w := h.wipe vs
  rw [eσ, eS] at w
  rw [List.append_nil]
  exact ⟨F', sm, w⟩
theorem w_nameW {ss ss' : List Sa} {cs : List (Addr × Ca)} {i : Nat} {a : α} {Qs : St → Hp → Prop} {vs : List Nat} {w : St} (h : Wst M F0 H0 ss cs σ F H) (e : ss.set i (R.at a) = ss') (r : R.r F v a) (m : i ∈ vs) (e0 : L2.wipe σ vs = w) (q : ∀ σ', L2.wipe σ' vs = w → Wst M F0 H0 ss' cs σ' F H → Qs σ' H) : gName i v σ H Qs := by
  subst e
  exact x_name rfl (q _ (by rw [wipe_set m]; exact e0) (h.setS (s := R.at a) ⟨v, rfl, r⟩ i))
theorem w_while {tc : TT} {c : S → Option Bool} {body : S → Option S} {n : Nat} {s0 e : S} (na : Nat) (ss : S → (Nat → Addr) → List Sa) (cs : S → (Nat → Addr) → List (Addr × Ca)) (hf : whlO c body n s0 = some e) (ad0 : Nat → Addr) (had : ∀ i, i < na → H0 (ad0 i) = none) (hE : Wst M F0 H0 (ss s0 ad0) (cs s0 ad0) σ F H)
    (hc : ∀ s ad b σ' F' H', Same F F' → Wst M F0 H0 (ss s ad) (cs s ad) σ' F' H' → c s = some b → ∀ Qb : Bool → Hp → Prop, (∀ F2 H2, Same F' F2 → Wst M F0 H0 (ss s ad) (cs s ad) σ' F2 H2 → Qb b H2) → tc σ' H' Qb)
    (hb : ∀ s ad s' σ' F' H', (∀ i, i < na → H0 (ad i) = none) → Same F F' → Wst M F0 H0 (ss s ad) (cs s ad) σ' F' H' → c s = some true → body s = some s' → tb ⟨NX M F0 H0 na ss cs F s', rt, nx, NX M F0 H0 na ss cs F s'⟩ σ' H')
    (hd : ∀ ad σ' F' H', (∀ i, i < na → H0 (ad i) = none) → Same F F' → Wst M F0 H0 (ss e ad) (cs e ad) σ' F' H' → nx σ' H') : tWhile tc tb ⟨nx, rt, bk, ct⟩ σ H := by
  refine x_while (fun m σ H => ∃ s ad F', (∀ i, i < na → H0 (ad i) = none) ∧ Same F F' ∧ Wst M F0 H0 (ss s ad) (cs s ad) σ F' H ∧ whlO c body m s = some e) n ⟨s0, ad0, F, had, Same.refl F, hE, hf⟩ ?_
  rintro m σ1 H1 ⟨s, ad, F1, ha, sm, w, q⟩
  cases m with
  | zero => cases q
  | succ m =>
    obtain ⟨b, hb1, q⟩ := bnd q
    refine hc s ad b σ1 F1 H1 sm w hb1 _ fun F2 H2 sm2 w2 => ?_
    cases b with
    | true =>
      have q := ite_t q rfl
      obtain ⟨s', hs', q⟩ := bnd q
      rw [if_pos rfl]
      exact ⟨NX M F0 H0 na ss cs F s', fun σ' H' ⟨ad3, F3, ha3, sm3, w3⟩ => ⟨m, Nat.lt_succ_self m, s', ad3, F3, ha3, sm3, w3, q⟩, hb s ad s' σ1 F2 H2 ha (sm.trans sm2) w2 hb1 hs'⟩
    | false =>
      have q := ite_f q rfl
      have q2 : s = e := Option.some.inj q
      rw [q2] at w2
      rw [if_neg (by decide)]
      exact hd ad σ1 F2 H2 ha (sm.trans sm2) w2
theorem w_whileS {tc : TT} {c : S → Option Bool} {body : S → Option (Stp S T)} {n : Nat} {s0 : S} {e : Stp S T} (na : Nat) (ss : S → (Nat → Addr) → List Sa) (cs : S → (Nat → Addr) → List (Addr × Ca)) (hf : whileO c body n s0 = some e) (ad0 : Nat → Addr) (had : ∀ i, i < na → H0 (ad0 i) = none) (hE : Wst M F0 H0 (ss s0 ad0) (cs s0 ad0) σ F H)
    (hc : ∀ s ad b σ' F' H', Same F F' → Wst M F0 H0 (ss s ad) (cs s ad) σ' F' H' → c s = some b → ∀ Qb : Bool → Hp → Prop, (∀ F2 H2, Same F' F2 → Wst M F0 H0 (ss s ad) (cs s ad) σ' F2 H2 → Qb b H2) → tc σ' H' Qb)
    (hb : ∀ s ad o σ' F' H', (∀ i, i < na → H0 (ad i) = none) → Same F F' → Wst M F0 H0 (ss s ad) (cs s ad) σ' F' H' → c s = some true → body s = some o → (∀ t, o = .rt t → e = .rt t) → (∀ t, o = .bk t → e = .bk t) →
      tb ⟨fun σ3 H3 => ∃ s', o = .nx s' ∧ NX M F0 H0 na ss cs F s' σ3 H3, rt, nx, fun σ3 H3 => ∃ s', o = .nx s' ∧ NX M F0 H0 na ss cs F s' σ3 H3⟩ σ' H')
    (hd : ∀ s ad σ' F' H', e = .nx s → (∀ i, i < na → H0 (ad i) = none) → Same F F' → Wst M F0 H0 (ss s ad) (cs s ad) σ' F' H' → nx σ' H') : tWhile tc tb ⟨nx, rt, bk, ct⟩ σ H := by
  refine x_while (fun m σ H => ∃ s ad F', (∀ i, i < na → H0 (ad i) = none) ∧ Same F F' ∧ Wst M F0 H0 (ss s ad) (cs s ad) σ F' H ∧ whileO c body m s = some e) n ⟨s0, ad0, F, had, Same.refl F, hE, hf⟩ ?_
  rintro m σ1 H1 ⟨s, ad, F1, ha, sm, w, q⟩
  cases m with
  | zero => cases q
  | succ m =>
    obtain ⟨b, hb1, q⟩ := bnd q
    refine hc s ad b σ1 F1 H1 sm w hb1 _ fun F2 H2 sm2 w2 => ?_
    cases b with
    | true =>
      have q := ite_t q rfl
      obtain ⟨o, ho, q⟩ := bnd q
      rw [if_pos rfl]
      refine ⟨fun σ3 H3 => ∃ s', o = .nx s' ∧ NX M F0 H0 na ss cs F s' σ3 H3, fun σ' H' ⟨s', eo, ad3, F3, ha3, sm3, w3⟩ => ⟨m, Nat.lt_succ_self m, s', ad3, F3, ha3, sm3, w3, by subst eo; exact q⟩,
        hb s ad o σ1 F2 H2 ha (sm.trans sm2) w2 hb1 ho (fun t et => by subst et; exact (Option.some.inj q).symm) (fun t et => by subst et; exact (Option.some.inj q).symm)⟩
    | false =>
      have q := ite_f q rfl
      rw [if_neg (by decide)]
      exact hd s ad σ1 F2 H2 (Option.some.inj q).symm ha (sm.trans sm2) w2
end
/-! ### mirrors: tests, data, more steps -/
section
variable {M : Mx} {F0 H0 F H F' H' : Hp} {ss ss' : List Sa} {cs cs' : List (Addr × Ca)} {σ : St} {c : Addr} {A A' : Ca} {k i : Nat} {α β γ : Type} {R : Rep α} {S : Rep β} {T : Rep γ} {a b : α} {l l' : List α} {Q : VK} {Qb : Bool → Hp → Prop} {K : PySem.W.Frag} {v x y z : V} {t u : TT} {ta tb : TE} {ca cb r : Bool} {mb : Option Bool} {n : Nat}
theorem w_andP (h : Wst M F0 H0 ss cs' σ F H) (h1 : ∀ Q' : Bool → Hp → Prop, (∀ F' H', Same F F' → Wst M F0 H0 ss cs σ F' H' → Q' ca H') → t σ H Q') (h2 : ∀ F' H', Same F F' → Wst M F0 H0 ss cs σ F' H' → ca = true → ∀ Q' : Bool → Hp → Prop, (∀ F2 H2, Same F' F2 → Wst M F0 H0 ss cs σ F2 H2 → Q' cb H2) → u σ H' Q')
    (q : ∀ F' H', Same F F' → Wst M F0 H0 ss cs σ F' H' → Qb (ca && cb) H') : tAnd t u σ H Qb := by
  refine x_and (h1 _ fun F' H' s w => ?_)
  cases ca with
  | true =>
    rw [if_pos rfl]
    exact h2 F' H' s w rfl _ fun F2 H2 s2 w2 => q F2 H2 (s.trans s2) w2
  | false =>
    rw [if_neg (by decide)]
    exact q F' H' s w
theorem w_orP (h : Wst M F0 H0 ss cs' σ F H) (h1 : ∀ Q' : Bool → Hp → Prop, (∀ F' H', Same F F' → Wst M F0 H0 ss cs σ F' H' → Q' ca H') → t σ H Q') (h2 : ∀ F' H', Same F F' → Wst M F0 H0 ss cs σ F' H' → ca = false → ∀ Q' : Bool → Hp → Prop, (∀ F2 H2, Same F' F2 → Wst M F0 H0 ss cs σ F2 H2 → Q' cb H2) → u σ H' Q')
    (q : ∀ F' H', Same F F' → Wst M F0 H0 ss cs σ F' H' → Qb (ca || cb) H') : tOr t u σ H Qb := by
  refine x_or (h1 _ fun F' H' s w => ?_)
  cases ca with
  | true =>
    rw [if_pos rfl]
    exact q F' H' s w
  | false =>
    rw [if_neg (by decide)]
    exact h2 F' H' s w rfl _ fun F2 H2 s2 w2 => q F2 H2 (s.trans s2) w2
theorem w_andO (h : Wst M F0 H0 ss cs' σ F H) (hm : (if ca = true then mb else some false) = some r) (h1 : ∀ Q' : Bool → Hp → Prop, (∀ F' H', Same F F' → Wst M F0 H0 ss cs σ F' H' → Q' ca H') → t σ H Q') (h2 : ∀ F' H', Same F F' → Wst M F0 H0 ss cs σ F' H' → ca = true → mb = some r → ∀ Q' : Bool → Hp → Prop, (∀ F2 H2, Same F' F2 → Wst M F0 H0 ss cs σ F2 H2 → Q' r H2) → u σ H' Q')
    (q : ∀ F' H', Same F F' → Wst M F0 H0 ss cs σ F' H' → Qb r H') : tAnd t u σ H Qb := by
  refine x_and (h1 _ fun F' H' s w => ?_)
  cases ca with
  | true =>
    rw [if_pos rfl] at hm ⊢
    exact h2 F' H' s w rfl hm _ fun F2 H2 s2 w2 => q F2 H2 (s.trans s2) w2
  | false =>
    rw [if_neg (by decide)] at hm ⊢
    cases hm
    exact q F' H' s w
theorem w_orO (h : Wst M F0 H0 ss cs' σ F H) (hm : (if ca = true then some true else mb) = some r) (h1 : ∀ Q' : Bool → Hp → Prop, (∀ F' H', Same F F' → Wst M F0 H0 ss cs σ F' H' → Q' ca H') → t σ H Q') (h2 : ∀ F' H', Same F F' → Wst M F0 H0 ss cs σ F' H' → ca = false → mb = some r → ∀ Q' : Bool → Hp → Prop, (∀ F2 H2, Same F' F2 → Wst M F0 H0 ss cs σ F2 H2 → Q' r H2) → u σ H' Q')
    (q : ∀ F' H', Same F F' → Wst M F0 H0 ss cs σ F' H' → Qb r H') : tOr t u σ H Qb := by
  refine x_or (h1 _ fun F' H' s w => ?_)
  cases ca with
  | true =>
    rw [if_pos rfl] at hm ⊢
    cases hm
    exact q F' H' s w
  | false =>
    rw [if_neg (by decide)] at hm ⊢
    exact h2 F' H' s w rfl hm _ fun F2 H2 s2 w2 => q F2 H2 (s.trans s2) w2
theorem w_andVP (h : Wst M F0 H0 ss cs' σ F H) (h1 : ∀ Q' : VK, (∀ F' H', Same F F' → Wst M F0 H0 ss cs σ F' H' → Q' (.bl ca) H') → ta σ H Q') (h2 : ∀ F' H', Same F F' → Wst M F0 H0 ss cs σ F' H' → ca = true → ∀ Q' : VK, (∀ F2 H2, Same F' F2 → Wst M F0 H0 ss cs σ F2 H2 → Q' (.bl cb) H2) → tb σ H' Q')
    (q : ∀ F' H', Same F F' → Wst M F0 H0 ss cs σ F' H' → Q (.bl (ca && cb)) H') : tAndV ta tb σ H Q := by
  refine x_andV (h1 _ fun F' H' s w => ⟨_, rfl, ?_⟩)
  cases ca with
  | true =>
    rw [if_pos rfl]
    exact h2 F' H' s w rfl _ fun F2 H2 s2 w2 => q F2 H2 (s.trans s2) w2
  | false =>
    rw [if_neg (by decide)]
    exact q F' H' s w
theorem w_orVP (h : Wst M F0 H0 ss cs' σ F H) (h1 : ∀ Q' : VK, (∀ F' H', Same F F' → Wst M F0 H0 ss cs σ F' H' → Q' (.bl ca) H') → ta σ H Q') (h2 : ∀ F' H', Same F F' → Wst M F0 H0 ss cs σ F' H' → ca = false → ∀ Q' : VK, (∀ F2 H2, Same F' F2 → Wst M F0 H0 ss cs σ F2 H2 → Q' (.bl cb) H2) → tb σ H' Q')
    (q : ∀ F' H', Same F F' → Wst M F0 H0 ss cs σ F' H' → Q (.bl (ca || cb)) H') : tOrV ta tb σ H Q := by
  refine x_orV (h1 _ fun F' H' s w => ⟨_, rfl, ?_⟩)
  cases ca with
  | true =>
    rw [if_pos rfl]
    exact q F' H' s w
  | false =>
    rw [if_neg (by decide)]
    exact h2 F' H' s w rfl _ fun F2 H2 s2 w2 => q F2 H2 (s.trans s2) w2
theorem w_andVO (h : Wst M F0 H0 ss cs' σ F H) (hm : (if ca = true then mb else some false) = some r) (h1 : ∀ Q' : VK, (∀ F' H', Same F F' → Wst M F0 H0 ss cs σ F' H' → Q' (.bl ca) H') → ta σ H Q') (h2 : ∀ F' H', Same F F' → Wst M F0 H0 ss cs σ F' H' → ca = true → mb = some r → ∀ Q' : VK, (∀ F2 H2, Same F' F2 → Wst M F0 H0 ss cs σ F2 H2 → Q' (.bl r) H2) → tb σ H' Q')
    (q : ∀ F' H', Same F F' → Wst M F0 H0 ss cs σ F' H' → Q (.bl r) H') : tAndV ta tb σ H Q := by
  refine x_andV (h1 _ fun F' H' s w => ⟨_, rfl, ?_⟩)
  cases ca with
  | true =>
    rw [if_pos rfl] at hm ⊢
    exact h2 F' H' s w rfl hm _ fun F2 H2 s2 w2 => q F2 H2 (s.trans s2) w2
  | false =>
    rw [if_neg (by decide)] at hm ⊢
    cases hm
    exact q F' H' s w
theorem w_orVO (h : Wst M F0 H0 ss cs' σ F H) (hm : (if ca = true then some true else mb) = some r) (h1 : ∀ Q' : VK, (∀ F' H', Same F F' → Wst M F0 H0 ss cs σ F' H' → Q' (.bl ca) H') → ta σ H Q') (h2 : ∀ F' H', Same F F' → Wst M F0 H0 ss cs σ F' H' → ca = false → mb = some r → ∀ Q' : VK, (∀ F2 H2, Same F' F2 → Wst M F0 H0 ss cs σ F2 H2 → Q' (.bl r) H2) → tb σ H' Q')
    (q : ∀ F' H', Same F F' → Wst M F0 H0 ss cs σ F' H' → Q (.bl r) H') : tOrV ta tb σ H Q := by
  refine x_orV (h1 _ fun F' H' s w => ⟨_, rfl, ?_⟩)
  cases ca with
  | true =>
    rw [if_pos rfl] at hm ⊢
    cases hm
    exact q F' H' s w
  | false =>
    rw [if_neg (by decide)] at hm ⊢
    exact h2 F' H' s w rfl hm _ fun F2 H2 s2 w2 => q F2 H2 (s.trans s2) w2
theorem w_aug {te : TE} {ti : TIp} {nx : St → Hp → Prop} {rt : VK} {bk ct : St → Hp → Prop} (h : Wst M F0 H0 ss cs σ F H) (e : ss[i]? = some (rN.at n)) (q : te σ H fun y H1 => ti (.int (n : Int)) y H1 fun z H2 => nx (σ.set i (some z)) H2) : tAug i te ti ⟨nx, rt, bk, ct⟩ σ H := by
  obtain ⟨ov, h1, v, rfl, r⟩ := A2.get h.sl e
  rw [show v = _ from r] at h1
  exact ⟨_, h1, q⟩
theorem w_ipA {m n : Nat} (q : Q (.int ((m + n : Nat) : Int)) H) : ipI (fun i j => i + j) (.int (m : Int)) (.int (n : Int)) H Q := ⟨_, _, rfl, rfl, by show Q (.int ((m : Int) + (n : Int))) H; rw [← Int.natCast_add]; exact q⟩
theorem w_ipS {m n : Nat} (z : n ≤ m) (q : Q (.int ((m - n : Nat) : Int)) H) : ipI (fun i j => i - j) (.int (m : Int)) (.int (n : Int)) H Q := ⟨_, _, rfl, rfl, by show Q (.int ((m : Int) - (n : Int))) H; rw [← Int.natCast_sub z]; exact q⟩
theorem w_put {nx : St → Hp → Prop} (h : Wst M F0 H0 ss cs σ F H) (e : ss.set i (R.at a) = ss') (r : R.r F v a) (q : ∀ σ', Wst M F0 H0 ss' cs σ' F H → nx σ' H) : nx (σ.set i (some v)) H := by
  subst e
  exact q _ (h.setS (s := R.at a) ⟨v, rfl, r⟩ i)
theorem w_catF (h : Wst M F0 H0 ss cs σ F H) (r1 : LV R F H v l) (r2 : LV R F H x l') (z : l.length + l'.length ≤ 100000) (q : ∀ v F' H', Same F F' → Wst M F0 H0 ss cs σ F' H' → (rL R).r F' v (l ++ l') → Q v H') : rCat v x H Q := by
  obtain ⟨p, vs, rfl, hp, hv⟩ := r1
  obtain ⟨p2, ws, rfl, hp2, hw⟩ := r2
  exact x_cat hp hp2 (by rw [hv.len, hw.len]; exact z) (w_newF h (hv.app hw) q)
theorem w_catC (h : Wst M F0 H0 ss cs σ F H) (r1 : LV R F H v l) (r2 : LV R F H x l') (z : l.length + l'.length ≤ 100000) (q : ∀ p H', H0 p = none → Wst M F0 H0 ss ((p, cL R (l ++ l')) :: cs) σ F H' → Q (.ref p) H') : rCat v x H Q := by
  obtain ⟨p, vs, rfl, hp, hv⟩ := r1
  obtain ⟨p2, ws, rfl, hp2, hw⟩ := r2
  exact x_cat hp hp2 (by rw [hv.len, hw.len]; exact z) (w_newC h (hv.app hw) q)
theorem a2_rep {R : V → α → Prop} {vs : List V} (h : A2 R vs l) : ∀ n, A2 R (List.replicate n vs).flatten (List.replicate n l).flatten
  | 0 => .nil
  | n + 1 => by
    rw [List.replicate_succ, List.replicate_succ, List.flatten_cons, List.flatten_cons]
    exact h.app (a2_rep h n)
theorem w_repF (h : Wst M F0 H0 ss cs σ F H) (r1 : LV R F H v l) (z : l.length * n ≤ 100000 ∧ n < 2 ^ 62) (q : ∀ v F' H', Same F F' → Wst M F0 H0 ss cs σ F' H' → (rL R).r F' v (List.replicate n l).flatten → Q v H') : rRep v (.int (n : Int)) H Q := by
  obtain ⟨p, vs, rfl, hp, hv⟩ := r1
  refine ⟨p, n, vs, rfl, rfl, hp, by omega, by omega, by rw [Int.toNat_natCast, hv.len]; exact sz_ok z.1, ?_⟩
  rw [Int.toNat_natCast]
  exact w_newF h (a2_rep hv n) q
theorem w_repC (h : Wst M F0 H0 ss cs σ F H) (r1 : LV R F H v l) (z : l.length * n ≤ 100000 ∧ n < 2 ^ 62) (q : ∀ p H', H0 p = none → Wst M F0 H0 ss ((p, cL R (List.replicate n l).flatten) :: cs) σ F H' → Q (.ref p) H') : rRep v (.int (n : Int)) H Q := by
  obtain ⟨p, vs, rfl, hp, hv⟩ := r1
  refine ⟨p, n, vs, rfl, rfl, hp, by omega, by omega, by rw [Int.toNat_natCast, hv.len]; exact sz_ok z.1, ?_⟩
  rw [Int.toNat_natCast]
  exact w_newC h (a2_rep hv n) q
theorem w_slTF (h : Wst M F0 H0 ss cs σ F H) (r : LV R F H v l) (q : ∀ v F' H', Same F F' → Wst M F0 H0 ss cs σ F' H' → (rL R).r F' v (l.take n) → Q v H') : rSlL K v none (some (n : Int)) H Q := w_slF h r (by rw [cut_take]; exact q)
theorem w_slTC (h : Wst M F0 H0 ss cs σ F H) (r : LV R F H v l) (q : ∀ p H', H0 p = none → Wst M F0 H0 ss ((p, cL R (l.take n)) :: cs) σ F H' → Q (.ref p) H') : rSlL K v none (some (n : Int)) H Q := w_slC h r (by rw [cut_take]; exact q)
theorem w_slDF (h : Wst M F0 H0 ss cs σ F H) (r : LV R F H v l) (q : ∀ v F' H', Same F F' → Wst M F0 H0 ss cs σ F' H' → (rL R).r F' v (l.drop n) → Q v H') : rSlL K v (some (n : Int)) none H Q := w_slF h r (by rw [cut_drop]; exact q)
theorem w_slDC (h : Wst M F0 H0 ss cs σ F H) (r : LV R F H v l) (q : ∀ p H', H0 p = none → Wst M F0 H0 ss ((p, cL R (l.drop n)) :: cs) σ F H' → Q (.ref p) H') : rSlL K v (some (n : Int)) none H Q := w_slC h r (by rw [cut_drop]; exact q)
theorem rg_nvN (n : Nat) : rgV 0 (n : Int) = nv (List.range n) := rg_nv n
theorem w_lrgF (h : Wst M F0 H0 ss cs σ F H) (z : n ≤ 100000) (q : ∀ v F' H', Same F F' → Wst M F0 H0 ss cs σ F' H' → (rL rN).r F' v (List.range n) → Q v H') : NewR 0 (n : Int) H Q :=
  show RgOk 0 (n : Int) ∧ _ from x_rgOk (by omega) (by omega) (by rw [rg_nvN]; exact w_newF h (nvN_a2 _) q)
theorem w_lrgC (h : Wst M F0 H0 ss cs σ F H) (z : n ≤ 100000) (q : ∀ p H', H0 p = none → Wst M F0 H0 ss ((p, cL rN (List.range n)) :: cs) σ F H' → Q (.ref p) H') : NewR 0 (n : Int) H Q :=
  show RgOk 0 (n : Int) ∧ _ from x_rgOk (by omega) (by omega) (by rw [rg_nvN]; exact w_newC h (nvN_a2 _) q)
theorem w_eqB {a b : Bool} (q : Q (.bl (decide (a = b))) H) : rEq (.bl a) (.bl b) H Q := x_eq rfl (by
  rw [dec_cast (p := V.bl a = V.bl b) (q := a = b) ⟨fun h => V.bl.inj h, fun h => by rw [h]⟩]; exact q)
theorem w_neB {a b : Bool} (q : Q (.bl (!decide (a = b))) H) : rNe (.bl a) (.bl b) H Q := x_ne rfl (by
  rw [dec_cast (p := V.bl a = V.bl b) (q := a = b) ⟨fun h => V.bl.inj h, fun h => by rw [h]⟩]; exact q)
theorem w_eqS {a b : Str} (q : Q (.bl (decide (a = b))) H) : rEq (.str a) (.str b) H Q := x_eq rfl (by
  rw [dec_cast (p := V.str a = V.str b) (q := a = b) ⟨fun h => V.str.inj h, fun h => by rw [h]⟩]; exact q)
theorem w_neS {a b : Str} (q : Q (.bl (!decide (a = b))) H) : rNe (.str a) (.str b) H Q := x_ne rfl (by
  rw [dec_cast (p := V.str a = V.str b) (q := a = b) ⟨fun h => V.str.inj h, fun h => by rw [h]⟩]; exact q)
theorem ro_some (r : R.r F v a) : (rO R).r F v (some a) := r
theorem roN_scal {a b : Option Nat} (ra : (rO rN).r F v a) (rb : (rO rN).r F x b) : scal v x = true ∧ (v = x ↔ a = b) := by
  cases a with
  | none =>
    rw [show v = _ from ra]
    cases b with
    | none => rw [show x = _ from rb]; exact ⟨rfl, by simp⟩
    | some b => rw [show x = _ from rb]; exact ⟨rfl, by simp⟩
  | some a =>
    rw [show v = _ from ra]
    cases b with
    | none => rw [show x = _ from rb]; exact ⟨rfl, by simp⟩
    | some b =>
      rw [show x = _ from rb]
      refine ⟨rfl, ?_, fun h => by rw [Option.some.inj h]⟩
      intro h
      have := V.int.inj h
      exact congrArg some (by omega)
theorem w_eqO {a b : Option Nat} (ra : (rO rN).r F v a) (rb : (rO rN).r F x b) (q : Q (.bl (decide (a = b))) H) : rEq v x H Q := by
  obtain ⟨h1, h2⟩ := roN_scal ra rb
  exact x_eq h1 (by rw [dec_cast h2]; exact q)
theorem w_neO {a b : Option Nat} (ra : (rO rN).r F v a) (rb : (rO rN).r F x b) (q : Q (.bl (!decide (a = b))) H) : rNe v x H Q := by
  obtain ⟨h1, h2⟩ := roN_scal ra rb
  exact x_ne h1 (by rw [dec_cast h2]; exact q)
/-- a stand that is never None -/
def NoN (R : Rep α) : Prop := ∀ F v a, R.r F v a → v ≠ .non
theorem nn_N : NoN rN := fun F v a r e => by rw [show v = _ from r] at e; cases e
theorem nn_L : NoN (rL R) := fun F v a r e => by
  obtain ⟨p, vs, rfl, _⟩ := r
  cases e
theorem nn_T2 : NoN (rT2 R S) := fun F v a r e => by
  obtain ⟨p, _, _, rfl, _⟩ := r
  cases e
theorem nn_T3 : NoN (rT3 R S T) := fun F v a r e => by
  obtain ⟨p, _, _, _, rfl, _⟩ := r
  cases e
def rIsN : R2 := fun x y H Q => y = .non ∧ Q (.bl (decide (x = .non))) H
def rNoN : R2 := fun x y H Q => y = .non ∧ Q (.bl (!decide (x = .non))) H
theorem k_isN {X : Cx} : OpR X (compareOp .Is) rIsN := op_isN
theorem k_notN {X : Cx} : OpR X (compareOp .IsNot) rNoN := op_notN
theorem rO_none {o : Option α} (nn : NoN R) (r : (rO R).r F v o) : decide (v = .non) = o.isNone := by
  cases o with
  | none => rw [show v = _ from r]; rfl
  | some a => exact decide_eq_false (nn _ _ _ r)
theorem w_isN {o : Option α} (nn : NoN R) (r : (rO R).r F v o) (q : Q (.bl o.isNone) H) : rIsN v .non H Q := ⟨rfl, by rw [rO_none nn r]; exact q⟩
theorem w_isnotN {o : Option α} (nn : NoN R) (r : (rO R).r F v o) (q : Q (.bl o.isSome) H) : rNoN v .non H Q := ⟨rfl, by
  rw [rO_none nn r]
  cases o <;> exact q⟩
theorem w_lenT2 {p : α × β} (s : Same F H) (r : (rT2 R S).r F v p) (q : Q (.int ((2 : Nat) : Int)) H) : rLen K [v] H Q := by
  obtain ⟨t, x, y, rfl, ht, _⟩ := r
  exact x_lenT (s _ _ ht) q
theorem w_lenT3 {p : α × β × γ} (s : Same F H) (r : (rT3 R S T).r F v p) (q : Q (.int ((3 : Nat) : Int)) H) : rLen K [v] H Q := by
  obtain ⟨t, x, y, z, rfl, ht, _⟩ := r
  exact x_lenT (s _ _ ht) q
theorem w_intB {b : Bool} (q : Q (.int ((b.toNat : Nat) : Int)) H) : rInt [.bl b] H Q := x_int_b (by
  cases b <;> exact q)
theorem kn_l (r : LV R F H v l) : Knd K H v "list" := by
  obtain ⟨p, vs, rfl, hp, _⟩ := r
  exact knd_lst hp
theorem kn_t2 {p : α × β} (s : Same F H) (r : (rT2 R S).r F v p) : Knd K H v "tuple" := by
  obtain ⟨t, x, y, rfl, ht, _⟩ := r
  exact knd_tup (s _ _ ht)
theorem kn_t3 {p : α × β × γ} (s : Same F H) (r : (rT3 R S T).r F v p) : Knd K H v "tuple" := by
  obtain ⟨t, x, y, z, rfl, ht, _⟩ := r
  exact knd_tup (s _ _ ht)
theorem Wst.fresh_ne {p : Addr} (h : Wst M F0 H0 ss cs σ F H) (hp : H p = none) : p ∉ cs.map (·.1) := fun z => by
  obtain ⟨x, hx, e⟩ := List.mem_map.mp z
  obtain ⟨⟨o', h1, _⟩, _⟩ := h.cl x hx
  rw [e, hp] at h1
  cases h1
theorem Wst.addC {p : Addr} (h : Wst M F0 H0 ss cs σ F H) (h0 : H0 p = none) (ap : F p = none) (ct : ∃ o, H p = some o ∧ A.p F o) (ne : p ∉ cs.map (·.1)) : Wst M F0 H0 ss ((p, A) :: cs) σ F H := by
  refine ⟨h.ex, h.sl, fun x hx => ?_, ?_⟩
  · rcases List.mem_cons.mp hx with rfl | hx
    · exact ⟨ct, ap, .inr h0⟩
    · exact h.cl x hx
  · rw [List.map_cons, List.nodup_cons]
    exact ⟨ne, h.nd⟩
end
def eqD {α : Type} [DecidableEq α] (a b : α) : Bool := decide (a = b)
def memD {α : Type} [DecidableEq α] (a : α) (l : List α) : Bool := decide (a ∈ l)
/-! ### as data, by kind -/
structure Dat {α : Type} (R : Rep α) where
  d : α → PyData
  dp : ∀ {K : PySem.W.Frag} {F H : Hp} {v : V} {a : α}, Same F H → R.r F v a → Dp K H v (d a)
  inj : ∀ a b, PyData.eqv (d a) (d b) = true ↔ a = b
  lay : ∀ a, PyData.canLay0 (d a) = true
  n : Nat
  dep : ∀ a, PyData.depth (d a) ≤ n
section
variable {α β γ : Type} {R : Rep α} {S : Rep β} {T : Rep γ}
def dtN : Dat rN where
  d n := .int (n : Int)
  dp s r := by rw [show _ = _ from r]; exact .int _
  inj a b := by
    simp only [PyData.eqv, beq_iff_eq]
    omega
  lay a := rfl
  n := 0
  dep a := Nat.le_refl _
def dtZ : Dat rZ where
  d n := .int n
  dp s r := by rw [show _ = _ from r]; exact .int _
  inj a b := by simp only [PyData.eqv, beq_iff_eq]
  lay a := rfl
  n := 0
  dep a := Nat.le_refl _
def dtB : Dat rB where
  d b := .bool b
  dp s r := by rw [show _ = _ from r]; exact .bl _
  inj a b := by simp only [PyData.eqv, beq_iff_eq]
  lay a := rfl
  n := 0
  dep a := Nat.le_refl _
theorem dt_all (D : Dat R) {K : PySem.W.Frag} {F H : Hp} {vs : List V} {l : List α} (s : Same F H) (h : A2 (R.r F) vs l) : DpAll K H vs (l.map D.d) := by
  induction h with
  | nil => exact .nil
  | cons r _ ih => exact .cons (D.dp s r) ih
theorem dt_inj (D : Dat R) : ∀ l m : List α, PyData.eqvAll (l.map D.d) (m.map D.d) = true ↔ l = m
  | [], [] => by simp [PyData.eqvAll]
  | [], _ :: _ => by simp [PyData.eqvAll]
  | _ :: _, [] => by simp [PyData.eqvAll]
  | a :: l, b :: m => by
    show (PyData.eqv (D.d a) (D.d b) && PyData.eqvAll (l.map D.d) (m.map D.d)) = true ↔ _
    rw [Bool.and_eq_true, D.inj, dt_inj D l m, List.cons.injEq]
theorem dt_lay (D : Dat R) : ∀ l : List α, PyData.canLayAll0 (l.map D.d) = true
  | [] => rfl
  | a :: l => by
    show (PyData.canLay0 (D.d a) && PyData.canLayAll0 (l.map D.d)) = true
    rw [D.lay, dt_lay D l]
    rfl
theorem dt_dep (D : Dat R) : ∀ l : List α, PyData.depthAll (l.map D.d) ≤ D.n
  | [] => Nat.zero_le _
  | a :: l => by
    have h1 := D.dep a
    have h2 := dt_dep D l
    show max (PyData.depth (D.d a)) (PyData.depthAll (l.map D.d)) ≤ D.n
    omega
def dtL (D : Dat R) : Dat (rL R) where
  d l := .list (l.map D.d)
  dp s r := by
    obtain ⟨p, vs, rfl, hp, hv⟩ := r
    exact .lst (sq_l (s _ _ hp)) (dt_all D s hv)
  inj l m := by
    simp only [PyData.eqv]
    exact dt_inj D l m
  lay l := dt_lay D l
  n := D.n + 1
  dep l := Nat.succ_le_succ (dt_dep D l)
def dtT2 (D : Dat R) (E : Dat S) : Dat (rT2 R S) where
  d p := .tuple [D.d p.1, E.d p.2]
  dp s r := by
    obtain ⟨t, x, y, rfl, ht, r1, r2⟩ := r
    exact .tup (sq_t (s _ _ ht)) (.cons (D.dp s r1) (.cons (E.dp s r2) .nil))
  inj p q := by
    simp only [PyData.eqv, PyData.eqvAll, Bool.and_true, Bool.and_eq_true, D.inj, E.inj, Prod.ext_iff]
  lay p := by
    show (PyData.canLay0 (D.d p.1) && (PyData.canLay0 (E.d p.2) && true)) = true
    rw [D.lay, E.lay]
    rfl
  n := max D.n E.n + 1
  dep p := by
    have h1 := D.dep p.1
    have h2 := E.dep p.2
    show max (PyData.depth (D.d p.1)) (max (PyData.depth (E.d p.2)) 0) + 1 ≤ max D.n E.n + 1
    omega
def dtT3 (D : Dat R) (E : Dat S) (G : Dat T) : Dat (rT3 R S T) where
  d p := .tuple [D.d p.1, E.d p.2.1, G.d p.2.2]
  dp s r := by
    obtain ⟨t, x, y, z, rfl, ht, r1, r2, r3⟩ := r
    exact .tup (sq_t (s _ _ ht)) (.cons (D.dp s r1) (.cons (E.dp s r2) (.cons (G.dp s r3) .nil)))
  inj p q := by
    simp only [PyData.eqv, PyData.eqvAll, Bool.and_true, Bool.and_eq_true, D.inj, E.inj, G.inj, Prod.ext_iff]
  lay p := by
    show (PyData.canLay0 (D.d p.1) && (PyData.canLay0 (E.d p.2.1) && (PyData.canLay0 (G.d p.2.2) && true))) = true
    rw [D.lay, E.lay, G.lay]
    rfl
  n := max D.n (max E.n G.n) + 1
  dep p := by
    have h1 := D.dep p.1
    have h2 := E.dep p.2.1
    have h3 := G.dep p.2.2
    show max (PyData.depth (D.d p.1)) (max (PyData.depth (E.d p.2.1)) (max (PyData.depth (G.d p.2.2)) 0)) + 1 ≤ max D.n (max E.n G.n) + 1
    omega
/-- a value as data where it stands -/
def DV {α : Type} {R : Rep α} (D : Dat R) (H : Hp) (v : V) (a : α) : Prop := ∀ K, Dp K H v (D.d a)
theorem dv_r (D : Dat R) {F H : Hp} {v : V} {a : α} (s : Same F H) (r : R.r F v a) : DV D H v a := fun _ => D.dp s r
theorem dv_l (D : Dat R) {F H : Hp} {v : V} {l : List α} (s : Same F H) (r : LV R F H v l) : DV (dtL D) H v l := fun _ => by
  obtain ⟨p, vs, rfl, hp, hv⟩ := r
  exact .lst (sq_l hp) (dt_all D s hv)
theorem dt_shaped (D : Dat R) (z : D.n ≤ 64) (a : α) : SeqAt.shaped (D.d a) = true := by
  unfold SeqAt.shaped
  rw [Bool.and_eq_true, decide_eq_true_eq]
  exact ⟨D.lay a, Nat.le_trans (D.dep a) z⟩
theorem dt_eq [DecidableEq α] (D : Dat R) (a b : α) : PyData.eqv (D.d a) (D.d b) = decide (a = b) := by
  rw [Bool.eq_iff_iff, D.inj, decide_eq_true_eq]
variable {K : PySem.W.Frag} {H : Hp} {Q : VK} {v x : V} {a b : α} {l : List α}
theorem w_eqD [DecidableEq α] (D : Dat R) (h1 : DV D H v a) (h2 : DV D H x b) (q : Q (.bl (eqD a b)) H) (z : D.n ≤ 64 := by decide) : rEqD K v x H Q :=
  ⟨_, _, h1 K, h2 K, dt_shaped D z a, dt_shaped D z b, by rw [dt_eq]; exact q⟩
theorem w_neD [DecidableEq α] (D : Dat R) (h1 : DV D H v a) (h2 : DV D H x b) (q : Q (.bl (!eqD a b)) H) (z : D.n ≤ 64 := by decide) : rNeD K v x H Q :=
  ⟨_, _, h1 K, h2 K, dt_shaped D z a, dt_shaped D z b, by rw [dt_eq]; exact q⟩
theorem dt_any [DecidableEq α] (D : Dat R) (a : α) (l : List α) : ((l.map D.d).any fun z => PyData.eqv z (D.d a)) = decide (a ∈ l) := by
  rw [List.any_map, Bool.eq_iff_iff, List.any_eq_true, decide_eq_true_eq]
  constructor
  · rintro ⟨b, hb, e⟩
    rw [← (D.inj b a).mp e]
    exact hb
  · intro h
    exact ⟨a, h, (D.inj a a).mpr rfl⟩
theorem w_inD [DecidableEq α] (D : Dat R) (h1 : DV D H v a) (h2 : DV (dtL D) H x l) (q : Q (.bl (memD a l)) H) (z : D.n < 64 := by decide) : rInD K v x H Q :=
  ⟨_, _, h1 K, h2 K, dt_shaped D (Nat.le_of_lt z) a, dt_shaped (dtL D) z l, by rw [dt_any]; exact q⟩
theorem w_ninD [DecidableEq α] (D : Dat R) (h1 : DV D H v a) (h2 : DV (dtL D) H x l) (q : Q (.bl (!memD a l)) H) (z : D.n < 64 := by decide) : rNotInD K v x H Q :=
  ⟨_, _, h1 K, h2 K, dt_shaped D (Nat.le_of_lt z) a, dt_shaped (dtL D) z l, by rw [dt_any]; exact q⟩
end
section
variable {M : Mx} {F0 H0 F H : Hp} {ss : List Sa} {τ : Type} {σ : St} {Qb : Bool → Hp → Prop} {t u : TT} {ca : Bool} {U : τ} {mb : Option (Bool × τ)} {r : Bool × τ} {α : Type} {R : Rep α} {Q : VK} {ta tb : TE}
theorem w_andS (cs : τ → List (Addr × Ca)) {cs' : List (Addr × Ca)} (h : Wst M F0 H0 ss cs' σ F H) (hm : (if ca = true then mb else some (false, U)) = some r) (h1 : ∀ Q' : Bool → Hp → Prop, (∀ F' H', Same F F' → Wst M F0 H0 ss (cs U) σ F' H' → Q' ca H') → t σ H Q') (h2 : ∀ F' H', Same F F' → Wst M F0 H0 ss (cs U) σ F' H' → ca = true → mb = some r → ∀ Q' : Bool → Hp → Prop, (∀ F2 H2, Same F' F2 → Wst M F0 H0 ss (cs r.2) σ F2 H2 → Q' r.1 H2) → u σ H' Q')
    (q : ∀ F' H', Same F F' → Wst M F0 H0 ss (cs r.2) σ F' H' → Qb r.1 H') : tAnd t u σ H Qb := by
  refine x_and (h1 _ fun F' H' s w => ?_)
  cases ca with
  | true =>
    rw [if_pos rfl] at hm ⊢
    exact h2 F' H' s w rfl hm _ fun F2 H2 s2 w2 => q F2 H2 (s.trans s2) w2
  | false =>
    rw [if_neg (by decide)] at hm ⊢
    cases hm
    exact q F' H' s w
theorem w_orS (cs : τ → List (Addr × Ca)) {cs' : List (Addr × Ca)} (h : Wst M F0 H0 ss cs' σ F H) (hm : (if ca = true then some (true, U) else mb) = some r) (h1 : ∀ Q' : Bool → Hp → Prop, (∀ F' H', Same F F' → Wst M F0 H0 ss (cs U) σ F' H' → Q' ca H') → t σ H Q') (h2 : ∀ F' H', Same F F' → Wst M F0 H0 ss (cs U) σ F' H' → ca = false → mb = some r → ∀ Q' : Bool → Hp → Prop, (∀ F2 H2, Same F' F2 → Wst M F0 H0 ss (cs r.2) σ F2 H2 → Q' r.1 H2) → u σ H' Q')
    (q : ∀ F' H', Same F F' → Wst M F0 H0 ss (cs r.2) σ F' H' → Qb r.1 H') : tOr t u σ H Qb := by
  refine x_or (h1 _ fun F' H' s w => ?_)
  cases ca with
  | true =>
    rw [if_pos rfl] at hm ⊢
    cases hm
    exact q F' H' s w
  | false =>
    rw [if_neg (by decide)] at hm ⊢
    exact h2 F' H' s w rfl hm _ fun F2 H2 s2 w2 => q F2 H2 (s.trans s2) w2
theorem w_ifG {cs cs' : List (Addr × Ca)} {ca : Bool} {ma mb : Option α} {r : α} (h : Wst M F0 H0 ss cs' σ F H) (hm : (if ca = true then ma else mb) = some r) (h1 : ∀ Q' : Bool → Hp → Prop, (∀ F' H', Same F F' → Wst M F0 H0 ss cs σ F' H' → Q' ca H') → t σ H Q')
    (h2 : ∀ F' H', Same F F' → Wst M F0 H0 ss cs σ F' H' → ca = true → ma = some r → ∀ Q' : VK, (∀ v F2 H2, Same F' F2 → Wst M F0 H0 ss cs σ F2 H2 → R.r F2 v r → Q' v H2) → ta σ H' Q')
    (h3 : ∀ F' H', Same F F' → Wst M F0 H0 ss cs σ F' H' → ca = false → mb = some r → ∀ Q' : VK, (∀ v F2 H2, Same F' F2 → Wst M F0 H0 ss cs σ F2 H2 → R.r F2 v r → Q' v H2) → tb σ H' Q')
    (q : ∀ v F' H', Same F F' → Wst M F0 H0 ss cs σ F' H' → R.r F' v r → Q v H') : tIf t ta tb σ H Q := by
  refine x_if (h1 _ fun F' H' s w => ?_)
  cases ca with
  | true =>
    rw [if_pos rfl] at hm ⊢
    exact h2 F' H' s w rfl hm _ fun v F2 H2 s2 w2 r2 => q v F2 H2 (s.trans s2) w2 r2
  | false =>
    rw [if_neg (by decide)] at hm ⊢
    exact h3 F' H' s w rfl hm _ fun v F2 H2 s2 w2 r2 => q v F2 H2 (s.trans s2) w2 r2
end
/-! ### mirrors: pairs in order; equality and membership as functions -/
def leP (p q : Nat × Nat) : Bool := decide (p.1 < q.1 ∨ p.1 = q.1 ∧ p.2 ≤ q.2)
def srtP (l : List (Nat × Nat)) : List (Nat × Nat) := l.mergeSort leP
theorem srtP_perm (l : List (Nat × Nat)) : (srtP l).Perm l := List.mergeSort_perm ..
theorem srtP_le (l : List (Nat × Nat)) : (srtP l).Pairwise fun p q => leP p q = true := by
  refine List.pairwise_mergeSort (le := leP) (fun a b c h1 h2 => ?_) (fun a b => ?_) l
  · unfold leP at *
    simp only [decide_eq_true_eq] at *
    omega
  · unfold leP
    simp only [Bool.or_eq_true, decide_eq_true_eq]
    omega
theorem srtP_eq {l m : List (Nat × Nat)} (p : m.Perm l) (s : m.Pairwise fun p q => leP p q = true) : m = srtP l := by
  refine List.Perm.eq_of_pairwise (fun a b _ _ h1 h2 => ?_) s (srtP_le l) (p.trans (srtP_perm l).symm)
  unfold leP at h1 h2
  simp only [decide_eq_true_eq] at h1 h2
  exact Prod.ext (by omega) (by omega)
theorem srtP_lt {l : List (Nat × Nat)} (nd : l.Nodup) : (srtP l).Pairwise ltT := by
  refine ((srtP_le l).and ((srtP_perm l).nodup_iff.mpr nd)).imp fun {a b} h => ?_
  obtain ⟨h1, h2⟩ := h
  unfold leP at h1
  simp only [decide_eq_true_eq] at h1
  unfold ltT
  have h3 : ¬ (a.1 = b.1 ∧ a.2 = b.2) := fun z => h2 (Prod.ext z.1 z.2)
  omega
theorem a2_tie {F H : Hp} {vs : List V} {l : List (Nat × Nat)} (s : Same F H) (h : A2 ((rT2 rN rN).r F) vs l) : TieL H vs l := h.imp fun v p r => by
  obtain ⟨t, x, y, rfl, ht, r1, r2⟩ := r
  refine ⟨t, rfl, ?_⟩
  rw [show x = _ from r1, show y = _ from r2] at ht
  exact s _ _ ht
theorem TieL.sortedW {H : Hp} {ys : List V} {qs : List Tie} (h : TieL H ys qs) (s : SrtO.Srtd (ltP (keyT H)) ys) : qs.Pairwise fun p q => leP p q = true := by
  induction h with
  | nil => exact List.Pairwise.nil
  | @cons v p vs ps r t ih =>
    refine List.pairwise_cons.mpr ⟨fun q hq => ?_, ih (List.pairwise_cons.mp s).2⟩
    obtain ⟨i, e⟩ := List.mem_iff_getElem?.mp hq
    have hi : i < vs.length := by rw [t.len]; exact (List.getElem?_eq_some_iff.mp e).1
    obtain ⟨q', e', r'⟩ := t.get (List.getElem?_eq_getElem hi)
    rw [e] at e'
    cases e'
    have h1 := (List.pairwise_cons.mp s).1 _ (List.getElem_mem hi)
    have h2 := SrtO.lexB_no.mp h1
    rw [keyT_of r, keyT_of r'] at h2
    simp only at h2
    unfold leP
    rw [decide_eq_true_eq]
    omega
theorem a2_permF {R : V → Nat × Nat → Prop} {as cs : List V} {bs : List (Nat × Nat)} (p : cs.Perm as) (h : A2 R as bs) : ∃ ds, ds.Perm bs ∧ A2 R cs ds := A2.perm p h
section
variable {M : Mx} {F0 H0 F H : Hp} {ss : List Sa} {cs : List (Addr × Ca)} {σ : St} {Q : VK} {K : PySem.W.Frag} {v : V} {l : List (Nat × Nat)}
theorem srtP_of (s : Same F H) (r : LV (rT2 rN rN) F H v l) (q : ∀ ys, A2 ((rT2 rN rN).r F) ys (srtP l) → ∀ p, H p = none → Q (.ref p) (upd H p (.lst ys))) : rSortedPO K [v] H Q := by
  obtain ⟨a, vs, rfl, ha, hv⟩ := r
  have h := a2_tie s hv
  refine ⟨a, vs, keyT H, rfl, sq_l ha, fun x hx => ?_, fun ys p st sb hp => ?_⟩
  · obtain ⟨i, e⟩ := List.mem_iff_getElem?.mp hx
    obtain ⟨q, _, r⟩ := h.get e
    have e2 := keyT_of r
    obtain ⟨t, rfl, r⟩ := r
    exact ⟨t, rfl, by rw [e2]; exact r⟩
  · obtain ⟨qs, pm, h2⟩ := a2_permF sb.perm hv
    have e := srtP_eq pm ((a2_tie s h2).sortedW st)
    rw [e] at h2
    exact q ys h2 p hp
theorem w_srtPF (h : Wst M F0 H0 ss cs σ F H) (r : LV (rT2 rN rN) F H v l) (q : ∀ v F' H', Same F F' → Wst M F0 H0 ss cs σ F' H' → (rL (rT2 rN rN)).r F' v (srtP l) → Q v H') : rSortedPO K [v] H Q := srtP_of h.fh r fun _ hv => w_newF h hv q
theorem w_srtPC (h : Wst M F0 H0 ss cs σ F H) (r : LV (rT2 rN rN) F H v l) (q : ∀ p H', H0 p = none → Wst M F0 H0 ss ((p, cL (rT2 rN rN) (srtP l)) :: cs) σ F H' → Q (.ref p) H') : rSortedPO K [v] H Q := srtP_of h.fh r fun _ hv => w_newC h hv q
end
theorem eqD_iff {α : Type} [DecidableEq α] {a b : α} : eqD a b = true ↔ a = b := decide_eq_true_iff
theorem memD_iff {α : Type} [DecidableEq α] {a : α} {l : List α} : memD a l = true ↔ a ∈ l := decide_eq_true_iff
theorem eqD_self {α : Type} [DecidableEq α] (a : α) : eqD a a = true := eqD_iff.mpr rfl
theorem w_cut {M : Mx} {F0 H0 F H : Hp} {ss0 : List Sa} {cs0 : List (Addr × Ca)} {σ : St} {S : Type} {ts us : TS} {n : St → Hp → Prop} {rt : VK} {bk ct : St → Hp → Prop} (na : Nat) (ss : S → (Nat → Addr) → List Sa) (cs : S → (Nat → Addr) → List (Addr × Ca)) (s : S) (hE : Wst M F0 H0 ss0 cs0 σ F H) (h : ts ⟨NX M F0 H0 na ss cs F s, rt, bk, ct⟩ σ H)
    (k : ∀ ad σ' F' H', (∀ i, i < na → H0 (ad i) = none) → Same F F' → Wst M F0 H0 (ss s ad) (cs s ad) σ' F' H' → us ⟨n, rt, bk, ct⟩ σ' H') : Evl.tCut ts us ⟨n, rt, bk, ct⟩ σ H :=
  x_cut (NX M F0 H0 na ss cs F s) h fun σ' H' ⟨ad, F', ha, s1, w⟩ => k ad σ' F' H' ha s1 w
theorem w_gU2 {α : Type} {R : Rep α} {F H : Hp} {v : V} {l : List α} {a b : α} {K : PySem.W.Frag} {g : TGs} {σ : St} {Qs : St → Hp → Prop} (r : LV R F H v l) (ea : l[0]? = some a) (eb : l[1]? = some b) (z : l.length = 2) (q : ∀ x y, R.r F x a → R.r F y b → g [x, y] σ H Qs) : gUnl K 2 g v σ H Qs := by
  match l, z, ea, eb with
  | [_, _], _, rfl, rfl =>
    obtain ⟨p, vs, rfl, hp, hv⟩ := r
    match vs, hv with
    | [x, y], .cons r1 (.cons r2 .nil) => exact ⟨p, [x, y], rfl, sq_l hp, rfl, q x y r1 r2⟩
theorem is_spInt {K : PySem.W.Frag} {H : Hp} {Q : VK} {E : XK} {v : V} {k : String} {b : Bool} (h : Knd K H v k) (e : (k == "int") = b) (q : Q (.bl b) H) : spIsInt K [v] H Q E := ⟨v, k, rfl, h, by rw [e]; exact q⟩
/-! ### mirrors: webs, by their rows -/
abbrev Wb := List (List Nat)
def nbs (n : Nat) (e : Rel) : Wb := (List.range n).map (nb n e)
theorem nbs_len (n : Nat) (e : Rel) : (nbs n e).length = n := by unfold nbs; rw [List.length_map, List.length_range]
theorem nbs_at {n : Nat} {e : Rel} {u : Nat} (h : u < n) : (nbs n e)[u]? = some (nb n e u) := by
  unfold nbs
  rw [List.getElem?_map, List.getElem?_range h]
  rfl
def rWb (C : Addr) : Rep Wb := ⟨fun F v w => ∃ x dx d, v = .ref x ∧ F x = some (.ins C dx (fB d)) ∧ (rL (rL rN)).r F (.ref d) w, fun s ⟨x, dx, d, e, h, r⟩ => ⟨x, dx, d, e, s _ _ h, (rL (rL rN)).mono s r⟩⟩
/-- F, and what is new -/
def Gw (F H H' : Hp) : Hp := fun a => if H a = none then (match H' a with | some (.tbl _) => none | o => o) else F a
theorem gw_new {F H H' : Hp} {a : Addr} {o : HO} (e : Gw F H H' a = some o) (h : H a = none) : H' a = some o ∧ ∀ ps, o ≠ .tbl ps := by
  unfold Gw at e
  rw [if_pos h] at e
  split at e
  · cases e
  · rename_i x hx
    refine ⟨e, fun ps z => ?_⟩
    rw [z] at e
    exact hx ps e
theorem gw_at {F H H' : Hp} {a : Addr} {o : HO} (h : H a = none) (e : H' a = some o) (n : ∀ ps, o ≠ .tbl ps := by intro ps z; cases z) : Gw F H H' a = some o := by
  unfold Gw
  rw [if_pos h]
  split
  · rename_i z
    rw [e] at z
    exact absurd (Option.some.inj z) (n _)
  · exact e
theorem ext_gw {T : List (Addr × Str)} {F H H' : Hp} (s : Same F H) (nt : NoT F) (k : Same H H') : Ext ⟨[], T⟩ F H (Gw F H H') H' := by
  refine ⟨fun a o e => ?_, fun a o e => ?_, fun a o _ e _ => k a o e, fun a h n => ?_, fun a n z => ?_, fun a ps e => ?_, fun t => t.ext k⟩
  · unfold Gw
    rw [if_neg (by rw [s a o e]; exact nofun)]
    exact e
  · by_cases h : H a = none
    · exact (gw_new e h).1
    · unfold Gw at e
      rw [if_neg h] at e
      exact k a o (s a o e)
  · unfold Gw
    rw [if_neg n]
    exact h
  · cases e : H a with
    | none => exact n e
    | some o => rw [k a o e] at z; cases z
  · by_cases h : H a = none
    · exact (gw_new e h).2 ps rfl
    · unfold Gw at e
      rw [if_neg h] at e
      exact nt a ps e
theorem a2_of_nvs {F : Hp} {l : List Nat} {a : Addr} (h : F a = some (.lst (nv l))) : (rL rN).r F (.ref a) l := ⟨a, nv l, rfl, h, nvN_a2 l⟩
theorem web_rWb {C x : Addr} {F : Hp} {n : Nat} {e : Rel} (w : WebAt C F x n e) : (rWb C).r F (.ref x) (nbs n e) := by
  obtain ⟨dx, d, rows, h1, h2, h3, h4⟩ := w.ex
  refine ⟨x, dx, d, rfl, h1, d, rows.map V.ref, rfl, h2, a2_of_get (by rw [List.length_map, nbs_len, h3]) fun i v r e1 e2 => ?_⟩
  obtain ⟨a, rfl, ha⟩ := of_refs e1
  have hi := (List.getElem?_eq_some_iff.mp e2).1
  rw [nbs_len] at hi
  rw [nbs_at hi] at e2
  cases e2
  exact a2_of_nvs (h4 i a ha)
theorem rows_eq {l m : List (List Nat)} (h : l.length = m.length) (q : ∀ (i : Nat) (x y : List Nat), l[i]? = some x → m[i]? = some y → x = y) : l = m := by
  refine List.ext_getElem? fun i => ?_
  by_cases c : i < l.length
  · have e1 : l[i]? = some l[i] := List.getElem?_eq_getElem c
    have e2 : m[i]? = some (m[i]'(by omega)) := List.getElem?_eq_getElem (by omega)
    rw [e1, e2, q i _ _ e1 e2]
  · rw [List.getElem?_eq_none (by omega), List.getElem?_eq_none (by omega)]
theorem rWb_web {C x : Addr} {F : Hp} {n : Nat} {e : Rel} (r : (rWb C).r F (.ref x) (nbs n e)) : WebAt C F x n e := by
  obtain ⟨x', dx, d, ex, h1, a, vs, ea, h2, hv⟩ := r
  cases ex
  cases ea
  have zl := hv.len
  rw [nbs_len] at zl
  have hrefs : ∃ rows : List Addr, vs = rows.map V.ref := by
    clear h2 zl
    generalize nbs n e = m at hv
    induction hv with
    | nil => exact ⟨[], rfl⟩
    | cons r _ ih =>
      obtain ⟨rows, rfl⟩ := ih
      obtain ⟨b, _, rfl, _⟩ := r
      exact ⟨b :: rows, rfl⟩
  obtain ⟨rows, rfl⟩ := hrefs
  rw [List.length_map] at zl
  refine ⟨dx, d, rows, h1, h2, zl, fun i a ha => ?_⟩
  have hi := (List.getElem?_eq_some_iff.mp ha).1
  obtain ⟨r, hr, b, ws, eb, hb, hw⟩ := hv.get (refs_at ha)
  cases eb
  rw [nbs_at (by omega)] at hr
  cases hr
  rw [hb, a2_nvN hw]
def mkWeb (n : Nat) (ts : List (Nat × Nat)) : Option Wb := (gd (ts.Nodup ∧ (∀ p ∈ ts, p.1 < p.2 ∧ p.2 < n) ∧ n ≤ 100 ∧ ts.length ≤ 50000)).bind fun _ => some (nbs n (eOf ts))
theorem mkWeb_ok {n : Nat} {ts : List (Nat × Nat)} (t : TOk n ts) (h : n ≤ 100) (z : ts.length ≤ 50000) : mkWeb n ts = some (nbs n (eOf ts)) := by
  unfold mkWeb
  rw [gd_true ⟨t.nd, t.ok, h, z⟩]
  rfl
def MkG (C : Addr) (sp : Sp) (E : XK) (vs : List V) (H : Hp) (Q : VK) : Prop := ∀ x dx, H x = none → H dx = none → dx ≠ x → sp (.ref x :: vs) (upd (upd H dx (.own x)) x (.ins C dx [])) (fun v H2 => v = .non ∧ Q (.ref x) H2) E
theorem m_make {C : Addr} {sp : Sp} {E : XK} {tr : TA} {σ : St} {H : Hp} {Q : VK} (h : tr σ H fun vs H1 => MkG C sp E vs H1 Q) : tMake C sp [] E tr σ H Q := x_make h
section
variable {M : Mx} {F0 H0 F H : Hp} {ss : List Sa} {cs : List (Addr × Ca)} {σ : St} {Q : VK} {K : PySem.W.Frag} {v : V} {C : Addr} {w : Wb} {E : XK} {P : Prop}
theorem _root_.OC.WebAt.sameT {C x : Addr} {H H' : Hp} {n : Nat} {e : Rel} (w : WebAt C H x n e) (k : ∀ a o, H a = some o → (∀ ps, o ≠ .tbl ps) → H' a = some o) : WebAt C H' x n e := by
  obtain ⟨dx, d, rows, h1, h2, h3, h4⟩ := w.ex
  exact ⟨dx, d, rows, k _ _ h1 (by intro ps z; cases z), k _ _ h2 (by intro ps z; cases z), h3, fun i a h => k _ _ (h4 i a h) (by intro ps z; cases z)⟩
theorem w_mkWeb {n : Nat} {ts : List (Nat × Nat)} {tv : V} (h : Wst M F0 H0 ss cs σ F H) (r : (rL (rT2 rN rN)).r F tv ts) (hw : mkWeb n ts = some w) (q : ∀ v F' H', Same F F' → Wst M F0 H0 ss cs σ F' H' → (rWb C).r F' v w → Q v H') : MkG C (spInitW C) E [.int (n : Int), tv] H Q := by
  intro x dx hx hdx ne
  unfold mkWeb at hw
  obtain ⟨_, g, hw⟩ := bnd hw
  have g := gd_ok g
  cases hw
  have s1 : Same H (upd (upd H dx (.own x)) x (.ins C dx [])) := fun b o e => by
    rw [upd_ne (ne_of_none e hx), upd_ne (ne_of_none e hdx)]
    exact e
  obtain ⟨t, vs, rfl, ht, hv⟩ := r
  refine ⟨x, dx, t, n, vs, ts, rfl, upd_same, s1 _ _ (h.fh _ _ ht), (a2_tie h.fh hv).same s1, ⟨g.1, g.2.1⟩, g.2.2.1, g.2.2.2, fun H5 k5 w5 => ⟨rfl, ?_⟩⟩
  have s5 : Same H H5 := fun b o e => k5 b o (s1 b o e) (ne_of_none e hx)
  have e := ext_gw (T := M.tl) h.fh h.nt s5
  refine q _ _ _ e.ff (h.grow e) (web_rWb (w5.sameT fun a o ha nt => ?_))
  obtain ⟨h1, h2⟩ := nw_of ha
  refine gw_at ?_ h1 nt
  rcases h2 with h2 | h2
  · rw [h2]; exact hx
  · cases z : H a with
    | none => rfl
    | some o => rw [s1 a o z] at h2; cases h2
theorem w_insWeb {m : Str} (s : Same F H) (r : (rWb C).r F v w) (hm : ¬ m = "beside") (q : ∀ a, v = .ref a → P) : ∃ a dx fs, v = .ref a ∧ H a = some (.ins C dx fs) ∧ fs.lookup m = none ∧ P := by
  obtain ⟨x, dx, d, rfl, h, _⟩ := r
  exact ⟨x, dx, _, rfl, s _ _ h, fB_no d hm, q x rfl⟩
theorem w_inpWeb {P : Addr → Prop} (s : Same F H) (r : (rWb C).r F v w) (q : ∀ a, v = .ref a → P a) : ∃ a dx fs, v = .ref a ∧ H a = some (.ins C dx fs) ∧ P a := by
  obtain ⟨x, dx, d, rfl, h, _⟩ := r
  exact ⟨x, dx, _, rfl, s _ _ h, q x rfl⟩
theorem w_fldWeb {P : V → Prop} (s : Same F H) (r : (rWb C).r F v w) (c : Cls K C) (n : NoAttr K C "beside") (q : ∀ d, (rL (rL rN)).r F d w → P d) : ∃ a C' dx fs d, v = .ref a ∧ H a = some (.ins C' dx fs) ∧ Cls K C' ∧ NoAttr K C' "beside" ∧ fs.lookup ("beside" : Str) = some d ∧ P d := by
  obtain ⟨x, dx, d, rfl, h, r⟩ := r
  exact ⟨x, C, dx, _, .ref d, rfl, s _ _ h, c, n, fB_beside d, q _ r⟩
theorem knWeb (s : Same F H) (r : (rWb C).r F v w) : ∃ a dx fs, v = .ref a ∧ H a = some (.ins C dx fs) := by
  obtain ⟨x, dx, d, rfl, h, _⟩ := r
  exact ⟨x, dx, _, rfl, s _ _ h⟩
end
/-! ### mirrors: two fors -/
def compL {α β : Type} (f : α → Option (List β)) : List α → Option (List β)
  | [] => some []
  | x :: xs => (f x).bind fun l => (compL f xs).bind fun m => some (l ++ m)
theorem compL_map {α β : Type} {f : α → Option (List β)} {g : α → List β} {xs : List α} (h : ∀ x ∈ xs, f x = some (g x)) : compL f xs = some (xs.flatMap g) := by
  induction xs with
  | nil => rfl
  | cons x xs ih =>
    show (f x).bind (fun l => (compL f xs).bind fun m => some (l ++ m)) = _
    rw [h x (List.mem_cons_self ..), ih fun y hy => h y (List.mem_cons_of_mem _ hy)]
    rfl
section
variable {M : Mx} {F0 H0 F H : Hp} {α β γ : Type} {R : Rep α} {B : Rep β} {G : Rep γ} {K : PySem.W.Frag} {σ σ2 : St} {xs : List α} {g g1 : TG} {wi1 : TI} {tt tt1 : TT} {te : TE} {Q : VK}
theorem w_lc2 {J : It} {D : Addr} {vs vs1 : List Nat} {ss : List Sa} {cs : List (Addr × Ca)} {f : α → Option (List β)} {lr : List β} (hf : compL f xs = some lr) (z : lr.length ≤ 100000) (hE : Wst M F0 H0 ss cs σ F H) (hD : H D = none)
    (hJ : ∀ acc F' H', Same F F' → Wst M F0 H0 (wipeS ss vs) ((D, cL B acc) :: cs) (L2.wipe σ vs) F' H' → JOk J R xs F' H')
    (hs : ∀ x v o acc F' H', Same F F' → R.r F' v x → Wst M F0 H0 (wipeS ss vs) ((D, cL B acc) :: cs) (L2.wipe σ vs) F' H' → f x = some o → acc.length + o.length ≤ 100000 → L2.wipe (L2.wipe σ vs) vs = L2.wipe σ vs →
      g v (L2.wipe σ vs) H' fun σ2 H2 => L2.wipe σ2 vs = L2.wipe σ vs ∧ tt σ2 H2 fun b H3 => if b = true then wi1 σ2 H3 fun J1 H4 => LI J1 D (CN M F0 H0 (wipeS ss vs) (fun (_ : Unit) => cs) F (L2.wipe σ vs) D B (acc ++ o) ()) g1 tt1 te vs1 σ2 H4 else CN M F0 H0 (wipeS ss vs) (fun (_ : Unit) => cs) F (L2.wipe σ vs) D B (acc ++ o) () H3)
    (hd : ∀ F' H', H0 D = none → Same F F' → Wst M F0 H0 ss ((D, cL B lr) :: cs) σ F' H' → Q (.ref D) H') : LW2 J D g tt wi1 g1 tt1 te vs vs1 σ H Q := by
  have hD0 := hE.own hD
  refine ⟨fun i m H => m = xs.length - i ∧ i ≤ xs.length ∧ ∃ acc F' l', Same F F' ∧ Wst M F0 H0 (wipeS ss vs) ((D, cL B acc) :: cs) (L2.wipe σ vs) F' H ∧ compL f (xs.drop i) = some l' ∧ acc ++ l' = lr,
    ⟨_, rfl, Nat.zero_le _, [], F, lr, Same.refl F, (hE.wipe vs).newC hD ⟨[], rfl, .nil⟩, hf, rfl⟩, ?_⟩
  rintro i m H1 ⟨rfl, hi, acc, F1, l', sm, w, q, el⟩
  obtain ⟨j1, j2⟩ := hJ acc F1 H1 sm w i
  by_cases hlt : i < xs.length
  · obtain ⟨go, yl⟩ := j1 hlt
    have ex : xs[i]? = some (xs[i]'hlt) := List.getElem?_eq_getElem hlt
    rw [List.drop_eq_getElem_cons hlt] at q
    obtain ⟨o, hb, q⟩ := bnd q
    obtain ⟨p, hp, q⟩ := bnd q
    have e1 : o ++ p = l' := Option.some.inj q
    refine .inr ⟨go, CN M F0 H0 (wipeS ss vs) (fun (_ : Unit) => cs) F (L2.wipe σ vs) D B (acc ++ o) (), fun H' ⟨F2, sm2, w2⟩ => ⟨_, by omega, rfl, hlt, acc ++ o, F2, p, sm2, w2, hp, by rw [List.append_assoc, e1]; exact el⟩, fun x H'' y => ?_⟩
    obtain ⟨F2, x2, r2⟩ := yl x H'' y
    refine hs _ x o acc F2 H'' (sm.trans (x2 M.tl).ff) (r2 _ ex) (w.grow (x2 M.tl)) hb ?_ (wipe_wipe fun _ h => h)
    rw [← el, ← e1, List.length_append, List.length_append] at z
    omega
  · have e1 : i = xs.length := by omega
    rw [e1, List.drop_length] at q
    have e2 : ([] : List β) = l' := Option.some.inj q
    rw [← e2, List.append_nil] at el
    rw [el] at w
    exact .inl ⟨j2 (by omega), hd F1 H1 hD0 sm ⟨w.ex, hE.sl.imp fun s _ => s.mono sm, w.cl, w.nd⟩⟩
theorem w_li {J : It} {D : Addr} {vs vs1 : List Nat} {ss2 ssw : List Sa} {cs : List (Addr × Ca)} {f : γ → Option (Option β)} {ys : List γ} {l acc : List β} {Fw : Hp} {σw : St} (hf : compO f ys = some l) (z : acc.length + l.length ≤ 100000) (hE : Wst M F0 H0 ss2 ((D, cL B acc) :: cs) σ2 F H) (smw : Same Fw F) (eσ : L2.wipe σ2 vs = σw) (eS : wipeS (wipeS ss2 vs1) vs = ssw) (hv : ∀ v ∈ vs1, v ∈ vs)
    (hJ : ∀ ac F' H', Same F F' → Wst M F0 H0 (wipeS ss2 vs1) ((D, cL B ac) :: cs) (L2.wipe σ2 vs1) F' H' → JOk J G ys F' H')
    (hs : ∀ x v o ac F' H', Same F F' → G.r F' v x → Wst M F0 H0 (wipeS ss2 vs1) ((D, cL B ac) :: cs) (L2.wipe σ2 vs1) F' H' → f x = some o → ac.length + o.toList.length ≤ 100000 → L2.wipe (L2.wipe σ2 vs1) vs1 = L2.wipe σ2 vs1 →
      g1 v (L2.wipe σ2 vs1) H' fun σ3 H2 => L2.wipe σ3 vs1 = L2.wipe σ2 vs1 ∧ tt1 σ3 H2 fun b H3 => if b = true then te σ3 H3 fun y H4 => ∃ a, H4 D = some (.lst a) ∧ a.length < sizeLine ∧ CN M F0 H0 (wipeS ss2 vs1) (fun (_ : Unit) => cs) F (L2.wipe σ2 vs1) D B (ac ++ o.toList) () (upd H4 D (.lst (a ++ [y]))) else CN M F0 H0 (wipeS ss2 vs1) (fun (_ : Unit) => cs) F (L2.wipe σ2 vs1) D B (ac ++ o.toList) () H3) :
    LI J D (CN M F0 H0 ssw (fun (_ : Unit) => cs) Fw σw D B (acc ++ l) ()) g1 tt1 te vs1 σ2 H := by
  have wipe2 : ∀ {us : List Nat}, (∀ v ∈ us, v ∈ vs) → L2.wipe (L2.wipe σ2 us) vs = L2.wipe σ2 vs := fun {us} => by
    induction us with
    | nil => intro _; rfl
    | cons u us ih =>
      intro h
      show L2.wipe ((L2.wipe σ2 us).set u none) vs = _
      rw [wipe_set (h u List.mem_cons_self), ih fun v hv => h v (List.mem_cons_of_mem _ hv)]
  refine ⟨fun i m H => m = ys.length - i ∧ i ≤ ys.length ∧ ∃ ac F' l', Same F F' ∧ Wst M F0 H0 (wipeS ss2 vs1) ((D, cL B ac) :: cs) (L2.wipe σ2 vs1) F' H ∧ compO f (ys.drop i) = some l' ∧ ac ++ l' = acc ++ l,
    ⟨_, rfl, Nat.zero_le _, acc, F, l, Same.refl F, hE.wipe vs1, hf, rfl⟩, ?_⟩
  rintro i m H1 ⟨rfl, hi, ac, F1, l', sm, w, q, el⟩
  obtain ⟨j1, j2⟩ := hJ ac F1 H1 sm w i
  by_cases hlt : i < ys.length
  · obtain ⟨go, yl⟩ := j1 hlt
    have ex : ys[i]? = some (ys[i]'hlt) := List.getElem?_eq_getElem hlt
    rw [List.drop_eq_getElem_cons hlt] at q
    obtain ⟨o, hb, q⟩ := bnd (m := f _) q
    obtain ⟨p, hp, q⟩ := bnd q
    have e1 : o.toList ++ p = l' := Option.some.inj q
    refine .inr ⟨go, CN M F0 H0 (wipeS ss2 vs1) (fun (_ : Unit) => cs) F (L2.wipe σ2 vs1) D B (ac ++ o.toList) (), fun H' ⟨F2, sm2, w2⟩ => ⟨_, by omega, rfl, hlt, ac ++ o.toList, F2, p, sm2, w2, hp, by rw [List.append_assoc, e1]; exact el⟩, fun x H'' y => ?_⟩
    obtain ⟨F2, x2, r2⟩ := yl x H'' y
    refine hs _ x o ac F2 H'' (sm.trans (x2 M.tl).ff) (r2 _ ex) (w.grow (x2 M.tl)) hb ?_ (wipe_wipe fun _ h => h)
    have := congrArg List.length el
    rw [← e1, List.length_append, List.length_append, List.length_append] at this
    omega
  · have e1 : i = ys.length := by omega
    rw [e1, List.drop_length] at q
    have e2 : ([] : List β) = l' := Option.some.inj q
    rw [← e2, List.append_nil] at el
    rw [el] at w
    have w := w.wipe vs
    rw [wipe2 hv, eσ, eS] at w
    exact .inl ⟨j2 (by omega), F1, smw.trans sm, w⟩
theorem w_skip2 {D : Addr} {ss ss2 : List Sa} {cs : List (Addr × Ca)} {F' : Hp} {σ2 σw : St} {vs : List Nat} {acc : List β} (h : Wst M F0 H0 ss2 ((D, cL B acc) :: cs) σ2 F' H) (sm : Same F F') (eσ : L2.wipe σ2 vs = σw) (eS : wipeS ss2 vs = ss) : CN M F0 H0 ss (fun (_ : Unit) => cs) F σw D B (acc ++ []) () H := by
  have w := h.wipe vs
  rw [eσ, eS] at w
  rw [List.append_nil]
  exact ⟨F', sm, w⟩
end
/-! ### mirrors: dicts of places -/
def dput {β : Type} (d : List (Nat × β)) (k : Nat) (v : β) : List (Nat × β) := if (d.any fun p => decide (p.1 = k)) = true then d.map (fun p => if p.1 = k then (p.1, v) else p) else d ++ [(k, v)]
def dget {β : Type} : List (Nat × β) → Nat → Option β
  | [], _ => none
  | p :: d, k => if p.1 = k then some p.2 else dget d k
section
variable {α β : Type} {B : Rep β}
def KvR (B : Rep β) (F : Hp) (kv : Key × V) (p : Nat × β) : Prop := kv.1 = (Sum.inl (p.1 : Int) : Key) ∧ B.r F kv.2 p.2
def cD (B : Rep β) (d : List (Nat × β)) : Ca := ⟨fun F o => ∃ kvs, o = .dK kvs ∧ A2 (KvR B F) kvs d, fun s ⟨kvs, e, h⟩ => ⟨kvs, e, h.imp fun _ _ ⟨h1, h2⟩ => ⟨h1, B.mono s h2⟩⟩, fun ⟨kvs, e, _⟩ => by subst e; exact ⟨(fun _ z => by cases z), (fun _ z => by cases z)⟩⟩
def rD (B : Rep β) : Rep (List (Nat × β)) := ⟨fun F v d => ∃ a kvs, v = .ref a ∧ F a = some (.dK kvs) ∧ A2 (KvR B F) kvs d, fun s ⟨a, kvs, e, h, q⟩ => ⟨a, kvs, e, s _ _ h, q.imp fun _ _ ⟨h1, h2⟩ => ⟨h1, B.mono s h2⟩⟩⟩
/-- a dict that can be read -/
def DVw (B : Rep β) (F H : Hp) (v : V) (d : List (Nat × β)) : Prop := ∃ a kvs, v = .ref a ∧ H a = some (.dK kvs) ∧ A2 (KvR B F) kvs d
variable {M : Mx} {F0 H0 F H : Hp} {ss : List Sa} {cs cs' : List (Addr × Ca)} {σ : St} {c : Addr} {k : Nat} {Q : VK} {v x : V} {d : List (Nat × β)} {n : Nat} {b : β} {P : Option V → Prop} {Pv : V → Prop}
theorem dw_f (s : Same F H) (r : (rD B).r F v d) : DVw B F H v d := by
  obtain ⟨a, kvs, e, h, q⟩ := r
  exact ⟨a, kvs, e, s _ _ h, q⟩
theorem dw_c (h : Wst M F0 H0 ss cs σ F H) (e : cs[k]? = some (c, cD B d)) : DVw B F H (.ref c) d := by
  obtain ⟨o, h1, kvs, rfl, q⟩ := h.cell e
  exact ⟨c, kvs, rfl, h1, q⟩
theorem dget_val {kvs : List (Key × V)} (h : A2 (KvR B F) kvs d) (n : Nat) : (dget d n = none ∧ valV kvs (Sum.inl (n : Int) : Key) = none) ∨ ∃ b x, dget d n = some b ∧ valV kvs (Sum.inl (n : Int) : Key) = some x ∧ B.r F x b := by
  induction h with
  | nil => exact .inl ⟨rfl, rfl⟩
  | @cons kv p kvs d r _ ih =>
    obtain ⟨k0, v0⟩ := kv
    obtain ⟨m, b0⟩ := p
    obtain ⟨h1, h2⟩ := r
    simp only at h1 h2
    subst h1
    by_cases e : m = n
    · subst e
      refine .inr ⟨b0, v0, ?_, ?_, h2⟩
      · unfold dget
        rw [if_pos rfl]
      · rw [valV_pos rfl]
    · have e1 : dget ((m, b0) :: d) n = dget d n := by
        conv => lhs; unfold dget
        rw [if_neg e]
      have e2 : valV ((Sum.inl (m : Int), v0) :: kvs) (Sum.inl (n : Int) : Key) = valV kvs (Sum.inl (n : Int) : Key) := valV_neg (fun z => e (by have := Sum.inl.inj z; omega))
      rw [e1, e2]
      exact ih
theorem w_dmem (r : DVw B F H v d) (q : ∀ o : Option V, o.isSome = (dget d n).isSome → P o) : ∃ a o, v = .ref a ∧ DGet H a (.int (n : Int)) o ∧ P o := by
  obtain ⟨a, kvs, rfl, h, hv⟩ := r
  refine ⟨a, _, rfl, DGet.k (k := Sum.inl (n : Int)) h, q _ ?_⟩
  rcases dget_val hv n with ⟨e1, e2⟩ | ⟨b, x, e1, e2, _⟩ <;> rw [e1, e2] <;> rfl
theorem w_dget (r : DVw B F H v d) (e : dget d n = some b) (q : ∀ x, B.r F x b → Pv x) : ∃ a x, v = .ref a ∧ DGet H a (.int (n : Int)) (some x) ∧ Pv x := by
  obtain ⟨a, kvs, rfl, h, hv⟩ := r
  rcases dget_val hv n with ⟨e1, _⟩ | ⟨b', x, e1, e2, r⟩
  · rw [e] at e1; cases e1
  · rw [e] at e1
    cases e1
    refine ⟨a, x, rfl, ?_, q x r⟩
    rw [← e2]
    exact DGet.k (k := Sum.inl (n : Int)) h
theorem kv_any {kvs : List (Key × V)} (h : A2 (KvR B F) kvs d) (n : Nat) : (kvs.any fun kv => decide (kv.1 = (Sum.inl (n : Int) : Key))) = d.any fun p => decide (p.1 = n) := by
  induction h with
  | nil => rfl
  | @cons kv p kvs d r _ ih =>
    rw [List.any_cons, List.any_cons, ih, r.1, dec_cast (p := (Sum.inl (p.1 : Int) : Key) = Sum.inl (n : Int)) (q := p.1 = n) ⟨fun z => by have := Sum.inl.inj z; omega, fun z => by rw [z]⟩]
theorem putK_rep {kvs : List (Key × V)} (h : A2 (KvR B F) kvs d) (r : B.r F x b) : A2 (KvR B F) (putK kvs (Sum.inl (n : Int) : Key) x) (dput d n b) := by
  unfold putK dput
  rw [kv_any h]
  split
  · rename_i z
    clear z
    induction h with
    | nil => exact .nil
    | @cons kv p kvs d r0 _ ih =>
      rw [List.map_cons, List.map_cons]
      refine .cons ?_ ih
      by_cases e : p.1 = n
      · rw [if_pos e, if_pos (by rw [r0.1, e])]
        exact ⟨r0.1, r⟩
      · rw [if_neg e, if_neg (by rw [r0.1]; exact fun z => e (by have := Sum.inl.inj z; omega))]
        exact r0
  · exact h.snoc ⟨rfl, r⟩
theorem w_dput {P : Hp → Prop} (h : Wst M F0 H0 ss cs σ F H) (e : cs[k]? = some (c, cD B d)) (z : d.length < 100000) (r : B.r F x b) (e2 : cs.set k (c, cD B (dput d n b)) = cs') (q : ∀ H', Wst M F0 H0 ss cs' σ F H' → P H') : ∃ a H4, V.ref c = .ref a ∧ DPut H a (.int (n : Int)) x H4 ∧ P H4 := by
  subst e2
  obtain ⟨o, h1, kvs, rfl, hv⟩ := h.cell e
  exact ⟨c, _, rfl, DPut.k (k := Sum.inl (n : Int)) h1 (sz_lt (by rw [hv.len]; exact z)), q _ (h.mut e ⟨_, rfl, putK_rep hv r⟩)⟩
theorem w_dnew (h : Wst M F0 H0 ss cs σ F H) (q : ∀ p H', H0 p = none → Wst M F0 H0 ss ((p, cD B []) :: cs) σ F H' → Q (.ref p) H') : tDNewK σ H Q := fun p hp => q p _ (h.own hp) (h.newC hp ⟨[], rfl, .nil⟩)
end
/-! ### mirrors: for .. else, break; what may be unset -/
def Stp.out {S T : Type} : Stp S T → T ⊕ S
  | .rt t => .inl t
  | .nx s => .inr s
  | .bk s => .inr s
def satO {α : Type} (R : Rep α) (o : Option α) : Sa := ⟨fun F ov => ∀ a, o = some a → ∃ v, ov = some v ∧ R.r F v a, fun s h a e => by
  obtain ⟨v, e1, r⟩ := h a e
  exact ⟨v, e1, R.mono s r⟩⟩
section
variable {M : Mx} {F0 H0 F H : Hp} {α S T : Type} {R : Rep α} {ss : List Sa} {cs : List (Addr × Ca)} {K : PySem.W.Frag} {σ : St} {xs : List α} {v : V} {g : TG} {tb u : TS} {nx : St → Hp → Prop} {rt : VK} {bk ct : St → Hp → Prop}
theorem Wst.toO {i : Nat} {a : α} {s : Sa} (h : Wst M F0 H0 ss cs σ F H) (e : ss[i]? = some (R.at a)) : Wst M F0 H0 (ss.set i (satO R (some a))) cs σ F H := h.retype e fun ov q b eb => by
  cases eb
  exact q
theorem Wst.toN {i : Nat} (R : Rep α) (h : Wst M F0 H0 ss cs σ F H) : Wst M F0 H0 (ss.set i (satO R none)) cs σ F H := by
  cases e : ss[i]? with
  | none =>
    rw [List.set_eq_of_length_le (List.getElem?_eq_none_iff.mp e)]
    exact h
  | some s => exact h.retype e fun _ _ a ea => by cases ea
theorem Wst.ofO {i : Nat} {a : α} {o : Option α} (h : Wst M F0 H0 ss cs σ F H) (e : ss[i]? = some (satO R o)) (eo : o = some a) : Wst M F0 H0 (ss.set i (R.at a)) cs σ F H := h.retype e fun ov q => q a eo
/-- for .. else -/
theorem w_forE {J : It} {body : S → α → Option (Stp S T)} {s0 : S} {e : Stp S T} (na : Nat) (ss : S → (Nat → Addr) → List Sa) (cs : S → (Nat → Addr) → List (Addr × Ca)) (hf : loopO body xs s0 = some e) (ad0 : Nat → Addr) (had : ∀ i, i < na → H0 (ad0 i) = none) (hE : Wst M F0 H0 (ss s0 ad0) (cs s0 ad0) σ F H)
    (hJ : ∀ s ad σ' F' H', Same F F' → Wst M F0 H0 (ss s ad) (cs s ad) σ' F' H' → JOk J R xs F' H')
    (hs : ∀ s ad x v o σ' F' H', (∀ i, i < na → H0 (ad i) = none) → Same F F' → R.r F' v x → Wst M F0 H0 (ss s ad) (cs s ad) σ' F' H' → body s x = some o → (∀ t, o = .rt t → e = .rt t) → (∀ t, o = .bk t → e = .bk t) →
      g v σ' H' fun σ2 H2 => tb ⟨fun σ3 H3 => ∃ s', o = .nx s' ∧ NX M F0 H0 na ss cs F s' σ3 H3, rt, nx, fun σ3 H3 => ∃ s', o = .nx s' ∧ NX M F0 H0 na ss cs F s' σ3 H3⟩ σ2 H2)
    (hd : ∀ s ad σ' F' H', e = .nx s → (∀ i, i < na → H0 (ad i) = none) → Same F F' → Wst M F0 H0 (ss s ad) (cs s ad) σ' F' H' → u ⟨nx, rt, bk, ct⟩ σ' H') : FWE J g tb u ⟨nx, rt, bk, ct⟩ σ H := by
  refine ⟨fun i m σ H => m = xs.length - i ∧ i ≤ xs.length ∧ ∃ s ad F', (∀ i, i < na → H0 (ad i) = none) ∧ Same F F' ∧ Wst M F0 H0 (ss s ad) (cs s ad) σ F' H ∧ loopO body (xs.drop i) s = some e, ⟨_, rfl, Nat.zero_le _, s0, ad0, F, had, Same.refl F, hE, hf⟩, ?_⟩
  rintro i m σ1 H1 ⟨rfl, hi, s, ad, F1, ha, sm, w, q⟩
  obtain ⟨j1, j2⟩ := hJ s ad σ1 F1 H1 sm w i
  by_cases hlt : i < xs.length
  · obtain ⟨go, yl⟩ := j1 hlt
    have ex : xs[i]? = some (xs[i]'hlt) := List.getElem?_eq_getElem hlt
    rw [List.drop_eq_getElem_cons hlt] at q
    obtain ⟨o, hb, q⟩ := bnd q
    refine .inr ⟨go, fun σ3 H3 => ∃ s', o = .nx s' ∧ NX M F0 H0 na ss cs F s' σ3 H3, fun σ' H' ⟨s', eo, ad2, F2, ha2, sm2, w2⟩ => ⟨_, by omega, rfl, hlt, s', ad2, F2, ha2, sm2, w2, by subst eo; exact q⟩, fun x H'' y => ?_⟩
    obtain ⟨F2, x2, r2⟩ := yl x H'' y
    exact hs s ad _ x o σ1 F2 H'' ha (sm.trans (x2 M.tl).ff) (r2 _ ex) (w.grow (x2 M.tl)) hb (fun t et => by subst et; exact (Option.some.inj q).symm) (fun t et => by subst et; exact (Option.some.inj q).symm)
  · have e1 : i = xs.length := by omega
    rw [e1, List.drop_length] at q
    exact .inl ⟨j2 (by omega), hd s ad σ1 F1 H1 (Option.some.inj q).symm ha sm w⟩
/-- pairs at once -/
theorem w_par {ss ss' : List Sa} {cs : List (Addr × Ca)} {i j : Nat} {ta : TA} {β : Type} {B : Rep β} (h : ta σ H fun vs H1 => ∃ v w, vs = [v, w] ∧ nx ((σ.set i (some v)).set j (some w)) H1) : tPar i j ta ⟨nx, rt, bk, ct⟩ σ H := h
theorem x_par {i j : Nat} {ta : TA} (h : ta σ H fun vs H1 => ∃ v w, vs = [v, w] ∧ nx ((σ.set i (some v)).set j (some w)) H1) : tPar i j ta ⟨nx, rt, bk, ct⟩ σ H := h
theorem w_par2 {ss ss' : List Sa} {cs : List (Addr × Ca)} {i j : Nat} {s1 s2 : Sa} {x y : V} (h : Wst M F0 H0 ss cs σ F H) (e : (ss.set i s1).set j s2 = ss') (r1 : s1.p F (some x)) (r2 : s2.p F (some y)) (q : ∀ σ', Wst M F0 H0 ss' cs σ' F H → nx σ' H) : ∃ v w, [x, y] = [v, w] ∧ nx ((σ.set i (some v)).set j (some w)) H := by
  subst e
  exact ⟨x, y, rfl, q _ ((h.setS r1 i).setS r2 j)⟩
theorem toNat_r {i : Int} (h : 0 ≤ i) : rN.r F (.int i) i.toNat := by
  show V.int i = V.int ((i.toNat : Nat) : Int)
  rw [Int.toNat_of_nonneg h]
/-- the script -/
def rScr (K : PySem.W.Frag) : Rep (List Int) := ⟨fun F v ns => ∃ a, v = .ref a ∧ SqL K F a (ns.map V.int), fun s ⟨a, e, h⟩ => ⟨a, e, s.seq h⟩⟩
theorem w_lenScr {ns : List Int} {Q : VK} (s : Same F H) (r : (rScr K).r F v ns) (q : Q (.int (ns.length : Int)) H) : rLen K [v] H Q := by
  obtain ⟨a, rfl, h⟩ := r
  refine x_lenS (s.seq h) ?_
  rw [List.length_map]
  exact q
theorem w_ixScr {ns : List Int} {Q : VK} {n : Nat} {i : Int} (s : Same F H) (r : (rScr K).r F v ns) (e : ns[n]? = some i) (q : Q (.int i) H) : rIxL K v (.int (n : Int)) H Q := by
  obtain ⟨a, rfl, h⟩ := r
  exact x_ixLs (s.seq h) (atI_nat (by rw [List.getElem?_map, e]; rfl)) q
end
section
variable {H : Hp} {Q : VK} {i j : Int}
theorem w_modI (z : 0 < j) (q : Q (.int (i % j)) H) : L2.rI (fun _ j => 0 < j) (fun i j => .int (i % j)) (.int i) (.int j) H Q := x_mod z q
theorem w_max2I (q : Q (.int (max i j)) H) : rMax2 [.int i, .int j] H Q := x_max2 (by
  have e : (if j > i then j else i) = max i j := by split <;> omega
  rw [e]; exact q)
theorem w_min2I (q : Q (.int (min i j)) H) : rMin2 [.int i, .int j] H Q := x_min2 (by
  have e : (if j < i then j else i) = min i j := by split <;> omega
  rw [e]; exact q)
end
def rAbs : List V → Hp → VK → Prop := fun xs H Q => ∃ n, xs = [.int n] ∧ Q (.int (if n < 0 then -n else n)) H
theorem cl_abs {X : Cx} : CallR X (.builtin "abs") rAbs := call_abs
theorem w_abs {H : Hp} {Q : VK} {i : Int} (q : Q (.int ((i.natAbs : Nat) : Int)) H) : rAbs [.int i] H Q := ⟨i, rfl, by
  have e : (if i < 0 then -i else i) = ((i.natAbs : Nat) : Int) := by split <;> omega
  rw [e]
  exact q⟩

def ad1 (a : Addr) : Nat → Addr := fun _ => a
def ad2 (a b : Addr) : Nat → Addr := fun i => if i = 0 then a else b
def ad3 (a b c : Addr) : Nat → Addr := fun i => if i = 0 then a else if i = 1 then b else c
theorem no_ad {H0 : Hp} {ad : Nat → Addr} : ∀ i, i < 0 → H0 (ad i) = none := fun i h => absurd h (Nat.not_lt_zero i)
theorem own1 {H0 : Hp} {a : Addr} (h : H0 a = none) : ∀ i, i < 1 → H0 (ad1 a i) = none := fun _ _ => h
theorem own2 {H0 : Hp} {a b : Addr} (h : H0 a = none) (h2 : H0 b = none) : ∀ i, i < 2 → H0 (ad2 a b i) = none := fun i _ => by
  unfold ad2
  split <;> assumption
theorem own3 {H0 : Hp} {a b c : Addr} (h : H0 a = none) (h2 : H0 b = none) (h3 : H0 c = none) : ∀ i, i < 3 → H0 (ad3 a b c i) = none := fun i _ => by
  unfold ad3
  split
  · assumption
  · split <;> assumption
def adZ : Nat → Addr := fun _ => mainGlobals
theorem erase_permA {α : Type} : ∀ {l : List α} {j : Nat} {y : α}, l[j]? = some y → (y :: l.eraseIdx j).Perm l
  | [], _, _, h => by simp at h
  | a :: r, 0, y, h => by
    have e : a = y := Option.some.inj h
    subst e
    exact List.Perm.refl _
  | a :: r, j + 1, y, h => by
    have ih := erase_permA (l := r) (j := j) (y := y) h
    exact (List.Perm.swap a y (r.eraseIdx j)).trans (ih.cons a)
theorem Wst.front {M : Mx} {F0 H0 F H : Hp} {ss : List Sa} {cs : List (Addr × Ca)} {σ : St} {k : Nat} {p : Addr × Ca} (h : Wst M F0 H0 ss cs σ F H) (e : cs[k]? = some p) : Wst M F0 H0 ss (p :: cs.eraseIdx k) σ F H := by
  have pm : (p :: cs.eraseIdx k).Perm cs := erase_permA e
  exact ⟨h.ex, h.sl, fun x hx => h.cl x (pm.mem_iff.mp hx), ((pm.map (·.1)).nodup_iff).mpr h.nd⟩
/-! ### mirrors: pop, least, index, borrowed cells, data, two ways -/
theorem A2.dropL {α β : Type} {R : α → β → Prop} {as : List α} {bs : List β} (h : A2 R as bs) : A2 R as.dropLast bs.dropLast := by
  rw [List.dropLast_eq_take, List.dropLast_eq_take, h.len]
  exact h.takeT _
def popO {α : Type} (l : List α) : Option α := l[l.length - 1]?
section
variable {M : Mx} {F0 H0 F H F' H' : Hp} {ss ss' : List Sa} {cs cs' : List (Addr × Ca)} {σ : St} {c : Addr} {A A' : Ca} {k i : Nat} {α β γ : Type} {R : Rep α} {S : Rep β} {T : Rep γ} {a b : α} {l l' : List α} {Q : VK} {K : PySem.W.Frag} {v x y z : V} {n m : Nat}
theorem w_popL (h : Wst M F0 H0 ss cs σ F H) (e : cs[k]? = some (c, cL R l)) (e1 : popO l = some a) (e2 : cs.set k (c, cL R l.dropLast) = cs') (q : ∀ x H', R.r F x a → Wst M F0 H0 ss cs' σ F H' → Q x H') : rPop (.ref c) [] H Q := by
  subst e2
  obtain ⟨o, h1, vs, rfl, hv⟩ := h.cell e
  obtain ⟨x, hx, rx⟩ := hv.getB e1
  exact ⟨c, vs, x, rfl, rfl, h1, by rw [hv.len]; exact hx, q x _ rx (h.mut e ⟨_, rfl, hv.dropL⟩)⟩
theorem w_minL {l : List Nat} (r : LV rN F H v l) (e : l.min? = some m) (q : Q (.int (m : Int)) H) : rMin K [v] H Q := by
  obtain ⟨p, vs, rfl, hp, hv⟩ := r
  rw [a2_nvN hv] at hp
  obtain ⟨m1, m2⟩ := List.min?_eq_some_iff.mp e
  refine ⟨p, l.map Int.ofNat, rfl, ?_, ?_, fun k hk hy => ?_⟩
  · rw [List.map_map]
    exact sq_l hp
  · rw [List.length_map]
    exact List.length_pos_of_mem m1
  · obtain ⟨j, hj, rfl⟩ := List.mem_map.mp hk
    have h1 := hy _ (List.mem_map.mpr ⟨m, m1, rfl⟩)
    have h2 := m2 j hj
    have e1 : (j : Nat) = m := by
      have : (j : Int) ≤ (m : Int) := h1
      omega
    rw [e1]
    exact q
theorem w_maxL {l : List Nat} (r : LV rN F H v l) (e : l.max? = some m) (q : Q (.int (m : Int)) H) : rMax K [v] H Q := by
  obtain ⟨p, vs, rfl, hp, hv⟩ := r
  rw [a2_nvN hv] at hp
  obtain ⟨m1, m2⟩ := List.max?_eq_some_iff.mp e
  refine ⟨p, l.map Int.ofNat, rfl, ?_, ?_, fun k hk hy => ?_⟩
  · rw [List.map_map]
    exact sq_l hp
  · rw [List.length_map]
    exact List.length_pos_of_mem m1
  · obtain ⟨j, hj, rfl⟩ := List.mem_map.mp hk
    have h1 := hy _ (List.mem_map.mpr ⟨m, m1, rfl⟩)
    have h2 := m2 j hj
    have e1 : (j : Nat) = m := by
      have : (m : Int) ≤ (j : Int) := h1
      omega
    rw [e1]
    exact q
theorem sum_ofNat (l : List Nat) : (l.map Int.ofNat).sum = ((l.sum : Nat) : Int) := by
  induction l with
  | nil => rfl
  | cons x r ih => rw [List.map_cons, List.sum_cons, ih, List.sum_cons]; rfl
theorem w_sumL {l : List Nat} (r : LV rN F H v l) (q : Q (.int ((l.sum : Nat) : Int)) H) : rSum K [v] H Q := by
  obtain ⟨p, vs, rfl, hp, hv⟩ := r
  rw [a2_nvN hv] at hp
  refine ⟨p, l.map Int.ofNat, rfl, ?_, ?_⟩
  · rw [List.map_map]
    exact sq_l hp
  · rw [sum_ofNat]
    exact q
def idxO (l : List Nat) (n : Nat) : Option Nat := if n ∈ l then some (l.idxOf n) else none
theorem w_idx {l : List Nat} (r : LV rN F H v l) (e : idxO l n = some m) (q : Q (.int (m : Int)) H) : rIndex K v [.int (n : Int)] H Q := by
  obtain ⟨p, vs, rfl, hp, hv⟩ := r
  rw [a2_nvN hv] at hp
  unfold idxO at e
  split at e
  · rename_i hm
    have e := Option.some.inj e
    subst e
    have hl := List.idxOf_lt_length_iff.mpr hm
    refine ⟨p, nv l, .int (n : Int), l.idxOf n, .int (n : Int), rfl, rfl, sq_l hp, rfl, ?_, ?_, ?_, fun j z' hj hz => ?_, q⟩
    · rw [List.all_eq_true]
      intro x hx
      obtain ⟨k, _, rfl⟩ := List.mem_map.mp hx
      rfl
    · show (nv l)[_]? = _
      unfold nv
      rw [List.getElem?_map, List.getElem?_eq_getElem hl, List.getElem_idxOf hl]
      rfl
    · show ((n : Int) == (n : Int)) = true
      exact beq_self_eq_true _
    · have hjl : j < l.length := by omega
      unfold nv at hz
      rw [List.getElem?_map, List.getElem?_eq_getElem hjl] at hz
      cases hz
      show ((l[j] : Int) == (n : Int)) = false
      rw [beq_eq_false_iff_ne]
      intro e2
      have e3 : l[j] = n := by omega
      have e4 := List.not_of_lt_findIdx (p := (· == n)) (xs := l) (i := j) hj
      rw [e3, beq_self_eq_true] at e4
      cases e4
  · cases e
/-- a cell that is only looked at by a callee -/
theorem Wst.borrow (h : Wst M F0 H0 ss cs σ F H) (e : cs[k]? = some (c, cL R l)) : ∃ Fz, Same F Fz ∧ (Same Fz H ∧ NoT Fz) ∧ (rL R).r Fz (.ref c) l ∧ (∀ a, F a = none → a ≠ c → Fz a = none) ∧
    ∀ N F' H', Ext N Fz H F' H' → ∃ F2, Ext N F H F2 H' ∧ Same F2 F' ∧ ∀ a, F' a = none → F2 a = none := by
  obtain ⟨o, hc, vs, rfl, hv⟩ := h.cell e
  have fc := h.apart e
  have sf : Same F (upd F c (.lst vs)) := same_new fc
  refine ⟨upd F c (.lst vs), sf, ⟨fun b x q => ?_, h.nt.upd (fun _ z => by cases z)⟩, ⟨c, vs, rfl, upd_same, hv.imp fun _ _ => R.mono sf⟩, fun a ha ne => by rw [upd_ne ne]; exact ha, fun N F' H' x => ⟨fun a => if a = c then none else F' a, ⟨fun a o q => ?_, fun a o q => ?_, x.hh, fun a q n => ?_, x.dm, fun a ps q => ?_, x.tb⟩, fun a o q => ?_, fun a q => ?_⟩⟩
  · by_cases z : b = c
    · subst z
      rw [upd_same] at q
      rw [← q]
      exact hc
    · rw [upd_ne z] at q
      exact h.fh b x q
  · have ne : a ≠ c := fun z => by rw [z, fc] at q; cases q
    show (if a = c then none else F' a) = _
    rw [if_neg ne]
    exact x.ff _ _ (sf _ _ q)
  · have q : (if a = c then none else F' a) = some o := q
    split at q
    · cases q
    · exact x.fh _ _ q
  · show (if a = c then none else F' a) = none
    split
    · rfl
    · rename_i ne
      exact x.ap a (by rw [upd_ne ne]; exact q) n
  · have q : (if a = c then none else F' a) = some (.tbl ps) := q
    split at q
    · cases q
    · exact x.nt a ps q
  · have q : (if a = c then none else F' a) = some o := q
    split at q
    · cases q
    · exact q
  · show (if a = c then none else F' a) = none
    split
    · rfl
    · exact q
/-- what needs no heap -/
def Flat (R : Rep α) : Prop := ∀ F F' v a, R.r F v a → R.r F' v a
theorem fl_N : Flat rN := fun _ _ _ _ h => h
theorem fl_Z : Flat rZ := fun _ _ _ _ h => h
theorem fl_B : Flat rB := fun _ _ _ _ h => h
theorem fl_S : Flat rSt := fun _ _ _ _ h => h
theorem fl_U : Flat rNo := fun _ _ _ _ h => h
theorem fl_O (f : Flat R) : Flat (rO R) := fun F F' v a h => by
  cases a with
  | none => exact h
  | some x => exact f F F' v x h
theorem flat_cl (f : Flat R) {G G' : Hp} {h : Option HO} (q : ∃ o, h = some o ∧ (cL R l).p G o) : ∃ o, h = some o ∧ (cL R l).p G' o := by
  obtain ⟨o, e, vs, e2, hv⟩ := q
  exact ⟨o, e, vs, e2, hv.imp fun v a => f G G' v a⟩
end
/-- two ways by an optional value -/
def optE {α β : Type} : Option α → β → (α → β) → β
  | none, b, _ => b
  | some a, _, f => f a
theorem optE_go {α β : Type} {o : Option α} {A : Option β} {B : α → Option β} {r : β} {P : Prop} (h : optE o A B = some r) (s : ∀ z, o = some z → B z = some r → P) (n : o = none → A = some r → P) : P := by
  cases o with
  | none => exact n rfl h
  | some a => exact s a rfl h
/-! values of any kind -/
mutual
/-- what a value of any kind stands for -/
inductive DR (F : Hp) : V → PyData → Prop
  | non : DR F .non .none
  | bl (b : Bool) : DR F (.bl b) (.bool b)
  | int (i : Int) : DR F (.int i) (.int i)
  | str (x : Str) : DR F (.str x) (.str x)
  | lst {a : Addr} {xs : List V} {ds : List PyData} : F a = some (.lst xs) → DRs F xs ds → DR F (.ref a) (.list ds)
  | tup {a : Addr} {xs : List V} {ds : List PyData} : F a = some (.tup xs) → DRs F xs ds → DR F (.ref a) (.tuple ds)
inductive DRs (F : Hp) : List V → List PyData → Prop
  | nil : DRs F [] []
  | cons {v : V} {vs : List V} {d : PyData} {ds : List PyData} : DR F v d → DRs F vs ds → DRs F (v :: vs) (d :: ds)
end
mutual
theorem dr_mono {F F' : Hp} (s : Same F F') : ∀ (d : PyData) (v : V), DR F v d → DR F' v d
  | .none, _, h => by cases h; exact .non
  | .bool b, _, h => by cases h; exact .bl b
  | .int i, _, h => by cases h; exact .int i
  | .str x, _, h => by cases h; exact .str x
  | .list ds, _, h => by
    cases h with
    | lst h1 h2 => exact .lst (s _ _ h1) (dr_monos s ds _ h2)
  | .tuple ds, _, h => by
    cases h with
    | tup h1 h2 => exact .tup (s _ _ h1) (dr_monos s ds _ h2)
  | .dict _, _, h => by cases h
theorem dr_monos {F F' : Hp} (s : Same F F') : ∀ (ds : List PyData) (vs : List V), DRs F vs ds → DRs F' vs ds
  | [], _, h => by cases h; exact .nil
  | d :: ds, _, h => by
    cases h with
    | cons h1 h2 => exact .cons (dr_mono s d _ h1) (dr_monos s ds _ h2)
end
mutual
theorem dr_dp {K : PySem.W.Frag} {F : Hp} : ∀ (d : PyData) (v : V), DR F v d → Dp K F v d
  | .none, _, h => by cases h; exact .non
  | .bool b, _, h => by cases h; exact .bl b
  | .int i, _, h => by cases h; exact .int i
  | .str x, _, h => by cases h; exact .str x
  | .list ds, _, h => by
    cases h with
    | lst h1 h2 => exact .lst (sq_l h1) (dr_dps ds _ h2)
  | .tuple ds, _, h => by
    cases h with
    | tup h1 h2 => exact .tup (sq_t h1) (dr_dps ds _ h2)
  | .dict _, _, h => by cases h
theorem dr_dps {K : PySem.W.Frag} {F : Hp} : ∀ (ds : List PyData) (vs : List V), DRs F vs ds → DpAll K F vs ds
  | [], _, h => by cases h; exact .nil
  | d :: ds, _, h => by
    cases h with
    | cons h1 h2 => exact .cons (dr_dp d _ h1) (dr_dps ds _ h2)
end
def rP : Rep PyData := ⟨fun F v d => DR F v d, fun s h => dr_mono s _ _ h⟩
theorem drs_a2 {F : Hp} : ∀ {vs : List V} {ds : List PyData}, DRs F vs ds → A2 (rP.r F) vs ds
  | _, [], h => by cases h; exact .nil
  | _, d :: ds, h => by
    cases h with
    | cons h1 h2 => exact .cons h1 (drs_a2 h2)
theorem a2_drs {F : Hp} {vs : List V} {ds : List PyData} (h : A2 (rP.r F) vs ds) : DRs F vs ds := by
  induction h with
  | nil => exact .nil
  | cons r _ ih => exact .cons r ih
/-- to data -/
structure Cvt {α : Type} (R : Rep α) where
  d : α → PyData
  dp : ∀ {F : Hp} {v : V} {a : α}, R.r F v a → rP.r F v (d a)
section
variable {α β γ : Type} {R : Rep α} {S : Rep β} {T : Rep γ}
def cvN : Cvt rN := ⟨fun n => .int (n : Int), fun r => by rw [show _ = _ from r]; exact DR.int _⟩
def cvZ : Cvt rZ := ⟨.int, fun r => by rw [show _ = _ from r]; exact DR.int _⟩
def cvB : Cvt rB := ⟨.bool, fun r => by rw [show _ = _ from r]; exact DR.bl _⟩
def cvS : Cvt rSt := ⟨.str, fun r => by rw [show _ = _ from r]; exact DR.str _⟩
def cvU : Cvt rNo := ⟨fun _ => .none, fun r => by rw [show _ = _ from r]; exact DR.non⟩
def cvP : Cvt rP := ⟨id, fun r => r⟩
theorem cv_all (D : Cvt R) {F : Hp} {vs : List V} {l : List α} (h : A2 (R.r F) vs l) : DRs F vs (l.map D.d) := by
  induction h with
  | nil => exact .nil
  | cons r _ ih => exact .cons (D.dp r) ih
def cvL (D : Cvt R) : Cvt (rL R) := ⟨fun l => .list (l.map D.d), fun r => by
  obtain ⟨p, vs, rfl, hp, hv⟩ := r
  exact DR.lst hp (cv_all D hv)⟩
def cvT2 (D : Cvt R) (E : Cvt S) : Cvt (rT2 R S) := ⟨fun p => .tuple [D.d p.1, E.d p.2], fun r => by
  obtain ⟨t, x, y, rfl, ht, r1, r2⟩ := r
  exact DR.tup ht (.cons (D.dp r1) (.cons (E.dp r2) .nil))⟩
def cvT3 (D : Cvt R) (E : Cvt S) (G : Cvt T) : Cvt (rT3 R S T) := ⟨fun p => .tuple [D.d p.1, E.d p.2.1, G.d p.2.2], fun r => by
  obtain ⟨t, x, y, z, rfl, ht, r1, r2, r3⟩ := r
  exact DR.tup ht (.cons (D.dp r1) (.cons (E.dp r2) (.cons (G.dp r3) .nil)))⟩
def cvO (D : Cvt R) : Cvt (rO R) := ⟨fun o => match o with | none => .none | some a => D.d a, fun {F v a} r => by
  cases a with
  | none => rw [show v = _ from r]; exact DR.non
  | some x => exact D.dp (F := F) (v := v) (a := x) r⟩
/-- parts of a pair as more -/
theorem rt2_imp {F : Hp} {v : V} {p : α × β} {α' β' : Type} {R' : Rep α'} {S' : Rep β'} {f : α → α'} {g : β → β'} (h : (rT2 R S).r F v p) (h1 : ∀ x a, R.r F x a → R'.r F x (f a)) (h2 : ∀ x a, S.r F x a → S'.r F x (g a)) : (rT2 R' S').r F v (f p.1, g p.2) := by
  obtain ⟨t, x, y, rfl, ht, r1, r2⟩ := h
  exact ⟨t, x, y, rfl, ht, h1 _ _ r1, h2 _ _ r2⟩
end
def dtON : Dat (rO rN) where
  d o := match o with | none => .none | some n => .int (n : Int)
  dp {K F H v a} s r := by
    cases a with
    | none => rw [show v = _ from r]; exact .non
    | some n => rw [show v = _ from r]; exact .int _
  inj a b := by
    cases a <;> cases b <;> simp [PyData.eqv] <;> omega
  lay a := by cases a <;> rfl
  n := 0
  dep a := by cases a <;> exact Nat.le_refl _
section
variable {a b : Nat} {H : Hp} {Q : VK}
theorem w_mulW (z : a < 2 ^ 140 ∧ b < 2 ^ 140) (q : Q (.int ((a * b : Nat) : Int)) H) : rI CMulW (fun i j => .int (i * j)) (.int (a : Int)) (.int (b : Int)) H Q := x_I (wide_mul (a := 140) (b := 140) (by omega) (by omega) (by decide) (by decide) (by decide)) (by rw [← Int.natCast_mul]; exact q)
theorem w_max0 (q : Q (.int ((a - b : Nat) : Int)) H) : rMax2 [.int 0, .int ((a : Int) - (b : Int))] H Q := x_max2 (by
  have e : (if ((a : Int) - (b : Int)) > 0 then ((a : Int) - (b : Int)) else 0) = ((a - b : Nat) : Int) := by split <;> omega
  rw [e]; exact q)
end
section
variable {P : Program} {w : World} {K : PySem.W.Frag} {mg : Str → Option Value} {base : Heap}
theorem Cal.imp {CX : CXT} {k : Nat} {x : Str} {sp sp' : Sp} (c : Cal P w K mg base CX k x sp) (h : ∀ vs H Q E, sp' vs H Q E → sp vs H Q E) : Cal P w K mg base CX k x sp' := by
  obtain ⟨f, fd, ps, F, m, kp, b⟩ := c.ex
  exact ⟨f, fd, ps, F.imp h, m, kp, b⟩
end
theorem w_tyF {α : Type} {R : Rep α} {F H : Hp} {v : V} {l : List α} {P : Prop} {K : PySem.W.Frag} (r : LV R F H v l) (q : P) : tyV K "list" v H ∧ P := by
  obtain ⟨p, vs, rfl, hp, _⟩ := r
  exact x_tyL hp q
section
variable {v : V} {H : Hp} {Q : VK}
theorem w_isNx (e : v ≠ .non) (q : Q (.bl false) H) : rIsN v .non H Q := ⟨rfl, by rw [decide_eq_false e]; exact q⟩
theorem w_isnotNx (e : v ≠ .non) (q : Q (.bl true) H) : rNoN v .non H Q := ⟨rfl, by rw [decide_eq_false e]; exact q⟩
theorem w_isN0 (q : Q (.bl true) H) : rIsN .non .non H Q := ⟨rfl, by rw [decide_eq_true rfl]; exact q⟩
theorem w_isnotN0 (q : Q (.bl false) H) : rNoN .non .non H Q := ⟨rfl, by rw [decide_eq_true rfl]; exact q⟩
end
theorem optE_s {α β : Type} {o : Option α} {A r : β} {B : α → β} {z : α} (h : optE o A B = r) (e : o = some z) : B z = r := by subst e; exact h
theorem optE_n {α β : Type} {o : Option α} {A r : β} {B : α → β} (h : optE o A B = r) (e : o = none) : A = r := by subst e; exact h
theorem ro_s {α : Type} {R : Rep α} {F : Hp} {v : V} {o : Option α} {z : α} (r : (rO R).r F v o) (e : o = some z) : R.r F v z := by subst e; exact r
theorem ro_n {α : Type} {R : Rep α} {F : Hp} {v : V} {o : Option α} (r : (rO R).r F v o) (e : o = none) : v = .non := by subst e; exact r
theorem a2_ov {F : Hp} {vs : List V} {l : List (Option Nat)} (h : A2 ((rO rN).r F) vs l) : vs = l.map fun o => match o with | none => V.non | some n => V.int (n : Int) := by
  induction h with
  | nil => rfl
  | @cons v o _ _ r _ ih =>
    rw [ih]
    cases o with
    | none => rw [show v = _ from r]; rfl
    | some n => rw [show v = _ from r]; rfl
theorem ov_flat (l : List (Option Nat)) : (l.map fun o => match o with | none => V.non | some n => V.int (n : Int)).all flatV = true := by
  rw [List.all_eq_true]
  intro x hx
  obtain ⟨o, _, rfl⟩ := List.mem_map.mp hx
  cases o <;> rfl
theorem memD_mem {α : Type} [DecidableEq α] {a : α} {l : List α} : memD a l = true ↔ a ∈ l := by
  unfold memD
  exact decide_eq_true_iff
theorem ov_in (n : Nat) (l : List (Option Nat)) : inV (.int (n : Int)) (l.map fun o => match o with | none => V.non | some n => V.int (n : Int)) = memD (some n) l := by
  unfold inV
  rw [List.any_map, Bool.eq_iff_iff, List.any_eq_true, memD_mem]
  constructor
  · rintro ⟨o, ho, e⟩
    cases o with
    | none => cases e
    | some m =>
      have e : ((m : Int) == (n : Int)) = true := e
      rw [beq_iff_eq] at e
      have e : m = n := by omega
      rw [e] at ho
      exact ho
  · intro h
    exact ⟨_, h, beq_self_eq_true (n : Int)⟩
section
variable {F H : Hp} {v : V} {Q : VK} {K : PySem.W.Frag} {n : Nat} {l : List (Option Nat)}
theorem w_inO (r : LV (rO rN) F H v l) (q : Q (.bl (memD (some n) l)) H) : rIn K false (.int (n : Int)) v H Q := by
  obtain ⟨p, vs, rfl, hp, hv⟩ := r
  rw [a2_ov hv] at hp
  refine x_in hp rfl (ov_flat l) ?_
  rw [ov_in]
  exact q
theorem w_ninO (r : LV (rO rN) F H v l) (q : Q (.bl (!memD (some n) l)) H) : rIn K true (.int (n : Int)) v H Q := by
  obtain ⟨p, vs, rfl, hp, hv⟩ := r
  rw [a2_ov hv] at hp
  refine x_nin hp rfl (ov_flat l) ?_
  rw [ov_in]
  exact q
end
/-! range from .. to as a list, clear, reverse -/
theorem x_tRg2 {ta tb : TE} {σ : St} {H : Hp} {Qr : Int → Int → Hp → Prop} (h : ta σ H fun x H1 => tb σ H1 fun y H2 => ∃ i j, x = .int i ∧ y = .int j ∧ Qr i j H2) : tRg2 ta tb σ H Qr := h
theorem x_rgN2 {M N : Int} {Qr : Int → Int → Prop} (h : Qr M N) : ∃ i j, V.int M = .int i ∧ V.int N = .int j ∧ Qr i j := ⟨M, N, rfl, rfl, h⟩
theorem rg_nv2 (a b : Nat) : rgV (a : Int) (b : Int) = nv ((List.range (b - a)).map fun k => a + k) := by
  unfold rgV nv
  rw [List.map_map, show ((b : Int) - (a : Int)).toNat = b - a by omega]
  refine List.map_congr_left fun i _ => ?_
  show V.int ((a : Int) + (i : Int)) = V.int (((a + i : Nat) : Int))
  rw [Int.natCast_add]
section
variable {M : Mx} {F0 H0 F H : Hp} {ss : List Sa} {cs cs' : List (Addr × Ca)} {σ : St} {c : Addr} {k : Nat} {α : Type} {R : Rep α} {l : List α} {Q : VK} {n m : Nat}
theorem w_lrg2F (h : Wst M F0 H0 ss cs σ F H) (z : n ≤ 100000 ∧ m ≤ 100000) (q : ∀ v F' H', Same F F' → Wst M F0 H0 ss cs σ F' H' → (rL rN).r F' v ((List.range (m - n)).map fun k => n + k) → Q v H') : NewR (n : Int) (m : Int) H Q :=
  show RgOk (n : Int) (m : Int) ∧ _ from ⟨RgOk.of_le (by omega) (by omega) (by omega) (by omega), by rw [rg_nv2]; exact (w_newF h (nvN_a2 _) q)⟩
theorem w_lrg2C (h : Wst M F0 H0 ss cs σ F H) (z : n ≤ 100000 ∧ m ≤ 100000) (q : ∀ p H', H0 p = none → Wst M F0 H0 ss ((p, cL rN ((List.range (m - n)).map fun k => n + k)) :: cs) σ F H' → Q (.ref p) H') : NewR (n : Int) (m : Int) H Q :=
  show RgOk (n : Int) (m : Int) ∧ _ from ⟨RgOk.of_le (by omega) (by omega) (by omega) (by omega), by rw [rg_nv2]; exact (w_newC h (nvN_a2 _) q)⟩
theorem w_clear (h : Wst M F0 H0 ss cs σ F H) (e : cs[k]? = some (c, cL R l)) (e2 : cs.set k (c, cL R []) = cs') (q : ∀ H', Wst M F0 H0 ss cs' σ F H' → Q .non H') : rClear (.ref c) [] H Q := by
  subst e2
  obtain ⟨o, h1, vs, rfl, hv⟩ := h.cell e
  exact x_clear h1 (q _ (h.mut e ⟨_, rfl, .nil⟩))
theorem w_reverse (h : Wst M F0 H0 ss cs σ F H) (e : cs[k]? = some (c, cL R l)) (e2 : cs.set k (c, cL R l.reverse) = cs') (q : ∀ H', Wst M F0 H0 ss cs' σ F H' → Q .non H') : rReverse (.ref c) [] H Q := by
  subst e2
  obtain ⟨o, h1, vs, rfl, hv⟩ := h.cell e
  exact x_rev h1 (q _ (h.mut e ⟨_, rfl, hv.rev⟩))
end
theorem w_insert {M : Mx} {F0 H0 F H : Hp} {ss : List Sa} {cs cs' : List (Addr × Ca)} {σ : St} {c : Addr} {k : Nat} {α : Type} {R : Rep α} {l : List α} {Q : VK} {n : Nat} {x : V} {a : α} (h : Wst M F0 H0 ss cs σ F H) (e : cs[k]? = some (c, cL R l)) (z : l.length < 100000 ∧ n ≤ 100000) (r : R.r F x a) (e2 : cs.set k (c, cL R (l.take n ++ [a] ++ l.drop n)) = cs') (q : ∀ H', Wst M F0 H0 ss cs' σ F H' → Q .non H') :
    ∃ (p : Addr) (xs : List V) (i : Int) (y : V), V.ref c = .ref p ∧ [V.int (n : Int), x] = [.int i, y] ∧ H p = some (.lst xs) ∧ xs.length < sizeLine ∧ 0 ≤ i ∧ i < 2 ^ 63 ∧ Q .non (upd H p (.lst (xs.take i.toNat ++ [y] ++ xs.drop i.toNat))) := by
  subst e2
  obtain ⟨o, h1, vs, rfl, hv⟩ := h.cell e
  refine ⟨c, vs, (n : Int), x, rfl, rfl, h1, sz_lt (by rw [hv.len]; exact z.1), by omega, by omega, q _ (h.mut e ⟨_, rfl, ?_⟩)⟩
  rw [Int.toNat_natCast]
  exact ((hv.takeT n).app (.cons r .nil)).app (hv.dropT n)
/-- a new list, or None -/
abbrev OptC {α : Type} (N : Mx) (F H : Hp) (R : Rep α) (rr : Option (List α)) (Q : VK) : Prop := (∀ l, rr = some l → ∀ D F' H', Ext N F H F' H' → H D = none → F' D = none → (∃ o, H' D = some o ∧ (cL R l).p F' o) → Q (.ref D) H') ∧ (rr = none → ∀ F' H', Ext N F H F' H' → Q .non H')
/-! ### mirrors: values of any kind, looked at -/
def rIxP (K : PySem.W.Frag) : R2 := fun x y H Q => rIxL K x y H Q ∨ rIxT K x y H Q
theorem ix_p (K : PySem.W.Frag) {X : Cx} (hK : X.K = K := by rfl) : IxR X (rIxP K) := by subst hK; exact IxR.or ix_list ix_tup
def kndP : PyData → String
  | .none => "NoneType"
  | .bool _ => "bool"
  | .int _ => "int"
  | .str _ => "str"
  | .list _ => "list"
  | .tuple _ => "tuple"
  | .dict _ => "dict"
def lenP : PyData → Option Nat
  | .list l => some l.length
  | .tuple l => some l.length
  | _ => none
def asI : PyData → Option Int
  | .int i => some i
  | _ => none
def asN : PyData → Option Nat
  | .int i => if 0 ≤ i then some i.toNat else none
  | _ => none
def asL : PyData → Option (List PyData)
  | .list l => some l
  | _ => none
def asT : PyData → Option (List PyData)
  | .tuple l => some l
  | _ => none
def asT2 : PyData → Option (PyData × PyData)
  | .tuple [a, b] => some (a, b)
  | _ => none
def ixP (d : PyData) (n : Nat) : Option PyData := match d with
  | .list l => l[n]?
  | .tuple l => l[n]?
  | _ => none
section
variable {F H : Hp} {v x : V} {d e : PyData} {Q : VK} {K : PySem.W.Frag} {σ : St} {n : Nat}
theorem kn_p (s : Same F H) (r : rP.r F v d) : Knd K H v (kndP d) := by
  cases r with
  | non => exact knd_non
  | bl b => exact knd_bl b
  | int i => exact knd_int i
  | str z => exact knd_str z
  | lst h _ => exact knd_lst (s _ _ h)
  | tup h _ => exact knd_tup (s _ _ h)
theorem w_lenP (s : Same F H) (r : rP.r F v d) (h : lenP d = some n) (q : Q (.int (n : Int)) H) : rLen K [v] H Q := by
  cases r with
  | lst h1 h2 =>
    cases h
    refine x_len (s _ _ h1) ?_
    rw [(drs_a2 h2).len]
    exact q
  | tup h1 h2 =>
    cases h
    refine x_lenT (s _ _ h1) ?_
    rw [(drs_a2 h2).len]
    exact q
  | _ => cases h
theorem w_ixP (s : Same F H) (r : rP.r F v d) (h : ixP d n = some e) (q : ∀ y, rP.r F y e → Q y H) : rIxP K v (.int (n : Int)) H Q := by
  cases r with
  | lst h1 h2 =>
    obtain ⟨y, hy, ry⟩ := (drs_a2 h2).getB h
    exact .inl (x_ixL (s _ _ h1) (atI_nat hy) (q y ry))
  | tup h1 h2 =>
    obtain ⟨y, hy, ry⟩ := (drs_a2 h2).getB h
    exact .inr (x_ixT (s _ _ h1) (atI_nat hy) (q y ry))
  | _ => cases h
theorem asI_v {i : Int} (r : rP.r F v d) (h : asI d = some i) : v = .int i := by
  cases r <;> cases h
  rfl
theorem asN_v (r : rP.r F v d) (h : asN d = some n) : v = .int (n : Int) := by
  cases r with
  | int i =>
    have h : (if 0 ≤ i then some i.toNat else none) = some n := h
    split at h
    · rename_i z
      rw [← Option.some.inj h, Int.toNat_of_nonneg z]
    · cases h
  | _ => cases h
theorem asL_r {l : List PyData} (r : rP.r F v d) (h : asL d = some l) : (rL rP).r F v l := by
  cases r <;> cases h
  rename_i h1 h2
  exact ⟨_, _, rfl, h1, drs_a2 h2⟩
theorem asT2_r {p : PyData × PyData} (r : rP.r F v d) (h : asT2 d = some p) : (rT2 rP rP).r F v p := by
  cases r with
  | @tup a xs ds h1 h2 =>
    match ds, h, h2 with
    | [a, b], h, .cons r1 (.cons r2 .nil) =>
      cases h
      exact ⟨_, _, _, rfl, h1, r1, r2⟩
  | _ => cases h
theorem w_isP (r : rP.r F v d) (q : Q (.bl (kndP d == "NoneType")) H) : rIsN v .non H Q := ⟨rfl, by
  cases r <;> exact q⟩
theorem w_isnotP (r : rP.r F v d) (q : Q (.bl (!(kndP d == "NoneType"))) H) : rNoN v .non H Q := ⟨rfl, by
  cases r <;> exact q⟩
theorem w_eqP (s : Same F H) (r : rP.r F v d) (r2 : rP.r F x e) (z : SeqAt.shaped d = true ∧ SeqAt.shaped e = true) (q : Q (.bl (PyData.eqv d e)) H) : rEqD K v x H Q := ⟨d, e, dr_dp _ _ (dr_mono s _ _ r), dr_dp _ _ (dr_mono s _ _ r2), z.1, z.2, q⟩
theorem w_neP (s : Same F H) (r : rP.r F v d) (r2 : rP.r F x e) (z : SeqAt.shaped d = true ∧ SeqAt.shaped e = true) (q : Q (.bl (!PyData.eqv d e)) H) : rNeD K v x H Q := ⟨d, e, dr_dp _ _ (dr_mono s _ _ r), dr_dp _ _ (dr_mono s _ _ r2), z.1, z.2, q⟩
end
theorem w_chnO {M : Mx} {F0 H0 F H : Hp} {ss : List Sa} {cs : List (Addr × Ca)} {σ : St} {Q : VK} {r' : R2} {tc : TE} {y : V} {ca r : Bool} {mb : Option Bool} (h : Wst M F0 H0 ss cs σ F H) (hm : (if ca = true then mb else some false) = some r)
    (h2 : ∀ F' H', Same F F' → Wst M F0 H0 ss cs σ F' H' → ca = true → mb = some r → ∀ Q' : VK, (∀ F2 H2, Same F' F2 → Wst M F0 H0 ss cs σ F2 H2 → Q' (.bl r) H2) → tc σ H' fun w' H4 => r' y w' H4 Q')
    (q : ∀ F' H', Same F F' → Wst M F0 H0 ss cs σ F' H' → Q (.bl r) H') : ∃ k, V.bl ca = .bl k ∧ (if k = true then tc σ H (fun w' H4 => r' y w' H4 Q) else Q (.bl false) H) := by
  refine ⟨ca, rfl, ?_⟩
  cases ca with
  | true =>
    rw [if_pos rfl] at hm ⊢
    exact h2 F H (Same.refl F) h rfl hm Q fun F2 H2 s2 w2 => q F2 H2 s2 w2
  | false =>
    rw [if_neg (by decide)] at hm ⊢
    cases hm
    exact q F H (Same.refl F) h
section
variable {a b : Bool} {H : Hp} {Q : VK}
theorem w_isBl (q : Q (.bl (decide (a = b))) H) : rIsB (.bl a) (.bl b) H Q := ⟨a, b, rfl, rfl, q⟩
theorem w_isnotBl (q : Q (.bl (!decide (a = b))) H) : rNotB (.bl a) (.bl b) H Q := ⟨a, b, rfl, rfl, q⟩
end
/-! ### mirrors: dict comprehensions of places -/
def dstep {β : Type} (d : List (Nat × β)) (o : Option (Nat × β)) : List (Nat × β) := match o with | none => d | some p => dput d p.1 p.2
def dcompO {α β : Type} (f : α → Option (Option (Nat × β))) : List α → List (Nat × β) → Option (List (Nat × β))
  | [], d => some d
  | x :: xs, d => (f x).bind fun o => dcompO f xs (dstep d o)
theorem dput_le {β : Type} {d : List (Nat × β)} {k : Nat} {v : β} : (dput d k v).length ≤ d.length + 1 := by
  unfold dput
  split
  · rw [List.length_map]; omega
  · rw [List.length_append]; exact Nat.le_refl _
section
variable {M : Mx} {F0 H0 F H : Hp} {α β : Type} {R : Rep α} {B : Rep β} {K : PySem.W.Frag} {σ σ2 : St} {xs : List α} {g : TG} {tt : TT} {tk tv : TE} {Q : VK}
def DN (M : Mx) (F0 H0 : Hp) (ss : List Sa) (cs : List (Addr × Ca)) (F : Hp) (σw : St) (D : Addr) (B : Rep β) (acc : List (Nat × β)) : Hp → Prop := fun H => ∃ F', Same F F' ∧ Wst M F0 H0 ss ((D, cD B acc) :: cs) σw F' H
def DW (J : It) (D : Addr) (g : TG) (tt : TT) (tk tv : TE) (vs : List Nat) (σ : St) (H1 : Hp) (Q : VK) : Prop := ∃ W : Nat → Nat → Hp → Prop, (∃ m, W 0 m (upd H1 D (.dK []))) ∧ ∀ i m H, W i m H →
  (J.stop i H ∧ Q (.ref D) H) ∨ (J.go i H ∧ ∃ Nx : Hp → Prop, (∀ H', Nx H' → ∃ m', m' < m ∧ W (i + 1) m' H') ∧ ∀ x H', J.yld i H x H' → g x (L2.wipe σ vs) H' fun σ2 H2 => L2.wipe σ2 vs = L2.wipe σ vs ∧ tt σ2 H2 fun b H3 =>
    if b = true then tk σ2 H3 fun y H4 => tv σ2 H4 fun z H5 => ∃ kvs k, y = kV k ∧ H5 D = some (.dK kvs) ∧ kvs.length < sizeLine ∧ Nx (upd H5 D (.dK (putK kvs k z))) else Nx H3)
theorem x_dc {wi : TI} {vs : List Nat} (h : wi σ H fun J H1 => ∀ D, H1 D = none → DW J D g tt tk tv vs σ H1 Q) : tDc wi g tt tk tv vs σ H Q := h
theorem w_dc {J : It} {D : Addr} {vs : List Nat} {ss : List Sa} {cs : List (Addr × Ca)} {f : α → Option (Option (Nat × β))} {dr : List (Nat × β)} (hf : dcompO f xs [] = some dr) (z : xs.length ≤ 100000) (hE : Wst M F0 H0 ss cs σ F H) (hD : H D = none)
    (hJ : ∀ acc F' H', Same F F' → Wst M F0 H0 (wipeS ss vs) ((D, cD B acc) :: cs) (L2.wipe σ vs) F' H' → JOk J R xs F' H')
    (hs : ∀ x v o acc F' H', Same F F' → R.r F' v x → Wst M F0 H0 (wipeS ss vs) ((D, cD B acc) :: cs) (L2.wipe σ vs) F' H' → f x = some o → acc.length < 100000 → L2.wipe (L2.wipe σ vs) vs = L2.wipe σ vs →
      g v (L2.wipe σ vs) H' fun σ2 H2 => L2.wipe σ2 vs = L2.wipe σ vs ∧ tt σ2 H2 fun b H3 => if b = true then tk σ2 H3 fun y H4 => tv σ2 H4 fun z H5 => ∃ kvs k, y = kV k ∧ H5 D = some (.dK kvs) ∧ kvs.length < sizeLine ∧ DN M F0 H0 (wipeS ss vs) cs F (L2.wipe σ vs) D B (dstep acc o) (upd H5 D (.dK (putK kvs k z))) else DN M F0 H0 (wipeS ss vs) cs F (L2.wipe σ vs) D B (dstep acc o) H3)
    (hd : ∀ F' H', H0 D = none → Same F F' → Wst M F0 H0 ss ((D, cD B dr) :: cs) σ F' H' → Q (.ref D) H') : DW J D g tt tk tv vs σ H Q := by
  have hD0 := hE.own hD
  refine ⟨fun i m H => m = xs.length - i ∧ i ≤ xs.length ∧ ∃ acc F', acc.length ≤ i ∧ Same F F' ∧ Wst M F0 H0 (wipeS ss vs) ((D, cD B acc) :: cs) (L2.wipe σ vs) F' H ∧ dcompO f (xs.drop i) acc = some dr,
    ⟨_, rfl, Nat.zero_le _, [], F, Nat.le_refl _, Same.refl F, (hE.wipe vs).newC hD ⟨[], rfl, .nil⟩, hf⟩, ?_⟩
  rintro i m H1 ⟨rfl, hi, acc, F1, za, sm, w, q⟩
  obtain ⟨j1, j2⟩ := hJ acc F1 H1 sm w i
  by_cases hlt : i < xs.length
  · obtain ⟨go, yl⟩ := j1 hlt
    have ex : xs[i]? = some (xs[i]'hlt) := List.getElem?_eq_getElem hlt
    rw [List.drop_eq_getElem_cons hlt] at q
    obtain ⟨o, hb, q⟩ := bnd q
    refine .inr ⟨go, DN M F0 H0 (wipeS ss vs) cs F (L2.wipe σ vs) D B (dstep acc o), fun H' ⟨F2, sm2, w2⟩ => ⟨_, by omega, rfl, hlt, dstep acc o, F2, ?_, sm2, w2, q⟩, fun x H'' y => ?_⟩
    · cases o with
      | none => exact Nat.le_succ_of_le za
      | some p => exact Nat.le_trans dput_le (Nat.succ_le_succ za)
    · obtain ⟨F2, x2, r2⟩ := yl x H'' y
      exact hs _ x o acc F2 H'' (sm.trans (x2 M.tl).ff) (r2 _ ex) (w.grow (x2 M.tl)) hb (by omega) (wipe_wipe fun _ h => h)
  · have e1 : i = xs.length := by omega
    rw [e1, List.drop_length] at q
    have e2 : acc = dr := Option.some.inj q
    rw [e2] at w
    exact .inl ⟨j2 (by omega), hd F1 H1 hD0 sm ⟨w.ex, hE.sl.imp fun s _ => s.mono sm, w.cl, w.nd⟩⟩
theorem w_dacc {D : Addr} {ss ss2 : List Sa} {cs : List (Addr × Ca)} {F' : Hp} {σw : St} {vs : List Nat} {acc : List (Nat × β)} {n : Nat} {y : V} {b : β} (h : Wst M F0 H0 ss2 ((D, cD B acc) :: cs) σ2 F' H) (sm : Same F F') (r : B.r F' y b) (z : acc.length < 100000) (eσ : L2.wipe σ2 vs = σw) (eS : wipeS ss2 vs = ss) :
    ∃ kvs k, V.int (n : Int) = kV k ∧ H D = some (.dK kvs) ∧ kvs.length < sizeLine ∧ DN M F0 H0 ss cs F σw D B (dstep acc (some (n, b))) (upd H D (.dK (putK kvs k y))) := by
  obtain ⟨o, h1, ws, rfl, hv⟩ := h.cell (k := 0) rfl
  refine ⟨ws, Sum.inl (n : Int), rfl, h1, sz_lt (by rw [hv.len]; exact z), F', sm, ?_⟩
  have w := (h.mut (k := 0) (A' := cD B (dput acc n b)) rfl ⟨_, rfl, putK_rep (n := n) hv r⟩).wipe vs
  rw [eσ, eS] at w
  exact w
theorem w_dskip {D : Addr} {ss ss2 : List Sa} {cs : List (Addr × Ca)} {F' : Hp} {σw : St} {vs : List Nat} {acc : List (Nat × β)} (h : Wst M F0 H0 ss2 ((D, cD B acc) :: cs) σ2 F' H) (sm : Same F F') (eσ : L2.wipe σ2 vs = σw) (eS : wipeS ss2 vs = ss) : DN M F0 H0 ss cs F σw D B (dstep acc none) H := by
  have w := h.wipe vs
  rw [eσ, eS] at w
  exact ⟨F', sm, w⟩
end
theorem Wst.freezeD {M : Mx} {F0 H0 F H : Hp} {ss : List Sa} {cs : List (Addr × Ca)} {σ : St} {c : Addr} {k : Nat} {β : Type} {B : Rep β} {d : List (Nat × β)} (h : Wst M F0 H0 ss cs σ F H) (e : cs[k]? = some (c, cD B d)) (h0 : H0 c = none) : ∃ F', Same F F' ∧ Wst M F0 H0 ss (cs.eraseIdx k) σ F' H ∧ (rD B).r F' (.ref c) d := by
  obtain ⟨o, hc, vs, rfl, hv⟩ := h.cell e
  have fc := h.apart e
  have sf : Same F (upd F c (.dK vs)) := same_new fc
  refine ⟨upd F c (.dK vs), sf, ⟨⟨h.ex.ff.trans sf, fun b x q => ?_, h.ex.hh, fun a q n => ?_, h.ex.dm, h.ex.nt.upd (fun _ z => by cases z), h.ex.tb⟩, h.sl.imp fun s _ => s.mono sf, fun p hp => ?_, (h.dropC k).nd⟩, ⟨c, vs, rfl, upd_same, hv.imp fun _ _ ⟨h1, h2⟩ => ⟨h1, B.mono sf h2⟩⟩⟩
  · by_cases z : b = c
    · subst z
      rw [upd_same] at q
      rw [← q]
      exact hc
    · rw [upd_ne z] at q
      exact h.fh b x q
  · rw [upd_ne (fun z => n (by rw [z]; exact h0))]
    exact h.ex.ap a q n
  · obtain ⟨⟨o, h1, h2⟩, h3, h4⟩ := h.cl p (List.mem_of_mem_eraseIdx hp)
    refine ⟨⟨o, h1, p.2.mono sf h2⟩, ?_, h4⟩
    have ne : p.1 ≠ c := fun z => by
      have n2 := (h.dropC k).nd
      obtain ⟨j, hj⟩ := List.mem_iff_getElem?.mp hp
      rw [List.getElem?_eraseIdx] at hj
      have e2 : (cs.map (·.1))[k]? = some c := by rw [List.getElem?_map, e]; rfl
      have fin : ∀ j', j' ≠ k → cs[j']? = some p → False := fun j' nj hj' => by
        have e1 : (cs.map (·.1))[j']? = some c := by rw [List.getElem?_map, hj']; exact congrArg some z
        exact nj (nd_ix h.nd e1 e2)
      split at hj
      · exact fin j (by omega) hj
      · exact fin (j + 1) (by omega) hj
    rw [upd_ne ne]
    exact h3
/-! ### mirrors: a dict that is walked over (locked meanwhile) -/
def IkR (R : It → Hp → Prop) (x : V) (H1 : Hp) : Prop := ∃ d o, x = .ref d ∧ ((∃ kvs, H1 d = some (.frz o (.dK kvs)) ∧ R (Itk d o kvs) H1) ∨ ∃ kvs, H1 d = some (.frz o (.dT kvs)) ∧ R (Itkt d o kvs) H1)
theorem x_ik {td : TE} {σ : St} {H : Hp} {R : It → Hp → Prop} (h : td σ H fun x H1 => IkR R x H1) : iKeys td σ H R := h
section
variable {M : Mx} {F0 H0 F H : Hp} {ss : List Sa} {cs cs' : List (Addr × Ca)} {σ : St} {c : Addr} {k : Nat} {β : Type} {B : Rep β} {d : List (Nat × β)} {od : Obj} {kvs : List (Key × V)} {nx : St → Hp → Prop} {rt : VK} {bk ct : St → Hp → Prop}
def cDf (B : Rep β) (d : List (Nat × β)) (od : Obj) (kvs : List (Key × V)) : Ca := ⟨fun F o => o = .frz od (.dK kvs) ∧ A2 (KvR B F) kvs d, fun s ⟨e, h⟩ => ⟨e, h.imp fun _ _ ⟨h1, h2⟩ => ⟨h1, B.mono s h2⟩⟩, fun ⟨e, _⟩ => by subst e; exact ⟨(fun _ z => by cases z), (fun _ z => by cases z)⟩⟩
theorem w_lock {t : TS} (h : Wst M F0 H0 ss cs σ F H) (e : cs[k]? = some (c, cD B d))
    (q : ∀ od kvs H', Wst M F0 H0 ss (cs.set k (c, cDf B d od kvs)) σ F H' → t ⟨fun σ' H' => H' c = some (.frz od (.dK kvs)) ∧ nx σ' (upd H' c (.dK kvs)), fun v H' => H' c = some (.frz od (.dK kvs)) ∧ rt v (upd H' c (.dK kvs)), fun σ' H' => H' c = some (.frz od (.dK kvs)) ∧ bk σ' (upd H' c (.dK kvs)), fun σ' H' => H' c = some (.frz od (.dK kvs)) ∧ ct σ' (upd H' c (.dK kvs))⟩ σ H') : tLock t ⟨nx, rt, bk, ct⟩ σ H := by
  obtain ⟨o, h1, kvs, rfl, hv⟩ := h.cell e
  exact ⟨c, .dK kvs, h1, trivial, fun od => q od kvs _ (h.mut e ⟨rfl, hv⟩)⟩
theorem w_unlock {P : Hp → Prop} (h : Wst M F0 H0 ss cs σ F H) (e : cs[k]? = some (c, cDf B d od kvs)) (e2 : cs.set k (c, cD B d) = cs') (q : ∀ H', Wst M F0 H0 ss cs' σ F H' → P H') : H c = some (.frz od (.dK kvs)) ∧ P (upd H c (.dK kvs)) := by
  subst e2
  obtain ⟨o, h1, rfl, hv⟩ := h.cell e
  exact ⟨h1, q _ (h.mut e ⟨kvs, rfl, hv⟩)⟩
theorem w_ik {R : It → Hp → Prop} (h : Wst M F0 H0 ss cs σ F H) (e : cs[k]? = some (c, cDf B d od kvs)) (q : R (Itk c od kvs) H) : IkR R (.ref c) H := by
  obtain ⟨o, h1, rfl, hv⟩ := h.cell e
  exact ⟨c, od, rfl, .inl ⟨kvs, h1, q⟩⟩
theorem jok_k (h : Wst M F0 H0 ss cs σ F H) (e : cs[k]? = some (c, cDf B d od kvs)) : JOk (Itk c od kvs) rN (d.map (·.1)) F H := by
  obtain ⟨o, h1, rfl, hv⟩ := h.cell e
  intro i
  rw [List.length_map]
  refine ⟨fun hi => ⟨⟨h1, by rw [hv.len]; exact hi⟩, fun x H'' y => ?_⟩, fun hi => ⟨h1, by rw [hv.len]; exact hi⟩⟩
  obtain ⟨rfl, k', v, hk, rfl⟩ := y
  refine ⟨F, fun T => Ext.refl h.fh h.nt, fun a ha => ?_⟩
  obtain ⟨p, hp, r1, _⟩ := hv.get hk
  rw [List.getElem?_map, hp] at ha
  have ha : p.1 = a := Option.some.inj ha
  simp only at r1
  rw [r1, ha]
  rfl
end
/-- the same, read while it is walked over -/
def DVz {β : Type} (B : Rep β) (F H : Hp) (v : V) (d : List (Nat × β)) : Prop := ∃ a od kvs, v = .ref a ∧ H a = some (.frz od (.dK kvs)) ∧ A2 (KvR B F) kvs d
section
variable {M : Mx} {F0 H0 F H : Hp} {ss : List Sa} {cs : List (Addr × Ca)} {σ : St} {c : Addr} {k : Nat} {β : Type} {B : Rep β} {d : List (Nat × β)} {od : Obj} {kvs : List (Key × V)} {v : V} {n : Nat} {b : β}
theorem dz_c (h : Wst M F0 H0 ss cs σ F H) (e : cs[k]? = some (c, cDf B d od kvs)) : DVz B F H (.ref c) d := by
  obtain ⟨o, h1, rfl, hv⟩ := h.cell e
  exact ⟨c, od, kvs, rfl, h1, hv⟩
theorem dget_z {a : Addr} {k : Key} (e : H a = some (.frz od (.dK kvs))) : DGet H a (kV k) (valV kvs k) := .inl ⟨kvs, k, .inr ⟨od, e⟩, rfl, rfl⟩
theorem w_dmemZ {P : Option V → Prop} (r : DVz B F H v d) (q : ∀ o : Option V, o.isSome = (dget d n).isSome → P o) : ∃ a o, v = .ref a ∧ DGet H a (.int (n : Int)) o ∧ P o := by
  obtain ⟨a, od, kvs, rfl, h, hv⟩ := r
  refine ⟨a, _, rfl, dget_z (k := Sum.inl (n : Int)) h, q _ ?_⟩
  rcases dget_val hv n with ⟨e1, e2⟩ | ⟨b, x, e1, e2, _⟩ <;> rw [e1, e2] <;> rfl
theorem w_dgetZ {Pv : V → Prop} (r : DVz B F H v d) (e : dget d n = some b) (q : ∀ x, B.r F x b → Pv x) : ∃ a x, v = .ref a ∧ DGet H a (.int (n : Int)) (some x) ∧ Pv x := by
  obtain ⟨a, od, kvs, rfl, h, hv⟩ := r
  rcases dget_val hv n with ⟨e1, _⟩ | ⟨b', x, e1, e2, r⟩
  · rw [e] at e1; cases e1
  · rw [e] at e1
    cases e1
    refine ⟨a, x, rfl, ?_, q x r⟩
    rw [← e2]
    exact dget_z (k := Sum.inl (n : Int)) h
end
theorem x_dget {td ty : TE} {σ : St} {H : Hp} {Q : VK} (h : td σ H fun x H1 => ty σ H1 fun y H2 => ∃ a v, x = .ref a ∧ DGet H2 a y (some v) ∧ Q v H2) : tDGet td ty σ H Q := h
/-- tuples of values of any kind -/
theorem w_tupP {M : Mx} {F0 H0 F H : Hp} {ss : List Sa} {cs : List (Addr × Ca)} {σ : St} {Q : VK} {xs : List V} {ds : List PyData} (h : Wst M F0 H0 ss cs σ F H) (z : ds.length ≤ 100000) (r : A2 (rP.r F) xs ds) (q : ∀ v F' H', Same F F' → Wst M F0 H0 ss cs σ F' H' → rP.r F' v (.tuple ds) → Q v H') : NewT xs H Q :=
  ⟨sz_ok (by rw [r.len]; exact z), fun p hp => by
    have e := ext_new (T := M.tl) (o := .tup xs) h.fh h.nt hp
    exact q _ _ _ e.ff (h.grow e) (DR.tup upd_same (dr_monos e.ff _ _ (a2_drs r)))⟩
/-! ### mirrors: slices with a step -/
def stepL {α : Type} (l : List α) (lo : Option Int) (c : Int) : List α := (sliceRange (sliceBounds lo none (some c) l.length).1 (sliceBounds lo none (some c) l.length).2.1 (sliceBounds lo none (some c) l.length).2.2).filterMap (l[·]?)
def NewS (K : PySem.W.Frag) (c : Int) (x : V) (lo : Option Int) (H : Hp) (Q : VK) : Prop := ∃ a xs, x = .ref a ∧ SqL K H a xs ∧ ∀ p, H p = none → Q (.ref p) (upd H p (.lst (stepL xs lo c)))
def tStpL (K : PySem.W.Frag) (c : Int) (te : TE) (tl : TO) : TE := fun σ H Q => te σ H fun x H1 => tl σ H1 fun lo H2 => NewS K c x lo H2 Q
theorem m_stpT {K : PySem.W.Frag} {c : Int} {te : TE} {tl : TO} {σ : St} {H : Hp} {Q : VK} (h : te σ H fun x H1 => tl σ H1 fun lo H2 => NewS K c x lo H2 Q) : tStpL K c te tl σ H Q := h
theorem vals_pick {xs : List V} {its : List Value} (r : Vals xs its) (ix : List Nat) : Vals (ix.filterMap (xs[·]?)) (ix.filterMap (its[·]?)) := by
  induction ix with
  | nil => exact .nil
  | cons i ix ih =>
    rw [List.filterMap_cons, List.filterMap_cons]
    have hl := r.length
    by_cases c : i < xs.length
    · have e : xs[i]? = some xs[i] := List.getElem?_eq_getElem c
      obtain ⟨u, hu, ru⟩ := r.get e
      rw [e, hu]
      exact .cons ru ih
    · rw [List.getElem?_eq_none (by omega), List.getElem?_eq_none (by omega)]
      exact ih
theorem k_stpL {X : Cx} (K : PySem.W.Frag) {e : Expr} {lo : Option Expr} {te : TE} {tl : TO} {c : Int} {k : Nat} {p1 p3 pos : Pos} (he : PE X e te) (hl : PO X lo tl) (hc : c ≠ 0 := by decide) (hK : X.K = K := by rfl) :
    PE X (.Subscript e (.Slice lo none (some (.Constant (.int c) k p1)) p3) pos) (tStpL K c te tl) := by
  subst hK
  refine ⟨fun pins s σ H Q I h => ?_⟩
  refine Subscript_ (thn (he.run pins s σ H _ I h) fun v s1 ⟨x, H1, I1, r1, q1⟩ => ?_)
  have hst : PO X (some (.Constant (.int c) k p1)) (tPart (tC (.int c))) := po_some pe_int
  refine wpAny_Slice (thn (hl.run pins s1 σ H1 _ I1 q1) fun vl s2 ⟨l, H2, I2, pl, q2⟩ => ?_)
  refine thn (po_none.run pins s2 σ H2 (fun o H3 => o = none ∧ H3 = H2) I2 ⟨rfl, rfl⟩) fun vu s3 ⟨u, H3, I3, pu, eu, e3⟩ => ?_
  subst eu e3
  refine thn (hst.run pins s3 σ H3 (fun o H4 => o = some c ∧ H4 = H3) I3 ⟨c, rfl, rfl, rfl⟩) fun vs s4 ⟨o, H4, I4, ps, eo, e4⟩ => ?_
  subst eo e4
  obtain ⟨a, xs, ex, hx, q⟩ := q2
  subst ex
  cases r1
  have I5 : Inv X pins σ H4 { s4 with heap := s4.heap.push { cls := .type "slice", data := .fields #[vl, vu, vs] } } := I4.kept (t' := s4.toks) fun b ob q => Heap.get?_push_of_some _ q
  obtain ⟨its, r, ht, hz⟩ := I5.list hx
  have hlen := r.length
  show wpAny (model X.prog X.w) X.A (subscriptTail e (.Slice lo none (some (.Constant (.int c) k p1)) p3) (.ref a) (.ref s4.heap.objs.size)) (EP X pins σ Q) X.xe { s4 with heap := s4.heap.push { cls := .type "slice", data := .fields #[vl, vu, vs] } }
  refine tail_any (ops := [.ref a, .ref s4.heap.objs.size]) ht.isList.typeIs (PySem.slot_list_getitem.lookup) ?_ (by with_unfolding_all rfl)
  refine wpAny_getItem_list_slice ht.isList (Heap.IsSliceOf.new _ vl vu vs) pl pu ps (fun z => hc (Option.some.inj z)) ?_ (by rw [List.size_toArray]; omega)
  have e5 : (slicePick its.toArray l none (some c)) = (stepL its l c).toArray := by
    unfold slicePick stepL
    simp only [List.size_toArray, List.getElem?_toArray]
  rw [e5]
  have hr : Vals (stepL xs l c) (stepL its l c) := by
    unfold stepL
    rw [hlen]
    exact vals_pick r _
  have hle : (stepL xs l c).length ≤ xs.length := by
    have h1 := slicePick_size_le its.toArray l none (some c)
    rw [e5, List.size_toArray, List.size_toArray, ← hr.length, ← hlen] at h1
    exact h1
  refine ⟨.ref _, _, I5.laid (t' := s4.toks) (o := .lst (stepL xs l c)) (fun b ob q => Heap.get?_push_of_some _ q) (Nat.le_refl _) ?_, rfl, q _ (I5.hok.fresh (Nat.le_refl _))⟩
  exact ⟨Nat.le_trans hle hz, _, 0, hr, Heap.get?_push_size _ rfl⟩
section
variable {M : Mx} {F0 H0 F H : Hp} {ss : List Sa} {cs : List (Addr × Ca)} {σ : St} {α : Type} {R : Rep α} {l : List α} {Q : VK} {K : PySem.W.Frag} {v : V}
theorem A2.pick {vs : List V} (h : A2 (R.r F) vs l) (ix : List Nat) : A2 (R.r F) (ix.filterMap (vs[·]?)) (ix.filterMap (l[·]?)) := by
  induction ix with
  | nil => exact .nil
  | cons i ix ih =>
    rw [List.filterMap_cons, List.filterMap_cons]
    have hl := h.len
    by_cases c : i < vs.length
    · have e : vs[i]? = some vs[i] := List.getElem?_eq_getElem c
      obtain ⟨b, hb, r⟩ := h.get e
      rw [e, hb]
      exact .cons r ih
    · rw [List.getElem?_eq_none (by omega), List.getElem?_eq_none (by omega)]
      exact ih
theorem a2_step {vs : List V} {lo : Option Int} {c : Int} (h : A2 (R.r F) vs l) : A2 (R.r F) (stepL vs lo c) (stepL l lo c) := by
  unfold stepL
  rw [h.len]
  exact h.pick _
theorem w_stpF {c : Int} {lo : Option Int} (h : Wst M F0 H0 ss cs σ F H) (r : LV R F H v l) (q : ∀ v F' H', Same F F' → Wst M F0 H0 ss cs σ F' H' → (rL R).r F' v (stepL l lo c) → Q v H') : NewS K c v lo H Q := by
  obtain ⟨p, vs, rfl, hp, hv⟩ := r
  exact ⟨p, vs, rfl, sq_l hp, w_newF h (a2_step hv) q⟩
theorem w_stpC {c : Int} {lo : Option Int} (h : Wst M F0 H0 ss cs σ F H) (r : LV R F H v l) (q : ∀ p H', H0 p = none → Wst M F0 H0 ss ((p, cL R (stepL l lo c)) :: cs) σ F H' → Q (.ref p) H') : NewS K c v lo H Q := by
  obtain ⟨p, vs, rfl, hp, hv⟩ := r
  exact ⟨p, vs, rfl, sq_l hp, w_newC h (a2_step hv) q⟩
end
/-! a slice of data that is a tuple, not the whole of it -/
def sliceP (d : PyData) (lo hi : Option Int) : Option PyData := match d with
  | .tuple ds => if HT.sIx ds.length 0 lo = 0 ∧ HT.sIx ds.length ds.length hi = ds.length then none else some (.tuple (cutL ds lo hi))
  | _ => none
theorem w_slP {M : Mx} {F0 H0 F H : Hp} {ss : List Sa} {cs : List (Addr × Ca)} {σ : St} {Q : VK} {K : PySem.W.Frag} {v : V} {d e : PyData} {lo hi : Option Int} (h : Wst M F0 H0 ss cs σ F H) (r : rP.r F v d) (he : sliceP d lo hi = some e)
    (q : ∀ v F' H', Same F F' → Wst M F0 H0 ss cs σ F' H' → rP.r F' v e → Q v H') : rSlT K v lo hi H Q := by
  have r : DR F v d := r
  cases r with
  | @tup a xs ds h1 h2 =>
    have zl := (drs_a2 h2).len
    unfold sliceP at he
    simp only at he
    split at he
    · cases he
    · rename_i hn
      cases he
      refine ⟨a, xs, rfl, sq_t (h.fh _ _ h1), by rw [zl]; exact hn, fun p hp => ?_⟩
      have x := ext_new (T := M.tl) (o := .tup (cutV xs lo hi)) h.fh h.nt hp
      exact q _ _ _ x.ff (h.grow x) (DR.tup upd_same (dr_monos x.ff _ _ (a2_drs (a2_cut (drs_a2 h2)))))
  | _ => cases he
/-! insert, index by K -/
def rInsertL (x : V) (xs : List V) (H : Hp) (Q : VK) : Prop := ∃ (l : Addr) (vs : List V) (i : Int) (y : V), x = .ref l ∧ xs = [.int i, y] ∧ H l = some (.lst vs) ∧ vs.length < sizeLine ∧ 0 ≤ i ∧ i < 2 ^ 63 ∧ Q .non (upd H l (.lst (vs.take i.toNat ++ [y] ++ vs.drop i.toNat)))
theorem k_insert {X : Cx} : MtR X "list.insert" rInsertL := mt_insert
theorem k_index {X : Cx} (K : PySem.W.Frag) (hK : X.K = K := by rfl) : MtR X "list.index" (rIndex K) := by subst hK; exact mt_index
theorem w_insertL {M : Mx} {F0 H0 F H : Hp} {ss : List Sa} {cs cs' : List (Addr × Ca)} {σ : St} {c : Addr} {k : Nat} {α : Type} {R : Rep α} {l : List α} {Q : VK} {n : Nat} {x : V} {a : α} (h : Wst M F0 H0 ss cs σ F H) (e : cs[k]? = some (c, cL R l)) (z : l.length < 100000 ∧ n ≤ 100000) (r : R.r F x a) (e2 : cs.set k (c, cL R (l.take n ++ [a] ++ l.drop n)) = cs') (q : ∀ H', Wst M F0 H0 ss cs' σ F H' → Q .non H') : rInsertL (.ref c) [.int (n : Int), x] H Q := by
  subst e2
  obtain ⟨o, h1, vs, rfl, hv⟩ := h.cell e
  refine ⟨c, vs, (n : Int), x, rfl, rfl, h1, sz_lt (by rw [hv.len]; exact z.1), by omega, by omega, q _ (h.mut e ⟨_, rfl, ?_⟩)⟩
  rw [Int.toNat_natCast]
  exact ((hv.takeT n).app (.cons r .nil)).app (hv.dropT n)
/-! ### sorted of data that are alike; by a key that a lambda gives -/
section
open PySem.W
theorem each_dp {X : Cx} {pins : List (Addr × Obj)} {σ : L2.St} {H : Hp} {s : Shared} (I : Inv X pins σ H s) : ∀ {ds : List PyData} {xs : List V} {us : List Value}, DpAll X.K H xs ds → Vals xs us → EachIs (fun u d => ∃ as, Reads s.heap u d as) us ds
  | [], _, _, h, r => by cases h; cases r; exact .nil
  | d :: ds, _, _, h, r => by
    cases h with
    | cons h1 h2 =>
      cases r with
      | cons r1 r2 => exact .cons (Dp.reads I d _ _ h1 r1) (each_dp I h2 r2)
theorem each_zip {ds : List PyData} : ∀ {xs : List V} {us : List Value}, Vals xs us → xs.length = ds.length → EachIs (fun u (b : V × PyData) => RelV b.1 u) us (xs.zip ds) := by
  induction ds with
  | nil => intro xs us r h; cases xs with
    | nil => cases r; exact .nil
    | cons _ _ => cases h
  | cons d ds ih => intro xs us r h; cases xs with
    | nil => cases h
    | cons x xs =>
      cases r with
      | cons r1 r2 => exact .cons r1 (ih r2 (Nat.succ.inj h))
theorem vals_each {us : List Value} {bs : List (V × PyData)} (h : EachIs (fun u (b : V × PyData) => RelV b.1 u) us bs) : Vals (bs.map (·.1)) us := by
  induction h with
  | nil => exact .nil
  | cons h1 _ ih => exact .cons h1 ih
theorem dp_len {K : PySem.W.Frag} {H : Hp} : ∀ {ds : List PyData} {xs : List V}, DpAll K H xs ds → xs.length = ds.length
  | [], _, h => by cases h; rfl
  | d :: ds, _, h => by
    cases h with
    | cons _ h2 => rw [List.length_cons, List.length_cons, dp_len h2]
/-- xs in the order of the keys ds -/
def srtV (xs : List V) (ds : List PyData) : List V := ((xs.zip ds).mergeSort (dataLe false (·.2))).map (·.1)
theorem srtV_len {xs : List V} {ds : List PyData} (h : xs.length = ds.length) : (srtV xs ds).length = xs.length := by
  unfold srtV
  rw [List.length_map, List.length_mergeSort, List.length_zip]
  omega
theorem srt_vals {h : Heap} {ks us : List Value} {xs : List V} {ds : List PyData} (r : Vals xs us) (hl : xs.length = ds.length) (hal : AllAlike ds) (e : EachIs (fun v d => ∃ as, Reads h v d as) ks ds) : Vals (srtV xs ds) (sortVals (dataKind h ds) false ks us) := by
  unfold srtV
  refine vals_each (sortVals_each (κ := dataKind h ds) (fun b : V × PyData => keyToks b.2) (each_zip r hl) ?_)
  have e2 : ds = (xs.zip ds).map (·.2) := (List.map_snd_zip (by omega)).symm
  have h1 := each_keys hal e
  rw [show (fun v d => (dataKind h ds).keyOf v = some (keyToks d)) = fun v d => (dataKind h ds).keyOf v = some (keyToks d) from rfl] at h1
  have : EachIs (fun v d => (dataKind h ds).keyOf v = some (keyToks d)) ks ((xs.zip ds).map (·.2)) := by
    rw [← e2]
    exact h1
  exact each_of_map (fun b : V × PyData => b.2) this
def rSortA (K : PySem.W.Frag) : List V → Hp → VK → Prop := fun vs H Q => ∃ (a : Addr) (xs : List V) (ds : List PyData), vs = [.ref a] ∧ SqL K H a xs ∧ DpAll K H xs ds ∧ AllAlike ds ∧ Sortable ds ∧ (∀ d ∈ ds, d.depth ≤ 40) ∧
  ∀ p, H p = none → Q (.ref p) (upd H p (.lst (srtV xs ds)))
theorem cr_sortA {X : Cx} (hu : X.A.units + 64 < cLine) : CallR X (.builtin "sorted") (rSortA X.K) := by
  intro pins s σ H vs us Q I r h
  obtain ⟨a, xs, ds, rfl, hs, hd, hal, hk, hdep, q⟩ := h
  obtain ⟨its, rv, hl, hz⟩ := I.list hs
  obtain rfl := Vals.ref1 r
  have hxd := dp_len hd
  have hlen := rv.length
  have e0 := each_dp I hd rv
  have e1 : EachIs (fun v d => ∃ as, Reads (sortingHeap (copyHeap s.heap its) (s.heap.objs.size + 1) its) v d as) its ds := e0.mono fun v d ⟨as, r⟩ => ⟨as, PyProof.Rows.Reads.keeps (fun b o e => sorting_copy_old e) r⟩
  have S := SortsAt.data (prog := X.prog) (w := X.w) (A := X.A.in1.in1) (s := { s with heap := sortingHeap (copyHeap s.heap its) (s.heap.objs.size + 1) its }) e1 hal hk fun d hdm => by
    have h1 := hdep d hdm
    show X.A.units + 2 + d.depth < cLine
    omega
  refine sorted_vals hl.isList S (by rw [← hlen]; exact hz) ?_
  have ro := srt_vals rv hxd hal e1
  obtain ⟨ep, he'⟩ := PyProof.Rows.sortedAll_at s.heap its (sortVals (dataKind (sortingHeap (copyHeap s.heap its) (s.heap.objs.size + 1) its) ds) false its its).toArray
  exact ⟨.ref _, upd H (s.heap.objs.size + 1) (.lst (srtV xs ds)), I.laid (t' := s.toks) (fun _ _ => PyProof.Rows.sortedAll_old) (Nat.le_succ _) ⟨by rw [srtV_len hxd]; exact hz, _, ep, ro, he'⟩, rfl, q _ (I.hok.fresh (Nat.le_succ _))⟩
theorem cl_sortA {X : Cx} (K : PySem.W.Frag) (hu : X.A.units + 64 < cLine) (hK : X.K = K := by rfl) : CallR X (.builtin "sorted") (rSortA K) := by subst hK; exact cr_sortA hu
end
/-! ### list(zip(a, b)) as a value -/
theorem len_kept_zip : typeLookup (.type "zip") "__len__" = pure none := am_miss_of_fast (by decide +kernel)
theorem hint_kept_zip : typeLookup (.type "zip") "__length_hint__" = pure none := am_miss_of_fast (by decide +kernel)
section
variable {prog : Program} {w : World} {A : Around} {E : Value → Shared → Prop} {s : Shared}
def zSt (h : Heap) (z TI TO i1 i2 l1 l2 : Addr) (i : Nat) : Prop :=
  (IsZip h z TI TO .none ∨ ∃ T f x y, IsZipHeld h z TI TO T f ∧ IsPair h T x y) ∧ IsPair h TI (.ref i1) (.ref i2) ∧ (∃ a b, IsPair h TO a b) ∧ h.IsListIter i1 l1 i ∧ h.IsListIter i2 l2 i
theorem zSt.ty {z TI TO i1 i2 l1 l2 : Addr} {i : Nat} (h : zSt s.heap z TI TO i1 i2 l1 l2 i) : s.TypeIs (.ref z) "zip" := by
  obtain ⟨h | ⟨T, f, x, y, h, _⟩, _⟩ := h
  · exact ⟨_, h, rfl⟩
  · exact ⟨_, h, rfl⟩
theorem pair_ne_iter {h : Heap} {T i l : Addr} {x y : Value} {k : Nat} (a : IsPair h T x y) (b : h.IsListIter i l k) : T ≠ i := fun z => by
  obtain ⟨o, h1, h2, _⟩ := b
  have a : h.get? T = some { cls := .type "tuple", data := .seq #[x, y] } := a
  rw [z, h1] at a
  cases a
  simp at h2
theorem pair_ne_zip {h : Heap} {T z TI TO T2 : Addr} {f : Bool} {x y : Value} (a : IsPair h T x y) (b : IsZipHeld h z TI TO T2 f) : T ≠ z := fun e => by
  have a : h.get? T = some { cls := .type "tuple", data := .seq #[x, y] } := a
  rw [e, b] at a
  simp at a
theorem zip_item {z TI TO i1 i2 l1 l2 : Addr} {i : Nat} {xs ys : Array Value} {x y : Value} {Q : Option Value → Shared → Prop} (D : ZipApart z TI TO i1 i2 l1 l2)
    (h : zSt s.heap z TI TO i1 i2 l1 l2 i) (hl1 : s.heap.IsList l1 xs) (hl2 : s.heap.IsList l2 ys) (hx : xs[i]? = some x) (hy : ys[i]? = some y)
    (q : ∀ h', zSt h' z TI TO i1 i2 l1 l2 (i + 1) → IsPair h' s.heap.objs.size x y → (∀ c o, c ∉ [z, TO, i1, i2] → s.heap.get? c = some o → h'.get? c = some o) → Q (some (.ref s.heap.objs.size)) { s with heap := h' }) :
    wpAny (model prog w) A (pyNext (.ref z)) Q E s := by
  obtain ⟨hz, hTI, ⟨a, b, hTO⟩, h1, h2⟩ := h
  rcases hz with hz | ⟨T, f, x0, y0, hz, hT⟩
  · refine wpAny_pyNext_zip_item D hz hTI hTO h1 h2 hl1 hl2 hx hy fun h' a1 a2 a3 a4 a5 a6 a7 => q h' ⟨.inr ⟨_, false, _, _, a1, a5⟩, a7 _ _ D.TIz D.TITO D.TIi1 D.TIi2 hTI, ⟨_, _, a2⟩, a3, a4⟩ a5 fun c o n e => ?_
    exact a7 c o (fun z => n (by simp [z])) (fun z => n (by simp [z])) (fun z => n (by simp [z])) (fun z => n (by simp [z])) e
  · refine wpAny_pyNext_zip_item_held D hz hT hTI h1 h2 hl1 hl2 hx hy fun h' a1 a3 a4 a5 a6 a7 => q h' ⟨.inr ⟨T, true, _, _, a1, a7 _ _ (pair_ne_zip hT hz) (pair_ne_iter hT h1) (pair_ne_iter hT h2) hT⟩, a7 _ _ D.TIz D.TIi1 D.TIi2 hTI, ⟨_, _, a7 _ _ D.TOz D.TOi1 D.TOi2 hTO⟩, a3, a4⟩ a5 fun c o n e => ?_
    exact a7 c o (fun z => n (by simp [z])) (fun z => n (by simp [z])) (fun z => n (by simp [z])) e
theorem zip_end {z TI TO i1 i2 l1 l2 : Addr} {i : Nat} {xs ys : Array Value} {Q : Option Value → Shared → Prop} (hh : A.handled = none) (D : ZipApart z TI TO i1 i2 l1 l2)
    (h : zSt s.heap z TI TO i1 i2 l1 l2 i) (hl1 : s.heap.IsList l1 xs) (hl2 : s.heap.IsList l2 ys) (he : xs[i]? = none ∨ ys[i]? = none)
    (q : ∀ h', (∀ c o, c ∉ [z, TO, i1, i2] → s.heap.get? c = some o → h'.get? c = some o) → Q none { s with heap := h' }) :
    wpAny (model prog w) A (pyNext (.ref z)) Q E s := by
  obtain ⟨hz, hTI, ⟨a, b, hTO⟩, h1, h2⟩ := h
  rcases hz with hz | ⟨T, f, x0, y0, hz, hT⟩
  · exact wpAny_pyNext_zip_end hh D hz hTI hTO h1 h2 hl1 hl2 he fun h' k => q h' fun c o n e => k c o (fun z => n (by simp [z])) (fun z => n (by simp [z])) (fun z => n (by simp [z])) (fun z => n (by simp [z])) e
  · exact wpAny_pyNext_zip_end_held hh D hz hT hTI h1 h2 hl1 hl2 he fun h' k => q h' fun c o n e => k c o (fun z => n (by simp [z])) (fun z => n (by simp [z])) (fun z => n (by simp [z])) e
theorem zSt.keep {z TI TO i1 i2 l1 l2 S : Addr} {i : Nat} {h h' : Heap} {acc : Array Value} {c : Nat} (x : zSt h z TI TO i1 i2 l1 l2 i) (n : S ∉ [z, TI, TO, i1, i2]) (hS : h.get? S = some { cls := .type "list", dict := none, data := .seq acc c, slots := #[] })
    (k : ∀ b o, b ≠ S → h.get? b = some o → h'.get? b = some o) : zSt h' z TI TO i1 i2 l1 l2 i := by
  obtain ⟨hz, hTI, ⟨a, b, hTO⟩, h1, h2⟩ := x
  have n1 : z ≠ S := fun e => n (by simp [e])
  have n2 : TI ≠ S := fun e => n (by simp [e])
  have n3 : TO ≠ S := fun e => n (by simp [e])
  have n4 : i1 ≠ S := fun e => n (by simp [e])
  have n5 : i2 ≠ S := fun e => n (by simp [e])
  refine ⟨?_, k _ _ n2 hTI, ⟨a, b, k _ _ n3 hTO⟩, h1.at fun o e => k _ _ n4 e, h2.at fun o e => k _ _ n5 e⟩
  rcases hz with hz | ⟨T, f, x0, y0, hz, hT⟩
  · exact .inl (k _ _ n1 hz)
  · refine .inr ⟨T, f, x0, y0, k _ _ n1 hz, k _ _ (fun e => ?_) hT⟩
    have hT : h.get? T = some { cls := .type "tuple", data := .seq #[x0, y0] } := hT
    rw [e, hS] at hT
    simp at hT
end
section
variable {X : Cx} {pins : List (Addr × Obj)} {σ : L2.St}
theorem fp_upd {H : Hp} {b T : Addr} {o : HO} (f : FpOk X pins H b) (n : b ≠ T) : FpOk X pins (upd H T o) b := ⟨by rw [upd_ne n]; exact f.1, f.2⟩
/-- a finished list is tracked -/
theorem inv_lay {H : Hp} {s : Shared} {S : Addr} {acc : Array Value} {c : Nat} {vs : List V} (I : Inv X pins σ H s) (f : FpOk X pins H S) (e : s.heap.get? S = some { cls := .type "list", dict := none, data := .seq acc c, slots := #[] }) (r : Vals vs acc.toList)
    (z : vs.length ≤ sizeLine) : Inv X pins σ (upd H S (.lst vs)) s := by
  have hn := f.1
  refine I.call' (ch := [S]) rfl ⟨fun b o e _ _ _ => e, fun b o e _ _ _ => ⟨o.slots, e⟩, fun b o _ n hx => ?_, fun b o e _ => ⟨o, e⟩, fun b xs q => ?_, fun b o u q => ?_, fun b ps q => ⟨#[], ?_⟩⟩ (fun b u q => ?_) I.bare (fun b hb => ?_)
  · rw [upd_ne (fun z => hx (by rw [z]; exact List.mem_singleton.mpr rfl))]; exact n
  · rw [upd_ne (ne_of_none q hn)]; exact q
  · rw [upd_ne (ne_of_none q hn)]; exact q
  · rw [upd_ne (ne_of_none q hn), q]; simp
  · by_cases hb : b = S
    · subst hb
      rw [upd_same] at q
      cases q
      exact ⟨z, acc.toList, c, r, by rw [e]⟩
    · rw [upd_ne hb] at q
      exact (I.hok b u q).stay (fun _ _ _ z => z) (fun d z => by rw [upd_ne (ne_of_none z hn)]; exact z) fun d xs z => by rw [upd_ne (ne_of_none z hn)]; exact z
  · rw [List.mem_singleton.mp hb]
    exact ⟨f.2.2.2.1, f.2.1, f.2.2.2.2.1, f.2.2.2.2.2⟩
theorem sql_same {K : PySem.W.Frag} {H H' : Hp} {a : Addr} {xs : List V} (h : SqL K H a xs) (s : Same H H') : SqL K H' a xs := by
  rcases h with h | h
  · rcases h with h | ⟨o, h⟩
    · exact .inl (.inl (s _ _ h))
    · exact .inl (.inr ⟨o, s _ _ h⟩)
  · exact .inr h
theorem sql_new {K : PySem.W.Frag} {H : Hp} {a T : Addr} {xs : List V} {o : HO} (h : SqL K H a xs) (n : H T = none) : SqL K (upd H T o) a xs := sql_same h (same_new n)
/-- the pairs so far, each a new tuple -/
def ZipV (H0 H : Hp) (xs ys vs : List V) (i : Nat) : Prop := vs.length = i ∧ ∀ (j : Nat) x y, j < i → xs[j]? = some x → ys[j]? = some y → ∃ t, vs[j]? = some (.ref t) ∧ H0 t = none ∧ H t = some (.tup [x, y])
theorem ext_loop_zip {A : Around} {R : Result → Shared → Prop} {S z TI TO i1 i2 a b : Addr} {xs ys : List V} {H0 : Hp} {res : Value} (hA : A.in1.handled = none) (hc : X.calm = true) (D : ZipApart z TI TO i1 i2 a b) (hS : S ∉ [z, TI, TO, i1, i2])
    (hR : ∀ s' H' acc' c' vs', Inv X pins σ H' s' → Same H0 H' → FpOk X pins H' S → s'.heap.get? S = some { cls := .type "list", dict := none, data := .seq acc' c', slots := #[] } → Vals vs' acc'.toList → ZipV H0 H' xs ys vs' (min xs.length ys.length) → R (.ok (.ret res)) s') :
    ∀ (k i : Nat) (s : Shared) (H : Hp) (acc : Array Value) (c : Nat) (vs : List V), min xs.length ys.length - i = k → i ≤ min xs.length ys.length → Inv X pins σ H s → Same H0 H → SqL X.K H a xs → SqL X.K H b ys → (∀ q ∈ [S, z, TO, i1, i2], FpOk X pins H q) →
      zSt s.heap z TI TO i1 i2 a b i → s.heap.get? S = some { cls := .type "list", dict := none, data := .seq acc c, slots := #[] } → Vals vs acc.toList → ZipV H0 H xs ys vs i →
      codeAny (model X.prog X.w) A (.builtin "list.extend.loop" ⟨[.ref S, .ref z, res], []⟩) R s := by
  have SE : ∀ q ∈ [z, TO, i1, i2], S ≠ q := fun q hq e => hS (by
    rw [e]
    rcases List.mem_cons.mp hq with h | hq
    · rw [h]; simp
    rcases List.mem_cons.mp hq with h | hq
    · rw [h]; simp
    rcases List.mem_cons.mp hq with h | hq
    · rw [h]; simp
    · rw [List.mem_singleton.mp hq]; simp)
  intro k
  induction k with
  | zero =>
    intro i s H acc c vs hk hi I sm ha hb hf hz hg rv zv
    have hin : i = min xs.length ys.length := by omega
    obtain ⟨its, r1, p1, m1⟩ := I.list ha
    obtain ⟨its2, r2, p2, _⟩ := I.list hb
    have l1 := r1.length
    have l2 := r2.length
    refine codeAny_builtin F.entry_extend_loop ?_
    rw [Around.under_plainId F.plain_extend_loop _]
    show wpAny _ A.in1 (pyNext (.ref z) >>= _) _ _ s
    refine wpAny_bind (zip_end hA D hz p1.isList p2.isList ?_ fun h' k => ?_)
    · by_cases q : xs.length ≤ ys.length
      · exact .inl (by simp; omega)
      · exact .inr (by simp; omega)
    · refine wpAny_pure ?_
      have I2 : Inv X pins σ H { s with heap := h' } := I.turnedL (t' := s.toks) (ch := [z, TO, i1, i2]) k fun q hq => hf q (List.mem_cons_of_mem _ hq)
      rw [hin] at zv
      exact hR _ H acc c vs I2 sm (hf S (by simp)) (k S _ (fun hq => SE S hq rfl) hg) rv zv
  | succ k ih =>
    intro i s H acc c vs hk hi I sm ha hb hf hz hg rv zv
    obtain ⟨its, r1, p1, m1⟩ := I.list ha
    obtain ⟨its2, r2, p2, _⟩ := I.list hb
    have l1 := r1.length
    have l2 := r2.length
    have h1 : i < xs.length := by omega
    have h2 : i < ys.length := by omega
    obtain ⟨u, hu, ru⟩ := r1.get (List.getElem?_eq_getElem h1)
    obtain ⟨v, hv, rw'⟩ := r2.get (List.getElem?_eq_getElem h2)
    refine codeAny_builtin F.entry_extend_loop ?_
    rw [Around.under_plainId F.plain_extend_loop _]
    show wpAny _ A.in1 (pyNext (.ref z) >>= _) _ _ s
    refine wpAny_bind (zip_item D hz p1.isList p2.isList (x := u) (y := v) (by simpa using hu) (by simpa using hv) fun h' hz' hT kp => ?_)
    have hS' := kp S _ (fun hq => SE S hq rfl) hg
    have new : ObjOk X.prog X.w (upd H s.heap.objs.size (.tup [xs[i], ys[i]])) h' s.heap.objs.size (.tup [xs[i], ys[i]]) :=
      ⟨by show 2 ≤ sizeLine; decide, [u, v], .cons ru (.cons rw' .nil), ⟨_, hT, rfl, _, rfl⟩⟩
    have hnew : H s.heap.objs.size = none := I.hok.fresh (Nat.le_refl _)
    have I1 : Inv X pins σ (upd H s.heap.objs.size (.tup [xs[i], ys[i]])) { s with heap := h' } :=
      I.turnedNew (t' := s.toks) (ch := [z, TO, i1, i2]) kp (fun q hq => hf q (List.mem_cons_of_mem _ hq)) (Nat.le_refl _) new
    show wpAny _ A.in1 (updateSeq S (·.push (.ref s.heap.objs.size)) >>= _) _ _ _
    refine wpAny_bind ?_
    have acz : acc.size = i := by
      have := rv.length
      rw [zv.1, Array.length_toList] at this
      exact this.symm
    have lt : ∀ q ∈ [S, z, TO, i1, i2], q ≠ s.heap.objs.size := fun q hq => by
      refine Nat.ne_of_lt ?_
      obtain ⟨hzz, hTI, ⟨x0, y0, hTO⟩, q1, q2⟩ := hz
      have e' : q = S ∨ q = z ∨ q = TO ∨ q = i1 ∨ q = i2 := by simpa using hq
      rcases e' with q | q | q | q | q
      · rw [q]; exact Heap.lt_size hg
      · rw [q]
        rcases hzz with h | ⟨_, _, _, _, h, _⟩
        · exact Heap.lt_size h
        · exact Heap.lt_size h
      · rw [q]; exact Heap.lt_size hTO
      · rw [q]; obtain ⟨_, e1, _⟩ := q1; exact Heap.lt_size e1
      · rw [q]; obtain ⟨_, e2, _⟩ := q2; exact Heap.lt_size e2
    have hf1 : ∀ q ∈ [S, z, TO, i1, i2], FpOk X pins (upd H s.heap.objs.size (.tup [xs[i], ys[i]])) q := fun q hq => fp_upd (hf q hq) (lt q hq)
    have I2 : Inv X pins σ (upd H s.heap.objs.size (.tup [xs[i], ys[i]])) { s with heap := h'.update S (Obj.mapSeq (·.push (.ref s.heap.objs.size))) } :=
      Inv.turnedL (s := { s with heap := h' }) I1 (t' := s.toks) (ch := [S]) (fun b o n e => (Heap.get?_update_other _ _ (fun z : S = b => n (by rw [z]; exact List.mem_singleton.mpr rfl))).trans e) fun q hq => hf1 q (by rw [List.mem_singleton.mp hq]; simp)
    refine wpAny_updateSeq hS' rfl (wpAny_pure ⟨plainId_quiet F.plain_extend_loop _, ih (i + 1) _ _ (acc.push (.ref s.heap.objs.size)) _ (vs ++ [.ref s.heap.objs.size]) (by omega) (by omega) I2 (sm.trans (same_new hnew)) (sql_new ha hnew) (sql_new hb hnew) hf1 ?_ (Heap.get?_update_self _ hS' rfl) ?_ ?_⟩)
      (by rw [acz]; omega) (by show (acc.push _).size ≤ sizeLine + 1; rw [Array.size_push, acz]; omega)
    · exact hz'.keep hS hS' fun b o n e => (Heap.get?_update_other _ _ (Ne.symm n)).trans e
    · rw [Array.toList_push]
      exact rv.append (.cons rfl .nil)
    · refine ⟨by rw [List.length_append, zv.1]; rfl, fun j x y hj ex ey => ?_⟩
      by_cases c : j = i
      · subst c
        refine ⟨_, by rw [List.getElem?_append_right (by rw [zv.1]; exact Nat.le_refl _), zv.1, Nat.sub_self]; rfl, sm.free hnew, ?_⟩
        rw [upd_same]
        rw [List.getElem?_eq_getElem h1] at ex
        rw [List.getElem?_eq_getElem h2] at ey
        cases ex; cases ey
        rfl
      · obtain ⟨t, e1, e2, e3⟩ := zv.2 j x y (by omega) ex ey
        exact ⟨t, by rw [List.getElem?_append_left (by rw [zv.1]; omega)]; exact e1, e2, by rw [upd_ne (ne_of_none e3 hnew)]; exact e3⟩
end
section
variable {X : Cx} {pins : List (Addr × Obj)} {σ : L2.St}
theorem call_list_zip {H : Hp} {s : Shared} {z TI TO i1 i2 a b : Addr} {xs ys : List V} {Q : Value → Shared → Prop} {E : Value → Shared → Prop} (hc : X.calm = true) (I : Inv X pins σ H s) (ha : SqL X.K H a xs) (hb : SqL X.K H b ys) (D : ZipApart z TI TO i1 i2 a b)
    (hf : ∀ q ∈ [z, TO, i1, i2], FpOk X pins H q) (hz0 : IsZip s.heap z TI TO .none) (hz : zSt s.heap z TI TO i1 i2 a b 0)
    (hq : ∀ s' H' S vs, Inv X pins σ (upd H' S (.lst vs)) s' → Same H H' → H S = none → H' S = none → ZipV H H' xs ys vs (min xs.length ys.length) → Q (.ref S) s') :
    wpAny (model X.prog X.w) X.A (call (.type "list") [.ref z]) Q E s := by
  have mx : xs.length ≤ sizeLine := by obtain ⟨_, _, _, m⟩ := I.list ha; exact m
  have lt : ∀ q ∈ [z, TI, TO, i1, i2], q < s.heap.objs.size := fun q hq => by
    obtain ⟨hzz, hTI, ⟨x0, y0, hTO⟩, q1, q2⟩ := hz
    have e' : q = z ∨ q = TI ∨ q = TO ∨ q = i1 ∨ q = i2 := by simpa using hq
    rcases e' with q | q | q | q | q
    · rw [q]
      rcases hzz with h | ⟨_, _, _, _, h, _⟩
      · exact Heap.lt_size h
      · exact Heap.lt_size h
    · rw [q]; exact Heap.lt_size hTI
    · rw [q]; exact Heap.lt_size hTO
    · rw [q]; obtain ⟨_, e1, _⟩ := q1; exact Heap.lt_size e1
    · rw [q]; obtain ⟨_, e2, _⟩ := q2; exact Heap.lt_size e2
  have hSf : s.heap.objs.size ∉ [z, TI, TO, i1, i2] := fun hm => Nat.lt_irrefl _ (lt _ hm)
  refine callType_codes (Q₁ := fun obj s₁ => obj = .ref s.heap.objs.size ∧ s₁ = { s with heap := s.heap.push { cls := .type "list", data := .seq #[] } }) F.called_list (F.typeCall_list_1 _) F.entry_list_init
    (code_list_new _ ⟨rfl, rfl⟩) fun obj s₁ h₁ => ?_
  obtain ⟨rfl, rfl⟩ := h₁
  have hS : (s.heap.push { cls := .type "list", data := .seq #[] }).get? s.heap.objs.size = some { cls := .type "list", data := .seq #[] } := Heap.get?_push_size _ rfl
  refine ⟨⟨_, hS, rfl⟩, F.args_list_init_2 _ _, ?_⟩
  show wpAny _ X.A.in1.in1 (do let old ← Builtin.List.listItems (.ref s.heap.objs.size); Builtin.List.listUpdate (.ref s.heap.objs.size) (fun _ => #[]); letGo old.toList.reverse; Builtin.List.listExtendWith (.ref s.heap.objs.size) (.ref z) .none) _ _ _
  refine wpAny_bind ?_
  unfold Builtin.List.listItems
  refine wpAny_bind (wpAny_seqItems hS rfl (wpAny_pure ?_))
  show wpAny _ X.A.in1.in1 (updateSeq s.heap.objs.size (fun _ => #[]) >>= fun _ => letGo (#[] : Array Value).toList.reverse >>= fun _ => Builtin.List.listExtendWith (.ref s.heap.objs.size) (.ref z) .none) _ _ _
  refine wpAny_bind (wpAny_updateSeq hS rfl ?_)
  have hS₂ := Heap.get?_update_self (Obj.mapSeq (fun _ => (#[] : Array Value))) hS rfl
  have oth : ∀ b o, b ≠ s.heap.objs.size → s.heap.get? b = some o → ((s.heap.push { cls := .type "list", data := .seq #[] }).update s.heap.objs.size (Obj.mapSeq (fun _ => (#[] : Array Value)))).get? b = some o :=
    fun b o hb e => (Heap.get?_update_other _ _ (Ne.symm hb)).trans (Heap.get?_push_of_some _ e)
  refine wpAny_bind (wpAny_letGo ?_)
  have kz : ∀ {h' : Heap}, (∀ b o, b ≠ s.heap.objs.size → s.heap.get? b = some o → h'.get? b = some o) → zSt h' z TI TO i1 i2 a b 0 := fun {h'} k => by
    have ne : ∀ q ∈ [z, TI, TO, i1, i2], q ≠ s.heap.objs.size := fun q hq => Nat.ne_of_lt (lt q hq)
    obtain ⟨hzz, hTI, ⟨x0, y0, hTO⟩, q1, q2⟩ := hz
    refine ⟨?_, k _ _ (ne _ (by simp)) hTI, ⟨_, _, k _ _ (ne _ (by simp)) hTO⟩, q1.at fun o e => k _ _ (ne _ (by simp)) e, q2.at fun o e => k _ _ (ne _ (by simp)) e⟩
    rcases hzz with h | ⟨T, f, x, y, h, hT⟩
    · exact .inl (k _ _ (ne _ (by simp)) h)
    · exact .inr ⟨T, f, x, y, k _ _ (ne _ (by simp)) h, k _ _ (Nat.ne_of_lt (Heap.lt_size hT)) hT⟩
  unfold Builtin.List.listExtendWith
  refine wpAny_bind (wpAny_typeOf ((kz oth).ty (s := { s with heap := _ })) ?_)
  have hSz : s.heap.objs.size ≠ z := fun e => hSf (by rw [e]; simp)
  have h1 : Builtin.List.listSameRef (.ref s.heap.objs.size) (.ref z) = false := by simp [Builtin.List.listSameRef, hSz]
  have h2 : (Value.type "zip" == Value.type "list") = false := by decide
  have h3 : (Value.type "zip" == Value.type "tuple") = false := by decide
  simp only [h1, h2, h3, Bool.or_false, Bool.false_eq_true, if_false]
  have zne : z ≠ s.heap.objs.size := Nat.ne_of_lt (lt z (by simp))
  refine wpAny_bind (wpAny_pyIter_zip (oth _ _ zne hz0) ?_)
  refine wpAny_bind (wpAny_holding ?_)
  unfold Builtin.List.listLengthHint
  refine wpAny_bind (wpAny_specialOf ((kz oth).ty (s := { s with heap := _ })) len_kept_zip ?_)
  show wpAny _ X.A.in1.in1 (specialOf (Value.ref z) (Str.ofString "__length_hint__") >>= _) _ _ _
  refine wpAny_bind (wpAny_specialOf ((kz oth).ty (s := { s with heap := _ })) hint_kept_zip ?_)
  refine wpAny_pure ?_
  show wpAny _ X.A.in1.in1 (rule "list.extend.makes-room" >>= fun _ => Builtin.List.listTouch (.ref s.heap.objs.size) >>= fun _ =>
    again (.builtin "list.extend.loop" ⟨[.ref s.heap.objs.size, .ref z, .none], []⟩)) _ _ _
  refine wpAny_bind (wpAny_rule ?_)
  refine wpAny_bind ?_
  show wpAny _ X.A.in1.in1 (updateSeq s.heap.objs.size (·.push .none) >>= fun _ => updateSeq s.heap.objs.size (·.pop)) _ _ _
  refine wpAny_bind (wpAny_updateSeq hS₂ rfl ?_)
  have hS₃ := Heap.get?_update_self (Obj.mapSeq (·.push Value.none)) hS₂ rfl
  refine wpAny_updateSeq (hz := by seq_fits) hS₃ rfl ?_
  have hS₄ := Heap.get?_update_self (Obj.mapSeq (·.pop)) hS₃ rfl
  have oth4 : ∀ b o, b ≠ s.heap.objs.size → s.heap.get? b = some o → ((((s.heap.push { cls := .type "list", data := .seq #[] }).update s.heap.objs.size (Obj.mapSeq (fun _ => (#[] : Array Value)))).update s.heap.objs.size (Obj.mapSeq (·.push Value.none))).update s.heap.objs.size (Obj.mapSeq (·.pop))).get? b = some o :=
    fun b o hb e => (Heap.get?_update_other _ _ (Ne.symm hb)).trans ((Heap.get?_update_other _ _ (Ne.symm hb)).trans (oth b o hb e))
  have hn : H s.heap.objs.size = none := I.hok.fresh (Nat.le_refl _)
  have fS : FpOk X pins H s.heap.objs.size := I.fpOk (Nat.le_refl _) hn
  have I4 : Inv X pins σ H { s with heap := (((s.heap.push { cls := .type "list", data := .seq #[] }).update s.heap.objs.size (Obj.mapSeq (fun _ => (#[] : Array Value)))).update s.heap.objs.size (Obj.mapSeq (·.push Value.none))).update s.heap.objs.size (Obj.mapSeq (·.pop)) } :=
    I.kept (t' := s.toks) fun b o e => oth4 b o (Nat.ne_of_lt (Heap.lt_size e)) e
  refine wpAny_pure ⟨plainId_quiet F.plain_extend_loop _, ext_loop_zip (A := X.A.in1) (H0 := H) (show X.A.handled = none from I.ok.hd hc) hc D hSf (fun s' H' acc' c' vs' I' sm f' e' r' zv => ?_) _ 0 _ H _ _ [] rfl (Nat.zero_le _) I4 (Same.refl H) ha hb (fun q hq => ?_) (kz oth4) hS₄ .nil ⟨rfl, fun j x y hj => absurd hj (Nat.not_lt_zero _)⟩⟩
  · exact ⟨rfl, hq s' H' _ vs' (inv_lay I' f' e' r' (by rw [zv.1]; omega)) sm hn f'.1 zv⟩
  · rcases List.mem_cons.mp hq with h | hq
    · rw [h]; exact fS
    · exact hf q hq
/-- the pairs of two lists -/
def tLstZip (K : PySem.W.Frag) (ta : TA) : TE := fun σ H Q => ta σ H fun vs H1 => ∃ a b xs ys, vs = [.ref a, .ref b] ∧ SqL K H1 a xs ∧ SqL K H1 b ys ∧ ∀ S H' zs, Same H1 H' → H1 S = none → H' S = none → ZipV H1 H' xs ys zs (min xs.length ys.length) → Q (.ref S) (upd H' S (.lst zs))
theorem pe_listZip {e e2 : Expr} {ta : TA} {p p2 pos pos2 : Pos} (hc : X.calm = true) (hg : Gl X "list") (hm : X.mg "list" = none) (hg2 : Gl X "zip") (hm2 : X.mg "zip" = none) (ha : PA X [e, e2] ta)
    (na : starEach [.Call (.Name "zip" p2) [e, e2] [] pos2] X.env = (false, eval (.Call (.Name "zip" p2) [e, e2] [] pos2) X.env) :: starEach [] X.env := by rfl)
    (hs : starEach [e, e2] X.env = (false, eval e X.env) :: starEach [e2] X.env := by rfl) (hpl : (backTo pos2 (starEach [e2] X.env)).any (·.1) = false := by rfl) :
    PE X (.Call (.Name "list" p) [.Call (.Name "zip" p2) [e, e2] [] pos2] [] pos) (tLstZip X.K ta) := by
  refine ⟨fun pins s σ H Q I h => ?_⟩
  refine Call_ (ld_blt I hg hm boot_list (PyProof.Rows.callWith_type1 (args_cons (Call_ (ld_blt I hg2 hm2 PyProof.Rows.boot_zip (PyProof.Rows.callWith_type1 (thn (ha.run pos2 pins s σ H _ I h) fun us s1 ⟨vs, H1, I1, r1, q1⟩ => ?_) hs hpl))) na) na))
  obtain ⟨a, b, xs, ys, ex, hqx, hqy, q⟩ := q1
  subst ex
  cases r1 with
  | cons r rr =>
    cases rr with
    | cons r' rr =>
      cases rr
      cases r
      cases r'
      obtain ⟨its, rv, p1, _⟩ := I1.list hqx
      obtain ⟨its2, rv2, p2, _⟩ := I1.list hqy
      have la : a < s1.heap.objs.size := p1.lt
      have lb : b < s1.heap.objs.size := p2.lt
      refine call_zip_2 p1.isList p2.isList fun h' hz hTI hTO h1 h2 hsz hk => args_nil ?_
      have I2 : Inv X pins σ H1 { s1 with heap := h' } := I1.kept (t' := s1.toks) hk
      refine call_list_zip hc I2 hqx hqy (PySem.W.ktu_apart s1.heap.objs.size a b la lb) (fun c hcm => ?_) hz ⟨.inl hz, hTI, ⟨_, _, hTO⟩, h1, h2⟩ fun s' H' S vs I' sm n1 n2 zv => ⟨.ref S, _, I', rfl, q S H' vs sm n1 n2 zv⟩
      have e' : c = s1.heap.objs.size + 4 ∨ c = s1.heap.objs.size + 3 ∨ c = s1.heap.objs.size ∨ c = s1.heap.objs.size + 1 := by simpa using hcm
      have hle : s1.heap.objs.size ≤ c := by
        rcases e' with z | z | z | z
        · rw [z]; exact Nat.le_add_right _ _
        · rw [z]; exact Nat.le_add_right _ _
        · rw [z]; exact Nat.le_refl _
        · rw [z]; exact Nat.le_add_right _ _
      exact I1.fpOk hle (I1.hok.fresh hle)
end
section
variable {α β : Type} {R : Rep α} {B : Rep β} {M : Mx} {F0 H0 F H : Hp} {ss : List Sa} {cs : List (Addr × Ca)} {σ : L2.St} {K : PySem.W.Frag} {Q : VK} {v w : V} {l : List α} {l2 : List β}
def NewZ (K : PySem.W.Frag) (vs : List V) (H : Hp) (Q : VK) : Prop := ∃ a b xs ys, vs = [.ref a, .ref b] ∧ SqL K H a xs ∧ SqL K H b ys ∧ ∀ S H' zs, Same H H' → H S = none → H' S = none → ZipV H H' xs ys zs (min xs.length ys.length) → Q (.ref S) (upd H' S (.lst zs))
theorem m_lstZ {ta : TA} (h : ta σ H fun vs H1 => NewZ K vs H1 Q) : tLstZip K ta σ H Q := h
theorem w_lzX (h : Wst M F0 H0 ss cs σ F H) (r1 : LV R F H v l) (r2 : LV B F H w l2) (q : ∀ F' H' vs, Same F F' → Same H H' → Wst M F0 H0 ss cs σ F' H' → A2 ((rT2 R B).r F') vs (l.zip l2) → ∀ p, H' p = none → Q (.ref p) (upd H' p (.lst vs))) : NewZ K [v, w] H Q := by
  obtain ⟨p, vs, rfl, hp, hv⟩ := r1
  obtain ⟨p2, ws, rfl, hp2, hw⟩ := r2
  refine ⟨_, _, vs, ws, rfl, sq_l hp, sq_l hp2, fun S H' zs sm n1 n2 zv => ?_⟩
  have x := ext_gw (T := M.tl) h.fh h.nt sm
  refine q _ H' zs x.ff sm (h.grow x) (a2_of_get ?_ fun j a b e1 e2 => ?_) S n2
  · rw [zv.1, List.length_zip, hv.len, hw.len]
  · rw [List.getElem?_zip_eq_some] at e2
    obtain ⟨c, hc, rc⟩ := hv.getB e2.1
    obtain ⟨d, hd, rd⟩ := hw.getB e2.2
    have hj : j < min vs.length ws.length := by
      have := (List.getElem?_eq_some_iff.mp hc).1
      have := (List.getElem?_eq_some_iff.mp hd).1
      omega
    obtain ⟨t, h1, h2, h3⟩ := zv.2 j c d hj hc hd
    rw [e1] at h1
    cases h1
    exact ⟨t, c, d, rfl, gw_at h2 h3, R.mono x.ff rc, B.mono x.ff rd⟩
theorem w_lzF (h : Wst M F0 H0 ss cs σ F H) (r1 : LV R F H v l) (r2 : LV B F H w l2) (q : ∀ v' F' H', Same F F' → Wst M F0 H0 ss cs σ F' H' → (rL (rT2 R B)).r F' v' (l.zip l2) → Q v' H') : NewZ K [v, w] H Q :=
  w_lzX h r1 r2 fun F' H' vs s s2 h' a => w_newF h' a fun v' F2 H2 s3 => q v' F2 H2 (s.trans s3)
theorem w_lzC (h : Wst M F0 H0 ss cs σ F H) (r1 : LV R F H v l) (r2 : LV B F H w l2) (q : ∀ p F' H', H0 p = none → Same F F' → Wst M F0 H0 ss ((p, cL (rT2 R B) (l.zip l2)) :: cs) σ F' H' → Q (.ref p) H') : NewZ K [v, w] H Q :=
  w_lzX h r1 r2 fun F' H' vs s s2 h' a => w_newC h' a fun p H2 o h2 => q p F' H2 o s h2
end
/-! ### sum(lists, []) -/
theorem args_sum2 (a b : Value) : argsOk "sum" ⟨[a, b], []⟩ := by unfold argsOk; kernel_rfl
theorem sub_list_str' : isSubtype (.type "list") (.type "str") = pure false := by rw [isSubtype_type]; kernel_rfl
theorem sub_list_bytes' : isSubtype (.type "list") (.type "bytes") = pure false := by rw [isSubtype_type]; kernel_rfl
theorem sub_list_bytearray' : isSubtype (.type "list") (.type "bytearray") = pure false := by rw [isSubtype_type]; kernel_rfl
section
variable {X : Cx} {pins : List (Addr × Obj)} {σ : L2.St}
/-- each is a list -/
def RowsAt (H : Hp) (rows : List V) (xss : List (List V)) : Prop := rows.length = xss.length ∧ ∀ (i : Nat) v xs, rows[i]? = some v → xss[i]? = some xs → ∃ a, v = .ref a ∧ H a = some (.lst xs)
theorem RowsAt.same {H H' : Hp} {rows : List V} {xss : List (List V)} (h : RowsAt H rows xss) (s : Same H H') : RowsAt H' rows xss := ⟨h.1, fun i v xs e1 e2 => by
  obtain ⟨a, e, q⟩ := h.2 i v xs e1 e2
  exact ⟨a, e, s _ _ q⟩⟩
/-- the sum so far -/
def SumAt (H0 H : Hp) (b p : Addr) (xss : List (List V)) (i : Nat) : Prop := (i = 0 ∧ H = H0 ∧ p = b) ∨ ∃ G, H = upd G p (.lst (xss.take i).flatten) ∧ Same H0 G ∧ G p = none
theorem SumAt.same {H0 H : Hp} {b p : Addr} {xss : List (List V)} {i : Nat} (h : SumAt H0 H b p xss i) : Same H0 H := by
  rcases h with ⟨_, e, _⟩ | ⟨G, e, s, n⟩
  · rw [e]; exact Same.refl _
  · rw [e]; exact s.trans (same_new n)
theorem sum_loop_lists {A : Around} {R : Result → Shared → Prop} {S it l b : Addr} {rows : List V} {xss : List (List V)} {H0 : Hp} (hA : A.in1.handled = none) (hne : S ≠ it) (hl : H0 l = some (.lst rows)) (hb : H0 b = some (.lst [])) (hr : RowsAt H0 rows xss) (hz : xss.flatten.length ≤ 100000)
    (hR : ∀ s' H' p, Inv X pins σ H' s' → SumAt H0 H' b p xss xss.length → R (.ok (.ret (.ref p))) s') :
    ∀ (k i : Nat) (s : Shared) (H : Hp) (p : Addr) (c : Nat) (st : Int), xss.length - i = k → i ≤ xss.length → Inv X pins σ H s → SumAt H0 H b p xss i → FpOk X pins H S → FpOk X pins H it → s.heap.IsListIter it l i →
      s.heap.get? S = some { cls := .type "list", dict := none, data := .seq #[.ref p] c, slots := #[] } →
      codeAny (model X.prog X.w) A (.builtin "sum.loop" ⟨[.ref it, .ref S, rawInt st, rawInt 0], []⟩) R s := by
  intro k
  induction k with
  | zero =>
    intro i s H p c st hk hi I sa fS fi hit hS
    have hin : i = xss.length := by omega
    subst hin
    obtain ⟨_, its, n, rv, lv, e⟩ := I.lstM (sa.same _ _ hl)
    refine codeAny_builtin F.entry_sum_loop ?_
    rw [Around.under_plainId F.plain_sum_loop _]
    show wpAny _ A.in1 (seqItems? (.ref S) >>= _) _ _ s
    refine wpAny_bind (wpAny_seqItems hS rfl ?_)
    show wpAny _ A.in1 (tryCatch (pyNext (.ref it)) _ >>= _) _ _ s
    refine wpAny_bind (wpAny_tryCatch (wpAny_pyNext_list_end hA hit (items := its.toArray) ⟨_, e, rfl, _, rfl⟩ ?_ fun h' eb => ?_))
    · have := hr.1
      simp
      omega
    · refine wpAny_pure (hR _ H p ?_ sa)
      exact I.turnedL (t' := s.toks) (ch := [it]) (fun b o n e => eb b o (fun z => n (by rw [z]; exact List.mem_singleton.mpr rfl)) e) fun q hq => by rw [List.mem_singleton.mp hq]; exact fi
  | succ k ih =>
    intro i s H p c st hk hi I sa fS fi hit hS
    have hlt : i < xss.length := by omega
    have hlt2 : i < rows.length := by rw [hr.1]; exact hlt
    obtain ⟨_, its, n, rv, lv, e⟩ := I.lstM (sa.same _ _ hl)
    obtain ⟨u, hu, ru⟩ := rv.get (List.getElem?_eq_getElem hlt2)
    obtain ⟨a, ea, ha⟩ := hr.2 i _ _ (List.getElem?_eq_getElem hlt2) (List.getElem?_eq_getElem hlt)
    rw [ea] at ru
    obtain rfl : u = .ref a := ru
    refine codeAny_builtin F.entry_sum_loop ?_
    rw [Around.under_plainId F.plain_sum_loop _]
    show wpAny _ A.in1 (seqItems? (.ref S) >>= _) _ _ s
    refine wpAny_bind (wpAny_seqItems hS rfl ?_)
    show wpAny _ A.in1 (tryCatch (pyNext (.ref it)) _ >>= _) _ _ s
    refine wpAny_bind (wpAny_tryCatch (wpAny_pyNext_list_item hit (items := its.toArray) ⟨_, e, rfl, _, rfl⟩ (x := .ref a) (by simpa using hu) fun h' hit' sb => ?_))
    have hS' := sb.extBut _ _ hne hS
    have I1 : Inv X pins σ H { s with heap := h' } := I.turnedL (t' := s.toks) (ch := [it]) (fun b o n e => sb.extBut _ _ (fun z => n (by rw [z]; exact List.mem_singleton.mpr rfl)) e) fun q hq => by rw [List.mem_singleton.mp hq]; exact fi
    have hp : H p = some (.lst (xss.take i).flatten) := by
      rcases sa with ⟨z, e1, e2⟩ | ⟨G, e1, _, _⟩
      · rw [z, e1, e2]; exact hb
      · rw [e1]; exact upd_same
    obtain ⟨z1, t1, n1, r1, l1, g1⟩ := I1.lstM hp
    obtain ⟨z2, t2, n2, r2, l2, g2⟩ := I1.lstM (sa.same _ _ ha)
    have hsum : (xss.take i).flatten ++ xss[i] = (xss.take (i + 1)).flatten := by
      rw [List.take_succ_eq_append_getElem hlt, List.flatten_append, List.flatten_singleton]
    have hle : ((xss.take i).flatten ++ xss[i]).length ≤ 100000 := by
      have : xss.flatten.length = ((xss.take (i + 1)).flatten).length + ((xss.drop (i + 1)).flatten).length := by
        rw [← List.length_append, ← List.flatten_append, List.take_append_drop]
      rw [hsum]
      omega
    have hsz := hle
    rw [List.length_append] at hsz
    show wpAny _ A.in1 ((holding [.ref a] (binaryOp .Add (.ref p) (.ref a))).attempt >>= _) _ _ _
    refine wpAny_bind (wpAny_attempt (wpAny_holding (PySem.P.add_list g1 g2 ?_ (by rw [List.size_toArray, List.size_toArray]; have := sz_ok (n := 100000) (Nat.le_refl _); omega))))
    have ea' : t1.toArray ++ t2.toArray = (t1 ++ t2).toArray := by simp
    rw [ea']
    have I2 := Inv.lnew (t' := s.toks) I1 (r1.append r2) (sz_ok hle)
    have hS2 := Heap.get?_push_of_some { cls := .type "list", data := .seq (t1 ++ t2).toArray } hS'
    have hnew : H h'.objs.size = none := I1.hok.fresh (Nat.le_refl _)
    have ltS : S < h'.objs.size := Heap.lt_size hS'
    have lti : it < h'.objs.size := by obtain ⟨_, e1, _⟩ := hit'; exact Heap.lt_size e1
    show wpAny _ A.in1 (updateSeq S (fun _ => #[.ref h'.objs.size]) >>= _) _ _ _
    refine wpAny_bind (wpAny_updateSeq hS2 rfl ?_)
    have hS3 := Heap.get?_update_self (Obj.mapSeq (fun _ => #[Value.ref h'.objs.size])) hS2 rfl
    refine wpAny_bind (wpAny_letGo ?_)
    show wpAny _ A.in1 (updateSeq S (fun _ => #[.ref h'.objs.size]) >>= _) _ _ _
    refine wpAny_bind (wpAny_updateSeq hS3 rfl ?_)
    have hS4 := Heap.get?_update_self (Obj.mapSeq (fun _ => #[Value.ref h'.objs.size])) hS3 rfl
    have fS2 : FpOk X pins (upd H h'.objs.size (.lst ((xss.take i).flatten ++ xss[i]))) S := fp_upd fS (Nat.ne_of_lt ltS)
    have fi2 : FpOk X pins (upd H h'.objs.size (.lst ((xss.take i).flatten ++ xss[i]))) it := fp_upd fi (Nat.ne_of_lt lti)
    have oth : ∀ b o, b ≠ S → (h'.push { cls := .type "list", data := .seq (t1 ++ t2).toArray }).get? b = some o →
        (((h'.push { cls := .type "list", data := .seq (t1 ++ t2).toArray }).update S (Obj.mapSeq fun _ => #[Value.ref h'.objs.size])).update S (Obj.mapSeq fun _ => #[Value.ref h'.objs.size])).get? b = some o :=
      fun b o n e => (Heap.get?_update_other _ _ (Ne.symm n)).trans ((Heap.get?_update_other _ _ (Ne.symm n)).trans e)
    refine wpAny_pure ⟨plainId_quiet F.plain_sum_loop _, ih (i + 1) _ (upd H h'.objs.size (.lst ((xss.take i).flatten ++ xss[i]))) h'.objs.size _ 2 (by omega) (by omega) ?_ (.inr ⟨H, by rw [hsum], sa.same, hnew⟩) fS2 fi2 ?_ hS4⟩
    · exact Inv.turnedL (s := { s with heap := h'.push { cls := .type "list", data := .seq (t1 ++ t2).toArray } }) I2 (t' := s.toks) (ch := [S]) (fun b o n e => oth b o (fun z => n (by rw [z]; exact List.mem_singleton.mpr rfl)) e) fun q hq => by rw [List.mem_singleton.mp hq]; exact fS2
    · exact hit'.at fun o e => oth _ _ (Ne.symm hne) (Heap.get?_push_of_some _ e)
/-- sum(lists, start): the start list is new, and empty -/
def rSumL : List V → Hp → VK → Prop := fun vs H Q => ∃ (l b : Addr) (rows : List V) (xss : List (List V)), vs = [.ref l, .ref b] ∧ H l = some (.lst rows) ∧ H b = some (.lst []) ∧ RowsAt H rows xss ∧ xss.flatten.length ≤ 100000 ∧
  (xss = [] → Q (.ref b) H) ∧ ∀ G p, Same H G → G p = none → Q (.ref p) (upd G p (.lst xss.flatten))
theorem cr_sumL (hc : X.calm = true) : CallR X (.builtin "sum") rSumL := by
  intro pins s σ H vs us Q I r h
  obtain ⟨l, b, rows, xss, rfl, hl, hb, hr, hz, q0, q1⟩ := h
  obtain ⟨_, its, n, rv, lv, e⟩ := I.lstM hl
  obtain ⟨_, itb, nb, _, _, eb⟩ := I.lstM hb
  cases r with
  | cons r rr =>
    cases rr with
    | cons r' rr =>
      cases rr
      cases r
      cases r'
      refine call_function_tree F.kind_sum F.plain_sum F.entry_sum (args_sum2 _ _) ?_
      unfold Builtin.«sum»
      simp only [List.length_cons, List.length_nil]
      rw [if_neg (by decide)]
      refine wpAny_bind (wpAny_of_eq (show Builtin.Builtins.bindParams "sum" ["start"] 0 ⟨[.ref b], []⟩ = pure [some (.ref b)] from rfl) ?_)
      refine wpAny_bind (wpAny_pyIter_list (items := its.toArray) ⟨_, e, rfl, _, rfl⟩ ?_)
      refine wpAny_bind (wpAny_pure ?_)
      simp only [List.forIn_cons, List.forIn_nil]
      have tb : Shared.TypeIs { s with heap := s.heap.push { cls := .type "list_iterator", data := .fields #[.ref l, .int 0 0] } } (.ref b) "list" := ⟨_, Heap.get?_push_of_some _ eb, rfl⟩
      refine wpAny_bind (wpAny_bind (wpAny_bind (wpAny_isInstance (T := "list") (b := false) tb sub_list_str' ?_)))
      simp only [Bool.false_eq_true, if_false]
      refine wpAny_pure (wpAny_bind (wpAny_bind (wpAny_isInstance (T := "list") (b := false) tb sub_list_bytes' ?_)))
      simp only [Bool.false_eq_true, if_false]
      refine wpAny_pure (wpAny_bind (wpAny_bind (wpAny_isInstance (T := "list") (b := false) tb sub_list_bytearray' ?_)))
      simp only [Bool.false_eq_true, if_false]
      refine wpAny_pure (wpAny_pure ?_)
      refine wpAny_bind (wpAny_newObj_type ?_)
      have hn0 : H s.heap.objs.size = none := I.hok.fresh (Nat.le_refl _)
      have sz : (s.heap.push { cls := .type "list_iterator", data := .fields #[.ref l, .int 0 0] }).objs.size = s.heap.objs.size + 1 := Heap.size_push ..
      have hn1 : H (s.heap.objs.size + 1) = none := I.hok.fresh (Nat.le_succ _)
      refine wpAny_pure ⟨plainId_quiet F.plain_sum_loop _, sum_loop_lists (X := X) (pins := pins) (σ := σ) (A := X.A) (H0 := H) (show X.A.handled = none from I.ok.hd hc) ?_ hl hb hr hz (fun s' H' p I' sa => ?_) _ 0 _ H b _ 2 rfl (Nat.zero_le _) ?_ (.inl ⟨rfl, rfl, rfl⟩) ?_ ?_ ?_ (Heap.get?_push_size _ rfl)⟩
      · rw [sz]; exact Nat.succ_ne_self _
      · rcases sa with ⟨z, e1, e2⟩ | ⟨G, e1, sm, hg⟩
        · rw [e1] at I'
          rw [e2]
          exact ⟨.ref b, H, I', rfl, q0 (List.eq_nil_of_length_eq_zero z)⟩
        · rw [e1, List.take_of_length_le (Nat.le_refl _)] at I'
          exact ⟨.ref p, _, I', rfl, q1 G p sm hg⟩
      · exact I.kept (t' := s.toks) fun b u e => Heap.get?_push_of_some _ (Heap.get?_push_of_some _ e)
      · rw [sz]; exact I.fpOk (Nat.le_succ _) hn1
      · exact I.fpOk (Nat.le_refl _) hn0
      · exact ⟨_, Heap.get?_push_of_some _ (Heap.get?_push_size _ rfl), rfl, rfl⟩
end
section
variable {α : Type} {R : Rep α} {M : Mx} {F0 H0 F H : Hp} {ss : List Sa} {cs : List (Addr × Ca)} {σ : L2.St} {Q : VK} {v : V} {l : List (List α)} {c : Addr}
theorem rows_of (s : Same F H) : ∀ {l : List (List α)} {vs : List V}, A2 ((rL R).r F) vs l → ∃ xss : List (List V), RowsAt H vs xss ∧ A2 (R.r F) xss.flatten l.flatten ∧ (xss = [] → l = [])
  | [], _, h => by
    cases h
    exact ⟨[], ⟨rfl, fun i v xs e => by simp at e⟩, .nil, fun _ => rfl⟩
  | x :: r, _, h => by
    cases h with
    | cons h1 h2 =>
      rename_i u us
      obtain ⟨a, ys, rfl, ha, hy⟩ := h1
      obtain ⟨xss, q1, q2, _⟩ := rows_of s h2
      refine ⟨ys :: xss, ⟨by rw [List.length_cons, List.length_cons, q1.1], fun i v xs e1 e2 => ?_⟩, ?_, fun z => by cases z⟩
      · cases i with
        | zero =>
          cases e1; cases e2
          exact ⟨a, rfl, s _ _ ha⟩
        | succ i => exact q1.2 i v xs e1 e2
      · rw [List.flatten_cons, List.flatten_cons]
        exact hy.app q2
theorem w_sumLL (h : Wst M F0 H0 ss ((c, cL R []) :: cs) σ F H) (r : LV (rL R) F H v l) (z : l.flatten.length ≤ 100000) (q : ∀ p F' H', H0 p = none → Same F F' → Wst M F0 H0 ss ((p, cL R l.flatten) :: cs) σ F' H' → Q (.ref p) H') (hc : H0 c = none) : rSumL [v, .ref c] H Q := by
  obtain ⟨p, vs, rfl, hp, hv⟩ := r
  obtain ⟨o, h1, ws, rfl, hw⟩ := h.cell (k := 0) rfl
  cases hw
  obtain ⟨xss, q1, q2, q3⟩ := rows_of h.fh hv
  refine ⟨p, c, vs, xss, rfl, hp, h1, q1, by rw [q2.len]; exact z, fun e => ?_, fun G p' sm hg => ?_⟩
  · rw [q3 e] at q
    exact q c F H hc (Same.refl F) h
  · have x := ext_gw (T := M.tl) h.fh h.nt sm
    have h2 := (h.dropC 0).grow x
    have h2 : Wst M F0 H0 ss cs σ (Gw F H G) G := h2
    exact w_newC h2 (q2.imp fun _ _ => R.mono x.ff) (fun p2 H2 o h3 => q p2 _ H2 o x.ff h3) p' hg
end
/-! ### sorted of data of a kind -/
section
open PySem.W
structure Alk {α : Type} {R : Rep α} (D : Dat R) : Prop where
  al : ∀ a b, alike (D.d a) (D.d b) = true
  ok : (∀ a, ∃ x r, D.d a = .tuple (x :: r)) ∨ ∀ a, D.d a ≠ .none ∧ ∀ xs, D.d a ≠ .tuple xs
variable {α β γ : Type} {R : Rep α} {S : Rep β} {T : Rep γ}
theorem alkN : Alk dtN := ⟨fun a b => by simp [dtN, alike], .inr fun a => ⟨(fun z => by cases z), (fun xs z => by cases z)⟩⟩
theorem alkZ : Alk dtZ := ⟨fun a b => by simp [dtZ, alike], .inr fun a => ⟨(fun z => by cases z), (fun xs z => by cases z)⟩⟩
theorem alk_all {D : Dat R} (h : Alk D) : ∀ l m : List α, alikeAll (l.map D.d) (m.map D.d) = true
  | [], m => by simp [alikeAll]
  | _ :: _, [] => by simp [alikeAll]
  | a :: l, b :: m => by
    rw [List.map_cons, List.map_cons, alikeAll, h.al, alk_all h l m]
    rfl
theorem alkL {D : Dat R} (h : Alk D) : Alk (dtL D) := ⟨fun a b => by
  show alike (.list (a.map D.d)) (.list (b.map D.d)) = true
  rw [alike]
  exact alk_all h a b, .inr fun a => ⟨(fun z => by cases z), (fun xs z => by cases z)⟩⟩
theorem alkT2 {D : Dat R} {E : Dat S} (h : Alk D) (k : Alk E) : Alk (dtT2 D E) := ⟨fun a b => by
  show alike (.tuple [D.d a.1, E.d a.2]) (.tuple [D.d b.1, E.d b.2]) = true
  simp [alike, alikeAll, h.al, k.al], .inl fun a => ⟨_, _, rfl⟩⟩
theorem alkT3 {D : Dat R} {E : Dat S} {G : Dat T} (h : Alk D) (k : Alk E) (g : Alk G) : Alk (dtT3 D E G) := ⟨fun a b => by
  show alike (.tuple [D.d a.1, E.d a.2.1, G.d a.2.2]) (.tuple [D.d b.1, E.d b.2.1, G.d b.2.2]) = true
  simp [alike, alikeAll, h.al, k.al, g.al], .inl fun a => ⟨_, _, rfl⟩⟩
/-- in the order of the data -/
def srtD (d : α → PyData) (l : List α) : List α := l.mergeSort (dataLe false d)
theorem a2_srt {P : V → α → Prop} {d : α → PyData} {vs : List V} {l : List α} (h : A2 P vs l) : A2 P (srtV vs (l.map d)) (srtD d l) := by
  have hl := h.len
  unfold srtV srtD
  have e1 : vs.zip (l.map d) = (vs.zip l).map fun p => (p.1, d p.2) := by
    rw [List.zip_map_right]
    rfl
  have e2 : l = (vs.zip l).map (·.2) := (List.map_snd_zip (by omega)).symm
  have q1 : ((vs.zip l).map fun p => (p.1, d p.2)).mergeSort (dataLe false (·.2)) = ((vs.zip l).mergeSort (dataLe false fun p => d p.2)).map fun p => (p.1, d p.2) :=
    (List.map_mergeSort (f := fun p : V × α => (p.1, d p.2)) (r := dataLe false fun p : V × α => d p.2) (s := dataLe false (·.2)) fun a _ b _ => rfl).symm
  have q2 : ((vs.zip l).map (·.2)).mergeSort (dataLe false d) = ((vs.zip l).mergeSort (dataLe false fun p => d p.2)).map (·.2) :=
    (List.map_mergeSort (f := fun p : V × α => p.2) (r := dataLe false fun p : V × α => d p.2) (s := dataLe false d) fun a _ b _ => rfl).symm
  rw [e1, q1, List.map_map]
  have q3 : l.mergeSort (dataLe false d) = ((vs.zip l).mergeSort (dataLe false fun p => d p.2)).map (·.2) := by
    rw [← q2, ← e2]
  rw [q3]
  have mem : ∀ p ∈ (vs.zip l).mergeSort (dataLe false fun p => d p.2), P p.1 p.2 := fun p hp => by
    have hp := List.mem_mergeSort.mp hp
    obtain ⟨i, hi⟩ := List.getElem?_of_mem hp
    rw [List.getElem?_zip_eq_some] at hi
    obtain ⟨b, hb, r⟩ := h.get hi.1
    rw [hi.2] at hb
    cases hb
    exact r
  generalize (vs.zip l).mergeSort (dataLe false fun p => d p.2) = zs at mem ⊢
  clear q1 q2 q3 e1 e2 hl h
  induction zs with
  | nil => exact .nil
  | cons p r ih => exact .cons (mem p (List.mem_cons_self ..)) (ih fun q hq => mem q (List.mem_cons_of_mem _ hq))
variable {M : Mx} {F0 H0 F H : Hp} {ss : List Sa} {cs : List (Addr × Ca)} {σ : L2.St} {K : PySem.W.Frag} {Q : VK} {v : V} {l : List α}
theorem srtd_pre {D : Dat R} (A : Alk D) (s : Same F H) (r : LV R F H v l) (z : D.n ≤ 40) (q : ∀ vs, A2 (R.r F) vs (srtD D.d l) → ∀ p, H p = none → Q (.ref p) (upd H p (.lst vs))) : rSortA K [v] H Q := by
  obtain ⟨p, vs, rfl, hp, hv⟩ := r
  refine ⟨p, vs, l.map D.d, rfl, sq_l hp, dt_all D s hv, fun d hd d' hd' => ?_, ?_, fun d hd => ?_, q _ (a2_srt hv)⟩
  · obtain ⟨a, _, rfl⟩ := List.mem_map.mp hd
    obtain ⟨b, _, rfl⟩ := List.mem_map.mp hd'
    exact A.al a b
  · rcases A.ok with h | h
    · exact .inl fun d hd => by
        obtain ⟨a, _, rfl⟩ := List.mem_map.mp hd
        exact h a
    · exact .inr fun d hd => by
        obtain ⟨a, _, rfl⟩ := List.mem_map.mp hd
        exact h a
  · obtain ⟨a, _, rfl⟩ := List.mem_map.mp hd
    exact Nat.le_trans (D.dep a) z
theorem w_srtDF {D : Dat R} (h : Wst M F0 H0 ss cs σ F H) (r : LV R F H v l) (A : Alk D) (z : D.n ≤ 40) (q : ∀ v F' H', Same F F' → Wst M F0 H0 ss cs σ F' H' → (rL R).r F' v (srtD D.d l) → Q v H') : rSortA K [v] H Q := srtd_pre A h.fh r z fun _ hv => w_newF h hv q
theorem w_srtDC {D : Dat R} (h : Wst M F0 H0 ss cs σ F H) (r : LV R F H v l) (A : Alk D) (z : D.n ≤ 40) (q : ∀ p H', H0 p = none → Wst M F0 H0 ss ((p, cL R (srtD D.d l)) :: cs) σ F H' → Q (.ref p) H') : rSortA K [v] H Q := srtd_pre A h.fh r z fun _ hv => w_newC h hv q
/-- an order of tuples and lists of numbers, in plain words -/
theorem dataLe_nl : dataLe false (dtT2 dtN (dtL dtN)).d = fun p q => decide (p.1 < q.1 ∨ (p.1 = q.1 ∧ p.2 ≤ q.2)) := by
  have h : ∀ l : List Nat, l.map dtN.d = (l.map fun n : Nat => (n : Int)).map PyData.int := fun l => by rw [List.map_map]; rfl
  have lt : ∀ a b : List Nat, (a.map fun n : Nat => (n : Int)) < (b.map fun n : Nat => (n : Int)) ↔ a < b := by
    intro a
    induction a with
    | nil => intro b; cases b <;> simp
    | cons x r ih =>
      intro b
      cases b with
      | nil => simp
      | cons y s =>
        rw [List.map_cons, List.map_cons, List.cons_lt_cons_iff, List.cons_lt_cons_iff, ih, Int.ofNat_lt, Int.ofNat_inj]
  funext p q
  show (!dataLt (.tuple [.int (q.1 : Int), .list (q.2.map dtN.d)]) (.tuple [.int (p.1 : Int), .list (p.2.map dtN.d)])) = _
  have al : ∀ a b : List Nat, alike (.list (a.map dtN.d)) (.list (b.map dtN.d)) = true := fun a b => (alkL alkN).al a b
  have ev : PyData.eqv (.list (q.2.map dtN.d)) (.list (p.2.map dtN.d)) = decide (q.2 = p.2) := dt_eq (dtL dtN) q.2 p.2
  have dl : dataLt (.list (q.2.map dtN.d)) (.list (p.2.map dtN.d)) = decide (q.2 < p.2) := by
    rw [dataLt_list]
    show rowLt (q.2.map dtN.d) (p.2.map dtN.d) = _
    rw [h, h, dataLt_ints]
    exact decide_eq_decide.mpr (lt _ _)
  rw [dataLt_pair (by simp [alike]) (al _ _), ev, dl, dataLt_int]
  obtain ⟨a, l⟩ := p
  obtain ⟨b, m⟩ := q
  have key : (l ≤ m) ↔ ¬ (m < l) := List.not_lt.symm
  have e0 : PyData.eqv (.int (b : Int)) (.int (a : Int)) = decide (b = a) := by
    show ((b : Int) == (a : Int)) = _
    rw [Bool.eq_iff_iff, beq_iff_eq, decide_eq_true_eq, Int.ofNat_inj]
  have e1 : decide ((b : Int) < (a : Int)) = decide (b < a) := decide_eq_decide.mpr Int.ofNat_lt
  show (!if PyData.eqv (.int (b : Int)) (.int (a : Int)) = true then (if decide (m = l) = true then false else decide (m < l)) else decide ((b : Int) < (a : Int))) = decide (a < b ∨ (a = b ∧ l ≤ m))
  rw [e0, e1, Bool.eq_iff_iff]
  refine Iff.trans ?_ (decide_eq_true_eq (p := a < b ∨ (a = b ∧ l ≤ m)).symm.to_iff)
  by_cases h1 : b = a
  · rw [if_pos (decide_eq_true h1)]
    by_cases h2 : m = l
    · rw [if_pos (decide_eq_true h2), h1, h2]
      exact ⟨fun _ => .inr ⟨rfl, List.le_refl l⟩, fun _ => rfl⟩
    · rw [if_neg (by rw [decide_eq_true_eq]; exact h2), h1]
      rw [Bool.not_eq_true', decide_eq_false_iff_not]
      exact ⟨fun h => .inr ⟨rfl, key.mpr h⟩, fun h => by
        rcases h with h | h
        · omega
        · exact key.mp h.2⟩
  · rw [if_neg (by rw [decide_eq_true_eq]; exact h1), Bool.not_eq_true', decide_eq_false_iff_not]
    exact ⟨fun h => .inl (by omega), fun h => by
      rcases h with h | h
      · omega
      · omega⟩
end
/-! ### enumerate(list); a star in a display -/
def enumL {α : Type} (l : List α) : List (Nat × α) := (List.range l.length).zip l
theorem enumL_len {α : Type} (l : List α) : (enumL l).length = l.length := by unfold enumL; rw [List.length_zip, List.length_range, Nat.min_self]
theorem enumL_get {α : Type} {l : List α} {i : Nat} {a : α} (h : l[i]? = some a) : (enumL l)[i]? = some (i, a) := by
  have hi := (List.getElem?_eq_some_iff.mp h).1
  unfold enumL
  rw [List.getElem?_zip_eq_some]
  exact ⟨List.getElem?_range hi, h⟩
theorem k_enum {X : Cx} (K : PySem.W.Frag) {e : Expr} {ta : TA} {p pos tpos : Pos} {elts : List Expr} {kk : Nat} (hg : Gl X "enumerate") (hm : X.mg "enumerate" = none) (ha : PA X [e] ta) (hK : X.K = K := by rfl)
    (hs : starEach [e] X.env = [(false, eval e X.env)] := by rfl) : PI X (.Tuple elts kk tpos) (.Call (.Name "enumerate" p) [e] [] pos) (iEnum K ta) := by
  subst hK
  exact pi_enum hg hm ha hs
theorem k_star {X : Cx} (K : PySem.W.Frag) {e : Expr} {es : List Expr} {te : TE} {t : TA} {p : Pos} (he : PE X e te) (hr : PA X es t) (hK : X.K = K := by rfl) (hs : starEach (.Starred e p :: es) X.env = (true, eval e X.env) :: starEach es X.env := by rfl) : PA X (.Starred e p :: es) (StX.tStar K te t) := by
  subst hK
  exact StX.pa_star he hr hs
def Ze (K : PySem.W.Frag) (vs : List V) (H : Hp) (R : It → Hp → Prop) : Prop := ∃ a xs, vs = [.ref a] ∧ SqL K H a xs ∧ R (Ite K a) H
def StG (K : PySem.W.Frag) (y : V) (H : Hp) (R : List V → Prop) : Prop := ∃ a xs, y = .ref a ∧ (SqT K H a xs ∨ SqL K H a xs) ∧ R xs
section
variable {α : Type} {R : Rep α} {F H : Hp} {K : PySem.W.Frag} {σ : L2.St} {v : V} {xs : List α} {ta t : TA} {te : TE}
theorem x_enum {Rr : It → Hp → Prop} (h : ta σ H fun vs H1 => Ze K vs H1 Rr) : iEnum K ta σ H Rr := h
theorem x_star {Q : List V → Hp → Prop} (h : te σ H fun y H1 => StG K y H1 fun xs => t σ H1 fun vs H2 => Q (xs ++ vs) H2) : StX.tStar K te t σ H Q := h
theorem w_ze {Rr : It → Hp → Prop} (l1 : LV R F H v xs) (q : ∀ a, v = .ref a → Rr (Ite K a) H) : Ze K [v] H Rr := by
  obtain ⟨a, vs, rfl, hp, _⟩ := l1
  exact ⟨a, vs, rfl, sq_l hp, q a rfl⟩
theorem w_star {Rr : List V → Prop} (l1 : LV R F H v xs) (q : ∀ vs, A2 (R.r F) vs xs → Rr vs) : StG K v H Rr := by
  obtain ⟨a, vs, rfl, hp, hv⟩ := l1
  exact ⟨a, vs, rfl, .inr (sq_l hp), q vs hv⟩
theorem jok_e {a : Addr} (s : Same F H) (nt : NoT F) (l1 : LV R F H (.ref a) xs) : JOk (Ite K a) (rT2 rN R) (enumL xs) F H := by
  obtain ⟨p, vs, e, hp, hv⟩ := l1
  cases e
  have z1 := hv.len
  intro i
  rw [enumL_len]
  refine ⟨fun hi => ?_, fun hi => ⟨vs, sq_l hp, by omega⟩⟩
  have e1 : vs[i]? = some (vs[i]'(by omega)) := List.getElem?_eq_getElem (by omega)
  refine ⟨⟨vs, _, sq_l hp, e1⟩, fun x H'' y => ?_⟩
  obtain ⟨t, x', rfl, ht, rfl, f1⟩ := y
  have x0 : ∀ T, Ext ⟨[], T⟩ F H (upd F t (.tup [.int (i : Nat), x'])) (upd H t (.tup [.int (i : Nat), x'])) := fun T => ext_new (o := .tup [.int (i : Nat), x']) s nt ht
  have x1 := x0 []
  refine ⟨_, x0, fun a ha => ?_⟩
  obtain ⟨c, hc, r1⟩ := hv.get (f1 vs (sq_l hp))
  rw [enumL_get hc] at ha
  cases ha
  exact ⟨t, _, x', rfl, upd_same, rfl, R.mono x1.ff r1⟩
end
/-! ### what is new since the def began -/
section
variable {α β : Type} {R S : Rep α} {T : Rep β} {M : Mx} {F0 H0 F H H1 : Hp} {ss : List Sa} {cs : List (Addr × Ca)} {σ : L2.St} {v : V}
def rNw (H0 : Hp) (R : Rep α) : Rep α := ⟨fun F v a => R.r F v a ∧ ∃ p, v = .ref p ∧ H0 p = none, fun s h => ⟨R.mono s h.1, h.2⟩⟩
theorem wkI (F : Hp) (v : V) (a : α) (h : R.r F v a) : R.r F v a := h
theorem wkN (d : ∀ {a}, H1 a = none → H0 a = none) (k : ∀ F v a, R.r F v a → S.r F v a) (F : Hp) (v : V) (a : α) (h : (rNw H1 R).r F v a) : (rNw H0 S).r F v a := ⟨k F v a h.1, by
  obtain ⟨p, e, n⟩ := h.2
  exact ⟨p, e, d n⟩⟩
theorem wkL (k : ∀ F v a, R.r F v a → S.r F v a) (F : Hp) (v : V) (l : List α) (h : (rL R).r F v l) : (rL S).r F v l := by
  obtain ⟨p, vs, e, hp, hv⟩ := h
  exact ⟨p, vs, e, hp, hv.imp fun v a => k F v a⟩
theorem wkC {F' H' : Hp} {D : Addr} {l : List α} (k : ∀ F v a, R.r F v a → S.r F v a) (h : ∃ o, H' D = some o ∧ (cL R l).p F' o) : ∃ o, H' D = some o ∧ (cL S l).p F' o := by
  obtain ⟨o, e, vs, h1, h2⟩ := h
  exact ⟨o, e, vs, h1, h2.imp fun v a => k F' v a⟩
theorem rl_drop {l : List α} (h : (rL (rNw H0 R)).r F v l) : (rL R).r F v l := wkL (R := rNw H0 R) (S := R) (fun _ _ _ h => h.1) F v l h
/-- a new list of plain things may be changed again -/
theorem Wst.thaw {l : List α} {Q : VK} (h : Wst M F0 H0 ss cs σ F H) (fl : ∀ F F' v a, R.r F v a → R.r F' v a) (r : (rL R).r F v l) (nw : ∃ p, v = .ref p ∧ H0 p = none)
    (q : ∀ D F' H', Ext M F0 H0 F' H' → H0 D = none → F' D = none → (∃ o, H' D = some o ∧ (cL R l).p F' o) → Q (.ref D) H') (s0 : Same F0 H0 := by assumption) : Q v H := by
  obtain ⟨p, rfl, hn⟩ := nw
  obtain ⟨p', vs, e, hp, hv⟩ := r
  cases e
  exact q p F0 H ⟨Same.refl F0, h.ex.ff.trans h.ex.fh, h.ex.hh, fun a e _ => e, h.ex.dm, fun a ps e => h.ex.nt a ps (h.ex.ff _ _ e), h.ex.tb⟩ hn (s0.free hn) ⟨.lst vs, h.ex.fh _ _ hp, vs, rfl, hv.imp fun _ _ => fl F F0 _ _⟩
end
/-! ### an optional list as data -/
section
variable {α : Type} {R : Rep α} {H : Hp} {v : V} {l : List α}
def dtOL (D : Dat R) : Dat (rO (rL R)) where
  d o := match o with | none => .none | some l => (dtL D).d l
  dp {K F H v a} s r := by
    cases a with
    | none => rw [show v = _ from r]; exact .non
    | some l => exact (dtL D).dp s (show (rL R).r F v l from r)
  inj a b := by
    cases a with
    | none =>
      cases b with
      | none => simp [PyData.eqv]
      | some l => simp [dtL, PyData.eqv]
    | some l =>
      cases b with
      | none => simp [dtL, PyData.eqv]
      | some m => rw [Option.some.injEq]; exact (dtL D).inj l m
  lay a := by
    cases a with
    | none => rfl
    | some l => exact (dtL D).lay l
  n := D.n + 1
  dep a := by
    cases a with
    | none => exact Nat.zero_le _
    | some l => exact (dtL D).dep l
theorem dv_oS {D : Dat R} (h : DV (dtL D) H v l) : DV (dtOL D) H v (some l) := h
end
section
variable {F H : Hp} {K : PySem.W.Frag} {Q : VK} {v : V}
theorem iv_flat (l : List Int) : (l.map V.int).all flatV = true := by
  rw [List.all_eq_true]
  intro x h
  obtain ⟨i, _, rfl⟩ := List.mem_map.mp h
  rfl
theorem iv_in (i : Int) (l : List Int) : inV (.int i) (l.map V.int) = decide (i ∈ l) := by
  unfold inV
  rw [List.any_map, Bool.eq_iff_iff, List.any_eq_true, decide_eq_true_eq]
  constructor
  · rintro ⟨a, ha, e⟩
    have e2 : a = i := by simpa [eqV] using e
    rw [← e2]; exact ha
  · intro h
    exact ⟨i, h, by simp [eqV]⟩
theorem w_inZ {i : Int} {l : List Int} (r : LV rZ F H v l) (q : Q (.bl (decide (i ∈ l))) H) : rIn K false (.int i) v H Q := by
  obtain ⟨p, vs, rfl, hp, hv⟩ := r
  rw [a2_iv hv] at hp
  refine x_in hp rfl (iv_flat l) ?_
  rw [iv_in]
  exact q
theorem w_ninZ {i : Int} {l : List Int} (r : LV rZ F H v l) (q : Q (.bl (!decide (i ∈ l))) H) : rIn K true (.int i) v H Q := by
  obtain ⟨p, vs, rfl, hp, hv⟩ := r
  rw [a2_iv hv] at hp
  refine x_nin hp rfl (iv_flat l) ?_
  rw [iv_in]
  exact q
end
theorem a2_sz {α : Type} {R : Rep α} {F : Hp} {vs : List V} {l : List α} {n : Nat} (h : A2 (R.r F) vs l) (z : l.length ≤ n) : vs.length ≤ n := by rw [h.len]; exact z
/-! ### data in order; data as numbers -/
section
open PySem.W
def leO (a b : PyData) : Option Bool := match a with
  | .none => none
  | a => if alike a b = true ∧ a.depth ≤ 60 then some (!dataLt b a) else none
def rLeA (K : PySem.W.Frag) : R2 := fun x y H Q => ∃ da db, Dp K H x da ∧ Dp K H y db ∧ alike da db = true ∧ da ≠ .none ∧ da.depth ≤ 60 ∧ Q (.bl (!dataLt db da)) H
theorem k_leA {X : Cx} (K : PySem.W.Frag) (hu : X.A.units + 64 < cLine) (hK : X.K = K := by rfl) : OpR X (compareOp .LtE) (rLeA K) := by
  subst hK
  intro pins s σ H x y v u Q I rx ry h
  obtain ⟨da, db, hx, hy, hal, hn, hd, q⟩ := h
  obtain ⟨as, ra⟩ := Dp.reads I da x v hx rx
  obtain ⟨bs, rb⟩ := Dp.reads I db y u hy ry
  exact rcLe_alike da db X.A s v u as bs ra rb hal hn (by have := Nat.min_le_left da.depth db.depth; omega) X.prog X.w _ _ ⟨.bl _, H, I, rfl, q⟩
def asNs : List PyData → Option (List Nat)
  | [] => some []
  | d :: r => (asN d).bind fun n => (asNs r).bind fun l => some (n :: l)
def asNL (d : PyData) : Option (List Nat) := (asL d).bind asNs
variable {F H : Hp} {v x : V} {d e : PyData} {K : PySem.W.Frag} {Q : VK}
theorem asNs_r : ∀ {ds : List PyData} {vs : List V} {l : List Nat}, A2 (rP.r F) vs ds → asNs ds = some l → A2 (rN.r F) vs l
  | [], _, _, h, e => by
    cases h
    cases e
    exact .nil
  | d :: r, _, l, h, e => by
    cases h with
    | cons h1 h2 =>
      unfold asNs at e
      cases q : asN d with
      | none => rw [q] at e; cases e
      | some n =>
        rw [q] at e
        cases q2 : asNs r with
        | none => rw [q2] at e; cases e
        | some m =>
          rw [q2] at e
          cases e
          exact .cons (asN_v h1 q) (asNs_r h2 q2)
theorem asNL_r {l : List Nat} (r : rP.r F v d) (h : asNL d = some l) : (rL rN).r F v l := by
  unfold asNL at h
  cases q : asL d with
  | none => rw [q] at h; cases h
  | some ds =>
    rw [q] at h
    obtain ⟨a, vs, e, h1, h2⟩ := asL_r r q
    exact ⟨a, vs, e, h1, asNs_r h2 h⟩
theorem w_leP {c : Bool} (s : Same F H) (r : rP.r F v d) (r2 : rP.r F x e) (h : leO d e = some c) (q : Q (.bl c) H) : rLeA K v x H Q := by
  unfold leO at h
  split at h
  · cases h
  · rename_i n
    split at h
    · rename_i g
      cases h
      exact ⟨d, e, dr_dp _ _ (dr_mono s _ _ r), dr_dp _ _ (dr_mono s _ _ r2), g.1, n, g.2, q⟩
    · cases h
end
/-! ### a lambda that is called on each item, the sort by its keys -/
section
open PySem.W LamX NdefX
/-- the object at f is a lambda -/
def LamO (f : Addr) (q : Str) (params : Arguments) (body : Expr) (scope : Scope) (c : Addr) : HO := .ext fun h => ∃ (pm ctv : Value), h.get? f = some (kla_obj "<lambda>" q params body scope [] pm c ctv)
theorem lamO_at {P : Program} {w : World} {H : Hp} {h : Heap} {f c : Addr} {q : Str} {params : Arguments} {body : Expr} {scope : Scope} (hok : HOk P w H h) (e : H f = some (LamO f q params body scope c)) : ∃ (pm ctv : Value), h.get? f = some (kla_obj "<lambda>" q params body scope [] pm c ctv) := by
  obtain ⟨z, _, _⟩ := hok f _ e
  exact z
theorem inv_lam {X : Cx} {pins : List (Addr × Obj)} {σ : L2.St} {H : Hp} {s : Shared} {q : Str} {params : Arguments} {body : Expr} {scope : Scope} {c : Addr} {pm ctv : Value} {t' : Nat} (I : Inv X pins σ H s) :
    Inv X pins σ (upd H s.heap.objs.size (LamO s.heap.objs.size q params body scope c)) { s with heap := s.heap.push (kla_obj "<lambda>" q params body scope [] pm c ctv), toks := t' } := by
  refine I.laid (a := s.heap.objs.size) (fun b u e => Heap.get?_push_of_some _ e) (Nat.le_refl _) ?_
  have e : (s.heap.push (kla_obj "<lambda>" q params body scope [] pm c ctv)).get? s.heap.objs.size = some (kla_obj "<lambda>" q params body scope [] pm c ctv) := Heap.get?_push_size _ rfl
  exact ⟨⟨pm, ctv, e⟩, ⟨_, e⟩, fun h1 h2 ⟨p, t, z⟩ st => ⟨p, t, st _ z⟩⟩
/-- the lambda is made -/
theorem lamT_make {X : Cx} {pins : List (Addr × Obj)} {σ : L2.St} {H : Hp} {s : Shared} {T : List (Addr × Str)} {c P : Addr} {params : Arguments} {body : Expr} {scope : Scope} {pos : Pos} {E : Value → Shared → Prop} {Q : Value → Shared → Prop} (I : Inv X pins σ H s) (TB : TabB X.base X.mg c P) (hcode : X.env.code = .ref c)
    (hm : (P, X.env.qual ++ "<lambda>") ∈ T) (hu : ∀ p ∈ T, p.1 = P → p.2 = X.env.qual ++ "<lambda>") (hT : Tabs T H) (hdef : defaultsOf params X.env = ([], [])) (hcl : closureFor scope X.env = pure [])
    (h : ∀ (f c' : Addr) (H1 : Hp) (s' : Shared), Inv X pins σ H1 s' → ExtN H H1 → (∀ b, H1 b = none → H b = none) → Tabs T H1 → H f = none → H1 f = some (LamO f (X.env.qual ++ "<lambda>") params body scope c') → H1 c' = some (CodeO c' (X.env.qual ++ "<lambda>")) → Q (.ref f) s') :
    wpAny (model X.prog X.w) X.A (eval (.Lambda params body scope pos) X.env) Q E s := by
  obtain ⟨ps, hP, ht, ha⟩ := hT _ hm
  refine kla_eval hdef ?_
  have bP : s.heap.BuiltinsAt X.mg P := TB.bm.keeps I.bk
  have hP' : s.heap.get? P = some { cls := .none, data := .fields ps } := I.hok P _ hP
  cases hc : codeAmong pos ps.toList with
  | none =>
    refine kla_makeFunction (mg := X.mg) (c := c) (P := P) (ps := ps) hcl I.ok.glob (I.mod.glob.keeps I.bk) hcode (TB.code.keeps I.bk) hP' ht hc TB.gP bP fun c' ctv h' tk hx hge hlt hrec htb => ?_
    obtain ⟨c2, oc, vs, t, e2, hoc, hd, hv⟩ := hrec
    cases e2
    have nC : H c' = none := I.hok.fresh hge
    have I1 := inv_table (t' := tk) (more := #[rawInt pos.line, rawInt pos.col, .ref c']) (h' := h') I hP (fun b o hb e => hx b o hb e) htb hge ⟨oc, vs, t, hoc, hd, hv⟩
    have hE : ExtN H (upd (upd H P (.tbl (ps ++ #[rawInt pos.line, rawInt pos.col, .ref c']))) c' (CodeO c' (X.env.qual ++ "<lambda>"))) := fun b o e n => by
      rw [upd_ne (ne_of_none e nC), upd_ne (fun z => n ps (Option.some.inj (e.symm.trans (by rw [z]; exact hP))))]
      exact e
    have eL : (ps ++ #[rawInt pos.line, rawInt pos.col, .ref c']).toList = ps.toList ++ [rawInt pos.line, rawInt pos.col, .ref c'] := by simp
    have T1 : Tabs T (upd (upd H P (.tbl (ps ++ #[rawInt pos.line, rawInt pos.col, .ref c']))) c' (CodeO c' (X.env.qual ++ "<lambda>"))) := fun p hp => by
      by_cases hb : p.1 = P
      · rw [hu p hp hb, hb]
        refine ⟨_, by rw [upd_ne (ne_of_none hP nC), upd_same], by rw [eL]; exact PySem.TriplesOk_snoc _ _ _ _ ht, fun p' cv hcv => ?_⟩
        rw [eL] at hcv
        rcases among_app _ ht hcv with z | z
        · obtain ⟨c0, e1, e2⟩ := ha p' cv z
          exact ⟨c0, e1, hE _ _ e2 codeO_ne⟩
        · exact ⟨c', z, upd_same⟩
      · obtain ⟨ps', a1, a2, a3⟩ := hT p hp
        refine ⟨ps', by rw [upd_ne (ne_of_none a1 nC), upd_ne hb]; exact a1, a2, fun p' cv hcv => ?_⟩
        obtain ⟨c0, e1, e2⟩ := a3 p' cv hcv
        exact ⟨c0, e1, hE _ _ e2 codeO_ne⟩
    have nF := I1.hok.fresh (Nat.le_refl _)
    have I2 := inv_lam (q := X.env.qual ++ "<lambda>") (params := params) (body := body) (scope := scope) (c := c') (pm := (X.mg "__name__").getD .none) (ctv := ctv) (t' := tk) I1
    refine h h'.objs.size c' _ _ I2 (fun b o e n => ?_) (fun b e => NdefX.upd_none (NdefX.upd_none (NdefX.upd_none e))) (T1.ext fun b o e => ?_) (I.hok.fresh (Nat.le_trans hge (Nat.le_of_lt hlt))) upd_same ?_
    · have e1 := hE b o e n
      exact (upd_ne (ne_of_none e1 nF)).trans e1
    · exact (upd_ne (ne_of_none e nF)).trans e
    · exact (upd_ne (Nat.ne_of_lt hlt)).trans upd_same
  | some cv =>
    obtain ⟨c', e, hco⟩ := ha pos cv hc
    subst e
    refine kla_makeFunctionHit (mg := X.mg) (c := c) (P := P) (ps := ps) hcl I.ok.glob (I.mod.glob.keeps I.bk) hcode (TB.code.keeps I.bk) hP' ht hc bP fun ctv h' tk hx hsz => ?_
    have I1 : Inv X pins σ H { s with heap := h', toks := tk } := I.kept hx
    have nF : H h'.objs.size = none := I1.hok.fresh (Nat.le_refl _)
    have I2 := inv_lam (q := X.env.qual ++ "<lambda>") (params := params) (body := body) (scope := scope) (c := c') (pm := (X.mg "__name__").getD .none) (ctv := ctv) (t' := tk) I1
    refine h h'.objs.size c' _ _ I2 (fun b o e n => ?_) (fun b e => NdefX.upd_none e) (hT.ext fun b o e => ?_) nF upd_same ?_
    · exact (upd_ne (ne_of_none e nF)).trans e
    · exact (upd_ne (ne_of_none e nF)).trans e
    · exact (upd_ne (ne_of_none hco nF)).trans hco
/-- the lambda at f is called -/
theorem lam_call {X : Cx} {pins : List (Addr × Obj)} {σ : L2.St} {H : Hp} {s : Shared} {k : Nat} {A : Around} {x : Str} {q : Str} {params : Arguments} {body : Expr} {scope : Scope} {f c' : Addr} {tb : TE} {v : V} {u : Value} {Q : VK} {E : Value → Shared → Prop} (I : Inv X pins σ H s)
    (e0 : Env0 X.prog X.w X.K X.mg X.base A X.stack s H) (hr : Room (k + 1) A) (S : NScope [x] [x] [] scope) (hbind : ∀ (pm cv ctv : Value) (u : Value), bindArgs (kla_fn "<lambda>" q params body scope [] pm cv ctv) ⟨[u], []⟩ = pure [(x, u)])
    (hbody : ∀ (A : Around) (outer : List Env) (s : Shared) (H : Hp), Room k (A.deeper (envF ⟨"<lambda>", q, params, [], scope, [], c'⟩ f s.heap.objs.size)) → PE (ncx C8.CX0 X.prog X.w X.K X.mg X.base [x] ⟨"<lambda>", q, params, [], scope, [], c'⟩ f A outer s H C8.E0) body tb)
    (hf : H f = some (LamO f q params body scope c')) (hc : H c' = some (CodeO c' q)) (rv : RelV v u) (h : tb [some v] H Q) :
    wpAny (model X.prog X.w) A (call (.ref f) [u]) (fun w s' => ∃ v' H', Inv X pins σ H' s' ∧ RelV v' w ∧ Q v' H' ∧ Un (frs X.stack) [] H H' s.heap s'.heap) E s := by
  have lim : s.heap.NoLimit := e0.mod.nolimit.keeps fun b o e => (e0.bs b o e).1
  obtain ⟨pm, ctv, ho⟩ := lamO_at e0.hok hf
  have r1 : Vals [v] [u] := .cons rv .nil
  have rc : codeAny (model X.prog X.w) A (.call (.ref f) ⟨[u], []⟩) (CR C8.CX0 X.stack X.prog X.w H s Q C8.E0) s := by
    refine kla_callFunE hr.depth ho rfl S.co S.gen rfl (codeO_at e0.hok hc) ?_
    rw [hbind]
    refine wpAny_pure (wpAny_newFunctionEnv S.nocell (fun ⟨n, _⟩ hy => S.par n (List.of_mem_zip (l₁ := [x]) (l₂ := [u]) hy).1) (fun h₁ hns hsb => ⟨lim.fresh _ hsb, ?_⟩) S.kind)
    show codeAny _ _ (.expr body (envF ⟨"<lambda>", q, params, [], scope, [], c'⟩ f s.heap.objs.size)) _ _
    have kp : ∀ b o, s.heap.get? b = some o → h₁.get? b = some o := fun b o e => hsb.extBut b o (Nat.ne_of_lt (Heap.lt_size e)) (Heap.get?_push_of_some _ e)
    have C : CellsAt [] [] [] s.heap H := ⟨rfl, fun y c e => (by cases e), fun y z c e => (by cases e), fun i y e => by simp at e⟩
    have J : Inv (ncx C8.CX0 X.prog X.w X.K X.mg X.base [x] ⟨"<lambda>", q, params, [], scope, [], c'⟩ f A X.stack s H C8.E0) [] (startF [x] [v] []) H { s with heap := h₁, toks := s.toks + ([x].zip [u]).length } := inv_startN S hr.hd e0 rfl r1 C hns kp
    refine kla_codeExpr (wpAny_mono ((hbody A X.stack s H (hr.deeper _)).run [] _ _ H Q J h) (fun w s' hq => ?_) fun e s' hq => hq)
    obtain ⟨v', H', J', rw', q'⟩ := hq
    exact ⟨v', H', J'.os, J'.bare, J'.base, J'.hok, rw', q'⟩
  refine wpAny_call (codeAny_mono rc fun r s' hq => ?_)
  cases r with
  | error e => exact (show False from hq).elim
  | ok fl =>
    cases fl with
    | ret w =>
      obtain ⟨v, H', os, bare, un, hok, r, q⟩ := hq
      obtain ⟨hh, g, d, t, os'⟩ := s'
      obtain rfl : os' = s.os := os
      exact ⟨v, H', I.call (h' := hh) (g' := g) (d' := d) (t' := t) (ch := []) un hok bare (fun b z => absurd z (by simp)), r, q, un⟩
    | next => exact False.elim hq
    | brk => exact False.elim hq
    | cont => exact False.elim hq
end
section
open PySem.W LamX NdefX PyProof.Rows
section
variable {prog : Program} {w : World} {A : Around} {E : Value → Shared → Prop} {s : Shared} {a kS : Addr} {vs : List Value} {keys : Array Value} {e e1 : Nat} {P : PySem.Fin → Shared → Prop}
theorem key_tailI {st : SortSt} {out : List Value} (nk : s.heap.get? kS = some (seqObj "list" keys e)) (na : s.heap.get? a = some (seqObj "list" #[] e1)) (hka : kS ≠ a)
    (hsz : keys.size ≤ sizeLine) (hz : out.length ≤ sizeLine) (hfl : failedOf st = none) (ho : (if false = true then ((arrOf st).map (·.2)).reverse else (arrOf st).map (·.2)) = out.toArray)
    (h : ∀ h' tk c, (∀ b o, b ∉ [kS, a] → s.heap.get? b = some o → h'.get? b = some o) → h'.get? a = some (seqObj "list" out.toArray c) → P (.done (.ret .none)) { s with heap := h', toks := tk }) :
    wpAny (model prog w) A (ksk_tail a false e1 (.ref kS) st) P E s := by
  have s1 := Heap.SameBut.update s.heap kS (Obj.mapSeq fun _ => (#[] : Array Value))
  have na1 : (s.heap.update kS (Obj.mapSeq fun _ => (#[] : Array Value))).get? a = some (seqObj "list" #[] e1) := (s1.2 a hka.symm).trans na
  have s2 := Heap.SameBut.update (s.heap.update kS (Obj.mapSeq fun _ => (#[] : Array Value))) a (Obj.mapSeq fun _ => out.toArray)
  obtain ⟨c2, hc2⟩ : ∃ c2, ((s.heap.update kS (Obj.mapSeq fun _ => (#[] : Array Value))).update a (Obj.mapSeq fun _ => out.toArray)).get? a = some (seqObj "list" out.toArray c2) :=
    ⟨_, get?_update_seq na1 fun _ => out.toArray⟩
  have hz2 : out.toArray.size ≤ sizeLine + 1 := by
    rw [List.size_toArray]
    exact Nat.le_succ_of_le hz
  unfold ksk_tail
  try dsimp only
  rw [ho]
  refine wpAny_bind (listUpdate_at nk rfl ?_ hsz (Nat.zero_le _))
  refine wpAny_bind (wpAny_letGo ?_)
  refine wpAny_bind (seqEpoch_at na1 rfl ?_)
  refine wpAny_bind (listUpdate_at na1 rfl ?_ (Nat.zero_le _) hz2)
  rw [hfl]
  simp only [bne_self_eq_false, Bool.false_eq_true, if_false]
  refine wpAny_pure (h _ _ c2 (fun b o hb e => ?_) hc2)
  have h1 : b ≠ kS := fun z => hb (by rw [z]; simp)
  have h2 : b ≠ a := fun z => hb (by rw [z]; simp)
  exact (s2.2 b h2).trans ((s1.2 b h1).trans e)
theorem key_endI {κ : PyProof.Rows.KeyKind} (nk : s.heap.get? kS = some (seqObj "list" keys e)) (na : s.heap.get? a = some (seqObj "list" #[] e1)) (hka : kS ≠ a)
    (S : SortsAt prog w A s κ keys.toList) (hsz : keys.size = vs.length) (hZ : vs.length ≤ sizeLine)
    (h : ∀ h' tk c, (∀ b o, b ∉ [kS, a] → s.heap.get? b = some o → h'.get? b = some o) → h'.get? a = some (seqObj "list" (sortVals κ false keys.toList vs).toArray c) → P (.done (.ret .none)) { s with heap := h', toks := tk }) :
    wpAny (model prog w) A (ksk_end a false vs.toArray e1 (.ref kS) keys) P E s := by
  obtain ⟨kd, h1, h2⟩ := S.kind
  have hkl : keys.toList.length = vs.length := by
    rw [Array.length_toList]
    exact hsz
  have hK : PyProof.Rows.KeysOf κ (keys.zip vs.toArray) := keysOf_zip S.keys
  have hol : (sortVals κ false keys.toList vs).length = vs.length := sortVals_length false hkl
  have hss : (if false = true then (keys.zip vs.toArray).reverse else keys.zip vs.toArray).size = vs.length := by
    show (keys.zip vs.toArray).size = _
    rw [Array.size_zip, hsz, List.size_toArray, Nat.min_self]
  have fin : ∀ st' : SortSt, (arrOf st').Perm (if false = true then (keys.zip vs.toArray).reverse else keys.zip vs.toArray) → SortedToK κ (arrOf st') (if false = true then (keys.zip vs.toArray).reverse else keys.zip vs.toArray).size →
      Stable κ (arrOf st') (if false = true then (keys.zip vs.toArray).reverse else keys.zip vs.toArray) → (if false = true then ((arrOf st').map (·.2)).reverse else (arrOf st').map (·.2)) = (sortVals κ false keys.toList vs).toArray := by
    intro st' hp hs ht
    have e := sort_out (rev := false) (keys := keys) (items := vs.toArray) (xs := arrOf st') (κ := κ) hK hp hs ht
    have e' := congrArg List.toArray e
    rw [Array.toArray_toList] at e'
    exact e'
  unfold ksk_end
  try dsimp only
  show wpAny (model prog w) A (if vs.toArray.size < 2 then _ else _ >>= _) P E s
  by_cases hl2 : vs.toArray.size < 2
  · rw [if_pos hl2, if_pos hl2]
    refine wpAny_bind (wpAny_pure ?_)
    rw [StateT.run_pure]
    refine wpAny_bind (wpAny_pure ?_)
    try dsimp only
    refine key_tailI (st := SortSt.mk' general' (if false = true then (keys.zip vs.toArray).reverse else keys.zip vs.toArray) #[] 7 none) nk na hka (by rw [hsz]; exact hZ) (by rw [hol]; exact hZ) rfl (fin _ (Array.Perm.refl _) ?_ (Stable.refl _)) h
    intro i j hij hj
    rw [hss] at hj
    rw [List.size_toArray] at hl2
    have : i = j := by omega
    subst this
    exact KeyOrd.kle_refl _
  · rw [if_neg hl2, if_neg hl2]
    rw [List.size_toArray] at hl2
    refine wpAny_bind (h2 (by omega) _ ?_)
    refine wpAny_bind (wpAny_mono (H.wpS_sortRunsSt (κ := κ) (kd := kd) (a₀ := if false = true then (keys.zip vs.toArray).reverse else keys.zip vs.toArray)
      (st := SortSt.mk' kd (if false = true then (keys.zip vs.toArray).reverse else keys.zip vs.toArray) #[] 7 none)
      (Q := fun _ st' => failedOf st' = none ∧ (if false = true then ((arrOf st').map (·.2)).reverse else (arrOf st').map (·.2)) = (sortVals κ false keys.toList vs).toArray)
      h1 hK ⟨Array.Perm.refl _, rfl, rfl⟩ rfl (Stable.refl _) (by rw [hss]; omega) fun st' a1 a2 a3 a4 => ⟨a2, fin st' a1 a3 a4⟩) ?_ fun _ _ e => e)
    rintro ⟨⟨⟩, st'⟩ s' ⟨rfl, hf, ho⟩
    try dsimp only at ho ⊢
    exact key_tailI nk na hka (by rw [hsz]; exact hZ) (by rw [hol]; exact hZ) hf ho h
end
theorem vals_snoc {xs : List V} {us : List Value} {v : V} {u : Value} (r : Vals xs us) (h : RelV v u) : Vals (xs ++ [v]) (us ++ [u]) := by
  induction r with
  | nil => exact .cons h .nil
  | cons r _ ih => exact .cons r ih
theorem dps_snoc {K : PySem.W.Frag} {H : Hp} {v : V} {d : PyData} (h : Dp K H v d) : ∀ {ds : List PyData} {xs : List V}, DpAll K H xs ds → DpAll K H (xs ++ [v]) (ds ++ [d])
  | [], _, q => by cases q; exact .cons h .nil
  | _ :: _, _, q => by
    cases q with
    | cons q1 q2 => exact .cons q1 (dps_snoc h q2)
theorem seqT {K : PySem.W.Frag} {H H' : Hp} {a : Addr} {xs : List V} (e : Same H H') (h : SqT K H a xs) : SqT K H' a xs := by
  rcases h with h | h
  · refine .inl ?_
    rcases h with h | ⟨o, h⟩
    · exact .inl (e _ _ h)
    · exact .inr ⟨o, e _ _ h⟩
  · exact .inr h
mutual
theorem dp_mono {K : PySem.W.Frag} {H H' : Hp} (s : Same H H') : ∀ (d : PyData) (v : V), Dp K H v d → Dp K H' v d
  | .none, _, h => by cases h; exact .non
  | .bool b, _, h => by cases h; exact .bl b
  | .int i, _, h => by cases h; exact .int i
  | .str x, _, h => by cases h; exact .str x
  | .list ds, _, h => by
    cases h with
    | lst h1 h2 => exact .lst (s.seq h1) (dps_mono s ds _ h2)
  | .tuple ds, _, h => by
    cases h with
    | tup h1 h2 => exact .tup (seqT s h1) (dps_mono s ds _ h2)
  | .dict _, _, h => by cases h
theorem dps_mono {K : PySem.W.Frag} {H H' : Hp} (s : Same H H') : ∀ (ds : List PyData) (vs : List V), DpAll K H vs ds → DpAll K H' vs ds
  | [], _, h => by cases h; exact .nil
  | d :: ds, _, h => by
    cases h with
    | cons h1 h2 => exact .cons (dp_mono s d _ h1) (dps_mono s ds _ h2)
end
/-- the keys, one by one; then the sort -/
theorem key_restI {X : Cx} {pins : List (Addr × Obj)} {σ : L2.St} {H1 : Hp} {s1 : Shared} {k : Nat} {A : Around} {x : Str} {q : Str} {params : Arguments} {body : Expr} {scope : Scope} {f c' : Addr} {tb : TE} {E : Value → Shared → Prop} {P : PySem.Fin → Shared → Prop}
    {a kS : Addr} {e1 : Nat} {xs : List V} {its : List Value} {ks : List PyData} (I1 : Inv X pins σ H1 s1) (e0 : ∀ {H : Hp} {s : Shared}, Inv X pins σ H s → Env0 X.prog X.w X.K X.mg X.base A X.stack s H) (hr : Room (k + 1) A) (S : NScope [x] [x] [] scope)
    (hbind : ∀ (pm cv ctv : Value) (u : Value), bindArgs (kla_fn "<lambda>" q params body scope [] pm cv ctv) ⟨[u], []⟩ = pure [(x, u)])
    (hbody : ∀ (A : Around) (outer : List Env) (s : Shared) (H : Hp), Room k (A.deeper (envF ⟨"<lambda>", q, params, [], scope, [], c'⟩ f s.heap.objs.size)) → PE (ncx C8.CX0 X.prog X.w X.K X.mg X.base [x] ⟨"<lambda>", q, params, [], scope, [], c'⟩ f A outer s H C8.E0) body tb)
    (hf : H1 f = some (LamO f q params body scope c')) (hc : H1 c' = some (CodeO c' q)) (rv : Vals xs its) (hl : xs.length = ks.length) (hZ : xs.length ≤ sizeLine)
    (nk : s1.heap.get? kS = some (seqObj "list" #[] 0)) (na : s1.heap.get? a = some (seqObj "list" #[] e1)) (hka : kS ≠ a) (fk : FpOk X pins H1 kS) (fa : FpOk X pins H1 a)
    (hkey : ∀ (j : Nat) (y : V) (d : PyData), xs[j]? = some y → ks[j]? = some d → ∀ H', Same H1 H' → tb [some y] H' fun v H'' => Same H' H'' ∧ Dp X.K H'' v d)
    (hal : AllAlike ks) (hsk : Sortable ks) (hdep : ∀ d ∈ ks, d.depth ≤ 40)
    (h : ∀ H' s', Inv X pins σ (upd H' a (.lst (srtV xs ks))) s' → Same H1 H' → H' a = none → P (.done (.ret .none)) s') :
    wpAny (model X.prog X.w) A (ksk_rest a (.ref f) false its.toArray e1 (.ref kS)) P E s1 := by
  have hlen := rv.length
  unfold ksk_rest
  refine wpAny_bind (wpAny_rule ?_)
  first
    | rw [List.forIn_toArray]
    | (rw [← Array.forIn_toList]; simp only [List.toList_toArray])
    | rw [← Array.forIn_toList]
  refine wpAny_bind (ksk_fold (fun i s' => ∃ H' kA e kv, Inv X pins σ H' s' ∧ Same H1 H' ∧ s'.heap.get? kS = some (seqObj "list" kA e) ∧ s'.heap.get? a = some (seqObj "list" #[] e1) ∧ FpOk X pins H' kS ∧ FpOk X pins H' a ∧ Vals kv kA.toList ∧ DpAll X.K H' kv (ks.take i)) its 0 s1
    ⟨H1, #[], 0, [], I1, Same.refl _, nk, na, fk, fa, .nil, by rw [List.take_zero]; exact .nil⟩ ?step ?done)
  case step =>
    rintro j u s' hx ⟨H', kA, e, kv, I', sm, nk', na', fk', fa', rk, dk⟩
    simp only [Nat.zero_add] at dk ⊢
    have hj : j < its.length := (List.getElem?_eq_some_iff.mp hx).1
    have ey : xs[j]? = some (xs[j]'(by omega)) := List.getElem?_eq_getElem (by omega)
    have ed : ks[j]? = some (ks[j]'(by omega)) := List.getElem?_eq_getElem (by omega)
    obtain ⟨u', hu', ru⟩ := rv.get ey
    rw [hx] at hu'
    cases hu'
    have hz : kA.size ≤ sizeLine := by
      have h1 := rk.length
      have h2 := dp_len dk
      have h3 : kA.toList.length = kA.size := Array.length_toList
      rw [List.length_take] at h2
      omega
    have hzj : kA.size < its.length := by
      have h1 := rk.length
      have h2 := dp_len dk
      have h3 : kA.toList.length = kA.size := Array.length_toList
      rw [List.length_take] at h2
      omega
    refine wpAny_bind (wpAny_attempt (wpAny_mono (lam_call (E := fun _ _ => False) I' (e0 I') hr S hbind hbody (sm _ _ hf) (sm _ _ hc) ru (hkey j _ _ ey ed H' sm)) (fun v s'' he => ?_) fun _ _ hF => hF.elim))
    obtain ⟨vk, H'', I'', rvk, ⟨sm2, dvk⟩, un⟩ := he
    try dsimp only
    have keep : ∀ b, FpOk X pins H' b → ∀ o, s'.heap.get? b = some o → s''.heap.get? b = some o ∧ FpOk X pins H'' b := fun b fb o eo => by
      obtain ⟨h0, h1, h2, h3⟩ := fb
      have nf : b ∉ frs X.stack := fun z => by
        rcases List.mem_cons.mp (I'.stkSub b z) with z | z
        · exact h1 z
        · exact h2 z
      exact ⟨un.keep b o eo h0 nf (by simp), un.free b o eo h0 (by simp), h1, h2, h3⟩
    obtain ⟨nk2, fk2⟩ := keep kS fk' _ nk'
    obtain ⟨na2, fa2⟩ := keep a fa' _ na'
    have s1 := Heap.SameBut.update s''.heap kS (Obj.mapSeq (·.push v))
    obtain ⟨c2, hc2⟩ : ∃ c2, (s''.heap.update kS (Obj.mapSeq (·.push v))).get? kS = some (seqObj "list" (kA.push v) c2) := ⟨_, get?_update_seq nk2 (·.push v)⟩
    have ek : ks.take (j + 1) = ks.take j ++ [ks[j]'(by omega)] := by rw [List.take_add_one, ed]; rfl
    have ea : (kA.push v).toList = kA.toList ++ [v] := by simp
    refine wpAny_bind (listUpdate_at nk2 rfl ?_ hz (Nat.le_trans (Nat.le_of_eq (Array.size_push ..)) (Nat.succ_le_succ hz)))
    refine wpAny_pure ⟨rfl, H'', kA.push v, c2, kv ++ [vk], I''.turnedL (ch := [kS]) (t' := s''.toks) (fun b o hb eb => ?_) (fun b hb => by rw [List.mem_singleton.mp hb]; exact fk2), sm.trans sm2, hc2, (s1.2 a hka.symm).trans na2, fk2, fa2, ?_, ?_⟩
    · exact (s1.2 b (fun z => hb (by rw [z]; simp))).trans eb
    · rw [ea]
      exact vals_snoc rk rvk
    · rw [ek]
      exact dps_snoc dvk (dps_mono sm2 _ _ dk)
  case done =>
    rintro s' ⟨H', kA, e, kv, I', sm, nk', na', fk', fa', rk, dk⟩
    have e3 : ks.take (0 + its.length) = ks := List.take_of_length_le (by omega)
    rw [e3] at dk
    have er := each_dp I' dk rk
    have hsz : kA.size = its.length := by
      have h1 := rk.length
      have h2 := dp_len dk
      have h3 : kA.toList.length = kA.size := Array.length_toList
      omega
    try dsimp only
    refine wpAny_bind (listItems_at nk' rfl ?_)
    have hun : ∀ d, d ∈ ks → A.units + d.depth < cLine := fun d hd => by
      have h1 := hdep d hd
      have h2 := hr.un
      omega
    refine key_endI (κ := dataKind s'.heap ks) nk' na' hka (SortsAt.data er hal hsk hun) hsz (by rw [← hlen]; exact hZ) fun h' tk c kp ha => ?_
    have I2 : Inv X pins σ H' { s' with heap := h', toks := tk } := I'.turnedL (ch := [kS, a]) (t' := tk) kp fun b hb => by
      rcases List.mem_cons.mp hb with rfl | hb
      · exact fk'
      · rw [List.mem_singleton.mp hb]; exact fa'
    have ro := srt_vals rv hl hal er
    exact h H' _ (I2.take (h' := h') (t' := tk) (o := .lst (srtV xs ks)) (fun _ _ _ e => e) fa' ⟨by rw [srtV_len hl]; exact hZ, _, c, ro, ha⟩) sm fa'.1
end
/-! ### sorted(xs, key=lambda x: ..) -/
section
open PySem.W LamX NdefX PyProof.Rows
def rSortLam (K : PySem.W.Frag) (q : Str) (params : Arguments) (body : Expr) (scope : Scope) (tb : TE) : List V → List V → Hp → VK → Prop := fun xs zs H Q => ∃ (a f c' : Addr) (vs : List V) (ks : List PyData), xs = [.ref a] ∧ zs = [.ref f] ∧ SqL K H a vs ∧ H f = some (LamO f q params body scope c') ∧ H c' = some (CodeO c' q) ∧ vs.length = ks.length ∧
  (∀ (j : Nat) (y : V) (d : PyData), vs[j]? = some y → ks[j]? = some d → ∀ H', Same H H' → tb [some y] H' fun v H'' => Same H' H'' ∧ Dp K H'' v d) ∧ AllAlike ks ∧ Sortable ks ∧ (∀ d ∈ ks, d.depth ≤ 40) ∧ ∀ H' p, Same H H' → H' p = none → Q (.ref p) (upd H' p (.lst (srtV vs ks)))
theorem cr_sortLam {X : Cx} {k : Nat} {x q : Str} {params : Arguments} {body : Expr} {scope : Scope} {tb : TE} (hr : Room (k + 3) X.A) (S : NScope [x] [x] [] scope)
    (hbind : ∀ (pm cv ctv : Value) (u : Value), bindArgs (kla_fn "<lambda>" q params body scope [] pm cv ctv) ⟨[u], []⟩ = pure [(x, u)])
    (hbody : ∀ (f c' : Addr) (A : Around) (outer : List Env) (s : Shared) (H : Hp), Room k (A.deeper (envF ⟨"<lambda>", q, params, [], scope, [], c'⟩ f s.heap.objs.size)) → PE (ncx C8.CX0 X.prog X.w X.K X.mg X.base [x] ⟨"<lambda>", q, params, [], scope, [], c'⟩ f A outer s H C8.E0) body tb) :
    CallRK X (.builtin "sorted") ["key"] (rSortLam X.K q params body scope tb) := by
  intro pins s σ H xs zs us ws Q I rx rz h
  obtain ⟨a, f, c', vs, ks, rfl, rfl, hs, hf, hc, hl, hkey, hal, hsk, hdep, hq⟩ := h
  obtain ⟨its, rv, pl, hz⟩ := I.list hs
  obtain rfl := Vals.ref1 rx
  obtain rfl := Vals.ref1 rz
  have hlen := rv.length
  show wpAny _ _ (call (.builtin "sorted") [.ref a] [(Str.ofString "key", .ref f)]) _ _ _
  refine sorted_of_sort pl.isList (by rw [← hlen]; exact hz) (ksk_s1 _ _) (fun x => ksk_l1 _ _) fun E' => ?_
  rw [ksk_t1]
  obtain ⟨n0, ho⟩ : ∃ n0, (copyHeap s.heap its).get? (s.heap.objs.size + 1) = some (seqObj "list" its.toArray n0) := ⟨_, copyHeap_at s.heap its⟩
  have ha : s.heap.objs.size + 1 < (copyHeap s.heap its).objs.size := Heap.lt_size ho
  have s1 := Heap.SameBut.update (copyHeap s.heap its) (s.heap.objs.size + 1) (Obj.mapSeq fun _ => (#[] : Array Value))
  obtain ⟨e1, ho1⟩ : ∃ e1, ((copyHeap s.heap its).update (s.heap.objs.size + 1) (Obj.mapSeq fun _ => (#[] : Array Value))).get? (s.heap.objs.size + 1) = some (seqObj "list" #[] e1) := ⟨_, get?_update_seq ho fun _ => #[]⟩
  have hkS : (((copyHeap s.heap its).update (s.heap.objs.size + 1) (Obj.mapSeq fun _ => (#[] : Array Value))).push (seqObj "tuple" its.toArray 0)).objs.size = (copyHeap s.heap its).objs.size + 1 := by rw [size_push', Heap.size_update]
  have q1 : s.heap.objs.size + 1 < (((copyHeap s.heap its).update (s.heap.objs.size + 1) (Obj.mapSeq fun _ => (#[] : Array Value))).push (seqObj "tuple" its.toArray 0)).objs.size := by rw [hkS]; exact Nat.lt_succ_of_lt ha
  have q2 := Nat.le_of_lt (Nat.lt_of_succ_lt q1)
  have hn : ∀ b, s.heap.objs.size ≤ b → H b = none := fun b hb => I.hok.fresh hb
  have old : ∀ b o, s.heap.get? b = some o → ((((copyHeap s.heap its).update (s.heap.objs.size + 1) (Obj.mapSeq fun _ => (#[] : Array Value))).push (seqObj "tuple" its.toArray 0)).push (seqObj "list" #[] 0)).get? b = some o := fun b o e => by
    have lt := Heap.lt_size e
    exact Heap.get?_push_of_some _ (Heap.get?_push_of_some _ ((s1.2 b (Nat.ne_of_lt (Nat.lt_succ_of_lt lt))).trans (copyHeap_old e)))
  unfold ksk_tree
  refine wpAny_bind (listItems_at ho rfl ?_)
  refine wpAny_bind (listUpdate_at ho rfl ?_ (by rw [List.size_toArray, ← hlen]; exact hz) (Nat.zero_le _))
  refine wpAny_bind (seqEpoch_at ho1 rfl ?_)
  refine wpAny_bind (wpAny_newTuple ?_ (by show its.length ≤ _; rw [← hlen]; exact hz))
  refine wpAny_bind (wpAny_newList ?_ (Nat.zero_le _))
  refine wpAny_holding ?_
  refine key_restI (X := X) (pins := pins) (σ := σ) (H1 := H) (xs := vs) (ks := ks) (kS := (((copyHeap s.heap its).update (s.heap.objs.size + 1) (Obj.mapSeq fun _ => (#[] : Array Value))).push (seqObj "tuple" its.toArray 0)).objs.size) (c' := c') (I.kept (t' := s.toks) old) (fun {H s} I => (I.env0).in1.in1) (hr.in1.in1) S hbind (hbody f c') hf hc rv hl hz
    (Heap.get?_push_size _ rfl) (Heap.get?_push_of_some _ (Heap.get?_push_of_some _ ho1)) (Nat.ne_of_gt q1) (I.fpOk q2 (hn _ q2)) (I.fpOk (Nat.le_succ _) (hn _ (Nat.le_succ _))) hkey hal hsk hdep
    fun H' s' I' sm hn' => ⟨rfl, .ref (s.heap.objs.size + 1), _, I', rfl, hq H' _ sm hn'⟩
/-- a lambda as a value -/
def tLam (T : List (Addr × Str)) (q : Str) (params : Arguments) (body : Expr) (scope : Scope) : TE := fun _ H Q => Tabs T H ∧ ∀ (f c' : Addr) (H1 : Hp), ExtN H H1 → (∀ b, H1 b = none → H b = none) → Tabs T H1 → H f = none → H1 f = some (LamO f q params body scope c') → H1 c' = some (CodeO c' q) → Q (.ref f) H1
theorem pe_lam {X : Cx} {T : List (Addr × Str)} {c P : Addr} {params : Arguments} {body : Expr} {scope : Scope} {pos : Pos} {q : Str} (TB : TabB X.base X.mg c P) (hcode : X.env.code = .ref c) (hq : X.env.qual ++ "<lambda>" = q)
    (hm : (P, q) ∈ T) (hu : ∀ p ∈ T, p.1 = P → p.2 = q) (hdef : defaultsOf params X.env = ([], []) := by rfl) (hcl : closureFor scope X.env = pure [] := by rfl) : PE X (.Lambda params body scope pos) (tLam T q params body scope) := by
  subst hq
  exact ⟨fun pins s σ H Q I h => lamT_make I TB hcode hm hu h.1 hdef hcl fun f c' H1 s' I1 e n t hf h1 h2 => ⟨.ref f, H1, I1, rfl, h.2 f c' H1 e n t hf h1 h2⟩⟩
end
section
open PySem.W LamX NdefX PyProof.Rows
theorem pe_sortLam {X : Cx} {k : Nat} {x q : Str} {params : Arguments} {body : Expr} {scope : Scope} {tb : TE} {T : List (Addr × Str)} {c P : Addr} {e : Expr} {es : List Expr} {t : TA} {p pos lpos kpos : Pos} (hr : Room (k + 3) X.A) (hg : Gl X "sorted") (hm : X.mg "sorted" = none) (hv : bootBuiltins "sorted" = some (.builtin "sorted")) (ha : PA X (e :: es) t)
    (TB : TabB X.base X.mg c P) (hcode : X.env.code = .ref c) (hq : X.env.qual ++ "<lambda>" = q) (hmem : (P, q) ∈ T) (hu : ∀ p ∈ T, p.1 = P → p.2 = q) (S : NScope [x] [x] [] scope)
    (hbind : ∀ (pm cv ctv : Value) (u : Value), bindArgs (kla_fn "<lambda>" q params body scope [] pm cv ctv) ⟨[u], []⟩ = pure [(x, u)])
    (hbody : ∀ (f c' : Addr) (A : Around) (outer : List Env) (s : Shared) (H : Hp), Room k (A.deeper (envF ⟨"<lambda>", q, params, [], scope, [], c'⟩ f s.heap.objs.size)) → PE (ncx C8.CX0 X.prog X.w X.K X.mg X.base [x] ⟨"<lambda>", q, params, [], scope, [], c'⟩ f A outer s H C8.E0) body tb)
    (hdef : defaultsOf params X.env = ([], []) := by rfl) (hcl : closureFor scope X.env = pure [] := by rfl)
    (he : backTo pos (starEach (e :: es) X.env) = (false, eval e X.env) :: backTo pos (starEach es X.env) := by rfl) (hpl : (backTo pos (starEach (e :: es) X.env)).any (·.1) = false := by rfl)
    (hall : (backToKw pos (keywordEach [⟨some "key", .Lambda params body scope lpos, kpos⟩] X.env)).all (·.1.isSome) = true := by rfl) (hnone : (backToKw pos (keywordEach [⟨some "key", .Lambda params body scope lpos, kpos⟩] X.env)).any (·.1.isNone) = false := by rfl) (hks : (backToKw pos (keywordEach [⟨some "key", .Lambda params body scope lpos, kpos⟩] X.env)).filterMap (·.1) = [Str.ofString "key"] := by rfl) :
    PE X (.Call (.Name "sorted" p) (e :: es) [⟨some "key", .Lambda params body scope lpos, kpos⟩] pos) (tCKw (rSortLam X.K q params body scope tb) t (tCons (tLam T q params body scope) tNil)) :=
  pe_callBK (cr_sortLam hr S hbind hbody) hg hm hv ha (pk_cons (pe_lam TB hcode hq hmem hu hdef hcl) pk_nil) (he := he) (hpl := hpl) (hall := hall) (hnone := hnone) (hks := hks)
end
section
variable {P : Program} {w : World} {K : PySem.W.Frag} {mg : Str → Option Value} {base : Heap}
/-- a def whose code object is known -/
structure DefAtC (K : PySem.W.Frag) (mg : Str → Option Value) (x : Str) (st : Stmt) (ps : List Str) (c : Addr) : Prop where
  ex : ∃ (f : Addr) (oc : Value) (od : Option Addr) (kV doc pm : Value) (an : Option Addr) (ct : Value) (osl : Array (Option Value)),
    K.lookup f = some ⟨oc, od, .func (PySem.W.fnOf x x (defArgs st) (defBody st) (defScope st) .none kV doc pm an (.ref c) ct), osl⟩ ∧ PySem.W.codeIn K (.ref c) x = true ∧ PySem.W.keepIn K (.ref f) = true ∧ mg x = some (.ref f) ∧ Binds K (PySem.W.fnOf x x (defArgs st) (defBody st) (defScope st) .none kV doc pm an (.ref c) ct) ps []
theorem DefAtC.cal {x : Str} {st : Stmt} {N ps : List Str} {k : Nat} {sp : Sp} {c : Addr} (F : DefAtC K mg x st ps c) (S : FnScope N ps (defScope st)) (len : ∀ vs H Q E, sp vs H Q E → vs.length = ps.length)
    (hbody : ∀ (f : Addr) (A : Around) (outer : List Env) (s : Shared) (H : Hp) (vs : List V) (Q : VK) (E : XK), Room k (A.deeper (envOfC x (defScope st) s.heap.objs.size f (.ref c))) → sp vs H Q E →
      ∃ t, PSs (cxOf CX0 P w K mg base N x (defScope st) f (.ref c) A outer s H E).nox (defBody st) t ∧ t { nx := fun _ H' => Q .non H', rt := Q } (start N vs) H) : Cal P w K mg base CX0 (k + 1) x sp := by
  obtain ⟨f, oc, od, kV, doc, pm, an, ct, osl, lk, hcd, kp, m, b⟩ := F.ex
  refine ⟨f, _, ps, ?_, m, kp, b⟩
  refine fn_of lk hcd S len fun A outer s H vs Q E hr hsp => ?_
  obtain ⟨t, h, q⟩ := hbody f A outer s H vs Q E hr hsp
  exact ⟨t, h.nox, q⟩
end
section
open PySem.W LamX NdefX
variable {α : Type} {R : Rep α} {MA : List Addr} {TL : List (Addr × Str)} {F0 H0 F H : Hp} {ss : List Sa} {cs : List (Addr × Ca)} {σ : L2.St} {K : PySem.W.Frag} {Q : VK} {v : V} {l : List α} {q : Str} {params : Arguments} {body : Expr} {scope : Scope} {tb : TE}
theorem x_ckw {r : List V → List V → Hp → VK → Prop} {t tk : TA} (h : t σ H fun vs H1 => tk σ H1 fun zs H2 => r vs zs H2 Q) : tCKw r t tk σ H Q := h
theorem ext_lam {H1 : Hp} (s : Same F H) (nt : NoT F) (e : ExtN H H1) (n : ∀ b, H1 b = none → H b = none) (t : LamX.Tabs TL H1) : Ext ⟨[], TL⟩ F H F H1 :=
  ⟨Same.refl F, fun a o h => e a o (s a o h) fun ps z => nt a ps (by rw [← z]; exact h), fun a o _ h z => e a o h z, fun a h _ => h, fun a h z => h (n a z), nt, fun _ => t⟩
theorem w_srtLamX (h : Wst ⟨MA, TL⟩ F0 H0 ss cs σ F H) (t0 : LamX.Tabs TL H0) (r : LV R F H v l) (d : α → PyData) (hal : ∀ a b, alike (d a) (d b) = true) (hok : (∀ a, ∃ x r, d a = .tuple (x :: r)) ∨ ∀ a, d a ≠ .none ∧ ∀ xs, d a ≠ .tuple xs) (hdep : ∀ a, (d a).depth ≤ 40)
    (hkey : ∀ (F' H' : Hp) (y : V) (a : α), Same F' H' → R.r F' y a → tb [some y] H' fun w H'' => Same H' H'' ∧ Dp K H'' w (d a))
    (q' : ∀ F' H' vs, Same F F' → Wst ⟨MA, TL⟩ F0 H0 ss cs σ F' H' → A2 (R.r F') vs (srtD d l) → ∀ p, H' p = none → Q (.ref p) (upd H' p (.lst vs))) :
    tCons (tLam TL q params body scope) tNil σ H fun zs H2 => rSortLam K q params body scope tb [v] zs H2 Q := by
  obtain ⟨a, vs, rfl, ha, hv⟩ := r
  refine ⟨h.tb t0, fun f c' H1 e n t hf h1 h2 => ?_⟩
  have x1 := ext_lam (TL := TL) h.fh h.nt e n t
  have w1 := h.grow x1
  have ha1 : H1 a = some (.lst vs) := e a _ ha (by intro ps z; cases z)
  refine ⟨a, f, c', vs, l.map d, rfl, rfl, sq_l ha1, h1, h2, by rw [List.length_map]; exact hv.len, fun j y dd hy hd H' sm => ?_, fun x hx y hy => ?_, ?_, fun x hx => ?_, fun H' p sm hp => ?_⟩
  · obtain ⟨b, hb, rb⟩ := hv.get hy
    rw [List.getElem?_map, hb] at hd
    cases hd
    exact hkey F H' y b (w1.fh.trans sm) rb
  · obtain ⟨a1, _, rfl⟩ := List.mem_map.mp hx
    obtain ⟨b1, _, rfl⟩ := List.mem_map.mp hy
    exact hal a1 b1
  · rcases hok with z | z
    · exact .inl fun x hx => by
        obtain ⟨a1, _, rfl⟩ := List.mem_map.mp hx
        exact z a1
    · exact .inr fun x hx => by
        obtain ⟨a1, _, rfl⟩ := List.mem_map.mp hx
        exact z a1
  · obtain ⟨a1, _, rfl⟩ := List.mem_map.mp hx
    exact hdep a1
  · have x2 := ext_gw (T := TL) w1.fh w1.nt sm
    exact q' _ H' _ x2.ff (w1.grow x2) (a2_srt (hv.imp fun _ _ => R.mono x2.ff)) p hp
theorem w_srtLamF (h : Wst ⟨MA, TL⟩ F0 H0 ss cs σ F H) (t0 : LamX.Tabs TL H0) (r : LV R F H v l) (d : α → PyData) (hal : ∀ a b, alike (d a) (d b) = true) (hok : (∀ a, ∃ x r, d a = .tuple (x :: r)) ∨ ∀ a, d a ≠ .none ∧ ∀ xs, d a ≠ .tuple xs) (hdep : ∀ a, (d a).depth ≤ 40)
    (hkey : ∀ (F' H' : Hp) (y : V) (a : α), Same F' H' → R.r F' y a → tb [some y] H' fun w H'' => Same H' H'' ∧ Dp K H'' w (d a))
    (q' : ∀ v' F' H', Same F F' → Wst ⟨MA, TL⟩ F0 H0 ss cs σ F' H' → (rL R).r F' v' (srtD d l) → Q v' H') : tCons (tLam TL q params body scope) tNil σ H fun zs H2 => rSortLam K q params body scope tb [v] zs H2 Q :=
  w_srtLamX h t0 r d hal hok hdep hkey fun F' H' vs s h' a => w_newF h' a fun v' F2 H2 s2 => q' v' F2 H2 (s.trans s2)
theorem w_srtLamC (h : Wst ⟨MA, TL⟩ F0 H0 ss cs σ F H) (t0 : LamX.Tabs TL H0) (r : LV R F H v l) (d : α → PyData) (hal : ∀ a b, alike (d a) (d b) = true) (hok : (∀ a, ∃ x r, d a = .tuple (x :: r)) ∨ ∀ a, d a ≠ .none ∧ ∀ xs, d a ≠ .tuple xs) (hdep : ∀ a, (d a).depth ≤ 40)
    (hkey : ∀ (F' H' : Hp) (y : V) (a : α), Same F' H' → R.r F' y a → tb [some y] H' fun w H'' => Same H' H'' ∧ Dp K H'' w (d a))
    (q' : ∀ p F' H', H0 p = none → Same F F' → Wst ⟨MA, TL⟩ F0 H0 ss ((p, cL R (srtD d l)) :: cs) σ F' H' → Q (.ref p) H') : tCons (tLam TL q params body scope) tNil σ H fun zs H2 => rSortLam K q params body scope tb [v] zs H2 Q :=
  w_srtLamX h t0 r d hal hok hdep hkey fun F' H' vs s h' a => w_newC h' a fun p H2 o h2 => q' p F' H2 o s h2
/-! the keys (len(row), row) and (-len(row), row) -/
def keyLen {S : Rep α} (D : Dat S) (row : List α) : PyData := (dtT2 dtN (dtL D)).d (row.length, row)
def keyNeg {S : Rep α} (D : Dat S) (row : List α) : PyData := (dtT2 dtZ (dtL D)).d (-(row.length : Int), row)
theorem key_len {S : Rep α} (D : Dat S) (F' H' : Hp) (y : V) (row : List α) (s : Same F' H') (r : (rL S).r F' y row) : tTup (tCons (tCB (rLen K) (tCons (tVar 0) tNil)) (tCons (tVar 0) tNil)) [some y] H' fun w H'' => Same H' H'' ∧ Dp K H'' w (keyLen D row) := by
  have hd : Dp K H' y ((dtL D).d row) := (dtL D).dp s r
  obtain ⟨a, vs, rfl, ha, hv⟩ := r
  refine x_cons (x_cb (x_cons (x_var rfl (x_nil (x_len (s _ _ ha) (x_cons (x_var rfl (x_nil ?_))))))))
  refine ⟨by show 2 ≤ sizeLine; decide, fun p hp => ⟨same_new hp, ?_⟩⟩
  exact .tup (sq_t upd_same) (.cons (by rw [hv.len]; exact .int _) (.cons (dp_mono (same_new hp) _ _ hd) .nil))
end
section
open PySem.W LamX NdefX
variable {α : Type} {K : PySem.W.Frag}
theorem key_neg {S : Rep α} (D : Dat S) (F' H' : Hp) (y : V) (row : List α) (s : Same F' H') (r : (rL S).r F' y row) : tTup (tCons (tUn (rU fun i => .int (-i)) (tCB (rLen K) (tCons (tVar 0) tNil))) (tCons (tVar 0) tNil)) [some y] H' fun w H'' => Same H' H'' ∧ Dp K H'' w (keyNeg D row) := by
  have hd : Dp K H' y ((dtL D).d row) := (dtL D).dp s r
  obtain ⟨a, vs, rfl, ha, hv⟩ := r
  refine x_cons (x_un (x_cb (x_cons (x_var rfl (x_nil (x_len (s _ _ ha) (x_U (x_cons (x_var rfl (x_nil ?_))))))))))
  refine ⟨by show 2 ≤ sizeLine; decide, fun p hp => ⟨same_new hp, ?_⟩⟩
  exact .tup (sq_t upd_same) (.cons (by rw [hv.len]; exact .int _) (.cons (dp_mono (same_new hp) _ _ hd) .nil))
end
theorem tabs_of_empty {TL : List (Addr × Str)} {H : Hp} (h : ∀ p ∈ TL, H p.1 = some (.tbl #[])) : LamX.Tabs TL H := fun p hp => ⟨#[], h p hp, trivial, fun pos cv hc => by cases hc⟩
/-! ### mirrors: tuples of any length, dicts whose keys are tuples of numbers, l[i] -= n -/
section
variable {α β : Type}
def rU (R : Rep α) : Rep (List α) := ⟨fun F v l => ∃ a vs, v = .ref a ∧ F a = some (.tup vs) ∧ A2 (R.r F) vs l, fun s ⟨a, vs, e, h, q⟩ => ⟨a, vs, e, s _ _ h, q.imp fun _ _ => R.mono s⟩⟩
def tk (l : List Nat) : List Key := l.map fun (n : Nat) => (Sum.inl (n : Int) : Key)
theorem tk_inj : ∀ {l m : List Nat}, tk l = tk m → l = m
  | [], [], _ => rfl
  | [], _ :: _, h => by cases h
  | _ :: _, [], h => by cases h
  | a :: l, b :: m, h => by
    have h1 := List.cons.inj h
    have := Sum.inl.inj h1.1
    rw [tk_inj (l := l) (m := m) h1.2, show a = b by omega]
theorem tk_kv (l : List Nat) : (tk l).map kV = nv l := by
  induction l with
  | nil => rfl
  | cons x r ih =>
    show V.int (x : Int) :: ((tk r).map kV) = _
    rw [ih]
    rfl
def KtR (B : Rep β) (F : Hp) (kv : List Key × V) (p : List Nat × β) : Prop := kv.1 = tk p.1 ∧ B.r F kv.2 p.2
def cDT (B : Rep β) (d : List (List Nat × β)) : Ca := ⟨fun F o => ∃ kvs, o = .dT kvs ∧ A2 (KtR B F) kvs d, fun s ⟨kvs, e, h⟩ => ⟨kvs, e, h.imp fun _ _ ⟨h1, h2⟩ => ⟨h1, B.mono s h2⟩⟩, fun ⟨kvs, e, _⟩ => by subst e; exact ⟨(fun _ z => by cases z), (fun _ z => by cases z)⟩⟩
def rDT (B : Rep β) : Rep (List (List Nat × β)) := ⟨fun F v d => ∃ a kvs, v = .ref a ∧ F a = some (.dT kvs) ∧ A2 (KtR B F) kvs d, fun s ⟨a, kvs, e, h, q⟩ => ⟨a, kvs, e, s _ _ h, q.imp fun _ _ ⟨h1, h2⟩ => ⟨h1, B.mono s h2⟩⟩⟩
def dputT (d : List (List Nat × β)) (k : List Nat) (v : β) : List (List Nat × β) := if (d.any fun p => decide (p.1 = k)) = true then d.map (fun p => if p.1 = k then (p.1, v) else p) else d ++ [(k, v)]
def dgetT : List (List Nat × β) → List Nat → Option β
  | [], _ => none
  | p :: d, k => if p.1 = k then some p.2 else dgetT d k
end
section
variable {M : Mx} {F0 H0 F H : Hp} {ss ss' : List Sa} {cs cs' : List (Addr × Ca)} {σ : St} {c : Addr} {k n : Nat} {α β : Type} {R : Rep α} {B : Rep β} {a : α} {b : β} {l l' : List α} {Q : VK} {K : PySem.W.Frag} {v x y : V} {d : List (List Nat × β)} {kl : List Nat} {P : Option V → Prop} {Pv : V → Prop}
theorem nn_U : NoN (rU R) := fun F v a r e => by
  obtain ⟨p, vs, rfl, _⟩ := r
  cases e
def rTupOf (K : PySem.W.Frag) : List V → Hp → VK → Prop := fun xs H Q => ∃ p ys, xs = [V.ref p] ∧ ((SqL K H p ys ∧ ∀ l, H l = none → Q (.ref l) (upd H l (.tup ys))) ∨ (SqT K H p ys ∧ Q (.ref p) H))
theorem cl_tupOf {X : Cx} (K : PySem.W.Frag) (hK : X.K = K := by rfl) : CallR X (.type "tuple") (rTupOf K) := by subst hK; exact call_tuple_of
theorem w_tupOf (h : Wst M F0 H0 ss cs σ F H) (r : LV R F H v l) (q : ∀ v F' H', Same F F' → Wst M F0 H0 ss cs σ F' H' → (rU R).r F' v l → Q v H') : rTupOf K [v] H Q := by
  obtain ⟨p, vs, rfl, hp, hv⟩ := r
  exact ⟨p, vs, rfl, .inl ⟨sq_l hp, fun t ht => by
    have e := ext_new (T := M.tl) (o := .tup vs) h.fh h.nt ht
    exact q _ _ _ e.ff (h.grow e) ⟨t, vs, rfl, upd_same, hv.imp fun _ _ => R.mono e.ff⟩⟩⟩
/-- a tuple that can be read -/
def UV (R : Rep α) (F H : Hp) (v : V) (l : List α) : Prop := ∃ a vs, v = .ref a ∧ H a = some (.tup vs) ∧ A2 (R.r F) vs l
theorem uv_f (s : Same F H) (r : (rU R).r F v l) : UV R F H v l := by
  obtain ⟨a, vs, e, h, q⟩ := r
  exact ⟨a, vs, e, s _ _ h, q⟩
theorem w_listUF (h : Wst M F0 H0 ss cs σ F H) (r : UV R F H v l) (q : ∀ v F' H', Same F F' → Wst M F0 H0 ss cs σ F' H' → (rL R).r F' v l → Q v H') : rListOf K [v] H Q := by
  obtain ⟨p, vs, rfl, hp, hv⟩ := r
  exact ⟨p, vs, rfl, .inr (sq_t hp), w_newF h hv q⟩
theorem w_listUC (h : Wst M F0 H0 ss cs σ F H) (r : UV R F H v l) (q : ∀ p H', H0 p = none → Wst M F0 H0 ss ((p, cL R l) :: cs) σ F H' → Q (.ref p) H') : rListOf K [v] H Q := by
  obtain ⟨p, vs, rfl, hp, hv⟩ := r
  exact ⟨p, vs, rfl, .inr (sq_t hp), w_newC h hv q⟩
theorem w_ixU (r : UV R F H v l) (e : l[n]? = some a) (q : ∀ x, R.r F x a → Q x H) : rIxT K v (.int (n : Int)) H Q := by
  obtain ⟨p, vs, rfl, hp, hv⟩ := r
  obtain ⟨x, hx, rx⟩ := hv.getB e
  exact x_ixT hp (atI_nat hx) (q x rx)
theorem w_lenU (r : UV R F H v l) (q : Q (.int (l.length : Int)) H) : rLen K [v] H Q := by
  obtain ⟨p, vs, rfl, hp, hv⟩ := r
  exact ⟨p, vs, rfl, .inr (sq_t hp), by rw [hv.len]; exact q⟩
/-- a dict that can be read -/
def DVT (B : Rep β) (F H : Hp) (v : V) (d : List (List Nat × β)) : Prop := ∃ a kvs, v = .ref a ∧ H a = some (.dT kvs) ∧ A2 (KtR B F) kvs d
theorem dwt_c (h : Wst M F0 H0 ss cs σ F H) (e : cs[k]? = some (c, cDT B d)) : DVT B F H (.ref c) d := by
  obtain ⟨o, h1, kvs, rfl, q⟩ := h.cell e
  exact ⟨c, kvs, rfl, h1, q⟩
theorem dwt_f (s : Same F H) (r : (rDT B).r F v d) : DVT B F H v d := by
  obtain ⟨a, kvs, e, h, q⟩ := r
  exact ⟨a, kvs, e, s _ _ h, q⟩
theorem dgetT_val {kvs : List (List Key × V)} (h : A2 (KtR B F) kvs d) (kl : List Nat) : (dgetT d kl = none ∧ valV kvs (tk kl) = none) ∨ ∃ b x, dgetT d kl = some b ∧ valV kvs (tk kl) = some x ∧ B.r F x b := by
  induction h with
  | nil => exact .inl ⟨rfl, rfl⟩
  | @cons kv p kvs d r _ ih =>
    obtain ⟨k0, v0⟩ := kv
    obtain ⟨m, b0⟩ := p
    obtain ⟨h1, h2⟩ := r
    simp only at h1 h2
    subst h1
    by_cases e : m = kl
    · subst e
      refine .inr ⟨b0, v0, ?_, ?_, h2⟩
      · unfold dgetT
        rw [if_pos rfl]
      · rw [valV_pos rfl]
    · have e1 : dgetT ((m, b0) :: d) kl = dgetT d kl := by
        conv => lhs; unfold dgetT
        rw [if_neg e]
      have e2 : valV ((tk m, v0) :: kvs) (tk kl) = valV kvs (tk kl) := valV_neg (fun z => e (tk_inj z))
      rw [e1, e2]
      exact ih
theorem u_key (s : Same F H) (r : (rU rN).r F y kl) : ∃ t, y = .ref t ∧ H t = some (.tup ((tk kl).map kV)) := by
  obtain ⟨t, vs, rfl, ht, hv⟩ := r
  rw [a2_nvN hv] at ht
  exact ⟨t, rfl, by rw [tk_kv]; exact s _ _ ht⟩
theorem w_dmemT (s : Same F H) (ry : (rU rN).r F y kl) (r : DVT B F H v d) (q : ∀ o : Option V, o.isSome = (dgetT d kl).isSome → P o) : ∃ a o, v = .ref a ∧ DGet H a y o ∧ P o := by
  obtain ⟨a, kvs, rfl, h, hv⟩ := r
  obtain ⟨t, rfl, ht⟩ := u_key s ry
  refine ⟨a, _, rfl, DGet.t h ht, q _ ?_⟩
  rcases dgetT_val hv kl with ⟨e1, e2⟩ | ⟨b, x, e1, e2, _⟩ <;> rw [e1, e2] <;> rfl
theorem w_dgetT (s : Same F H) (ry : (rU rN).r F y kl) (r : DVT B F H v d) (e : dgetT d kl = some b) (q : ∀ x, B.r F x b → Pv x) : ∃ a x, v = .ref a ∧ DGet H a y (some x) ∧ Pv x := by
  obtain ⟨a, kvs, rfl, h, hv⟩ := r
  obtain ⟨t, rfl, ht⟩ := u_key s ry
  rcases dgetT_val hv kl with ⟨e1, _⟩ | ⟨b', x, e1, e2, r⟩
  · rw [e] at e1; cases e1
  · rw [e] at e1
    cases e1
    refine ⟨a, x, rfl, ?_, q x r⟩
    rw [← e2]
    exact DGet.t h ht
theorem kt_any {kvs : List (List Key × V)} (h : A2 (KtR B F) kvs d) (kl : List Nat) : (kvs.any fun kv => decide (kv.1 = tk kl)) = d.any fun p => decide (p.1 = kl) := by
  induction h with
  | nil => rfl
  | @cons kv p kvs d r _ ih =>
    rw [List.any_cons, List.any_cons, ih, r.1, dec_cast (p := tk p.1 = tk kl) (q := p.1 = kl) ⟨tk_inj, fun z => by rw [z]⟩]
theorem putKt_rep {kvs : List (List Key × V)} (h : A2 (KtR B F) kvs d) (r : B.r F x b) : A2 (KtR B F) (putK kvs (tk kl) x) (dputT d kl b) := by
  unfold putK dputT
  rw [kt_any h]
  split
  · rename_i z
    clear z
    induction h with
    | nil => exact .nil
    | @cons kv p kvs d r0 _ ih =>
      rw [List.map_cons, List.map_cons]
      refine .cons ?_ ih
      by_cases e : p.1 = kl
      · rw [if_pos e, if_pos (by rw [r0.1, e])]
        exact ⟨r0.1, r⟩
      · rw [if_neg e, if_neg (by rw [r0.1]; exact fun z => e (tk_inj z))]
        exact r0
  · exact h.snoc ⟨rfl, r⟩
theorem w_dputT {P : Hp → Prop} (h : Wst M F0 H0 ss cs σ F H) (e : cs[k]? = some (c, cDT B d)) (ry : (rU rN).r F y kl) (z : d.length < 100000) (r : B.r F x b) (e2 : cs.set k (c, cDT B (dputT d kl b)) = cs') (q : ∀ H', Wst M F0 H0 ss cs' σ F H' → P H') : ∃ a H4, V.ref c = .ref a ∧ DPut H a y x H4 ∧ P H4 := by
  subst e2
  obtain ⟨o, h1, kvs, rfl, hv⟩ := h.cell e
  obtain ⟨t, rfl, ht⟩ := u_key h.fh ry
  exact ⟨c, _, rfl, DPut.t h1 ht (sz_lt (by rw [hv.len]; exact z)), q _ (h.mut e ⟨_, rfl, putKt_rep hv r⟩)⟩
theorem w_dnewT (h : Wst M F0 H0 ss cs σ F H) (q : ∀ p H', H0 p = none → Wst M F0 H0 ss ((p, cDT B []) :: cs) σ F H' → Q (.ref p) H') : tDNewT σ H Q := fun p hp => q p _ (h.own hp) (h.newC hp ⟨[], rfl, .nil⟩)
end
/-! l[i] -= n -/
def rGetN (K : PySem.W.Frag) : V → V → Hp → VK → Prop := fun x y H Q => ∃ (p : Addr) (xs : List V) (n : Nat) (z : V), x = .ref p ∧ y = .int (n : Int) ∧ SqL K H p xs ∧ xs[n]? = some z ∧ Q z H
theorem k_getN {X : Cx} (K : PySem.W.Frag) (hK : X.K = K := by rfl) : PGet X (rGetN K) := by
  subst hK
  intro pins s σ H x y v u Q I rx ry h
  obtain ⟨p, xs, n, z, rfl, rfl, hq, he, q⟩ := h
  cases rx
  obtain ⟨t, rfl⟩ := ry
  obtain ⟨its, r, pl, hz⟩ := I.list hq
  obtain ⟨w, ew, rw'⟩ := r.get he
  have hl := r.length
  have hn := line63
  have hlt : n < xs.length := (List.getElem?_eq_some_iff.mp he).1
  exact wpAny_getItem_list pl.isList (by omega) (by omega) (by rw [Int.toNat_natCast]; simpa using ew) ⟨z, H, I, rw', q⟩
section
variable {M : Mx} {F0 H0 F H : Hp} {ss : List Sa} {cs cs' : List (Addr × Ca)} {σ : St} {c : Addr} {k n : Nat} {α : Type} {R : Rep α} {a : α} {l : List α} {Q : VK} {K : PySem.W.Frag} {to ti te : TE} {tget : V → V → Hp → VK → Prop} {tip : TIp} {tset : TSet} {nx : St → Hp → Prop} {rt : VK} {bk ct : St → Hp → Prop}
theorem x_augS (h : to σ H fun o H1 => ti σ H1 fun i H2 => tget o i H2 fun x H3 => te σ H3 fun y H4 => tip x y H4 fun z H5 => tset o i z H5 fun H6 => nx σ H6) : tAugS to ti te tget tip tset ⟨nx, rt, bk, ct⟩ σ H := h
theorem w_getN (h : Wst M F0 H0 ss cs σ F H) (e : cs[k]? = some (c, cL R l)) (e1 : l[n]? = some a) (q : ∀ x, R.r F x a → Q x H) : rGetN K (.ref c) (.int (n : Int)) H Q := by
  obtain ⟨o, h1, vs, rfl, hv⟩ := h.cell e
  obtain ⟨x, hx, rx⟩ := hv.getB e1
  exact ⟨c, vs, n, x, rfl, rfl, sq_l h1, hx, q x rx⟩
end
/-! ### mirrors: == of instances by the text's own __eq__, isinstance of a class of one's own, `in` a list of strings, `<` of lists -/
def rEqO (C : Addr) (sp : Sp) (E : XK) : R2 := fun x y H Q => ∃ (a b dx dy : Addr) (fs gs : List (Str × V)), x = .ref a ∧ y = .ref b ∧ H a = some (.ins C dx fs) ∧ H b = some (.ins C dy gs) ∧ sp [.ref a, .ref b] H (fun v H' => ∃ c : Bool, v = .bl c ∧ Q (.bl c) H') E
theorem op_eqO {X : Cx} {CX : CXT} {k j : Nat} {C : Addr} {sp : Sp} {E : XK} (M : Met X.prog X.w X.K X.mg X.base CX k C "__eq__" sp) (hr : Room j X.A) (hk : k + 1 ≤ j) (hx : Passes CX X E) : OpR X (compareOp .Eq) (rEqO C sp E) := by
  intro pins s σ H x y v u Q I rx ry h
  obtain ⟨a, b, dx, dy, fs, gs, rfl, rfl, ha, hb', hsp⟩ := h
  cases rx
  cases ry
  obtain ⟨f, fd, ps, F, m1, m2, m3, bd⟩ := M.ex
  obtain ⟨mA, J, _⟩ := ins_get I.hok ha
  obtain ⟨mB, J', _⟩ := ins_get I.hok hb'
  obtain ⟨od, J, _⟩ := J.look
  obtain ⟨od', J', _⟩ := J'.look
  obtain ⟨mm, hF⟩ := I.fr
  show wpAny (model X.prog X.w) X.A (richCompare .Eq (.ref a) (.ref b)) (EP X pins σ Q) X.xe s
  refine PySem.W.cmp_K (op := .Eq) (tb := .ref C) hr.units0 hF I.ok.mod.kin J J'.type (by simp [PySem.W.notFirst]) m1 m2 ?_
  have hl := F.len _ _ _ _ hsp
  have r2 : Vals [V.ref a, V.ref b] [Value.ref a, Value.ref b] := .cons rfl (.cons rfl .nil)
  refine wpAny_call (codeAny_mono (F.run X.A X.stack s H ⟨[.ref a, .ref b], []⟩ [.ref a, .ref b] [.ref a, .ref b] _ E (hr.mono (by omega)) I.env0 (by
    have := bd s [.ref a, .ref b] I.kIn (by simpa using hl)
    simpa using this) r2 hsp) fun r s' hq => ?_)
  cases r with
  | error e => exact hx pins σ H s e s' I hq
  | ok fl =>
    cases fl with
    | ret w =>
      obtain ⟨z, H', I', rz, c, rfl, q⟩ := I.after hq
      cases rz
      exact ⟨.bl c, H', I', rfl, q⟩
    | next => exact False.elim hq
    | brk => exact False.elim hq
    | cont => exact False.elim hq
section
variable {F H : Hp} {C : Addr} {x y v : V} {w1 w2 : Wb} {sp : Sp} {E : XK} {Q : VK} {K : PySem.W.Frag}
theorem w_eqWb (s : Same F H) (r1 : (rWb C).r F x w1) (r2 : (rWb C).r F y w2) (q : ∀ a b, x = .ref a → y = .ref b → sp [.ref a, .ref b] H (fun v H' => ∃ c : Bool, v = .bl c ∧ Q (.bl c) H') E) : rEqO C sp E x y H Q := by
  obtain ⟨a, dx, d, rfl, h1, _⟩ := r1
  obtain ⟨b, dy, d', rfl, h2, _⟩ := r2
  exact ⟨a, b, dx, dy, _, _, rfl, rfl, s _ _ h1, s _ _ h2, q a b rfl rfl⟩
theorem w_isiWb (I : C8.InsC K C) (s : Same F H) (r : (rWb C).r F x w1) (q : Q (.bl true) H) : rIsi K [x, .ref C] H Q := by
  obtain ⟨a, dx, d, rfl, h1, _⟩ := r
  exact x_isi (.own C) (.base (.ins (s _ _ h1) I.cl I.ha I.hn I.htk I.hm)) I.me q
theorem a2_st {vs : List V} {l : List Str} (h : A2 (rSt.r F) vs l) : vs = l.map V.str := by
  induction h with
  | nil => rfl
  | cons r _ ih => rw [ih, show _ = _ from r]; rfl
theorem is_flat (l : List Str) : (l.map V.str).all flatV = true := by
  rw [List.all_eq_true]
  intro x h
  obtain ⟨i, _, rfl⟩ := List.mem_map.mp h
  rfl
theorem is_in (z : Str) (l : List Str) : inV (.str z) (l.map V.str) = decide (z ∈ l) := by
  unfold inV
  rw [List.any_map, Bool.eq_iff_iff, List.any_eq_true, decide_eq_true_eq]
  constructor
  · rintro ⟨a, ha, e⟩
    have e2 : a = z := by simpa [eqV] using e
    rw [← e2]; exact ha
  · intro h
    exact ⟨z, h, by simp [eqV]⟩
theorem w_inS {z : Str} {l : List Str} (r : LV rSt F H v l) (q : Q (.bl (decide (z ∈ l))) H) : rIn K false (.str z) v H Q := by
  obtain ⟨p, vs, rfl, hp, hv⟩ := r
  rw [a2_st hv] at hp
  refine x_in hp rfl (is_flat l) ?_
  rw [is_in]
  exact q
theorem w_ninS {z : Str} {l : List Str} (r : LV rSt F H v l) (q : Q (.bl (!decide (z ∈ l))) H) : rIn K true (.str z) v H Q := by
  obtain ⟨p, vs, rfl, hp, hv⟩ := r
  rw [a2_st hv] at hp
  refine x_nin hp rfl (is_flat l) ?_
  rw [is_in]
  exact q
end
section
open PySem.W
def rLtA (K : PySem.W.Frag) : R2 := fun x y H Q => ∃ da db, Dp K H x da ∧ Dp K H y db ∧ alike da db = true ∧ da ≠ .none ∧ da.depth ≤ 60 ∧ Q (.bl (dataLt da db)) H
theorem k_ltA {X : Cx} (K : PySem.W.Frag) (hu : X.A.units + 64 < cLine) (hK : X.K = K := by rfl) : OpR X (compareOp .Lt) (rLtA K) := by
  subst hK
  intro pins s σ H x y v u Q I rx ry h
  obtain ⟨da, db, hx, hy, hal, hn, hd, q⟩ := h
  obtain ⟨as, ra⟩ := Dp.reads I da x v hx rx
  obtain ⟨bs, rb⟩ := Dp.reads I db y u hy ry
  exact rcLt_alike da db X.A s v u as bs ra rb hal hn (by have := Nat.min_le_left da.depth db.depth; omega) X.prog X.w _ _ ⟨.bl _, H, I, rfl, q⟩
theorem lt_nats (a b : List Nat) : dataLt ((dtL dtN).d a) ((dtL dtN).d b) = decide (a < b) := by
  have h : ∀ l : List Nat, l.map dtN.d = (l.map fun n : Nat => (n : Int)).map PyData.int := fun l => by rw [List.map_map]; rfl
  have lt : ∀ a b : List Nat, (a.map fun n : Nat => (n : Int)) < (b.map fun n : Nat => (n : Int)) ↔ a < b := by
    intro a
    induction a with
    | nil => intro b; cases b <;> simp
    | cons x r ih =>
      intro b
      cases b with
      | nil => simp
      | cons y s =>
        rw [List.map_cons, List.map_cons, List.cons_lt_cons_iff, List.cons_lt_cons_iff, ih, Int.ofNat_lt, Int.ofNat_inj]
  show dataLt (.list (a.map dtN.d)) (.list (b.map dtN.d)) = _
  rw [dataLt_list]
  show rowLt (a.map dtN.d) (b.map dtN.d) = _
  rw [h, h, dataLt_ints]
  exact decide_eq_decide.mpr (lt _ _)
variable {F H : Hp} {x y : V} {Q : VK} {K : PySem.W.Frag} {a b : List Nat}
theorem w_ltL (s : Same F H) (r1 : LV rN F H x a) (r2 : LV rN F H y b) (q : Q (.bl (decide (a < b))) H) : rLtA K x y H Q := by
  have h1 : DV (dtL dtN) H x a := dv_l dtN s r1
  have h2 : DV (dtL dtN) H y b := dv_l dtN s r2
  refine ⟨(dtL dtN).d a, (dtL dtN).d b, h1 K, h2 K, (alkL alkN).al a b, (fun z => by cases z), Nat.le_trans ((dtL dtN).dep a) (by decide), ?_⟩
  rw [lt_nats]
  exact q
end
/-! ### two cells that are only looked at by a callee; an optional list that is not named at once -/
section
variable {M : Mx} {F0 H0 F H : Hp} {ss : List Sa} {cs : List (Addr × Ca)} {σ : L2.St} {c c2 : Addr} {k j : Nat} {α β : Type} {R : Rep α} {S : Rep β} {l : List α} {m : List β}
theorem borrow0 {vs : List V} (sF : Same F H) (nt : NoT F) (hc : H c = some (.lst vs)) (fc : F c = none) (hv : A2 (R.r F) vs l) : ∃ Fz, Same F Fz ∧ (Same Fz H ∧ NoT Fz) ∧ (rL R).r Fz (.ref c) l ∧ (∀ a, F a = none → a ≠ c → Fz a = none) ∧
    ∀ N F' H', Ext N Fz H F' H' → ∃ F2, Ext N F H F2 H' ∧ Same F2 F' ∧ ∀ a, F' a = none → F2 a = none := by
  have h : Wst ⟨[c], []⟩ F H [] [(c, cL R l)] [] F H := ⟨Ext.refl sF nt, .nil, fun p hp => by
    rw [List.mem_singleton.mp hp]
    exact ⟨⟨_, hc, vs, rfl, hv⟩, fc, .inl (List.mem_singleton.mpr rfl)⟩, List.nodup_cons.mpr ⟨(fun z => by cases z), List.nodup_nil⟩⟩
  exact h.borrow (k := 0) rfl
theorem Wst.borrow2 (h : Wst M F0 H0 ss cs σ F H) (e1 : cs[k]? = some (c, cL R l)) (e2 : cs[j]? = some (c2, cL S m)) (ne : k ≠ j) : ∃ Fz, Same F Fz ∧ (Same Fz H ∧ NoT Fz) ∧ (rL R).r Fz (.ref c) l ∧ (rL S).r Fz (.ref c2) m ∧
    ∀ N F' H', Ext N Fz H F' H' → ∃ F2, Ext N F H F2 H' ∧ Same F2 F' ∧ ∀ a, F' a = none → F2 a = none := by
  obtain ⟨Fz, s1, ⟨s2, n1⟩, r1, z1, back⟩ := h.borrow e1
  obtain ⟨o2, hc2, ws, rfl, hw⟩ := h.cell e2
  have f2 := h.apart e2
  have dif : c2 ≠ c := fun z => by
    have q1 : (cs.map (·.1))[k]? = some c := by rw [List.getElem?_map, e1]; rfl
    have q2 : (cs.map (·.1))[j]? = some c := by rw [List.getElem?_map, e2, z]; rfl
    exact ne (nd_ix h.nd q1 q2)
  obtain ⟨Fy, t1, ⟨t2, n2⟩, r2, _, back2⟩ := borrow0 (R := S) (l := m) s2 n1 hc2 (z1 c2 f2 dif) (hw.imp fun _ _ => S.mono s1)
  refine ⟨Fy, s1.trans t1, ⟨t2, n2⟩, (rL R).mono t1 r1, r2, fun N F' H' x => ?_⟩
  obtain ⟨F2, x2, s3, z2⟩ := back2 N F' H' x
  obtain ⟨F3, x3, s4, z3⟩ := back N F2 H' x2
  exact ⟨F3, x3, s4.trans s3, fun a q => z3 a (z2 a q)⟩
/-- an optional new list, taken as a value that stays -/
theorem optC_go {N : Mx} {rr : Option (List α)} {Q : VK} (q : ∀ v F' H', Ext N F H F' H' → (rO (rL R)).r F' v rr → Q v H') : OptC N F H R rr Q := by
  refine ⟨fun l e D F' H' x hD fD ⟨o, hd, vs, eo, hv⟩ => ?_, fun e F' H' x => q _ F' H' x (by rw [e]; rfl)⟩
  subst eo
  have sf : Same F' (upd F' D (.lst vs)) := same_new fD
  refine q (.ref D) (upd F' D (.lst vs)) H' ⟨x.ff.trans sf, fun b o e2 => ?_, x.hh, fun a h n => ?_, x.dm, x.nt.upd (fun _ z => by cases z), x.tb⟩ (by rw [e]; exact ⟨D, vs, rfl, upd_same, hv.imp fun _ _ => R.mono sf⟩)
  · by_cases z : b = D
    · rw [z, upd_same] at e2
      rw [z, ← e2]
      exact hd
    · rw [upd_ne z] at e2
      exact x.fh b o e2
  · rw [upd_ne (fun z => n (by rw [z]; exact hD))]
    exact x.ap a h n
end
theorem on_in {f : Option Nat → V} (h0 : f none = .non) (h1 : ∀ n : Nat, f (some n) = .int (n : Int)) (l : List (Option Nat)) : inV .non (l.map f) = memD none l := by
  unfold inV
  rw [List.any_map, Bool.eq_iff_iff, List.any_eq_true, memD_mem]
  constructor
  · rintro ⟨o, ho, e⟩
    cases o with
    | none => exact ho
    | some m =>
      have e : eqV (f (some m)) .non = true := e
      rw [h1] at e
      cases e
  · intro h
    refine ⟨none, h, ?_⟩
    show eqV (f none) .non = true
    rw [h0]
    rfl
section
variable {F H : Hp} {v : V} {Q : VK} {K : PySem.W.Frag} {l : List (Option Nat)}
theorem w_inNon (r : LV (rO rN) F H v l) (q : Q (.bl (memD none l)) H) : rIn K false .non v H Q := by
  obtain ⟨p, vs, rfl, hp, hv⟩ := r
  rw [a2_ov hv] at hp
  refine x_in hp rfl (ov_flat l) ?_
  rw [on_in rfl fun _ => rfl]
  exact q
theorem w_ninNon (r : LV (rO rN) F H v l) (q : Q (.bl (!memD none l)) H) : rIn K true .non v H Q := by
  obtain ⟨p, vs, rfl, hp, hv⟩ := r
  rw [a2_ov hv] at hp
  refine x_nin hp rfl (ov_flat l) ?_
  rw [on_in rfl fun _ => rfl]
  exact q
end
/-! ### mirrors: != of instances by the text's own __eq__ -/
structure NeC (K : PySem.W.Frag) (C : Addr) : Prop where
  no : PySem.W.findIn K (.ref C) "__ne__" = some (some (.builtin "object.__ne__"))
  ob : PySem.W.subIn K (.ref C) (.type "object") = some true
def rNeO (C : Addr) (sp : Sp) (E : XK) : R2 := fun x y H Q => ∃ (a b dx dy : Addr) (fs gs : List (Str × V)), x = .ref a ∧ y = .ref b ∧ H a = some (.ins C dx fs) ∧ H b = some (.ins C dy gs) ∧ sp [.ref a, .ref b] H (fun v H' => ∃ c : Bool, v = .bl c ∧ Q (.bl (!c)) H') E
section
open PySem
theorem ne_bind (self : Value) : bindSpecial (.builtin "object.__ne__") self = pure (.builtin "object.__ne__", [self]) :=
  F.cmp_object.ne.bind self
theorem cmp_KN {prog : Program} {w : World} {A : Around} {E : Value → Shared → Prop} {s : Shared} {K : PySem.W.Frag} {x C L f : Addr} {h₀ : Heap} {m : Str → Option Value} {ox : Obj} {od : Option Obj} {b tb : Value} {Q : Value → Shared → Prop} (hu : A.units + 1 < cLine) (F₀ : PyProof.Rows.Fr h₀ L s.heap m) (X₀ : K.In h₀) (I : PySem.W.InstAt s.heap x ox C od) (hb : PySem.W.Looks (model prog w) s.heap (typeOf b) tb) (hn : PySem.W.notFirst K C tb = true)
    (N : NeC K C) (hs : PySem.W.findIn K (.ref C) "__eq__" = some (some (.ref f))) (hf : PySem.W.isFn K (.ref f) = true)
    (h : wpAny (model prog w) A.in1 (call (.ref f) [.ref x, b]) (fun v s' => ∃ c : Bool, v = .bool c ∧ Q (.bool (!c)) s') E s) : wpAny (model prog w) A (richCompare .NotEq (.ref x) b) Q E s := by
  have X := X₀.keeps F₀.keep
  have hu0 : A.units < cLine := Nat.lt_of_succ_lt hu
  have hin : PySem.W.Looks (model prog w) s.heap (isInstance (.ref x) (.type "object")) true := I.type.andThen (PySem.W.looks_subIn X N.ob)
  have one : wpAny (model prog w) A (tryCompare (.ref x) "__ne__" b) (fun r s' => ∃ v, r = some v ∧ Q v s') E s := by
    unfold tryCompare
    have fin : wpAny (model prog w) A (call (.builtin "object.__ne__") ([.ref x] ++ [b]) >>= fun v => pure (some v)) (fun r s' => ∃ c : Bool, r = some (.bool c) ∧ Q (.bool c) s') E s := by
      refine wpAny_bind (wpAny_call (codeAny_call_builtin F.cmp_object.ne.plain F.cmpEntry_ne (PySem.W.check_slot F.cmpKind_ne F.cmpSplit_ne hin (F.cmpArgs_ne _ _) ?_)))
      show wpAny _ _ (Builtin.«object.__ne__» ⟨[.ref x, b], []⟩) _ _ s
      unfold Builtin.«object.__ne__»
      have q := PySem.W.ifBound_K (A := A.in1) (E := E) (args := [b]) (Q := fun r s' => ∃ c : Bool, r = some (.bool c) ∧ Q (.bool (!c)) s') X I hs hf (wpAny_mono h (fun v s' ⟨c, e, q⟩ => ⟨c, by rw [e], q⟩) fun _ _ e => e)
      repeat (first | with_reducible refine wpAny_cRoomFor hu ?_ | (refine wpAny_bind (wpAny_mono q ?_ fun _ _ e => e); rintro _ s' ⟨c, rfl, q'⟩) | wp_step)
      exact ⟨_, rfl, q'⟩
    refine wpAny_bind (wpAny_mono (Q := fun r s' => ∃ c : Bool, r = some (.bool c) ∧ Q (.bool c) s') ?_ (fun r s' z => ?_) fun _ _ e => e)
    · simp only [callSpecialIfBound?, bindSpecialIfBound?]
      refine wpAny_holding (wpAny_bind (wpAny_bind (wpAny_bind (I.type.here ((PySem.W.looks_findIn X N.no).here ?_)))))
      simp only [ne_bind]
      refine wpAny_bind (wpAny_askSetting (wpAny_ite ?_))
      split
      · exact wpAny_bind (wpAny_pure (wpAny_pure fin))
      · exact wpAny_tryCatch (wpAny_bind (wpAny_pure (wpAny_pure fin)))
    · obtain ⟨c, rfl, q⟩ := z
      exact wpAny_pure ⟨_, rfl, q⟩
  unfold richCompare
  simp only [oneThing_ref]
  refine wpAny_holding (wpAny_bind (wpAny_cRoomFor hu0 ?_))
  refine wpAny_bind (I.type.here (wpAny_bind (hb.here ?_)))
  split
  · rename_i q
    have e : PySem.W.subIn K tb (.ref C) = some false := by
      rcases Bool.or_eq_true_iff.mp hn with e | e
      · rw [beq_iff_eq.mp e] at q; simp at q
      · exact beq_iff_eq.mp e
    refine wpAny_bind ((PySem.W.looks_subIn X e).here ?_)
    simp only [Bool.false_eq_true, if_false]
    refine wpAny_bind (wpAny_mono one (fun r s' z => ?_) fun _ _ e => e)
    obtain ⟨v, rfl, hq⟩ := z
    exact wpAny_pure hq
  · refine wpAny_bind (wpAny_pure ?_)
    simp only [Bool.false_eq_true, if_false]
    refine wpAny_bind (wpAny_mono one (fun r s' z => ?_) fun _ _ e => e)
    obtain ⟨v, rfl, hq⟩ := z
    exact wpAny_pure hq
end
theorem op_neO {X : Cx} {CX : CXT} {k j : Nat} {C : Addr} {sp : Sp} {E : XK} (M : Met X.prog X.w X.K X.mg X.base CX k C "__eq__" sp) (N : NeC X.K C) (hr : Room (j + 1) X.A) (hk : k + 1 ≤ j) (hx : Passes CX X E) : OpR X (compareOp .NotEq) (rNeO C sp E) := by
  intro pins s σ H x y v u Q I rx ry h
  obtain ⟨a, b, dx, dy, fs, gs, rfl, rfl, ha, hb', hsp⟩ := h
  cases rx
  cases ry
  obtain ⟨f, fd, ps, F, m1, m2, m3, bd⟩ := M.ex
  obtain ⟨mA, J, _⟩ := ins_get I.hok ha
  obtain ⟨mB, J', _⟩ := ins_get I.hok hb'
  obtain ⟨od, J, _⟩ := J.look
  obtain ⟨od', J', _⟩ := J'.look
  obtain ⟨mm, hF⟩ := I.fr
  show wpAny (model X.prog X.w) X.A (richCompare .NotEq (.ref a) (.ref b)) (EP X pins σ Q) X.xe s
  refine cmp_KN (tb := .ref C) (by have := hr.un; omega) hF I.ok.mod.kin J J'.type (by simp [PySem.W.notFirst]) N m1 m2 ?_
  have hl := F.len _ _ _ _ hsp
  have r2 : Vals [V.ref a, V.ref b] [Value.ref a, Value.ref b] := .cons rfl (.cons rfl .nil)
  refine wpAny_call (codeAny_mono (F.run X.A.in1 X.stack s H ⟨[.ref a, .ref b], []⟩ [.ref a, .ref b] [.ref a, .ref b] _ E (hr.in1.mono (by omega)) (I.env0).in1 (by
    have := bd s [.ref a, .ref b] I.kIn (by simpa using hl)
    simpa using this) r2 hsp) fun r s' hq => ?_)
  cases r with
  | error e => exact hx pins σ H s e s' I hq
  | ok fl =>
    cases fl with
    | ret w =>
      obtain ⟨z, H', os, bare, un, hok, rz, c, rfl, q⟩ := hq
      cases rz
      obtain ⟨z2, H2, I2, rz2, q2⟩ := I.after (Q := Q) (u := .bool (!c)) (s' := s') ⟨.bl (!c), H', os, bare, un, hok, rfl, q⟩
      exact ⟨c, rfl, z2, H2, I2, rz2, q2⟩
    | next => exact False.elim hq
    | brk => exact False.elim hq
    | cont => exact False.elim hq
section
variable {F H : Hp} {C : Addr} {x y v : V} {w1 w2 : Wb} {sp : Sp} {E : XK} {Q : VK}
theorem w_neWb (s : Same F H) (r1 : (rWb C).r F x w1) (r2 : (rWb C).r F y w2) (q : ∀ a b, x = .ref a → y = .ref b → sp [.ref a, .ref b] H (fun v H' => ∃ c : Bool, v = .bl c ∧ Q (.bl (!c)) H') E) : rNeO C sp E x y H Q := by
  obtain ⟨a, dx, d, rfl, h1, _⟩ := r1
  obtain ⟨b, dy, d', rfl, h2, _⟩ := r2
  exact ⟨a, b, dx, dy, _, _, rfl, rfl, s _ _ h1, s _ _ h2, q a b rfl rfl⟩
end
section
variable {M : Mx} {F0 H0 F H : Hp} {ss : List Sa} {τ : Type} {σ : St} {ca : Bool} {U : τ} {mb : Option (Bool × τ)} {r : Bool × τ} {Q : VK} {ta tb : TE}
theorem w_andVS (cs : τ → List (Addr × Ca)) {cs' : List (Addr × Ca)} (h : Wst M F0 H0 ss cs' σ F H) (hm : (if ca = true then mb else some (false, U)) = some r) (h1 : ∀ Q' : VK, (∀ F' H', Same F F' → Wst M F0 H0 ss (cs U) σ F' H' → Q' (.bl ca) H') → ta σ H Q') (h2 : ∀ F' H', Same F F' → Wst M F0 H0 ss (cs U) σ F' H' → ca = true → mb = some r → ∀ Q' : VK, (∀ F2 H2, Same F' F2 → Wst M F0 H0 ss (cs r.2) σ F2 H2 → Q' (.bl r.1) H2) → tb σ H' Q')
    (q : ∀ F' H', Same F F' → Wst M F0 H0 ss (cs r.2) σ F' H' → Q (.bl r.1) H') : tAndV ta tb σ H Q := by
  refine x_andV (h1 _ fun F' H' s w => ⟨_, rfl, ?_⟩)
  cases ca with
  | true =>
    rw [if_pos rfl] at hm ⊢
    exact h2 F' H' s w rfl hm _ fun F2 H2 s2 w2 => q F2 H2 (s.trans s2) w2
  | false =>
    rw [if_neg (by decide)] at hm ⊢
    cases hm
    exact q F' H' s w
theorem w_orVS (cs : τ → List (Addr × Ca)) {cs' : List (Addr × Ca)} (h : Wst M F0 H0 ss cs' σ F H) (hm : (if ca = true then some (true, U) else mb) = some r) (h1 : ∀ Q' : VK, (∀ F' H', Same F F' → Wst M F0 H0 ss (cs U) σ F' H' → Q' (.bl ca) H') → ta σ H Q') (h2 : ∀ F' H', Same F F' → Wst M F0 H0 ss (cs U) σ F' H' → ca = false → mb = some r → ∀ Q' : VK, (∀ F2 H2, Same F' F2 → Wst M F0 H0 ss (cs r.2) σ F2 H2 → Q' (.bl r.1) H2) → tb σ H' Q')
    (q : ∀ F' H', Same F F' → Wst M F0 H0 ss (cs r.2) σ F' H' → Q (.bl r.1) H') : tOrV ta tb σ H Q := by
  refine x_orV (h1 _ fun F' H' s w => ⟨_, rfl, ?_⟩)
  cases ca with
  | true =>
    rw [if_pos rfl] at hm ⊢
    cases hm
    exact q F' H' s w
  | false =>
    rw [if_neg (by decide)] at hm ⊢
    exact h2 F' H' s w rfl hm _ fun F2 H2 s2 w2 => q F2 H2 (s.trans s2) w2
end
abbrev s_WebD_lenD : Stmt := inClass (topS 8) 1
theorem sc_WebD_lenD : FnScope ["self"] ["self"] (defScope s_WebD_lenD) := ⟨rfl, rfl, rfl, by decide +kernel, rfl, by decide +kernel, by decide +kernel⟩
def f_WebD_lenD (p_self : Wb) : Option (Nat) :=
  some p_self.length
def q_WebD_lenD (TL : List (Addr × Str)) (C_Web : Addr) : Sp := fun vs H Q _ => ∃ (F : Hp) (v_self : V) (p_self : Wb) (rr : Nat), vs = [v_self] ∧ Same F H ∧ NoT F ∧ (rWb C_Web).r F v_self p_self ∧ f_WebD_lenD p_self = some rr ∧ ∀ v F' H', Ext ⟨[], TL⟩ F H F' H' → rN.r F' v rr → Q v H'
section
variable {P : Program} {w : World} {K : PySem.W.Frag} {mg : Str → Option Value} {base : Heap}
theorem t_WebD_lenD {C_Web : Addr} (T : Tx mg) (O_Web : Own K mg "Web" C_Web) (nB_Web : NoAttr K C_Web "beside") (F : MetAt K C_Web "__len__" "Web.__len__" s_WebD_lenD ["self"]) : Met P w K mg base CX0 1 C_Web "__len__" (q_WebD_lenD TL C_Web) := by
  refine F.met sc_WebD_lenD (fun vs H Q E h => ?_) (fun f cdv A outer s H vs Q E hr h => ?_)
  · obtain ⟨_, _, _, _, rfl, _⟩ := h
    rfl
  · obtain ⟨F, v_self, p_self, rr, rfl, sm0, nt0, r_self, hf, q⟩ := h
    have hf : _ = some rr := hf
    unfold f_WebD_lenD at hf
    refine ⟨_, (pss_one (ps_ret (pe_callB (cl_len K) (by rfl) T.z_len PySem.boot_len (pa_cons (k_fld K (pv 0) rfl) pa_nil)))), ?_⟩
    have hE0 : Wst ⟨[], TL⟩ F H [(rWb C_Web).at p_self] [] (start ["self"] [v_self]) F H := Wst.start (vs := [v_self]) (n := 0) (ss := [(rWb C_Web).at p_self]) (cs := []) sm0 nt0 (fun p hp => by cases hp) List.nodup_nil (.cons ⟨_, rfl, r_self⟩ .nil)
    revert hE0
    generalize start ["self"] [v_self] = σ0
    intro hE0
    refine x_ret ?_
    refine x_cb ?_
    refine x_cons ?_
    refine x_tfld ?_
    refine w_var hE0 (i := 0) rfl fun v1 r2 => ?_
    refine w_fldWeb hE0.fh r2 O_Web.cl nB_Web fun v3 r4 => ?_
    refine x_nil ?_
    refine w_len (lv_f hE0.fh r4) ?_
    have hf := Option.some.inj hf
    subst hf
    exact q _ _ _ hE0.ex rfl
end
section
variable {MA : List Addr} {F0 H0 F H : Hp} {ss : List Sa} {cs : List (Addr × Ca)} {σ : St} {Q : VK} {v : V} {C : Addr} {w : Wb} {E : XK}
theorem w_lenWeb (h : Wst ⟨MA, TL⟩ F0 H0 ss cs σ F H) (r : (rWb C).r F v w) (z : w.length < 2 ^ 62) (q : ∀ F' H', Same F F' → Wst ⟨MA, TL⟩ F0 H0 ss cs σ F' H' → Q (.int (w.length : Int)) H') : rLenO C (q_WebD_lenD TL C) E [v] H Q := by
  obtain ⟨a, dx, fs, rfl, ha⟩ := knWeb h.fh r
  refine ⟨a, dx, fs, rfl, ha, F, _, w, w.length, rfl, h.fh, h.nt, r, rfl, fun v F' H' e rv => ⟨w.length, rv, by omega, by omega, q F' H' e.ff (h.grow e)⟩⟩
end
abbrev s_l_draws : Stmt := topS 21
theorem sc_l_draws : FnScope ["script", "k", "sizes", "rest", "great", "found", "at", "value"] ["script", "k", "sizes"] (defScope s_l_draws) := ⟨rfl, rfl, rfl, by decide +kernel, rfl, by decide +kernel, by decide +kernel⟩
def f_l_draws (p_script : (List Int)) (p_k : Nat) (p_sizes : (List Nat)) : Option ((List Nat)) :=
  if (decide (p_script.length ≤ p_k)) = true then
    (gd ([0].length * p_sizes.length ≤ 100000 ∧ p_sizes.length < 2 ^ 62)).bind fun _ =>
    some ((List.replicate p_sizes.length [0]).flatten)
  else
    (p_script[p_k]?).bind fun x17 =>
    (gd (2 < 2 ^ 64 ∨ (Int.natAbs x17) < 2 ^ 64)).bind fun _ =>
    (p_script[p_k]?).bind fun x21 =>
    (gd (p_sizes.length < 2 ^ 62)).bind fun _ =>
    (foldO (fun (s32 : Nat × (List Nat)) (x33 : Nat) =>
      (
        if (!(decide ((2 * (10 ^ 18)) ≤ ((2 * (Int.natAbs x17)) + (decide (x21 < ((0 : Nat) : Int))).toNat)))) = true then
          (gd (2 < 2 ^ 64 ∨ x33 < 2 ^ 64)).bind fun _ =>
          (gd ((s32.1 + 3) < 2 ^ 64 ∨ ((2 * x33) + 1000003) < 2 ^ 64)).bind fun _ =>
          (gd (((s32.1 + 3) * ((2 * x33) + 1000003)) < 2 ^ 64 ∨ 6364136223846793005 < 2 ^ 64)).bind fun _ =>
          (gd (x33 < 2 ^ 64 ∨ x33 < 2 ^ 64)).bind fun _ =>
          (gd ((((((s32.1 + 3) * ((2 * x33) + 1000003)) * 6364136223846793005) + (x33 * x33)) % 18446744073709551557) < 2 ^ 64 ∨ (((((s32.1 + 3) * ((2 * x33) + 1000003)) * 6364136223846793005) + (x33 * x33)) % 18446744073709551557) < 2 ^ 64)).bind fun _ =>
          some ((((((((((s32.1 + 3) * ((2 * x33) + 1000003)) * 6364136223846793005) + (x33 * x33)) % 18446744073709551557) * (((((s32.1 + 3) * ((2 * x33) + 1000003)) * 6364136223846793005) + (x33 * x33)) % 18446744073709551557)) + s32.1) + x33) % 18446744073709551533) / 65536)
        else
          some s32.1
        : Option (Nat)).bind fun x50 =>
      (p_sizes[x33]?).bind fun x64 =>
      (gd (0 < x64)).bind fun _ =>
      (gd (s32.2.length < 100000)).bind fun _ =>
      if (decide ((2 * (10 ^ 18)) ≤ ((2 * (Int.natAbs x17)) + (decide (x21 < ((0 : Nat) : Int))).toNat))) = true then
        (p_sizes[x33]?).bind fun x73 =>
        (gd (0 < x73 ∧ x73 < 1073741824)).bind fun _ =>
        some ((s32.1 / x73), (s32.2 ++ [(x50 % x64)]))
      else
        some (s32.1, (s32.2 ++ [(x50 % x64)]))) (List.range p_sizes.length) (((2 * (Int.natAbs x17)) + (decide (x21 < ((0 : Nat) : Int))).toNat), ([] : List Nat))).bind fun x44 =>
    some x44.2
def q_l_draws (TL : List (Addr × Str)) (K : PySem.W.Frag) : Sp := fun vs H Q _ => ∃ (F : Hp) (v_script : V) (p_script : (List Int)) (p_k : Nat) (v_sizes : V) (p_sizes : (List Nat)) (rr : (List Nat)), vs = [v_script, (V.int ((p_k : Nat) : Int)), v_sizes] ∧ Same F H ∧ NoT F ∧ (rScr K).r F v_script p_script ∧ (rL rN).r F v_sizes p_sizes ∧ f_l_draws p_script p_k p_sizes = some rr ∧ ∀ D F' H', Ext ⟨[], TL⟩ F H F' H' → H D = none → F' D = none → (∃ o, H' D = some o ∧ (cL rN rr).p F' o) → Q (.ref D) H'
section
variable {P : Program} {w : World} {K : PySem.W.Frag} {mg : Str → Option Value} {base : Heap}
theorem t_l_draws (T : Tx mg) (F : DefAt K mg "_law_draws" s_l_draws ["script", "k", "sizes"]) : Cal P w K mg base CX0 1 "_law_draws" (q_l_draws TL K) := by
  refine F.cal sc_l_draws (fun vs H Q E h => ?_) (fun f cdv A outer s H vs Q E hr h => ?_)
  · obtain ⟨_, _, _, _, _, _, _, rfl, _⟩ := h
    rfl
  · obtain ⟨F, v_script, p_script, p_k, v_sizes, p_sizes, rr, rfl, sm0, nt0, r_script, r_sizes, hf, q⟩ := h
    have hf : _ = some rr := hf
    unfold f_l_draws at hf
    refine ⟨_, (pss_cons (ps_if (pt_cmpR op_ge (pv 1) (pe_callB (cl_len K) (by rfl) T.z_len PySem.boot_len (pa_cons (pv 0) pa_nil)) (nomark _))
        (pss_one (ps_ret (pe_op op_rep (pe_lst (pa_cons pe_int pa_nil)) (pe_callB (cl_len K) (by rfl) T.z_len PySem.boot_len (pa_cons (pv 2) pa_nil))))) pss_nil)
      (pss_cons (ps_set (i := 3) sc_l_draws.nd rfl (Or.inl rfl) (pe_op op_add (pe_op op_mul pe_int (pe_callB cl_abs (by rfl) T.z_abs (by decide +kernel) (pa_cons (pe_ix (ix_l K) (pv 0) (pv 1) (fun _ _ => rfl)) pa_nil))) (pe_callTy cl_int (by rfl) T.z_int (by decide +kernel) (pa_cons (pe_cmpR op_lt (pe_ix (ix_l K) (pv 0) (pv 1) (fun _ _ => rfl)) pe_int (nomark _)) pa_nil))))
      (pss_cons (ps_set (i := 4) sc_l_draws.nd rfl (Or.inl rfl) (pe_cmpR op_ge (pv 3) (pe_op op_mul pe_int (pe_op op_pow pe_int pe_int)) (nomark _)))
      (pss_cons (ps_set (i := 5) sc_l_draws.nd rfl (Or.inl rfl) (pe_lst pa_nil))
      (pss_cons (ps_for PassesOwn.never rfl (pi_range1 rfl T.z_range (pa_cons (pe_callB (cl_len K) (by rfl) T.z_len PySem.boot_len (pa_cons (pv 2) pa_nil)) pa_nil)) (pg_name (i := 6) sc_l_draws.nd rfl (Or.inl rfl))
        (pss_cons (ps_set (i := 7) sc_l_draws.nd rfl (Or.inl rfl) (pv 3))
      (Evl.pss_cut (ps_if (pt_not (pt_val (pv 4)))
        (pss_cons (ps_set (i := 7) sc_l_draws.nd rfl (Or.inl rfl) (pe_op op_mod (pe_callTy cl_int (by rfl) T.z_int (by decide +kernel) (pa_cons (pe_op op_add (pe_op op_mul (pe_op op_mul (pe_op op_add (pv 3) pe_int) (pe_op op_add (pe_op op_mul pe_int (pv 6)) pe_int)) pe_int) (pe_op op_mul (pv 6) (pv 6))) pa_nil)) pe_int))
      (pss_one (ps_set (i := 7) sc_l_draws.nd rfl (Or.inl rfl) (pe_op op_fdiv (pe_op op_mod (pe_callTy cl_int (by rfl) T.z_int (by decide +kernel) (pa_cons (pe_op op_add (pe_op op_add (pe_op op_mul (pv 7) (pv 7)) (pv 3)) (pv 6)) pa_nil)) pe_int) pe_int)))) pss_nil)
      (pss_cons (ps_expr (k_bm K PySem.F.plainAttrs_list PySem.F.slot_list_append PySem.F.type_list_append mt_append (pv 5) (pa_cons (pe_op op_mod (pe_callTy cl_int (by rfl) T.z_int (by decide +kernel) (pa_cons (pv 7) pa_nil)) (pe_ix (ix_l K) (pv 2) (pv 6) (fun _ _ => rfl))) pa_nil)))
      (pss_one (ps_if (pt_val (pv 4))
        (pss_one (ps_set (i := 3) sc_l_draws.nd rfl (Or.inl rfl) (pe_op op_fdiv (pe_callTy cl_int (by rfl) T.z_int (by decide +kernel) (pa_cons (pv 3) pa_nil)) (pe_ix (ix_l K) (pv 2) (pv 6) (fun _ _ => rfl))))) pss_nil))))))
      (pss_one (ps_ret (pv 5)))))))), ?_⟩
    have hE0 : Wst ⟨[], TL⟩ F H [(rScr K).at p_script, rN.at p_k, (rL rN).at p_sizes, sAny, sAny, sAny, sAny, sAny] [] (start ["script", "k", "sizes", "rest", "great", "found", "at", "value"] [v_script, (V.int ((p_k : Nat) : Int)), v_sizes]) F H := Wst.start (vs := [v_script, (V.int ((p_k : Nat) : Int)), v_sizes]) (n := 5) (ss := [(rScr K).at p_script, rN.at p_k, (rL rN).at p_sizes]) (cs := []) sm0 nt0 (fun p hp => by cases hp) List.nodup_nil (.cons ⟨_, rfl, r_script⟩ (.cons ⟨_, rfl, rfl⟩ (.cons ⟨_, rfl, r_sizes⟩ .nil)))
    revert hE0
    generalize start ["script", "k", "sizes", "rest", "great", "found", "at", "value"] [v_script, (V.int ((p_k : Nat) : Int)), v_sizes] = σ0
    intro hE0
    refine x_seq ?_
    refine x_ifs ?_
    refine x_test ?_
    refine x_op ?_
    refine w_vN hE0 (i := 1) rfl ?_
    refine x_cb ?_
    refine x_cons ?_
    refine w_var hE0 (i := 0) rfl fun v1 r2 => ?_
    refine x_nil ?_
    refine w_lenScr hE0.fh r2 ?_
    refine w_geN ?_
    refine x_bl ?_
    refine x_itb (fun hc3 => ?_) (fun hc3 => ?_)
    · have hf := ite_t hf hc3
      refine x_ret ?_
      refine x_op ?_
      refine m_lst ?_
      refine x_cons ?_
      refine w_cN 0 ?_
      refine x_nil ?_
      refine w_lstF hE0 (R := rN) (l := [0]) (by show 1 ≤ 100000; decide) (.cons rfl .nil) fun v4 _ _ s5 hE7 r6 => ?_
      refine x_cb ?_
      refine x_cons ?_
      refine w_var hE7 (i := 2) rfl fun v8 r9 => ?_
      refine x_nil ?_
      refine w_len (lv_f hE7.fh r9) ?_
      obtain ⟨_, u10, hf⟩ := bnd hf
      have u10 := gd_ok u10
      refine w_repC hE7 (lv_f hE7.fh r6) u10 fun c11 _ o12 hE13 => ?_
      have hE14 : Wst ⟨[], TL⟩ _ _ [(rScr K).at p_script, rN.at p_k, (rL rN).at p_sizes, sAny, sAny, sAny, sAny, sAny] [(c11, cL rN (List.replicate p_sizes.length [0]).flatten)] _ _ _ := hE13
      have hf := Option.some.inj hf
      subst hf
      exact q _ _ _ hE14.ex o12 (hE14.apart (k := 0) rfl) (hE14.cell (k := 0) rfl)
    · have hf := ite_f hf hc3
      refine x_next ?_
      refine x_seq ?_
      refine x_asg ?_
      refine x_op ?_
      refine x_op ?_
      refine w_cN 2 ?_
      refine x_cb ?_
      refine x_cons ?_
      refine x_op ?_
      refine w_var hE0 (i := 0) rfl fun v15 r16 => ?_
      refine w_vN hE0 (i := 1) rfl ?_
      obtain ⟨x17, hx17, hf⟩ := bnd hf
      refine w_ixScr hE0.fh r16 hx17 ?_
      refine x_nil ?_
      refine w_abs (i := x17) ?_
      obtain ⟨_, u18, hf⟩ := bnd hf
      have u18 := gd_ok u18
      refine w_mulN u18 ?_
      refine x_cb ?_
      refine x_cons ?_
      refine x_op ?_
      refine x_op ?_
      refine w_var hE0 (i := 0) rfl fun v19 r20 => ?_
      refine w_vN hE0 (i := 1) rfl ?_
      obtain ⟨x21, hx21, hf⟩ := bnd hf
      refine w_ixScr hE0.fh r20 hx21 ?_
      refine w_cN 0 ?_
      refine x_I0 ?_
      refine x_nil ?_
      refine w_intB ?_
      refine w_addN ?_
      refine w_name (R := rN) (ss' := [(rScr K).at p_script, rN.at p_k, (rL rN).at p_sizes, rN.at ((2 * (Int.natAbs x17)) + (decide (x21 < ((0 : Nat) : Int))).toNat), sAny, sAny, sAny, sAny]) hE0 rfl rfl fun _ hE22 => ?_
      refine x_seq ?_
      refine x_asg ?_
      refine x_op ?_
      refine w_vN hE22 (i := 3) rfl ?_
      refine x_op ?_
      refine w_cN 2 ?_
      refine x_op ?_
      refine w_cN 10 ?_
      refine w_cN 18 ?_
      refine w_powN (by decide) ?_
      refine w_mulN (by decide) ?_
      refine w_geN ?_
      refine w_name (R := rB) (ss' := [(rScr K).at p_script, rN.at p_k, (rL rN).at p_sizes, rN.at ((2 * (Int.natAbs x17)) + (decide (x21 < ((0 : Nat) : Int))).toNat), rB.at (decide ((2 * (10 ^ 18)) ≤ ((2 * (Int.natAbs x17)) + (decide (x21 < ((0 : Nat) : Int))).toNat))), sAny, sAny, sAny]) hE22 rfl rfl fun _ hE23 => ?_
      refine x_seq ?_
      refine x_asg ?_
      refine m_lst ?_
      refine x_nil ?_
      refine w_lstC hE23 (R := rN) (l := ([] : List Nat)) (by show 0 ≤ 100000; decide) .nil fun c24 _ o25 hE26 => ?_
      have hE27 : Wst ⟨[], TL⟩ _ _ [(rScr K).at p_script, rN.at p_k, (rL rN).at p_sizes, rN.at ((2 * (Int.natAbs x17)) + (decide (x21 < ((0 : Nat) : Int))).toNat), rB.at (decide ((2 * (10 ^ 18)) ≤ ((2 * (Int.natAbs x17)) + (decide (x21 < ((0 : Nat) : Int))).toNat))), sAny, sAny, sAny] [(c24, cL rN ([] : List Nat))] _ _ _ := hE26
      refine w_nameC (ss' := [(rScr K).at p_script, rN.at p_k, (rL rN).at p_sizes, rN.at ((2 * (Int.natAbs x17)) + (decide (x21 < ((0 : Nat) : Int))).toNat), rB.at (decide ((2 * (10 ^ 18)) ≤ ((2 * (Int.natAbs x17)) + (decide (x21 < ((0 : Nat) : Int))).toNat))), sRef c24, sAny, sAny]) hE27 rfl fun _ hE28 => ?_
      refine x_seq ?_
      refine x_for ?_
      refine x_rg1 ?_
      refine x_cons ?_
      refine x_cb ?_
      refine x_cons ?_
      refine w_var hE28 (i := 2) rfl fun v29 r30 => ?_
      refine x_nil ?_
      refine w_len (lv_f hE28.fh r30) ?_
      refine x_nil ?_
      obtain ⟨_, u31, hf⟩ := bnd hf
      have u31 := gd_ok u31
      refine w_r1 u31 ?_
      have hE42 : Wst ⟨[], TL⟩ _ _ [(rScr K).at p_script, rN.at p_k, (rL rN).at p_sizes, rN.at (((2 * (Int.natAbs x17)) + (decide (x21 < ((0 : Nat) : Int))).toNat), ([] : List Nat)).1, rB.at (decide ((2 * (10 ^ 18)) ≤ ((2 * (Int.natAbs x17)) + (decide (x21 < ((0 : Nat) : Int))).toNat))), sRef c24, sAny, sAny] [(c24, cL rN (((2 * (Int.natAbs x17)) + (decide (x21 < ((0 : Nat) : Int))).toNat), ([] : List Nat)).2)] _ _ _ := hE28
      obtain ⟨x44, hx44, hf⟩ := bnd hf
      refine w_for 0 (fun (s32 : Nat × (List Nat)) (ad40 : Nat → Addr) => [(rScr K).at p_script, rN.at p_k, (rL rN).at p_sizes, rN.at s32.1, rB.at (decide ((2 * (10 ^ 18)) ≤ ((2 * (Int.natAbs x17)) + (decide (x21 < ((0 : Nat) : Int))).toNat))), sRef c24, sAny, sAny]) (fun (s32 : Nat × (List Nat)) (ad40 : Nat → Addr) => [(c24, cL rN s32.2)]) hx44 adZ no_ad hE42 (fun _ ad40 _ _ _ sm w78 => jok_r0 w78.fh w78.nt) (fun s32 ad40 x33 v34 o35 _ _ _ ha41 s36 r37 hE38 hb39 => ?_) (fun ad40 _ _ _ ha41 s79 hE80 => ?_)
      · have hE43 : Wst ⟨[], TL⟩ _ _ [(rScr K).at p_script, rN.at p_k, (rL rN).at p_sizes, rN.at s32.1, rB.at (decide ((2 * (10 ^ 18)) ≤ ((2 * (Int.natAbs x17)) + (decide (x21 < ((0 : Nat) : Int))).toNat))), sRef c24, sAny, sAny] [(c24, cL rN s32.2)] _ _ _ := hE38
        obtain rfl := (show v34 = (V.int ((x33 : Nat) : Int)) from r37)
        refine w_name (R := rN) (ss' := [(rScr K).at p_script, rN.at p_k, (rL rN).at p_sizes, rN.at s32.1, rB.at (decide ((2 * (10 ^ 18)) ≤ ((2 * (Int.natAbs x17)) + (decide (x21 < ((0 : Nat) : Int))).toNat))), sRef c24, rN.at x33, sAny]) hE43 rfl rfl fun _ hE45 => ?_
        refine x_seq ?_
        refine x_asg ?_
        refine w_vN hE45 (i := 3) rfl ?_
        refine w_name (R := rN) (ss' := [(rScr K).at p_script, rN.at p_k, (rL rN).at p_sizes, rN.at s32.1, rB.at (decide ((2 * (10 ^ 18)) ≤ ((2 * (Int.natAbs x17)) + (decide (x21 < ((0 : Nat) : Int))).toNat))), sRef c24, rN.at x33, rN.at s32.1]) hE45 rfl rfl fun _ hE46 => ?_
        obtain ⟨x50, hx50, hb39⟩ := bnd hb39
        refine w_cut 0 (fun (s47 : Nat) (ad48 : Nat → Addr) => [(rScr K).at p_script, rN.at p_k, (rL rN).at p_sizes, rN.at s32.1, rB.at (decide ((2 * (10 ^ 18)) ≤ ((2 * (Int.natAbs x17)) + (decide (x21 < ((0 : Nat) : Int))).toNat))), sRef c24, rN.at x33, rN.at s47]) (fun (s47 : Nat) (ad48 : Nat → Addr) => [(c24, cL rN s32.2)]) x50 hE46 ?_ (fun ad48 _ _ _ ha49 s59 hE60 => ?_)
        · refine x_ifs ?_
          refine x_not ?_
          refine x_B ?_
          refine w_vB hE46 (i := 4) rfl ?_
          refine x_bl ?_
          refine x_itb (fun hc51 => ?_) (fun hc51 => ?_)
          · have hx50 := ite_t hx50 hc51
            refine x_seq ?_
            refine x_asg ?_
            refine x_op ?_
            refine x_cb ?_
            refine x_cons ?_
            refine x_op ?_
            refine x_op ?_
            refine x_op ?_
            refine x_op ?_
            refine w_vN hE46 (i := 3) rfl ?_
            refine w_cN 3 ?_
            refine w_addN ?_
            refine x_op ?_
            refine x_op ?_
            refine w_cN 2 ?_
            refine w_vN hE46 (i := 6) rfl ?_
            obtain ⟨_, u52, hx50⟩ := bnd hx50
            have u52 := gd_ok u52
            refine w_mulN u52 ?_
            refine w_cN 1000003 ?_
            refine w_addN ?_
            obtain ⟨_, u53, hx50⟩ := bnd hx50
            have u53 := gd_ok u53
            refine w_mulN u53 ?_
            refine w_cN 6364136223846793005 ?_
            obtain ⟨_, u54, hx50⟩ := bnd hx50
            have u54 := gd_ok u54
            refine w_mulN u54 ?_
            refine x_op ?_
            refine w_vN hE46 (i := 6) rfl ?_
            refine w_vN hE46 (i := 6) rfl ?_
            obtain ⟨_, u55, hx50⟩ := bnd hx50
            have u55 := gd_ok u55
            refine w_mulN u55 ?_
            refine w_addN ?_
            refine x_nil ?_
            refine x_int_i ?_
            refine w_cN 18446744073709551557 ?_
            refine w_modN (by decide) ?_
            refine w_name (R := rN) (ss' := [(rScr K).at p_script, rN.at p_k, (rL rN).at p_sizes, rN.at s32.1, rB.at (decide ((2 * (10 ^ 18)) ≤ ((2 * (Int.natAbs x17)) + (decide (x21 < ((0 : Nat) : Int))).toNat))), sRef c24, rN.at x33, rN.at (((((s32.1 + 3) * ((2 * x33) + 1000003)) * 6364136223846793005) + (x33 * x33)) % 18446744073709551557)]) hE46 rfl rfl fun _ hE56 => ?_
            refine x_asg ?_
            refine x_op ?_
            refine x_op ?_
            refine x_cb ?_
            refine x_cons ?_
            refine x_op ?_
            refine x_op ?_
            refine x_op ?_
            refine w_vN hE56 (i := 7) rfl ?_
            refine w_vN hE56 (i := 7) rfl ?_
            obtain ⟨_, u57, hx50⟩ := bnd hx50
            have u57 := gd_ok u57
            refine w_mulN u57 ?_
            refine w_vN hE56 (i := 3) rfl ?_
            refine w_addN ?_
            refine w_vN hE56 (i := 6) rfl ?_
            refine w_addN ?_
            refine x_nil ?_
            refine x_int_i ?_
            refine w_cN 18446744073709551533 ?_
            refine w_modN (by decide) ?_
            refine w_cN 65536 ?_
            refine w_divN (by decide) ?_
            refine w_name (R := rN) (ss' := [(rScr K).at p_script, rN.at p_k, (rL rN).at p_sizes, rN.at s32.1, rB.at (decide ((2 * (10 ^ 18)) ≤ ((2 * (Int.natAbs x17)) + (decide (x21 < ((0 : Nat) : Int))).toNat))), sRef c24, rN.at x33, rN.at ((((((((((s32.1 + 3) * ((2 * x33) + 1000003)) * 6364136223846793005) + (x33 * x33)) % 18446744073709551557) * (((((s32.1 + 3) * ((2 * x33) + 1000003)) * 6364136223846793005) + (x33 * x33)) % 18446744073709551557)) + s32.1) + x33) % 18446744073709551533) / 65536)]) hE56 rfl rfl fun _ hE58 => ?_
            have hx50 := Option.some.inj hx50
            subst hx50
            exact ⟨adZ, _, no_ad, (Same.refl _), hE58⟩
          · have hx50 := ite_f hx50 hc51
            refine x_next ?_
            have hx50 := Option.some.inj hx50
            subst hx50
            exact ⟨adZ, _, no_ad, (Same.refl _), hE46⟩
        have hE61 : Wst ⟨[], TL⟩ _ _ [(rScr K).at p_script, rN.at p_k, (rL rN).at p_sizes, rN.at s32.1, rB.at (decide ((2 * (10 ^ 18)) ≤ ((2 * (Int.natAbs x17)) + (decide (x21 < ((0 : Nat) : Int))).toNat))), sRef c24, rN.at x33, rN.at x50] [(c24, cL rN s32.2)] _ _ _ := hE60
        refine x_seq ?_
        refine x_drop ?_
        refine x_bm ?_
        refine w_ref hE61 (i := 5) rfl ?_
        refine w_tyC hE61 (k := 0) rfl ?_
        refine x_cons ?_
        refine x_op ?_
        refine x_cb ?_
        refine x_cons ?_
        refine w_vN hE61 (i := 7) rfl ?_
        refine x_nil ?_
        refine x_int_i ?_
        refine x_op ?_
        refine w_var hE61 (i := 2) rfl fun v62 r63 => ?_
        refine w_vN hE61 (i := 6) rfl ?_
        obtain ⟨x64, hx64, hb39⟩ := bnd hb39
        refine w_ix (lv_f hE61.fh r63) hx64 fun v65 r66 => ?_
        obtain rfl := (show v65 = (V.int ((x64 : Nat) : Int)) from r66)
        obtain ⟨_, u67, hb39⟩ := bnd hb39
        have u67 := gd_ok u67
        refine w_modN u67 ?_
        refine x_nil ?_
        obtain ⟨_, u68, hb39⟩ := bnd hb39
        have u68 := gd_ok u68
        refine w_app hE61 (k := 0) (a := (x50 % x64)) rfl u68 rfl (cs' := [(c24, cL rN (s32.2 ++ [(x50 % x64)]))]) rfl fun _ hE69 => ?_
        refine x_ifs ?_
        refine x_B ?_
        refine w_vB hE69 (i := 4) rfl ?_
        refine x_bl ?_
        refine x_itb (fun hc70 => ?_) (fun hc70 => ?_)
        · have hb39 := ite_t hb39 hc70
          refine x_asg ?_
          refine x_op ?_
          refine x_cb ?_
          refine x_cons ?_
          refine w_vN hE69 (i := 3) rfl ?_
          refine x_nil ?_
          refine x_int_i ?_
          refine x_op ?_
          refine w_var hE69 (i := 2) rfl fun v71 r72 => ?_
          refine w_vN hE69 (i := 6) rfl ?_
          obtain ⟨x73, hx73, hb39⟩ := bnd hb39
          refine w_ix (lv_f hE69.fh r72) hx73 fun v74 r75 => ?_
          obtain rfl := (show v74 = (V.int ((x73 : Nat) : Int)) from r75)
          obtain ⟨_, u76, hb39⟩ := bnd hb39
          have u76 := gd_ok u76
          refine w_divN u76 ?_
          refine w_name (R := rN) (ss' := [(rScr K).at p_script, rN.at p_k, (rL rN).at p_sizes, rN.at (s32.1 / x73), rB.at (decide ((2 * (10 ^ 18)) ≤ ((2 * (Int.natAbs x17)) + (decide (x21 < ((0 : Nat) : Int))).toNat))), sRef c24, rN.at x33, rN.at x50]) hE69 rfl rfl fun _ hE77 => ?_
          have hb39 := Option.some.inj hb39
          subst hb39
          exact ⟨adZ, _, no_ad, (s36.trans s59), ((hE77.toAny 6).toAny 7)⟩
        · have hb39 := ite_f hb39 hc70
          refine x_next ?_
          have hb39 := Option.some.inj hb39
          subst hb39
          exact ⟨adZ, _, no_ad, (s36.trans s59), ((hE69.toAny 6).toAny 7)⟩
      have hE81 : Wst ⟨[], TL⟩ _ _ [(rScr K).at p_script, rN.at p_k, (rL rN).at p_sizes, rN.at x44.1, rB.at (decide ((2 * (10 ^ 18)) ≤ ((2 * (Int.natAbs x17)) + (decide (x21 < ((0 : Nat) : Int))).toNat))), sRef c24, sAny, sAny] [(c24, cL rN x44.2)] _ _ _ := hE80
      refine x_ret ?_
      refine w_ref hE81 (i := 5) rfl ?_
      have hf := Option.some.inj hf
      subst hf
      exact q _ _ _ hE81.ex o25 (hE81.apart (k := 0) rfl) (hE81.cell (k := 0) rfl)
end
abbrev s_l_between : Stmt := topS 24
theorem sc_l_between : FnScope ["first", "last", "p"] ["first", "last"] (defScope s_l_between) := ⟨rfl, rfl, rfl, by decide +kernel, rfl, by decide +kernel, by decide +kernel⟩
def f_l_between (p_first : Nat) (p_last : Nat) : Option ((List (Nat × Nat))) :=
  (gd (p_first < 2 ^ 62 ∧ p_last < 2 ^ 62)).bind fun _ =>
  (compO (β := (Nat × Nat)) (fun (x4 : Nat) =>
    some (some (0, x4))) ((List.range (p_last - p_first)).map fun k => p_first + k)).bind fun x23 =>
  (gd (x23.length ≤ 100000)).bind fun _ =>
  (gd (p_first < 2 ^ 62 ∧ p_last < 2 ^ 62)).bind fun _ =>
  (compO (β := (Nat × Nat)) (fun (x35 : Nat) =>
    some (some (1, x35))) ((List.range (p_last - p_first)).map fun k => p_first + k)).bind fun x54 =>
  (gd (x54.length ≤ 100000)).bind fun _ =>
  (gd (x23.length + x54.length ≤ 100000)).bind fun _ =>
  some (x23 ++ x54)
def q_l_between (TL : List (Addr × Str)) : Sp := fun vs H Q _ => ∃ (F : Hp) (p_first : Nat) (p_last : Nat) (rr : (List (Nat × Nat))), vs = [(V.int ((p_first : Nat) : Int)), (V.int ((p_last : Nat) : Int))] ∧ Same F H ∧ NoT F ∧ f_l_between p_first p_last = some rr ∧ ∀ D F' H', Ext ⟨[], TL⟩ F H F' H' → H D = none → F' D = none → (∃ o, H' D = some o ∧ (cL (rT2 rN rN) rr).p F' o) → Q (.ref D) H'
section
variable {P : Program} {w : World} {K : PySem.W.Frag} {mg : Str → Option Value} {base : Heap}
theorem t_l_between (T : Tx mg) (F : DefAt K mg "_law_between" s_l_between ["first", "last"]) : Cal P w K mg base CX0 1 "_law_between" (q_l_between TL) := by
  refine F.cal sc_l_between (fun vs H Q E h => ?_) (fun f cdv A outer s H vs Q E hr h => ?_)
  · obtain ⟨_, _, _, _, rfl, _⟩ := h
    rfl
  · obtain ⟨F, p_first, p_last, rr, rfl, sm0, nt0, hf, q⟩ := h
    have hf : _ = some rr := hf
    unfold f_l_between at hf
    refine ⟨_, (pss_one (ps_ret (pe_op op_cat (pe_lc (own := [("p", 2)]) (g := gName 2) rfl sc_l_between.nd (pi_range2 rfl T.z_range (pa_cons (pv 0) (pa_cons (pv 1) pa_nil))) (blkOk_by (own := [("p", 2)]) (N := ["first", "last", "p"]) (sc := defScope s_l_between) (by decide +kernel)) (fun _ _ _ _ _ => (pg_name (i := 2) sc_l_between.nd rfl (Or.inl rfl))) (fun _ _ _ _ _ => pts_nil) (fun _ _ _ _ _ => (pe_tup (pa_cons pe_int (pa_cons (pv 2) pa_nil))))) (pe_lc (own := [("p", 2)]) (g := gName 2) rfl sc_l_between.nd (pi_range2 rfl T.z_range (pa_cons (pv 0) (pa_cons (pv 1) pa_nil))) (blkOk_by (own := [("p", 2)]) (N := ["first", "last", "p"]) (sc := defScope s_l_between) (by decide +kernel)) (fun _ _ _ _ _ => (pg_name (i := 2) sc_l_between.nd rfl (Or.inl rfl))) (fun _ _ _ _ _ => pts_nil) (fun _ _ _ _ _ => (pe_tup (pa_cons pe_int (pa_cons (pv 2) pa_nil)))))))), ?_⟩
    have hE0 : Wst ⟨[], TL⟩ F H [rN.at p_first, rN.at p_last, sAny] [] (start ["first", "last", "p"] [(V.int ((p_first : Nat) : Int)), (V.int ((p_last : Nat) : Int))]) F H := Wst.start (vs := [(V.int ((p_first : Nat) : Int)), (V.int ((p_last : Nat) : Int))]) (n := 1) (ss := [rN.at p_first, rN.at p_last]) (cs := []) sm0 nt0 (fun p hp => by cases hp) List.nodup_nil (.cons ⟨_, rfl, rfl⟩ (.cons ⟨_, rfl, rfl⟩ .nil))
    revert hE0
    generalize start ["first", "last", "p"] [(V.int ((p_first : Nat) : Int)), (V.int ((p_last : Nat) : Int))] = σ0
    intro hE0
    refine x_ret ?_
    refine x_op ?_
    refine x_lc ?_
    refine x_rg2 ?_
    refine x_cons ?_
    refine w_vN hE0 (i := 0) rfl ?_
    refine x_cons ?_
    refine w_vN hE0 (i := 1) rfl ?_
    refine x_nil ?_
    obtain ⟨_, u1, hf⟩ := bnd hf
    have u1 := gd_ok u1
    refine w_r2 u1 ?_
    obtain ⟨x23, hx23, hf⟩ := bnd hf
    obtain ⟨_, u24, hf⟩ := bnd hf
    have u24 := gd_ok u24
    intro c2 d3
    refine w_lc (B := (rT2 rN rN)) hx23 u24 hE0 d3 (fun _ _ _ sm w30 => jok_r w30.fh w30.nt) (fun x4 v6 o7 ac14 _ _ s8 r9 hE10 hb11 z12 ew13 => ?_) (fun _ _ o27 s28 hE29 => ?_)
    · have hE10 : Wst ⟨[], TL⟩ _ _ [rN.at p_first, rN.at p_last, sAny] [(c2, cL (rT2 rN rN) ac14)] _ _ _ := hE10
      refine w_nameW (ss' := [rN.at p_first, rN.at p_last, rN.at x4]) hE10 rfl r9 (by decide) ew13 fun _ ew18 hE17 => ?_
      refine ⟨ew18, ?_⟩
      refine x_yes ?_
      refine x_T ?_
      refine m_tup ?_
      refine x_cons ?_
      refine w_cN 0 ?_
      refine x_cons ?_
      refine w_vN hE17 (i := 2) rfl ?_
      refine x_nil ?_
      refine w_tup2 (R := rN) (S := rN) hE17 rfl rfl fun v19 _ _ s20 hE22 r21 => ?_
      have hb11 := Option.some.inj hb11
      subst hb11
      exact w_acc (s := ()) hE22 (s8.trans s20) r21 z12 ew18 rfl
    have hE31 : Wst ⟨[], TL⟩ _ _ [rN.at p_first, rN.at p_last, sAny] [(c2, cL (rT2 rN rN) x23)] _ _ _ := hE29
    refine x_lc ?_
    refine x_rg2 ?_
    refine x_cons ?_
    refine w_vN hE31 (i := 0) rfl ?_
    refine x_cons ?_
    refine w_vN hE31 (i := 1) rfl ?_
    refine x_nil ?_
    obtain ⟨_, u32, hf⟩ := bnd hf
    have u32 := gd_ok u32
    refine w_r2 u32 ?_
    obtain ⟨x54, hx54, hf⟩ := bnd hf
    obtain ⟨_, u55, hf⟩ := bnd hf
    have u55 := gd_ok u55
    intro c33 d34
    refine w_lc (B := (rT2 rN rN)) hx54 u55 hE31 d34 (fun _ _ _ sm w61 => jok_r w61.fh w61.nt) (fun x35 v37 o38 ac45 _ _ s39 r40 hE41 hb42 z43 ew44 => ?_) (fun _ _ o58 s59 hE60 => ?_)
    · have hE41 : Wst ⟨[], TL⟩ _ _ [rN.at p_first, rN.at p_last, sAny] [(c33, cL (rT2 rN rN) ac45), (c2, cL (rT2 rN rN) x23)] _ _ _ := hE41
      refine w_nameW (ss' := [rN.at p_first, rN.at p_last, rN.at x35]) hE41 rfl r40 (by decide) ew44 fun _ ew49 hE48 => ?_
      refine ⟨ew49, ?_⟩
      refine x_yes ?_
      refine x_T ?_
      refine m_tup ?_
      refine x_cons ?_
      refine w_cN 1 ?_
      refine x_cons ?_
      refine w_vN hE48 (i := 2) rfl ?_
      refine x_nil ?_
      refine w_tup2 (R := rN) (S := rN) hE48 rfl rfl fun v50 _ _ s51 hE53 r52 => ?_
      have hb42 := Option.some.inj hb42
      subst hb42
      exact w_acc (s := ()) hE53 (s39.trans s51) r52 z43 ew49 rfl
    have hE62 : Wst ⟨[], TL⟩ _ _ [rN.at p_first, rN.at p_last, sAny] [(c33, cL (rT2 rN rN) x54), (c2, cL (rT2 rN rN) x23)] _ _ _ := hE60
    obtain ⟨_, u63, hf⟩ := bnd hf
    have u63 := gd_ok u63
    refine w_catC hE62 (lv_c hE62 (k := 1) rfl) (lv_c hE62 (k := 0) rfl) u63 fun c64 _ o65 hE66 => ?_
    have hE67 : Wst ⟨[], TL⟩ _ _ [rN.at p_first, rN.at p_last, sAny] [(c64, cL (rT2 rN rN) (x23 ++ x54)), (c33, cL (rT2 rN rN) x54), (c2, cL (rT2 rN rN) x23)] _ _ _ := hE66
    have hf := Option.some.inj hf
    subst hf
    exact q _ _ _ hE67.ex o65 (hE67.apart (k := 0) rfl) (hE67.cell (k := 0) rfl)
end
abbrev s_l_shape : Stmt := topS 25
theorem sc_l_shape : FnScope ["sort", "size", "ring", "three", "rings", "more", "p"] ["sort", "size"] (defScope s_l_shape) := ⟨rfl, rfl, rfl, by decide +kernel, rfl, by decide +kernel, by decide +kernel⟩
def f_l_shape (p_sort : Nat) (p_size : Nat) : Option ((Nat × (List (Nat × Nat)) × Bool)) :=
  (gd ((2 + p_size) < 2 ^ 62)).bind fun _ =>
  (compO (β := (Nat × Nat)) (fun (x4 : Nat) =>
    some (some (x4, (x4 + 1)))) (List.range (2 + p_size))).bind fun x23 =>
  (gd (x23.length ≤ 100000)).bind fun _ =>
  (gd (x23.length + [(0, (2 + p_size))].length ≤ 100000)).bind fun _ =>
  if (decide (p_sort = 0)) = true then
    some (1, ([] : List (Nat × Nat)), true)
  else
    if (decide (p_sort < 3)) = true then
      some ((3 + p_size), (x23 ++ [(0, (2 + p_size))]), (decide ((p_size % 2) = 1)))
    else
      if (decide (p_sort = 3)) = true then
        (gd ([(0, 2), (1, 2), (0, 3), (1, 3)].length + [(0, 4), (1, 4)].length ≤ 100000)).bind fun _ =>
        some (5, ([(0, 2), (1, 2), (0, 3), (1, 3)] ++ [(0, 4), (1, 4)]), true)
      else
        if (decide (p_sort = 4)) = true then
          (gd (2 < 2 ^ 64 ∨ (p_size % 4) < 2 ^ 64)).bind fun _ =>
          (gd ([(0, 2), (1, 2), (0, 3), (1, 3)].length + [(0, 4), (1, (6 + (2 * (p_size % 4))))].length ≤ 100000)).bind fun _ =>
          (gd (4 < 2 ^ 62 ∧ (6 + (2 * (p_size % 4))) < 2 ^ 62)).bind fun _ =>
          (compO (β := (Nat × Nat)) (fun (x153 : Nat) =>
            some (some (x153, (x153 + 1)))) ((List.range ((6 + (2 * (p_size % 4))) - 4)).map fun k => 4 + k)).bind fun x172 =>
          (gd (x172.length ≤ 100000)).bind fun _ =>
          (gd (([(0, 2), (1, 2), (0, 3), (1, 3)] ++ [(0, 4), (1, (6 + (2 * (p_size % 4))))]).length + x172.length ≤ 100000)).bind fun _ =>
          some ((7 + (2 * (p_size % 4))), (([(0, 2), (1, 2), (0, 3), (1, 3)] ++ [(0, 4), (1, (6 + (2 * (p_size % 4))))]) ++ x172), false)
        else
          if (decide (p_sort = 5)) = true then
            (gd ([(0, 2), (1, 2), (0, 3), (1, 3)].length + [(0, 4), (4, 5), (1, 5)].length ≤ 100000)).bind fun _ =>
            some (6, ([(0, 2), (1, 2), (0, 3), (1, 3)] ++ [(0, 4), (4, 5), (1, 5)]), false)
          else
            if (decide (p_sort = 6)) = true then
              (gd ([(0, 1), (1, 2), (2, 3), (0, 3)].length + [(3, 4), (4, 5), (5, 6), (3, 6)].length ≤ 100000)).bind fun _ =>
              some (7, ([(0, 1), (1, 2), (2, 3), (0, 3)] ++ [(3, 4), (4, 5), (5, 6), (3, 6)]), false)
            else
              if (decide (p_sort = 7)) = true then
                (gd ([(0, 1), (1, 2), (2, 3), (0, 3)].length + [(3, 4), (4, 5), (5, 6), (6, 7), (4, 7)].length ≤ 100000)).bind fun _ =>
                some (8, ([(0, 1), (1, 2), (2, 3), (0, 3)] ++ [(3, 4), (4, 5), (5, 6), (6, 7), (4, 7)]), false)
              else
                if (decide (p_sort = 8)) = true then
                  (gd ([(0, 1), (1, 2), (2, 3), (0, 3)].length + [(0, 2), (1, 3)].length ≤ 100000)).bind fun _ =>
                  some (4, ([(0, 1), (1, 2), (2, 3), (0, 3)] ++ [(0, 2), (1, 3)]), false)
                else
                  if (decide (p_sort = 9)) = true then
                    (f_l_between 4 (6 + (p_size % 3))).bind fun x313 =>
                    (gd ([(0, 2), (1, 2), (0, 3), (1, 3)].length + x313.length ≤ 100000)).bind fun _ =>
                    some ((6 + (p_size % 3)), ([(0, 2), (1, 2), (0, 3), (1, 3)] ++ x313), false)
                  else
                    if (decide (p_sort = 10)) = true then
                      some (8, [(0, 2), (2, 3), (1, 3), (0, 4), (4, 5), (1, 5), (0, 6), (6, 7), (1, 7)], false)
                    else
                      (gd ([(0, 2), (1, 2), (0, 3), (1, 3)].length + [(0, 4), (1, 4), (2, (3 + (p_size % 2)))].length ≤ 100000)).bind fun _ =>
                      some (5, ([(0, 2), (1, 2), (0, 3), (1, 3)] ++ [(0, 4), (1, 4), (2, (3 + (p_size % 2)))]), false)
def q_l_shape (TL : List (Addr × Str)) : Sp := fun vs H Q _ => ∃ (F : Hp) (p_sort : Nat) (p_size : Nat) (rr : (Nat × (List (Nat × Nat)) × Bool)), vs = [(V.int ((p_sort : Nat) : Int)), (V.int ((p_size : Nat) : Int))] ∧ Same F H ∧ NoT F ∧ f_l_shape p_sort p_size = some rr ∧ ∀ v F' H', Ext ⟨[], TL⟩ F H F' H' → (rT3 rN (rL (rT2 rN rN)) rB).r F' v rr → Q v H'
section
variable {P : Program} {w : World} {K : PySem.W.Frag} {mg : Str → Option Value} {base : Heap}
theorem t_l_shape (T : Tx mg) (F : DefAt K mg "_law_shape" s_l_shape ["sort", "size"]) (c_l_between : Cal P w K mg base CX0 1 "_law_between" (q_l_between TL)) : Cal P w K mg base CX0 2 "_law_shape" (q_l_shape TL) := by
  refine F.cal sc_l_shape (fun vs H Q E h => ?_) (fun f cdv A outer s H vs Q E hr h => ?_)
  · obtain ⟨_, _, _, _, rfl, _⟩ := h
    rfl
  · obtain ⟨F, p_sort, p_size, rr, rfl, sm0, nt0, hf, q⟩ := h
    have hf : _ = some rr := hf
    unfold f_l_shape at hf
    refine ⟨_, (pss_cons (ps_set (i := 2) sc_l_shape.nd rfl (Or.inl rfl) (pe_op op_cat (pe_lc (own := [("p", 6)]) (g := gName 6) rfl sc_l_shape.nd (pi_range1 rfl T.z_range (pa_cons (pe_op op_add pe_int (pv 1)) pa_nil)) (blkOk_by (own := [("p", 6)]) (N := ["sort", "size", "ring", "three", "rings", "more", "p"]) (sc := defScope s_l_shape) (by decide +kernel)) (fun _ _ _ _ _ => (pg_name (i := 6) sc_l_shape.nd rfl (Or.inl rfl))) (fun _ _ _ _ _ => pts_nil) (fun _ _ _ _ _ => (pe_tup (pa_cons (pv 6) (pa_cons (pe_op op_add (pv 6) pe_int) pa_nil))))) (pe_lst (pa_cons (pe_tup (pa_cons pe_int (pa_cons (pe_op op_add pe_int (pv 1)) pa_nil))) pa_nil))))
      (pss_cons (ps_set (i := 3) sc_l_shape.nd rfl (Or.inl rfl) (pe_lst (pa_cons (pe_tup (pa_cons pe_int (pa_cons pe_int pa_nil))) (pa_cons (pe_tup (pa_cons pe_int (pa_cons pe_int pa_nil))) (pa_cons (pe_tup (pa_cons pe_int (pa_cons pe_int pa_nil))) (pa_cons (pe_tup (pa_cons pe_int (pa_cons pe_int pa_nil))) pa_nil))))))
      (pss_cons (ps_set (i := 4) sc_l_shape.nd rfl (Or.inl rfl) (pe_lst (pa_cons (pe_tup (pa_cons pe_int (pa_cons pe_int pa_nil))) (pa_cons (pe_tup (pa_cons pe_int (pa_cons pe_int pa_nil))) (pa_cons (pe_tup (pa_cons pe_int (pa_cons pe_int pa_nil))) (pa_cons (pe_tup (pa_cons pe_int (pa_cons pe_int pa_nil))) pa_nil))))))
      (pss_cons (ps_if (pt_cmpR op_eq (pv 0) pe_int (nomark _))
        (pss_one (ps_ret (pe_tup (pa_cons pe_int (pa_cons (pe_lst pa_nil) (pa_cons pe_bl pa_nil)))))) pss_nil)
      (pss_cons (ps_if (pt_cmpR op_lt (pv 0) pe_int (nomark _))
        (pss_one (ps_ret (pe_tup (pa_cons (pe_op op_add pe_int (pv 1)) (pa_cons (pv 2) (pa_cons (pe_cmpR op_eq (pe_op op_mod (pv 1) pe_int) pe_int (nomark _)) pa_nil)))))) pss_nil)
      (pss_cons (ps_if (pt_cmpR op_eq (pv 0) pe_int (nomark _))
        (pss_one (ps_ret (pe_tup (pa_cons pe_int (pa_cons (pe_op op_cat (pv 3) (pe_lst (pa_cons (pe_tup (pa_cons pe_int (pa_cons pe_int pa_nil))) (pa_cons (pe_tup (pa_cons pe_int (pa_cons pe_int pa_nil))) pa_nil)))) (pa_cons pe_bl pa_nil)))))) pss_nil)
      (pss_cons (ps_if (pt_cmpR op_eq (pv 0) pe_int (nomark _))
        (pss_cons (ps_set (i := 5) sc_l_shape.nd rfl (Or.inl rfl) (pe_op op_mul pe_int (pe_op op_mod (pv 1) pe_int)))
      (pss_one (ps_ret (pe_tup (pa_cons (pe_op op_add pe_int (pv 5)) (pa_cons (pe_op op_cat (pe_op op_cat (pv 3) (pe_lst (pa_cons (pe_tup (pa_cons pe_int (pa_cons pe_int pa_nil))) (pa_cons (pe_tup (pa_cons pe_int (pa_cons (pe_op op_add pe_int (pv 5)) pa_nil))) pa_nil)))) (pe_lc (own := [("p", 6)]) (g := gName 6) rfl sc_l_shape.nd (pi_range2 rfl T.z_range (pa_cons pe_int (pa_cons (pe_op op_add pe_int (pv 5)) pa_nil))) (blkOk_by (own := [("p", 6)]) (N := ["sort", "size", "ring", "three", "rings", "more", "p"]) (sc := defScope s_l_shape) (by decide +kernel)) (fun _ _ _ _ _ => (pg_name (i := 6) sc_l_shape.nd rfl (Or.inl rfl))) (fun _ _ _ _ _ => pts_nil) (fun _ _ _ _ _ => (pe_tup (pa_cons (pv 6) (pa_cons (pe_op op_add (pv 6) pe_int) pa_nil)))))) (pa_cons pe_bl pa_nil))))))) pss_nil)
      (pss_cons (ps_if (pt_cmpR op_eq (pv 0) pe_int (nomark _))
        (pss_one (ps_ret (pe_tup (pa_cons pe_int (pa_cons (pe_op op_cat (pv 3) (pe_lst (pa_cons (pe_tup (pa_cons pe_int (pa_cons pe_int pa_nil))) (pa_cons (pe_tup (pa_cons pe_int (pa_cons pe_int pa_nil))) (pa_cons (pe_tup (pa_cons pe_int (pa_cons pe_int pa_nil))) pa_nil))))) (pa_cons pe_bl pa_nil)))))) pss_nil)
      (pss_cons (ps_if (pt_cmpR op_eq (pv 0) pe_int (nomark _))
        (pss_one (ps_ret (pe_tup (pa_cons pe_int (pa_cons (pe_op op_cat (pv 4) (pe_lst (pa_cons (pe_tup (pa_cons pe_int (pa_cons pe_int pa_nil))) (pa_cons (pe_tup (pa_cons pe_int (pa_cons pe_int pa_nil))) (pa_cons (pe_tup (pa_cons pe_int (pa_cons pe_int pa_nil))) (pa_cons (pe_tup (pa_cons pe_int (pa_cons pe_int pa_nil))) pa_nil)))))) (pa_cons pe_bl pa_nil)))))) pss_nil)
      (pss_cons (ps_if (pt_cmpR op_eq (pv 0) pe_int (nomark _))
        (pss_one (ps_ret (pe_tup (pa_cons pe_int (pa_cons (pe_op op_cat (pv 4) (pe_lst (pa_cons (pe_tup (pa_cons pe_int (pa_cons pe_int pa_nil))) (pa_cons (pe_tup (pa_cons pe_int (pa_cons pe_int pa_nil))) (pa_cons (pe_tup (pa_cons pe_int (pa_cons pe_int pa_nil))) (pa_cons (pe_tup (pa_cons pe_int (pa_cons pe_int pa_nil))) (pa_cons (pe_tup (pa_cons pe_int (pa_cons pe_int pa_nil))) pa_nil))))))) (pa_cons pe_bl pa_nil)))))) pss_nil)
      (pss_cons (ps_if (pt_cmpR op_eq (pv 0) pe_int (nomark _))
        (pss_one (ps_ret (pe_tup (pa_cons pe_int (pa_cons (pe_op op_cat (pv 4) (pe_lst (pa_cons (pe_tup (pa_cons pe_int (pa_cons pe_int pa_nil))) (pa_cons (pe_tup (pa_cons pe_int (pa_cons pe_int pa_nil))) pa_nil)))) (pa_cons pe_bl pa_nil)))))) pss_nil)
      (pss_cons (ps_if (pt_cmpR op_eq (pv 0) pe_int (nomark _))
        (pss_one (ps_ret (pe_tup (pa_cons (pe_op op_add pe_int (pe_op op_mod (pv 1) pe_int)) (pa_cons (pe_op op_cat (pv 3) (pe_cal c_l_between hr (by decide) rfl pass0 (pa_cons pe_int (pa_cons (pe_op op_add pe_int (pe_op op_mod (pv 1) pe_int)) pa_nil)))) (pa_cons pe_bl pa_nil)))))) pss_nil)
      (pss_cons (ps_if (pt_cmpR op_eq (pv 0) pe_int (nomark _))
        (pss_one (ps_ret (pe_tup (pa_cons pe_int (pa_cons (pe_lst (pa_cons (pe_tup (pa_cons pe_int (pa_cons pe_int pa_nil))) (pa_cons (pe_tup (pa_cons pe_int (pa_cons pe_int pa_nil))) (pa_cons (pe_tup (pa_cons pe_int (pa_cons pe_int pa_nil))) (pa_cons (pe_tup (pa_cons pe_int (pa_cons pe_int pa_nil))) (pa_cons (pe_tup (pa_cons pe_int (pa_cons pe_int pa_nil))) (pa_cons (pe_tup (pa_cons pe_int (pa_cons pe_int pa_nil))) (pa_cons (pe_tup (pa_cons pe_int (pa_cons pe_int pa_nil))) (pa_cons (pe_tup (pa_cons pe_int (pa_cons pe_int pa_nil))) (pa_cons (pe_tup (pa_cons pe_int (pa_cons pe_int pa_nil))) pa_nil)))))))))) (pa_cons pe_bl pa_nil)))))) pss_nil)
      (pss_one (ps_ret (pe_tup (pa_cons pe_int (pa_cons (pe_op op_cat (pv 3) (pe_lst (pa_cons (pe_tup (pa_cons pe_int (pa_cons pe_int pa_nil))) (pa_cons (pe_tup (pa_cons pe_int (pa_cons pe_int pa_nil))) (pa_cons (pe_tup (pa_cons pe_int (pa_cons (pe_op op_add pe_int (pe_op op_mod (pv 1) pe_int)) pa_nil))) pa_nil))))) (pa_cons pe_bl pa_nil))))))))))))))))))), ?_⟩
    have hE0 : Wst ⟨[], TL⟩ F H [rN.at p_sort, rN.at p_size, sAny, sAny, sAny, sAny, sAny] [] (start ["sort", "size", "ring", "three", "rings", "more", "p"] [(V.int ((p_sort : Nat) : Int)), (V.int ((p_size : Nat) : Int))]) F H := Wst.start (vs := [(V.int ((p_sort : Nat) : Int)), (V.int ((p_size : Nat) : Int))]) (n := 5) (ss := [rN.at p_sort, rN.at p_size]) (cs := []) sm0 nt0 (fun p hp => by cases hp) List.nodup_nil (.cons ⟨_, rfl, rfl⟩ (.cons ⟨_, rfl, rfl⟩ .nil))
    revert hE0
    generalize start ["sort", "size", "ring", "three", "rings", "more", "p"] [(V.int ((p_sort : Nat) : Int)), (V.int ((p_size : Nat) : Int))] = σ0
    intro hE0
    refine x_seq ?_
    refine x_asg ?_
    refine x_op ?_
    refine x_lc ?_
    refine x_rg1 ?_
    refine x_cons ?_
    refine x_op ?_
    refine w_cN 2 ?_
    refine w_vN hE0 (i := 1) rfl ?_
    refine w_addN ?_
    refine x_nil ?_
    obtain ⟨_, u1, hf⟩ := bnd hf
    have u1 := gd_ok u1
    refine w_r1 u1 ?_
    obtain ⟨x23, hx23, hf⟩ := bnd hf
    obtain ⟨_, u24, hf⟩ := bnd hf
    have u24 := gd_ok u24
    intro c2 d3
    refine w_lc (B := (rT2 rN rN)) hx23 u24 hE0 d3 (fun _ _ _ sm w30 => jok_r0 w30.fh w30.nt) (fun x4 v6 o7 ac14 _ _ s8 r9 hE10 hb11 z12 ew13 => ?_) (fun _ _ o27 s28 hE29 => ?_)
    · have hE10 : Wst ⟨[], TL⟩ _ _ [rN.at p_sort, rN.at p_size, sAny, sAny, sAny, sAny, sAny] [(c2, cL (rT2 rN rN) ac14)] _ _ _ := hE10
      refine w_nameW (ss' := [rN.at p_sort, rN.at p_size, sAny, sAny, sAny, sAny, rN.at x4]) hE10 rfl r9 (by decide) ew13 fun _ ew18 hE17 => ?_
      refine ⟨ew18, ?_⟩
      refine x_yes ?_
      refine x_T ?_
      refine m_tup ?_
      refine x_cons ?_
      refine w_vN hE17 (i := 6) rfl ?_
      refine x_cons ?_
      refine x_op ?_
      refine w_vN hE17 (i := 6) rfl ?_
      refine w_cN 1 ?_
      refine w_addN ?_
      refine x_nil ?_
      refine w_tup2 (R := rN) (S := rN) hE17 rfl rfl fun v19 _ _ s20 hE22 r21 => ?_
      have hb11 := Option.some.inj hb11
      subst hb11
      exact w_acc (s := ()) hE22 (s8.trans s20) r21 z12 ew18 rfl
    have hE31 : Wst ⟨[], TL⟩ _ _ [rN.at p_sort, rN.at p_size, sAny, sAny, sAny, sAny, sAny] [(c2, cL (rT2 rN rN) x23)] _ _ _ := hE29
    refine m_lst ?_
    refine x_cons ?_
    refine m_tup ?_
    refine x_cons ?_
    refine w_cN 0 ?_
    refine x_cons ?_
    refine x_op ?_
    refine w_cN 2 ?_
    refine w_vN hE31 (i := 1) rfl ?_
    refine w_addN ?_
    refine x_nil ?_
    refine w_tup2 (R := rN) (S := rN) hE31 rfl rfl fun v32 _ _ s33 hE35 r34 => ?_
    refine x_nil ?_
    refine w_lstF hE35 (R := (rT2 rN rN)) (l := [(0, (2 + p_size))]) (by show 1 ≤ 100000; decide) (.cons r34 .nil) fun v36 _ _ s37 hE39 r38 => ?_
    obtain ⟨_, u40, hf⟩ := bnd hf
    have u40 := gd_ok u40
    refine w_catF hE39 (lv_c hE39 (k := 0) rfl) (lv_f hE39.fh r38) u40 fun v41 _ _ s42 hE44 r43 => ?_
    refine w_name (R := (rL (rT2 rN rN))) (ss' := [rN.at p_sort, rN.at p_size, (rL (rT2 rN rN)).at (x23 ++ [(0, (2 + p_size))]), sAny, sAny, sAny, sAny]) hE44 rfl r43 fun _ hE45 => ?_
    refine x_seq ?_
    refine x_asg ?_
    refine m_lst ?_
    refine x_cons ?_
    refine m_tup ?_
    refine x_cons ?_
    refine w_cN 0 ?_
    refine x_cons ?_
    refine w_cN 2 ?_
    refine x_nil ?_
    refine w_tup2 (R := rN) (S := rN) hE45 rfl rfl fun v46 _ _ s47 hE49 r48 => ?_
    refine x_cons ?_
    refine m_tup ?_
    refine x_cons ?_
    refine w_cN 1 ?_
    refine x_cons ?_
    refine w_cN 2 ?_
    refine x_nil ?_
    refine w_tup2 (R := rN) (S := rN) hE49 rfl rfl fun v50 _ _ s51 hE53 r52 => ?_
    refine x_cons ?_
    refine m_tup ?_
    refine x_cons ?_
    refine w_cN 0 ?_
    refine x_cons ?_
    refine w_cN 3 ?_
    refine x_nil ?_
    refine w_tup2 (R := rN) (S := rN) hE53 rfl rfl fun v54 _ _ s55 hE57 r56 => ?_
    refine x_cons ?_
    refine m_tup ?_
    refine x_cons ?_
    refine w_cN 1 ?_
    refine x_cons ?_
    refine w_cN 3 ?_
    refine x_nil ?_
    refine w_tup2 (R := rN) (S := rN) hE57 rfl rfl fun v58 _ _ s59 hE61 r60 => ?_
    refine x_nil ?_
    refine w_lstF hE61 (R := (rT2 rN rN)) (l := [(0, 2), (1, 2), (0, 3), (1, 3)]) (by show 4 ≤ 100000; decide) (.cons ((rT2 rN rN).mono s59 ((rT2 rN rN).mono s55 ((rT2 rN rN).mono s51 r48))) (.cons ((rT2 rN rN).mono s59 ((rT2 rN rN).mono s55 r52)) (.cons ((rT2 rN rN).mono s59 r56) (.cons r60 .nil)))) fun v62 _ _ s63 hE65 r64 => ?_
    refine w_name (R := (rL (rT2 rN rN))) (ss' := [rN.at p_sort, rN.at p_size, (rL (rT2 rN rN)).at (x23 ++ [(0, (2 + p_size))]), (rL (rT2 rN rN)).at [(0, 2), (1, 2), (0, 3), (1, 3)], sAny, sAny, sAny]) hE65 rfl r64 fun _ hE66 => ?_
    refine x_seq ?_
    refine x_asg ?_
    refine m_lst ?_
    refine x_cons ?_
    refine m_tup ?_
    refine x_cons ?_
    refine w_cN 0 ?_
    refine x_cons ?_
    refine w_cN 1 ?_
    refine x_nil ?_
    refine w_tup2 (R := rN) (S := rN) hE66 rfl rfl fun v67 _ _ s68 hE70 r69 => ?_
    refine x_cons ?_
    refine m_tup ?_
    refine x_cons ?_
    refine w_cN 1 ?_
    refine x_cons ?_
    refine w_cN 2 ?_
    refine x_nil ?_
    refine w_tup2 (R := rN) (S := rN) hE70 rfl rfl fun v71 _ _ s72 hE74 r73 => ?_
    refine x_cons ?_
    refine m_tup ?_
    refine x_cons ?_
    refine w_cN 2 ?_
    refine x_cons ?_
    refine w_cN 3 ?_
    refine x_nil ?_
    refine w_tup2 (R := rN) (S := rN) hE74 rfl rfl fun v75 _ _ s76 hE78 r77 => ?_
    refine x_cons ?_
    refine m_tup ?_
    refine x_cons ?_
    refine w_cN 0 ?_
    refine x_cons ?_
    refine w_cN 3 ?_
    refine x_nil ?_
    refine w_tup2 (R := rN) (S := rN) hE78 rfl rfl fun v79 _ _ s80 hE82 r81 => ?_
    refine x_nil ?_
    refine w_lstF hE82 (R := (rT2 rN rN)) (l := [(0, 1), (1, 2), (2, 3), (0, 3)]) (by show 4 ≤ 100000; decide) (.cons ((rT2 rN rN).mono s80 ((rT2 rN rN).mono s76 ((rT2 rN rN).mono s72 r69))) (.cons ((rT2 rN rN).mono s80 ((rT2 rN rN).mono s76 r73)) (.cons ((rT2 rN rN).mono s80 r77) (.cons r81 .nil)))) fun v83 _ _ s84 hE86 r85 => ?_
    refine w_name (R := (rL (rT2 rN rN))) (ss' := [rN.at p_sort, rN.at p_size, (rL (rT2 rN rN)).at (x23 ++ [(0, (2 + p_size))]), (rL (rT2 rN rN)).at [(0, 2), (1, 2), (0, 3), (1, 3)], (rL (rT2 rN rN)).at [(0, 1), (1, 2), (2, 3), (0, 3)], sAny, sAny]) hE86 rfl r85 fun _ hE87 => ?_
    refine x_seq ?_
    refine x_ifs ?_
    refine x_test ?_
    refine x_op ?_
    refine w_vN hE87 (i := 0) rfl ?_
    refine w_cN 0 ?_
    refine w_eqN ?_
    refine x_bl ?_
    refine x_itb (fun hc88 => ?_) (fun hc88 => ?_)
    · have hf := ite_t hf hc88
      refine x_ret ?_
      refine m_tup ?_
      refine x_cons ?_
      refine w_cN 1 ?_
      refine x_cons ?_
      refine m_lst ?_
      refine x_nil ?_
      refine w_lstF hE87 (R := (rT2 rN rN)) (l := ([] : List (Nat × Nat))) (by show 0 ≤ 100000; decide) .nil fun v89 _ _ s90 hE92 r91 => ?_
      refine x_cons ?_
      refine x_c ?_
      refine x_nil ?_
      refine w_tup3 (R := rN) (S := (rL (rT2 rN rN))) (T := rB) hE92 rfl r91 rfl fun v93 _ _ s94 hE96 r95 => ?_
      have hf := Option.some.inj hf
      subst hf
      exact q _ _ _ hE96.ex r95
    · have hf := ite_f hf hc88
      refine x_next ?_
      refine x_seq ?_
      refine x_ifs ?_
      refine x_test ?_
      refine x_op ?_
      refine w_vN hE87 (i := 0) rfl ?_
      refine w_cN 3 ?_
      refine w_ltN ?_
      refine x_bl ?_
      refine x_itb (fun hc97 => ?_) (fun hc97 => ?_)
      · have hf := ite_t hf hc97
        refine x_ret ?_
        refine m_tup ?_
        refine x_cons ?_
        refine x_op ?_
        refine w_cN 3 ?_
        refine w_vN hE87 (i := 1) rfl ?_
        refine w_addN ?_
        refine x_cons ?_
        refine w_var hE87 (i := 2) rfl fun v98 r99 => ?_
        refine x_cons ?_
        refine x_op ?_
        refine x_op ?_
        refine w_vN hE87 (i := 1) rfl ?_
        refine w_cN 2 ?_
        refine w_modN (by decide) ?_
        refine w_cN 1 ?_
        refine w_eqN ?_
        refine x_nil ?_
        refine w_tup3 (R := rN) (S := (rL (rT2 rN rN))) (T := rB) hE87 rfl r99 rfl fun v100 _ _ s101 hE103 r102 => ?_
        have hf := Option.some.inj hf
        subst hf
        exact q _ _ _ hE103.ex r102
      · have hf := ite_f hf hc97
        refine x_next ?_
        refine x_seq ?_
        refine x_ifs ?_
        refine x_test ?_
        refine x_op ?_
        refine w_vN hE87 (i := 0) rfl ?_
        refine w_cN 3 ?_
        refine w_eqN ?_
        refine x_bl ?_
        refine x_itb (fun hc104 => ?_) (fun hc104 => ?_)
        · have hf := ite_t hf hc104
          refine x_ret ?_
          refine m_tup ?_
          refine x_cons ?_
          refine w_cN 5 ?_
          refine x_cons ?_
          refine x_op ?_
          refine w_var hE87 (i := 3) rfl fun v105 r106 => ?_
          refine m_lst ?_
          refine x_cons ?_
          refine m_tup ?_
          refine x_cons ?_
          refine w_cN 0 ?_
          refine x_cons ?_
          refine w_cN 4 ?_
          refine x_nil ?_
          refine w_tup2 (R := rN) (S := rN) hE87 rfl rfl fun v107 _ _ s108 hE110 r109 => ?_
          refine x_cons ?_
          refine m_tup ?_
          refine x_cons ?_
          refine w_cN 1 ?_
          refine x_cons ?_
          refine w_cN 4 ?_
          refine x_nil ?_
          refine w_tup2 (R := rN) (S := rN) hE110 rfl rfl fun v111 _ _ s112 hE114 r113 => ?_
          refine x_nil ?_
          refine w_lstF hE114 (R := (rT2 rN rN)) (l := [(0, 4), (1, 4)]) (by show 2 ≤ 100000; decide) (.cons ((rT2 rN rN).mono s112 r109) (.cons r113 .nil)) fun v115 _ _ s116 hE118 r117 => ?_
          obtain ⟨_, u119, hf⟩ := bnd hf
          have u119 := gd_ok u119
          refine w_catF hE118 (lv_f hE118.fh ((rL (rT2 rN rN)).mono s116 ((rL (rT2 rN rN)).mono s112 ((rL (rT2 rN rN)).mono s108 r106)))) (lv_f hE118.fh r117) u119 fun v120 _ _ s121 hE123 r122 => ?_
          refine x_cons ?_
          refine x_c ?_
          refine x_nil ?_
          refine w_tup3 (R := rN) (S := (rL (rT2 rN rN))) (T := rB) hE123 rfl r122 rfl fun v124 _ _ s125 hE127 r126 => ?_
          have hf := Option.some.inj hf
          subst hf
          exact q _ _ _ hE127.ex r126
        · have hf := ite_f hf hc104
          refine x_next ?_
          refine x_seq ?_
          refine x_ifs ?_
          refine x_test ?_
          refine x_op ?_
          refine w_vN hE87 (i := 0) rfl ?_
          refine w_cN 4 ?_
          refine w_eqN ?_
          refine x_bl ?_
          refine x_itb (fun hc128 => ?_) (fun hc128 => ?_)
          · have hf := ite_t hf hc128
            refine x_seq ?_
            refine x_asg ?_
            refine x_op ?_
            refine w_cN 2 ?_
            refine x_op ?_
            refine w_vN hE87 (i := 1) rfl ?_
            refine w_cN 4 ?_
            refine w_modN (by decide) ?_
            obtain ⟨_, u129, hf⟩ := bnd hf
            have u129 := gd_ok u129
            refine w_mulN u129 ?_
            refine w_name (R := rN) (ss' := [rN.at p_sort, rN.at p_size, (rL (rT2 rN rN)).at (x23 ++ [(0, (2 + p_size))]), (rL (rT2 rN rN)).at [(0, 2), (1, 2), (0, 3), (1, 3)], (rL (rT2 rN rN)).at [(0, 1), (1, 2), (2, 3), (0, 3)], rN.at (2 * (p_size % 4)), sAny]) hE87 rfl rfl fun _ hE130 => ?_
            refine x_ret ?_
            refine m_tup ?_
            refine x_cons ?_
            refine x_op ?_
            refine w_cN 7 ?_
            refine w_vN hE130 (i := 5) rfl ?_
            refine w_addN ?_
            refine x_cons ?_
            refine x_op ?_
            refine x_op ?_
            refine w_var hE130 (i := 3) rfl fun v131 r132 => ?_
            refine m_lst ?_
            refine x_cons ?_
            refine m_tup ?_
            refine x_cons ?_
            refine w_cN 0 ?_
            refine x_cons ?_
            refine w_cN 4 ?_
            refine x_nil ?_
            refine w_tup2 (R := rN) (S := rN) hE130 rfl rfl fun v133 _ _ s134 hE136 r135 => ?_
            refine x_cons ?_
            refine m_tup ?_
            refine x_cons ?_
            refine w_cN 1 ?_
            refine x_cons ?_
            refine x_op ?_
            refine w_cN 6 ?_
            refine w_vN hE136 (i := 5) rfl ?_
            refine w_addN ?_
            refine x_nil ?_
            refine w_tup2 (R := rN) (S := rN) hE136 rfl rfl fun v137 _ _ s138 hE140 r139 => ?_
            refine x_nil ?_
            refine w_lstF hE140 (R := (rT2 rN rN)) (l := [(0, 4), (1, (6 + (2 * (p_size % 4))))]) (by show 2 ≤ 100000; decide) (.cons ((rT2 rN rN).mono s138 r135) (.cons r139 .nil)) fun v141 _ _ s142 hE144 r143 => ?_
            obtain ⟨_, u145, hf⟩ := bnd hf
            have u145 := gd_ok u145
            refine w_catF hE144 (lv_f hE144.fh ((rL (rT2 rN rN)).mono s142 ((rL (rT2 rN rN)).mono s138 ((rL (rT2 rN rN)).mono s134 r132)))) (lv_f hE144.fh r143) u145 fun v146 _ _ s147 hE149 r148 => ?_
            refine x_lc ?_
            refine x_rg2 ?_
            refine x_cons ?_
            refine w_cN 4 ?_
            refine x_cons ?_
            refine x_op ?_
            refine w_cN 6 ?_
            refine w_vN hE149 (i := 5) rfl ?_
            refine w_addN ?_
            refine x_nil ?_
            obtain ⟨_, u150, hf⟩ := bnd hf
            have u150 := gd_ok u150
            refine w_r2 u150 ?_
            obtain ⟨x172, hx172, hf⟩ := bnd hf
            obtain ⟨_, u173, hf⟩ := bnd hf
            have u173 := gd_ok u173
            intro c151 d152
            refine w_lc (B := (rT2 rN rN)) hx172 u173 hE149 d152 (fun _ _ _ sm w179 => jok_r w179.fh w179.nt) (fun x153 v155 o156 ac163 _ _ s157 r158 hE159 hb160 z161 ew162 => ?_) (fun _ _ o176 s177 hE178 => ?_)
            · have hE159 : Wst ⟨[], TL⟩ _ _ [rN.at p_sort, rN.at p_size, (rL (rT2 rN rN)).at (x23 ++ [(0, (2 + p_size))]), (rL (rT2 rN rN)).at [(0, 2), (1, 2), (0, 3), (1, 3)], (rL (rT2 rN rN)).at [(0, 1), (1, 2), (2, 3), (0, 3)], rN.at (2 * (p_size % 4)), sAny] [(c151, cL (rT2 rN rN) ac163), (c2, cL (rT2 rN rN) x23)] _ _ _ := hE159
              refine w_nameW (ss' := [rN.at p_sort, rN.at p_size, (rL (rT2 rN rN)).at (x23 ++ [(0, (2 + p_size))]), (rL (rT2 rN rN)).at [(0, 2), (1, 2), (0, 3), (1, 3)], (rL (rT2 rN rN)).at [(0, 1), (1, 2), (2, 3), (0, 3)], rN.at (2 * (p_size % 4)), rN.at x153]) hE159 rfl r158 (by decide) ew162 fun _ ew167 hE166 => ?_
              refine ⟨ew167, ?_⟩
              refine x_yes ?_
              refine x_T ?_
              refine m_tup ?_
              refine x_cons ?_
              refine w_vN hE166 (i := 6) rfl ?_
              refine x_cons ?_
              refine x_op ?_
              refine w_vN hE166 (i := 6) rfl ?_
              refine w_cN 1 ?_
              refine w_addN ?_
              refine x_nil ?_
              refine w_tup2 (R := rN) (S := rN) hE166 rfl rfl fun v168 _ _ s169 hE171 r170 => ?_
              have hb160 := Option.some.inj hb160
              subst hb160
              exact w_acc (s := ()) hE171 (s157.trans s169) r170 z161 ew167 rfl
            have hE180 : Wst ⟨[], TL⟩ _ _ [rN.at p_sort, rN.at p_size, (rL (rT2 rN rN)).at (x23 ++ [(0, (2 + p_size))]), (rL (rT2 rN rN)).at [(0, 2), (1, 2), (0, 3), (1, 3)], (rL (rT2 rN rN)).at [(0, 1), (1, 2), (2, 3), (0, 3)], rN.at (2 * (p_size % 4)), sAny] [(c151, cL (rT2 rN rN) x172), (c2, cL (rT2 rN rN) x23)] _ _ _ := hE178
            obtain ⟨_, u181, hf⟩ := bnd hf
            have u181 := gd_ok u181
            refine w_catF hE180 (lv_f hE180.fh ((rL (rT2 rN rN)).mono s177 r148)) (lv_c hE180 (k := 0) rfl) u181 fun v182 _ _ s183 hE185 r184 => ?_
            refine x_cons ?_
            refine x_c ?_
            refine x_nil ?_
            refine w_tup3 (R := rN) (S := (rL (rT2 rN rN))) (T := rB) hE185 rfl r184 rfl fun v186 _ _ s187 hE189 r188 => ?_
            have hf := Option.some.inj hf
            subst hf
            exact q _ _ _ hE189.ex r188
          · have hf := ite_f hf hc128
            refine x_next ?_
            refine x_seq ?_
            refine x_ifs ?_
            refine x_test ?_
            refine x_op ?_
            refine w_vN hE87 (i := 0) rfl ?_
            refine w_cN 5 ?_
            refine w_eqN ?_
            refine x_bl ?_
            refine x_itb (fun hc190 => ?_) (fun hc190 => ?_)
            · have hf := ite_t hf hc190
              refine x_ret ?_
              refine m_tup ?_
              refine x_cons ?_
              refine w_cN 6 ?_
              refine x_cons ?_
              refine x_op ?_
              refine w_var hE87 (i := 3) rfl fun v191 r192 => ?_
              refine m_lst ?_
              refine x_cons ?_
              refine m_tup ?_
              refine x_cons ?_
              refine w_cN 0 ?_
              refine x_cons ?_
              refine w_cN 4 ?_
              refine x_nil ?_
              refine w_tup2 (R := rN) (S := rN) hE87 rfl rfl fun v193 _ _ s194 hE196 r195 => ?_
              refine x_cons ?_
              refine m_tup ?_
              refine x_cons ?_
              refine w_cN 4 ?_
              refine x_cons ?_
              refine w_cN 5 ?_
              refine x_nil ?_
              refine w_tup2 (R := rN) (S := rN) hE196 rfl rfl fun v197 _ _ s198 hE200 r199 => ?_
              refine x_cons ?_
              refine m_tup ?_
              refine x_cons ?_
              refine w_cN 1 ?_
              refine x_cons ?_
              refine w_cN 5 ?_
              refine x_nil ?_
              refine w_tup2 (R := rN) (S := rN) hE200 rfl rfl fun v201 _ _ s202 hE204 r203 => ?_
              refine x_nil ?_
              refine w_lstF hE204 (R := (rT2 rN rN)) (l := [(0, 4), (4, 5), (1, 5)]) (by show 3 ≤ 100000; decide) (.cons ((rT2 rN rN).mono s202 ((rT2 rN rN).mono s198 r195)) (.cons ((rT2 rN rN).mono s202 r199) (.cons r203 .nil))) fun v205 _ _ s206 hE208 r207 => ?_
              obtain ⟨_, u209, hf⟩ := bnd hf
              have u209 := gd_ok u209
              refine w_catF hE208 (lv_f hE208.fh ((rL (rT2 rN rN)).mono s206 ((rL (rT2 rN rN)).mono s202 ((rL (rT2 rN rN)).mono s198 ((rL (rT2 rN rN)).mono s194 r192))))) (lv_f hE208.fh r207) u209 fun v210 _ _ s211 hE213 r212 => ?_
              refine x_cons ?_
              refine x_c ?_
              refine x_nil ?_
              refine w_tup3 (R := rN) (S := (rL (rT2 rN rN))) (T := rB) hE213 rfl r212 rfl fun v214 _ _ s215 hE217 r216 => ?_
              have hf := Option.some.inj hf
              subst hf
              exact q _ _ _ hE217.ex r216
            · have hf := ite_f hf hc190
              refine x_next ?_
              refine x_seq ?_
              refine x_ifs ?_
              refine x_test ?_
              refine x_op ?_
              refine w_vN hE87 (i := 0) rfl ?_
              refine w_cN 6 ?_
              refine w_eqN ?_
              refine x_bl ?_
              refine x_itb (fun hc218 => ?_) (fun hc218 => ?_)
              · have hf := ite_t hf hc218
                refine x_ret ?_
                refine m_tup ?_
                refine x_cons ?_
                refine w_cN 7 ?_
                refine x_cons ?_
                refine x_op ?_
                refine w_var hE87 (i := 4) rfl fun v219 r220 => ?_
                refine m_lst ?_
                refine x_cons ?_
                refine m_tup ?_
                refine x_cons ?_
                refine w_cN 3 ?_
                refine x_cons ?_
                refine w_cN 4 ?_
                refine x_nil ?_
                refine w_tup2 (R := rN) (S := rN) hE87 rfl rfl fun v221 _ _ s222 hE224 r223 => ?_
                refine x_cons ?_
                refine m_tup ?_
                refine x_cons ?_
                refine w_cN 4 ?_
                refine x_cons ?_
                refine w_cN 5 ?_
                refine x_nil ?_
                refine w_tup2 (R := rN) (S := rN) hE224 rfl rfl fun v225 _ _ s226 hE228 r227 => ?_
                refine x_cons ?_
                refine m_tup ?_
                refine x_cons ?_
                refine w_cN 5 ?_
                refine x_cons ?_
                refine w_cN 6 ?_
                refine x_nil ?_
                refine w_tup2 (R := rN) (S := rN) hE228 rfl rfl fun v229 _ _ s230 hE232 r231 => ?_
                refine x_cons ?_
                refine m_tup ?_
                refine x_cons ?_
                refine w_cN 3 ?_
                refine x_cons ?_
                refine w_cN 6 ?_
                refine x_nil ?_
                refine w_tup2 (R := rN) (S := rN) hE232 rfl rfl fun v233 _ _ s234 hE236 r235 => ?_
                refine x_nil ?_
                refine w_lstF hE236 (R := (rT2 rN rN)) (l := [(3, 4), (4, 5), (5, 6), (3, 6)]) (by show 4 ≤ 100000; decide) (.cons ((rT2 rN rN).mono s234 ((rT2 rN rN).mono s230 ((rT2 rN rN).mono s226 r223))) (.cons ((rT2 rN rN).mono s234 ((rT2 rN rN).mono s230 r227)) (.cons ((rT2 rN rN).mono s234 r231) (.cons r235 .nil)))) fun v237 _ _ s238 hE240 r239 => ?_
                obtain ⟨_, u241, hf⟩ := bnd hf
                have u241 := gd_ok u241
                refine w_catF hE240 (lv_f hE240.fh ((rL (rT2 rN rN)).mono s238 ((rL (rT2 rN rN)).mono s234 ((rL (rT2 rN rN)).mono s230 ((rL (rT2 rN rN)).mono s226 ((rL (rT2 rN rN)).mono s222 r220)))))) (lv_f hE240.fh r239) u241 fun v242 _ _ s243 hE245 r244 => ?_
                refine x_cons ?_
                refine x_c ?_
                refine x_nil ?_
                refine w_tup3 (R := rN) (S := (rL (rT2 rN rN))) (T := rB) hE245 rfl r244 rfl fun v246 _ _ s247 hE249 r248 => ?_
                have hf := Option.some.inj hf
                subst hf
                exact q _ _ _ hE249.ex r248
              · have hf := ite_f hf hc218
                refine x_next ?_
                refine x_seq ?_
                refine x_ifs ?_
                refine x_test ?_
                refine x_op ?_
                refine w_vN hE87 (i := 0) rfl ?_
                refine w_cN 7 ?_
                refine w_eqN ?_
                refine x_bl ?_
                refine x_itb (fun hc250 => ?_) (fun hc250 => ?_)
                · have hf := ite_t hf hc250
                  refine x_ret ?_
                  refine m_tup ?_
                  refine x_cons ?_
                  refine w_cN 8 ?_
                  refine x_cons ?_
                  refine x_op ?_
                  refine w_var hE87 (i := 4) rfl fun v251 r252 => ?_
                  refine m_lst ?_
                  refine x_cons ?_
                  refine m_tup ?_
                  refine x_cons ?_
                  refine w_cN 3 ?_
                  refine x_cons ?_
                  refine w_cN 4 ?_
                  refine x_nil ?_
                  refine w_tup2 (R := rN) (S := rN) hE87 rfl rfl fun v253 _ _ s254 hE256 r255 => ?_
                  refine x_cons ?_
                  refine m_tup ?_
                  refine x_cons ?_
                  refine w_cN 4 ?_
                  refine x_cons ?_
                  refine w_cN 5 ?_
                  refine x_nil ?_
                  refine w_tup2 (R := rN) (S := rN) hE256 rfl rfl fun v257 _ _ s258 hE260 r259 => ?_
                  refine x_cons ?_
                  refine m_tup ?_
                  refine x_cons ?_
                  refine w_cN 5 ?_
                  refine x_cons ?_
                  refine w_cN 6 ?_
                  refine x_nil ?_
                  refine w_tup2 (R := rN) (S := rN) hE260 rfl rfl fun v261 _ _ s262 hE264 r263 => ?_
                  refine x_cons ?_
                  refine m_tup ?_
                  refine x_cons ?_
                  refine w_cN 6 ?_
                  refine x_cons ?_
                  refine w_cN 7 ?_
                  refine x_nil ?_
                  refine w_tup2 (R := rN) (S := rN) hE264 rfl rfl fun v265 _ _ s266 hE268 r267 => ?_
                  refine x_cons ?_
                  refine m_tup ?_
                  refine x_cons ?_
                  refine w_cN 4 ?_
                  refine x_cons ?_
                  refine w_cN 7 ?_
                  refine x_nil ?_
                  refine w_tup2 (R := rN) (S := rN) hE268 rfl rfl fun v269 _ _ s270 hE272 r271 => ?_
                  refine x_nil ?_
                  refine w_lstF hE272 (R := (rT2 rN rN)) (l := [(3, 4), (4, 5), (5, 6), (6, 7), (4, 7)]) (by show 5 ≤ 100000; decide) (.cons ((rT2 rN rN).mono s270 ((rT2 rN rN).mono s266 ((rT2 rN rN).mono s262 ((rT2 rN rN).mono s258 r255)))) (.cons ((rT2 rN rN).mono s270 ((rT2 rN rN).mono s266 ((rT2 rN rN).mono s262 r259))) (.cons ((rT2 rN rN).mono s270 ((rT2 rN rN).mono s266 r263)) (.cons ((rT2 rN rN).mono s270 r267) (.cons r271 .nil))))) fun v273 _ _ s274 hE276 r275 => ?_
                  obtain ⟨_, u277, hf⟩ := bnd hf
                  have u277 := gd_ok u277
                  refine w_catF hE276 (lv_f hE276.fh ((rL (rT2 rN rN)).mono s274 ((rL (rT2 rN rN)).mono s270 ((rL (rT2 rN rN)).mono s266 ((rL (rT2 rN rN)).mono s262 ((rL (rT2 rN rN)).mono s258 ((rL (rT2 rN rN)).mono s254 r252))))))) (lv_f hE276.fh r275) u277 fun v278 _ _ s279 hE281 r280 => ?_
                  refine x_cons ?_
                  refine x_c ?_
                  refine x_nil ?_
                  refine w_tup3 (R := rN) (S := (rL (rT2 rN rN))) (T := rB) hE281 rfl r280 rfl fun v282 _ _ s283 hE285 r284 => ?_
                  have hf := Option.some.inj hf
                  subst hf
                  exact q _ _ _ hE285.ex r284
                · have hf := ite_f hf hc250
                  refine x_next ?_
                  refine x_seq ?_
                  refine x_ifs ?_
                  refine x_test ?_
                  refine x_op ?_
                  refine w_vN hE87 (i := 0) rfl ?_
                  refine w_cN 8 ?_
                  refine w_eqN ?_
                  refine x_bl ?_
                  refine x_itb (fun hc286 => ?_) (fun hc286 => ?_)
                  · have hf := ite_t hf hc286
                    refine x_ret ?_
                    refine m_tup ?_
                    refine x_cons ?_
                    refine w_cN 4 ?_
                    refine x_cons ?_
                    refine x_op ?_
                    refine w_var hE87 (i := 4) rfl fun v287 r288 => ?_
                    refine m_lst ?_
                    refine x_cons ?_
                    refine m_tup ?_
                    refine x_cons ?_
                    refine w_cN 0 ?_
                    refine x_cons ?_
                    refine w_cN 2 ?_
                    refine x_nil ?_
                    refine w_tup2 (R := rN) (S := rN) hE87 rfl rfl fun v289 _ _ s290 hE292 r291 => ?_
                    refine x_cons ?_
                    refine m_tup ?_
                    refine x_cons ?_
                    refine w_cN 1 ?_
                    refine x_cons ?_
                    refine w_cN 3 ?_
                    refine x_nil ?_
                    refine w_tup2 (R := rN) (S := rN) hE292 rfl rfl fun v293 _ _ s294 hE296 r295 => ?_
                    refine x_nil ?_
                    refine w_lstF hE296 (R := (rT2 rN rN)) (l := [(0, 2), (1, 3)]) (by show 2 ≤ 100000; decide) (.cons ((rT2 rN rN).mono s294 r291) (.cons r295 .nil)) fun v297 _ _ s298 hE300 r299 => ?_
                    obtain ⟨_, u301, hf⟩ := bnd hf
                    have u301 := gd_ok u301
                    refine w_catF hE300 (lv_f hE300.fh ((rL (rT2 rN rN)).mono s298 ((rL (rT2 rN rN)).mono s294 ((rL (rT2 rN rN)).mono s290 r288)))) (lv_f hE300.fh r299) u301 fun v302 _ _ s303 hE305 r304 => ?_
                    refine x_cons ?_
                    refine x_c ?_
                    refine x_nil ?_
                    refine w_tup3 (R := rN) (S := (rL (rT2 rN rN))) (T := rB) hE305 rfl r304 rfl fun v306 _ _ s307 hE309 r308 => ?_
                    have hf := Option.some.inj hf
                    subst hf
                    exact q _ _ _ hE309.ex r308
                  · have hf := ite_f hf hc286
                    refine x_next ?_
                    refine x_seq ?_
                    refine x_ifs ?_
                    refine x_test ?_
                    refine x_op ?_
                    refine w_vN hE87 (i := 0) rfl ?_
                    refine w_cN 9 ?_
                    refine w_eqN ?_
                    refine x_bl ?_
                    refine x_itb (fun hc310 => ?_) (fun hc310 => ?_)
                    · have hf := ite_t hf hc310
                      refine x_ret ?_
                      refine m_tup ?_
                      refine x_cons ?_
                      refine x_op ?_
                      refine w_cN 6 ?_
                      refine x_op ?_
                      refine w_vN hE87 (i := 1) rfl ?_
                      refine w_cN 3 ?_
                      refine w_modN (by decide) ?_
                      refine w_addN ?_
                      refine x_cons ?_
                      refine x_op ?_
                      refine w_var hE87 (i := 3) rfl fun v311 r312 => ?_
                      refine x_call ?_
                      refine x_cons ?_
                      refine w_cN 4 ?_
                      refine x_cons ?_
                      refine x_op ?_
                      refine w_cN 6 ?_
                      refine x_op ?_
                      refine w_vN hE87 (i := 1) rfl ?_
                      refine w_cN 3 ?_
                      refine w_modN (by decide) ?_
                      refine w_addN ?_
                      refine x_nil ?_
                      obtain ⟨x313, hx313, hf⟩ := bnd hf
                      refine ⟨_, 4, (6 + (p_size % 3)), x313, rfl, hE87.fh, hE87.nt, hx313, fun c316 _ _ e314 o317 p318 q319 => ?_⟩
                      have hE320 : Wst ⟨[], TL⟩ _ _ [rN.at p_sort, rN.at p_size, (rL (rT2 rN rN)).at (x23 ++ [(0, (2 + p_size))]), (rL (rT2 rN rN)).at [(0, 2), (1, 2), (0, 3), (1, 3)], (rL (rT2 rN rN)).at [(0, 1), (1, 2), (2, 3), (0, 3)], sAny, sAny] [(c2, cL (rT2 rN rN) x23)] _ _ _ := hE87.grow e314
                      have o321 := hE87.own o317
                      have hE322 : Wst ⟨[], TL⟩ _ _ [rN.at p_sort, rN.at p_size, (rL (rT2 rN rN)).at (x23 ++ [(0, (2 + p_size))]), (rL (rT2 rN rN)).at [(0, 2), (1, 2), (0, 3), (1, 3)], (rL (rT2 rN rN)).at [(0, 1), (1, 2), (2, 3), (0, 3)], sAny, sAny] [(c316, cL (rT2 rN rN) x313), (c2, cL (rT2 rN rN) x23)] _ _ _ := hE320.addC (A := cL (rT2 rN rN) x313) o321 p318 q319 (hE87.fresh_ne o317)
                      obtain ⟨_, u323, hf⟩ := bnd hf
                      have u323 := gd_ok u323
                      refine w_catF hE322 (lv_f hE322.fh ((rL (rT2 rN rN)).mono e314.ff r312)) (lv_c hE322 (k := 0) rfl) u323 fun v324 _ _ s325 hE327 r326 => ?_
                      refine x_cons ?_
                      refine x_c ?_
                      refine x_nil ?_
                      refine w_tup3 (R := rN) (S := (rL (rT2 rN rN))) (T := rB) hE327 rfl r326 rfl fun v328 _ _ s329 hE331 r330 => ?_
                      have hf := Option.some.inj hf
                      subst hf
                      exact q _ _ _ hE331.ex r330
                    · have hf := ite_f hf hc310
                      refine x_next ?_
                      refine x_seq ?_
                      refine x_ifs ?_
                      refine x_test ?_
                      refine x_op ?_
                      refine w_vN hE87 (i := 0) rfl ?_
                      refine w_cN 10 ?_
                      refine w_eqN ?_
                      refine x_bl ?_
                      refine x_itb (fun hc332 => ?_) (fun hc332 => ?_)
                      · have hf := ite_t hf hc332
                        refine x_ret ?_
                        refine m_tup ?_
                        refine x_cons ?_
                        refine w_cN 8 ?_
                        refine x_cons ?_
                        refine m_lst ?_
                        refine x_cons ?_
                        refine m_tup ?_
                        refine x_cons ?_
                        refine w_cN 0 ?_
                        refine x_cons ?_
                        refine w_cN 2 ?_
                        refine x_nil ?_
                        refine w_tup2 (R := rN) (S := rN) hE87 rfl rfl fun v333 _ _ s334 hE336 r335 => ?_
                        refine x_cons ?_
                        refine m_tup ?_
                        refine x_cons ?_
                        refine w_cN 2 ?_
                        refine x_cons ?_
                        refine w_cN 3 ?_
                        refine x_nil ?_
                        refine w_tup2 (R := rN) (S := rN) hE336 rfl rfl fun v337 _ _ s338 hE340 r339 => ?_
                        refine x_cons ?_
                        refine m_tup ?_
                        refine x_cons ?_
                        refine w_cN 1 ?_
                        refine x_cons ?_
                        refine w_cN 3 ?_
                        refine x_nil ?_
                        refine w_tup2 (R := rN) (S := rN) hE340 rfl rfl fun v341 _ _ s342 hE344 r343 => ?_
                        refine x_cons ?_
                        refine m_tup ?_
                        refine x_cons ?_
                        refine w_cN 0 ?_
                        refine x_cons ?_
                        refine w_cN 4 ?_
                        refine x_nil ?_
                        refine w_tup2 (R := rN) (S := rN) hE344 rfl rfl fun v345 _ _ s346 hE348 r347 => ?_
                        refine x_cons ?_
                        refine m_tup ?_
                        refine x_cons ?_
                        refine w_cN 4 ?_
                        refine x_cons ?_
                        refine w_cN 5 ?_
                        refine x_nil ?_
                        refine w_tup2 (R := rN) (S := rN) hE348 rfl rfl fun v349 _ _ s350 hE352 r351 => ?_
                        refine x_cons ?_
                        refine m_tup ?_
                        refine x_cons ?_
                        refine w_cN 1 ?_
                        refine x_cons ?_
                        refine w_cN 5 ?_
                        refine x_nil ?_
                        refine w_tup2 (R := rN) (S := rN) hE352 rfl rfl fun v353 _ _ s354 hE356 r355 => ?_
                        refine x_cons ?_
                        refine m_tup ?_
                        refine x_cons ?_
                        refine w_cN 0 ?_
                        refine x_cons ?_
                        refine w_cN 6 ?_
                        refine x_nil ?_
                        refine w_tup2 (R := rN) (S := rN) hE356 rfl rfl fun v357 _ _ s358 hE360 r359 => ?_
                        refine x_cons ?_
                        refine m_tup ?_
                        refine x_cons ?_
                        refine w_cN 6 ?_
                        refine x_cons ?_
                        refine w_cN 7 ?_
                        refine x_nil ?_
                        refine w_tup2 (R := rN) (S := rN) hE360 rfl rfl fun v361 _ _ s362 hE364 r363 => ?_
                        refine x_cons ?_
                        refine m_tup ?_
                        refine x_cons ?_
                        refine w_cN 1 ?_
                        refine x_cons ?_
                        refine w_cN 7 ?_
                        refine x_nil ?_
                        refine w_tup2 (R := rN) (S := rN) hE364 rfl rfl fun v365 _ _ s366 hE368 r367 => ?_
                        refine x_nil ?_
                        refine w_lstF hE368 (R := (rT2 rN rN)) (l := [(0, 2), (2, 3), (1, 3), (0, 4), (4, 5), (1, 5), (0, 6), (6, 7), (1, 7)]) (by show 9 ≤ 100000; decide) (.cons ((rT2 rN rN).mono s366 ((rT2 rN rN).mono s362 ((rT2 rN rN).mono s358 ((rT2 rN rN).mono s354 ((rT2 rN rN).mono s350 ((rT2 rN rN).mono s346 ((rT2 rN rN).mono s342 ((rT2 rN rN).mono s338 r335)))))))) (.cons ((rT2 rN rN).mono s366 ((rT2 rN rN).mono s362 ((rT2 rN rN).mono s358 ((rT2 rN rN).mono s354 ((rT2 rN rN).mono s350 ((rT2 rN rN).mono s346 ((rT2 rN rN).mono s342 r339))))))) (.cons ((rT2 rN rN).mono s366 ((rT2 rN rN).mono s362 ((rT2 rN rN).mono s358 ((rT2 rN rN).mono s354 ((rT2 rN rN).mono s350 ((rT2 rN rN).mono s346 r343)))))) (.cons ((rT2 rN rN).mono s366 ((rT2 rN rN).mono s362 ((rT2 rN rN).mono s358 ((rT2 rN rN).mono s354 ((rT2 rN rN).mono s350 r347))))) (.cons ((rT2 rN rN).mono s366 ((rT2 rN rN).mono s362 ((rT2 rN rN).mono s358 ((rT2 rN rN).mono s354 r351)))) (.cons ((rT2 rN rN).mono s366 ((rT2 rN rN).mono s362 ((rT2 rN rN).mono s358 r355))) (.cons ((rT2 rN rN).mono s366 ((rT2 rN rN).mono s362 r359)) (.cons ((rT2 rN rN).mono s366 r363) (.cons r367 .nil))))))))) fun v369 _ _ s370 hE372 r371 => ?_
                        refine x_cons ?_
                        refine x_c ?_
                        refine x_nil ?_
                        refine w_tup3 (R := rN) (S := (rL (rT2 rN rN))) (T := rB) hE372 rfl r371 rfl fun v373 _ _ s374 hE376 r375 => ?_
                        have hf := Option.some.inj hf
                        subst hf
                        exact q _ _ _ hE376.ex r375
                      · have hf := ite_f hf hc332
                        refine x_next ?_
                        refine x_ret ?_
                        refine m_tup ?_
                        refine x_cons ?_
                        refine w_cN 5 ?_
                        refine x_cons ?_
                        refine x_op ?_
                        refine w_var hE87 (i := 3) rfl fun v377 r378 => ?_
                        refine m_lst ?_
                        refine x_cons ?_
                        refine m_tup ?_
                        refine x_cons ?_
                        refine w_cN 0 ?_
                        refine x_cons ?_
                        refine w_cN 4 ?_
                        refine x_nil ?_
                        refine w_tup2 (R := rN) (S := rN) hE87 rfl rfl fun v379 _ _ s380 hE382 r381 => ?_
                        refine x_cons ?_
                        refine m_tup ?_
                        refine x_cons ?_
                        refine w_cN 1 ?_
                        refine x_cons ?_
                        refine w_cN 4 ?_
                        refine x_nil ?_
                        refine w_tup2 (R := rN) (S := rN) hE382 rfl rfl fun v383 _ _ s384 hE386 r385 => ?_
                        refine x_cons ?_
                        refine m_tup ?_
                        refine x_cons ?_
                        refine w_cN 2 ?_
                        refine x_cons ?_
                        refine x_op ?_
                        refine w_cN 3 ?_
                        refine x_op ?_
                        refine w_vN hE386 (i := 1) rfl ?_
                        refine w_cN 2 ?_
                        refine w_modN (by decide) ?_
                        refine w_addN ?_
                        refine x_nil ?_
                        refine w_tup2 (R := rN) (S := rN) hE386 rfl rfl fun v387 _ _ s388 hE390 r389 => ?_
                        refine x_nil ?_
                        refine w_lstF hE390 (R := (rT2 rN rN)) (l := [(0, 4), (1, 4), (2, (3 + (p_size % 2)))]) (by show 3 ≤ 100000; decide) (.cons ((rT2 rN rN).mono s388 ((rT2 rN rN).mono s384 r381)) (.cons ((rT2 rN rN).mono s388 r385) (.cons r389 .nil))) fun v391 _ _ s392 hE394 r393 => ?_
                        obtain ⟨_, u395, hf⟩ := bnd hf
                        have u395 := gd_ok u395
                        refine w_catF hE394 (lv_f hE394.fh ((rL (rT2 rN rN)).mono s392 ((rL (rT2 rN rN)).mono s388 ((rL (rT2 rN rN)).mono s384 ((rL (rT2 rN rN)).mono s380 r378))))) (lv_f hE394.fh r393) u395 fun v396 _ _ s397 hE399 r398 => ?_
                        refine x_cons ?_
                        refine x_c ?_
                        refine x_nil ?_
                        refine w_tup3 (R := rN) (S := (rL (rT2 rN rN))) (T := rB) hE399 rfl r398 rfl fun v400 _ _ s401 hE403 r402 => ?_
                        have hf := Option.some.inj hf
                        subst hf
                        exact q _ _ _ hE403.ex r402
end
abbrev s_l_web : Stmt := topS 26
theorem sc_l_web : FnScope ["script", "many", "ties", "due", "k", "picks", "size", "more", "good", "leaf", "u", "v"] ["script"] (defScope s_l_web) := ⟨rfl, rfl, rfl, by decide +kernel, rfl, by decide +kernel, by decide +kernel⟩
def f_l_web (p_script : (List Int)) : Option ((Nat × (List (Nat × Nat)) × Bool)) :=
  (gd (1 < 2 ^ 62 ∧ (min 15 (max 2 p_script.length)) < 2 ^ 62)).bind fun _ =>
  (foldO (fun (s11 : Bool × (List (Nat × Nat)) × Nat) (x12 : Nat) =>
    (f_l_draws p_script x12 [12, 24, 4, 60, 60, 60]).bind fun x31 =>
    (x31[0]?).bind fun x49 =>
    (x31[1]?).bind fun x54 =>
    (f_l_shape x49 x54).bind fun x57 =>
    (x31[2]?).bind fun x73 =>
    if (decide (((s11.2.2 + x57.1) + x73) ≤ 38)) = true then
      (compO (β := (Nat × Nat)) (fun (x88 : (Nat × Nat)) =>
        some (some ((x88.1 + s11.2.2), (x88.2 + s11.2.2)))) x57.2.1).bind fun x113 =>
      (gd (x113.length ≤ 100000)).bind fun _ =>
      (gd (s11.2.1.length + x113.length ≤ 100000)).bind fun _ =>
      (x31[2]?).bind fun x131 =>
      (gd (x131 < 2 ^ 62)).bind fun _ =>
      (foldO (fun (s135 : (List (Nat × Nat))) (x136 : Nat) =>
        (x31[(3 + x136)]?).bind fun x151 =>
        (gd (0 < (x57.1 + x136))).bind fun _ =>
        (gd (s135.length < 100000)).bind fun _ =>
        some (s135 ++ [((s11.2.2 + (x151 % (x57.1 + x136))), ((s11.2.2 + x57.1) + x136))])) (List.range x131) (s11.2.1 ++ x113)).bind fun x147 =>
      (x31[2]?).bind fun x167 =>
      some ((s11.1 && x57.2.2), x147, ((s11.2.2 + x57.1) + x167))
    else
      some (s11.1, s11.2.1, s11.2.2)) ((List.range ((min 15 (max 2 p_script.length)) - 1)).map fun k => 1 + k) (true, ([] : List (Nat × Nat)), 0)).bind fun x23 =>
  some (x23.2.2, x23.2.1, x23.1)
def q_l_web (TL : List (Addr × Str)) (K : PySem.W.Frag) : Sp := fun vs H Q _ => ∃ (F : Hp) (v_script : V) (p_script : (List Int)) (rr : (Nat × (List (Nat × Nat)) × Bool)), vs = [v_script] ∧ Same F H ∧ NoT F ∧ (rScr K).r F v_script p_script ∧ f_l_web p_script = some rr ∧ ∀ v F' H', Ext ⟨[], TL⟩ F H F' H' → (rT3 rN (rL (rT2 rN rN)) rB).r F' v rr → Q v H'
section
variable {P : Program} {w : World} {K : PySem.W.Frag} {mg : Str → Option Value} {base : Heap}
theorem t_l_web (T : Tx mg) (F : DefAt K mg "_law_web" s_l_web ["script"]) (c_l_draws : Cal P w K mg base CX0 1 "_law_draws" (q_l_draws TL K)) (c_l_shape : Cal P w K mg base CX0 2 "_law_shape" (q_l_shape TL)) : Cal P w K mg base CX0 3 "_law_web" (q_l_web TL K) := by
  refine F.cal sc_l_web (fun vs H Q E h => ?_) (fun f cdv A outer s H vs Q E hr h => ?_)
  · obtain ⟨_, _, _, _, rfl, _⟩ := h
    rfl
  · obtain ⟨F, v_script, p_script, rr, rfl, sm0, nt0, r_script, hf, q⟩ := h
    have hf : _ = some rr := hf
    unfold f_l_web at hf
    refine ⟨_, (pss_cons (ps_set (i := 1) sc_l_web.nd rfl (Or.inr rfl) pe_int)
      (pss_cons (ps_set (i := 2) sc_l_web.nd rfl (Or.inl rfl) (pe_lst pa_nil))
      (pss_cons (ps_set (i := 3) sc_l_web.nd rfl (Or.inl rfl) pe_bl)
      (pss_cons (ps_for PassesOwn.never rfl (pi_range2 rfl T.z_range (pa_cons pe_int (pa_cons (pe_callB (cl_min2 rfl) (by rfl) T.z_min (by decide +kernel) (pa_cons pe_int (pa_cons (pe_callB (cl_max2 rfl) (by rfl) T.z_max (by decide +kernel) (pa_cons pe_int (pa_cons (pe_callB (cl_len K) (by rfl) T.z_len PySem.boot_len (pa_cons (pv 0) pa_nil)) pa_nil))) pa_nil))) pa_nil))) (pg_name (i := 4) sc_l_web.nd rfl (Or.inl rfl))
        (pss_cons (ps_set (i := 5) sc_l_web.nd rfl (Or.inl rfl) (pe_cal c_l_draws hr (by decide) rfl pass0 (pa_cons (pv 0) (pa_cons (pv 4) (pa_cons (pe_lst (pa_cons pe_int (pa_cons pe_int (pa_cons pe_int (pa_cons pe_int (pa_cons pe_int (pa_cons pe_int pa_nil))))))) pa_nil)))))
      (pss_cons (ps_asg (pe_cal c_l_shape hr (by decide) rfl pass0 (pa_cons (pe_ix (ix_l K) (pv 5) pe_int (fun _ _ => rfl)) (pa_cons (pe_ix (ix_l K) (pv 5) pe_int (fun _ _ => rfl)) pa_nil))) (k_tup (n := 3) K rfl (pgs_cons (pg_name (i := 6) sc_l_web.nd rfl (Or.inl rfl)) (pgs_cons (pg_name (i := 7) sc_l_web.nd rfl (Or.inl rfl)) (pgs_cons (pg_name (i := 8) sc_l_web.nd rfl (Or.inl rfl)) pgs_nil)))))
      (pss_one (ps_if (pt_cmpR op_le (pe_op op_add (pe_op op_add (pv 1) (pv 6)) (pe_ix (ix_l K) (pv 5) pe_int (fun _ _ => rfl))) pe_int (nomark _))
        (pss_cons (ps_set (i := 3) sc_l_web.nd rfl (Or.inl rfl) (pe_and (pv 3) (pe_one (pv 8))))
      (pss_cons (ps_set (i := 2) sc_l_web.nd rfl (Or.inl rfl) (pe_op op_cat (pv 2) (pe_lc (own := [("u", 10), ("v", 11)]) rfl sc_l_web.nd (k_pil K (pv 7)) (blkOk_by (own := [("u", 10), ("v", 11)]) (N := ["script", "many", "ties", "due", "k", "picks", "size", "more", "good", "leaf", "u", "v"]) (sc := defScope s_l_web) (by decide +kernel)) (fun _ _ _ _ _ => (k_tup (n := 2) K rfl (pgs_cons (pg_name (i := 10) sc_l_web.nd rfl (Or.inl rfl)) (pgs_cons (pg_name (i := 11) sc_l_web.nd rfl (Or.inl rfl)) pgs_nil)))) (fun _ _ _ _ _ => pts_nil) (fun _ _ _ _ _ => (pe_tup (pa_cons (pe_op op_add (pv 10) (pv 1)) (pa_cons (pe_op op_add (pv 11) (pv 1)) pa_nil)))))))
      (pss_cons (ps_for PassesOwn.never rfl (pi_range1 rfl T.z_range (pa_cons (pe_ix (ix_l K) (pv 5) pe_int (fun _ _ => rfl)) pa_nil)) (pg_name (i := 9) sc_l_web.nd rfl (Or.inl rfl))
        (pss_one (ps_expr (k_bm K PySem.F.plainAttrs_list PySem.F.slot_list_append PySem.F.type_list_append mt_append (pv 2) (pa_cons (pe_tup (pa_cons (pe_op op_add (pv 1) (pe_op op_mod (pe_ix (ix_l K) (pv 5) (pe_op op_add pe_int (pv 9)) (fun _ _ => rfl)) (pe_op op_add (pv 6) (pv 9)))) (pa_cons (pe_op op_add (pe_op op_add (pv 1) (pv 6)) (pv 9)) pa_nil))) pa_nil)))))
      (pss_one (ps_set (i := 1) sc_l_web.nd rfl (Or.inr rfl) (pe_op op_add (pe_op op_add (pv 1) (pv 6)) (pe_ix (ix_l K) (pv 5) pe_int (fun _ _ => rfl)))))))) pss_nil)))))
      (pss_one (ps_ret (pe_tup (pa_cons (pv 1) (pa_cons (pv 2) (pa_cons (pv 3) pa_nil)))))))))), ?_⟩
    have hE0 : Wst ⟨[], TL⟩ F H [(rScr K).at p_script, sAny, sAny, sAny, sAny, sAny, sAny, sAny, sAny, sAny, sAny, sAny] [] (start ["script", "many", "ties", "due", "k", "picks", "size", "more", "good", "leaf", "u", "v"] [v_script]) F H := Wst.start (vs := [v_script]) (n := 11) (ss := [(rScr K).at p_script]) (cs := []) sm0 nt0 (fun p hp => by cases hp) List.nodup_nil (.cons ⟨_, rfl, r_script⟩ .nil)
    revert hE0
    generalize start ["script", "many", "ties", "due", "k", "picks", "size", "more", "good", "leaf", "u", "v"] [v_script] = σ0
    intro hE0
    refine x_seq ?_
    refine x_asg ?_
    refine w_cN 0 ?_
    refine w_name (R := rN) (ss' := [(rScr K).at p_script, rN.at 0, sAny, sAny, sAny, sAny, sAny, sAny, sAny, sAny, sAny, sAny]) hE0 rfl rfl fun _ hE1 => ?_
    refine x_seq ?_
    refine x_asg ?_
    refine m_lst ?_
    refine x_nil ?_
    refine w_lstC hE1 (R := (rT2 rN rN)) (l := ([] : List (Nat × Nat))) (by show 0 ≤ 100000; decide) .nil fun c2 _ o3 hE4 => ?_
    have hE5 : Wst ⟨[], TL⟩ _ _ [(rScr K).at p_script, rN.at 0, sAny, sAny, sAny, sAny, sAny, sAny, sAny, sAny, sAny, sAny] [(c2, cL (rT2 rN rN) ([] : List (Nat × Nat)))] _ _ _ := hE4
    refine w_nameC (ss' := [(rScr K).at p_script, rN.at 0, sRef c2, sAny, sAny, sAny, sAny, sAny, sAny, sAny, sAny, sAny]) hE5 rfl fun _ hE6 => ?_
    refine x_seq ?_
    refine x_asg ?_
    refine x_c ?_
    refine w_name (R := rB) (ss' := [(rScr K).at p_script, rN.at 0, sRef c2, rB.at true, sAny, sAny, sAny, sAny, sAny, sAny, sAny, sAny]) hE6 rfl rfl fun _ hE7 => ?_
    refine x_seq ?_
    refine x_for ?_
    refine x_rg2 ?_
    refine x_cons ?_
    refine w_cN 1 ?_
    refine x_cons ?_
    refine x_cb ?_
    refine x_cons ?_
    refine w_cN 15 ?_
    refine x_cons ?_
    refine x_cb ?_
    refine x_cons ?_
    refine w_cN 2 ?_
    refine x_cons ?_
    refine x_cb ?_
    refine x_cons ?_
    refine w_var hE7 (i := 0) rfl fun v8 r9 => ?_
    refine x_nil ?_
    refine w_lenScr hE7.fh r9 ?_
    refine x_nil ?_
    refine w_max2N ?_
    refine x_nil ?_
    refine w_min2N ?_
    refine x_nil ?_
    obtain ⟨_, u10, hf⟩ := bnd hf
    have u10 := gd_ok u10
    refine w_r2 u10 ?_
    have hE21 : Wst ⟨[], TL⟩ _ _ [(rScr K).at p_script, rN.at (true, ([] : List (Nat × Nat)), 0).2.2, sRef c2, rB.at (true, ([] : List (Nat × Nat)), 0).1, sAny, sAny, sAny, sAny, sAny, sAny, sAny, sAny] [(c2, cL (rT2 rN rN) (true, ([] : List (Nat × Nat)), 0).2.1)] _ _ _ := hE7
    obtain ⟨x23, hx23, hf⟩ := bnd hf
    refine w_for 1 (fun (s11 : Bool × (List (Nat × Nat)) × Nat) (ad19 : Nat → Addr) => [(rScr K).at p_script, rN.at s11.2.2, sRef (ad19 0), rB.at s11.1, sAny, sAny, sAny, sAny, sAny, sAny, sAny, sAny]) (fun (s11 : Bool × (List (Nat × Nat)) × Nat) (ad19 : Nat → Addr) => [((ad19 0), cL (rT2 rN rN) s11.2.1)]) hx23 (ad1 c2) (own1 o3) hE21 (fun _ ad19 _ _ _ sm w171 => jok_r w171.fh w171.nt) (fun s11 ad19 x12 v13 o14 _ _ _ ha20 s15 r16 hE17 hb18 => ?_) (fun ad19 _ _ _ ha20 s172 hE173 => ?_)
    · have hE22 : Wst ⟨[], TL⟩ _ _ [(rScr K).at p_script, rN.at s11.2.2, sRef (ad19 0), rB.at s11.1, sAny, sAny, sAny, sAny, sAny, sAny, sAny, sAny] [((ad19 0), cL (rT2 rN rN) s11.2.1)] _ _ _ := hE17
      obtain rfl := (show v13 = (V.int ((x12 : Nat) : Int)) from r16)
      refine w_name (R := rN) (ss' := [(rScr K).at p_script, rN.at s11.2.2, sRef (ad19 0), rB.at s11.1, rN.at x12, sAny, sAny, sAny, sAny, sAny, sAny, sAny]) hE22 rfl rfl fun _ hE24 => ?_
      refine x_seq ?_
      refine x_asg ?_
      refine x_call ?_
      refine x_cons ?_
      refine w_var hE24 (i := 0) rfl fun v25 r26 => ?_
      refine x_cons ?_
      refine w_vN hE24 (i := 4) rfl ?_
      refine x_cons ?_
      refine m_lst ?_
      refine x_cons ?_
      refine w_cN 12 ?_
      refine x_cons ?_
      refine w_cN 24 ?_
      refine x_cons ?_
      refine w_cN 4 ?_
      refine x_cons ?_
      refine w_cN 60 ?_
      refine x_cons ?_
      refine w_cN 60 ?_
      refine x_cons ?_
      refine w_cN 60 ?_
      refine x_nil ?_
      refine w_lstF hE24 (R := rN) (l := [12, 24, 4, 60, 60, 60]) (by show 6 ≤ 100000; decide) (.cons rfl (.cons rfl (.cons rfl (.cons rfl (.cons rfl (.cons rfl .nil)))))) fun v27 _ _ s28 hE30 r29 => ?_
      refine x_nil ?_
      obtain ⟨x31, hx31, hb18⟩ := bnd hb18
      refine ⟨_, v25, p_script, x12, v27, [12, 24, 4, 60, 60, 60], x31, rfl, hE30.fh, hE30.nt, ((rScr K).mono s28 r26), r29, hx31, fun c34 _ _ e32 o35 p36 q37 => ?_⟩
      have hE38 : Wst ⟨[], TL⟩ _ _ [(rScr K).at p_script, rN.at s11.2.2, sRef (ad19 0), rB.at s11.1, rN.at x12, sAny, sAny, sAny, sAny, sAny, sAny, sAny] [((ad19 0), cL (rT2 rN rN) s11.2.1)] _ _ _ := hE30.grow e32
      have o39 := hE30.own o35
      have hE40 : Wst ⟨[], TL⟩ _ _ [(rScr K).at p_script, rN.at s11.2.2, sRef (ad19 0), rB.at s11.1, rN.at x12, sAny, sAny, sAny, sAny, sAny, sAny, sAny] [(c34, cL rN x31), ((ad19 0), cL (rT2 rN rN) s11.2.1)] _ _ _ := hE38.addC (A := cL rN x31) o39 p36 q37 (hE30.fresh_ne o35)
      obtain ⟨F41, s42, hE44, r43⟩ := hE40.freeze (k := 0) rfl o39
      have hE45 : Wst ⟨[], TL⟩ _ _ [(rScr K).at p_script, rN.at s11.2.2, sRef (ad19 0), rB.at s11.1, rN.at x12, sAny, sAny, sAny, sAny, sAny, sAny, sAny] [((ad19 0), cL (rT2 rN rN) s11.2.1)] _ _ _ := hE44
      refine w_name (R := (rL rN)) (ss' := [(rScr K).at p_script, rN.at s11.2.2, sRef (ad19 0), rB.at s11.1, rN.at x12, (rL rN).at x31, sAny, sAny, sAny, sAny, sAny, sAny]) hE45 rfl r43 fun _ hE46 => ?_
      refine x_seq ?_
      refine x_asg ?_
      refine x_call ?_
      refine x_cons ?_
      refine x_op ?_
      refine w_var hE46 (i := 5) rfl fun v47 r48 => ?_
      refine w_cN 0 ?_
      obtain ⟨x49, hx49, hb18⟩ := bnd hb18
      refine w_ix (lv_f hE46.fh r48) hx49 fun v50 r51 => ?_
      obtain rfl := (show v50 = (V.int ((x49 : Nat) : Int)) from r51)
      refine x_cons ?_
      refine x_op ?_
      refine w_var hE46 (i := 5) rfl fun v52 r53 => ?_
      refine w_cN 1 ?_
      obtain ⟨x54, hx54, hb18⟩ := bnd hb18
      refine w_ix (lv_f hE46.fh r53) hx54 fun v55 r56 => ?_
      obtain rfl := (show v55 = (V.int ((x54 : Nat) : Int)) from r56)
      refine x_nil ?_
      obtain ⟨x57, hx57, hb18⟩ := bnd hb18
      refine ⟨_, x49, x54, x57, rfl, hE46.fh, hE46.nt, hx57, fun v60 _ _ e58 r59 => ?_⟩
      have hE61 : Wst ⟨[], TL⟩ _ _ [(rScr K).at p_script, rN.at s11.2.2, sRef (ad19 0), rB.at s11.1, rN.at x12, (rL rN).at x31, sAny, sAny, sAny, sAny, sAny, sAny] [((ad19 0), cL (rT2 rN rN) s11.2.1)] _ _ _ := hE46.grow e58
      refine w_gT3 hE61.fh r59 fun v62 v63 v64 r65 r66 r67 => ?_
      refine x_gCons ?_
      obtain rfl := (show v62 = (V.int ((x57.1 : Nat) : Int)) from r65)
      refine w_name (R := rN) (ss' := [(rScr K).at p_script, rN.at s11.2.2, sRef (ad19 0), rB.at s11.1, rN.at x12, (rL rN).at x31, rN.at x57.1, sAny, sAny, sAny, sAny, sAny]) hE61 rfl rfl fun _ hE68 => ?_
      refine x_gCons ?_
      refine w_name (R := (rL (rT2 rN rN))) (ss' := [(rScr K).at p_script, rN.at s11.2.2, sRef (ad19 0), rB.at s11.1, rN.at x12, (rL rN).at x31, rN.at x57.1, (rL (rT2 rN rN)).at x57.2.1, sAny, sAny, sAny, sAny]) hE68 rfl r66 fun _ hE69 => ?_
      refine x_gCons ?_
      obtain rfl := (show v64 = (V.bl x57.2.2) from r67)
      refine w_name (R := rB) (ss' := [(rScr K).at p_script, rN.at s11.2.2, sRef (ad19 0), rB.at s11.1, rN.at x12, (rL rN).at x31, rN.at x57.1, (rL (rT2 rN rN)).at x57.2.1, rB.at x57.2.2, sAny, sAny, sAny]) hE69 rfl rfl fun _ hE70 => ?_
      refine x_gNil ?_
      refine x_ifs ?_
      refine x_test ?_
      refine x_op ?_
      refine x_op ?_
      refine x_op ?_
      refine w_vN hE70 (i := 1) rfl ?_
      refine w_vN hE70 (i := 6) rfl ?_
      refine w_addN ?_
      refine x_op ?_
      refine w_var hE70 (i := 5) rfl fun v71 r72 => ?_
      refine w_cN 2 ?_
      obtain ⟨x73, hx73, hb18⟩ := bnd hb18
      refine w_ix (lv_f hE70.fh r72) hx73 fun v74 r75 => ?_
      obtain rfl := (show v74 = (V.int ((x73 : Nat) : Int)) from r75)
      refine w_addN ?_
      refine w_cN 38 ?_
      refine w_leN ?_
      refine x_bl ?_
      refine x_itb (fun hc76 => ?_) (fun hc76 => ?_)
      · have hb18 := ite_t hb18 hc76
        refine x_seq ?_
        refine x_asg ?_
        refine w_andVP (cs := [((ad19 0), cL (rT2 rN rN) s11.2.1)]) hE70 (ca := s11.1) (cb := x57.2.2) (fun _ q0 => ?_) (fun _ _ s79 hE78 _ _ q0 => ?_) (fun _ _ s80 hE81 => ?_)
        · refine w_vB hE70 (i := 3) rfl ?_
          exact q0 _ _ (Same.refl _) hE70
        · refine w_vB hE78 (i := 8) rfl ?_
          exact q0 _ _ (Same.refl _) hE78
        refine w_name (R := rB) (ss' := [(rScr K).at p_script, rN.at s11.2.2, sRef (ad19 0), rB.at (s11.1 && x57.2.2), rN.at x12, (rL rN).at x31, rN.at x57.1, (rL (rT2 rN rN)).at x57.2.1, rB.at x57.2.2, sAny, sAny, sAny]) hE81 rfl rfl fun _ hE82 => ?_
        refine x_seq ?_
        refine x_asg ?_
        refine x_op ?_
        refine w_ref hE82 (i := 2) rfl ?_
        refine x_lc ?_
        refine x_il ?_
        refine w_var hE82 (i := 7) rfl fun v83 r84 => ?_
        refine w_il (lv_f hE82.fh r84) fun a85 ea => ?_
        cases ea
        obtain ⟨x113, hx113, hb18⟩ := bnd hb18
        obtain ⟨_, u114, hb18⟩ := bnd hb18
        have u114 := gd_ok u114
        intro c86 d87
        refine w_lc (B := (rT2 rN rN)) hx113 u114 hE82 d87 (fun _ _ _ sm w120 => jok_l w120.fh w120.nt (lv_f w120.fh ((rL (rT2 rN rN)).mono sm r84))) (fun x88 v90 o91 ac98 _ _ s92 r93 hE94 hb95 z96 ew97 => ?_) (fun _ _ o117 s118 hE119 => ?_)
        · have hE94 : Wst ⟨[], TL⟩ _ _ [(rScr K).at p_script, rN.at s11.2.2, sRef (ad19 0), rB.at (s11.1 && x57.2.2), rN.at x12, (rL rN).at x31, rN.at x57.1, (rL (rT2 rN rN)).at x57.2.1, rB.at x57.2.2, sAny, sAny, sAny] [(c86, cL (rT2 rN rN) ac98), ((ad19 0), cL (rT2 rN rN) s11.2.1)] _ _ _ := hE94
          refine w_gT2 hE94.fh r93 fun v101 v102 r103 r104 => ?_
          refine x_gCons ?_
          refine w_nameW (ss' := [(rScr K).at p_script, rN.at s11.2.2, sRef (ad19 0), rB.at (s11.1 && x57.2.2), rN.at x12, (rL rN).at x31, rN.at x57.1, (rL (rT2 rN rN)).at x57.2.1, rB.at x57.2.2, sAny, rN.at x88.1, sAny]) hE94 rfl r103 (by decide) ew97 fun _ ew106 hE105 => ?_
          refine x_gCons ?_
          refine w_nameW (ss' := [(rScr K).at p_script, rN.at s11.2.2, sRef (ad19 0), rB.at (s11.1 && x57.2.2), rN.at x12, (rL rN).at x31, rN.at x57.1, (rL (rT2 rN rN)).at x57.2.1, rB.at x57.2.2, sAny, rN.at x88.1, rN.at x88.2]) hE105 rfl r104 (by decide) ew106 fun _ ew108 hE107 => ?_
          refine x_gNil ?_
          refine ⟨ew108, ?_⟩
          refine x_yes ?_
          refine x_T ?_
          refine m_tup ?_
          refine x_cons ?_
          refine x_op ?_
          refine w_vN hE107 (i := 10) rfl ?_
          refine w_vN hE107 (i := 1) rfl ?_
          refine w_addN ?_
          refine x_cons ?_
          refine x_op ?_
          refine w_vN hE107 (i := 11) rfl ?_
          refine w_vN hE107 (i := 1) rfl ?_
          refine w_addN ?_
          refine x_nil ?_
          refine w_tup2 (R := rN) (S := rN) hE107 rfl rfl fun v109 _ _ s110 hE112 r111 => ?_
          have hb95 := Option.some.inj hb95
          subst hb95
          exact w_acc (s := ()) hE112 (s92.trans s110) r111 z96 ew108 rfl
        have hE121 : Wst ⟨[], TL⟩ _ _ [(rScr K).at p_script, rN.at s11.2.2, sRef (ad19 0), rB.at (s11.1 && x57.2.2), rN.at x12, (rL rN).at x31, rN.at x57.1, (rL (rT2 rN rN)).at x57.2.1, rB.at x57.2.2, sAny, sAny, sAny] [(c86, cL (rT2 rN rN) x113), ((ad19 0), cL (rT2 rN rN) s11.2.1)] _ _ _ := hE119
        obtain ⟨_, u122, hb18⟩ := bnd hb18
        have u122 := gd_ok u122
        refine w_catC hE121 (lv_c hE121 (k := 1) rfl) (lv_c hE121 (k := 0) rfl) u122 fun c123 _ o124 hE125 => ?_
        have hE126 : Wst ⟨[], TL⟩ _ _ [(rScr K).at p_script, rN.at s11.2.2, sRef (ad19 0), rB.at (s11.1 && x57.2.2), rN.at x12, (rL rN).at x31, rN.at x57.1, (rL (rT2 rN rN)).at x57.2.1, rB.at x57.2.2, sAny, sAny, sAny] [(c123, cL (rT2 rN rN) (s11.2.1 ++ x113)), (c86, cL (rT2 rN rN) x113), ((ad19 0), cL (rT2 rN rN) s11.2.1)] _ _ _ := hE125
        refine w_nameC (ss' := [(rScr K).at p_script, rN.at s11.2.2, sRef c123, rB.at (s11.1 && x57.2.2), rN.at x12, (rL rN).at x31, rN.at x57.1, (rL (rT2 rN rN)).at x57.2.1, rB.at x57.2.2, sAny, sAny, sAny]) hE126 rfl fun _ hE127 => ?_
        have hE128 : Wst ⟨[], TL⟩ _ _ [(rScr K).at p_script, rN.at s11.2.2, sRef c123, rB.at (s11.1 && x57.2.2), rN.at x12, (rL rN).at x31, rN.at x57.1, (rL (rT2 rN rN)).at x57.2.1, rB.at x57.2.2, sAny, sAny, sAny] [(c123, cL (rT2 rN rN) (s11.2.1 ++ x113)), (c86, cL (rT2 rN rN) x113)] _ _ _ := hE127.dropC 2
        refine x_seq ?_
        refine x_for ?_
        refine x_rg1 ?_
        refine x_cons ?_
        refine x_op ?_
        refine w_var hE128 (i := 5) rfl fun v129 r130 => ?_
        refine w_cN 2 ?_
        obtain ⟨x131, hx131, hb18⟩ := bnd hb18
        refine w_ix (lv_f hE128.fh r130) hx131 fun v132 r133 => ?_
        obtain rfl := (show v132 = (V.int ((x131 : Nat) : Int)) from r133)
        refine x_nil ?_
        obtain ⟨_, u134, hb18⟩ := bnd hb18
        have u134 := gd_ok u134
        refine w_r1 u134 ?_
        have hE145 : Wst ⟨[], TL⟩ _ _ [(rScr K).at p_script, rN.at s11.2.2, sRef c123, rB.at (s11.1 && x57.2.2), rN.at x12, (rL rN).at x31, rN.at x57.1, (rL (rT2 rN rN)).at x57.2.1, rB.at x57.2.2, sAny, sAny, sAny] [(c123, cL (rT2 rN rN) (s11.2.1 ++ x113)), (c86, cL (rT2 rN rN) x113)] _ _ _ := hE128
        obtain ⟨x147, hx147, hb18⟩ := bnd hb18
        refine w_for 0 (fun (s135 : (List (Nat × Nat))) (ad143 : Nat → Addr) => [(rScr K).at p_script, rN.at s11.2.2, sRef c123, rB.at (s11.1 && x57.2.2), rN.at x12, (rL rN).at x31, rN.at x57.1, (rL (rT2 rN rN)).at x57.2.1, rB.at x57.2.2, sAny, sAny, sAny]) (fun (s135 : (List (Nat × Nat))) (ad143 : Nat → Addr) => [(c123, cL (rT2 rN rN) s135), (c86, cL (rT2 rN rN) x113)]) hx147 adZ no_ad hE145 (fun _ ad143 _ _ _ sm w161 => jok_r0 w161.fh w161.nt) (fun s135 ad143 x136 v137 o138 _ _ _ ha144 s139 r140 hE141 hb142 => ?_) (fun ad143 _ _ _ ha144 s162 hE163 => ?_)
        · have hE146 : Wst ⟨[], TL⟩ _ _ [(rScr K).at p_script, rN.at s11.2.2, sRef c123, rB.at (s11.1 && x57.2.2), rN.at x12, (rL rN).at x31, rN.at x57.1, (rL (rT2 rN rN)).at x57.2.1, rB.at x57.2.2, sAny, sAny, sAny] [(c123, cL (rT2 rN rN) s135), (c86, cL (rT2 rN rN) x113)] _ _ _ := hE141
          obtain rfl := (show v137 = (V.int ((x136 : Nat) : Int)) from r140)
          refine w_name (R := rN) (ss' := [(rScr K).at p_script, rN.at s11.2.2, sRef c123, rB.at (s11.1 && x57.2.2), rN.at x12, (rL rN).at x31, rN.at x57.1, (rL (rT2 rN rN)).at x57.2.1, rB.at x57.2.2, rN.at x136, sAny, sAny]) hE146 rfl rfl fun _ hE148 => ?_
          refine x_drop ?_
          refine x_bm ?_
          refine w_ref hE148 (i := 2) rfl ?_
          refine w_tyC hE148 (k := 0) rfl ?_
          refine x_cons ?_
          refine m_tup ?_
          refine x_cons ?_
          refine x_op ?_
          refine w_vN hE148 (i := 1) rfl ?_
          refine x_op ?_
          refine x_op ?_
          refine w_var hE148 (i := 5) rfl fun v149 r150 => ?_
          refine x_op ?_
          refine w_cN 3 ?_
          refine w_vN hE148 (i := 9) rfl ?_
          refine w_addN ?_
          obtain ⟨x151, hx151, hb142⟩ := bnd hb142
          refine w_ix (lv_f hE148.fh r150) hx151 fun v152 r153 => ?_
          obtain rfl := (show v152 = (V.int ((x151 : Nat) : Int)) from r153)
          refine x_op ?_
          refine w_vN hE148 (i := 6) rfl ?_
          refine w_vN hE148 (i := 9) rfl ?_
          refine w_addN ?_
          obtain ⟨_, u154, hb142⟩ := bnd hb142
          have u154 := gd_ok u154
          refine w_modN u154 ?_
          refine w_addN ?_
          refine x_cons ?_
          refine x_op ?_
          refine x_op ?_
          refine w_vN hE148 (i := 1) rfl ?_
          refine w_vN hE148 (i := 6) rfl ?_
          refine w_addN ?_
          refine w_vN hE148 (i := 9) rfl ?_
          refine w_addN ?_
          refine x_nil ?_
          refine w_tup2 (R := rN) (S := rN) hE148 rfl rfl fun v155 _ _ s156 hE158 r157 => ?_
          refine x_nil ?_
          obtain ⟨_, u159, hb142⟩ := bnd hb142
          have u159 := gd_ok u159
          refine w_app hE158 (k := 0) (a := ((s11.2.2 + (x151 % (x57.1 + x136))), ((s11.2.2 + x57.1) + x136))) rfl u159 r157 (cs' := [(c123, cL (rT2 rN rN) (s135 ++ [((s11.2.2 + (x151 % (x57.1 + x136))), ((s11.2.2 + x57.1) + x136))])), (c86, cL (rT2 rN rN) x113)]) rfl fun _ hE160 => ?_
          have hb142 := Option.some.inj hb142
          subst hb142
          exact ⟨adZ, _, no_ad, (s139.trans s156), (hE160.toAny 9)⟩
        have hE164 : Wst ⟨[], TL⟩ _ _ [(rScr K).at p_script, rN.at s11.2.2, sRef c123, rB.at (s11.1 && x57.2.2), rN.at x12, (rL rN).at x31, rN.at x57.1, (rL (rT2 rN rN)).at x57.2.1, rB.at x57.2.2, sAny, sAny, sAny] [(c123, cL (rT2 rN rN) x147), (c86, cL (rT2 rN rN) x113)] _ _ _ := hE163
        refine x_asg ?_
        refine x_op ?_
        refine x_op ?_
        refine w_vN hE164 (i := 1) rfl ?_
        refine w_vN hE164 (i := 6) rfl ?_
        refine w_addN ?_
        refine x_op ?_
        refine w_var hE164 (i := 5) rfl fun v165 r166 => ?_
        refine w_cN 2 ?_
        obtain ⟨x167, hx167, hb18⟩ := bnd hb18
        refine w_ix (lv_f hE164.fh r166) hx167 fun v168 r169 => ?_
        obtain rfl := (show v168 = (V.int ((x167 : Nat) : Int)) from r169)
        refine w_addN ?_
        refine w_name (R := rN) (ss' := [(rScr K).at p_script, rN.at ((s11.2.2 + x57.1) + x167), sRef c123, rB.at (s11.1 && x57.2.2), rN.at x12, (rL rN).at x31, rN.at x57.1, (rL (rT2 rN rN)).at x57.2.1, rB.at x57.2.2, sAny, sAny, sAny]) hE164 rfl rfl fun _ hE170 => ?_
        have hb18 := Option.some.inj hb18
        subst hb18
        exact ⟨(ad1 c123), _, (own1 o124), (((((((s15.trans s28).trans e32.ff).trans s42).trans e58.ff).trans s80).trans s118).trans s162), ((((((hE170.dropC 1).toAny 4).toAny 5).toAny 6).toAny 7).toAny 8)⟩
      · have hb18 := ite_f hb18 hc76
        refine x_next ?_
        have hb18 := Option.some.inj hb18
        subst hb18
        exact ⟨(ad1 (ad19 0)), _, (own1 (ha20 0 (by decide))), ((((s15.trans s28).trans e32.ff).trans s42).trans e58.ff), (((((hE70.toAny 4).toAny 5).toAny 6).toAny 7).toAny 8)⟩
    have hE174 : Wst ⟨[], TL⟩ _ _ [(rScr K).at p_script, rN.at x23.2.2, sRef (ad19 0), rB.at x23.1, sAny, sAny, sAny, sAny, sAny, sAny, sAny, sAny] [((ad19 0), cL (rT2 rN rN) x23.2.1)] _ _ _ := hE173
    refine x_ret ?_
    refine m_tup ?_
    refine x_cons ?_
    refine w_vN hE174 (i := 1) rfl ?_
    refine x_cons ?_
    refine w_ref hE174 (i := 2) rfl ?_
    obtain ⟨F175, s176, hE178, r177⟩ := hE174.freeze (k := 0) rfl (ha20 0 (by decide))
    have hE179 : Wst ⟨[], TL⟩ _ _ [(rScr K).at p_script, rN.at x23.2.2, sRef (ad19 0), rB.at x23.1, sAny, sAny, sAny, sAny, sAny, sAny, sAny, sAny] [] _ _ _ := hE178
    have hE180 : Wst ⟨[], TL⟩ _ _ [(rScr K).at p_script, rN.at x23.2.2, (rL (rT2 rN rN)).at x23.2.1, rB.at x23.1, sAny, sAny, sAny, sAny, sAny, sAny, sAny, sAny] [] _ _ _ := hE179.toAt (i := 2) rfl r177
    refine x_cons ?_
    refine w_vB hE180 (i := 3) rfl ?_
    refine x_nil ?_
    refine w_tup3 (R := rN) (S := (rL (rT2 rN rN))) (T := rB) hE180 rfl r177 rfl fun v181 _ _ s182 hE184 r183 => ?_
    have hf := Option.some.inj hf
    subst hf
    exact q _ _ _ hE184.ex r183
end
abbrev s_l_order : Stmt := topS 23
theorem sc_l_order : FnScope ["script", "k", "many", "picks", "order", "p"] ["script", "k", "many"] (defScope s_l_order) := ⟨rfl, rfl, rfl, by decide +kernel, rfl, by decide +kernel, by decide +kernel⟩
def f_l_order (p_script : (List Int)) (p_k : Nat) (p_many : Nat) : Option ((List Nat)) :=
  (gd (1 ≤ 100000 ∧ (p_many + 1) ≤ 100000)).bind fun _ =>
  (f_l_draws p_script p_k ((List.range ((p_many + 1) - 1)).map fun k => 1 + k)).bind fun x8 =>
  (gd (p_many < 2 ^ 62)).bind fun _ =>
  (foldO (fun (s30 : (List Nat)) (x31 : Nat) =>
    (x8[x31]?).bind fun x46 =>
    (gd (s30.length < 100000 ∧ x46 ≤ 100000)).bind fun _ =>
    some (s30.take x46 ++ [x31] ++ s30.drop x46)) (List.range p_many) ([] : List Nat)).bind fun x42 =>
  some x42
def q_l_order (TL : List (Addr × Str)) (K : PySem.W.Frag) : Sp := fun vs H Q _ => ∃ (F : Hp) (v_script : V) (p_script : (List Int)) (p_k : Nat) (p_many : Nat) (rr : (List Nat)), vs = [v_script, (V.int ((p_k : Nat) : Int)), (V.int ((p_many : Nat) : Int))] ∧ Same F H ∧ NoT F ∧ (rScr K).r F v_script p_script ∧ f_l_order p_script p_k p_many = some rr ∧ ∀ D F' H', Ext ⟨[], TL⟩ F H F' H' → H D = none → F' D = none → (∃ o, H' D = some o ∧ (cL rN rr).p F' o) → Q (.ref D) H'
section
variable {P : Program} {w : World} {K : PySem.W.Frag} {mg : Str → Option Value} {base : Heap}
theorem t_l_order (T : Tx mg) (F : DefAt K mg "_law_order" s_l_order ["script", "k", "many"]) (c_l_draws : Cal P w K mg base CX0 1 "_law_draws" (q_l_draws TL K)) : Cal P w K mg base CX0 2 "_law_order" (q_l_order TL K) := by
  refine F.cal sc_l_order (fun vs H Q E h => ?_) (fun f cdv A outer s H vs Q E hr h => ?_)
  · obtain ⟨_, _, _, _, _, _, rfl, _⟩ := h
    rfl
  · obtain ⟨F, v_script, p_script, p_k, p_many, rr, rfl, sm0, nt0, r_script, hf, q⟩ := h
    have hf : _ = some rr := hf
    unfold f_l_order at hf
    refine ⟨_, (pss_cons (ps_set (i := 3) sc_l_order.nd rfl (Or.inl rfl) (pe_cal c_l_draws hr (by decide) rfl pass0 (pa_cons (pv 0) (pa_cons (pv 1) (pa_cons (pe_listRg rfl rfl T.z_list (prg_2 rfl T.z_range pe_int (pe_op op_add (pv 2) pe_int))) pa_nil)))))
      (pss_cons (ps_set (i := 4) sc_l_order.nd rfl (Or.inl rfl) (pe_lst pa_nil))
      (pss_cons (ps_for PassesOwn.never rfl (pi_range1 rfl T.z_range (pa_cons (pv 2) pa_nil)) (pg_name (i := 5) sc_l_order.nd rfl (Or.inl rfl))
        (pss_one (ps_expr (k_bm K PySem.F.plainAttrs_list PySem.F.slot_list_insert PySem.F.type_list_insert k_insert (pv 4) (pa_cons (pe_ix (ix_l K) (pv 3) (pv 5) (fun _ _ => rfl)) (pa_cons (pv 5) pa_nil))))))
      (pss_one (ps_ret (pv 4)))))), ?_⟩
    have hE0 : Wst ⟨[], TL⟩ F H [(rScr K).at p_script, rN.at p_k, rN.at p_many, sAny, sAny, sAny] [] (start ["script", "k", "many", "picks", "order", "p"] [v_script, (V.int ((p_k : Nat) : Int)), (V.int ((p_many : Nat) : Int))]) F H := Wst.start (vs := [v_script, (V.int ((p_k : Nat) : Int)), (V.int ((p_many : Nat) : Int))]) (n := 3) (ss := [(rScr K).at p_script, rN.at p_k, rN.at p_many]) (cs := []) sm0 nt0 (fun p hp => by cases hp) List.nodup_nil (.cons ⟨_, rfl, r_script⟩ (.cons ⟨_, rfl, rfl⟩ (.cons ⟨_, rfl, rfl⟩ .nil)))
    revert hE0
    generalize start ["script", "k", "many", "picks", "order", "p"] [v_script, (V.int ((p_k : Nat) : Int)), (V.int ((p_many : Nat) : Int))] = σ0
    intro hE0
    refine x_seq ?_
    refine x_asg ?_
    refine x_call ?_
    refine x_cons ?_
    refine w_var hE0 (i := 0) rfl fun v1 r2 => ?_
    refine x_cons ?_
    refine w_vN hE0 (i := 1) rfl ?_
    refine x_cons ?_
    refine m_lstRg ?_
    refine x_tRg2 ?_
    refine w_cN 1 ?_
    refine x_op ?_
    refine w_vN hE0 (i := 2) rfl ?_
    refine w_cN 1 ?_
    refine w_addN ?_
    refine x_rgN2 ?_
    obtain ⟨_, u3, hf⟩ := bnd hf
    have u3 := gd_ok u3
    refine w_lrg2F hE0 u3 fun v4 _ _ s5 hE7 r6 => ?_
    refine x_nil ?_
    obtain ⟨x8, hx8, hf⟩ := bnd hf
    refine ⟨_, v1, p_script, p_k, v4, ((List.range ((p_many + 1) - 1)).map fun k => 1 + k), x8, rfl, hE7.fh, hE7.nt, ((rScr K).mono s5 r2), r6, hx8, fun c11 _ _ e9 o12 p13 q14 => ?_⟩
    have hE15 : Wst ⟨[], TL⟩ _ _ [(rScr K).at p_script, rN.at p_k, rN.at p_many, sAny, sAny, sAny] [] _ _ _ := hE7.grow e9
    have o16 := hE7.own o12
    have hE17 : Wst ⟨[], TL⟩ _ _ [(rScr K).at p_script, rN.at p_k, rN.at p_many, sAny, sAny, sAny] [(c11, cL rN x8)] _ _ _ := hE15.addC (A := cL rN x8) o16 p13 q14 (hE7.fresh_ne o12)
    obtain ⟨F18, s19, hE21, r20⟩ := hE17.freeze (k := 0) rfl o16
    have hE22 : Wst ⟨[], TL⟩ _ _ [(rScr K).at p_script, rN.at p_k, rN.at p_many, sAny, sAny, sAny] [] _ _ _ := hE21
    refine w_name (R := (rL rN)) (ss' := [(rScr K).at p_script, rN.at p_k, rN.at p_many, (rL rN).at x8, sAny, sAny]) hE22 rfl r20 fun _ hE23 => ?_
    refine x_seq ?_
    refine x_asg ?_
    refine m_lst ?_
    refine x_nil ?_
    refine w_lstC hE23 (R := rN) (l := ([] : List Nat)) (by show 0 ≤ 100000; decide) .nil fun c24 _ o25 hE26 => ?_
    have hE27 : Wst ⟨[], TL⟩ _ _ [(rScr K).at p_script, rN.at p_k, rN.at p_many, (rL rN).at x8, sAny, sAny] [(c24, cL rN ([] : List Nat))] _ _ _ := hE26
    refine w_nameC (ss' := [(rScr K).at p_script, rN.at p_k, rN.at p_many, (rL rN).at x8, sRef c24, sAny]) hE27 rfl fun _ hE28 => ?_
    refine x_seq ?_
    refine x_for ?_
    refine x_rg1 ?_
    refine x_cons ?_
    refine w_vN hE28 (i := 2) rfl ?_
    refine x_nil ?_
    obtain ⟨_, u29, hf⟩ := bnd hf
    have u29 := gd_ok u29
    refine w_r1 u29 ?_
    have hE40 : Wst ⟨[], TL⟩ _ _ [(rScr K).at p_script, rN.at p_k, rN.at p_many, (rL rN).at x8, sRef c24, sAny] [(c24, cL rN ([] : List Nat))] _ _ _ := hE28
    obtain ⟨x42, hx42, hf⟩ := bnd hf
    refine w_for 0 (fun (s30 : (List Nat)) (ad38 : Nat → Addr) => [(rScr K).at p_script, rN.at p_k, rN.at p_many, (rL rN).at x8, sRef c24, sAny]) (fun (s30 : (List Nat)) (ad38 : Nat → Addr) => [(c24, cL rN s30)]) hx42 adZ no_ad hE40 (fun _ ad38 _ _ _ sm w51 => jok_r0 w51.fh w51.nt) (fun s30 ad38 x31 v32 o33 _ _ _ ha39 s34 r35 hE36 hb37 => ?_) (fun ad38 _ _ _ ha39 s52 hE53 => ?_)
    · have hE41 : Wst ⟨[], TL⟩ _ _ [(rScr K).at p_script, rN.at p_k, rN.at p_many, (rL rN).at x8, sRef c24, sAny] [(c24, cL rN s30)] _ _ _ := hE36
      obtain rfl := (show v32 = (V.int ((x31 : Nat) : Int)) from r35)
      refine w_name (R := rN) (ss' := [(rScr K).at p_script, rN.at p_k, rN.at p_many, (rL rN).at x8, sRef c24, rN.at x31]) hE41 rfl rfl fun _ hE43 => ?_
      refine x_drop ?_
      refine x_bm ?_
      refine w_ref hE43 (i := 4) rfl ?_
      refine w_tyC hE43 (k := 0) rfl ?_
      refine x_cons ?_
      refine x_op ?_
      refine w_var hE43 (i := 3) rfl fun v44 r45 => ?_
      refine w_vN hE43 (i := 5) rfl ?_
      obtain ⟨x46, hx46, hb37⟩ := bnd hb37
      refine w_ix (lv_f hE43.fh r45) hx46 fun v47 r48 => ?_
      obtain rfl := (show v47 = (V.int ((x46 : Nat) : Int)) from r48)
      refine x_cons ?_
      refine w_vN hE43 (i := 5) rfl ?_
      refine x_nil ?_
      obtain ⟨_, u49, hb37⟩ := bnd hb37
      have u49 := gd_ok u49
      refine w_insertL hE43 (k := 0) (n := x46) (a := x31) rfl u49 rfl (cs' := [(c24, cL rN (s30.take x46 ++ [x31] ++ s30.drop x46))]) rfl fun _ hE50 => ?_
      have hb37 := Option.some.inj hb37
      subst hb37
      exact ⟨adZ, _, no_ad, s34, (hE50.toAny 5)⟩
    have hE54 : Wst ⟨[], TL⟩ _ _ [(rScr K).at p_script, rN.at p_k, rN.at p_many, (rL rN).at x8, sRef c24, sAny] [(c24, cL rN x42)] _ _ _ := hE53
    refine x_ret ?_
    refine w_ref hE54 (i := 4) rfl ?_
    have hf := Option.some.inj hf
    subst hf
    exact q _ _ _ hE54.ex o25 (hE54.apart (k := 0) rfl) (hE54.cell (k := 0) rfl)
end
abbrev s_l_turned_ties : Stmt := topS 22
theorem sc_l_turned_ties : FnScope ["order", "ties", "u", "v"] ["order", "ties"] (defScope s_l_turned_ties) := ⟨rfl, rfl, rfl, by decide +kernel, rfl, by decide +kernel, by decide +kernel⟩
def f_l_turned_ties (p_order : (List Nat)) (p_ties : (List (Nat × Nat))) : Option ((List (Nat × Nat))) :=
  (compO (β := (Nat × Nat)) (fun (x6 : (Nat × Nat)) =>
    (p_order[x6.1]?).bind fun x29 =>
    (p_order[x6.2]?).bind fun x34 =>
    (p_order[x6.1]?).bind fun x39 =>
    (p_order[x6.2]?).bind fun x44 =>
    some (some ((min x29 x34), (max x39 x44)))) p_ties).bind fun x51 =>
  (gd (x51.length ≤ 100000)).bind fun _ =>
  some x51
def q_l_turned_ties (TL : List (Addr × Str)) : Sp := fun vs H Q _ => ∃ (F : Hp) (v_order : V) (p_order : (List Nat)) (v_ties : V) (p_ties : (List (Nat × Nat))) (rr : (List (Nat × Nat))), vs = [v_order, v_ties] ∧ Same F H ∧ NoT F ∧ (rL rN).r F v_order p_order ∧ (rL (rT2 rN rN)).r F v_ties p_ties ∧ f_l_turned_ties p_order p_ties = some rr ∧ ∀ D F' H', Ext ⟨[], TL⟩ F H F' H' → H D = none → F' D = none → (∃ o, H' D = some o ∧ (cL (rT2 rN rN) rr).p F' o) → Q (.ref D) H'
section
variable {P : Program} {w : World} {K : PySem.W.Frag} {mg : Str → Option Value} {base : Heap}
theorem t_l_turned_ties (T : Tx mg) (F : DefAt K mg "_law_turned_ties" s_l_turned_ties ["order", "ties"]) : Cal P w K mg base CX0 1 "_law_turned_ties" (q_l_turned_ties TL) := by
  refine F.cal sc_l_turned_ties (fun vs H Q E h => ?_) (fun f cdv A outer s H vs Q E hr h => ?_)
  · obtain ⟨_, _, _, _, _, _, rfl, _⟩ := h
    rfl
  · obtain ⟨F, v_order, p_order, v_ties, p_ties, rr, rfl, sm0, nt0, r_order, r_ties, hf, q⟩ := h
    have hf : _ = some rr := hf
    unfold f_l_turned_ties at hf
    refine ⟨_, (pss_one (ps_ret (pe_lc (own := [("u", 2), ("v", 3)]) rfl sc_l_turned_ties.nd (k_pil K (pv 1)) (blkOk_by (own := [("u", 2), ("v", 3)]) (N := ["order", "ties", "u", "v"]) (sc := defScope s_l_turned_ties) (by decide +kernel)) (fun _ _ _ _ _ => (k_tup (n := 2) K rfl (pgs_cons (pg_name (i := 2) sc_l_turned_ties.nd rfl (Or.inl rfl)) (pgs_cons (pg_name (i := 3) sc_l_turned_ties.nd rfl (Or.inl rfl)) pgs_nil)))) (fun _ _ _ _ _ => pts_nil) (fun _ _ _ _ _ => (pe_tup (pa_cons (pe_callB (cl_min2 rfl) (by rfl) T.z_min (by decide +kernel) (pa_cons (pe_ix (ix_l K) (pv 0) (pv 2) (fun _ _ => rfl)) (pa_cons (pe_ix (ix_l K) (pv 0) (pv 3) (fun _ _ => rfl)) pa_nil))) (pa_cons (pe_callB (cl_max2 rfl) (by rfl) T.z_max (by decide +kernel) (pa_cons (pe_ix (ix_l K) (pv 0) (pv 2) (fun _ _ => rfl)) (pa_cons (pe_ix (ix_l K) (pv 0) (pv 3) (fun _ _ => rfl)) pa_nil))) pa_nil))))))), ?_⟩
    have hE0 : Wst ⟨[], TL⟩ F H [(rL rN).at p_order, (rL (rT2 rN rN)).at p_ties, sAny, sAny] [] (start ["order", "ties", "u", "v"] [v_order, v_ties]) F H := Wst.start (vs := [v_order, v_ties]) (n := 2) (ss := [(rL rN).at p_order, (rL (rT2 rN rN)).at p_ties]) (cs := []) sm0 nt0 (fun p hp => by cases hp) List.nodup_nil (.cons ⟨_, rfl, r_order⟩ (.cons ⟨_, rfl, r_ties⟩ .nil))
    revert hE0
    generalize start ["order", "ties", "u", "v"] [v_order, v_ties] = σ0
    intro hE0
    refine x_ret ?_
    refine x_lc ?_
    refine x_il ?_
    refine w_var hE0 (i := 1) rfl fun v1 r2 => ?_
    refine w_il (lv_f hE0.fh r2) fun a3 ea => ?_
    cases ea
    obtain ⟨x51, hx51, hf⟩ := bnd hf
    obtain ⟨_, u52, hf⟩ := bnd hf
    have u52 := gd_ok u52
    intro c4 d5
    refine w_lc (B := (rT2 rN rN)) hx51 u52 hE0 d5 (fun _ _ _ sm w58 => jok_l w58.fh w58.nt (lv_f w58.fh ((rL (rT2 rN rN)).mono sm r2))) (fun x6 v8 o9 ac16 _ _ s10 r11 hE12 hb13 z14 ew15 => ?_) (fun _ _ o55 s56 hE57 => ?_)
    · have hE12 : Wst ⟨[], TL⟩ _ _ [(rL rN).at p_order, (rL (rT2 rN rN)).at p_ties, sAny, sAny] [(c4, cL (rT2 rN rN) ac16)] _ _ _ := hE12
      refine w_gT2 hE12.fh r11 fun v19 v20 r21 r22 => ?_
      refine x_gCons ?_
      refine w_nameW (ss' := [(rL rN).at p_order, (rL (rT2 rN rN)).at p_ties, rN.at x6.1, sAny]) hE12 rfl r21 (by decide) ew15 fun _ ew24 hE23 => ?_
      refine x_gCons ?_
      refine w_nameW (ss' := [(rL rN).at p_order, (rL (rT2 rN rN)).at p_ties, rN.at x6.1, rN.at x6.2]) hE23 rfl r22 (by decide) ew24 fun _ ew26 hE25 => ?_
      refine x_gNil ?_
      refine ⟨ew26, ?_⟩
      refine x_yes ?_
      refine x_T ?_
      refine m_tup ?_
      refine x_cons ?_
      refine x_cb ?_
      refine x_cons ?_
      refine x_op ?_
      refine w_var hE25 (i := 0) rfl fun v27 r28 => ?_
      refine w_vN hE25 (i := 2) rfl ?_
      obtain ⟨x29, hx29, hb13⟩ := bnd hb13
      refine w_ix (lv_f hE25.fh r28) hx29 fun v30 r31 => ?_
      obtain rfl := (show v30 = (V.int ((x29 : Nat) : Int)) from r31)
      refine x_cons ?_
      refine x_op ?_
      refine w_var hE25 (i := 0) rfl fun v32 r33 => ?_
      refine w_vN hE25 (i := 3) rfl ?_
      obtain ⟨x34, hx34, hb13⟩ := bnd hb13
      refine w_ix (lv_f hE25.fh r33) hx34 fun v35 r36 => ?_
      obtain rfl := (show v35 = (V.int ((x34 : Nat) : Int)) from r36)
      refine x_nil ?_
      refine w_min2N ?_
      refine x_cons ?_
      refine x_cb ?_
      refine x_cons ?_
      refine x_op ?_
      refine w_var hE25 (i := 0) rfl fun v37 r38 => ?_
      refine w_vN hE25 (i := 2) rfl ?_
      obtain ⟨x39, hx39, hb13⟩ := bnd hb13
      refine w_ix (lv_f hE25.fh r38) hx39 fun v40 r41 => ?_
      obtain rfl := (show v40 = (V.int ((x39 : Nat) : Int)) from r41)
      refine x_cons ?_
      refine x_op ?_
      refine w_var hE25 (i := 0) rfl fun v42 r43 => ?_
      refine w_vN hE25 (i := 3) rfl ?_
      obtain ⟨x44, hx44, hb13⟩ := bnd hb13
      refine w_ix (lv_f hE25.fh r43) hx44 fun v45 r46 => ?_
      obtain rfl := (show v45 = (V.int ((x44 : Nat) : Int)) from r46)
      refine x_nil ?_
      refine w_max2N ?_
      refine x_nil ?_
      refine w_tup2 (R := rN) (S := rN) hE25 rfl rfl fun v47 _ _ s48 hE50 r49 => ?_
      have hb13 := Option.some.inj hb13
      subst hb13
      exact w_acc (s := ()) hE50 (s10.trans s48) r49 z14 ew26 rfl
    have hE59 : Wst ⟨[], TL⟩ _ _ [(rL rN).at p_order, (rL (rT2 rN rN)).at p_ties, sAny, sAny] [(c4, cL (rT2 rN rN) x51)] _ _ _ := hE57
    have hf := Option.some.inj hf
    subst hf
    exact q _ _ _ hE59.ex o55 (hE59.apart (k := 0) rfl) (hE59.cell (k := 0) rfl)
end
abbrev s_Web_is_place : Stmt := inClass (topS 8) 4
theorem sc_Web_is_place : FnScope ["self", "value"] ["self", "value"] (defScope s_Web_is_place) := ⟨rfl, rfl, rfl, by decide +kernel, rfl, by decide +kernel, by decide +kernel⟩
def f_Web_is_place (p_self : Wb) (p_value : Nat) : Option (Bool) :=
  some (true && ((decide (0 ≤ p_value)) && (decide (p_value < p_self.length))))
def q_Web_is_place (TL : List (Addr × Str)) (C_Web : Addr) : Sp := fun vs H Q _ => ∃ (F : Hp) (v_self : V) (p_self : Wb) (p_value : Nat) (rr : Bool), vs = [v_self, (V.int ((p_value : Nat) : Int))] ∧ Same F H ∧ NoT F ∧ (rWb C_Web).r F v_self p_self ∧ f_Web_is_place p_self p_value = some rr ∧ ∀ v F' H', Ext ⟨[], TL⟩ F H F' H' → rB.r F' v rr → Q v H'
section
variable {P : Program} {w : World} {K : PySem.W.Frag} {mg : Str → Option Value} {base : Heap}
theorem t_Web_is_place {C_Web : Addr} (T : Tx mg) (O_Web : Own K mg "Web" C_Web) (nB_Web : NoAttr K C_Web "beside") (F : MetAt K C_Web "is_place" "Web.is_place" s_Web_is_place ["self", "value"]) (c_is_integer : Cal P w K mg base CX0 1 "is_integer" (spIsInt K)) : Met P w K mg base CX0 2 C_Web "is_place" (q_Web_is_place TL C_Web) := by
  refine F.met sc_Web_is_place (fun vs H Q E h => ?_) (fun f cdv A outer s H vs Q E hr h => ?_)
  · obtain ⟨_, _, _, _, _, rfl, _⟩ := h
    rfl
  · obtain ⟨F, v_self, p_self, p_value, rr, rfl, sm0, nt0, r_self, hf, q⟩ := h
    have hf : _ = some rr := hf
    unfold f_Web_is_place at hf
    refine ⟨_, (pss_one (ps_ret (pe_and (pe_cal c_is_integer hr (by decide) rfl pass0 (pa_cons (pv 1) pa_nil)) (pe_and (pe_cmpR op_le pe_int (pv 1) (nomark _)) (pe_one (pe_cmpR op_lt (pv 1) (pe_callB (cl_len K) (by rfl) T.z_len PySem.boot_len (pa_cons (k_fld K (pv 0) rfl) pa_nil)) (nomark _))))))), ?_⟩
    have hE0 : Wst ⟨[], TL⟩ F H [(rWb C_Web).at p_self, rN.at p_value] [] (start ["self", "value"] [v_self, (V.int ((p_value : Nat) : Int))]) F H := Wst.start (vs := [v_self, (V.int ((p_value : Nat) : Int))]) (n := 0) (ss := [(rWb C_Web).at p_self, rN.at p_value]) (cs := []) sm0 nt0 (fun p hp => by cases hp) List.nodup_nil (.cons ⟨_, rfl, r_self⟩ (.cons ⟨_, rfl, rfl⟩ .nil))
    revert hE0
    generalize start ["self", "value"] [v_self, (V.int ((p_value : Nat) : Int))] = σ0
    intro hE0
    refine x_ret ?_
    refine w_andVP (cs := []) hE0 (ca := true) (cb := ((decide (0 ≤ p_value)) && (decide (p_value < p_self.length)))) (fun _ q0 => ?_) (fun _ _ s3 hE2 _ _ q0 => ?_) (fun _ _ s13 hE14 => ?_)
    · refine x_call ?_
      refine x_cons ?_
      refine w_vN hE0 (i := 1) rfl ?_
      refine x_nil ?_
      refine is_spInt (k := "int") (b := true) (knd_int _) rfl ?_
      exact q0 _ _ (Same.refl _) hE0
    · refine w_andVP (cs := []) hE2 (ca := (decide (0 ≤ p_value))) (cb := (decide (p_value < p_self.length))) (fun _ q0 => ?_) (fun _ _ s6 hE5 _ _ q0 => ?_) (fun _ _ s11 hE12 => ?_)
      · refine x_op ?_
        refine w_cN 0 ?_
        refine w_vN hE2 (i := 1) rfl ?_
        refine w_leN ?_
        exact q0 _ _ (Same.refl _) hE2
      · refine x_op ?_
        refine w_vN hE5 (i := 1) rfl ?_
        refine x_cb ?_
        refine x_cons ?_
        refine x_tfld ?_
        refine w_var hE5 (i := 0) rfl fun v7 r8 => ?_
        refine w_fldWeb hE5.fh r8 O_Web.cl nB_Web fun v9 r10 => ?_
        refine x_nil ?_
        refine w_len (lv_f hE5.fh r10) ?_
        refine w_ltN ?_
        exact q0 _ _ (Same.refl _) hE5
      exact q0 _ _ ((Same.refl _).trans s11) hE12
    have hf := Option.some.inj hf
    subst hf
    exact q _ _ _ hE14.ex rfl
end
abbrev s_Web_neighbours : Stmt := inClass (topS 8) 5
theorem sc_Web_neighbours : FnScope ["self", "place"] ["self", "place"] (defScope s_Web_neighbours) := ⟨rfl, rfl, rfl, by decide +kernel, rfl, by decide +kernel, by decide +kernel⟩
def f_Web_neighbours (p_self : Wb) (p_place : Nat) : Option ((List Nat)) :=
  (f_Web_is_place p_self p_place).bind fun x4 =>
  if (!x4) = true then
    none
  else
    (p_self[p_place]?).bind fun x14 =>
    some x14
def q_Web_neighbours (TL : List (Addr × Str)) (C_Web : Addr) : Sp := fun vs H Q _ => ∃ (F : Hp) (v_self : V) (p_self : Wb) (p_place : Nat) (rr : (List Nat)), vs = [v_self, (V.int ((p_place : Nat) : Int))] ∧ Same F H ∧ NoT F ∧ (rWb C_Web).r F v_self p_self ∧ f_Web_neighbours p_self p_place = some rr ∧ ∀ D F' H', Ext ⟨[], TL⟩ F H F' H' → H D = none → F' D = none → (∃ o, H' D = some o ∧ (cL rN rr).p F' o) → Q (.ref D) H'
section
variable {P : Program} {w : World} {K : PySem.W.Frag} {mg : Str → Option Value} {base : Heap}
theorem t_Web_neighbours {C_Web : Addr} (T : Tx mg) (O_Web : Own K mg "Web" C_Web) (nB_Web : NoAttr K C_Web "beside") (F : MetAt K C_Web "neighbours" "Web.neighbours" s_Web_neighbours ["self", "place"]) (m_Web_is_place : Met P w K mg base CX0 2 C_Web "is_place" (q_Web_is_place TL C_Web)) : Met P w K mg base CX0 3 C_Web "neighbours" (q_Web_neighbours TL C_Web) := by
  refine F.met sc_Web_neighbours (fun vs H Q E h => ?_) (fun f cdv A outer s H vs Q E hr h => ?_)
  · obtain ⟨_, _, _, _, _, rfl, _⟩ := h
    rfl
  · obtain ⟨F, v_self, p_self, p_place, rr, rfl, sm0, nt0, r_self, hf, q⟩ := h
    have hf : _ = some rr := hf
    unfold f_Web_neighbours at hf
    refine ⟨_, (pss_cons (ps_if (pt_not (pt_val (pe_mth m_Web_is_place O_Web hr (by decide) pass0 (pv 0) (pa_cons (pv 1) pa_nil))))
        (pss_one ps_never) pss_nil)
      (pss_one (ps_ret (pe_callTy (cl_listOf K) (by rfl) T.z_list (by decide +kernel) (pa_cons (pe_ix (ix_l K) (k_fld K (pv 0) rfl) (pv 1) (fun _ _ => rfl)) pa_nil))))), ?_⟩
    have hE0 : Wst ⟨[], TL⟩ F H [(rWb C_Web).at p_self, rN.at p_place] [] (start ["self", "place"] [v_self, (V.int ((p_place : Nat) : Int))]) F H := Wst.start (vs := [v_self, (V.int ((p_place : Nat) : Int))]) (n := 0) (ss := [(rWb C_Web).at p_self, rN.at p_place]) (cs := []) sm0 nt0 (fun p hp => by cases hp) List.nodup_nil (.cons ⟨_, rfl, r_self⟩ (.cons ⟨_, rfl, rfl⟩ .nil))
    revert hE0
    generalize start ["self", "place"] [v_self, (V.int ((p_place : Nat) : Int))] = σ0
    intro hE0
    refine x_seq ?_
    refine x_ifs ?_
    refine x_not ?_
    refine x_B ?_
    refine x_meth ?_
    refine w_var hE0 (i := 0) rfl fun v1 r2 => ?_
    refine w_insWeb hE0.fh r2 (by decide) fun a3 ea => ?_
    cases ea
    refine x_cons ?_
    refine w_vN hE0 (i := 1) rfl ?_
    refine x_nil ?_
    obtain ⟨x4, hx4, hf⟩ := bnd hf
    refine ⟨_, (V.ref a3), p_self, p_place, x4, rfl, hE0.fh, hE0.nt, r2, hx4, fun v7 _ _ e5 r6 => ?_⟩
    have hE8 : Wst ⟨[], TL⟩ _ _ [(rWb C_Web).at p_self, rN.at p_place] [] _ _ _ := hE0.grow e5
    obtain rfl := (show v7 = (V.bl x4) from r6)
    refine x_bl ?_
    refine x_itb (fun hc9 => ?_) (fun hc9 => ?_)
    · have hf := ite_t hf hc9
      cases hf
    · have hf := ite_f hf hc9
      refine x_next ?_
      refine x_ret ?_
      refine x_cb ?_
      refine x_cons ?_
      refine x_op ?_
      refine x_tfld ?_
      refine w_var hE8 (i := 0) rfl fun v10 r11 => ?_
      refine w_fldWeb hE8.fh r11 O_Web.cl nB_Web fun v12 r13 => ?_
      refine w_vN hE8 (i := 1) rfl ?_
      obtain ⟨x14, hx14, hf⟩ := bnd hf
      refine w_ix (lv_f hE8.fh r13) hx14 fun v15 r16 => ?_
      refine x_nil ?_
      refine w_listC hE8 (lv_f hE8.fh r16) fun c17 _ o18 hE19 => ?_
      have hE20 : Wst ⟨[], TL⟩ _ _ [(rWb C_Web).at p_self, rN.at p_place] [(c17, cL rN x14)] _ _ _ := hE19
      have hf := Option.some.inj hf
      subst hf
      exact q _ _ _ hE20.ex o18 (hE20.apart (k := 0) rfl) (hE20.cell (k := 0) rfl)
end
abbrev s_core : Stmt := topS 10
theorem sc_core : FnScope ["web", "counts", "struck", "leaves", "leaf", "other", "place"] ["web"] (defScope s_core) := ⟨rfl, rfl, rfl, by decide +kernel, rfl, by decide +kernel, by decide +kernel⟩
def f_core (p_web : Wb) : Option (((List Nat) × (List Nat))) :=
  (gd (p_web.length < 2 ^ 62)).bind fun _ =>
  (gd (p_web.length < 2 ^ 62)).bind fun _ =>
  (compO (β := Nat) (fun (x9 : Nat) =>
    (f_Web_neighbours p_web x9).bind fun x27 =>
    some (some x27.length)) (List.range p_web.length)).bind fun x38 =>
  (gd (x38.length ≤ 100000)).bind fun _ =>
  (gd (p_web.length < 2 ^ 62)).bind fun _ =>
  (gd (p_web.length < 2 ^ 62)).bind fun _ =>
  (compO (β := Nat) (fun (x61 : Nat) =>
    (x38[x61]?).bind fun x76 =>
    if (decide (x76 = 1)) = true then
      some (some x61)
    else some none) (List.range p_web.length)).bind fun x80 =>
  (gd (x80.length ≤ 100000)).bind fun _ =>
  (whlO (S := (List Nat) × (List Nat) × (List Nat)) (fun s95 =>
    some (!eqD s95.1 ([] : List Nat))) (fun s95 =>
    (s95.1[0]?).bind fun x110 =>
    (gd (s95.2.1.length < 100000)).bind fun _ =>
    (gd (x110 < s95.2.2.length)).bind fun _ =>
    (f_Web_neighbours p_web x110).bind fun x121 =>
    (foldO (fun (s132 : (List Nat)) (x133 : Nat) =>
      (s132[x133]?).bind fun x146 =>
      (gd (x133 < s132.length)).bind fun _ =>
      some (s132.set x133 (x146 - 1))) x121 (s95.2.2.set x110 0)).bind fun x144 =>
    (gd (p_web.length < 2 ^ 62)).bind fun _ =>
    (gd (p_web.length < 2 ^ 62)).bind fun _ =>
    (compO (β := Nat) (fun (x163 : Nat) =>
      (x144[x163]?).bind fun x178 =>
      if (decide (x178 = 1)) = true then
        some (some x163)
      else some none) (List.range p_web.length)).bind fun x182 =>
    (gd (x182.length ≤ 100000)).bind fun _ =>
    some (x182, (s95.2.1 ++ [x110]), x144)) 100000 (x80, ([] : List Nat), x38)).bind fun x107 =>
  (gd (p_web.length < 2 ^ 62)).bind fun _ =>
  (gd (p_web.length < 2 ^ 62)).bind fun _ =>
  (compO (β := Nat) (fun (x225 : Nat) =>
    if (!decide (x225 ∈ x107.2.1)) = true then
      some (some x225)
    else some none) (List.range p_web.length)).bind fun x243 =>
  (gd (x243.length ≤ 100000)).bind fun _ =>
  some (x107.2.1, x243)
def q_core (TL : List (Addr × Str)) (C_Web : Addr) : Sp := fun vs H Q _ => ∃ (F : Hp) (v_web : V) (p_web : Wb) (rr : ((List Nat) × (List Nat))), vs = [v_web] ∧ Same F H ∧ NoT F ∧ (rWb C_Web).r F v_web p_web ∧ f_core p_web = some rr ∧ ∀ v F' H', Ext ⟨[], TL⟩ F H F' H' → (rT2 (rL rN) (rL rN)).r F' v rr → Q v H'
section
variable {P : Program} {w : World} {K : PySem.W.Frag} {mg : Str → Option Value} {base : Heap}
theorem t_core {C_Web : Addr} (T : Tx mg) (O_Web : Own K mg "Web" C_Web) (F : DefAt K mg "core" s_core ["web"]) (o_WebD_lenD : Met P w K mg base CX0 1 C_Web "__len__" (q_WebD_lenD TL C_Web)) (m_Web_neighbours : Met P w K mg base CX0 3 C_Web "neighbours" (q_Web_neighbours TL C_Web)) : Cal P w K mg base CX0 4 "core" (q_core TL C_Web) := by
  refine F.cal sc_core (fun vs H Q E h => ?_) (fun f cdv A outer s H vs Q E hr h => ?_)
  · obtain ⟨_, _, _, _, rfl, _⟩ := h
    rfl
  · obtain ⟨F, v_web, p_web, rr, rfl, sm0, nt0, r_web, hf, q⟩ := h
    have hf : _ = some rr := hf
    unfold f_core at hf
    refine ⟨_, (pss_cons (ps_set (i := 1) sc_core.nd rfl (Or.inr rfl) (pe_lc (own := [("place", 6)]) (g := gName 6) rfl sc_core.nd (pi_range1 rfl T.z_range (pa_cons (pe_callB (call_lenO o_WebD_lenD hr (by decide) pass0) (by rfl) T.z_len PySem.boot_len (pa_cons (pv 0) pa_nil)) pa_nil)) (blkOk_by (own := [("place", 6)]) (N := ["web", "counts", "struck", "leaves", "leaf", "other", "place"]) (sc := defScope s_core) (by decide +kernel)) (fun _ _ _ _ _ => (pg_name (i := 6) sc_core.nd rfl (Or.inl rfl))) (fun _ _ _ _ _ => pts_nil) (fun _ _ _ _ _ => (pe_callB (cl_len K) (by rfl) T.z_len PySem.boot_len (pa_cons (pe_mth m_Web_neighbours O_Web hr (by decide) pass0 (pv 0) (pa_cons (pv 6) pa_nil)) pa_nil)))))
      (pss_cons (ps_set (i := 2) sc_core.nd rfl (Or.inr rfl) (pe_lst pa_nil))
      (pss_cons (ps_setLc (i := 3) (own := [("place", 6)]) (g := gName 6) rfl sc_core.nd rfl rfl (sw_true rfl rfl rfl (by decide +kernel)) (pi_range1 rfl T.z_range (pa_cons (pe_callB (call_lenO o_WebD_lenD hr (by decide) pass0) (by rfl) T.z_len PySem.boot_len (pa_cons (pv 0) pa_nil)) pa_nil)) (blkOk_by (own := [("place", 6)]) (N := ["web", "counts", "struck", "leaves", "leaf", "other", "place"]) (sc := defScope s_core) (by decide +kernel)) (fun _ _ _ _ _ => (pg_name (i := 6) sc_core.nd rfl (Or.inl rfl))) (fun _ _ _ _ _ => pts_one (pt_cmpR op_eq (pe_ix (ix_l K) (pv 1) (pv 6) (fun _ _ => rfl)) pe_int (nomark _))) (fun _ _ _ _ _ => (pv 6)))
      (pss_cons (ps_while PassesOwn.never (pt_cmpR (k_neD K hr.units) (pv 3) (pe_lst pa_nil) (nomark _))
        (pss_cons (ps_set (i := 4) sc_core.nd rfl (Or.inl rfl) (pe_ix (ix_l K) (pv 3) pe_int (fun _ _ => rfl)))
      (pss_cons (ps_expr (k_bm K PySem.F.plainAttrs_list PySem.F.slot_list_append PySem.F.type_list_append mt_append (pv 2) (pa_cons (pv 4) pa_nil)))
      (pss_cons (ps_asg pe_int (pg_sub (pv 1) (pv 4) set_list))
      (pss_cons (ps_for PassesOwn.never rfl (k_pil K (pe_mth m_Web_neighbours O_Web hr (by decide) pass0 (pv 0) (pa_cons (pv 4) pa_nil))) (pg_name (i := 5) sc_core.nd rfl (Or.inl rfl))
        (pss_one (ps_asg (pe_callB (cl_max2 rfl) (by rfl) T.z_max (by decide +kernel) (pa_cons pe_int (pa_cons (pe_op op_sub (pe_ix (ix_l K) (pv 1) (pv 5) (fun _ _ => rfl)) pe_int) pa_nil))) (pg_sub (pv 1) (pv 5) set_list))))
      (pss_one (ps_setLc (i := 3) (own := [("place", 6)]) (g := gName 6) rfl sc_core.nd rfl rfl (sw_true rfl rfl rfl (by decide +kernel)) (pi_range1 rfl T.z_range (pa_cons (pe_callB (call_lenO o_WebD_lenD hr (by decide) pass0) (by rfl) T.z_len PySem.boot_len (pa_cons (pv 0) pa_nil)) pa_nil)) (blkOk_by (own := [("place", 6)]) (N := ["web", "counts", "struck", "leaves", "leaf", "other", "place"]) (sc := defScope s_core) (by decide +kernel)) (fun _ _ _ _ _ => (pg_name (i := 6) sc_core.nd rfl (Or.inl rfl))) (fun _ _ _ _ _ => pts_one (pt_cmpR op_eq (pe_ix (ix_l K) (pv 1) (pv 6) (fun _ _ => rfl)) pe_int (nomark _))) (fun _ _ _ _ _ => (pv 6)))))))))
      (pss_one (ps_ret (pe_tup (pa_cons (pv 2) (pa_cons (pe_lc (own := [("place", 6)]) (g := gName 6) rfl sc_core.nd (pi_range1 rfl T.z_range (pa_cons (pe_callB (call_lenO o_WebD_lenD hr (by decide) pass0) (by rfl) T.z_len PySem.boot_len (pa_cons (pv 0) pa_nil)) pa_nil)) (blkOk_by (own := [("place", 6)]) (N := ["web", "counts", "struck", "leaves", "leaf", "other", "place"]) (sc := defScope s_core) (by decide +kernel)) (fun _ _ _ _ _ => (pg_name (i := 6) sc_core.nd rfl (Or.inl rfl))) (fun _ _ _ _ _ => pts_one (pt_cmpR (k_nin K) (pv 6) (pv 2) (by first | exact nomark _ | rfl))) (fun _ _ _ _ _ => (pv 6))) pa_nil))))))))), ?_⟩
    have hE0 : Wst ⟨[], TL⟩ F H [(rWb C_Web).at p_web, sAny, sAny, sAny, sAny, sAny, sAny] [] (start ["web", "counts", "struck", "leaves", "leaf", "other", "place"] [v_web]) F H := Wst.start (vs := [v_web]) (n := 6) (ss := [(rWb C_Web).at p_web]) (cs := []) sm0 nt0 (fun p hp => by cases hp) List.nodup_nil (.cons ⟨_, rfl, r_web⟩ .nil)
    revert hE0
    generalize start ["web", "counts", "struck", "leaves", "leaf", "other", "place"] [v_web] = σ0
    intro hE0
    refine x_seq ?_
    refine x_asg ?_
    refine x_lc ?_
    refine x_rg1 ?_
    refine x_cons ?_
    refine x_cb ?_
    refine x_cons ?_
    refine w_var hE0 (i := 0) rfl fun v1 r2 => ?_
    refine x_nil ?_
    obtain ⟨_, u5, hf⟩ := bnd hf
    have u5 := gd_ok u5
    refine w_lenWeb hE0 r2 u5 fun _ _ s3 hE4 => ?_
    refine x_nil ?_
    obtain ⟨_, u6, hf⟩ := bnd hf
    have u6 := gd_ok u6
    refine w_r1 u6 ?_
    obtain ⟨x38, hx38, hf⟩ := bnd hf
    obtain ⟨_, u39, hf⟩ := bnd hf
    have u39 := gd_ok u39
    intro c7 d8
    refine w_lc (B := rN) hx38 u39 hE4 d8 (fun _ _ _ sm w45 => jok_r0 w45.fh w45.nt) (fun x9 v11 o12 ac19 _ _ s13 r14 hE15 hb16 z17 ew18 => ?_) (fun _ _ o42 s43 hE44 => ?_)
    · have hE15 : Wst ⟨[], TL⟩ _ _ [(rWb C_Web).at p_web, sAny, sAny, sAny, sAny, sAny, sAny] [(c7, cL rN ac19)] _ _ _ := hE15
      refine w_nameW (ss' := [(rWb C_Web).at p_web, sAny, sAny, sAny, sAny, sAny, rN.at x9]) hE15 rfl r14 (by decide) ew18 fun _ ew23 hE22 => ?_
      refine ⟨ew23, ?_⟩
      refine x_yes ?_
      refine x_T ?_
      refine x_cb ?_
      refine x_cons ?_
      refine x_meth ?_
      refine w_var hE22 (i := 0) rfl fun v24 r25 => ?_
      refine w_insWeb hE22.fh r25 (by decide) fun a26 ea => ?_
      cases ea
      refine x_cons ?_
      refine w_vN hE22 (i := 6) rfl ?_
      refine x_nil ?_
      obtain ⟨x27, hx27, hb16⟩ := bnd hb16
      refine ⟨_, (V.ref a26), p_web, x9, x27, rfl, hE22.fh, hE22.nt, r25, hx27, fun c30 _ _ e28 o31 p32 q33 => ?_⟩
      have hE34 : Wst ⟨[], TL⟩ _ _ [(rWb C_Web).at p_web, sAny, sAny, sAny, sAny, sAny, rN.at x9] [(c7, cL rN ac19)] _ _ _ := hE22.grow e28
      have o35 := hE22.own o31
      have hE36 : Wst ⟨[], TL⟩ _ _ [(rWb C_Web).at p_web, sAny, sAny, sAny, sAny, sAny, rN.at x9] [(c30, cL rN x27), (c7, cL rN ac19)] _ _ _ := hE34.addC (A := cL rN x27) o35 p32 q33 (hE22.fresh_ne o31)
      refine x_nil ?_
      refine w_len (lv_c hE36 (k := 0) rfl) ?_
      have hE37 : Wst ⟨[], TL⟩ _ _ [(rWb C_Web).at p_web, sAny, sAny, sAny, sAny, sAny, rN.at x9] [(c7, cL rN ac19)] _ _ _ := hE36.dropC 0
      have hb16 := Option.some.inj hb16
      subst hb16
      exact w_acc (s := ()) hE37 (s13.trans e28.ff) rfl z17 ew23 rfl
    have hE46 : Wst ⟨[], TL⟩ _ _ [(rWb C_Web).at p_web, sAny, sAny, sAny, sAny, sAny, sAny] [(c7, cL rN x38)] _ _ _ := hE44
    refine w_nameC (ss' := [(rWb C_Web).at p_web, sRef c7, sAny, sAny, sAny, sAny, sAny]) hE46 rfl fun _ hE47 => ?_
    refine x_seq ?_
    refine x_asg ?_
    refine m_lst ?_
    refine x_nil ?_
    refine w_lstC hE47 (R := rN) (l := ([] : List Nat)) (by show 0 ≤ 100000; decide) .nil fun c48 _ o49 hE50 => ?_
    have hE51 : Wst ⟨[], TL⟩ _ _ [(rWb C_Web).at p_web, sRef c7, sAny, sAny, sAny, sAny, sAny] [(c48, cL rN ([] : List Nat)), (c7, cL rN x38)] _ _ _ := hE50
    refine w_nameC (ss' := [(rWb C_Web).at p_web, sRef c7, sRef c48, sAny, sAny, sAny, sAny]) hE51 rfl fun _ hE52 => ?_
    refine x_seq ?_
    refine x_asg ?_
    refine x_lc ?_
    refine x_rg1 ?_
    refine x_cons ?_
    refine x_cb ?_
    refine x_cons ?_
    refine w_var hE52 (i := 0) rfl fun v53 r54 => ?_
    refine x_nil ?_
    obtain ⟨_, u57, hf⟩ := bnd hf
    have u57 := gd_ok u57
    refine w_lenWeb hE52 r54 u57 fun _ _ s55 hE56 => ?_
    refine x_nil ?_
    obtain ⟨_, u58, hf⟩ := bnd hf
    have u58 := gd_ok u58
    refine w_r1 u58 ?_
    obtain ⟨x80, hx80, hf⟩ := bnd hf
    obtain ⟨_, u81, hf⟩ := bnd hf
    have u81 := gd_ok u81
    intro c59 d60
    refine w_lc (B := rN) hx80 u81 hE56 d60 (fun _ _ _ sm w87 => jok_r0 w87.fh w87.nt) (fun x61 v63 o64 ac71 _ _ s65 r66 hE67 hb68 z69 ew70 => ?_) (fun _ _ o84 s85 hE86 => ?_)
    · have hE67 : Wst ⟨[], TL⟩ _ _ [(rWb C_Web).at p_web, sRef c7, sRef c48, sAny, sAny, sAny, sAny] [(c59, cL rN ac71), (c48, cL rN ([] : List Nat)), (c7, cL rN x38)] _ _ _ := hE67
      refine w_nameW (ss' := [(rWb C_Web).at p_web, sRef c7, sRef c48, sAny, sAny, sAny, rN.at x61]) hE67 rfl r66 (by decide) ew70 fun _ ew75 hE74 => ?_
      refine ⟨ew75, ?_⟩
      refine x_test ?_
      refine x_op ?_
      refine x_op ?_
      refine w_ref hE74 (i := 1) rfl ?_
      refine w_vN hE74 (i := 6) rfl ?_
      obtain ⟨x76, hx76, hb68⟩ := bnd hb68
      refine w_ix (lv_c hE74 (k := 2) rfl) hx76 fun v77 r78 => ?_
      obtain rfl := (show v77 = (V.int ((x76 : Nat) : Int)) from r78)
      refine w_cN 1 ?_
      refine w_eqN ?_
      refine x_bl ?_
      refine x_itb (fun hc79 => ?_) (fun hc79 => ?_)
      · have hb68 := ite_t hb68 hc79
        refine w_vN hE74 (i := 6) rfl ?_
        have hb68 := Option.some.inj hb68
        subst hb68
        exact w_acc (s := ()) hE74 s65 rfl z69 ew75 rfl
      · have hb68 := ite_f hb68 hc79
        have hb68 := Option.some.inj hb68
        subst hb68
        exact w_skip (s := ()) hE74 s65 ew75 rfl
    have hE88 : Wst ⟨[], TL⟩ _ _ [(rWb C_Web).at p_web, sRef c7, sRef c48, sAny, sAny, sAny, sAny] [(c59, cL rN x80), (c48, cL rN ([] : List Nat)), (c7, cL rN x38)] _ _ _ := hE86
    obtain ⟨F89, s90, hE92, r91⟩ := hE88.freeze (k := 0) rfl o84
    have hE93 : Wst ⟨[], TL⟩ _ _ [(rWb C_Web).at p_web, sRef c7, sRef c48, sAny, sAny, sAny, sAny] [(c48, cL rN ([] : List Nat)), (c7, cL rN x38)] _ _ _ := hE92
    refine w_name (R := (rL rN)) (ss' := [(rWb C_Web).at p_web, sRef c7, sRef c48, (rL rN).at x80, sAny, sAny, sAny]) hE93 rfl r91 fun _ hE94 => ?_
    refine x_seq ?_
    have hE105 : Wst ⟨[], TL⟩ _ _ [(rWb C_Web).at p_web, sRef c7, sRef c48, (rL rN).at (x80, ([] : List Nat), x38).1, sAny, sAny, sAny] [(c48, cL rN (x80, ([] : List Nat), x38).2.1), (c7, cL rN (x80, ([] : List Nat), x38).2.2)] _ _ _ := hE94
    obtain ⟨x107, hx107, hf⟩ := bnd hf
    refine w_while 0 (fun (s95 : (List Nat) × (List Nat) × (List Nat)) (ad103 : Nat → Addr) => [(rWb C_Web).at p_web, sRef c7, sRef c48, (rL rN).at s95.1, sAny, sAny, sAny]) (fun (s95 : (List Nat) × (List Nat) × (List Nat)) (ad103 : Nat → Addr) => [(c48, cL rN s95.2.1), (c7, cL rN s95.2.2)]) hx107 adZ no_ad hE105 (fun s95 ad103 _ _ _ _ s200 hE199 hc198 _ qc => ?_) (fun s95 ad103 o98 _ _ _ ha104 s99 hE101 _ hb102 => ?_) (fun ad103 _ _ _ ha104 s208 hE209 => ?_)
    · have hE201 : Wst ⟨[], TL⟩ _ _ [(rWb C_Web).at p_web, sRef c7, sRef c48, (rL rN).at s95.1, sAny, sAny, sAny] [(c48, cL rN s95.2.1), (c7, cL rN s95.2.2)] _ _ _ := hE199
      refine x_test ?_
      refine x_op ?_
      refine w_var hE201 (i := 3) rfl fun v202 r203 => ?_
      refine m_lst ?_
      refine x_nil ?_
      refine w_lstF hE201 (R := rN) (l := ([] : List Nat)) (by show 0 ≤ 100000; decide) .nil fun v204 _ _ s205 hE207 r206 => ?_
      refine w_neD (dtL dtN) (a := s95.1) (b := ([] : List Nat)) (dv_l dtN hE207.fh (lv_f hE207.fh ((rL rN).mono s205 r203))) (dv_l dtN hE207.fh (lv_f hE207.fh r206)) ?_
      refine x_bl ?_
      have hc198 := Option.some.inj hc198
      subst hc198
      exact qc _ _ ((Same.refl _).trans s205) hE207
    · have hE106 : Wst ⟨[], TL⟩ _ _ [(rWb C_Web).at p_web, sRef c7, sRef c48, (rL rN).at s95.1, sAny, sAny, sAny] [(c48, cL rN s95.2.1), (c7, cL rN s95.2.2)] _ _ _ := hE101
      refine x_seq ?_
      refine x_asg ?_
      refine x_op ?_
      refine w_var hE106 (i := 3) rfl fun v108 r109 => ?_
      refine w_cN 0 ?_
      obtain ⟨x110, hx110, hb102⟩ := bnd hb102
      refine w_ix (lv_f hE106.fh r109) hx110 fun v111 r112 => ?_
      obtain rfl := (show v111 = (V.int ((x110 : Nat) : Int)) from r112)
      refine w_name (R := rN) (ss' := [(rWb C_Web).at p_web, sRef c7, sRef c48, (rL rN).at s95.1, rN.at x110, sAny, sAny]) hE106 rfl rfl fun _ hE113 => ?_
      refine x_seq ?_
      refine x_drop ?_
      refine x_bm ?_
      refine w_ref hE113 (i := 2) rfl ?_
      refine w_tyC hE113 (k := 0) rfl ?_
      refine x_cons ?_
      refine w_vN hE113 (i := 4) rfl ?_
      refine x_nil ?_
      obtain ⟨_, u114, hb102⟩ := bnd hb102
      have u114 := gd_ok u114
      refine w_app hE113 (k := 0) (a := x110) rfl u114 rfl (cs' := [(c48, cL rN (s95.2.1 ++ [x110])), (c7, cL rN s95.2.2)]) rfl fun _ hE115 => ?_
      refine x_seq ?_
      refine x_asg ?_
      refine w_cN 0 ?_
      refine x_sub ?_
      refine w_ref hE115 (i := 1) rfl ?_
      refine w_vN hE115 (i := 4) rfl ?_
      obtain ⟨_, u116, hb102⟩ := bnd hb102
      have u116 := gd_ok u116
      refine w_set hE115 (k := 1) (a := 0) rfl u116 rfl (cs' := [(c48, cL rN (s95.2.1 ++ [x110])), (c7, cL rN (s95.2.2.set x110 0))]) rfl fun _ hE117 => ?_
      refine x_seq ?_
      refine x_for ?_
      refine x_il ?_
      refine x_meth ?_
      refine w_var hE117 (i := 0) rfl fun v118 r119 => ?_
      refine w_insWeb hE117.fh r119 (by decide) fun a120 ea => ?_
      cases ea
      refine x_cons ?_
      refine w_vN hE117 (i := 4) rfl ?_
      refine x_nil ?_
      obtain ⟨x121, hx121, hb102⟩ := bnd hb102
      refine ⟨_, (V.ref a120), p_web, x110, x121, rfl, hE117.fh, hE117.nt, r119, hx121, fun c124 _ _ e122 o125 p126 q127 => ?_⟩
      have hE128 : Wst ⟨[], TL⟩ _ _ [(rWb C_Web).at p_web, sRef c7, sRef c48, (rL rN).at s95.1, rN.at x110, sAny, sAny] [(c48, cL rN (s95.2.1 ++ [x110])), (c7, cL rN (s95.2.2.set x110 0))] _ _ _ := hE117.grow e122
      have o129 := hE117.own o125
      have hE130 : Wst ⟨[], TL⟩ _ _ [(rWb C_Web).at p_web, sRef c7, sRef c48, (rL rN).at s95.1, rN.at x110, sAny, sAny] [(c124, cL rN x121), (c48, cL rN (s95.2.1 ++ [x110])), (c7, cL rN (s95.2.2.set x110 0))] _ _ _ := hE128.addC (A := cL rN x121) o129 p126 q127 (hE117.fresh_ne o125)
      refine w_il (lv_c hE130 (k := 0) rfl) fun a131 ea => ?_
      cases ea
      have hE142 : Wst ⟨[], TL⟩ _ _ [(rWb C_Web).at p_web, sRef c7, sRef c48, (rL rN).at s95.1, rN.at x110, sAny, sAny] [(c124, cL rN x121), (c48, cL rN (s95.2.1 ++ [x110])), (c7, cL rN (s95.2.2.set x110 0))] _ _ _ := hE130
      obtain ⟨x144, hx144, hb102⟩ := bnd hb102
      refine w_for 0 (fun (s132 : (List Nat)) (ad140 : Nat → Addr) => [(rWb C_Web).at p_web, sRef c7, sRef c48, (rL rN).at s95.1, rN.at x110, sAny, sAny]) (fun (s132 : (List Nat)) (ad140 : Nat → Addr) => [(c124, cL rN x121), (c48, cL rN (s95.2.1 ++ [x110])), (c7, cL rN s132)]) hx144 adZ no_ad hE142 (fun _ ad140 _ _ _ sm w151 => jok_l w151.fh w151.nt (lv_c w151 (k := 0) rfl)) (fun s132 ad140 x133 v134 o135 _ _ _ ha141 s136 r137 hE138 hb139 => ?_) (fun ad140 _ _ _ ha141 s152 hE153 => ?_)
      · have hE143 : Wst ⟨[], TL⟩ _ _ [(rWb C_Web).at p_web, sRef c7, sRef c48, (rL rN).at s95.1, rN.at x110, sAny, sAny] [(c124, cL rN x121), (c48, cL rN (s95.2.1 ++ [x110])), (c7, cL rN s132)] _ _ _ := hE138
        obtain rfl := (show v134 = (V.int ((x133 : Nat) : Int)) from r137)
        refine w_name (R := rN) (ss' := [(rWb C_Web).at p_web, sRef c7, sRef c48, (rL rN).at s95.1, rN.at x110, rN.at x133, sAny]) hE143 rfl rfl fun _ hE145 => ?_
        refine x_asg ?_
        refine x_cb ?_
        refine x_cons ?_
        refine w_cN 0 ?_
        refine x_cons ?_
        refine x_op ?_
        refine x_op ?_
        refine w_ref hE145 (i := 1) rfl ?_
        refine w_vN hE145 (i := 5) rfl ?_
        obtain ⟨x146, hx146, hb139⟩ := bnd hb139
        refine w_ix (lv_c hE145 (k := 2) rfl) hx146 fun v147 r148 => ?_
        obtain rfl := (show v147 = (V.int ((x146 : Nat) : Int)) from r148)
        refine w_cN 1 ?_
        refine x_I0 ?_
        refine x_nil ?_
        refine w_max0 ?_
        refine x_sub ?_
        refine w_ref hE145 (i := 1) rfl ?_
        refine w_vN hE145 (i := 5) rfl ?_
        obtain ⟨_, u149, hb139⟩ := bnd hb139
        have u149 := gd_ok u149
        refine w_set hE145 (k := 2) (a := (x146 - 1)) rfl u149 rfl (cs' := [(c124, cL rN x121), (c48, cL rN (s95.2.1 ++ [x110])), (c7, cL rN (s132.set x133 (x146 - 1)))]) rfl fun _ hE150 => ?_
        have hb139 := Option.some.inj hb139
        subst hb139
        exact ⟨adZ, _, no_ad, s136, (hE150.toAny 5)⟩
      have hE154 : Wst ⟨[], TL⟩ _ _ [(rWb C_Web).at p_web, sRef c7, sRef c48, (rL rN).at s95.1, rN.at x110, sAny, sAny] [(c124, cL rN x121), (c48, cL rN (s95.2.1 ++ [x110])), (c7, cL rN x144)] _ _ _ := hE153
      refine x_asg ?_
      refine x_lc ?_
      refine x_rg1 ?_
      refine x_cons ?_
      refine x_cb ?_
      refine x_cons ?_
      refine w_var hE154 (i := 0) rfl fun v155 r156 => ?_
      refine x_nil ?_
      obtain ⟨_, u159, hb102⟩ := bnd hb102
      have u159 := gd_ok u159
      refine w_lenWeb hE154 r156 u159 fun _ _ s157 hE158 => ?_
      refine x_nil ?_
      obtain ⟨_, u160, hb102⟩ := bnd hb102
      have u160 := gd_ok u160
      refine w_r1 u160 ?_
      obtain ⟨x182, hx182, hb102⟩ := bnd hb102
      obtain ⟨_, u183, hb102⟩ := bnd hb102
      have u183 := gd_ok u183
      intro c161 d162
      refine w_lc (B := rN) hx182 u183 hE158 d162 (fun _ _ _ sm w189 => jok_r0 w189.fh w189.nt) (fun x163 v165 o166 ac173 _ _ s167 r168 hE169 hb170 z171 ew172 => ?_) (fun _ _ o186 s187 hE188 => ?_)
      · have hE169 : Wst ⟨[], TL⟩ _ _ [(rWb C_Web).at p_web, sRef c7, sRef c48, (rL rN).at s95.1, rN.at x110, sAny, sAny] [(c161, cL rN ac173), (c124, cL rN x121), (c48, cL rN (s95.2.1 ++ [x110])), (c7, cL rN x144)] _ _ _ := hE169
        refine w_nameW (ss' := [(rWb C_Web).at p_web, sRef c7, sRef c48, (rL rN).at s95.1, rN.at x110, sAny, rN.at x163]) hE169 rfl r168 (by decide) ew172 fun _ ew177 hE176 => ?_
        refine ⟨ew177, ?_⟩
        refine x_test ?_
        refine x_op ?_
        refine x_op ?_
        refine w_ref hE176 (i := 1) rfl ?_
        refine w_vN hE176 (i := 6) rfl ?_
        obtain ⟨x178, hx178, hb170⟩ := bnd hb170
        refine w_ix (lv_c hE176 (k := 3) rfl) hx178 fun v179 r180 => ?_
        obtain rfl := (show v179 = (V.int ((x178 : Nat) : Int)) from r180)
        refine w_cN 1 ?_
        refine w_eqN ?_
        refine x_bl ?_
        refine x_itb (fun hc181 => ?_) (fun hc181 => ?_)
        · have hb170 := ite_t hb170 hc181
          refine w_vN hE176 (i := 6) rfl ?_
          have hb170 := Option.some.inj hb170
          subst hb170
          exact w_acc (s := ()) hE176 s167 rfl z171 ew177 rfl
        · have hb170 := ite_f hb170 hc181
          have hb170 := Option.some.inj hb170
          subst hb170
          exact w_skip (s := ()) hE176 s167 ew177 rfl
      have hE190 : Wst ⟨[], TL⟩ _ _ [(rWb C_Web).at p_web, sRef c7, sRef c48, (rL rN).at s95.1, rN.at x110, sAny, sAny] [(c161, cL rN x182), (c124, cL rN x121), (c48, cL rN (s95.2.1 ++ [x110])), (c7, cL rN x144)] _ _ _ := hE188
      obtain ⟨F191, s192, hE194, r193⟩ := hE190.freeze (k := 0) rfl o186
      have hE195 : Wst ⟨[], TL⟩ _ _ [(rWb C_Web).at p_web, sRef c7, sRef c48, (rL rN).at s95.1, rN.at x110, sAny, sAny] [(c124, cL rN x121), (c48, cL rN (s95.2.1 ++ [x110])), (c7, cL rN x144)] _ _ _ := hE194
      refine w_name (R := (rL rN)) (ss' := [(rWb C_Web).at p_web, sRef c7, sRef c48, (rL rN).at x182, rN.at x110, sAny, sAny]) hE195 rfl r193 fun _ hE196 => ?_
      have hb102 := Option.some.inj hb102
      subst hb102
      exact ⟨adZ, _, no_ad, (((((s99.trans e122.ff).trans s152).trans s157).trans s187).trans s192), ((hE196.dropC 0).toAny 4)⟩
    have hE210 : Wst ⟨[], TL⟩ _ _ [(rWb C_Web).at p_web, sRef c7, sRef c48, (rL rN).at x107.1, sAny, sAny, sAny] [(c48, cL rN x107.2.1), (c7, cL rN x107.2.2)] _ _ _ := hE209
    refine x_ret ?_
    refine m_tup ?_
    refine x_cons ?_
    refine w_ref hE210 (i := 2) rfl ?_
    obtain ⟨F211, s212, hE214, r213⟩ := hE210.freeze (k := 0) rfl o49
    have hE215 : Wst ⟨[], TL⟩ _ _ [(rWb C_Web).at p_web, sRef c7, sRef c48, (rL rN).at x107.1, sAny, sAny, sAny] [(c7, cL rN x107.2.2)] _ _ _ := hE214
    have hE216 : Wst ⟨[], TL⟩ _ _ [(rWb C_Web).at p_web, sRef c7, (rL rN).at x107.2.1, (rL rN).at x107.1, sAny, sAny, sAny] [(c7, cL rN x107.2.2)] _ _ _ := hE215.toAt (i := 2) rfl r213
    refine x_cons ?_
    refine x_lc ?_
    refine x_rg1 ?_
    refine x_cons ?_
    refine x_cb ?_
    refine x_cons ?_
    refine w_var hE216 (i := 0) rfl fun v217 r218 => ?_
    refine x_nil ?_
    obtain ⟨_, u221, hf⟩ := bnd hf
    have u221 := gd_ok u221
    refine w_lenWeb hE216 r218 u221 fun _ _ s219 hE220 => ?_
    refine x_nil ?_
    obtain ⟨_, u222, hf⟩ := bnd hf
    have u222 := gd_ok u222
    refine w_r1 u222 ?_
    obtain ⟨x243, hx243, hf⟩ := bnd hf
    obtain ⟨_, u244, hf⟩ := bnd hf
    have u244 := gd_ok u244
    intro c223 d224
    refine w_lc (B := rN) hx243 u244 hE220 d224 (fun _ _ _ sm w250 => jok_r0 w250.fh w250.nt) (fun x225 v227 o228 ac235 _ _ s229 r230 hE231 hb232 z233 ew234 => ?_) (fun _ _ o247 s248 hE249 => ?_)
    · have hE231 : Wst ⟨[], TL⟩ _ _ [(rWb C_Web).at p_web, sRef c7, (rL rN).at x107.2.1, (rL rN).at x107.1, sAny, sAny, sAny] [(c223, cL rN ac235), (c7, cL rN x107.2.2)] _ _ _ := hE231
      refine w_nameW (ss' := [(rWb C_Web).at p_web, sRef c7, (rL rN).at x107.2.1, (rL rN).at x107.1, sAny, sAny, rN.at x225]) hE231 rfl r230 (by decide) ew234 fun _ ew239 hE238 => ?_
      refine ⟨ew239, ?_⟩
      refine x_test ?_
      refine x_op ?_
      refine w_vN hE238 (i := 6) rfl ?_
      refine w_var hE238 (i := 2) rfl fun v240 r241 => ?_
      refine w_ninN (lv_f hE238.fh r241) ?_
      refine x_bl ?_
      refine x_itb (fun hc242 => ?_) (fun hc242 => ?_)
      · have hb232 := ite_t hb232 hc242
        refine w_vN hE238 (i := 6) rfl ?_
        have hb232 := Option.some.inj hb232
        subst hb232
        exact w_acc (s := ()) hE238 s229 rfl z233 ew239 rfl
      · have hb232 := ite_f hb232 hc242
        have hb232 := Option.some.inj hb232
        subst hb232
        exact w_skip (s := ()) hE238 s229 ew239 rfl
    have hE251 : Wst ⟨[], TL⟩ _ _ [(rWb C_Web).at p_web, sRef c7, (rL rN).at x107.2.1, (rL rN).at x107.1, sAny, sAny, sAny] [(c223, cL rN x243), (c7, cL rN x107.2.2)] _ _ _ := hE249
    obtain ⟨F252, s253, hE255, r254⟩ := hE251.freeze (k := 0) rfl o247
    have hE256 : Wst ⟨[], TL⟩ _ _ [(rWb C_Web).at p_web, sRef c7, (rL rN).at x107.2.1, (rL rN).at x107.1, sAny, sAny, sAny] [(c7, cL rN x107.2.2)] _ _ _ := hE255
    refine x_nil ?_
    refine w_tup2 (R := (rL rN)) (S := (rL rN)) hE256 ((rL rN).mono s253 ((rL rN).mono s248 ((rL rN).mono s219 r213))) r254 fun v257 _ _ s258 hE260 r259 => ?_
    have hf := Option.some.inj hf
    subst hf
    exact q _ _ _ hE260.ex r259
end
abbrev s_kept_ties : Stmt := topS 11
theorem sc_kept_ties : FnScope ["web", "left", "place", "other"] ["web"] (defScope s_kept_ties) := ⟨rfl, rfl, rfl, by decide +kernel, rfl, by decide +kernel, by decide +kernel⟩
def f_kept_ties (p_web : Wb) : Option ((List (Nat × (List Nat)))) :=
  (f_core p_web).bind fun x3 =>
  (dcompO (β := (List Nat)) (fun (x16 : Nat) =>
    (f_Web_neighbours p_web x16).bind fun x31 =>
    (compO (β := Nat) (fun (x44 : Nat) =>
      if (decide (x44 ∈ x3.2)) = true then
        some (some x44)
      else some none) x31).bind fun x62 =>
    (gd (x62.length ≤ 100000)).bind fun _ =>
    some (some (x16, x62))) x3.2 []).bind fun x77 =>
  (gd (x3.2.length ≤ 100000)).bind fun _ =>
  some x77
def q_kept_ties (TL : List (Addr × Str)) (C_Web : Addr) : Sp := fun vs H Q _ => ∃ (F : Hp) (v_web : V) (p_web : Wb) (rr : (List (Nat × (List Nat)))), vs = [v_web] ∧ Same F H ∧ NoT F ∧ (rWb C_Web).r F v_web p_web ∧ f_kept_ties p_web = some rr ∧ ∀ D F' H', Ext ⟨[], TL⟩ F H F' H' → H D = none → F' D = none → (∃ o, H' D = some o ∧ (cD (rL rN) rr).p F' o) → Q (.ref D) H'
section
variable {P : Program} {w : World} {K : PySem.W.Frag} {mg : Str → Option Value} {base : Heap}
theorem t_kept_ties {C_Web : Addr} (T : Tx mg) (O_Web : Own K mg "Web" C_Web) (F : DefAt K mg "kept_ties" s_kept_ties ["web"]) (c_core : Cal P w K mg base CX0 4 "core" (q_core TL C_Web)) (m_Web_neighbours : Met P w K mg base CX0 3 C_Web "neighbours" (q_Web_neighbours TL C_Web)) : Cal P w K mg base CX0 5 "kept_ties" (q_kept_ties TL C_Web) := by
  refine F.cal sc_kept_ties (fun vs H Q E h => ?_) (fun f cdv A outer s H vs Q E hr h => ?_)
  · obtain ⟨_, _, _, _, rfl, _⟩ := h
    rfl
  · obtain ⟨F, v_web, p_web, rr, rfl, sm0, nt0, r_web, hf, q⟩ := h
    have hf : _ = some rr := hf
    unfold f_kept_ties at hf
    refine ⟨_, (pss_cons (ps_set (i := 1) sc_kept_ties.nd rfl (Or.inr rfl) (pe_ix (ix_t K) (pe_cal c_core hr (by decide) rfl pass0 (pa_cons (pv 0) pa_nil)) pe_int (fun _ _ => rfl)))
      (pss_one (ps_ret (pe_dc (own := [("place", 2)]) (g := gName 2) rfl sc_kept_ties.nd (k_pil K (pv 1)) (blkOk_by (own := [("place", 2)]) (N := ["web", "left", "place", "other"]) (sc := defScope s_kept_ties) (by decide +kernel)) (fun _ _ _ _ _ => (pg_name (i := 2) sc_kept_ties.nd rfl (Or.inl rfl))) (fun _ _ _ _ _ => pts_nil) (fun _ _ _ _ _ => (pv 2)) (fun _ _ _ _ _ => (pe_lc (own := [("other", 3)]) (g := gName 3) rfl sc_kept_ties.nd (k_pil K (pe_mth m_Web_neighbours O_Web hr (by decide) pass0 (pv 0) (pa_cons (pv 2) pa_nil))) (blkOk_by (own := [("other", 3)]) (N := ["web", "left", "place", "other"]) (by first | rfl | with_unfolding_all rfl)) (fun _ _ _ _ _ => (pg_name (i := 3) sc_kept_ties.nd rfl (Or.inl rfl))) (fun _ _ _ _ _ => pts_one (pt_cmpR (k_in K) (pv 3) (pv 1) (by first | exact nomark _ | rfl))) (fun _ _ _ _ _ => (pv 3)))))))), ?_⟩
    have hE0 : Wst ⟨[], TL⟩ F H [(rWb C_Web).at p_web, sAny, sAny, sAny] [] (start ["web", "left", "place", "other"] [v_web]) F H := Wst.start (vs := [v_web]) (n := 3) (ss := [(rWb C_Web).at p_web]) (cs := []) sm0 nt0 (fun p hp => by cases hp) List.nodup_nil (.cons ⟨_, rfl, r_web⟩ .nil)
    revert hE0
    generalize start ["web", "left", "place", "other"] [v_web] = σ0
    intro hE0
    refine x_seq ?_
    refine x_asg ?_
    refine x_op ?_
    refine x_call ?_
    refine x_cons ?_
    refine w_var hE0 (i := 0) rfl fun v1 r2 => ?_
    refine x_nil ?_
    obtain ⟨x3, hx3, hf⟩ := bnd hf
    refine ⟨_, v1, p_web, x3, rfl, hE0.fh, hE0.nt, r2, hx3, fun v6 _ _ e4 r5 => ?_⟩
    have hE7 : Wst ⟨[], TL⟩ _ _ [(rWb C_Web).at p_web, sAny, sAny, sAny] [] _ _ _ := hE0.grow e4
    refine x_c ?_
    refine w_ixT21 hE7.fh r5 fun v8 r9 => ?_
    refine w_name (R := (rL rN)) (ss' := [(rWb C_Web).at p_web, (rL rN).at x3.2, sAny, sAny]) hE7 rfl r9 fun _ hE10 => ?_
    refine x_ret ?_
    refine x_dc ?_
    refine x_il ?_
    refine w_var hE10 (i := 1) rfl fun v11 r12 => ?_
    refine w_il (lv_f hE10.fh r12) fun a13 ea => ?_
    cases ea
    obtain ⟨x77, hx77, hf⟩ := bnd hf
    obtain ⟨_, u78, hf⟩ := bnd hf
    have u78 := gd_ok u78
    intro c14 d15
    refine w_dc (B := (rL rN)) hx77 u78 hE10 d15 (fun _ _ _ sm w82 => jok_l w82.fh w82.nt (lv_f w82.fh ((rL rN).mono sm r12))) (fun x16 v17 o18 ac25 _ _ s19 r20 hE21 hb22 z23 ew24 => ?_) (fun _ _ o79 s80 hE81 => ?_)
    · have hE21 : Wst ⟨[], TL⟩ _ _ [(rWb C_Web).at p_web, (rL rN).at x3.2, sAny, sAny] [(c14, cD (rL rN) ac25)] _ _ _ := hE21
      refine w_nameW (ss' := [(rWb C_Web).at p_web, (rL rN).at x3.2, rN.at x16, sAny]) hE21 rfl r20 (by decide) ew24 fun _ ew27 hE26 => ?_
      refine ⟨ew27, ?_⟩
      refine x_yes ?_
      refine x_T ?_
      refine w_vN hE26 (i := 2) rfl ?_
      refine x_lc ?_
      refine x_il ?_
      refine x_meth ?_
      refine w_var hE26 (i := 0) rfl fun v28 r29 => ?_
      refine w_insWeb hE26.fh r29 (by decide) fun a30 ea => ?_
      cases ea
      refine x_cons ?_
      refine w_vN hE26 (i := 2) rfl ?_
      refine x_nil ?_
      obtain ⟨x31, hx31, hb22⟩ := bnd hb22
      refine ⟨_, (V.ref a30), p_web, x16, x31, rfl, hE26.fh, hE26.nt, r29, hx31, fun c34 _ _ e32 o35 p36 q37 => ?_⟩
      have hE38 : Wst ⟨[], TL⟩ _ _ [(rWb C_Web).at p_web, (rL rN).at x3.2, rN.at x16, sAny] [(c14, cD (rL rN) ac25)] _ _ _ := hE26.grow e32
      have o39 := hE26.own o35
      have hE40 : Wst ⟨[], TL⟩ _ _ [(rWb C_Web).at p_web, (rL rN).at x3.2, rN.at x16, sAny] [(c34, cL rN x31), (c14, cD (rL rN) ac25)] _ _ _ := hE38.addC (A := cL rN x31) o39 p36 q37 (hE26.fresh_ne o35)
      refine w_il (lv_c hE40 (k := 0) rfl) fun a41 ea => ?_
      cases ea
      obtain ⟨x62, hx62, hb22⟩ := bnd hb22
      obtain ⟨_, u63, hb22⟩ := bnd hb22
      have u63 := gd_ok u63
      intro c42 d43
      refine w_lc (B := rN) hx62 u63 hE40 d43 (fun _ _ _ sm w69 => jok_l w69.fh w69.nt (lv_c w69 (k := 1) rfl)) (fun x44 v46 o47 ac54 _ _ s48 r49 hE50 hb51 z52 ew53 => ?_) (fun _ _ o66 s67 hE68 => ?_)
      · have hE50 : Wst ⟨[], TL⟩ _ _ [(rWb C_Web).at p_web, (rL rN).at x3.2, rN.at x16, sAny] [(c42, cL rN ac54), (c34, cL rN x31), (c14, cD (rL rN) ac25)] _ _ _ := hE50
        refine w_nameW (ss' := [(rWb C_Web).at p_web, (rL rN).at x3.2, rN.at x16, rN.at x44]) hE50 rfl r49 (by decide) ew53 fun _ ew58 hE57 => ?_
        refine ⟨ew58, ?_⟩
        refine x_test ?_
        refine x_op ?_
        refine w_vN hE57 (i := 3) rfl ?_
        refine w_var hE57 (i := 1) rfl fun v59 r60 => ?_
        refine w_inN (lv_f hE57.fh r60) ?_
        refine x_bl ?_
        refine x_itb (fun hc61 => ?_) (fun hc61 => ?_)
        · have hb51 := ite_t hb51 hc61
          refine w_vN hE57 (i := 3) rfl ?_
          have hb51 := Option.some.inj hb51
          subst hb51
          exact w_acc (s := ()) hE57 s48 rfl z52 ew58 rfl
        · have hb51 := ite_f hb51 hc61
          have hb51 := Option.some.inj hb51
          subst hb51
          exact w_skip (s := ()) hE57 s48 ew58 rfl
      have hE70 : Wst ⟨[], TL⟩ _ _ [(rWb C_Web).at p_web, (rL rN).at x3.2, rN.at x16, sAny] [(c42, cL rN x62), (c34, cL rN x31), (c14, cD (rL rN) ac25)] _ _ _ := hE68
      obtain ⟨F71, s72, hE74, r73⟩ := hE70.freeze (k := 0) rfl o66
      have hE75 : Wst ⟨[], TL⟩ _ _ [(rWb C_Web).at p_web, (rL rN).at x3.2, rN.at x16, sAny] [(c34, cL rN x31), (c14, cD (rL rN) ac25)] _ _ _ := hE74
      have hE76 : Wst ⟨[], TL⟩ _ _ [(rWb C_Web).at p_web, (rL rN).at x3.2, rN.at x16, sAny] [(c14, cD (rL rN) ac25)] _ _ _ := hE75.dropC 0
      have hb22 := Option.some.inj hb22
      subst hb22
      exact w_dacc (n := x16) (b := x62) hE76 (((s19.trans e32.ff).trans s67).trans s72) r73 z23 ew27 rfl
    have hE83 : Wst ⟨[], TL⟩ _ _ [(rWb C_Web).at p_web, (rL rN).at x3.2, sAny, sAny] [(c14, cD (rL rN) x77)] _ _ _ := hE81
    have hf := Option.some.inj hf
    subst hf
    exact q _ _ _ hE83.ex o79 (hE83.apart (k := 0) rfl) (hE83.cell (k := 0) rfl)
end
abbrev s_core_parts : Stmt := topS 12
theorem sc_core_parts : FnScope ["web", "beside", "parts", "seen", "start", "part", "place", "other"] ["web"] (defScope s_core_parts) := ⟨rfl, rfl, rfl, by decide +kernel, rfl, by decide +kernel, by decide +kernel⟩
def f_core_parts (p_web : Wb) : Option ((List (List Nat))) :=
  (f_kept_ties p_web).bind fun x3 =>
  (foldO (fun (s28 : (List (Nat × Bool)) × (List (List Nat))) (x29 : Nat) =>
    if (!(dget s28.1 x29).isSome) = true then
      (gd (s28.1.length < 100000)).bind fun _ =>
      (gd (p_web.length < 2 ^ 62)).bind fun _ =>
      (gd (p_web.length < 2 ^ 62)).bind fun _ =>
      (foldO (fun (s58 : (List Nat) × (List (Nat × Bool))) (x59 : Nat) =>
        if (decide (x59 < s58.1.length)) = true then
          (s58.1[x59]?).bind fun x73 =>
          (dget x3 x73).bind fun x76 =>
          (foldO (fun (s80 : (List Nat) × (List (Nat × Bool))) (x81 : Nat) =>
            if (!(dget s80.2 x81).isSome) = true then
              (gd (s80.2.length < 100000)).bind fun _ =>
              (gd (s80.1.length < 100000)).bind fun _ =>
              some ((s80.1 ++ [x81]), (dput s80.2 x81 true))
            else
              some (s80.1, s80.2)) x76 (s58.1, s58.2)).bind fun x92 =>
          some (x92.1, x92.2)
        else
          some (s58.1, s58.2)) (List.range p_web.length) ([x29], (dput s28.1 x29 true))).bind fun x70 =>
      (gd (s28.2.length < 100000)).bind fun _ =>
      some (x70.2, (s28.2 ++ [(srtN x70.1)]))
    else
      some (s28.1, s28.2)) (x3.map (·.1)) (([] : (List (Nat × Bool))), ([] : List (List Nat)))).bind fun x40 =>
  some x40.2
def q_core_parts (TL : List (Addr × Str)) (C_Web : Addr) : Sp := fun vs H Q _ => ∃ (F : Hp) (v_web : V) (p_web : Wb) (rr : (List (List Nat))), vs = [v_web] ∧ Same F H ∧ NoT F ∧ (rWb C_Web).r F v_web p_web ∧ f_core_parts p_web = some rr ∧ ∀ D F' H', Ext ⟨[], TL⟩ F H F' H' → H D = none → F' D = none → (∃ o, H' D = some o ∧ (cL (rL rN) rr).p F' o) → Q (.ref D) H'
section
variable {P : Program} {w : World} {K : PySem.W.Frag} {mg : Str → Option Value} {base : Heap}
theorem t_core_parts {C_Web : Addr} (T : Tx mg) (O_Web : Own K mg "Web" C_Web) (F : DefAt K mg "core_parts" s_core_parts ["web"]) (c_kept_ties : Cal P w K mg base CX0 5 "kept_ties" (q_kept_ties TL C_Web)) (o_WebD_lenD : Met P w K mg base CX0 1 C_Web "__len__" (q_WebD_lenD TL C_Web)) : Cal P w K mg base CX0 6 "core_parts" (q_core_parts TL C_Web) := by
  refine F.cal sc_core_parts (fun vs H Q E h => ?_) (fun f cdv A outer s H vs Q E hr h => ?_)
  · obtain ⟨_, _, _, _, rfl, _⟩ := h
    rfl
  · obtain ⟨F, v_web, p_web, rr, rfl, sm0, nt0, r_web, hf, q⟩ := h
    have hf : _ = some rr := hf
    unfold f_core_parts at hf
    refine ⟨_, (pss_cons (ps_set (i := 1) sc_core_parts.nd rfl (Or.inl rfl) (pe_cal c_kept_ties hr (by decide) rfl pass0 (pa_cons (pv 0) pa_nil)))
      (pss_cons (ps_set (i := 2) sc_core_parts.nd rfl (Or.inl rfl) (pe_lst pa_nil))
      (pss_cons (ps_set (i := 3) sc_core_parts.nd rfl (Or.inl rfl) pe_dnewK)
      (pss_cons (ps_lock (ps_for PassesOwn.never rfl (pi_keys (pv 1)) (pg_name (i := 4) sc_core_parts.nd rfl (Or.inl rfl))
        (pss_one (ps_if (pt_cmp (pc_dnotin (hu_of hr) (pv 4) (pv 3)))
        (pss_cons (ps_dput (hu_of hr) (pv 3) (pv 4) pe_bl rfl)
      (pss_cons (ps_set (i := 5) sc_core_parts.nd rfl (Or.inl rfl) (pe_lst (pa_cons (pv 4) pa_nil)))
      (pss_cons (ps_for PassesOwn.never rfl (pi_range1 rfl T.z_range (pa_cons (pe_callB (call_lenO o_WebD_lenD hr (by decide) pass0) (by rfl) T.z_len PySem.boot_len (pa_cons (pv 0) pa_nil)) pa_nil)) (pg_name (i := 6) sc_core_parts.nd rfl (Or.inl rfl))
        (pss_one (ps_if (pt_cmpR op_lt (pv 6) (pe_callB (cl_len K) (by rfl) T.z_len PySem.boot_len (pa_cons (pv 5) pa_nil)) (nomark _))
        (pss_one (ps_for PassesOwn.never rfl (k_pil K (pe_dget (hu_of hr) (pv 1) (pe_ix (ix_l K) (pv 5) (pv 6) (fun _ _ => rfl)) (fun _ _ => rfl))) (pg_name (i := 7) sc_core_parts.nd rfl (Or.inl rfl))
        (pss_one (ps_if (pt_cmp (pc_dnotin (hu_of hr) (pv 7) (pv 3)))
        (pss_cons (ps_dput (hu_of hr) (pv 3) (pv 7) pe_bl rfl)
      (pss_one (ps_expr (k_bm K PySem.F.plainAttrs_list PySem.F.slot_list_append PySem.F.type_list_append mt_append (pv 5) (pa_cons (pv 7) pa_nil))))) pss_nil)))) pss_nil)))
      (pss_one (ps_expr (k_bm K PySem.F.plainAttrs_list PySem.F.slot_list_append PySem.F.type_list_append mt_append (pv 2) (pa_cons (pe_callB (cl_sortedI K) (by rfl) T.z_sorted (by decide +kernel) (pa_cons (pv 5) pa_nil)) pa_nil))))))) pss_nil))))
      (pss_one (ps_ret (pv 2))))))), ?_⟩
    have hE0 : Wst ⟨[], TL⟩ F H [(rWb C_Web).at p_web, sAny, sAny, sAny, sAny, sAny, sAny, sAny] [] (start ["web", "beside", "parts", "seen", "start", "part", "place", "other"] [v_web]) F H := Wst.start (vs := [v_web]) (n := 7) (ss := [(rWb C_Web).at p_web]) (cs := []) sm0 nt0 (fun p hp => by cases hp) List.nodup_nil (.cons ⟨_, rfl, r_web⟩ .nil)
    revert hE0
    generalize start ["web", "beside", "parts", "seen", "start", "part", "place", "other"] [v_web] = σ0
    intro hE0
    refine x_seq ?_
    refine x_asg ?_
    refine x_call ?_
    refine x_cons ?_
    refine w_var hE0 (i := 0) rfl fun v1 r2 => ?_
    refine x_nil ?_
    obtain ⟨x3, hx3, hf⟩ := bnd hf
    refine ⟨_, v1, p_web, x3, rfl, hE0.fh, hE0.nt, r2, hx3, fun c6 _ _ e4 o7 p8 q9 => ?_⟩
    have hE10 : Wst ⟨[], TL⟩ _ _ [(rWb C_Web).at p_web, sAny, sAny, sAny, sAny, sAny, sAny, sAny] [] _ _ _ := hE0.grow e4
    have o11 := hE0.own o7
    have hE12 : Wst ⟨[], TL⟩ _ _ [(rWb C_Web).at p_web, sAny, sAny, sAny, sAny, sAny, sAny, sAny] [(c6, cD (rL rN) x3)] _ _ _ := hE10.addC (A := cD (rL rN) x3) o11 p8 q9 (hE0.fresh_ne o7)
    refine w_nameC (ss' := [(rWb C_Web).at p_web, sRef c6, sAny, sAny, sAny, sAny, sAny, sAny]) hE12 rfl fun _ hE13 => ?_
    refine x_seq ?_
    refine x_asg ?_
    refine m_lst ?_
    refine x_nil ?_
    refine w_lstC hE13 (R := (rL rN)) (l := ([] : List (List Nat))) (by show 0 ≤ 100000; decide) .nil fun c14 _ o15 hE16 => ?_
    have hE17 : Wst ⟨[], TL⟩ _ _ [(rWb C_Web).at p_web, sRef c6, sAny, sAny, sAny, sAny, sAny, sAny] [(c14, cL (rL rN) ([] : List (List Nat))), (c6, cD (rL rN) x3)] _ _ _ := hE16
    refine w_nameC (ss' := [(rWb C_Web).at p_web, sRef c6, sRef c14, sAny, sAny, sAny, sAny, sAny]) hE17 rfl fun _ hE18 => ?_
    refine x_seq ?_
    refine x_asg ?_
    refine w_dnew (B := rB) hE18 fun c19 _ o20 hE21 => ?_
    have hE22 : Wst ⟨[], TL⟩ _ _ [(rWb C_Web).at p_web, sRef c6, sRef c14, sAny, sAny, sAny, sAny, sAny] [(c19, cD rB ([] : (List (Nat × Bool)))), (c14, cL (rL rN) ([] : List (List Nat))), (c6, cD (rL rN) x3)] _ _ _ := hE21
    refine w_nameC (ss' := [(rWb C_Web).at p_web, sRef c6, sRef c14, sRef c19, sAny, sAny, sAny, sAny]) hE22 rfl fun _ hE23 => ?_
    refine x_seq ?_
    refine w_lock hE23 (k := 2) rfl fun od24 kv25 _ hE26 => ?_
    have hE27 : Wst ⟨[], TL⟩ _ _ [(rWb C_Web).at p_web, sRef c6, sRef c14, sRef c19, sAny, sAny, sAny, sAny] [(c19, cD rB ([] : (List (Nat × Bool)))), (c14, cL (rL rN) ([] : List (List Nat))), (c6, cDf (rL rN) x3 od24 kv25)] _ _ _ := hE26
    refine x_for ?_
    refine x_ik ?_
    refine w_ref hE27 (i := 1) rfl ?_
    refine w_ik hE27 (k := 2) rfl ?_
    have hE38 : Wst ⟨[], TL⟩ _ _ [(rWb C_Web).at p_web, sRef c6, sRef c14, sRef c19, sAny, sAny, sAny, sAny] [(c19, cD rB (([] : (List (Nat × Bool))), ([] : List (List Nat))).1), (c14, cL (rL rN) (([] : (List (Nat × Bool))), ([] : List (List Nat))).2), (c6, cDf (rL rN) x3 od24 kv25)] _ _ _ := hE27
    obtain ⟨x40, hx40, hf⟩ := bnd hf
    refine w_for 0 (fun (s28 : (List (Nat × Bool)) × (List (List Nat))) (ad36 : Nat → Addr) => [(rWb C_Web).at p_web, sRef c6, sRef c14, sRef c19, sAny, sAny, sAny, sAny]) (fun (s28 : (List (Nat × Bool)) × (List (List Nat))) (ad36 : Nat → Addr) => [(c19, cD rB s28.1), (c14, cL (rL rN) s28.2), (c6, cDf (rL rN) x3 od24 kv25)]) hx40 adZ no_ad hE38 (fun _ ad36 _ _ _ sm w115 => jok_k w115 (k := 2) rfl) (fun s28 ad36 x29 v30 o31 _ _ _ ha37 s32 r33 hE34 hb35 => ?_) (fun ad36 _ _ _ ha37 s116 hE117 => ?_)
    · have hE39 : Wst ⟨[], TL⟩ _ _ [(rWb C_Web).at p_web, sRef c6, sRef c14, sRef c19, sAny, sAny, sAny, sAny] [(c19, cD rB s28.1), (c14, cL (rL rN) s28.2), (c6, cDf (rL rN) x3 od24 kv25)] _ _ _ := hE34
      obtain rfl := (show v30 = (V.int ((x29 : Nat) : Int)) from r33)
      refine w_name (R := rN) (ss' := [(rWb C_Web).at p_web, sRef c6, sRef c14, sRef c19, rN.at x29, sAny, sAny, sAny]) hE39 rfl rfl fun _ hE41 => ?_
      refine x_ifs ?_
      refine x_test ?_
      refine x_dnin ?_
      refine w_vN hE41 (i := 4) rfl ?_
      refine w_ref hE41 (i := 3) rfl ?_
      refine w_dmem (n := x29) (dw_c hE41 (k := 0) rfl) fun o42 e43 => ?_
      rw [e43]
      refine x_bl ?_
      refine x_itb (fun hc44 => ?_) (fun hc44 => ?_)
      · have hb35 := ite_t hb35 hc44
        refine x_seq ?_
        refine x_dput ?_
        refine x_c ?_
        refine w_ref hE41 (i := 3) rfl ?_
        refine w_vN hE41 (i := 4) rfl ?_
        obtain ⟨_, u45, hb35⟩ := bnd hb35
        have u45 := gd_ok u45
        refine w_dput hE41 (k := 0) (n := x29) (b := true) rfl u45 rfl (cs' := [(c19, cD rB (dput s28.1 x29 true)), (c14, cL (rL rN) s28.2), (c6, cDf (rL rN) x3 od24 kv25)]) rfl fun _ hE46 => ?_
        refine x_seq ?_
        refine x_asg ?_
        refine m_lst ?_
        refine x_cons ?_
        refine w_vN hE46 (i := 4) rfl ?_
        refine x_nil ?_
        refine w_lstC hE46 (R := rN) (l := [x29]) (by show 1 ≤ 100000; decide) (.cons rfl .nil) fun c47 _ o48 hE49 => ?_
        have hE50 : Wst ⟨[], TL⟩ _ _ [(rWb C_Web).at p_web, sRef c6, sRef c14, sRef c19, rN.at x29, sAny, sAny, sAny] [(c47, cL rN [x29]), (c19, cD rB (dput s28.1 x29 true)), (c14, cL (rL rN) s28.2), (c6, cDf (rL rN) x3 od24 kv25)] _ _ _ := hE49
        refine w_nameC (ss' := [(rWb C_Web).at p_web, sRef c6, sRef c14, sRef c19, rN.at x29, sRef c47, sAny, sAny]) hE50 rfl fun _ hE51 => ?_
        refine x_seq ?_
        refine x_for ?_
        refine x_rg1 ?_
        refine x_cons ?_
        refine x_cb ?_
        refine x_cons ?_
        refine w_var hE51 (i := 0) rfl fun v52 r53 => ?_
        refine x_nil ?_
        obtain ⟨_, u56, hb35⟩ := bnd hb35
        have u56 := gd_ok u56
        refine w_lenWeb hE51 r53 u56 fun _ _ s54 hE55 => ?_
        refine x_nil ?_
        obtain ⟨_, u57, hb35⟩ := bnd hb35
        have u57 := gd_ok u57
        refine w_r1 u57 ?_
        have hE68 : Wst ⟨[], TL⟩ _ _ [(rWb C_Web).at p_web, sRef c6, sRef c14, sRef c19, rN.at x29, sRef c47, sAny, sAny] [(c47, cL rN ([x29], (dput s28.1 x29 true)).1), (c19, cD rB ([x29], (dput s28.1 x29 true)).2), (c14, cL (rL rN) s28.2), (c6, cDf (rL rN) x3 od24 kv25)] _ _ _ := hE55
        obtain ⟨x70, hx70, hb35⟩ := bnd hb35
        refine w_for 0 (fun (s58 : (List Nat) × (List (Nat × Bool))) (ad66 : Nat → Addr) => [(rWb C_Web).at p_web, sRef c6, sRef c14, sRef c19, rN.at x29, sRef c47, sAny, sAny]) (fun (s58 : (List Nat) × (List (Nat × Bool))) (ad66 : Nat → Addr) => [(c47, cL rN s58.1), (c19, cD rB s58.2), (c14, cL (rL rN) s28.2), (c6, cDf (rL rN) x3 od24 kv25)]) hx70 adZ no_ad hE68 (fun _ ad66 _ _ _ sm w105 => jok_r0 w105.fh w105.nt) (fun s58 ad66 x59 v60 o61 _ _ _ ha67 s62 r63 hE64 hb65 => ?_) (fun ad66 _ _ _ ha67 s106 hE107 => ?_)
        · have hE69 : Wst ⟨[], TL⟩ _ _ [(rWb C_Web).at p_web, sRef c6, sRef c14, sRef c19, rN.at x29, sRef c47, sAny, sAny] [(c47, cL rN s58.1), (c19, cD rB s58.2), (c14, cL (rL rN) s28.2), (c6, cDf (rL rN) x3 od24 kv25)] _ _ _ := hE64
          obtain rfl := (show v60 = (V.int ((x59 : Nat) : Int)) from r63)
          refine w_name (R := rN) (ss' := [(rWb C_Web).at p_web, sRef c6, sRef c14, sRef c19, rN.at x29, sRef c47, rN.at x59, sAny]) hE69 rfl rfl fun _ hE71 => ?_
          refine x_ifs ?_
          refine x_test ?_
          refine x_op ?_
          refine w_vN hE71 (i := 6) rfl ?_
          refine x_cb ?_
          refine x_cons ?_
          refine w_ref hE71 (i := 5) rfl ?_
          refine x_nil ?_
          refine w_len (lv_c hE71 (k := 0) rfl) ?_
          refine w_ltN ?_
          refine x_bl ?_
          refine x_itb (fun hc72 => ?_) (fun hc72 => ?_)
          · have hb65 := ite_t hb65 hc72
            refine x_for ?_
            refine x_il ?_
            refine x_dget ?_
            refine w_ref hE71 (i := 1) rfl ?_
            refine x_op ?_
            refine w_ref hE71 (i := 5) rfl ?_
            refine w_vN hE71 (i := 6) rfl ?_
            obtain ⟨x73, hx73, hb65⟩ := bnd hb65
            refine w_ix (lv_c hE71 (k := 0) rfl) hx73 fun v74 r75 => ?_
            obtain rfl := (show v74 = (V.int ((x73 : Nat) : Int)) from r75)
            obtain ⟨x76, hx76, hb65⟩ := bnd hb65
            refine w_dgetZ (dz_c hE71 (k := 3) rfl) hx76 fun v77 r78 => ?_
            refine w_il (lv_f hE71.fh r78) fun a79 ea => ?_
            cases ea
            have hE90 : Wst ⟨[], TL⟩ _ _ [(rWb C_Web).at p_web, sRef c6, sRef c14, sRef c19, rN.at x29, sRef c47, rN.at x59, sAny] [(c47, cL rN (s58.1, s58.2).1), (c19, cD rB (s58.1, s58.2).2), (c14, cL (rL rN) s28.2), (c6, cDf (rL rN) x3 od24 kv25)] _ _ _ := hE71
            obtain ⟨x92, hx92, hb65⟩ := bnd hb65
            refine w_for 0 (fun (s80 : (List Nat) × (List (Nat × Bool))) (ad88 : Nat → Addr) => [(rWb C_Web).at p_web, sRef c6, sRef c14, sRef c19, rN.at x29, sRef c47, rN.at x59, sAny]) (fun (s80 : (List Nat) × (List (Nat × Bool))) (ad88 : Nat → Addr) => [(c47, cL rN s80.1), (c19, cD rB s80.2), (c14, cL (rL rN) s28.2), (c6, cDf (rL rN) x3 od24 kv25)]) hx92 adZ no_ad hE90 (fun _ ad88 _ _ _ sm w101 => jok_l w101.fh w101.nt (lv_f w101.fh ((rL rN).mono sm r78))) (fun s80 ad88 x81 v82 o83 _ _ _ ha89 s84 r85 hE86 hb87 => ?_) (fun ad88 _ _ _ ha89 s102 hE103 => ?_)
            · have hE91 : Wst ⟨[], TL⟩ _ _ [(rWb C_Web).at p_web, sRef c6, sRef c14, sRef c19, rN.at x29, sRef c47, rN.at x59, sAny] [(c47, cL rN s80.1), (c19, cD rB s80.2), (c14, cL (rL rN) s28.2), (c6, cDf (rL rN) x3 od24 kv25)] _ _ _ := hE86
              obtain rfl := (show v82 = (V.int ((x81 : Nat) : Int)) from r85)
              refine w_name (R := rN) (ss' := [(rWb C_Web).at p_web, sRef c6, sRef c14, sRef c19, rN.at x29, sRef c47, rN.at x59, rN.at x81]) hE91 rfl rfl fun _ hE93 => ?_
              refine x_ifs ?_
              refine x_test ?_
              refine x_dnin ?_
              refine w_vN hE93 (i := 7) rfl ?_
              refine w_ref hE93 (i := 3) rfl ?_
              refine w_dmem (n := x81) (dw_c hE93 (k := 1) rfl) fun o94 e95 => ?_
              rw [e95]
              refine x_bl ?_
              refine x_itb (fun hc96 => ?_) (fun hc96 => ?_)
              · have hb87 := ite_t hb87 hc96
                refine x_seq ?_
                refine x_dput ?_
                refine x_c ?_
                refine w_ref hE93 (i := 3) rfl ?_
                refine w_vN hE93 (i := 7) rfl ?_
                obtain ⟨_, u97, hb87⟩ := bnd hb87
                have u97 := gd_ok u97
                refine w_dput hE93 (k := 1) (n := x81) (b := true) rfl u97 rfl (cs' := [(c47, cL rN s80.1), (c19, cD rB (dput s80.2 x81 true)), (c14, cL (rL rN) s28.2), (c6, cDf (rL rN) x3 od24 kv25)]) rfl fun _ hE98 => ?_
                refine x_drop ?_
                refine x_bm ?_
                refine w_ref hE98 (i := 5) rfl ?_
                refine w_tyC hE98 (k := 0) rfl ?_
                refine x_cons ?_
                refine w_vN hE98 (i := 7) rfl ?_
                refine x_nil ?_
                obtain ⟨_, u99, hb87⟩ := bnd hb87
                have u99 := gd_ok u99
                refine w_app hE98 (k := 0) (a := x81) rfl u99 rfl (cs' := [(c47, cL rN (s80.1 ++ [x81])), (c19, cD rB (dput s80.2 x81 true)), (c14, cL (rL rN) s28.2), (c6, cDf (rL rN) x3 od24 kv25)]) rfl fun _ hE100 => ?_
                have hb87 := Option.some.inj hb87
                subst hb87
                exact ⟨adZ, _, no_ad, s84, (hE100.toAny 7)⟩
              · have hb87 := ite_f hb87 hc96
                refine x_next ?_
                have hb87 := Option.some.inj hb87
                subst hb87
                exact ⟨adZ, _, no_ad, s84, (hE93.toAny 7)⟩
            have hE104 : Wst ⟨[], TL⟩ _ _ [(rWb C_Web).at p_web, sRef c6, sRef c14, sRef c19, rN.at x29, sRef c47, rN.at x59, sAny] [(c47, cL rN x92.1), (c19, cD rB x92.2), (c14, cL (rL rN) s28.2), (c6, cDf (rL rN) x3 od24 kv25)] _ _ _ := hE103
            have hb65 := Option.some.inj hb65
            subst hb65
            exact ⟨adZ, _, no_ad, (s62.trans s102), (hE104.toAny 6)⟩
          · have hb65 := ite_f hb65 hc72
            refine x_next ?_
            have hb65 := Option.some.inj hb65
            subst hb65
            exact ⟨adZ, _, no_ad, s62, (hE71.toAny 6)⟩
        have hE108 : Wst ⟨[], TL⟩ _ _ [(rWb C_Web).at p_web, sRef c6, sRef c14, sRef c19, rN.at x29, sRef c47, sAny, sAny] [(c47, cL rN x70.1), (c19, cD rB x70.2), (c14, cL (rL rN) s28.2), (c6, cDf (rL rN) x3 od24 kv25)] _ _ _ := hE107
        refine x_drop ?_
        refine x_bm ?_
        refine w_ref hE108 (i := 2) rfl ?_
        refine w_tyC hE108 (k := 2) rfl ?_
        refine x_cons ?_
        refine x_cb ?_
        refine x_cons ?_
        refine w_ref hE108 (i := 5) rfl ?_
        refine x_nil ?_
        refine w_srtF hE108 (lv_c hE108 (k := 0) rfl) fun v109 _ _ s110 hE112 r111 => ?_
        refine x_nil ?_
        obtain ⟨_, u113, hb35⟩ := bnd hb35
        have u113 := gd_ok u113
        refine w_app hE112 (k := 2) (a := (srtN x70.1)) rfl u113 r111 (cs' := [(c47, cL rN x70.1), (c19, cD rB x70.2), (c14, cL (rL rN) (s28.2 ++ [(srtN x70.1)])), (c6, cDf (rL rN) x3 od24 kv25)]) rfl fun _ hE114 => ?_
        have hb35 := Option.some.inj hb35
        subst hb35
        exact ⟨adZ, _, no_ad, (((s32.trans s54).trans s106).trans s110), (((hE114.dropC 0).toAny 4).toAny 5)⟩
      · have hb35 := ite_f hb35 hc44
        refine x_next ?_
        have hb35 := Option.some.inj hb35
        subst hb35
        exact ⟨adZ, _, no_ad, s32, (hE41.toAny 4)⟩
    have hE118 : Wst ⟨[], TL⟩ _ _ [(rWb C_Web).at p_web, sRef c6, sRef c14, sRef c19, sAny, sAny, sAny, sAny] [(c19, cD rB x40.1), (c14, cL (rL rN) x40.2), (c6, cDf (rL rN) x3 od24 kv25)] _ _ _ := hE117
    refine w_unlock hE118 (k := 2) rfl (cs' := [(c19, cD rB x40.1), (c14, cL (rL rN) x40.2), (c6, cD (rL rN) x3)]) rfl fun _ hE119 => ?_
    refine x_ret ?_
    refine w_ref hE119 (i := 2) rfl ?_
    have hf := Option.some.inj hf
    subst hf
    exact q _ _ _ hE119.ex o15 (hE119.apart (k := 1) rfl) (hE119.cell (k := 1) rfl)
end
abbrev s_ring_from : Stmt := topS 13
theorem sc_ring_from : FnScope ["beside", "start", "ring", "here", "one", "other"] ["beside", "start"] (defScope s_ring_from) := ⟨rfl, rfl, rfl, by decide +kernel, rfl, by decide +kernel, by decide +kernel⟩
def f_ring_from (p_beside : (List (Nat × (List Nat)))) (p_start : Nat) : Option ((List Nat)) :=
  (dget p_beside p_start).bind fun x8 =>
  (x8.min?).bind fun x11 =>
  (whlO (S := Nat × (List Nat)) (fun s13 =>
    some (!decide (s13.1 = p_start))) (fun s13 =>
    (gd (s13.2.length < 100000)).bind fun _ =>
    (dget p_beside s13.1).bind fun x30 =>
    (x30[0]?).bind fun x33 =>
    (x30[1]?).bind fun x34 =>
    (gd (x30.length = 2)).bind fun _ =>
    (ixO (s13.2 ++ [s13.1]) (-((2 : Nat) : Int))).bind fun x42 =>
    (if (decide (x33 = x42)) = true then (
        some x34
      ) else (
        some x33)).bind fun y55 =>
    some (y55, (s13.2 ++ [s13.1]))) 100000 (x11, [p_start])).bind fun x25 =>
  some x25.2
def q_ring_from (TL : List (Addr × Str)) : Sp := fun vs H Q _ => ∃ (F : Hp) (v_beside : V) (p_beside : (List (Nat × (List Nat)))) (p_start : Nat) (rr : (List Nat)), vs = [v_beside, (V.int ((p_start : Nat) : Int))] ∧ Same F H ∧ NoT F ∧ (rD (rL rN)).r F v_beside p_beside ∧ f_ring_from p_beside p_start = some rr ∧ ∀ D F' H', Ext ⟨[], TL⟩ F H F' H' → H D = none → F' D = none → (∃ o, H' D = some o ∧ (cL rN rr).p F' o) → Q (.ref D) H'
section
variable {P : Program} {w : World} {K : PySem.W.Frag} {mg : Str → Option Value} {base : Heap}
theorem t_ring_from (T : Tx mg) (F : DefAt K mg "ring_from" s_ring_from ["beside", "start"]) : Cal P w K mg base CX0 1 "ring_from" (q_ring_from TL) := by
  refine F.cal sc_ring_from (fun vs H Q E h => ?_) (fun f cdv A outer s H vs Q E hr h => ?_)
  · obtain ⟨_, _, _, _, _, rfl, _⟩ := h
    rfl
  · obtain ⟨F, v_beside, p_beside, p_start, rr, rfl, sm0, nt0, r_beside, hf, q⟩ := h
    have hf : _ = some rr := hf
    unfold f_ring_from at hf
    refine ⟨_, (pss_cons (ps_set (i := 2) sc_ring_from.nd rfl (Or.inl rfl) (pe_lst (pa_cons (pv 1) pa_nil)))
      (pss_cons (ps_set (i := 3) sc_ring_from.nd rfl (Or.inl rfl) (pe_callB (cl_min K rfl) (by rfl) T.z_min (by decide +kernel) (pa_cons (pe_dget (hu_of hr) (pv 0) (pv 1) (fun _ _ => rfl)) pa_nil)))
      (pss_cons (ps_while PassesOwn.never (pt_cmpR op_ne (pv 3) (pv 1) (nomark _))
        (pss_cons (ps_expr (k_bm K PySem.F.plainAttrs_list PySem.F.slot_list_append PySem.F.type_list_append mt_append (pv 2) (pa_cons (pv 3) pa_nil)))
      (pss_cons (ps_asg (pe_dget (hu_of hr) (pv 0) (pv 3) (fun _ _ => rfl)) (pg_unl rfl (pgs_cons (pg_name (i := 4) sc_ring_from.nd rfl (Or.inl rfl)) (pgs_cons (pg_name (i := 5) sc_ring_from.nd rfl (Or.inl rfl)) pgs_nil))))
      (pss_one (ps_set (i := 3) sc_ring_from.nd rfl (Or.inl rfl) (pe_ifExp (pt_cmpR op_eq (pv 4) (pe_ix (ix_l K) (pv 2) (pe_un un_neg pe_int) (fun _ _ => rfl)) (nomark _)) (pv 5) (pv 4)))))))
      (pss_one (ps_ret (pv 2)))))), ?_⟩
    have hE0 : Wst ⟨[], TL⟩ F H [(rD (rL rN)).at p_beside, rN.at p_start, sAny, sAny, sAny, sAny] [] (start ["beside", "start", "ring", "here", "one", "other"] [v_beside, (V.int ((p_start : Nat) : Int))]) F H := Wst.start (vs := [v_beside, (V.int ((p_start : Nat) : Int))]) (n := 4) (ss := [(rD (rL rN)).at p_beside, rN.at p_start]) (cs := []) sm0 nt0 (fun p hp => by cases hp) List.nodup_nil (.cons ⟨_, rfl, r_beside⟩ (.cons ⟨_, rfl, rfl⟩ .nil))
    revert hE0
    generalize start ["beside", "start", "ring", "here", "one", "other"] [v_beside, (V.int ((p_start : Nat) : Int))] = σ0
    intro hE0
    refine x_seq ?_
    refine x_asg ?_
    refine m_lst ?_
    refine x_cons ?_
    refine w_vN hE0 (i := 1) rfl ?_
    refine x_nil ?_
    refine w_lstC hE0 (R := rN) (l := [p_start]) (by show 1 ≤ 100000; decide) (.cons rfl .nil) fun c1 _ o2 hE3 => ?_
    have hE4 : Wst ⟨[], TL⟩ _ _ [(rD (rL rN)).at p_beside, rN.at p_start, sAny, sAny, sAny, sAny] [(c1, cL rN [p_start])] _ _ _ := hE3
    refine w_nameC (ss' := [(rD (rL rN)).at p_beside, rN.at p_start, sRef c1, sAny, sAny, sAny]) hE4 rfl fun _ hE5 => ?_
    refine x_seq ?_
    refine x_asg ?_
    refine x_cb ?_
    refine x_cons ?_
    refine x_dget ?_
    refine w_var hE5 (i := 0) rfl fun v6 r7 => ?_
    refine w_vN hE5 (i := 1) rfl ?_
    obtain ⟨x8, hx8, hf⟩ := bnd hf
    refine w_dget (dw_f hE5.fh r7) hx8 fun v9 r10 => ?_
    refine x_nil ?_
    obtain ⟨x11, hx11, hf⟩ := bnd hf
    refine w_minL (lv_f hE5.fh r10) hx11 ?_
    refine w_name (R := rN) (ss' := [(rD (rL rN)).at p_beside, rN.at p_start, sRef c1, rN.at x11, sAny, sAny]) hE5 rfl rfl fun _ hE12 => ?_
    refine x_seq ?_
    have hE23 : Wst ⟨[], TL⟩ _ _ [(rD (rL rN)).at p_beside, rN.at p_start, sRef c1, rN.at (x11, [p_start]).1, sAny, sAny] [(c1, cL rN (x11, [p_start]).2)] _ _ _ := hE12
    obtain ⟨x25, hx25, hf⟩ := bnd hf
    refine w_while 0 (fun (s13 : Nat × (List Nat)) (ad21 : Nat → Addr) => [(rD (rL rN)).at p_beside, rN.at p_start, sRef c1, rN.at s13.1, sAny, sAny]) (fun (s13 : Nat × (List Nat)) (ad21 : Nat → Addr) => [(c1, cL rN s13.2)]) hx25 adZ no_ad hE23 (fun s13 ad21 _ _ _ _ s67 hE66 hc65 _ qc => ?_) (fun s13 ad21 o16 _ _ _ ha22 s17 hE19 _ hb20 => ?_) (fun ad21 _ _ _ ha22 s69 hE70 => ?_)
    · have hE68 : Wst ⟨[], TL⟩ _ _ [(rD (rL rN)).at p_beside, rN.at p_start, sRef c1, rN.at s13.1, sAny, sAny] [(c1, cL rN s13.2)] _ _ _ := hE66
      refine x_test ?_
      refine x_op ?_
      refine w_vN hE68 (i := 3) rfl ?_
      refine w_vN hE68 (i := 1) rfl ?_
      refine w_neN ?_
      refine x_bl ?_
      have hc65 := Option.some.inj hc65
      subst hc65
      exact qc _ _ (Same.refl _) hE68
    · have hE24 : Wst ⟨[], TL⟩ _ _ [(rD (rL rN)).at p_beside, rN.at p_start, sRef c1, rN.at s13.1, sAny, sAny] [(c1, cL rN s13.2)] _ _ _ := hE19
      refine x_seq ?_
      refine x_drop ?_
      refine x_bm ?_
      refine w_ref hE24 (i := 2) rfl ?_
      refine w_tyC hE24 (k := 0) rfl ?_
      refine x_cons ?_
      refine w_vN hE24 (i := 3) rfl ?_
      refine x_nil ?_
      obtain ⟨_, u26, hb20⟩ := bnd hb20
      have u26 := gd_ok u26
      refine w_app hE24 (k := 0) (a := s13.1) rfl u26 rfl (cs' := [(c1, cL rN (s13.2 ++ [s13.1]))]) rfl fun _ hE27 => ?_
      refine x_seq ?_
      refine x_asg ?_
      refine x_dget ?_
      refine w_var hE27 (i := 0) rfl fun v28 r29 => ?_
      refine w_vN hE27 (i := 3) rfl ?_
      obtain ⟨x30, hx30, hb20⟩ := bnd hb20
      refine w_dget (dw_f hE27.fh r29) hx30 fun v31 r32 => ?_
      obtain ⟨x33, hx33, hb20⟩ := bnd hb20
      obtain ⟨x34, hx34, hb20⟩ := bnd hb20
      obtain ⟨_, u35, hb20⟩ := bnd hb20
      have u35 := gd_ok u35
      refine w_gU2 (lv_f hE27.fh r32) hx33 hx34 u35 fun v36 v37 r38 r39 => ?_
      refine x_gCons ?_
      obtain rfl := (show v36 = (V.int ((x33 : Nat) : Int)) from r38)
      refine w_name (R := rN) (ss' := [(rD (rL rN)).at p_beside, rN.at p_start, sRef c1, rN.at s13.1, rN.at x33, sAny]) hE27 rfl rfl fun _ hE40 => ?_
      refine x_gCons ?_
      obtain rfl := (show v37 = (V.int ((x34 : Nat) : Int)) from r39)
      refine w_name (R := rN) (ss' := [(rD (rL rN)).at p_beside, rN.at p_start, sRef c1, rN.at s13.1, rN.at x33, rN.at x34]) hE40 rfl rfl fun _ hE41 => ?_
      refine x_gNil ?_
      refine x_asg ?_
      obtain ⟨x42, hx42, hb20⟩ := bnd hb20
      obtain ⟨y55, h56, hb20⟩ := bnd hb20
      refine w_ifG (R := rN) (cs := [(c1, cL rN (s13.2 ++ [s13.1]))]) hE41 (ca := (decide (x33 = x42))) h56 (fun _ q0 => ?_) (fun _ _ s59 hE58 _ hkk57 _ q0 => ?_) (fun _ _ s62 hE61 _ hkk60 _ q0 => ?_) (fun v53 _ _ s51 hE52 r54 => ?_)
      · refine x_test ?_
        refine x_op ?_
        refine w_vN hE41 (i := 4) rfl ?_
        refine x_op ?_
        refine w_ref hE41 (i := 2) rfl ?_
        refine x_un ?_
        refine w_cN 2 ?_
        refine x_U ?_
        refine w_ixI (lv_c hE41 (k := 0) rfl) hx42 fun v43 r44 => ?_
        obtain rfl := (show v43 = (V.int ((x42 : Nat) : Int)) from r44)
        refine w_eqN ?_
        refine x_bl ?_
        exact q0 _ _ (Same.refl _) hE41
      · refine w_vN hE58 (i := 5) rfl ?_
        have hkk57 := Option.some.inj hkk57
        subst hkk57
        exact q0 _ _ _ (Same.refl _) hE58 rfl
      · refine w_vN hE61 (i := 4) rfl ?_
        have hkk60 := Option.some.inj hkk60
        subst hkk60
        exact q0 _ _ _ (Same.refl _) hE61 rfl
      obtain rfl := (show v53 = (V.int ((y55 : Nat) : Int)) from r54)
      refine w_name (R := rN) (ss' := [(rD (rL rN)).at p_beside, rN.at p_start, sRef c1, rN.at y55, rN.at x33, rN.at x34]) hE52 rfl rfl fun _ hE63 => ?_
      have hb20 := Option.some.inj hb20
      subst hb20
      exact ⟨adZ, _, no_ad, (s17.trans s51), ((hE63.toAny 4).toAny 5)⟩
    have hE71 : Wst ⟨[], TL⟩ _ _ [(rD (rL rN)).at p_beside, rN.at p_start, sRef c1, rN.at x25.1, sAny, sAny] [(c1, cL rN x25.2)] _ _ _ := hE70
    refine x_ret ?_
    refine w_ref hE71 (i := 2) rfl ?_
    have hf := Option.some.inj hf
    subst hf
    exact q _ _ _ hE71.ex o2 (hE71.apart (k := 0) rfl) (hE71.cell (k := 0) rfl)
end
abbrev s_way_from : Stmt := topS 14
theorem sc_way_from : FnScope ["beside", "start", "second", "between", "before", "here", "one", "other"] ["beside", "start", "second"] (defScope s_way_from) := ⟨rfl, rfl, rfl, by decide +kernel, rfl, by decide +kernel, by decide +kernel⟩
def f_way_from (p_beside : (List (Nat × (List Nat)))) (p_start : Nat) (p_second : Nat) : Option (((List Nat) × Nat)) :=
  (whlO (S := Nat × Nat × (List Nat)) (fun s8 =>
    (dget p_beside s8.2.1).bind fun x63 =>
    some (decide (x63.length = 2))) (fun s8 =>
    (gd (s8.2.2.length < 100000)).bind fun _ =>
    (dget p_beside s8.2.1).bind fun x25 =>
    (x25[0]?).bind fun x28 =>
    (x25[1]?).bind fun x29 =>
    (gd (x25.length = 2)).bind fun _ =>
    (if (decide (x28 = s8.1)) = true then (
        some x29
      ) else (
        some x28)).bind fun y47 =>
    some (s8.2.1, y47, (s8.2.2 ++ [s8.2.1]))) 100000 (p_start, p_second, ([] : List Nat))).bind fun x20 =>
  some (x20.2.2, x20.2.1)
def q_way_from (TL : List (Addr × Str)) : Sp := fun vs H Q _ => ∃ (F : Hp) (v_beside : V) (p_beside : (List (Nat × (List Nat)))) (p_start : Nat) (p_second : Nat) (rr : ((List Nat) × Nat)), vs = [v_beside, (V.int ((p_start : Nat) : Int)), (V.int ((p_second : Nat) : Int))] ∧ Same F H ∧ NoT F ∧ (rD (rL rN)).r F v_beside p_beside ∧ f_way_from p_beside p_start p_second = some rr ∧ ∀ v F' H', Ext ⟨[], TL⟩ F H F' H' → (rT2 (rL rN) rN).r F' v rr → Q v H'
section
variable {P : Program} {w : World} {K : PySem.W.Frag} {mg : Str → Option Value} {base : Heap}
theorem t_way_from (T : Tx mg) (F : DefAt K mg "way_from" s_way_from ["beside", "start", "second"]) : Cal P w K mg base CX0 1 "way_from" (q_way_from TL) := by
  refine F.cal sc_way_from (fun vs H Q E h => ?_) (fun f cdv A outer s H vs Q E hr h => ?_)
  · obtain ⟨_, _, _, _, _, _, rfl, _⟩ := h
    rfl
  · obtain ⟨F, v_beside, p_beside, p_start, p_second, rr, rfl, sm0, nt0, r_beside, hf, q⟩ := h
    have hf : _ = some rr := hf
    unfold f_way_from at hf
    refine ⟨_, (pss_cons (ps_set (i := 3) sc_way_from.nd rfl (Or.inl rfl) (pe_lst pa_nil))
      (pss_cons (ps_set (i := 4) sc_way_from.nd rfl (Or.inl rfl) (pv 1))
      (pss_cons (ps_set (i := 5) sc_way_from.nd rfl (Or.inl rfl) (pv 2))
      (pss_cons (ps_while PassesOwn.never (pt_cmpR op_eq (pe_callB (cl_len K) (by rfl) T.z_len PySem.boot_len (pa_cons (pe_dget (hu_of hr) (pv 0) (pv 5) (fun _ _ => rfl)) pa_nil)) pe_int (nomark _))
        (pss_cons (ps_expr (k_bm K PySem.F.plainAttrs_list PySem.F.slot_list_append PySem.F.type_list_append mt_append (pv 3) (pa_cons (pv 5) pa_nil)))
      (pss_cons (ps_asg (pe_dget (hu_of hr) (pv 0) (pv 5) (fun _ _ => rfl)) (pg_unl rfl (pgs_cons (pg_name (i := 6) sc_way_from.nd rfl (Or.inl rfl)) (pgs_cons (pg_name (i := 7) sc_way_from.nd rfl (Or.inl rfl)) pgs_nil))))
      (pss_one (ps_par (i := 4) (j := 5) (by rfl) sc_way_from.nd rfl rfl (by decide) rfl rfl (pa_cons (pv 5) (pa_cons (pe_ifExp (pt_cmpR op_eq (pv 6) (pv 4) (nomark _)) (pv 7) (pv 6)) pa_nil)) (by rfl))))))
      (pss_one (ps_ret (pe_tup (pa_cons (pv 3) (pa_cons (pv 5) pa_nil))))))))), ?_⟩
    have hE0 : Wst ⟨[], TL⟩ F H [(rD (rL rN)).at p_beside, rN.at p_start, rN.at p_second, sAny, sAny, sAny, sAny, sAny] [] (start ["beside", "start", "second", "between", "before", "here", "one", "other"] [v_beside, (V.int ((p_start : Nat) : Int)), (V.int ((p_second : Nat) : Int))]) F H := Wst.start (vs := [v_beside, (V.int ((p_start : Nat) : Int)), (V.int ((p_second : Nat) : Int))]) (n := 5) (ss := [(rD (rL rN)).at p_beside, rN.at p_start, rN.at p_second]) (cs := []) sm0 nt0 (fun p hp => by cases hp) List.nodup_nil (.cons ⟨_, rfl, r_beside⟩ (.cons ⟨_, rfl, rfl⟩ (.cons ⟨_, rfl, rfl⟩ .nil)))
    revert hE0
    generalize start ["beside", "start", "second", "between", "before", "here", "one", "other"] [v_beside, (V.int ((p_start : Nat) : Int)), (V.int ((p_second : Nat) : Int))] = σ0
    intro hE0
    refine x_seq ?_
    refine x_asg ?_
    refine m_lst ?_
    refine x_nil ?_
    refine w_lstC hE0 (R := rN) (l := ([] : List Nat)) (by show 0 ≤ 100000; decide) .nil fun c1 _ o2 hE3 => ?_
    have hE4 : Wst ⟨[], TL⟩ _ _ [(rD (rL rN)).at p_beside, rN.at p_start, rN.at p_second, sAny, sAny, sAny, sAny, sAny] [(c1, cL rN ([] : List Nat))] _ _ _ := hE3
    refine w_nameC (ss' := [(rD (rL rN)).at p_beside, rN.at p_start, rN.at p_second, sRef c1, sAny, sAny, sAny, sAny]) hE4 rfl fun _ hE5 => ?_
    refine x_seq ?_
    refine x_asg ?_
    refine w_vN hE5 (i := 1) rfl ?_
    refine w_name (R := rN) (ss' := [(rD (rL rN)).at p_beside, rN.at p_start, rN.at p_second, sRef c1, rN.at p_start, sAny, sAny, sAny]) hE5 rfl rfl fun _ hE6 => ?_
    refine x_seq ?_
    refine x_asg ?_
    refine w_vN hE6 (i := 2) rfl ?_
    refine w_name (R := rN) (ss' := [(rD (rL rN)).at p_beside, rN.at p_start, rN.at p_second, sRef c1, rN.at p_start, rN.at p_second, sAny, sAny]) hE6 rfl rfl fun _ hE7 => ?_
    refine x_seq ?_
    have hE18 : Wst ⟨[], TL⟩ _ _ [(rD (rL rN)).at p_beside, rN.at p_start, rN.at p_second, sRef c1, rN.at (p_start, p_second, ([] : List Nat)).1, rN.at (p_start, p_second, ([] : List Nat)).2.1, sAny, sAny] [(c1, cL rN (p_start, p_second, ([] : List Nat)).2.2)] _ _ _ := hE7
    obtain ⟨x20, hx20, hf⟩ := bnd hf
    refine w_while 0 (fun (s8 : Nat × Nat × (List Nat)) (ad16 : Nat → Addr) => [(rD (rL rN)).at p_beside, rN.at p_start, rN.at p_second, sRef c1, rN.at s8.1, rN.at s8.2.1, sAny, sAny]) (fun (s8 : Nat × Nat × (List Nat)) (ad16 : Nat → Addr) => [(c1, cL rN s8.2.2)]) hx20 adZ no_ad hE18 (fun s8 ad16 _ _ _ _ s59 hE58 hc57 _ qc => ?_) (fun s8 ad16 o11 _ _ _ ha17 s12 hE14 _ hb15 => ?_) (fun ad16 _ _ _ ha17 s66 hE67 => ?_)
    · have hE60 : Wst ⟨[], TL⟩ _ _ [(rD (rL rN)).at p_beside, rN.at p_start, rN.at p_second, sRef c1, rN.at s8.1, rN.at s8.2.1, sAny, sAny] [(c1, cL rN s8.2.2)] _ _ _ := hE58
      refine x_test ?_
      refine x_op ?_
      refine x_cb ?_
      refine x_cons ?_
      refine x_dget ?_
      refine w_var hE60 (i := 0) rfl fun v61 r62 => ?_
      refine w_vN hE60 (i := 5) rfl ?_
      obtain ⟨x63, hx63, hc57⟩ := bnd hc57
      refine w_dget (dw_f hE60.fh r62) hx63 fun v64 r65 => ?_
      refine x_nil ?_
      refine w_len (lv_f hE60.fh r65) ?_
      refine w_cN 2 ?_
      refine w_eqN ?_
      refine x_bl ?_
      have hc57 := Option.some.inj hc57
      subst hc57
      exact qc _ _ (Same.refl _) hE60
    · have hE19 : Wst ⟨[], TL⟩ _ _ [(rD (rL rN)).at p_beside, rN.at p_start, rN.at p_second, sRef c1, rN.at s8.1, rN.at s8.2.1, sAny, sAny] [(c1, cL rN s8.2.2)] _ _ _ := hE14
      refine x_seq ?_
      refine x_drop ?_
      refine x_bm ?_
      refine w_ref hE19 (i := 3) rfl ?_
      refine w_tyC hE19 (k := 0) rfl ?_
      refine x_cons ?_
      refine w_vN hE19 (i := 5) rfl ?_
      refine x_nil ?_
      obtain ⟨_, u21, hb15⟩ := bnd hb15
      have u21 := gd_ok u21
      refine w_app hE19 (k := 0) (a := s8.2.1) rfl u21 rfl (cs' := [(c1, cL rN (s8.2.2 ++ [s8.2.1]))]) rfl fun _ hE22 => ?_
      refine x_seq ?_
      refine x_asg ?_
      refine x_dget ?_
      refine w_var hE22 (i := 0) rfl fun v23 r24 => ?_
      refine w_vN hE22 (i := 5) rfl ?_
      obtain ⟨x25, hx25, hb15⟩ := bnd hb15
      refine w_dget (dw_f hE22.fh r24) hx25 fun v26 r27 => ?_
      obtain ⟨x28, hx28, hb15⟩ := bnd hb15
      obtain ⟨x29, hx29, hb15⟩ := bnd hb15
      obtain ⟨_, u30, hb15⟩ := bnd hb15
      have u30 := gd_ok u30
      refine w_gU2 (lv_f hE22.fh r27) hx28 hx29 u30 fun v31 v32 r33 r34 => ?_
      refine x_gCons ?_
      obtain rfl := (show v31 = (V.int ((x28 : Nat) : Int)) from r33)
      refine w_name (R := rN) (ss' := [(rD (rL rN)).at p_beside, rN.at p_start, rN.at p_second, sRef c1, rN.at s8.1, rN.at s8.2.1, rN.at x28, sAny]) hE22 rfl rfl fun _ hE35 => ?_
      refine x_gCons ?_
      obtain rfl := (show v32 = (V.int ((x29 : Nat) : Int)) from r34)
      refine w_name (R := rN) (ss' := [(rD (rL rN)).at p_beside, rN.at p_start, rN.at p_second, sRef c1, rN.at s8.1, rN.at s8.2.1, rN.at x28, rN.at x29]) hE35 rfl rfl fun _ hE36 => ?_
      refine x_gNil ?_
      refine x_par ?_
      refine x_cons ?_
      refine w_vN hE36 (i := 5) rfl ?_
      refine x_cons ?_
      obtain ⟨y47, h48, hb15⟩ := bnd hb15
      refine w_ifG (R := rN) (cs := [(c1, cL rN (s8.2.2 ++ [s8.2.1]))]) hE36 (ca := (decide (x28 = s8.1))) h48 (fun _ q0 => ?_) (fun _ _ s51 hE50 _ hkk49 _ q0 => ?_) (fun _ _ s54 hE53 _ hkk52 _ q0 => ?_) (fun v45 _ _ s43 hE44 r46 => ?_)
      · refine x_test ?_
        refine x_op ?_
        refine w_vN hE36 (i := 6) rfl ?_
        refine w_vN hE36 (i := 4) rfl ?_
        refine w_eqN ?_
        refine x_bl ?_
        exact q0 _ _ (Same.refl _) hE36
      · refine w_vN hE50 (i := 7) rfl ?_
        have hkk49 := Option.some.inj hkk49
        subst hkk49
        exact q0 _ _ _ (Same.refl _) hE50 rfl
      · refine w_vN hE53 (i := 6) rfl ?_
        have hkk52 := Option.some.inj hkk52
        subst hkk52
        exact q0 _ _ _ (Same.refl _) hE53 rfl
      obtain rfl := (show v45 = (V.int ((y47 : Nat) : Int)) from r46)
      refine x_nil ?_
      refine w_par2 (s1 := rN.at s8.2.1) (s2 := rN.at y47) (ss' := [(rD (rL rN)).at p_beside, rN.at p_start, rN.at p_second, sRef c1, rN.at s8.2.1, rN.at y47, rN.at x28, rN.at x29]) hE44 rfl ⟨_, rfl, rfl⟩ ⟨_, rfl, rfl⟩ fun _ hE55 => ?_
      have hb15 := Option.some.inj hb15
      subst hb15
      exact ⟨adZ, _, no_ad, (s12.trans s43), ((hE55.toAny 6).toAny 7)⟩
    have hE68 : Wst ⟨[], TL⟩ _ _ [(rD (rL rN)).at p_beside, rN.at p_start, rN.at p_second, sRef c1, rN.at x20.1, rN.at x20.2.1, sAny, sAny] [(c1, cL rN x20.2.2)] _ _ _ := hE67
    refine x_ret ?_
    refine m_tup ?_
    refine x_cons ?_
    refine w_ref hE68 (i := 3) rfl ?_
    obtain ⟨F69, s70, hE72, r71⟩ := hE68.freeze (k := 0) rfl o2
    have hE73 : Wst ⟨[], TL⟩ _ _ [(rD (rL rN)).at p_beside, rN.at p_start, rN.at p_second, sRef c1, rN.at x20.1, rN.at x20.2.1, sAny, sAny] [] _ _ _ := hE72
    have hE74 : Wst ⟨[], TL⟩ _ _ [(rD (rL rN)).at p_beside, rN.at p_start, rN.at p_second, (rL rN).at x20.2.2, rN.at x20.1, rN.at x20.2.1, sAny, sAny] [] _ _ _ := hE73.toAt (i := 3) rfl r71
    refine x_cons ?_
    refine w_vN hE74 (i := 5) rfl ?_
    refine x_nil ?_
    refine w_tup2 (R := (rL rN)) (S := rN) hE74 r71 rfl fun v75 _ _ s76 hE78 r77 => ?_
    have hf := Option.some.inj hf
    subst hf
    exact q _ _ _ hE78.ex r77
end
abbrev s_three_ways : Stmt := topS 15
theorem sc_three_ways : FnScope ["beside", "part", "ends", "s", "t", "found", "ways", "place", "second", "between", "end"] ["beside", "part"] (defScope s_three_ways) := ⟨rfl, rfl, rfl, by decide +kernel, rfl, by decide +kernel, by decide +kernel⟩
def f_three_ways (p_beside : (List (Nat × (List Nat)))) (p_part : (List Nat)) : Option (PyData) :=
  (compO (β := Nat) (fun (x6 : Nat) =>
    (dget p_beside x6).bind fun x23 =>
    if (!decide (x23.length = 2)) = true then
      some (some x6)
    else some none) p_part).bind fun x27 =>
  (gd (x27.length ≤ 100000)).bind fun _ =>
  (if (!decide (x27.length = 2)) = true then some true else (
      (compO (β := Nat) (fun (x52 : Nat) =>
        (dget p_beside x52).bind fun x69 =>
        some (some x69.length)) x27).bind fun x72 =>
      (gd (x72.length ≤ 100000)).bind fun _ =>
      some (!eqD x72 [3, 3])
    )).bind fun b88 =>
  if b88 = true then
    some (cvU.d ())
  else
    (x27[0]?).bind fun x93 =>
    (x27[1]?).bind fun x94 =>
    (gd (x27.length = 2)).bind fun _ =>
    (dget p_beside x93).bind fun x104 =>
    (compO (β := ((List Nat) × Nat)) (fun (x110 : Nat) =>
      (f_way_from p_beside x93 x110).bind fun x127 =>
      some (some x127)) x104).bind fun x132 =>
    (gd (x132.length ≤ 100000)).bind fun _ =>
    (compO (β := Nat) (fun (x152 : ((List Nat) × Nat)) =>
      some (some x152.2)) x132).bind fun x173 =>
    (gd (x173.length ≤ 100000)).bind fun _ =>
    if (!eqD x173 [x94, x94, x94]) = true then
      some (cvU.d ())
    else
      (compO (β := (List Nat)) (fun (x193 : ((List Nat) × Nat)) =>
        some (some x193.1)) x132).bind fun x216 =>
      (gd (x216.length ≤ 100000)).bind fun _ =>
      ((srtD (keyLen dtN) x216)[0]?).bind fun x232 =>
      (if (!decide (x232.length = 1)) = true then some true else (
          ((srtD (keyLen dtN) x216)[1]?).bind fun x240 =>
          (if (!decide (x240.length = 1)) = true then some true else (
              ((srtD (keyLen dtN) x216)[2]?).bind fun x248 =>
              some (decide ((x248.length % 2) = 0))
            )).bind fun b253 =>
          some b253
        )).bind fun b257 =>
      if b257 = true then
        some (cvU.d ())
      else
        some (PyData.tuple [(cvS.d ("ways")), (cvN.d x93), (cvN.d x94), ((cvL (cvL cvN)).d (srtD (keyLen dtN) x216))])
def q_three_ways (TL : List (Addr × Str)) : Sp := fun vs H Q _ => ∃ (F : Hp) (v_beside : V) (p_beside : (List (Nat × (List Nat)))) (v_part : V) (p_part : (List Nat)) (rr : PyData), vs = [v_beside, v_part] ∧ Same F H ∧ NoT F ∧ LamX.Tabs TL H ∧ (rD (rL rN)).r F v_beside p_beside ∧ (rL rN).r F v_part p_part ∧ f_three_ways p_beside p_part = some rr ∧ ∀ v F' H', Ext ⟨[], TL⟩ F H F' H' → rP.r F' v rr → Q v H'
section
variable {P : Program} {w : World} {K : PySem.W.Frag} {mg : Str → Option Value} {base : Heap}
theorem t_three_ways {cC_three_ways pP_three_ways : Addr} (T : Tx mg) (F : DefAtC K mg "three_ways" s_three_ways ["beside", "part"] cC_three_ways) (TB_three_ways : TabB base mg cC_three_ways pP_three_ways) (LM_three_ways : (pP_three_ways, ("three_ways.<locals>.<lambda>" : Str)) ∈ TL) (LU_three_ways : ∀ p ∈ TL, p.1 = pP_three_ways → p.2 = ("three_ways.<locals>.<lambda>" : Str)) (c_way_from : Cal P w K mg base CX0 1 "way_from" (q_way_from TL)) : Cal P w K mg base CX0 4 "three_ways" (q_three_ways TL) := by
  refine F.cal sc_three_ways (fun vs H Q E h => ?_) (fun f A outer s H vs Q E hr h => ?_)
  · obtain ⟨_, _, _, _, _, _, rfl, _⟩ := h
    rfl
  · obtain ⟨F, v_beside, p_beside, v_part, p_part, rr, rfl, sm0, nt0, tb0, r_beside, r_part, hf, q⟩ := h
    have hf : _ = some rr := hf
    unfold f_three_ways at hf
    refine ⟨_, (pss_cons (ps_setLc (i := 2) (own := [("place", 7)]) (g := gName 7) rfl sc_three_ways.nd rfl rfl (sw_true rfl rfl rfl (by decide +kernel)) (k_pil K (pv 1)) (blkOk_by (own := [("place", 7)]) (N := ["beside", "part", "ends", "s", "t", "found", "ways", "place", "second", "between", "end"]) (sc := defScope s_three_ways) (by decide +kernel)) (fun _ _ _ _ _ => (pg_name (i := 7) sc_three_ways.nd rfl (Or.inl rfl))) (fun _ _ _ _ _ => pts_one (pt_cmpR op_ne (pe_callB (cl_len K) (by rfl) T.z_len PySem.boot_len (pa_cons (pe_dget (hu_of hr) (pv 0) (pv 7) (fun _ _ => rfl)) pa_nil)) pe_int (nomark _))) (fun _ _ _ _ _ => (pv 7)))
      (pss_cons (ps_if (PW.pt (pw_or (pt_cmpR op_ne (pe_callB (cl_len K) (by rfl) T.z_len PySem.boot_len (pa_cons (pv 2) pa_nil)) pe_int (nomark _)) (pw_or1 (pt_cmpR (k_neD K hr.units) (pe_lc (own := [("place", 7)]) (g := gName 7) rfl sc_three_ways.nd (k_pil K (pv 2)) (blkOk_by (own := [("place", 7)]) (N := ["beside", "part", "ends", "s", "t", "found", "ways", "place", "second", "between", "end"]) (sc := defScope s_three_ways) (by decide +kernel)) (fun _ _ _ _ _ => (pg_name (i := 7) sc_three_ways.nd rfl (Or.inl rfl))) (fun _ _ _ _ _ => pts_nil) (fun _ _ _ _ _ => (pe_callB (cl_len K) (by rfl) T.z_len PySem.boot_len (pa_cons (pe_dget (hu_of hr) (pv 0) (pv 7) (fun _ _ => rfl)) pa_nil)))) (pe_lst (pa_cons pe_int (pa_cons pe_int pa_nil))) (nomark _)))))
        (pss_one (ps_ret pe_non)) pss_nil)
      (pss_cons (ps_asg (pv 2) (pg_unl rfl (pgs_cons (pg_name (i := 3) sc_three_ways.nd rfl (Or.inr rfl)) (pgs_cons (pg_name (i := 4) sc_three_ways.nd rfl (Or.inl rfl)) pgs_nil))))
      (pss_cons (ps_setLc (i := 5) (own := [("second", 8)]) (g := gName 8) rfl sc_three_ways.nd rfl rfl (sw_true rfl rfl rfl (by decide +kernel)) (k_pil K (pe_dget (hu_of hr) (pv 0) (pv 3) (fun _ _ => rfl))) (blkOk_by (own := [("second", 8)]) (N := ["beside", "part", "ends", "s", "t", "found", "ways", "place", "second", "between", "end"]) (sc := defScope s_three_ways) (by decide +kernel)) (fun _ _ _ _ _ => (pg_name (i := 8) sc_three_ways.nd rfl (Or.inl rfl))) (fun _ _ _ _ _ => pts_nil) (fun _ _ _ _ _ => (pe_cal c_way_from hr (by decide) rfl pass0 (pa_cons (pv 0) (pa_cons (pv 3) (pa_cons (pv 8) pa_nil))))))
      (pss_cons (ps_if (pt_cmpR (k_neD K hr.units) (pe_lc (own := [("between", 9), ("end", 10)]) rfl sc_three_ways.nd (k_pil K (pv 5)) (blkOk_by (own := [("between", 9), ("end", 10)]) (N := ["beside", "part", "ends", "s", "t", "found", "ways", "place", "second", "between", "end"]) (sc := defScope s_three_ways) (by decide +kernel)) (fun _ _ _ _ _ => (k_tup (n := 2) K rfl (pgs_cons (pg_name (i := 9) sc_three_ways.nd rfl (Or.inl rfl)) (pgs_cons (pg_name (i := 10) sc_three_ways.nd rfl (Or.inl rfl)) pgs_nil)))) (fun _ _ _ _ _ => pts_nil) (fun _ _ _ _ _ => (pv 10))) (pe_lst (pa_cons (pv 4) (pa_cons (pv 4) (pa_cons (pv 4) pa_nil)))) (nomark _))
        (pss_one (ps_ret pe_non)) pss_nil)
      (pss_cons (ps_set (i := 6) sc_three_ways.nd rfl (Or.inl rfl) (pe_sortLam (k := 0) (x := "way") (hr.mono (by decide)) (by rfl) T.z_sorted (by decide +kernel) (pa_cons (pe_lc (own := [("between", 9), ("end", 10)]) rfl sc_three_ways.nd (k_pil K (pv 5)) (blkOk_by (own := [("between", 9), ("end", 10)]) (N := ["beside", "part", "ends", "s", "t", "found", "ways", "place", "second", "between", "end"]) (sc := defScope s_three_ways) (by decide +kernel)) (fun _ _ _ _ _ => (k_tup (n := 2) K rfl (pgs_cons (pg_name (i := 9) sc_three_ways.nd rfl (Or.inl rfl)) (pgs_cons (pg_name (i := 10) sc_three_ways.nd rfl (Or.inl rfl)) pgs_nil)))) (fun _ _ _ _ _ => pts_nil) (fun _ _ _ _ _ => (pv 9))) pa_nil) TB_three_ways rfl rfl LM_three_ways LU_three_ways (by exact NdefX.nscope_by (by decide +kernel)) (by intro _ _ _ _; rfl) (by intro f c' A outer s H hr; exact (pe_tup (pa_cons (pe_callB (cl_len K) (by rfl) T.z_len PySem.boot_len (pa_cons (pv 0) pa_nil)) (pa_cons (pv 0) pa_nil))))))
      (pss_cons (ps_if (PW.pt (pw_or (pt_cmpR op_ne (pe_callB (cl_len K) (by rfl) T.z_len PySem.boot_len (pa_cons (pe_ix (ix_l K) (pv 6) pe_int (fun _ _ => rfl)) pa_nil)) pe_int (nomark _)) (pw_or (pt_cmpR op_ne (pe_callB (cl_len K) (by rfl) T.z_len PySem.boot_len (pa_cons (pe_ix (ix_l K) (pv 6) pe_int (fun _ _ => rfl)) pa_nil)) pe_int (nomark _)) (pw_or1 (pt_cmpR op_eq (pe_op op_mod (pe_callB (cl_len K) (by rfl) T.z_len PySem.boot_len (pa_cons (pe_ix (ix_l K) (pv 6) pe_int (fun _ _ => rfl)) pa_nil)) pe_int) pe_int (nomark _))))))
        (pss_one (ps_ret pe_non)) pss_nil)
      (pss_one (ps_ret (pe_tup (pa_cons pe_str (pa_cons (pv 3) (pa_cons (pv 4) (pa_cons (pv 6) pa_nil)))))))))))))), ?_⟩
    have hE0 : Wst ⟨[], TL⟩ F H [(rD (rL rN)).at p_beside, (rL rN).at p_part, sAny, sAny, sAny, sAny, sAny, sAny, sAny, sAny, sAny] [] (start ["beside", "part", "ends", "s", "t", "found", "ways", "place", "second", "between", "end"] [v_beside, v_part]) F H := Wst.start (vs := [v_beside, v_part]) (n := 9) (ss := [(rD (rL rN)).at p_beside, (rL rN).at p_part]) (cs := []) sm0 nt0 (fun p hp => by cases hp) List.nodup_nil (.cons ⟨_, rfl, r_beside⟩ (.cons ⟨_, rfl, r_part⟩ .nil))
    revert hE0
    generalize start ["beside", "part", "ends", "s", "t", "found", "ways", "place", "second", "between", "end"] [v_beside, v_part] = σ0
    intro hE0
    refine x_seq ?_
    refine x_asg ?_
    refine x_lc ?_
    refine x_il ?_
    refine w_var hE0 (i := 1) rfl fun v1 r2 => ?_
    refine w_il (lv_f hE0.fh r2) fun a3 ea => ?_
    cases ea
    obtain ⟨x27, hx27, hf⟩ := bnd hf
    obtain ⟨_, u28, hf⟩ := bnd hf
    have u28 := gd_ok u28
    intro c4 d5
    refine w_lc (B := rN) hx27 u28 hE0 d5 (fun _ _ _ sm w34 => jok_l w34.fh w34.nt (lv_f w34.fh ((rL rN).mono sm r2))) (fun x6 v8 o9 ac16 _ _ s10 r11 hE12 hb13 z14 ew15 => ?_) (fun _ _ o31 s32 hE33 => ?_)
    · have hE12 : Wst ⟨[], TL⟩ _ _ [(rD (rL rN)).at p_beside, (rL rN).at p_part, sAny, sAny, sAny, sAny, sAny, sAny, sAny, sAny, sAny] [(c4, cL rN ac16)] _ _ _ := hE12
      refine w_nameW (ss' := [(rD (rL rN)).at p_beside, (rL rN).at p_part, sAny, sAny, sAny, sAny, sAny, rN.at x6, sAny, sAny, sAny]) hE12 rfl r11 (by decide) ew15 fun _ ew20 hE19 => ?_
      refine ⟨ew20, ?_⟩
      refine x_test ?_
      refine x_op ?_
      refine x_cb ?_
      refine x_cons ?_
      refine x_dget ?_
      refine w_var hE19 (i := 0) rfl fun v21 r22 => ?_
      refine w_vN hE19 (i := 7) rfl ?_
      obtain ⟨x23, hx23, hb13⟩ := bnd hb13
      refine w_dget (dw_f hE19.fh r22) hx23 fun v24 r25 => ?_
      refine x_nil ?_
      refine w_len (lv_f hE19.fh r25) ?_
      refine w_cN 2 ?_
      refine w_neN ?_
      refine x_bl ?_
      refine x_itb (fun hc26 => ?_) (fun hc26 => ?_)
      · have hb13 := ite_t hb13 hc26
        refine w_vN hE19 (i := 7) rfl ?_
        have hb13 := Option.some.inj hb13
        subst hb13
        exact w_acc (s := ()) hE19 s10 rfl z14 ew20 rfl
      · have hb13 := ite_f hb13 hc26
        have hb13 := Option.some.inj hb13
        subst hb13
        exact w_skip (s := ()) hE19 s10 ew20 rfl
    have hE35 : Wst ⟨[], TL⟩ _ _ [(rD (rL rN)).at p_beside, (rL rN).at p_part, sAny, sAny, sAny, sAny, sAny, sAny, sAny, sAny, sAny] [(c4, cL rN x27)] _ _ _ := hE33
    obtain ⟨F36, s37, hE39, r38⟩ := hE35.freeze (k := 0) rfl o31
    have hE40 : Wst ⟨[], TL⟩ _ _ [(rD (rL rN)).at p_beside, (rL rN).at p_part, sAny, sAny, sAny, sAny, sAny, sAny, sAny, sAny, sAny] [] _ _ _ := hE39
    refine w_name (R := (rL rN)) (ss' := [(rD (rL rN)).at p_beside, (rL rN).at p_part, (rL rN).at x27, sAny, sAny, sAny, sAny, sAny, sAny, sAny, sAny]) hE40 rfl r38 fun _ hE41 => ?_
    refine x_seq ?_
    refine x_ifs ?_
    obtain ⟨b88, h89, hf⟩ := bnd hf
    refine w_orO (cs := []) hE41 (ca := (!decide (x27.length = 2))) h89 (fun _ q0 => ?_) (fun _ _ s46 hE45 _ hkk44 _ q0 => ?_) (fun _ _ s86 hE87 => ?_)
    · refine x_test ?_
      refine x_op ?_
      refine x_cb ?_
      refine x_cons ?_
      refine w_var hE41 (i := 2) rfl fun v42 r43 => ?_
      refine x_nil ?_
      refine w_len (lv_f hE41.fh r43) ?_
      refine w_cN 2 ?_
      refine w_neN ?_
      refine x_bl ?_
      exact q0 _ _ (Same.refl _) hE41
    · refine x_test ?_
      refine x_op ?_
      refine x_lc ?_
      refine x_il ?_
      refine w_var hE45 (i := 2) rfl fun v47 r48 => ?_
      refine w_il (lv_f hE45.fh r48) fun a49 ea => ?_
      cases ea
      obtain ⟨x72, hx72, hkk44⟩ := bnd hkk44
      obtain ⟨_, u73, hkk44⟩ := bnd hkk44
      have u73 := gd_ok u73
      intro c50 d51
      refine w_lc (B := rN) hx72 u73 hE45 d51 (fun _ _ _ sm w79 => jok_l w79.fh w79.nt (lv_f w79.fh ((rL rN).mono sm r48))) (fun x52 v54 o55 ac62 _ _ s56 r57 hE58 hb59 z60 ew61 => ?_) (fun _ _ o76 s77 hE78 => ?_)
      · have hE58 : Wst ⟨[], TL⟩ _ _ [(rD (rL rN)).at p_beside, (rL rN).at p_part, (rL rN).at x27, sAny, sAny, sAny, sAny, sAny, sAny, sAny, sAny] [(c50, cL rN ac62)] _ _ _ := hE58
        refine w_nameW (ss' := [(rD (rL rN)).at p_beside, (rL rN).at p_part, (rL rN).at x27, sAny, sAny, sAny, sAny, rN.at x52, sAny, sAny, sAny]) hE58 rfl r57 (by decide) ew61 fun _ ew66 hE65 => ?_
        refine ⟨ew66, ?_⟩
        refine x_yes ?_
        refine x_T ?_
        refine x_cb ?_
        refine x_cons ?_
        refine x_dget ?_
        refine w_var hE65 (i := 0) rfl fun v67 r68 => ?_
        refine w_vN hE65 (i := 7) rfl ?_
        obtain ⟨x69, hx69, hb59⟩ := bnd hb59
        refine w_dget (dw_f hE65.fh r68) hx69 fun v70 r71 => ?_
        refine x_nil ?_
        refine w_len (lv_f hE65.fh r71) ?_
        have hb59 := Option.some.inj hb59
        subst hb59
        exact w_acc (s := ()) hE65 s56 rfl z60 ew66 rfl
      have hE80 : Wst ⟨[], TL⟩ _ _ [(rD (rL rN)).at p_beside, (rL rN).at p_part, (rL rN).at x27, sAny, sAny, sAny, sAny, sAny, sAny, sAny, sAny] [(c50, cL rN x72)] _ _ _ := hE78
      refine m_lst ?_
      refine x_cons ?_
      refine w_cN 3 ?_
      refine x_cons ?_
      refine w_cN 3 ?_
      refine x_nil ?_
      refine w_lstF hE80 (R := rN) (l := [3, 3]) (by show 2 ≤ 100000; decide) (.cons rfl (.cons rfl .nil)) fun v81 _ _ s82 hE84 r83 => ?_
      refine w_neD (dtL dtN) (a := x72) (b := [3, 3]) (dv_l dtN hE84.fh (lv_c hE84 (k := 0) rfl)) (dv_l dtN hE84.fh (lv_f hE84.fh r83)) ?_
      have hE85 : Wst ⟨[], TL⟩ _ _ [(rD (rL rN)).at p_beside, (rL rN).at p_part, (rL rN).at x27, sAny, sAny, sAny, sAny, sAny, sAny, sAny, sAny] [] _ _ _ := hE84.dropC 0
      refine x_bl ?_
      have hkk44 := Option.some.inj hkk44
      subst hkk44
      exact q0 _ _ (((Same.refl _).trans s77).trans s82) hE85
    refine x_itb (fun hc90 => ?_) (fun hc90 => ?_)
    · have hf := ite_t hf hc90
      refine x_ret ?_
      refine x_c ?_
      have hf := Option.some.inj hf
      subst hf
      exact q _ _ _ hE87.ex (cvU.dp rfl)
    · have hf := ite_f hf hc90
      refine x_next ?_
      refine x_seq ?_
      refine x_asg ?_
      refine w_var hE87 (i := 2) rfl fun v91 r92 => ?_
      obtain ⟨x93, hx93, hf⟩ := bnd hf
      obtain ⟨x94, hx94, hf⟩ := bnd hf
      obtain ⟨_, u95, hf⟩ := bnd hf
      have u95 := gd_ok u95
      refine w_gU2 (lv_f hE87.fh r92) hx93 hx94 u95 fun v96 v97 r98 r99 => ?_
      refine x_gCons ?_
      obtain rfl := (show v96 = (V.int ((x93 : Nat) : Int)) from r98)
      refine w_name (R := rN) (ss' := [(rD (rL rN)).at p_beside, (rL rN).at p_part, (rL rN).at x27, rN.at x93, sAny, sAny, sAny, sAny, sAny, sAny, sAny]) hE87 rfl rfl fun _ hE100 => ?_
      refine x_gCons ?_
      obtain rfl := (show v97 = (V.int ((x94 : Nat) : Int)) from r99)
      refine w_name (R := rN) (ss' := [(rD (rL rN)).at p_beside, (rL rN).at p_part, (rL rN).at x27, rN.at x93, rN.at x94, sAny, sAny, sAny, sAny, sAny, sAny]) hE100 rfl rfl fun _ hE101 => ?_
      refine x_gNil ?_
      refine x_seq ?_
      refine x_asg ?_
      refine x_lc ?_
      refine x_il ?_
      refine x_dget ?_
      refine w_var hE101 (i := 0) rfl fun v102 r103 => ?_
      refine w_vN hE101 (i := 3) rfl ?_
      obtain ⟨x104, hx104, hf⟩ := bnd hf
      refine w_dget (dw_f hE101.fh r103) hx104 fun v105 r106 => ?_
      refine w_il (lv_f hE101.fh r106) fun a107 ea => ?_
      cases ea
      obtain ⟨x132, hx132, hf⟩ := bnd hf
      obtain ⟨_, u133, hf⟩ := bnd hf
      have u133 := gd_ok u133
      intro c108 d109
      refine w_lc (B := (rT2 (rL rN) rN)) hx132 u133 hE101 d109 (fun _ _ _ sm w139 => jok_l w139.fh w139.nt (lv_f w139.fh ((rL rN).mono sm r106))) (fun x110 v112 o113 ac120 _ _ s114 r115 hE116 hb117 z118 ew119 => ?_) (fun _ _ o136 s137 hE138 => ?_)
      · have hE116 : Wst ⟨[], TL⟩ _ _ [(rD (rL rN)).at p_beside, (rL rN).at p_part, (rL rN).at x27, rN.at x93, rN.at x94, sAny, sAny, sAny, sAny, sAny, sAny] [(c108, cL (rT2 (rL rN) rN) ac120)] _ _ _ := hE116
        refine w_nameW (ss' := [(rD (rL rN)).at p_beside, (rL rN).at p_part, (rL rN).at x27, rN.at x93, rN.at x94, sAny, sAny, sAny, rN.at x110, sAny, sAny]) hE116 rfl r115 (by decide) ew119 fun _ ew124 hE123 => ?_
        refine ⟨ew124, ?_⟩
        refine x_yes ?_
        refine x_T ?_
        refine x_call ?_
        refine x_cons ?_
        refine w_var hE123 (i := 0) rfl fun v125 r126 => ?_
        refine x_cons ?_
        refine w_vN hE123 (i := 3) rfl ?_
        refine x_cons ?_
        refine w_vN hE123 (i := 8) rfl ?_
        refine x_nil ?_
        obtain ⟨x127, hx127, hb117⟩ := bnd hb117
        refine ⟨_, v125, p_beside, x93, x110, x127, rfl, hE123.fh, hE123.nt, r126, hx127, fun v130 _ _ e128 r129 => ?_⟩
        have hE131 : Wst ⟨[], TL⟩ _ _ [(rD (rL rN)).at p_beside, (rL rN).at p_part, (rL rN).at x27, rN.at x93, rN.at x94, sAny, sAny, sAny, rN.at x110, sAny, sAny] [(c108, cL (rT2 (rL rN) rN) ac120)] _ _ _ := hE123.grow e128
        have hb117 := Option.some.inj hb117
        subst hb117
        exact w_acc (s := ()) hE131 (s114.trans e128.ff) r129 z118 ew124 rfl
      have hE140 : Wst ⟨[], TL⟩ _ _ [(rD (rL rN)).at p_beside, (rL rN).at p_part, (rL rN).at x27, rN.at x93, rN.at x94, sAny, sAny, sAny, sAny, sAny, sAny] [(c108, cL (rT2 (rL rN) rN) x132)] _ _ _ := hE138
      obtain ⟨F141, s142, hE144, r143⟩ := hE140.freeze (k := 0) rfl o136
      have hE145 : Wst ⟨[], TL⟩ _ _ [(rD (rL rN)).at p_beside, (rL rN).at p_part, (rL rN).at x27, rN.at x93, rN.at x94, sAny, sAny, sAny, sAny, sAny, sAny] [] _ _ _ := hE144
      refine w_name (R := (rL (rT2 (rL rN) rN))) (ss' := [(rD (rL rN)).at p_beside, (rL rN).at p_part, (rL rN).at x27, rN.at x93, rN.at x94, (rL (rT2 (rL rN) rN)).at x132, sAny, sAny, sAny, sAny, sAny]) hE145 rfl r143 fun _ hE146 => ?_
      refine x_seq ?_
      refine x_ifs ?_
      refine x_test ?_
      refine x_op ?_
      refine x_lc ?_
      refine x_il ?_
      refine w_var hE146 (i := 5) rfl fun v147 r148 => ?_
      refine w_il (lv_f hE146.fh r148) fun a149 ea => ?_
      cases ea
      obtain ⟨x173, hx173, hf⟩ := bnd hf
      obtain ⟨_, u174, hf⟩ := bnd hf
      have u174 := gd_ok u174
      intro c150 d151
      refine w_lc (B := rN) hx173 u174 hE146 d151 (fun _ _ _ sm w180 => jok_l w180.fh w180.nt (lv_f w180.fh ((rL (rT2 (rL rN) rN)).mono sm r148))) (fun x152 v154 o155 ac162 _ _ s156 r157 hE158 hb159 z160 ew161 => ?_) (fun _ _ o177 s178 hE179 => ?_)
      · have hE158 : Wst ⟨[], TL⟩ _ _ [(rD (rL rN)).at p_beside, (rL rN).at p_part, (rL rN).at x27, rN.at x93, rN.at x94, (rL (rT2 (rL rN) rN)).at x132, sAny, sAny, sAny, sAny, sAny] [(c150, cL rN ac162)] _ _ _ := hE158
        refine w_gT2 hE158.fh r157 fun v165 v166 r167 r168 => ?_
        refine x_gCons ?_
        refine w_nameW (ss' := [(rD (rL rN)).at p_beside, (rL rN).at p_part, (rL rN).at x27, rN.at x93, rN.at x94, (rL (rT2 (rL rN) rN)).at x132, sAny, sAny, sAny, (rL rN).at x152.1, sAny]) hE158 rfl r167 (by decide) ew161 fun _ ew170 hE169 => ?_
        refine x_gCons ?_
        refine w_nameW (ss' := [(rD (rL rN)).at p_beside, (rL rN).at p_part, (rL rN).at x27, rN.at x93, rN.at x94, (rL (rT2 (rL rN) rN)).at x132, sAny, sAny, sAny, (rL rN).at x152.1, rN.at x152.2]) hE169 rfl r168 (by decide) ew170 fun _ ew172 hE171 => ?_
        refine x_gNil ?_
        refine ⟨ew172, ?_⟩
        refine x_yes ?_
        refine x_T ?_
        refine w_vN hE171 (i := 10) rfl ?_
        have hb159 := Option.some.inj hb159
        subst hb159
        exact w_acc (s := ()) hE171 s156 rfl z160 ew172 rfl
      have hE181 : Wst ⟨[], TL⟩ _ _ [(rD (rL rN)).at p_beside, (rL rN).at p_part, (rL rN).at x27, rN.at x93, rN.at x94, (rL (rT2 (rL rN) rN)).at x132, sAny, sAny, sAny, sAny, sAny] [(c150, cL rN x173)] _ _ _ := hE179
      refine m_lst ?_
      refine x_cons ?_
      refine w_vN hE181 (i := 4) rfl ?_
      refine x_cons ?_
      refine w_vN hE181 (i := 4) rfl ?_
      refine x_cons ?_
      refine w_vN hE181 (i := 4) rfl ?_
      refine x_nil ?_
      refine w_lstF hE181 (R := rN) (l := [x94, x94, x94]) (by show 3 ≤ 100000; decide) (.cons rfl (.cons rfl (.cons rfl .nil))) fun v182 _ _ s183 hE185 r184 => ?_
      refine w_neD (dtL dtN) (a := x173) (b := [x94, x94, x94]) (dv_l dtN hE185.fh (lv_c hE185 (k := 0) rfl)) (dv_l dtN hE185.fh (lv_f hE185.fh r184)) ?_
      have hE186 : Wst ⟨[], TL⟩ _ _ [(rD (rL rN)).at p_beside, (rL rN).at p_part, (rL rN).at x27, rN.at x93, rN.at x94, (rL (rT2 (rL rN) rN)).at x132, sAny, sAny, sAny, sAny, sAny] [] _ _ _ := hE185.dropC 0
      refine x_bl ?_
      refine x_itb (fun hc187 => ?_) (fun hc187 => ?_)
      · have hf := ite_t hf hc187
        refine x_ret ?_
        refine x_c ?_
        have hf := Option.some.inj hf
        subst hf
        exact q _ _ _ hE186.ex (cvU.dp rfl)
      · have hf := ite_f hf hc187
        refine x_next ?_
        refine x_seq ?_
        refine x_asg ?_
        refine x_ckw ?_
        refine x_cons ?_
        refine x_lc ?_
        refine x_il ?_
        refine w_var hE186 (i := 5) rfl fun v188 r189 => ?_
        refine w_il (lv_f hE186.fh r189) fun a190 ea => ?_
        cases ea
        obtain ⟨x216, hx216, hf⟩ := bnd hf
        obtain ⟨_, u217, hf⟩ := bnd hf
        have u217 := gd_ok u217
        intro c191 d192
        refine w_lc (B := (rL rN)) hx216 u217 hE186 d192 (fun _ _ _ sm w223 => jok_l w223.fh w223.nt (lv_f w223.fh ((rL (rT2 (rL rN) rN)).mono sm r189))) (fun x193 v195 o196 ac203 _ _ s197 r198 hE199 hb200 z201 ew202 => ?_) (fun _ _ o220 s221 hE222 => ?_)
        · have hE199 : Wst ⟨[], TL⟩ _ _ [(rD (rL rN)).at p_beside, (rL rN).at p_part, (rL rN).at x27, rN.at x93, rN.at x94, (rL (rT2 (rL rN) rN)).at x132, sAny, sAny, sAny, sAny, sAny] [(c191, cL (rL rN) ac203)] _ _ _ := hE199
          refine w_gT2 hE199.fh r198 fun v206 v207 r208 r209 => ?_
          refine x_gCons ?_
          refine w_nameW (ss' := [(rD (rL rN)).at p_beside, (rL rN).at p_part, (rL rN).at x27, rN.at x93, rN.at x94, (rL (rT2 (rL rN) rN)).at x132, sAny, sAny, sAny, (rL rN).at x193.1, sAny]) hE199 rfl r208 (by decide) ew202 fun _ ew211 hE210 => ?_
          refine x_gCons ?_
          refine w_nameW (ss' := [(rD (rL rN)).at p_beside, (rL rN).at p_part, (rL rN).at x27, rN.at x93, rN.at x94, (rL (rT2 (rL rN) rN)).at x132, sAny, sAny, sAny, (rL rN).at x193.1, rN.at x193.2]) hE210 rfl r209 (by decide) ew211 fun _ ew213 hE212 => ?_
          refine x_gNil ?_
          refine ⟨ew213, ?_⟩
          refine x_yes ?_
          refine x_T ?_
          refine w_var hE212 (i := 9) rfl fun v214 r215 => ?_
          have hb200 := Option.some.inj hb200
          subst hb200
          exact w_acc (s := ()) hE212 s197 r215 z201 ew213 rfl
        have hE224 : Wst ⟨[], TL⟩ _ _ [(rD (rL rN)).at p_beside, (rL rN).at p_part, (rL rN).at x27, rN.at x93, rN.at x94, (rL (rT2 (rL rN) rN)).at x132, sAny, sAny, sAny, sAny, sAny] [(c191, cL (rL rN) x216)] _ _ _ := hE222
        refine x_nil ?_
        refine w_srtLamF hE224 tb0 (lv_c hE224 (k := 0) rfl) (keyLen dtN) (fun _ _ => (alkT2 alkN (alkL alkN)).al _ _) (.inl fun _ => ⟨_, _, rfl⟩) (fun _ => Nat.le_trans ((dtT2 dtN (dtL dtN)).dep _) (by decide)) (fun F' H' y a s r => key_len dtN F' H' y a s r) fun v225 _ _ s226 hE228 r227 => ?_
        refine w_name (R := (rL (rL rN))) (ss' := [(rD (rL rN)).at p_beside, (rL rN).at p_part, (rL rN).at x27, rN.at x93, rN.at x94, (rL (rT2 (rL rN) rN)).at x132, (rL (rL rN)).at (srtD (keyLen dtN) x216), sAny, sAny, sAny, sAny]) hE228 rfl r227 fun _ hE229 => ?_
        refine x_seq ?_
        refine x_ifs ?_
        obtain ⟨x232, hx232, hf⟩ := bnd hf
        obtain ⟨b257, h258, hf⟩ := bnd hf
        refine w_orO (cs := [(c191, cL (rL rN) x216)]) hE229 (ca := (!decide (x232.length = 1))) h258 (fun _ q0 => ?_) (fun _ _ s237 hE236 _ hkk235 _ q0 => ?_) (fun _ _ s255 hE256 => ?_)
        · refine x_test ?_
          refine x_op ?_
          refine x_cb ?_
          refine x_cons ?_
          refine x_op ?_
          refine w_var hE229 (i := 6) rfl fun v230 r231 => ?_
          refine w_cN 0 ?_
          refine w_ix (lv_f hE229.fh r231) hx232 fun v233 r234 => ?_
          refine x_nil ?_
          refine w_len (lv_f hE229.fh r234) ?_
          refine w_cN 1 ?_
          refine w_neN ?_
          refine x_bl ?_
          exact q0 _ _ (Same.refl _) hE229
        · obtain ⟨x240, hx240, hkk235⟩ := bnd hkk235
          obtain ⟨b253, h254, hkk235⟩ := bnd hkk235
          refine w_orO (cs := [(c191, cL (rL rN) x216)]) hE236 (ca := (!decide (x240.length = 1))) h254 (fun _ q0 => ?_) (fun _ _ s245 hE244 _ hkk243 _ q0 => ?_) (fun _ _ s251 hE252 => ?_)
          · refine x_test ?_
            refine x_op ?_
            refine x_cb ?_
            refine x_cons ?_
            refine x_op ?_
            refine w_var hE236 (i := 6) rfl fun v238 r239 => ?_
            refine w_cN 1 ?_
            refine w_ix (lv_f hE236.fh r239) hx240 fun v241 r242 => ?_
            refine x_nil ?_
            refine w_len (lv_f hE236.fh r242) ?_
            refine w_cN 1 ?_
            refine w_neN ?_
            refine x_bl ?_
            exact q0 _ _ (Same.refl _) hE236
          · refine x_test ?_
            refine x_op ?_
            refine x_op ?_
            refine x_cb ?_
            refine x_cons ?_
            refine x_op ?_
            refine w_var hE244 (i := 6) rfl fun v246 r247 => ?_
            refine w_cN 2 ?_
            obtain ⟨x248, hx248, hkk243⟩ := bnd hkk243
            refine w_ix (lv_f hE244.fh r247) hx248 fun v249 r250 => ?_
            refine x_nil ?_
            refine w_len (lv_f hE244.fh r250) ?_
            refine w_cN 2 ?_
            refine w_modN (by decide) ?_
            refine w_cN 0 ?_
            refine w_eqN ?_
            refine x_bl ?_
            have hkk243 := Option.some.inj hkk243
            subst hkk243
            exact q0 _ _ (Same.refl _) hE244
          have hkk235 := Option.some.inj hkk235
          subst hkk235
          exact q0 _ _ ((Same.refl _).trans s251) hE252
        refine x_itb (fun hc259 => ?_) (fun hc259 => ?_)
        · have hf := ite_t hf hc259
          refine x_ret ?_
          refine x_c ?_
          have hf := Option.some.inj hf
          subst hf
          exact q _ _ _ hE256.ex (cvU.dp rfl)
        · have hf := ite_f hf hc259
          refine x_next ?_
          refine x_ret ?_
          refine m_tup ?_
          refine x_cons ?_
          refine x_c ?_
          refine x_cons ?_
          refine w_vN hE256 (i := 3) rfl ?_
          refine x_cons ?_
          refine w_vN hE256 (i := 4) rfl ?_
          refine x_cons ?_
          refine w_var hE256 (i := 6) rfl fun v260 r261 => ?_
          refine x_nil ?_
          refine w_tupP (ds := [(cvS.d ("ways")), (cvN.d x93), (cvN.d x94), ((cvL (cvL cvN)).d (srtD (keyLen dtN) x216))]) hE256 (by show 4 ≤ 100000; decide) (.cons (cvS.dp rfl) (.cons (cvN.dp rfl) (.cons (cvN.dp rfl) (.cons ((cvL (cvL cvN)).dp r261) .nil)))) fun v262 _ _ s263 hE265 r264 => ?_
          have hf := Option.some.inj hf
          subst hf
          exact q _ _ _ hE265.ex r264
end
abbrev s_part_form : Stmt := topS 16
theorem sc_part_form : FnScope ["beside", "part", "place"] ["beside", "part"] (defScope s_part_form) := ⟨rfl, rfl, rfl, by decide +kernel, rfl, by decide +kernel, by decide +kernel⟩
def f_part_form (p_beside : (List (Nat × (List Nat)))) (p_part : (List Nat)) : Option (PyData) :=
  if (decide (p_part.length = 1)) = true then
    (p_part[0]?).bind fun x6 =>
    some ((cvT2 cvS cvN).d ("one", x6))
  else
    (compO (β := Bool) (fun (x18 : Nat) =>
      (dget p_beside x18).bind fun x35 =>
      some (some (decide (x35.length = 2)))) p_part).bind fun x38 =>
    (gd (x38.length ≤ 100000)).bind fun _ =>
    if (x38.all id) = true then
      if (decide ((p_part.length % 2) = 1)) = true then
        some (cvU.d ())
      else
        (p_part[0]?).bind fun x56 =>
        (f_ring_from p_beside x56).bind fun x59 =>
        some ((cvT2 cvS (cvL cvN)).d ("ring", x59))
    else
      (f_three_ways p_beside p_part).bind fun x82 =>
      some x82
def q_part_form (TL : List (Addr × Str)) : Sp := fun vs H Q _ => ∃ (F : Hp) (v_beside : V) (p_beside : (List (Nat × (List Nat)))) (v_part : V) (p_part : (List Nat)) (rr : PyData), vs = [v_beside, v_part] ∧ Same F H ∧ NoT F ∧ LamX.Tabs TL H ∧ (rD (rL rN)).r F v_beside p_beside ∧ (rL rN).r F v_part p_part ∧ f_part_form p_beside p_part = some rr ∧ ∀ v F' H', Ext ⟨[], TL⟩ F H F' H' → rP.r F' v rr → Q v H'
section
variable {P : Program} {w : World} {K : PySem.W.Frag} {mg : Str → Option Value} {base : Heap}
theorem t_part_form (T : Tx mg) (F : DefAt K mg "part_form" s_part_form ["beside", "part"]) (c_ring_from : Cal P w K mg base CX0 1 "ring_from" (q_ring_from TL)) (c_three_ways : Cal P w K mg base CX0 4 "three_ways" (q_three_ways TL)) : Cal P w K mg base CX0 5 "part_form" (q_part_form TL) := by
  refine F.cal sc_part_form (fun vs H Q E h => ?_) (fun f cdv A outer s H vs Q E hr h => ?_)
  · obtain ⟨_, _, _, _, _, _, rfl, _⟩ := h
    rfl
  · obtain ⟨F, v_beside, p_beside, v_part, p_part, rr, rfl, sm0, nt0, tb0, r_beside, r_part, hf, q⟩ := h
    have hf : _ = some rr := hf
    unfold f_part_form at hf
    refine ⟨_, (pss_cons (ps_if (pt_cmpR op_eq (pe_callB (cl_len K) (by rfl) T.z_len PySem.boot_len (pa_cons (pv 1) pa_nil)) pe_int (nomark _))
        (pss_one (ps_ret (pe_tup (pa_cons pe_str (pa_cons (pe_ix (ix_l K) (pv 1) pe_int (fun _ _ => rfl)) pa_nil))))) pss_nil)
      (pss_cons (ps_if (pt_val (pe_callB (cl_all K rfl) (by rfl) T.z_all (by decide +kernel) (pa_cons (pe_lc (own := [("place", 2)]) (g := gName 2) rfl sc_part_form.nd (k_pil K (pv 1)) (blkOk_by (own := [("place", 2)]) (N := ["beside", "part", "place"]) (sc := defScope s_part_form) (by decide +kernel)) (fun _ _ _ _ _ => (pg_name (i := 2) sc_part_form.nd rfl (Or.inl rfl))) (fun _ _ _ _ _ => pts_nil) (fun _ _ _ _ _ => (pe_cmpR op_eq (pe_callB (cl_len K) (by rfl) T.z_len PySem.boot_len (pa_cons (pe_dget (hu_of hr) (pv 0) (pv 2) (fun _ _ => rfl)) pa_nil)) pe_int (nomark _)))) pa_nil)))
        (pss_cons (ps_if (pt_cmpR op_eq (pe_op op_mod (pe_callB (cl_len K) (by rfl) T.z_len PySem.boot_len (pa_cons (pv 1) pa_nil)) pe_int) pe_int (nomark _))
        (pss_one (ps_ret pe_non)) pss_nil)
      (pss_one (ps_ret (pe_tup (pa_cons pe_str (pa_cons (pe_cal c_ring_from hr (by decide) rfl pass0 (pa_cons (pv 0) (pa_cons (pe_ix (ix_l K) (pv 1) pe_int (fun _ _ => rfl)) pa_nil))) pa_nil)))))) pss_nil)
      (pss_one (ps_ret (pe_cal c_three_ways hr (by decide) rfl pass0 (pa_cons (pv 0) (pa_cons (pv 1) pa_nil))))))), ?_⟩
    have hE0 : Wst ⟨[], TL⟩ F H [(rD (rL rN)).at p_beside, (rL rN).at p_part, sAny] [] (start ["beside", "part", "place"] [v_beside, v_part]) F H := Wst.start (vs := [v_beside, v_part]) (n := 1) (ss := [(rD (rL rN)).at p_beside, (rL rN).at p_part]) (cs := []) sm0 nt0 (fun p hp => by cases hp) List.nodup_nil (.cons ⟨_, rfl, r_beside⟩ (.cons ⟨_, rfl, r_part⟩ .nil))
    revert hE0
    generalize start ["beside", "part", "place"] [v_beside, v_part] = σ0
    intro hE0
    refine x_seq ?_
    refine x_ifs ?_
    refine x_test ?_
    refine x_op ?_
    refine x_cb ?_
    refine x_cons ?_
    refine w_var hE0 (i := 1) rfl fun v1 r2 => ?_
    refine x_nil ?_
    refine w_len (lv_f hE0.fh r2) ?_
    refine w_cN 1 ?_
    refine w_eqN ?_
    refine x_bl ?_
    refine x_itb (fun hc3 => ?_) (fun hc3 => ?_)
    · have hf := ite_t hf hc3
      refine x_ret ?_
      refine m_tup ?_
      refine x_cons ?_
      refine x_c ?_
      refine x_cons ?_
      refine x_op ?_
      refine w_var hE0 (i := 1) rfl fun v4 r5 => ?_
      refine w_cN 0 ?_
      obtain ⟨x6, hx6, hf⟩ := bnd hf
      refine w_ix (lv_f hE0.fh r5) hx6 fun v7 r8 => ?_
      obtain rfl := (show v7 = (V.int ((x6 : Nat) : Int)) from r8)
      refine x_nil ?_
      refine w_tup2 (R := rSt) (S := rN) hE0 rfl rfl fun v9 _ _ s10 hE12 r11 => ?_
      have hf := Option.some.inj hf
      subst hf
      exact q _ _ _ hE12.ex ((cvT2 cvS cvN).dp r11)
    · have hf := ite_f hf hc3
      refine x_next ?_
      refine x_seq ?_
      refine x_ifs ?_
      refine x_B ?_
      refine x_cb ?_
      refine x_cons ?_
      refine x_lc ?_
      refine x_il ?_
      refine w_var hE0 (i := 1) rfl fun v13 r14 => ?_
      refine w_il (lv_f hE0.fh r14) fun a15 ea => ?_
      cases ea
      obtain ⟨x38, hx38, hf⟩ := bnd hf
      obtain ⟨_, u39, hf⟩ := bnd hf
      have u39 := gd_ok u39
      intro c16 d17
      refine w_lc (B := rB) hx38 u39 hE0 d17 (fun _ _ _ sm w45 => jok_l w45.fh w45.nt (lv_f w45.fh ((rL rN).mono sm r14))) (fun x18 v20 o21 ac28 _ _ s22 r23 hE24 hb25 z26 ew27 => ?_) (fun _ _ o42 s43 hE44 => ?_)
      · have hE24 : Wst ⟨[], TL⟩ _ _ [(rD (rL rN)).at p_beside, (rL rN).at p_part, sAny] [(c16, cL rB ac28)] _ _ _ := hE24
        refine w_nameW (ss' := [(rD (rL rN)).at p_beside, (rL rN).at p_part, rN.at x18]) hE24 rfl r23 (by decide) ew27 fun _ ew32 hE31 => ?_
        refine ⟨ew32, ?_⟩
        refine x_yes ?_
        refine x_T ?_
        refine x_op ?_
        refine x_cb ?_
        refine x_cons ?_
        refine x_dget ?_
        refine w_var hE31 (i := 0) rfl fun v33 r34 => ?_
        refine w_vN hE31 (i := 2) rfl ?_
        obtain ⟨x35, hx35, hb25⟩ := bnd hb25
        refine w_dget (dw_f hE31.fh r34) hx35 fun v36 r37 => ?_
        refine x_nil ?_
        refine w_len (lv_f hE31.fh r37) ?_
        refine w_cN 2 ?_
        refine w_eqN ?_
        have hb25 := Option.some.inj hb25
        subst hb25
        exact w_acc (s := ()) hE31 s22 rfl z26 ew32 rfl
      have hE46 : Wst ⟨[], TL⟩ _ _ [(rD (rL rN)).at p_beside, (rL rN).at p_part, sAny] [(c16, cL rB x38)] _ _ _ := hE44
      refine x_nil ?_
      refine w_all (lv_c hE46 (k := 0) rfl) ?_
      have hE47 : Wst ⟨[], TL⟩ _ _ [(rD (rL rN)).at p_beside, (rL rN).at p_part, sAny] [] _ _ _ := hE46.dropC 0
      refine x_bl ?_
      refine x_itb (fun hc48 => ?_) (fun hc48 => ?_)
      · have hf := ite_t hf hc48
        refine x_seq ?_
        refine x_ifs ?_
        refine x_test ?_
        refine x_op ?_
        refine x_op ?_
        refine x_cb ?_
        refine x_cons ?_
        refine w_var hE47 (i := 1) rfl fun v49 r50 => ?_
        refine x_nil ?_
        refine w_len (lv_f hE47.fh r50) ?_
        refine w_cN 2 ?_
        refine w_modN (by decide) ?_
        refine w_cN 1 ?_
        refine w_eqN ?_
        refine x_bl ?_
        refine x_itb (fun hc51 => ?_) (fun hc51 => ?_)
        · have hf := ite_t hf hc51
          refine x_ret ?_
          refine x_c ?_
          have hf := Option.some.inj hf
          subst hf
          exact q _ _ _ hE47.ex (cvU.dp rfl)
        · have hf := ite_f hf hc51
          refine x_next ?_
          refine x_ret ?_
          refine m_tup ?_
          refine x_cons ?_
          refine x_c ?_
          refine x_cons ?_
          refine x_call ?_
          refine x_cons ?_
          refine w_var hE47 (i := 0) rfl fun v52 r53 => ?_
          refine x_cons ?_
          refine x_op ?_
          refine w_var hE47 (i := 1) rfl fun v54 r55 => ?_
          refine w_cN 0 ?_
          obtain ⟨x56, hx56, hf⟩ := bnd hf
          refine w_ix (lv_f hE47.fh r55) hx56 fun v57 r58 => ?_
          obtain rfl := (show v57 = (V.int ((x56 : Nat) : Int)) from r58)
          refine x_nil ?_
          obtain ⟨x59, hx59, hf⟩ := bnd hf
          refine ⟨_, v52, p_beside, x56, x59, rfl, hE47.fh, hE47.nt, r53, hx59, fun c62 _ _ e60 o63 p64 q65 => ?_⟩
          have hE66 : Wst ⟨[], TL⟩ _ _ [(rD (rL rN)).at p_beside, (rL rN).at p_part, sAny] [] _ _ _ := hE47.grow e60
          have o67 := hE47.own o63
          have hE68 : Wst ⟨[], TL⟩ _ _ [(rD (rL rN)).at p_beside, (rL rN).at p_part, sAny] [(c62, cL rN x59)] _ _ _ := hE66.addC (A := cL rN x59) o67 p64 q65 (hE47.fresh_ne o63)
          obtain ⟨F69, s70, hE72, r71⟩ := hE68.freeze (k := 0) rfl o67
          have hE73 : Wst ⟨[], TL⟩ _ _ [(rD (rL rN)).at p_beside, (rL rN).at p_part, sAny] [] _ _ _ := hE72
          refine x_nil ?_
          refine w_tup2 (R := rSt) (S := (rL rN)) hE73 rfl r71 fun v74 _ _ s75 hE77 r76 => ?_
          have hf := Option.some.inj hf
          subst hf
          exact q _ _ _ hE77.ex ((cvT2 cvS (cvL cvN)).dp r76)
      · have hf := ite_f hf hc48
        refine x_next ?_
        refine x_ret ?_
        refine x_call ?_
        refine x_cons ?_
        refine w_var hE47 (i := 0) rfl fun v78 r79 => ?_
        refine x_cons ?_
        refine w_var hE47 (i := 1) rfl fun v80 r81 => ?_
        refine x_nil ?_
        obtain ⟨x82, hx82, hf⟩ := bnd hf
        refine ⟨_, v78, p_beside, v80, p_part, x82, rfl, hE47.fh, hE47.nt, (hE47.tb tb0), r79, r81, hx82, fun v85 _ _ e83 r84 => ?_⟩
        have hE86 : Wst ⟨[], TL⟩ _ _ [(rD (rL rN)).at p_beside, (rL rN).at p_part, sAny] [] _ _ _ := hE47.grow e83
        have hf := Option.some.inj hf
        subst hf
        exact q _ _ _ hE86.ex r84
end
abbrev s_part_forms : Stmt := topS 17
theorem sc_part_forms : FnScope ["web", "beside", "part"] ["web"] (defScope s_part_forms) := ⟨rfl, rfl, rfl, by decide +kernel, rfl, by decide +kernel, by decide +kernel⟩
def f_part_forms (p_web : Wb) : Option ((List PyData)) :=
  (f_kept_ties p_web).bind fun x3 =>
  (f_core_parts p_web).bind fun x21 =>
  (compO (β := PyData) (fun (x34 : (List Nat)) =>
    (f_part_form x3 x34).bind fun x53 =>
    some (some x53)) x21).bind fun x58 =>
  (gd (x58.length ≤ 100000)).bind fun _ =>
  some x58
def q_part_forms (TL : List (Addr × Str)) (C_Web : Addr) : Sp := fun vs H Q _ => ∃ (F : Hp) (v_web : V) (p_web : Wb) (rr : (List PyData)), vs = [v_web] ∧ Same F H ∧ NoT F ∧ LamX.Tabs TL H ∧ (rWb C_Web).r F v_web p_web ∧ f_part_forms p_web = some rr ∧ ∀ v F' H', Ext ⟨[], TL⟩ F H F' H' → (rL rP).r F' v rr → Q v H'
section
variable {P : Program} {w : World} {K : PySem.W.Frag} {mg : Str → Option Value} {base : Heap}
theorem t_part_forms {C_Web : Addr} (T : Tx mg) (O_Web : Own K mg "Web" C_Web) (F : DefAt K mg "part_forms" s_part_forms ["web"]) (c_kept_ties : Cal P w K mg base CX0 5 "kept_ties" (q_kept_ties TL C_Web)) (c_core_parts : Cal P w K mg base CX0 6 "core_parts" (q_core_parts TL C_Web)) (c_part_form : Cal P w K mg base CX0 5 "part_form" (q_part_form TL)) : Cal P w K mg base CX0 7 "part_forms" (q_part_forms TL C_Web) := by
  refine F.cal sc_part_forms (fun vs H Q E h => ?_) (fun f cdv A outer s H vs Q E hr h => ?_)
  · obtain ⟨_, _, _, _, rfl, _⟩ := h
    rfl
  · obtain ⟨F, v_web, p_web, rr, rfl, sm0, nt0, tb0, r_web, hf, q⟩ := h
    have hf : _ = some rr := hf
    unfold f_part_forms at hf
    refine ⟨_, (pss_cons (ps_set (i := 1) sc_part_forms.nd rfl (Or.inr rfl) (pe_cal c_kept_ties hr (by decide) rfl pass0 (pa_cons (pv 0) pa_nil)))
      (pss_one (ps_ret (pe_lc (own := [("part", 2)]) (g := gName 2) rfl sc_part_forms.nd (k_pil K (pe_cal c_core_parts hr (by decide) rfl pass0 (pa_cons (pv 0) pa_nil))) (blkOk_by (own := [("part", 2)]) (N := ["web", "beside", "part"]) (sc := defScope s_part_forms) (by decide +kernel)) (fun _ _ _ _ _ => (pg_name (i := 2) sc_part_forms.nd rfl (Or.inl rfl))) (fun _ _ _ _ _ => pts_nil) (fun _ _ _ _ _ => (pe_cal c_part_form hr (by decide) rfl pass0 (pa_cons (pv 1) (pa_cons (pv 2) pa_nil)))))))), ?_⟩
    have hE0 : Wst ⟨[], TL⟩ F H [(rWb C_Web).at p_web, sAny, sAny] [] (start ["web", "beside", "part"] [v_web]) F H := Wst.start (vs := [v_web]) (n := 2) (ss := [(rWb C_Web).at p_web]) (cs := []) sm0 nt0 (fun p hp => by cases hp) List.nodup_nil (.cons ⟨_, rfl, r_web⟩ .nil)
    revert hE0
    generalize start ["web", "beside", "part"] [v_web] = σ0
    intro hE0
    refine x_seq ?_
    refine x_asg ?_
    refine x_call ?_
    refine x_cons ?_
    refine w_var hE0 (i := 0) rfl fun v1 r2 => ?_
    refine x_nil ?_
    obtain ⟨x3, hx3, hf⟩ := bnd hf
    refine ⟨_, v1, p_web, x3, rfl, hE0.fh, hE0.nt, r2, hx3, fun c6 _ _ e4 o7 p8 q9 => ?_⟩
    have hE10 : Wst ⟨[], TL⟩ _ _ [(rWb C_Web).at p_web, sAny, sAny] [] _ _ _ := hE0.grow e4
    have o11 := hE0.own o7
    have hE12 : Wst ⟨[], TL⟩ _ _ [(rWb C_Web).at p_web, sAny, sAny] [(c6, cD (rL rN) x3)] _ _ _ := hE10.addC (A := cD (rL rN) x3) o11 p8 q9 (hE0.fresh_ne o7)
    obtain ⟨F13, s14, hE16, r15⟩ := hE12.freezeD (k := 0) rfl o11
    have hE17 : Wst ⟨[], TL⟩ _ _ [(rWb C_Web).at p_web, sAny, sAny] [] _ _ _ := hE16
    refine w_name (R := (rD (rL rN))) (ss' := [(rWb C_Web).at p_web, (rD (rL rN)).at x3, sAny]) hE17 rfl r15 fun _ hE18 => ?_
    refine x_ret ?_
    refine x_lc ?_
    refine x_il ?_
    refine x_call ?_
    refine x_cons ?_
    refine w_var hE18 (i := 0) rfl fun v19 r20 => ?_
    refine x_nil ?_
    obtain ⟨x21, hx21, hf⟩ := bnd hf
    refine ⟨_, v19, p_web, x21, rfl, hE18.fh, hE18.nt, r20, hx21, fun c24 _ _ e22 o25 p26 q27 => ?_⟩
    have hE28 : Wst ⟨[], TL⟩ _ _ [(rWb C_Web).at p_web, (rD (rL rN)).at x3, sAny] [] _ _ _ := hE18.grow e22
    have o29 := hE18.own o25
    have hE30 : Wst ⟨[], TL⟩ _ _ [(rWb C_Web).at p_web, (rD (rL rN)).at x3, sAny] [(c24, cL (rL rN) x21)] _ _ _ := hE28.addC (A := cL (rL rN) x21) o29 p26 q27 (hE18.fresh_ne o25)
    refine w_il (lv_c hE30 (k := 0) rfl) fun a31 ea => ?_
    cases ea
    obtain ⟨x58, hx58, hf⟩ := bnd hf
    obtain ⟨_, u59, hf⟩ := bnd hf
    have u59 := gd_ok u59
    intro c32 d33
    refine w_lc (B := rP) hx58 u59 hE30 d33 (fun _ _ _ sm w65 => jok_l w65.fh w65.nt (lv_c w65 (k := 1) rfl)) (fun x34 v36 o37 ac44 _ _ s38 r39 hE40 hb41 z42 ew43 => ?_) (fun _ _ o62 s63 hE64 => ?_)
    · have hE40 : Wst ⟨[], TL⟩ _ _ [(rWb C_Web).at p_web, (rD (rL rN)).at x3, sAny] [(c32, cL rP ac44), (c24, cL (rL rN) x21)] _ _ _ := hE40
      refine w_nameW (ss' := [(rWb C_Web).at p_web, (rD (rL rN)).at x3, (rL rN).at x34]) hE40 rfl r39 (by decide) ew43 fun _ ew48 hE47 => ?_
      refine ⟨ew48, ?_⟩
      refine x_yes ?_
      refine x_T ?_
      refine x_call ?_
      refine x_cons ?_
      refine w_var hE47 (i := 1) rfl fun v49 r50 => ?_
      refine x_cons ?_
      refine w_var hE47 (i := 2) rfl fun v51 r52 => ?_
      refine x_nil ?_
      obtain ⟨x53, hx53, hb41⟩ := bnd hb41
      refine ⟨_, v49, x3, v51, x34, x53, rfl, hE47.fh, hE47.nt, (hE47.tb tb0), r50, r52, hx53, fun v56 _ _ e54 r55 => ?_⟩
      have hE57 : Wst ⟨[], TL⟩ _ _ [(rWb C_Web).at p_web, (rD (rL rN)).at x3, (rL rN).at x34] [(c32, cL rP ac44), (c24, cL (rL rN) x21)] _ _ _ := hE47.grow e54
      have hb41 := Option.some.inj hb41
      subst hb41
      exact w_acc (s := ()) hE57 (s38.trans e54.ff) r55 z42 ew48 rfl
    have hE66 : Wst ⟨[], TL⟩ _ _ [(rWb C_Web).at p_web, (rD (rL rN)).at x3, sAny] [(c32, cL rP x58), (c24, cL (rL rN) x21)] _ _ _ := hE64
    obtain ⟨F67, s68, hE70, r69⟩ := hE66.freeze (k := 0) rfl o62
    have hE71 : Wst ⟨[], TL⟩ _ _ [(rWb C_Web).at p_web, (rD (rL rN)).at x3, sAny] [(c24, cL (rL rN) x21)] _ _ _ := hE70
    have hf := Option.some.inj hf
    subst hf
    exact q _ _ _ hE71.ex r69
end
abbrev s_painted_by_two : Stmt := topS 19
theorem sc_painted_by_two : FnScope ["web", "form"] ["web"] (defScope s_painted_by_two) := ⟨rfl, rfl, rfl, by decide +kernel, rfl, by decide +kernel, by decide +kernel⟩
def f_painted_by_two (p_web : Wb) : Option (Bool) :=
  (f_part_forms p_web).bind fun x3 =>
  (loopO (S := Unit) (T := Bool) (fun s9 (x10 : PyData) =>
    if ((kndP x10 == "NoneType")) = true then
      some (Stp.rt false)
    else
      (ixP x10 0).bind fun x28 =>
      (gd (SeqAt.shaped x28 = true ∧ SeqAt.shaped (cvS.d ("ways")) = true)).bind fun _ =>
      (if (PyData.eqv x28 (cvS.d ("ways"))) = true then (
          (ixP x10 3).bind fun x37 =>
          (ixP x37 2).bind fun x40 =>
          (lenP x40).bind fun x43 =>
          some (decide (1 < x43))
        ) else some false).bind fun b46 =>
      if b46 = true then
        some (Stp.rt false)
      else
        some (Stp.nx ())) x3 ()).bind fun x21 =>
  match x21 with
  | .rt t => some t
  | .bk _ => none
  | .nx x21s =>
    some true
def q_painted_by_two (TL : List (Addr × Str)) (C_Web : Addr) : Sp := fun vs H Q _ => ∃ (F : Hp) (v_web : V) (p_web : Wb) (rr : Bool), vs = [v_web] ∧ Same F H ∧ NoT F ∧ LamX.Tabs TL H ∧ (rWb C_Web).r F v_web p_web ∧ f_painted_by_two p_web = some rr ∧ ∀ v F' H', Ext ⟨[], TL⟩ F H F' H' → rB.r F' v rr → Q v H'
section
variable {P : Program} {w : World} {K : PySem.W.Frag} {mg : Str → Option Value} {base : Heap}
theorem t_painted_by_two {C_Web : Addr} (T : Tx mg) (O_Web : Own K mg "Web" C_Web) (F : DefAt K mg "painted_by_two" s_painted_by_two ["web"]) (c_part_forms : Cal P w K mg base CX0 7 "part_forms" (q_part_forms TL C_Web)) : Cal P w K mg base CX0 8 "painted_by_two" (q_painted_by_two TL C_Web) := by
  refine F.cal sc_painted_by_two (fun vs H Q E h => ?_) (fun f cdv A outer s H vs Q E hr h => ?_)
  · obtain ⟨_, _, _, _, rfl, _⟩ := h
    rfl
  · obtain ⟨F, v_web, p_web, rr, rfl, sm0, nt0, tb0, r_web, hf, q⟩ := h
    have hf : _ = some rr := hf
    unfold f_painted_by_two at hf
    refine ⟨_, (pss_cons (ps_for PassesOwn.never rfl (k_pil K (pe_cal c_part_forms hr (by decide) rfl pass0 (pa_cons (pv 0) pa_nil))) (pg_name (i := 1) sc_painted_by_two.nd rfl (Or.inl rfl))
        (pss_cons (ps_if (pt_cmpR k_isN (pv 1) pe_non (nomark _))
        (pss_one (ps_ret pe_bl)) pss_nil)
      (pss_one (ps_if (PW.pt (pw_and (pt_cmpR (k_eqD K hr.units) (pe_ix (ix_p K) (pv 1) pe_int (fun _ _ => rfl)) pe_str (nomark _)) (pw_and1 (pt_cmpR op_gt (pe_callB (cl_len K) (by rfl) T.z_len PySem.boot_len (pa_cons (pe_ix (ix_p K) (pe_ix (ix_p K) (pv 1) pe_int (fun _ _ => rfl)) pe_int (fun _ _ => rfl)) pa_nil)) pe_int (nomark _)))))
        (pss_one (ps_ret pe_bl)) pss_nil))))
      (pss_one (ps_ret pe_bl))), ?_⟩
    have hE0 : Wst ⟨[], TL⟩ F H [(rWb C_Web).at p_web, sAny] [] (start ["web", "form"] [v_web]) F H := Wst.start (vs := [v_web]) (n := 1) (ss := [(rWb C_Web).at p_web]) (cs := []) sm0 nt0 (fun p hp => by cases hp) List.nodup_nil (.cons ⟨_, rfl, r_web⟩ .nil)
    revert hE0
    generalize start ["web", "form"] [v_web] = σ0
    intro hE0
    refine x_seq ?_
    refine x_for ?_
    refine x_il ?_
    refine x_call ?_
    refine x_cons ?_
    refine w_var hE0 (i := 0) rfl fun v1 r2 => ?_
    refine x_nil ?_
    obtain ⟨x3, hx3, hf⟩ := bnd hf
    refine ⟨_, v1, p_web, x3, rfl, hE0.fh, hE0.nt, (hE0.tb tb0), r2, hx3, fun v6 _ _ e4 r5 => ?_⟩
    have hE7 : Wst ⟨[], TL⟩ _ _ [(rWb C_Web).at p_web, sAny] [] _ _ _ := hE0.grow e4
    refine w_il (lv_f hE7.fh r5) fun a8 ea => ?_
    cases ea
    have hE19 : Wst ⟨[], TL⟩ _ _ [(rWb C_Web).at p_web, sAny] [] _ _ _ := hE7
    obtain ⟨x21, hx21, hf⟩ := bnd hf
    refine w_forS 0 (fun (s9 : Unit) (ad17 : Nat → Addr) => [(rWb C_Web).at p_web, sAny]) (fun (s9 : Unit) (ad17 : Nat → Addr) => []) hx21 adZ no_ad hE19 (fun _ ad17 _ _ _ sm w49 => jok_l w49.fh w49.nt (lv_f w49.fh ((rL rP).mono sm r5))) (fun s9 ad17 x10 v11 o12 _ _ _ ha18 s13 r14 hE15 hb16 hrx21 hkx21 => ?_) (fun x21s ad17 _ _ _ eex21 ha18 s50 hE51 => ?_)
    · have hE20 : Wst ⟨[], TL⟩ _ _ [(rWb C_Web).at p_web, sAny] [] _ _ _ := hE15
      refine w_name (R := rP) (ss' := [(rWb C_Web).at p_web, rP.at x10]) hE20 rfl r14 fun _ hE22 => ?_
      refine x_seq ?_
      refine x_ifs ?_
      refine x_test ?_
      refine x_op ?_
      refine w_var hE22 (i := 1) rfl fun v23 r24 => ?_
      refine x_c ?_
      refine w_isP r24 ?_
      refine x_bl ?_
      refine x_itb (fun hc25 => ?_) (fun hc25 => ?_)
      · have hb16 := ite_t hb16 hc25
        refine x_ret ?_
        refine x_c ?_
        have hb16 := Option.some.inj hb16
        subst hb16
        cases (hrx21 _ rfl)
        have hf := Option.some.inj hf
        subst hf
        exact q _ _ _ hE22.ex rfl
      · have hb16 := ite_f hb16 hc25
        refine x_next ?_
        refine x_ifs ?_
        obtain ⟨x28, hx28, hb16⟩ := bnd hb16
        obtain ⟨_, u31, hb16⟩ := bnd hb16
        have u31 := gd_ok u31
        obtain ⟨b46, h47, hb16⟩ := bnd hb16
        refine w_andO (cs := []) hE22 (ca := (PyData.eqv x28 (cvS.d ("ways")))) h47 (fun _ q0 => ?_) (fun _ _ s34 hE33 _ hkk32 _ q0 => ?_) (fun _ _ s44 hE45 => ?_)
        · refine x_test ?_
          refine x_op ?_
          refine x_op ?_
          refine w_var hE22 (i := 1) rfl fun v26 r27 => ?_
          refine w_cN 0 ?_
          refine w_ixP hE22.fh r27 hx28 fun v29 r30 => ?_
          refine x_c ?_
          refine w_eqP hE22.fh r30 (cvS.dp rfl) u31 ?_
          refine x_bl ?_
          exact q0 _ _ (Same.refl _) hE22
        · refine x_test ?_
          refine x_op ?_
          refine x_cb ?_
          refine x_cons ?_
          refine x_op ?_
          refine x_op ?_
          refine w_var hE33 (i := 1) rfl fun v35 r36 => ?_
          refine w_cN 3 ?_
          obtain ⟨x37, hx37, hkk32⟩ := bnd hkk32
          refine w_ixP hE33.fh r36 hx37 fun v38 r39 => ?_
          refine w_cN 2 ?_
          obtain ⟨x40, hx40, hkk32⟩ := bnd hkk32
          refine w_ixP hE33.fh r39 hx40 fun v41 r42 => ?_
          refine x_nil ?_
          obtain ⟨x43, hx43, hkk32⟩ := bnd hkk32
          refine w_lenP hE33.fh r42 hx43 ?_
          refine w_cN 1 ?_
          refine w_gtN ?_
          refine x_bl ?_
          have hkk32 := Option.some.inj hkk32
          subst hkk32
          exact q0 _ _ (Same.refl _) hE33
        refine x_itb (fun hc48 => ?_) (fun hc48 => ?_)
        · have hb16 := ite_t hb16 hc48
          refine x_ret ?_
          refine x_c ?_
          have hb16 := Option.some.inj hb16
          subst hb16
          cases (hrx21 _ rfl)
          have hf := Option.some.inj hf
          subst hf
          exact q _ _ _ hE45.ex rfl
        · have hb16 := ite_f hb16 hc48
          refine x_next ?_
          have hb16 := Option.some.inj hb16
          subst hb16
          exact ⟨_, rfl, ⟨adZ, _, no_ad, (s13.trans s44), (hE45.toAny 1)⟩⟩
    subst eex21
    have hE52 : Wst ⟨[], TL⟩ _ _ [(rWb C_Web).at p_web, sAny] [] _ _ _ := hE51
    refine x_ret ?_
    refine x_c ?_
    have hf := Option.some.inj hf
    subst hf
    exact q _ _ _ hE52.ex rfl
end
abbrev s_WebD_eqD : Stmt := inClass (topS 8) 2
theorem sc_WebD_eqD : FnScope ["self", "other"] ["self", "other"] (defScope s_WebD_eqD) := ⟨rfl, rfl, rfl, by decide +kernel, rfl, by decide +kernel, by decide +kernel⟩
def f_WebD_eqD (p_self : Wb) (p_other : Wb) : Option (Bool) :=
  some (true && (eqD p_self p_other))
def q_WebD_eqD (TL : List (Addr × Str)) (C_Web : Addr) : Sp := fun vs H Q _ => ∃ (F : Hp) (v_self : V) (p_self : Wb) (v_other : V) (p_other : Wb) (rr : Bool), vs = [v_self, v_other] ∧ Same F H ∧ NoT F ∧ (rWb C_Web).r F v_self p_self ∧ (rWb C_Web).r F v_other p_other ∧ f_WebD_eqD p_self p_other = some rr ∧ ∀ v F' H', Ext ⟨[], TL⟩ F H F' H' → rB.r F' v rr → Q v H'
section
variable {P : Program} {w : World} {K : PySem.W.Frag} {mg : Str → Option Value} {base : Heap}
theorem t_WebD_eqD {C_Web : Addr} (T : Tx mg) (O_Web : Own K mg "Web" C_Web) (nB_Web : NoAttr K C_Web "beside") (I_Web : C8.InsC K C_Web) (F : MetAt K C_Web "__eq__" "Web.__eq__" s_WebD_eqD ["self", "other"]) : Met P w K mg base CX0 1 C_Web "__eq__" (q_WebD_eqD TL C_Web) := by
  refine F.met sc_WebD_eqD (fun vs H Q E h => ?_) (fun f cdv A outer s H vs Q E hr h => ?_)
  · obtain ⟨_, _, _, _, _, _, rfl, _⟩ := h
    rfl
  · obtain ⟨F, v_self, p_self, v_other, p_other, rr, rfl, sm0, nt0, r_self, r_other, hf, q⟩ := h
    have hf : _ = some rr := hf
    unfold f_WebD_eqD at hf
    refine ⟨_, (pss_one (ps_ret (pe_and (pe_callB (cl_isi K) (by rfl) T.z_isinstance (by decide +kernel) (pa_cons (pv 1) (pa_cons (pe_glob (v := .ref C_Web) rfl O_Web.mgC rfl) pa_nil))) (pe_one (pe_cmpR (k_eqD K hr.units) (k_fld K (pv 0) rfl) (k_fld K (pv 1) rfl) (nomark _)))))), ?_⟩
    have hE0 : Wst ⟨[], TL⟩ F H [(rWb C_Web).at p_self, (rWb C_Web).at p_other] [] (start ["self", "other"] [v_self, v_other]) F H := Wst.start (vs := [v_self, v_other]) (n := 0) (ss := [(rWb C_Web).at p_self, (rWb C_Web).at p_other]) (cs := []) sm0 nt0 (fun p hp => by cases hp) List.nodup_nil (.cons ⟨_, rfl, r_self⟩ (.cons ⟨_, rfl, r_other⟩ .nil))
    revert hE0
    generalize start ["self", "other"] [v_self, v_other] = σ0
    intro hE0
    refine x_ret ?_
    refine w_andVP (cs := []) hE0 (ca := true) (cb := (eqD p_self p_other)) (fun _ q0 => ?_) (fun _ _ s5 hE4 _ _ q0 => ?_) (fun _ _ s14 hE15 => ?_)
    · refine x_cb ?_
      refine x_cons ?_
      refine w_var hE0 (i := 1) rfl fun v1 r2 => ?_
      refine x_cons ?_
      refine x_c ?_
      refine x_nil ?_
      refine w_isiWb I_Web hE0.fh r2 ?_
      exact q0 _ _ (Same.refl _) hE0
    · refine x_op ?_
      refine x_tfld ?_
      refine w_var hE4 (i := 0) rfl fun v6 r7 => ?_
      refine w_fldWeb hE4.fh r7 O_Web.cl nB_Web fun v8 r9 => ?_
      refine x_tfld ?_
      refine w_var hE4 (i := 1) rfl fun v10 r11 => ?_
      refine w_fldWeb hE4.fh r11 O_Web.cl nB_Web fun v12 r13 => ?_
      refine w_eqD (dtL (dtL dtN)) (a := p_self) (b := p_other) (dv_l (dtL dtN) hE4.fh (lv_f hE4.fh r9)) (dv_l (dtL dtN) hE4.fh (lv_f hE4.fh r13)) ?_
      exact q0 _ _ (Same.refl _) hE4
    have hf := Option.some.inj hf
    subst hf
    exact q _ _ _ hE15.ex rfl
end
abbrev s_law : Stmt := topS 27
theorem sc_law : FnScope ["script", "many", "ties", "due", "web", "one", "found"] ["script"] (defScope s_law) := ⟨rfl, rfl, rfl, by decide +kernel, rfl, by decide +kernel, by decide +kernel⟩
def f_law (p_script : (List Int)) : Option (Bool) :=
  (f_l_web p_script).bind fun x3 =>
  (f_l_order p_script 0 x3.1).bind fun x19 =>
  (f_l_turned_ties x19 x3.2.1).bind fun x36 =>
  (mkWeb x3.1 x36).bind fun x62 =>
  (mkWeb x3.1 x36.reverse).bind fun x76 =>
  (loopO (S := Unit) (T := Bool) (fun s84 (x85 : Wb) =>
    (f_painted_by_two x85).bind fun x100 =>
    if (false || (!decide (x100 = x3.2.2))) = true then
      some (Stp.rt false)
    else
      some (Stp.nx ())) [x62, x76, x62] ()).bind fun x96 =>
  match x96 with
  | .rt t => some t
  | .bk _ => none
  | .nx x96s =>
    (mkWeb x3.1 x36).bind fun x128 =>
    (f_WebD_eqD x62 x128).bind fun x131 =>
    (if x131 = true then (
        (mkWeb 0 ([] : List (Nat × Nat))).bind fun x147 =>
        (f_painted_by_two x147).bind fun x148 =>
        some (decide (x148 = true))
      ) else some false).bind fun b155 =>
    some b155
def q_law (TL : List (Addr × Str)) (K : PySem.W.Frag) : Sp := fun vs H Q _ => ∃ (F : Hp) (v_script : V) (p_script : (List Int)) (rr : Bool), vs = [v_script] ∧ Same F H ∧ NoT F ∧ LamX.Tabs TL H ∧ (rScr K).r F v_script p_script ∧ f_law p_script = some rr ∧ ∀ v F' H', Ext ⟨[], TL⟩ F H F' H' → rB.r F' v rr → Q v H'
section
variable {P : Program} {w : World} {K : PySem.W.Frag} {mg : Str → Option Value} {base : Heap}
theorem t_law {fA : Addr} {fD : FuncData} {C_Web : Addr} (T : Tx mg) (O_Web : Own K mg "Web" C_Web) (F : Fun K "law" "law" s_law fA fD) (c_l_web : Cal P w K mg base CX0 3 "_law_web" (q_l_web TL K)) (c_l_order : Cal P w K mg base CX0 2 "_law_order" (q_l_order TL K)) (c_l_turned_ties : Cal P w K mg base CX0 1 "_law_turned_ties" (q_l_turned_ties TL)) (m_WebD_initD : Met P w K mg base CX0 3 C_Web "__init__" (spInitW C_Web)) (c_painted_by_two : Cal P w K mg base CX0 8 "painted_by_two" (q_painted_by_two TL C_Web)) (m_WebD_eqD : Met P w K mg base CX0 1 C_Web "__eq__" (q_WebD_eqD TL C_Web)) : FnOk P w K mg base CX0 9 fA fD ["script"] (q_law TL K) := by
  refine F.ok sc_law (fun vs H Q E h => ?_) (fun cdv A outer s H vs Q E hr h => ?_)
  · obtain ⟨_, _, _, _, rfl, _⟩ := h
    rfl
  · obtain ⟨F, v_script, p_script, rr, rfl, sm0, nt0, tb0, r_script, hf, q⟩ := h
    have hf : _ = some rr := hf
    unfold f_law at hf
    refine ⟨_, (pss_cons (ps_asg (pe_cal c_l_web hr (by decide) rfl pass0 (pa_cons (pv 0) pa_nil)) (k_tup (n := 3) K rfl (pgs_cons (pg_name (i := 1) sc_law.nd rfl (Or.inl rfl)) (pgs_cons (pg_name (i := 2) sc_law.nd rfl (Or.inl rfl)) (pgs_cons (pg_name (i := 3) sc_law.nd rfl (Or.inl rfl)) pgs_nil)))))
      (pss_cons (ps_set (i := 2) sc_law.nd rfl (Or.inl rfl) (pe_cal c_l_turned_ties hr (by decide) rfl pass0 (pa_cons (pe_cal c_l_order hr (by decide) rfl pass0 (pa_cons (pv 0) (pa_cons pe_int (pa_cons (pv 1) pa_nil)))) (pa_cons (pv 2) pa_nil))))
      (pss_cons (ps_set (i := 4) sc_law.nd rfl (Or.inl rfl) (pe_mak m_WebD_initD O_Web hr (by decide) rfl pass0 (pa_cons (pv 1) (pa_cons (pe_callTy (cl_listOf K) (by rfl) T.z_list (by decide +kernel) (pa_cons (pv 2) pa_nil)) pa_nil))))
      (pss_cons (ps_for PassesOwn.never rfl (k_pil K (pe_lst (pa_cons (pv 4) (pa_cons (pe_mak m_WebD_initD O_Web hr (by decide) rfl pass0 (pa_cons (pv 1) (pa_cons (k_revL K (pv 2)) pa_nil))) (pa_cons (pv 4) pa_nil))))) (pg_name (i := 5) sc_law.nd rfl (Or.inl rfl))
        (pss_cons (ps_set (i := 6) sc_law.nd rfl (Or.inl rfl) (pe_cal c_painted_by_two hr (by decide) rfl pass0 (pa_cons (pv 5) pa_nil)))
      (pss_one (ps_if (PW.pt (pw_or (pt_not (pt_val (pe_callB (cl_isi K) (by rfl) T.z_isinstance (by decide +kernel) (pa_cons (pv 6) (pa_cons (pe_bltn (v := .ty "bool") (by rfl) T.z_bool (by decide +kernel) rfl) pa_nil))))) (pw_or1 (pt_cmpR op_ne (pv 6) (pv 3) (nomark _)))))
        (pss_one (ps_ret pe_bl)) pss_nil))))
      (pss_one (ps_ret (pe_and (pe_cmpR (op_eqO m_WebD_eqD hr (by decide) pass0) (pv 4) (pe_mak m_WebD_initD O_Web hr (by decide) rfl pass0 (pa_cons (pv 1) (pa_cons (pe_callTy (cl_listOf K) (by rfl) T.z_list (by decide +kernel) (pa_cons (pv 2) pa_nil)) pa_nil))) (nomark _)) (pe_one (pe_cmpR op_isBl (pe_cal c_painted_by_two hr (by decide) rfl pass0 (pa_cons (pe_mak m_WebD_initD O_Web hr (by decide) rfl pass0 (pa_cons pe_int (pa_cons (pe_lst pa_nil) pa_nil))) pa_nil)) pe_bl (nomark _)))))))))), ?_⟩
    have hE0 : Wst ⟨[], TL⟩ F H [(rScr K).at p_script, sAny, sAny, sAny, sAny, sAny, sAny] [] (start ["script", "many", "ties", "due", "web", "one", "found"] [v_script]) F H := Wst.start (vs := [v_script]) (n := 6) (ss := [(rScr K).at p_script]) (cs := []) sm0 nt0 (fun p hp => by cases hp) List.nodup_nil (.cons ⟨_, rfl, r_script⟩ .nil)
    revert hE0
    generalize start ["script", "many", "ties", "due", "web", "one", "found"] [v_script] = σ0
    intro hE0
    refine x_seq ?_
    refine x_asg ?_
    refine x_call ?_
    refine x_cons ?_
    refine w_var hE0 (i := 0) rfl fun v1 r2 => ?_
    refine x_nil ?_
    obtain ⟨x3, hx3, hf⟩ := bnd hf
    refine ⟨_, v1, p_script, x3, rfl, hE0.fh, hE0.nt, r2, hx3, fun v6 _ _ e4 r5 => ?_⟩
    have hE7 : Wst ⟨[], TL⟩ _ _ [(rScr K).at p_script, sAny, sAny, sAny, sAny, sAny, sAny] [] _ _ _ := hE0.grow e4
    refine w_gT3 hE7.fh r5 fun v8 v9 v10 r11 r12 r13 => ?_
    refine x_gCons ?_
    obtain rfl := (show v8 = (V.int ((x3.1 : Nat) : Int)) from r11)
    refine w_name (R := rN) (ss' := [(rScr K).at p_script, rN.at x3.1, sAny, sAny, sAny, sAny, sAny]) hE7 rfl rfl fun _ hE14 => ?_
    refine x_gCons ?_
    refine w_name (R := (rL (rT2 rN rN))) (ss' := [(rScr K).at p_script, rN.at x3.1, (rL (rT2 rN rN)).at x3.2.1, sAny, sAny, sAny, sAny]) hE14 rfl r12 fun _ hE15 => ?_
    refine x_gCons ?_
    obtain rfl := (show v10 = (V.bl x3.2.2) from r13)
    refine w_name (R := rB) (ss' := [(rScr K).at p_script, rN.at x3.1, (rL (rT2 rN rN)).at x3.2.1, rB.at x3.2.2, sAny, sAny, sAny]) hE15 rfl rfl fun _ hE16 => ?_
    refine x_gNil ?_
    refine x_seq ?_
    refine x_asg ?_
    refine x_call ?_
    refine x_cons ?_
    refine x_call ?_
    refine x_cons ?_
    refine w_var hE16 (i := 0) rfl fun v17 r18 => ?_
    refine x_cons ?_
    refine w_cN 0 ?_
    refine x_cons ?_
    refine w_vN hE16 (i := 1) rfl ?_
    refine x_nil ?_
    obtain ⟨x19, hx19, hf⟩ := bnd hf
    refine ⟨_, v17, p_script, 0, x3.1, x19, rfl, hE16.fh, hE16.nt, r18, hx19, fun c22 _ _ e20 o23 p24 q25 => ?_⟩
    have hE26 : Wst ⟨[], TL⟩ _ _ [(rScr K).at p_script, rN.at x3.1, (rL (rT2 rN rN)).at x3.2.1, rB.at x3.2.2, sAny, sAny, sAny] [] _ _ _ := hE16.grow e20
    have o27 := hE16.own o23
    have hE28 : Wst ⟨[], TL⟩ _ _ [(rScr K).at p_script, rN.at x3.1, (rL (rT2 rN rN)).at x3.2.1, rB.at x3.2.2, sAny, sAny, sAny] [(c22, cL rN x19)] _ _ _ := hE26.addC (A := cL rN x19) o27 p24 q25 (hE16.fresh_ne o23)
    obtain ⟨F29, s30, hE32, r31⟩ := hE28.freeze (k := 0) rfl o27
    have hE33 : Wst ⟨[], TL⟩ _ _ [(rScr K).at p_script, rN.at x3.1, (rL (rT2 rN rN)).at x3.2.1, rB.at x3.2.2, sAny, sAny, sAny] [] _ _ _ := hE32
    refine x_cons ?_
    refine w_var hE33 (i := 2) rfl fun v34 r35 => ?_
    refine x_nil ?_
    obtain ⟨x36, hx36, hf⟩ := bnd hf
    refine ⟨_, (V.ref c22), x19, v34, x3.2.1, x36, rfl, hE33.fh, hE33.nt, r31, r35, hx36, fun c39 _ _ e37 o40 p41 q42 => ?_⟩
    have hE43 : Wst ⟨[], TL⟩ _ _ [(rScr K).at p_script, rN.at x3.1, (rL (rT2 rN rN)).at x3.2.1, rB.at x3.2.2, sAny, sAny, sAny] [] _ _ _ := hE33.grow e37
    have o44 := hE33.own o40
    have hE45 : Wst ⟨[], TL⟩ _ _ [(rScr K).at p_script, rN.at x3.1, (rL (rT2 rN rN)).at x3.2.1, rB.at x3.2.2, sAny, sAny, sAny] [(c39, cL (rT2 rN rN) x36)] _ _ _ := hE43.addC (A := cL (rT2 rN rN) x36) o44 p41 q42 (hE33.fresh_ne o40)
    obtain ⟨F46, s47, hE49, r48⟩ := hE45.freeze (k := 0) rfl o44
    have hE50 : Wst ⟨[], TL⟩ _ _ [(rScr K).at p_script, rN.at x3.1, (rL (rT2 rN rN)).at x3.2.1, rB.at x3.2.2, sAny, sAny, sAny] [] _ _ _ := hE49
    refine w_name (R := (rL (rT2 rN rN))) (ss' := [(rScr K).at p_script, rN.at x3.1, (rL (rT2 rN rN)).at x36, rB.at x3.2.2, sAny, sAny, sAny]) hE50 rfl r48 fun _ hE51 => ?_
    refine x_seq ?_
    refine x_asg ?_
    refine m_make ?_
    refine x_cons ?_
    refine w_vN hE51 (i := 1) rfl ?_
    refine x_cons ?_
    refine x_cb ?_
    refine x_cons ?_
    refine w_var hE51 (i := 2) rfl fun v52 r53 => ?_
    refine x_nil ?_
    refine w_listF hE51 (lv_f hE51.fh r53) fun v54 _ _ s55 hE57 r56 => ?_
    refine x_nil ?_
    obtain ⟨x62, hx62, hf⟩ := bnd hf
    refine w_mkWeb hE57 r56 hx62 fun v58 _ _ s59 hE61 r60 => ?_
    refine w_name (R := (rWb C_Web)) (ss' := [(rScr K).at p_script, rN.at x3.1, (rL (rT2 rN rN)).at x36, rB.at x3.2.2, (rWb C_Web).at x62, sAny, sAny]) hE61 rfl r60 fun _ hE63 => ?_
    refine x_seq ?_
    refine x_for ?_
    refine x_il ?_
    refine m_lst ?_
    refine x_cons ?_
    refine w_var hE63 (i := 4) rfl fun v64 r65 => ?_
    refine x_cons ?_
    refine m_make ?_
    refine x_cons ?_
    refine w_vN hE63 (i := 1) rfl ?_
    refine x_cons ?_
    refine m_revT ?_
    refine w_var hE63 (i := 2) rfl fun v66 r67 => ?_
    refine w_revF hE63 (lv_f hE63.fh r67) fun v68 _ _ s69 hE71 r70 => ?_
    refine x_nil ?_
    obtain ⟨x76, hx76, hf⟩ := bnd hf
    refine w_mkWeb hE71 r70 hx76 fun v72 _ _ s73 hE75 r74 => ?_
    refine x_cons ?_
    refine w_var hE75 (i := 4) rfl fun v77 r78 => ?_
    refine x_nil ?_
    refine w_lstF hE75 (R := (rWb C_Web)) (l := [x62, x76, x62]) (by show 3 ≤ 100000; decide) (.cons ((rWb C_Web).mono s73 ((rWb C_Web).mono s69 r65)) (.cons r74 (.cons r78 .nil))) fun v79 _ _ s80 hE82 r81 => ?_
    refine w_il (lv_f hE82.fh r81) fun a83 ea => ?_
    cases ea
    have hE94 : Wst ⟨[], TL⟩ _ _ [(rScr K).at p_script, rN.at x3.1, (rL (rT2 rN rN)).at x36, rB.at x3.2.2, (rWb C_Web).at x62, sAny, sAny] [] _ _ _ := hE82
    obtain ⟨x96, hx96, hf⟩ := bnd hf
    refine w_forS 0 (fun (s84 : Unit) (ad92 : Nat → Addr) => [(rScr K).at p_script, rN.at x3.1, (rL (rT2 rN rN)).at x36, rB.at x3.2.2, (rWb C_Web).at x62, sAny, sAny]) (fun (s84 : Unit) (ad92 : Nat → Addr) => []) hx96 adZ no_ad hE94 (fun _ ad92 _ _ _ sm w112 => jok_l w112.fh w112.nt (lv_f w112.fh ((rL (rWb C_Web)).mono sm r81))) (fun s84 ad92 x85 v86 o87 _ _ _ ha93 s88 r89 hE90 hb91 hrx96 hkx96 => ?_) (fun x96s ad92 _ _ _ eex96 ha93 s113 hE114 => ?_)
    · have hE95 : Wst ⟨[], TL⟩ _ _ [(rScr K).at p_script, rN.at x3.1, (rL (rT2 rN rN)).at x36, rB.at x3.2.2, (rWb C_Web).at x62, sAny, sAny] [] _ _ _ := hE90
      refine w_name (R := (rWb C_Web)) (ss' := [(rScr K).at p_script, rN.at x3.1, (rL (rT2 rN rN)).at x36, rB.at x3.2.2, (rWb C_Web).at x62, (rWb C_Web).at x85, sAny]) hE95 rfl r89 fun _ hE97 => ?_
      refine x_seq ?_
      refine x_asg ?_
      refine x_call ?_
      refine x_cons ?_
      refine w_var hE97 (i := 5) rfl fun v98 r99 => ?_
      refine x_nil ?_
      obtain ⟨x100, hx100, hb91⟩ := bnd hb91
      refine ⟨_, v98, x85, x100, rfl, hE97.fh, hE97.nt, (hE97.tb tb0), r99, hx100, fun v103 _ _ e101 r102 => ?_⟩
      have hE104 : Wst ⟨[], TL⟩ _ _ [(rScr K).at p_script, rN.at x3.1, (rL (rT2 rN rN)).at x36, rB.at x3.2.2, (rWb C_Web).at x62, (rWb C_Web).at x85, sAny] [] _ _ _ := hE97.grow e101
      obtain rfl := (show v103 = (V.bl x100) from r102)
      refine w_name (R := rB) (ss' := [(rScr K).at p_script, rN.at x3.1, (rL (rT2 rN rN)).at x36, rB.at x3.2.2, (rWb C_Web).at x62, (rWb C_Web).at x85, rB.at x100]) hE104 rfl rfl fun _ hE105 => ?_
      refine x_ifs ?_
      refine w_orP (cs := []) hE105 (ca := false) (cb := (!decide (x100 = x3.2.2))) (fun _ q0 => ?_) (fun _ _ s108 hE107 _ _ q0 => ?_) (fun _ _ s109 hE110 => ?_)
      · refine x_not ?_
        refine x_B ?_
        refine x_cb ?_
        refine x_cons ?_
        refine w_vB hE105 (i := 6) rfl ?_
        refine x_cons ?_
        refine x_c ?_
        refine x_nil ?_
        refine y_isBool (b := true) (knd_bl _) (by decide) ?_
        refine x_bl ?_
        exact q0 _ _ (Same.refl _) hE105
      · refine x_test ?_
        refine x_op ?_
        refine w_vB hE107 (i := 6) rfl ?_
        refine w_vB hE107 (i := 3) rfl ?_
        refine w_neB ?_
        refine x_bl ?_
        exact q0 _ _ (Same.refl _) hE107
      refine x_itb (fun hc111 => ?_) (fun hc111 => ?_)
      · have hb91 := ite_t hb91 hc111
        refine x_ret ?_
        refine x_c ?_
        have hb91 := Option.some.inj hb91
        subst hb91
        cases (hrx96 _ rfl)
        have hf := Option.some.inj hf
        subst hf
        exact q _ _ _ hE110.ex rfl
      · have hb91 := ite_f hb91 hc111
        refine x_next ?_
        have hb91 := Option.some.inj hb91
        subst hb91
        exact ⟨_, rfl, ⟨adZ, _, no_ad, ((s88.trans e101.ff).trans s109), ((hE110.toAny 5).toAny 6)⟩⟩
    subst eex96
    have hE115 : Wst ⟨[], TL⟩ _ _ [(rScr K).at p_script, rN.at x3.1, (rL (rT2 rN rN)).at x36, rB.at x3.2.2, (rWb C_Web).at x62, sAny, sAny] [] _ _ _ := hE114
    refine x_ret ?_
    obtain ⟨x128, hx128, hf⟩ := bnd hf
    obtain ⟨x131, hx131, hf⟩ := bnd hf
    obtain ⟨b155, h156, hf⟩ := bnd hf
    refine w_andVO (cs := []) hE115 (ca := x131) h156 (fun _ q0 => ?_) (fun _ _ s138 hE137 _ hkk136 _ q0 => ?_) (fun _ _ s153 hE154 => ?_)
    · refine x_op ?_
      refine w_var hE115 (i := 4) rfl fun v116 r117 => ?_
      refine m_make ?_
      refine x_cons ?_
      refine w_vN hE115 (i := 1) rfl ?_
      refine x_cons ?_
      refine x_cb ?_
      refine x_cons ?_
      refine w_var hE115 (i := 2) rfl fun v118 r119 => ?_
      refine x_nil ?_
      refine w_listF hE115 (lv_f hE115.fh r119) fun v120 _ _ s121 hE123 r122 => ?_
      refine x_nil ?_
      refine w_mkWeb hE123 r122 hx128 fun v124 _ _ s125 hE127 r126 => ?_
      refine w_eqWb hE127.fh ((rWb C_Web).mono s125 ((rWb C_Web).mono s121 r117)) r126 fun a129 a130 ea eb => ?_
      cases ea; cases eb
      refine ⟨_, (V.ref a129), x62, (V.ref a130), x128, x131, rfl, hE127.fh, hE127.nt, ((rWb C_Web).mono s125 ((rWb C_Web).mono s121 r117)), r126, hx131, fun v134 _ _ e132 r133 => ?_⟩
      have hE135 : Wst ⟨[], TL⟩ _ _ [(rScr K).at p_script, rN.at x3.1, (rL (rT2 rN rN)).at x36, rB.at x3.2.2, (rWb C_Web).at x62, sAny, sAny] [] _ _ _ := hE127.grow e132
      obtain rfl := (show v134 = (V.bl x131) from r133)
      refine ⟨_, rfl, ?_⟩
      exact q0 _ _ ((((Same.refl _).trans s121).trans s125).trans e132.ff) hE135
    · refine x_op ?_
      refine x_call ?_
      refine x_cons ?_
      refine m_make ?_
      refine x_cons ?_
      refine w_cN 0 ?_
      refine x_cons ?_
      refine m_lst ?_
      refine x_nil ?_
      refine w_lstF hE137 (R := (rT2 rN rN)) (l := ([] : List (Nat × Nat))) (by show 0 ≤ 100000; decide) .nil fun v139 _ _ s140 hE142 r141 => ?_
      refine x_nil ?_
      obtain ⟨x147, hx147, hkk136⟩ := bnd hkk136
      refine w_mkWeb hE142 r141 hx147 fun v143 _ _ s144 hE146 r145 => ?_
      refine x_nil ?_
      obtain ⟨x148, hx148, hkk136⟩ := bnd hkk136
      refine ⟨_, v143, x147, x148, rfl, hE146.fh, hE146.nt, (hE146.tb tb0), r145, hx148, fun v151 _ _ e149 r150 => ?_⟩
      have hE152 : Wst ⟨[], TL⟩ _ _ [(rScr K).at p_script, rN.at x3.1, (rL (rT2 rN rN)).at x36, rB.at x3.2.2, (rWb C_Web).at x62, sAny, sAny] [] _ _ _ := hE146.grow e149
      obtain rfl := (show v151 = (V.bl x148) from r150)
      refine x_c ?_
      refine w_isBl ?_
      have hkk136 := Option.some.inj hkk136
      subst hkk136
      exact q0 _ _ ((((Same.refl _).trans s140).trans s144).trans e149.ff) hE152
    have hf := Option.some.inj hf
    subst hf
    exact q _ _ _ hE154.ex rfl
end
/-! ### mirrors: what they answer, step by step -/
section
variable {α β S T : Type} {P : β → Prop}
theorem ex_b {m : Option α} {k : α → Option β} (a : α) (h : m = some a) (q : ∃ r, k a = some r ∧ P r) : ∃ r, m.bind k = some r ∧ P r := by rw [h]; exact q
theorem ex_g {p : Prop} [Decidable p] {k : Unit → Option β} (h : p) (q : ∃ r, k () = some r ∧ P r) : ∃ r, (gd p).bind k = some r ∧ P r := ex_b () (gd_true h) q
theorem ex_s {a : β} (h : P a) : ∃ r, some a = some r ∧ P r := ⟨a, rfl, h⟩
theorem ex_e {m : Option α} {k : α → Option β} {A : α → Prop} (h : ∃ a, m = some a ∧ A a) (q : ∀ a, A a → ∃ r, k a = some r ∧ P r) : ∃ r, m.bind k = some r ∧ P r := by
  obtain ⟨a, e, ha⟩ := h
  exact ex_b a e (q a ha)
theorem ex_t {c : Bool} {a b : Option β} (h : c = true) (q : ∃ r, a = some r ∧ P r) : ∃ r, (if c = true then a else b) = some r ∧ P r := by rw [if_pos h]; exact q
theorem ex_n {c : Bool} {a b : Option β} (h : c = false) (q : ∃ r, b = some r ∧ P r) : ∃ r, (if c = true then a else b) = some r ∧ P r := by rw [if_neg (by rw [h]; decide)]; exact q
theorem ex_i {c : Bool} {a b : Option β} (q1 : c = true → ∃ r, a = some r ∧ P r) (q2 : c = false → ∃ r, b = some r ∧ P r) : ∃ r, (if c = true then a else b) = some r ∧ P r := by
  cases c with
  | true => rw [if_pos rfl]; exact q1 rfl
  | false => rw [if_neg (by decide)]; exact q2 rfl
theorem ex_mono {m : Option β} {P' : β → Prop} (h : ∃ r, m = some r ∧ P' r) (q : ∀ r, P' r → P r) : ∃ r, m = some r ∧ P r := by
  obtain ⟨r, e, h⟩ := h
  exact ⟨r, e, q r h⟩
theorem compS_ok {f : S → α → Option (Option β × S)} (I : Nat → S → List β → Prop) {xs : List α} {s0 : S} (h0 : I 0 s0 []) (hs : ∀ i x s l, xs[i]? = some x → I i s l → ∃ o, f s x = some o ∧ I (i + 1) o.2 (l ++ o.1.toList)) : ∃ r, compS f xs s0 = some r ∧ I xs.length r.2 r.1 := by
  have gen : ∀ (xs : List α) (I : Nat → S → List β → Prop) (s0 : S) (l0 : List β), I 0 s0 l0 → (∀ i x s l, xs[i]? = some x → I i s l → ∃ o, f s x = some o ∧ I (i + 1) o.2 (l ++ o.1.toList)) → ∃ r, compS f xs s0 = some r ∧ I xs.length r.2 (l0 ++ r.1) := by
    intro xs
    induction xs with
    | nil => intro I s0 l0 h0 _; exact ⟨([], s0), rfl, by rw [List.append_nil]; exact h0⟩
    | cons x xs ih =>
      intro I s0 l0 h0 hs
      obtain ⟨o, e1, h1⟩ := hs 0 x s0 l0 rfl h0
      obtain ⟨r, e2, h2⟩ := ih (fun i => I (i + 1)) o.2 (l0 ++ o.1.toList) h1 fun i x s l hx hi => hs (i + 1) x s l (by simpa using hx) hi
      refine ⟨(o.1.toList ++ r.1, r.2), ?_, by rw [← List.append_assoc]; exact h2⟩
      show (f s0 x).bind (fun p => (compS f xs p.2).bind fun q => some (p.1.toList ++ q.1, q.2)) = _
      rw [e1]
      show (compS f xs o.2).bind _ = _
      rw [e2]
      rfl
  exact gen xs I s0 [] h0 hs
/-- a search: the first one that says so -/
theorem loopO_all {body : S → α → Option (Stp S T)} (I : Nat → S → Prop) {xs : List α} {s0 : S} (h0 : I 0 s0) (hs : ∀ i x s, xs[i]? = some x → I i s → ∃ s', body s x = some (.nx s') ∧ I (i + 1) s') : ∃ s, loopO body xs s0 = some (.nx s) ∧ I xs.length s := by
  induction xs generalizing s0 I with
  | nil => exact ⟨s0, rfl, h0⟩
  | cons x xs ih =>
    obtain ⟨s1, e1, h1⟩ := hs 0 x s0 rfl h0
    obtain ⟨s2, e2, h2⟩ := ih (fun i => I (i + 1)) h1 fun i x s hx hi => hs (i + 1) x s (by simpa using hx) hi
    refine ⟨s2, ?_, h2⟩
    show (body s0 x).bind _ = _
    rw [e1]
    exact e2
theorem loopO_cases {body : S → α → Option (Stp S T)} (I : Nat → S → Prop) {xs : List α} {s0 : S} (h0 : I 0 s0) (B : Stp S T → Prop) (hs : ∀ i x s, xs[i]? = some x → I i s → (∃ s', body s x = some (.nx s') ∧ I (i + 1) s') ∨ (∃ s', body s x = some (.bk s') ∧ B (.bk s')) ∨ ∃ t, body s x = some (.rt t) ∧ B (.rt t)) (hd : ∀ s, I xs.length s → B (.nx s)) : ∃ e, loopO body xs s0 = some e ∧ B e := by
  induction xs generalizing s0 I with
  | nil => exact ⟨.nx s0, rfl, hd s0 h0⟩
  | cons x xs ih =>
    rcases hs 0 x s0 rfl h0 with ⟨s1, e1, h1⟩ | ⟨s1, e1, h1⟩ | ⟨t, e1, h1⟩
    · obtain ⟨e, e2, h2⟩ := ih (fun i => I (i + 1)) h1 (fun i x s hx hi => hs (i + 1) x s (by simpa using hx) hi) hd
      refine ⟨e, ?_, h2⟩
      show (body s0 x).bind _ = _
      rw [e1]
      exact e2
    · refine ⟨_, ?_, h1⟩
      show (body s0 x).bind _ = _
      rw [e1]
      rfl
    · refine ⟨_, ?_, h1⟩
      show (body s0 x).bind _ = _
      rw [e1]
      rfl
end
theorem mem_snoc {α : Type} {l : List α} {a x : α} : x ∈ l ++ [a] ↔ x ∈ l ∨ x = a := by simp
theorem nodup_snoc {α : Type} {l : List α} {a : α} (h : l.Nodup) (n : a ∉ l) : (l ++ [a]).Nodup := List.nodup_append.mpr ⟨h, by simp, fun x hx y hy => by rw [List.mem_singleton.mp hy]; exact fun z => n (z ▸ hx)⟩
theorem take_snoc {α : Type} {l : List α} {i : Nat} {a : α} (h : l[i]? = some a) : l.take (i + 1) = l.take i ++ [a] := by rw [List.take_add_one, h]; rfl
theorem range_at {n i x : Nat} (h : (List.range n)[i]? = some x) : x = i ∧ i < n := by
  have hl := (List.getElem?_eq_some_iff.mp h).1
  rw [List.length_range] at hl
  rw [List.getElem?_range hl] at h
  exact ⟨(Option.some.inj h).symm, hl⟩
theorem ite_oo {α : Type} {c : Bool} {x : α} : (if c = true then some (some x) else some none) = some (if c = true then some x else none) := by cases c <;> rfl
abbrev Asc (l : List Nat) : Prop := l.Pairwise (· < ·)
theorem whlO_ok {S : Type} {c : S → Option Bool} {body : S → Option S} (I : S → Prop) (μ : S → Nat) (hs : ∀ s, I s → ∃ b, c s = some b ∧ (b = true → ∃ s', body s = some s' ∧ I s' ∧ μ s' < μ s)) : ∀ (n : Nat) (s : S), I s → μ s < n → ∃ s', whlO c body n s = some s' ∧ I s' ∧ c s' = some false
  | 0, s, _, h => absurd h (Nat.not_lt_zero _)
  | n + 1, s, h, hn => by
    obtain ⟨b, e, q⟩ := hs s h
    show ∃ s', (c s).bind (fun b => if b = true then (body s).bind (whlO c body n) else some s) = some s' ∧ _
    rw [e]
    cases b with
    | false => exact ⟨s, rfl, h, e⟩
    | true =>
      obtain ⟨s1, e1, i1, m1⟩ := q rfl
      obtain ⟨s2, e2, i2⟩ := whlO_ok I μ hs n s1 i1 (by omega)
      refine ⟨s2, ?_, i2⟩
      show (body s).bind (whlO c body n) = _
      rw [e1]
      exact e2
theorem ex_w {S β : Type} {c : S → Option Bool} {body : S → Option S} {k : S → Option β} {P : β → Prop} {n : Nat} {s0 : S} (I : S → Prop) (μ : S → Nat) (h0 : I s0) (hm : μ s0 < n) (hs : ∀ s, I s → ∃ b, c s = some b ∧ (b = true → ∃ s', body s = some s' ∧ I s' ∧ μ s' < μ s))
    (q : ∀ s, I s → c s = some false → ∃ r, k s = some r ∧ P r) : ∃ r, (whlO c body n s0).bind k = some r ∧ P r := by
  obtain ⟨s, e, h1, h2⟩ := whlO_ok I μ hs n s0 h0 hm
  exact ex_b s e (q s h1 h2)
theorem nd_sub_len {α : Type} [DecidableEq α] : ∀ {l m : List α}, l.Nodup → (∀ x ∈ l, x ∈ m) → l.length ≤ m.length
  | [], _, _, _ => Nat.zero_le _
  | a :: l, m, nd, h => by
    obtain ⟨n1, n2⟩ := List.nodup_cons.mp nd
    have ha := h a (List.mem_cons_self ..)
    have ih := nd_sub_len (m := m.erase a) n2 fun x hx => (List.mem_erase_of_ne fun z => n1 (by rw [← z]; exact hx)).mpr (h x (List.mem_cons_of_mem _ hx))
    rw [List.length_erase_of_mem ha] at ih
    have := List.length_pos_of_mem ha
    rw [List.length_cons]
    omega
/-! ### what the web answers -/
theorem eqD_no {α : Type} [DecidableEq α] {a b : α} (h : a ≠ b) : eqD a b = false := by
  rw [Bool.eq_false_iff]
  exact fun z => h (eqD_iff.mp z)
theorem eqD_yes {α : Type} [DecidableEq α] {a b : α} (h : a = b) : eqD a b = true := eqD_iff.mpr h
theorem neighbours_eq {n : Nat} {e : Rel} {p : Nat} (h : p < n) : f_Web_neighbours (nbs n e) p = some (nb n e p) := by
  unfold f_Web_neighbours f_Web_is_place
  rw [nbs_at h]
  have : p < (nbs n e).length := by rw [nbs_len]; exact h
  simp [this]
theorem compL_of {α β : Type} {f : α → Option (List β)} {g : α → List β} {xs : List α} (h : ∀ x ∈ xs, f x = some (g x)) : compL f xs = some (xs.flatMap g) := compL_map h
theorem flat_le {α β : Type} {f : α → List β} {c : Nat} : ∀ {l : List α}, (∀ x ∈ l, (f x).length ≤ c) → (l.flatMap f).length ≤ l.length * c
  | [], _ => by simp
  | a :: l, h => by
    rw [List.flatMap_cons, List.length_append, List.length_cons, Nat.succ_mul]
    have h1 := h a (List.mem_cons_self ..)
    have h2 := flat_le (l := l) (f := f) fun x hx => h x (List.mem_cons_of_mem _ hx)
    omega
theorem map_filterMap {α β : Type} {p : α → Bool} {g : α → β} {l : List α} : l.filterMap (fun x => if p x = true then some (g x) else none) = (l.filter p).map g := by
  induction l with
  | nil => rfl
  | cons a l ih =>
    rw [List.filterMap_cons, List.filter_cons]
    by_cases c : p a = true
    · rw [if_pos c, if_pos c, List.map_cons, ih]
    · rw [if_neg c, if_neg c, ih]
theorem ltT_nodup {l : List (Nat × Nat)} (h : l.Pairwise ltT) : l.Nodup := h.imp fun {a b} h e => by
  subst e
  unfold ltT at h
  omega
theorem srtP_of_lt {l m : List (Nat × Nat)} (h : m.Pairwise ltT) (nd : l.Nodup) (e : ∀ p, p ∈ m ↔ p ∈ l) : m = srtP l := by
  refine srtP_eq ((List.perm_ext_iff_of_nodup (ltT_nodup h) nd).mpr e) (h.imp fun {a b} h => ?_)
  unfold leP
  unfold ltT at h
  rw [decide_eq_true_eq]
  omega
theorem tok_len {n : Nat} {ts : List Tie} (t : TOk n ts) : ts.length ≤ n * n := by
  refine Nat.le_trans (nd_sub_len (m := tiesOf n (eOf ts)) t.nd fun p hp => mem_tiesOf.mpr ⟨Nat.lt_trans (t.ok p hp).1 (t.ok p hp).2, (t.ok p hp).2, (t.ok p hp).1, eOf_iff.mpr (.inl hp)⟩) ?_
  unfold tiesOf
  refine Nat.le_trans (flat_le (c := n) fun x _ => ?_) (by rw [List.length_range]; exact Nat.le_refl _)
  rw [List.length_map]
  have h1 := List.length_filter_le (fun v => decide (x < v)) (nb n (eOf ts) x)
  have h2 := nb_len n (eOf ts) x
  omega
theorem mkWeb_rev {n : Nat} {ts : List Tie} (t : TOk n ts) (h : n ≤ 100) : mkWeb n ts.reverse = some (nbs n (eOf ts)) := by
  have z := tok_len t
  have z2 : n * n ≤ 100 * 100 := Nat.mul_le_mul h h
  rw [mkWeb_ok (t.perm (List.reverse_perm ts)) h (by rw [List.length_reverse]; omega), eOf_perm (List.reverse_perm ts)]
theorem mkWeb_tok {n : Nat} {ts : List Tie} (t : TOk n ts) (h : n ≤ 100) : mkWeb n ts = some (nbs n (eOf ts)) := by
  have z := tok_len t
  have z2 : n * n ≤ 100 * 100 := Nat.mul_le_mul h h
  exact mkWeb_ok t h (by omega)
/-! ### what hangs together -/
inductive Conn (e : Rel) : Nat → Nat → Prop where
  | refl (u : Nat) : Conn e u u
  | step {u v w : Nat} : Conn e u v → e v w = true → Conn e u w
section
variable {e : Rel} {n : Nat} {u v w : Nat}
theorem Conn.trans (h : Conn e u v) (k : Conn e v w) : Conn e u w := by
  induction k with
  | refl => exact h
  | step _ q ih => exact .step ih q
theorem Conn.one (h : e u v = true) : Conn e u v := .step (.refl u) h
theorem Conn.symm (g : Gr n e) (h : Conn e u v) : Conn e v u := by
  induction h with
  | refl => exact .refl _
  | step _ q ih => exact (Conn.one (by rw [g.sym]; exact q)).trans ih
theorem Conn.lt (g : Gr n e) (h : Conn e u v) (hu : u < n) : v < n := by
  cases h with
  | refl => exact hu
  | step _ q => exact g.lt2 q
theorem min_ex (e : Rel) (u : Nat) : ∃ m, Conn e u m ∧ ∀ v, Conn e u v → m ≤ v := by
  have h : ∀ k, ∀ v, v ≤ k → Conn e u v → ∃ m, Conn e u m ∧ ∀ v, Conn e u v → m ≤ v := by
    intro k
    induction k with
    | zero =>
      intro v hv c
      exact ⟨v, c, fun x _ => by omega⟩
    | succ k ih =>
      intro v hv c
      by_cases q : ∃ x, Conn e u x ∧ x < v
      · obtain ⟨x, hx, hl⟩ := q
        exact ih x (by omega) hx
      · refine ⟨v, c, fun x hx => ?_⟩
        by_cases z : v ≤ x
        · exact z
        · exact absurd ⟨x, hx, by omega⟩ q
  exact h u u (Nat.le_refl _) (.refl u)
/-- the least place that hangs together with u -/
noncomputable def mn (e : Rel) (u : Nat) : Nat := Classical.choose (min_ex e u)
theorem mn_conn : Conn e u (mn e u) := (Classical.choose_spec (min_ex e u)).1
theorem mn_le (h : Conn e u v) : mn e u ≤ v := (Classical.choose_spec (min_ex e u)).2 v h
theorem mn_self : mn e u ≤ u := mn_le (.refl u)
theorem mn_eq (g : Gr n e) (h : Conn e u v) : mn e u = mn e v :=
  Nat.le_antisymm (mn_le (h.trans mn_conn)) (mn_le ((h.symm g).trans mn_conn))
theorem conn_iff (g : Gr n e) : Conn e u v ↔ mn e u = mn e v := by
  constructor
  · exact mn_eq g
  · intro h
    have a : Conn e u (mn e u) := mn_conn
    rw [h] at a
    exact a.trans (mn_conn.symm g)
theorem mn_mn (g : Gr n e) : mn e (mn e u) = mn e u := (mn_eq g mn_conn).symm
theorem mn_mn' : mn e (mn e v) = mn e v := by
  have a : mn e (mn e v) ≤ mn e v := mn_self
  have b : mn e v ≤ mn e (mn e v) := mn_le (mn_conn.trans mn_conn)
  omega
/-- the parts, by their least places -/
noncomputable def heads (n : Nat) (e : Rel) (k : Nat) : List Nat := (List.range k).filter fun h => mn e h == h
noncomputable def cls (n : Nat) (e : Rel) (h : Nat) : List Nat := (List.range n).filter fun v => mn e v == h
noncomputable def partsOf (n : Nat) (e : Rel) : List (List Nat) := (heads n e n).map (cls n e)
theorem cls_pw (n : Nat) (e : Rel) (h : Nat) : (cls n e h).Pairwise (· < ·) := List.Pairwise.filter _ List.pairwise_lt_range
theorem mem_cls {h : Nat} : v ∈ cls n e h ↔ v < n ∧ mn e v = h := by
  unfold cls
  rw [List.mem_filter, List.mem_range, beq_iff_eq]
theorem heads_yes {k : Nat} (h : mn e k = k) : heads n e (k + 1) = heads n e k ++ [k] := by
  unfold heads
  rw [List.range_succ, List.filter_append, List.filter_cons_of_pos (by rw [beq_iff_eq]; exact h)]
  rfl
theorem heads_no {k : Nat} (h : mn e k ≠ k) : heads n e (k + 1) = heads n e k := by
  unfold heads
  rw [List.range_succ, List.filter_append, List.filter_cons_of_neg (by rw [beq_iff_eq]; exact h), List.filter_nil, List.append_nil]
/-- a list closed under ties that begins at h is its part -/
theorem closed_cls (g : Gr n e) {h : Nat} (hn : h < n) (hm : mn e h = h) {l : List Nat} (hh : h ∈ l) (hl : ∀ x ∈ l, Conn e h x) (hc : ∀ x ∈ l, ∀ y, e x y = true → y ∈ l) (v : Nat) : v ∈ l ↔ v ∈ cls n e h := by
  rw [mem_cls]
  constructor
  · intro hv
    have c := hl v hv
    exact ⟨c.lt g hn, by rw [← mn_eq g c, hm]⟩
  · rintro ⟨hvn, q⟩
    have c : Conn e h v := (conn_iff g).mpr (by rw [hm, q])
    clear q hvn
    induction c with
    | refl => exact hh
    | step c' q ih => exact hc _ ih _ q
end
/-! ### spreading the least place over the ties -/
theorem cnt_lt {α : Type} {p q : α → Bool} {l : List α} (h : ∀ x ∈ l, p x = true → q x = true) {x : α} (hx : x ∈ l) (hp : p x = false) (hq : q x = true) : l.countP p < l.countP q := by
  induction l with
  | nil => cases hx
  | cons a r ih =>
    rw [List.countP_cons, List.countP_cons]
    have le : r.countP p ≤ r.countP q := List.countP_mono_left fun y hy => h y (List.mem_cons_of_mem _ hy)
    rcases List.mem_cons.mp hx with rfl | hx
    · rw [hp, hq]
      simp
      omega
    · have := ih (fun y hy => h y (List.mem_cons_of_mem _ hy)) hx
      have ha := h a (List.mem_cons_self ..)
      cases pa : p a
      · simp; omega
      · rw [ha pa]
        simp
        omega
/-- one tie -/
def sp1 (l : List Nat) (p : Tie) : List Nat := (l.set p.1 (min (l.getD p.1 0) (l.getD p.2 0))).set p.2 (min (l.getD p.1 0) (l.getD p.2 0))
def spread (l : List Nat) (ps : List Tie) : List Nat := ps.foldl sp1 l
theorem sp1_len (l : List Nat) (p : Tie) : (sp1 l p).length = l.length := by unfold sp1; rw [List.length_set, List.length_set]
theorem spread_len (ps : List Tie) : ∀ l : List Nat, (spread l ps).length = l.length := by
  induction ps with
  | nil => intro l; rfl
  | cons p r ih => intro l; show (spread (sp1 l p) r).length = _; rw [ih, sp1_len]
theorem getD_set {l : List Nat} {i j x : Nat} (h : i < l.length) : (l.set i x).getD j 0 = if i = j then x else l.getD j 0 := by
  rw [List.getD_eq_getElem?_getD, List.getD_eq_getElem?_getD, List.getElem?_set]
  by_cases q : i = j
  · rw [if_pos q, if_pos q, if_pos h]
    rfl
  · rw [if_neg q, if_neg q]
theorem sp1_at {l : List Nat} {p : Tie} (h1 : p.1 < l.length) (h2 : p.2 < l.length) (j : Nat) : (sp1 l p).getD j 0 = if j = p.1 ∨ j = p.2 then min (l.getD p.1 0) (l.getD p.2 0) else l.getD j 0 := by
  unfold sp1
  rw [getD_set (by rw [List.length_set]; exact h2), getD_set h1]
  by_cases q2 : p.2 = j
  · rw [if_pos q2, if_pos (.inr q2.symm)]
  · rw [if_neg q2]
    by_cases q1 : p.1 = j
    · rw [if_pos q1, if_pos (.inl q1.symm)]
    · rw [if_neg q1, if_neg]
      rintro (z | z)
      · exact q1 z.symm
      · exact q2 z.symm
/-- what is kept: each number hangs together with its place and is no greater -/
structure Lst (n : Nat) (e : Rel) (l : List Nat) : Prop where
  len : l.length = n
  co : ∀ u, u < n → Conn e u (l.getD u 0)
  le : ∀ u, u < n → l.getD u 0 ≤ u
section
variable {n : Nat} {e : Rel} {ps : List Tie}
theorem Lst.ge {l : List Nat} (h : Lst n e l) {u : Nat} (hu : u < n) : mn e u ≤ l.getD u 0 := mn_le (h.co u hu)
theorem Lst.sp1 {l : List Nat} {p : Tie} (g : Gr n e) (h : Lst n e l) (hp : e p.1 p.2 = true) : Lst n e (sp1 l p) := by
  have h1 := g.lt _ _ hp
  have h2 := g.lt2 hp
  refine ⟨by rw [sp1_len, h.len], fun u hu => ?_, fun u hu => Nat.le_trans (by
    rw [sp1_at (by rw [h.len]; exact h1) (by rw [h.len]; exact h2)]
    split
    · rename_i q
      rcases q with rfl | rfl
      · exact Nat.min_le_left _ _
      · exact Nat.min_le_right _ _
    · exact Nat.le_refl _) (h.le u hu)⟩
  rw [sp1_at (by rw [h.len]; exact h1) (by rw [h.len]; exact h2)]
  have c1 := h.co _ h1
  have c2 := h.co _ h2
  have c12 : Conn e p.1 p.2 := .one hp
  split
  · rename_i q
    have key : Conn e p.1 (min (l.getD p.1 0) (l.getD p.2 0)) := by
      rcases Nat.le_total (l.getD p.1 0) (l.getD p.2 0) with z | z
      · rw [Nat.min_eq_left z]; exact c1
      · rw [Nat.min_eq_right z]; exact c12.trans c2
    rcases q with rfl | rfl
    · exact key
    · exact (c12.symm g).trans key
  · exact h.co u hu
theorem sp1_le {l : List Nat} {p : Tie} (h1 : p.1 < l.length) (h2 : p.2 < l.length) (j : Nat) : (OC.sp1 l p).getD j 0 ≤ l.getD j 0 := by
  rw [sp1_at h1 h2]
  split
  · rename_i q
    rcases q with rfl | rfl
    · exact Nat.min_le_left _ _
    · exact Nat.min_le_right _ _
  · exact Nat.le_refl _
theorem spread_ok (g : Gr n e) : ∀ {qs : List Tie}, (∀ p ∈ qs, e p.1 p.2 = true) → ∀ {l : List Nat}, Lst n e l → Lst n e (spread l qs) ∧ ∀ j, (spread l qs).getD j 0 ≤ l.getD j 0
  | [], _, l, h => ⟨h, fun _ => Nat.le_refl _⟩
  | p :: r, hq, l, h => by
    have hp := hq p (List.mem_cons_self ..)
    obtain ⟨a, b⟩ := spread_ok g (fun x hx => hq x (List.mem_cons_of_mem _ hx)) (h.sp1 g hp)
    exact ⟨a, fun j => Nat.le_trans (b j) (sp1_le (by rw [h.len]; exact g.lt _ _ hp) (by rw [h.len]; exact g.lt2 hp) j)⟩
/-- behind the round both ends of a tie are no greater than each was before -/
theorem spread_tie (g : Gr n e) : ∀ {qs : List Tie}, (∀ p ∈ qs, e p.1 p.2 = true) → ∀ {l : List Nat}, Lst n e l → ∀ p ∈ qs, (spread l qs).getD p.1 0 ≤ l.getD p.2 0 ∧ (spread l qs).getD p.2 0 ≤ l.getD p.1 0
  | p :: r, hq, l, h, q, hm => by
    have hp := hq p (List.mem_cons_self ..)
    have h1 : p.1 < l.length := by rw [h.len]; exact g.lt _ _ hp
    have h2 : p.2 < l.length := by rw [h.len]; exact g.lt2 hp
    have hr : ∀ x ∈ r, e x.1 x.2 = true := fun x hx => hq x (List.mem_cons_of_mem _ hx)
    rcases List.mem_cons.mp hm with rfl | hm
    · obtain ⟨_, b⟩ := spread_ok g hr (h.sp1 g hp)
      have a1 := sp1_at h1 h2 q.1
      have a2 := sp1_at h1 h2 q.2
      rw [if_pos (.inl rfl)] at a1
      rw [if_pos (.inr rfl)] at a2
      have b1 := b q.1
      have b2 := b q.2
      rw [a1] at b1
      rw [a2] at b2
      exact ⟨Nat.le_trans b1 (Nat.min_le_right _ _), Nat.le_trans b2 (Nat.min_le_left _ _)⟩
    · obtain ⟨a, b⟩ := spread_tie g hr (h.sp1 g hp) q hm
      exact ⟨Nat.le_trans a (sp1_le h1 h2 _), Nat.le_trans b (sp1_le h1 h2 _)⟩
/-- done: each place has the least one -/
def Done (n : Nat) (e : Rel) (l : List Nat) : Prop := ∀ u, u < n → l.getD u 0 = mn e u
theorem done_of_stable (g : Gr n e) (hall : ∀ u v, e u v = true → (u, v) ∈ ps ∨ (v, u) ∈ ps) (hq : ∀ p ∈ ps, e p.1 p.2 = true) {l : List Nat} (h : Lst n e l) (st : spread l ps = l) : Done n e l := by
  intro u hu
  have key : ∀ u v, e u v = true → l.getD u 0 = l.getD v 0 := by
    intro u v q
    rcases hall u v q with m | m
    · have t := spread_tie g hq h _ m
      rw [st] at t
      simp only at t
      omega
    · have t := spread_tie g hq h _ m
      rw [st] at t
      simp only at t
      omega
  have all : ∀ v, Conn e u v → l.getD u 0 = l.getD v 0 := by
    intro v c
    induction c with
    | refl => rfl
    | step _ q ih => rw [ih]; exact key _ _ q
  have c := (mn_conn (e := e) (u := u))
  have a := all _ c
  have b := h.ge hu
  have lt := c.lt g hu
  have d : l.getD (mn e u) 0 ≤ mn e u := h.le _ lt
  omega
/-- how many places have the least one -/
noncomputable def nDone (n : Nat) (e : Rel) (l : List Nat) : Nat := (List.range n).countP fun u => l.getD u 0 == mn e u
theorem done_step (g : Gr n e) (hall : ∀ u v, e u v = true → (u, v) ∈ ps ∨ (v, u) ∈ ps) (hq : ∀ p ∈ ps, e p.1 p.2 = true) {l : List Nat} (h : Lst n e l) : Done n e l ∨ nDone n e l < nDone n e (spread l ps) := by
  by_cases d : Done n e l
  · exact .inl d
  refine .inr ?_
  obtain ⟨u, hu⟩ := Classical.not_forall.mp d
  obtain ⟨hun, hne⟩ := Classical.not_imp.mp hu
  have h2 := spread_ok g hq h
  have c : Conn e (mn e u) u := (mn_conn (e := e) (u := u)).symm g
  have root : l.getD (mn e u) 0 = mn e (mn e u) := by
    have lt := (mn_conn (e := e) (u := u)).lt g hun
    have a := h.le _ lt
    have b := h.ge lt
    rw [mn_mn g] at b ⊢
    omega
  have ex : ∃ x y, e x y = true ∧ l.getD x 0 = mn e x ∧ l.getD y 0 ≠ mn e y := by
    generalize hr : mn e u = r at c root
    clear hu hr d
    induction c with
    | refl => exact absurd root hne
    | @step v w c' q ih =>
      by_cases z : l.getD v 0 = mn e v
      · exact ⟨v, w, q, z, hne⟩
      · exact ih (g.lt _ _ q) z
  obtain ⟨x, y, q, hx, hy⟩ := ex
  have hyn := g.lt2 q
  refine cnt_lt (x := y) (fun v hv hp => ?_) (List.mem_range.mpr hyn) (by rw [beq_eq_false_iff_ne]; exact hy) ?_
  · rw [beq_iff_eq] at hp ⊢
    have a := h2.1.ge (List.mem_range.mp hv)
    have b := h2.2 v
    omega
  · rw [beq_iff_eq]
    have a := h2.1.ge hyn
    have e1 : mn e x = mn e y := mn_eq g (.one q)
    rcases hall x y q with m | m
    · have t := (spread_tie g hq h _ m).2
      simp only at t
      omega
    · have t := (spread_tie g hq h _ m).1
      simp only at t
      omega
theorem done_all {l : List Nat} (h : n ≤ nDone n e l) : Done n e l := by
  intro u hu
  have a : nDone n e l ≤ n := by
    have := List.countP_le_length (p := fun u => l.getD u 0 == mn e u) (l := List.range n)
    rw [List.length_range] at this
    exact this
  have b : (List.range n).countP (fun u => l.getD u 0 == mn e u) = (List.range n).length := by
    rw [List.length_range]
    show nDone n e l = n
    omega
  have c := List.countP_eq_length.mp b u (List.mem_range.mpr hu)
  exact beq_iff_eq.mp c
theorem done_spread (g : Gr n e) (hq : ∀ p ∈ ps, e p.1 p.2 = true) {l : List Nat} (h : Lst n e l) (d : Done n e l) : Done n e (spread l ps) := by
  intro u hu
  have h2 := spread_ok g hq h
  have a := h2.1.ge hu
  have b := h2.2 u
  rw [d u hu] at b
  omega
end
/-! ### the leaves struck, one by one: in plain Lean -/
/-- ties to places that are not struck yet; none at a struck one -/
def cnt (n : Nat) (e : Rel) (S : List Nat) (v : Nat) : Nat := if v ∈ S then 0 else (nb n e v).countP fun w => decide (w ∉ S)
def cnts (n : Nat) (e : Rel) (S : List Nat) : List Nat := (List.range n).map (cnt n e S)
def leaves (n : Nat) (e : Rel) (S : List Nat) : List Nat := (List.range n).filter fun v => cnt n e S v == 1
/-- what is struck next, as long as there is a leaf -/
def strike (n : Nat) (e : Rel) : Nat → List Nat → List Nat
  | 0, S => S
  | k + 1, S => match leaves n e S with
    | [] => S
    | a :: _ => strike n e k (S ++ [a])
def struck (n : Nat) (e : Rel) : List Nat := strike n e n []
def rest (n : Nat) (S : List Nat) : List Nat := (List.range n).filter fun v => decide (v ∉ S)
/-- one less -/
def dec1 (l : List Nat) (v : Nat) : List Nat := l.set v (l.getD v 0 - 1)
theorem cnts_len (n : Nat) (e : Rel) (S : List Nat) : (cnts n e S).length = n := by unfold cnts; rw [List.length_map, List.length_range]
theorem cnts_at {n : Nat} {e : Rel} {S : List Nat} {v : Nat} (h : v < n) : (cnts n e S)[v]? = some (cnt n e S v) := by
  unfold cnts
  rw [List.getElem?_map, List.getElem?_range h]
  rfl
theorem dec1_len (l : List Nat) (v : Nat) : (dec1 l v).length = l.length := by unfold dec1; rw [List.length_set]
theorem dec_len (ns : List Nat) : ∀ l : List Nat, (ns.foldl dec1 l).length = l.length := by
  induction ns with
  | nil => intro l; rfl
  | cons a r ih => intro l; show (r.foldl dec1 (dec1 l a)).length = _; rw [ih, dec1_len]
theorem dec1_getD (l : List Nat) (v w : Nat) : (dec1 l v).getD w 0 = if w = v then l.getD w 0 - 1 else l.getD w 0 := by
  unfold dec1
  simp only [List.getD_eq_getElem?_getD, List.getElem?_set]
  by_cases h : v = w
  · subst h
    rw [if_pos rfl, if_pos rfl]
    split
    · simp
    · rename_i q
      rw [List.getElem?_eq_none (by omega)]
      rfl
  · rw [if_neg h, if_neg (fun z => h z.symm)]
theorem dec_getD (ns : List Nat) (nd : ns.Nodup) : ∀ (l : List Nat) (w : Nat), (ns.foldl dec1 l).getD w 0 = if w ∈ ns then l.getD w 0 - 1 else l.getD w 0 := by
  induction ns with
  | nil => intro l w; simp
  | cons a r ih =>
    intro l w
    obtain ⟨na, nd'⟩ := List.nodup_cons.mp nd
    show (r.foldl dec1 (dec1 l a)).getD w 0 = _
    rw [ih nd', dec1_getD]
    by_cases h : w = a
    · subst h
      rw [if_neg na, if_pos rfl, if_pos (List.mem_cons_self ..)]
    · rw [if_neg h]
      by_cases h2 : w ∈ r
      · rw [if_pos h2, if_pos (List.mem_cons_of_mem _ h2)]
      · rw [if_neg h2, if_neg (by simp [h, h2])]
theorem countP_one {l : List Nat} (nd : l.Nodup) {p q : Nat → Bool} {a : Nat} (ha : a ∈ l) (pa : p a = true) (qa : q a = false) (h : ∀ x, x ≠ a → p x = q x) : l.countP q + 1 = l.countP p := by
  induction l with
  | nil => cases ha
  | cons b r ih =>
    obtain ⟨nb, nd'⟩ := List.nodup_cons.mp nd
    rw [List.countP_cons, List.countP_cons]
    rcases List.mem_cons.mp ha with rfl | ha
    · have e : r.countP q = r.countP p := List.countP_congr fun x hx => by rw [h x (fun z => nb (z ▸ hx))]
      rw [e, pa, qa]
      simp
    · have := ih nd' ha
      have hb := h b (fun z => nb (z ▸ ha))
      rw [hb]
      omega
theorem cnts_step {n : Nat} {e : Rel} (g : Gr n e) {S : List Nat} {a : Nat} (ha : a < n) (hS : a ∉ S) : (nb n e a).foldl dec1 ((cnts n e S).set a 0) = cnts n e (S ++ [a]) := by
  refine List.ext_getElem? fun v => ?_
  by_cases hv : v < n
  · have z : v < ((nb n e a).foldl dec1 ((cnts n e S).set a 0)).length := by rw [dec_len, List.length_set, cnts_len]; exact hv
    have e1 : ((nb n e a).foldl dec1 ((cnts n e S).set a 0))[v]? = some (((nb n e a).foldl dec1 ((cnts n e S).set a 0)).getD v 0) := by
      rw [List.getD_eq_getElem?_getD, List.getElem?_eq_getElem z]
      rfl
    rw [e1, cnts_at hv, dec_getD _ (nodup_of_lt (nb_pw _ _ _))]
    congr 1
    have e2 : ((cnts n e S).set a 0).getD v 0 = if v = a then 0 else cnt n e S v := by
      rw [List.getD_eq_getElem?_getD, List.getElem?_set]
      by_cases h : a = v
      · rw [if_pos h, if_pos h.symm, if_pos (by rw [cnts_len]; exact ha)]
        rfl
      · rw [if_neg h, if_neg (fun z => h z.symm), cnts_at hv]
        rfl
    rw [e2]
    by_cases h : v = a
    · subst h
      rw [if_pos rfl]
      have : cnt n e (S ++ [v]) v = 0 := by unfold cnt; rw [if_pos (by simp)]
      rw [this]
      split <;> rfl
    · rw [if_neg h]
      by_cases hs : v ∈ S
      · have c0 : cnt n e S v = 0 := by unfold cnt; rw [if_pos hs]
        have c1 : cnt n e (S ++ [a]) v = 0 := by unfold cnt; rw [if_pos (List.mem_append_left _ hs)]
        rw [c0, c1]
        split <;> rfl
      · have hs' : v ∉ S ++ [a] := by
          intro q
          rcases List.mem_append.mp q with q | q
          · exact hs q
          · exact h (List.mem_singleton.mp q)
        have c0 : cnt n e S v = (nb n e v).countP fun w => decide (w ∉ S) := by unfold cnt; rw [if_neg hs]
        have c1 : cnt n e (S ++ [a]) v = (nb n e v).countP fun w => decide (w ∉ S ++ [a]) := by unfold cnt; rw [if_neg hs']
        rw [c0, c1]
        by_cases hm : v ∈ nb n e a
        · rw [if_pos hm]
          have am : a ∈ nb n e v := mem_nb.mpr ⟨ha, by rw [g.sym]; exact (mem_nb.mp hm).2⟩
          have := countP_one (nodup_of_lt (nb_pw n e v)) (p := fun w => decide (w ∉ S)) (q := fun w => decide (w ∉ S ++ [a])) am (by simpa using hS) (by simp) (fun x hx => by
            rw [Bool.eq_iff_iff, decide_eq_true_eq, decide_eq_true_eq, List.mem_append, List.mem_singleton]
            exact ⟨fun q r => r.elim q hx, fun q r => q (.inl r)⟩)
          omega
        · rw [if_neg hm]
          refine List.countP_congr fun x hx => ?_
          have xa : x ≠ a := fun z => by
            subst z
            exact hm (mem_nb.mpr ⟨hv, by rw [g.sym]; exact (mem_nb.mp hx).2⟩)
          rw [decide_eq_true_eq, decide_eq_true_eq, List.mem_append, List.mem_singleton]
          exact ⟨fun q r => r.elim q xa, fun q r => q (.inl r)⟩
  · rw [List.getElem?_eq_none (by rw [dec_len, List.length_set, cnts_len]; omega), List.getElem?_eq_none (by rw [cnts_len]; omega)]
/-- a leaf is a place that is not struck -/
theorem leaf_ok {n : Nat} {e : Rel} {S : List Nat} {a : Nat} (h : a ∈ leaves n e S) : a < n ∧ a ∉ S ∧ cnt n e S a = 1 := by
  unfold leaves at h
  rw [List.mem_filter, List.mem_range, beq_iff_eq] at h
  refine ⟨h.1, fun q => ?_, h.2⟩
  have := h.2
  unfold cnt at this
  rw [if_pos q] at this
  cases this
theorem leaf_first {n : Nat} {e : Rel} {S r : List Nat} {a : Nat} (h : leaves n e S = a :: r) : ∀ v, v < a → cnt n e S v ≠ 1 := by
  intro v hv hc
  have ha := (leaf_ok (h ▸ List.mem_cons_self .. : a ∈ leaves n e S)).1
  have hm : v ∈ leaves n e S := by
    unfold leaves
    rw [List.mem_filter, List.mem_range, beq_iff_eq]
    exact ⟨by omega, hc⟩
  have pw : (leaves n e S).Pairwise (· < ·) := List.Pairwise.filter _ List.pairwise_lt_range
  rw [h] at hm pw
  rcases List.mem_cons.mp hm with q | q
  · omega
  · have := (List.pairwise_cons.mp pw).1 v q
    omega
/-- places struck so far: each the first leaf -/
structure Str1 (n : Nat) (e : Rel) (S : List Nat) : Prop where
  nd : S.Nodup
  lt : ∀ v ∈ S, v < n
  st : ∀ (i : Nat) (a : Nat), S[i]? = some a → ∃ r, leaves n e (S.take i) = a :: r
theorem Str1.nil (n : Nat) (e : Rel) : Str1 n e [] := ⟨List.nodup_nil, by simp, fun i a h => by simp at h⟩
theorem Str1.step {n : Nat} {e : Rel} {S r : List Nat} {a : Nat} (s : Str1 n e S) (h : leaves n e S = a :: r) : Str1 n e (S ++ [a]) := by
  obtain ⟨h1, h2, _⟩ := leaf_ok (h ▸ List.mem_cons_self .. : a ∈ leaves n e S)
  refine ⟨List.nodup_append.mpr ⟨s.nd, by simp, fun x hx y hy => by rw [List.mem_singleton.mp hy]; exact fun z => h2 (z ▸ hx)⟩, fun v hv => ?_, fun i b hb => ?_⟩
  · rcases List.mem_append.mp hv with q | q
    · exact s.lt v q
    · rw [List.mem_singleton.mp q]; exact h1
  · by_cases hi : i < S.length
    · rw [List.getElem?_append_left hi] at hb
      rw [List.take_append_of_le_length (by omega)]
      exact s.st i b hb
    · have hl := (List.getElem?_eq_some_iff.mp hb).1
      rw [List.length_append] at hl
      have ei : i = S.length := by
        have : [a].length = 1 := rfl
        omega
      subst ei
      rw [List.getElem?_append_right (Nat.le_refl _), Nat.sub_self] at hb
      cases hb
      rw [List.take_append_of_le_length (Nat.le_refl _), List.take_length]
      exact ⟨r, h⟩
theorem Str1.len {n : Nat} {e : Rel} {S : List Nat} (s : Str1 n e S) : S.length ≤ n := nodup_le s.nd s.lt
/-- the two ways to tell the end agree -/
theorem strike_of {n : Nat} {e : Rel} : ∀ (k : Nat) (S T : List Nat), Str1 n e (S ++ T) → T.length ≤ k → leaves n e (S ++ T) = [] → strike n e k S = S ++ T
  | 0, S, T, _, hk, _ => by
    have : T = [] := List.eq_nil_of_length_eq_zero (by omega)
    subst this
    rw [List.append_nil]
    rfl
  | k + 1, S, [], _, _, h => by
    rw [List.append_nil] at h ⊢
    show (match leaves n e S with | [] => S | a :: _ => strike n e k (S ++ [a])) = S
    rw [h]
  | k + 1, S, a :: T, s, hk, h => by
    obtain ⟨r, hr⟩ := s.st S.length a (by rw [List.getElem?_append_right (Nat.le_refl _), Nat.sub_self]; rfl)
    rw [List.take_append_of_le_length (Nat.le_refl _), List.take_length] at hr
    show (match leaves n e S with | [] => S | a :: _ => strike n e k (S ++ [a])) = S ++ a :: T
    rw [hr]
    have e2 : S ++ a :: T = (S ++ [a]) ++ T := by simp
    rw [e2] at s h ⊢
    exact strike_of k (S ++ [a]) T s (by simpa using hk) h
theorem Str1.done {n : Nat} {e : Rel} {S : List Nat} (s : Str1 n e S) (h : leaves n e S = []) : S = struck n e := by
  have := strike_of n [] S s s.len h
  exact this.symm
theorem strike_ok {n : Nat} {e : Rel} : ∀ (k : Nat) (S : List Nat), Str1 n e S → n ≤ S.length + k → Str1 n e (strike n e k S) ∧ leaves n e (strike n e k S) = []
  | 0, S, s, h => by
    refine ⟨s, ?_⟩
    show leaves n e S = []
    cases q : leaves n e S with
    | nil => rfl
    | cons a r =>
      have := (s.step q).len
      rw [List.length_append] at this
      have z : [a].length = 1 := rfl
      omega
  | k + 1, S, s, h => by
    show Str1 n e (match leaves n e S with | [] => S | a :: _ => strike n e k (S ++ [a])) ∧ leaves n e (match leaves n e S with | [] => S | a :: _ => strike n e k (S ++ [a])) = []
    cases q : leaves n e S with
    | nil => exact ⟨s, q⟩
    | cons a r => exact strike_ok k (S ++ [a]) (s.step q) (by rw [List.length_append]; show n ≤ S.length + 1 + k; omega)
theorem struck_ok (n : Nat) (e : Rel) : Str1 n e (struck n e) ∧ leaves n e (struck n e) = [] := strike_ok n [] (Str1.nil n e) (by show n ≤ 0 + n; omega)
theorem not_one {n : Nat} {e : Rel} {S : List Nat} (h : leaves n e S = []) : 1 ∉ cnts n e S := by
  intro q
  unfold cnts at q
  obtain ⟨v, hv, e1⟩ := List.mem_map.mp q
  have : v ∈ leaves n e S := by
    unfold leaves
    rw [List.mem_filter, beq_iff_eq]
    exact ⟨hv, e1⟩
  rw [h] at this
  cases this
theorem first_one {n : Nat} {e : Rel} {S r : List Nat} {a : Nat} (h : leaves n e S = a :: r) : 1 ∉ (cnts n e S).take a := by
  intro q
  obtain ⟨i, hi⟩ := List.mem_iff_getElem?.mp q
  rw [List.getElem?_take] at hi
  by_cases c : i < a
  · rw [if_pos c] at hi
    have an := (leaf_ok (h ▸ List.mem_cons_self .. : a ∈ leaves n e S)).1
    rw [cnts_at (by omega)] at hi
    exact leaf_first h i c (Option.some.inj hi)
  · rw [if_neg c] at hi
    cases hi
/-- while a part grows -/
structure Grow (n : Nat) (e : Rel) (i : Nat) (S ns : List Nat) (a : Nat) : Prop where
  nd : (S ++ ns).Nodup
  hd : i ∈ ns
  co : ∀ x ∈ ns, Conn e i x
  le : a ≤ ns.length
  cl : ∀ (j : Nat) (x : Nat), j < a → ns[j]? = some x → ∀ y, e x y = true → y ∈ ns
theorem Grow.len {n : Nat} {e : Rel} {i a : Nat} {S ns : List Nat} (G : Grow n e i S ns a) (g : Gr n e) (hi : i < n) (hS : ∀ x ∈ S, x < n) : (S ++ ns).length ≤ n := nodup_le G.nd fun x hx => by
  rcases List.mem_append.mp hx with h | h
  · exact hS x h
  · exact (G.co x h).lt g hi
theorem Grow.app {n : Nat} {e : Rel} {i a v x : Nat} {S ns : List Nat} (G : Grow n e i S ns a) (hx : x ∈ ns) (hv : e x v = true) (hn : v ∉ S ++ ns) : Grow n e i S (ns ++ [v]) a where
  nd := by
    rw [← List.append_assoc]
    exact List.nodup_append.mpr ⟨G.nd, by simp, fun y hy z hz => by rw [List.mem_singleton.mp hz]; exact fun q => hn (q ▸ hy)⟩
  hd := List.mem_append_left _ G.hd
  co := fun y hy => by
    rcases List.mem_append.mp hy with h | h
    · exact G.co y h
    · rw [List.mem_singleton.mp h]
      exact .step (G.co x hx) hv
  le := by
    rw [List.length_append]
    exact Nat.le_trans G.le (Nat.le_add_right _ _)
  cl := fun j y hj h z hz => by
    have := G.le
    rw [List.getElem?_append_left (by omega)] at h
    exact List.mem_append_left _ (G.cl j y hj h z hz)
/-- the places seen ahead of place i: those of earlier parts -/
structure Seen (n : Nat) (e : Rel) (i : Nat) (S : List Nat) : Prop where
  nd : S.Nodup
  mem : ∀ v, v ∈ S ↔ v < n ∧ mn e v < i
theorem Seen.start {n : Nat} {e : Rel} {i : Nat} {S : List Nat} (s : Seen n e i S) (hi : i < n) (h : i ∉ S) : mn e i = i ∧ Grow n e i S [i] 0 := by
  have a := mn_self (e := e) (u := i)
  have b : ¬ mn e i < i := fun z => h ((s.mem i).mpr ⟨hi, z⟩)
  refine ⟨by omega, ⟨?_, by simp, fun x hx => by rw [List.mem_singleton.mp hx]; exact .refl i, Nat.zero_le _, fun j x hj => absurd hj (Nat.not_lt_zero _)⟩⟩
  exact List.nodup_append.mpr ⟨s.nd, by simp, fun x hx y hy => by rw [List.mem_singleton.mp hy]; exact fun z => h (z ▸ hx)⟩
theorem Seen.done {n : Nat} {e : Rel} {i : Nat} {S ns : List Nat} (g : Gr n e) (s : Seen n e i S) (hi : i < n) (hm : mn e i = i) (G : Grow n e i S ns ns.length) : (∀ v, v ∈ ns ↔ v ∈ cls n e i) ∧ Seen n e (i + 1) (S ++ ns) := by
  have h1 : ∀ v, v ∈ ns ↔ v ∈ cls n e i := closed_cls g hi hm G.hd G.co fun x hx y hy => by
    obtain ⟨j, hj⟩ := List.mem_iff_getElem?.mp hx
    exact G.cl j x (List.getElem?_eq_some_iff.mp hj).1 hj y hy
  refine ⟨h1, G.nd, fun v => ?_⟩
  rw [List.mem_append, s.mem, h1, mem_cls]
  omega
theorem Seen.skip {n : Nat} {e : Rel} {i : Nat} {S : List Nat} (s : Seen n e i S) (h : i ∈ S) : mn e i ≠ i ∧ Seen n e (i + 1) S := by
  have a := (s.mem i).mp h
  have ne : mn e i ≠ i := by omega
  refine ⟨ne, s.nd, fun v => ?_⟩
  rw [s.mem]
  constructor
  · rintro ⟨b, c⟩
    exact ⟨b, by omega⟩
  · rintro ⟨b, c⟩
    refine ⟨b, ?_⟩
    by_cases z : mn e v = i
    · have := mn_mn' (e := e) (v := v)
      rw [z] at this
      exact absurd this ne
    · omega
theorem asc_srt {l : List Nat} (nd : l.Nodup) : (srtN l).Pairwise (· < ·) := ((srtN_le l).and ((srtN_perm l).nodup_iff.mpr nd)).imp fun h => by omega
/-! ### what a dict of numbers answers -/
theorem dget_put {β : Type} {d : List (Nat × β)} {k j : Nat} {v : β} : dget (dput d k v) j = if k = j then some v else dget d j := by
  have key : ∀ (d : List (Nat × β)) (f : Nat × β → Nat × β), (∀ p, (f p).1 = p.1) → ∀ j, (dget (d.map f) j).isSome = (dget d j).isSome := fun d f hf j => by
    induction d with
    | nil => rfl
    | cons p d ih =>
      rw [List.map_cons]
      show (if (f p).1 = j then some (f p).2 else dget (d.map f) j).isSome = (if p.1 = j then some p.2 else dget d j).isSome
      rw [hf]
      split
      · rfl
      · exact ih
  unfold dput
  split
  · rename_i c
    induction d with
    | nil => simp at c
    | cons p d ih =>
      rw [List.map_cons]
      by_cases e : p.1 = k
      · rw [if_pos e]
        show (if p.1 = j then some v else dget (d.map _) j) = if k = j then some v else if p.1 = j then some p.2 else dget d j
        rw [e]
        split
        · rfl
        · by_cases c2 : (d.any fun p => decide (p.1 = k)) = true
          · rename_i hj
            rw [ih c2, if_neg hj]
          · rename_i hj
            have : d.map (fun p => if p.1 = k then (p.1, v) else p) = d := by
              have c3 : ∀ q ∈ d, ¬ q.1 = k := fun q hq z => c2 (List.any_eq_true.mpr ⟨q, hq, decide_eq_true z⟩)
              clear c ih c2
              induction d with
              | nil => rfl
              | cons q d ih => rw [List.map_cons, if_neg (c3 q (List.mem_cons_self ..)), ih fun x hx => c3 x (List.mem_cons_of_mem _ hx)]
            rw [this]
      · rw [if_neg e]
        show (if p.1 = j then some p.2 else dget (d.map _) j) = if k = j then some v else if p.1 = j then some p.2 else dget d j
        have c2 : (d.any fun p => decide (p.1 = k)) = true := by
          rw [List.any_cons, decide_eq_false e, Bool.false_or] at c
          exact c
        rw [ih c2]
        by_cases h1 : p.1 = j
        · rw [if_pos h1, if_pos h1, if_neg (fun z => e (by rw [h1, z]))]
        · rw [if_neg h1, if_neg h1]
  · rename_i c
    have c3 : ∀ q ∈ d, ¬ q.1 = k := fun q hq z => c (List.any_eq_true.mpr ⟨q, hq, decide_eq_true z⟩)
    clear c
    induction d with
    | nil => rfl
    | cons p d ih =>
      rw [List.cons_append]
      show (if p.1 = j then some p.2 else dget (d ++ [(k, v)]) j) = if k = j then some v else if p.1 = j then some p.2 else dget d j
      rw [ih fun x hx => c3 x (List.mem_cons_of_mem _ hx)]
      have h0 := c3 p (List.mem_cons_self ..)
      by_cases h1 : p.1 = j
      · rw [if_pos h1, if_pos h1, if_neg (fun z => h0 (by rw [h1, z]))]
      · rw [if_neg h1, if_neg h1]
theorem dput_len {β : Type} {d : List (Nat × β)} {k : Nat} {v : β} : (dput d k v).length ≤ d.length + 1 := by
  unfold dput
  split
  · rw [List.length_map]; omega
  · rw [List.length_append]; exact Nat.le_refl _
theorem of_exr {β : Type} {m : Option β} {b : β} (h : ∃ r, m = some r ∧ r = b) : m = some b := by
  obtain ⟨r, e, rfl⟩ := h
  exact e
theorem dcompO_ok {α β : Type} {f : α → Option (Option (Nat × β))} (I : Nat → List (Nat × β) → Prop) {xs : List α} {d0 : List (Nat × β)} (h0 : I 0 d0) (hs : ∀ i x d, xs[i]? = some x → I i d → ∃ o, f x = some o ∧ I (i + 1) (dstep d o)) : ∃ d, dcompO f xs d0 = some d ∧ I xs.length d := by
  induction xs generalizing d0 I with
  | nil => exact ⟨d0, rfl, h0⟩
  | cons x xs ih =>
    obtain ⟨o, e1, h1⟩ := hs 0 x d0 rfl h0
    obtain ⟨d, e2, h2⟩ := ih (fun i => I (i + 1)) h1 fun i x d hx hi => hs (i + 1) x d (by simpa using hx) hi
    refine ⟨d, ?_, h2⟩
    show (f x).bind _ = _
    rw [e1]
    exact e2
/-! ### the game's functions -/
theorem bind_of {α β : Type} {m : Option α} {k : α → Option β} {a : α} {r : Option β} (h : m = some a) (q : k a = r) : m.bind k = r := by rw [h]; exact q
abbrev rb (e : Rel) (p q : Nat) : Prop := e p q = true
/-! ### the core: what striking leaves keeps -/
def eR (e : Rel) (S : List Nat) : Rel := fun u v => e u v && (!decide (u ∈ S) && !decide (v ∈ S))
section
variable {n : Nat} {e : Rel} {S : List Nat} {u v a : Nat}
theorem eR_iff : eR e S u v = true ↔ e u v = true ∧ u ∉ S ∧ v ∉ S := by
  unfold eR
  simp
theorem eR_gr (g : Gr n e) : Gr n (eR e S) where
  sym := fun u v => by rw [Bool.eq_iff_iff, eR_iff, eR_iff, g.sym u v]; exact ⟨fun h => ⟨h.1, h.2.2, h.2.1⟩, fun h => ⟨h.1, h.2.2, h.2.1⟩⟩
  irr := fun u => by
    cases h : eR e S u u with
    | false => rfl
    | true => have := (eR_iff.mp h).1; rw [g.irr] at this; cases this
  lt := fun u v h => g.lt u v (eR_iff.mp h).1
theorem eR_nil : eR e [] = e := by
  funext u v
  unfold eR
  simp
theorem nbR (h : v ∉ S) : nb n (eR e S) v = (nb n e v).filter fun w => decide (w ∉ S) := by
  refine asc_eq (nb_pw n _ v) ((nb_pw n e v).filter _) fun x => ?_
  rw [List.mem_filter, mem_nb, mem_nb, eR_iff, decide_eq_true_eq]
  exact ⟨fun ⟨h1, h2, _, h3⟩ => ⟨⟨h1, h2⟩, h3⟩, fun ⟨⟨h1, h2⟩, h3⟩ => ⟨h1, h2, h, h3⟩⟩
theorem nbR_in (h : v ∈ S) : nb n (eR e S) v = [] := by
  refine List.eq_nil_iff_forall_not_mem.mpr fun x hx => ?_
  exact (eR_iff.mp (mem_nb.mp hx).2).2.1 h
theorem cntR : cnt n e S v = (nb n (eR e S) v).length := by
  unfold cnt
  by_cases h : v ∈ S
  · rw [if_pos h, nbR_in h]; rfl
  · rw [if_neg h, nbR h, List.countP_eq_length_filter]
/-- the only place a leaf is tied to -/
theorem leaf_at (g : Gr n e) (ha : a < n) (hS : a ∉ S) (h : cnt n e S a = 1) : ∃ m, m < n ∧ m ∉ S ∧ m ≠ a ∧ eR e S a m = true ∧ ∀ x, eR e S a x = true → x = m := by
  rw [cntR] at h
  obtain ⟨m, hm⟩ : ∃ m, nb n (eR e S) a = [m] := by
    match h2 : nb n (eR e S) a, h with
    | [m], _ => exact ⟨m, rfl⟩
  have g2 := eR_gr (S := S) g
  have mm : m ∈ nb n (eR e S) a := by rw [hm]; exact List.mem_singleton.mpr rfl
  obtain ⟨h1, h2⟩ := mem_nb.mp mm
  have h3 := eR_iff.mp h2
  refine ⟨m, h1, h3.2.2, fun z => ?_, h2, fun x hx => ?_⟩
  · rw [z, g2.irr] at h2; cases h2
  · have : x ∈ nb n (eR e S) a := mem_nb.mpr ⟨g2.lt2 hx, hx⟩
    rw [hm] at this
    exact List.mem_singleton.mp this
theorem eR_snoc (hu : u ≠ a) (hv : v ≠ a) (h : eR e S u v = true) : eR e (S ++ [a]) u v = true := by
  obtain ⟨h1, h2, h3⟩ := eR_iff.mp h
  refine eR_iff.mpr ⟨h1, fun z => ?_, fun z => ?_⟩
  · rcases List.mem_append.mp z with z | z
    · exact h2 z
    · exact hu (List.mem_singleton.mp z)
  · rcases List.mem_append.mp z with z | z
    · exact h3 z
    · exact hv (List.mem_singleton.mp z)
theorem conn_snoc (g : Gr n e) {m : Nat} (ne : m ≠ a) (one : ∀ x, eR e S a x = true → x = m) (h : Conn (eR e S) u v) : Conn (eR e (S ++ [a])) (if u = a then m else u) (if v = a then m else v) := by
  have g2 := eR_gr (S := S) g
  induction h with
  | refl => exact .refl _
  | step h0 k ih =>
    rename_i w z
    generalize (if u = a then m else u) = U at ih ⊢
    by_cases cw : w = a
    · rw [cw] at k
      have hz := one z k
      rw [if_pos cw] at ih
      rw [if_neg (by rw [hz]; exact ne), hz]
      exact ih
    · rw [if_neg cw] at ih
      by_cases cz : z = a
      · have hw := one w (by rw [g2.sym, ← cz]; exact k)
        rw [if_pos cz, ← hw]
        exact ih
      · rw [if_neg cz]
        exact .step ih (eR_snoc cw cz k)
theorem conn_sub (h : Conn (eR e S) u v) : Conn e u v := by
  induction h with
  | refl => exact .refl _
  | step _ k ih => exact .step ih (eR_iff.mp k).1
theorem keep_ok (g : Gr n e) (s : Str1 n e S) : (∀ u v, u ∉ S → v ∉ S → Conn e u v → Conn (eR e S) u v) ∧ ∀ u, u < n → ∃ v, v < n ∧ v ∉ S ∧ Conn e u v := by
  have gen : ∀ k, k ≤ S.length → (∀ u v, u ∉ S.take k → v ∉ S.take k → Conn e u v → Conn (eR e (S.take k)) u v) ∧ ∀ u, u < n → ∃ v, v < n ∧ v ∉ S.take k ∧ Conn e u v := by
    intro k
    induction k with
    | zero =>
      intro _
      rw [List.take_zero, eR_nil]
      exact ⟨fun u v _ _ h => h, fun u hu => ⟨u, hu, (fun h => by cases h), .refl u⟩⟩
    | succ k ih =>
      intro hk
      obtain ⟨i1, i2⟩ := ih (by omega)
      have ea : S[k]? = some S[k] := List.getElem?_eq_getElem (by omega)
      obtain ⟨r, hr⟩ := s.st k _ ea
      obtain ⟨a1, a2, a3⟩ := leaf_ok (hr ▸ List.mem_cons_self .. : S[k] ∈ leaves n e (S.take k))
      generalize S[k] = a at *
      rw [take_snoc ea]
      obtain ⟨m, m1, m2, m3, m4, m5⟩ := leaf_at g a1 a2 a3
      have nin : ∀ x, x ∉ S.take k ++ [a] → x ∉ S.take k ∧ x ≠ a := fun x hx => ⟨fun z => hx (List.mem_append_left _ z), fun z => hx (List.mem_append_right _ (List.mem_singleton.mpr z))⟩
      refine ⟨fun u v hu hv h => ?_, fun u hu => ?_⟩
      · obtain ⟨u1, u2⟩ := nin u hu
        obtain ⟨v1, v2⟩ := nin v hv
        have := conn_snoc g m3 m5 (i1 u v u1 v1 h)
        rwa [if_neg u2, if_neg v2] at this
      · obtain ⟨v, v1, v2, v3⟩ := i2 u hu
        by_cases c : v = a
        · refine ⟨m, m1, fun z => ?_, .step v3 (by rw [c]; exact (eR_iff.mp m4).1)⟩
          rcases List.mem_append.mp z with z | z
          · exact m2 z
          · exact m3 (List.mem_singleton.mp z)
        · refine ⟨v, v1, fun z => ?_, v3⟩
          rcases List.mem_append.mp z with z | z
          · exact v2 z
          · exact c (List.mem_singleton.mp z)
  have := gen S.length (Nat.le_refl _)
  rwa [List.take_length] at this
/-! counts -/
theorem sum_add {α : Type} (f h : α → Nat) (l : List α) : (l.map fun x => f x + h x).sum = (l.map f).sum + (l.map h).sum := by
  induction l with
  | nil => rfl
  | cons x l ih => rw [List.map_cons, List.sum_cons, ih, List.map_cons, List.sum_cons, List.map_cons, List.sum_cons]; omega
theorem sum_one {a : Nat} : ∀ {l : List Nat}, l.Nodup → (l.map fun x => if x = a then 1 else 0).sum = if a ∈ l then 1 else 0
  | [], _ => rfl
  | x :: l, nd => by
    obtain ⟨n1, n2⟩ := List.nodup_cons.mp nd
    rw [List.map_cons, List.sum_cons, sum_one n2]
    by_cases c : x = a
    · subst c
      rw [if_pos rfl, if_neg n1, if_pos (List.mem_cons_self ..)]
    · rw [if_neg c]
      by_cases d : a ∈ l
      · rw [if_pos d, if_pos (List.mem_cons_of_mem _ d)]
      · rw [if_neg d, if_neg (fun z => (List.mem_cons.mp z).elim (fun z => c z.symm) d)]
theorem sum_congr {α : Type} {f h : α → Nat} {l : List α} (e : ∀ x ∈ l, f x = h x) : (l.map f).sum = (l.map h).sum := by rw [List.map_congr_left e]
/-- ties at the places of a class, each end once -/
def degs (n : Nat) (e : Rel) (C : Nat → Bool) (S : List Nat) : Nat := ((List.range n).map fun v => if C v = true then cnt n e S v else 0).sum
def many (n : Nat) (C : Nat → Bool) (S : List Nat) : Nat := ((List.range n).map fun v => if C v = true ∧ v ∉ S then 1 else 0).sum
theorem cnt_snoc (g : Gr n e) (ha : a < n) (hS : a ∉ S) (h : cnt n e S a = 1) {m : Nat} (m1 : m ∉ S) (m2 : eR e S a m = true) (m3 : ∀ x, eR e S a x = true → x = m) (ne : m ≠ a) (hv : v < n) : cnt n e S v = cnt n e (S ++ [a]) v + ((if v = a then 1 else 0) + if v = m then 1 else 0) := by
  have st : cnt n e (S ++ [a]) v = if v ∈ nb n e a then (if v = a then 0 else cnt n e S v) - 1 else if v = a then 0 else cnt n e S v := by
    have e1 : (cnts n e (S ++ [a])).getD v 0 = cnt n e (S ++ [a]) v := by rw [List.getD_eq_getElem?_getD, cnts_at hv]; rfl
    rw [← e1, ← cnts_step g ha hS, dec_getD _ (nodup_of_lt (nb_pw _ _ _))]
    have e2 : ((cnts n e S).set a 0).getD v 0 = if v = a then 0 else cnt n e S v := by
      rw [List.getD_eq_getElem?_getD, List.getElem?_set]
      by_cases h : a = v
      · rw [if_pos h, if_pos h.symm, if_pos (by rw [cnts_len]; exact ha)]
        rfl
      · rw [if_neg h, if_neg (fun z => h z.symm), cnts_at hv]
        rfl
    rw [e2]
  rw [st]
  by_cases c : v = a
  · subst c
    have : v ∉ nb n e v := fun z => by have := (mem_nb.mp z).2; rw [g.irr] at this; cases this
    rw [if_neg this, if_pos rfl, if_pos rfl, if_neg (fun z => ne z.symm), h]
  · rw [if_neg c, if_neg c]
    by_cases d : v ∈ nb n e a
    · rw [if_pos d]
      by_cases s : v ∈ S
      · have : cnt n e S v = 0 := by unfold cnt; rw [if_pos s]
        rw [this, if_neg (fun z : v = m => m1 (z ▸ s))]
        all_goals rfl
      · have : v = m := m3 v (eR_iff.mpr ⟨(mem_nb.mp d).2, hS, s⟩)
        rw [if_pos this]
        have pos : 0 < cnt n e S v := by
          rw [cntR]
          refine List.length_pos_of_mem (a := a) (mem_nb.mpr ⟨ha, eR_iff.mpr ⟨?_, s, hS⟩⟩)
          rw [g.sym]
          exact (mem_nb.mp d).2
        omega
    · rw [if_neg d, if_neg]
      · rfl
      · intro z
        exact d (mem_nb.mpr ⟨hv, by rw [z]; exact (eR_iff.mp m2).1⟩)
theorem counts_ok (g : Gr n e) {C : Nat → Bool} (hC : ∀ u v, e u v = true → C u = C v) (s : Str1 n e S) : degs n e C [] + 2 * many n C S = degs n e C S + 2 * many n C [] := by
  have gen : ∀ k, k ≤ S.length → degs n e C [] + 2 * many n C (S.take k) = degs n e C (S.take k) + 2 * many n C [] := by
    intro k
    induction k with
    | zero => intro _; rw [List.take_zero]
    | succ k ih =>
      intro hk
      have ih := ih (by omega)
      have ea : S[k]? = some S[k] := List.getElem?_eq_getElem (by omega)
      obtain ⟨r, hr⟩ := s.st k _ ea
      obtain ⟨a1, a2, a3⟩ := leaf_ok (hr ▸ List.mem_cons_self .. : S[k] ∈ leaves n e (S.take k))
      generalize S[k] = a at *
      rw [take_snoc ea]
      obtain ⟨m, m1, m2, m3, m4, m5⟩ := leaf_at g a1 a2 a3
      generalize S.take k = T at *
      have Cm : C a = C m := hC a m (eR_iff.mp m4).1
      have key := fun v (hv : v < n) => cnt_snoc g a1 a2 a3 m2 m4 m5 m3 hv
      by_cases c : C a = true
      · have d1 : degs n e C T = degs n e C (T ++ [a]) + 2 := by
          have : degs n e C T = ((List.range n).map fun v => (if C v = true then cnt n e (T ++ [a]) v else 0) + ((if v = a then 1 else 0) + if v = m then 1 else 0)).sum := by
            refine sum_congr fun v hv => ?_
            have hv := List.mem_range.mp hv
            by_cases cv : C v = true
            · rw [if_pos cv, if_pos cv]
              exact key v hv
            · rw [if_neg cv, if_neg cv, if_neg (fun z => cv (by rw [z]; exact c)), if_neg (fun z => cv (by rw [z, ← Cm]; exact c))]
          rw [this, sum_add, sum_add, sum_one List.nodup_range, sum_one List.nodup_range, if_pos (List.mem_range.mpr a1), if_pos (List.mem_range.mpr m1)]
          rfl
        have d2 : many n C T = many n C (T ++ [a]) + 1 := by
          have : many n C T = ((List.range n).map fun v => (if C v = true ∧ v ∉ T ++ [a] then 1 else 0) + if v = a then 1 else 0).sum := by
            refine sum_congr fun v _ => ?_
            by_cases cv : v = a
            · subst cv
              rw [if_pos ⟨c, a2⟩, if_neg (fun z => z.2 (by simp)), if_pos rfl]
            · rw [if_neg cv]
              by_cases z : C v = true ∧ v ∉ T
              · rw [if_pos z, if_pos ⟨z.1, fun q => (List.mem_append.mp q).elim z.2 fun q => cv (List.mem_singleton.mp q)⟩]
              · rw [if_neg z, if_neg (fun q => z ⟨q.1, fun w => q.2 (List.mem_append_left _ w)⟩)]
          rw [this, sum_add, sum_one List.nodup_range, if_pos (List.mem_range.mpr a1)]
          rfl
        omega
      · have d1 : degs n e C T = degs n e C (T ++ [a]) := sum_congr fun v hv => by
          have hv := List.mem_range.mp hv
          by_cases cv : C v = true
          · rw [if_pos cv, if_pos cv, key v hv, if_neg (fun z => c (by rw [← z]; exact cv)), if_neg (fun z => c (by rw [Cm, ← z]; exact cv))]
            rfl
          · rw [if_neg cv, if_neg cv]
        have d2 : many n C T = many n C (T ++ [a]) := sum_congr fun v _ => by
          by_cases cv : C v = true
          · have va : v ≠ a := fun z => c (by rw [← z]; exact cv)
            by_cases z : v ∈ T
            · rw [if_neg (fun q => q.2 z), if_neg (fun q => q.2 (List.mem_append_left _ z))]
            · rw [if_pos ⟨cv, z⟩, if_pos ⟨cv, fun q => (List.mem_append.mp q).elim z fun q => va (List.mem_singleton.mp q)⟩]
          · rw [if_neg (fun q => cv q.1), if_neg (fun q => cv q.1)]
        omega
  have := gen S.length (Nat.le_refl _)
  rwa [List.take_length] at this
end
/-- ties counted at both ends -/
theorem hand {n : Nat} {C : Nat → Bool} : ∀ {ts : List Tie}, TOk n ts → (∀ p ∈ ts, C p.1 = C p.2) → degs n (eOf ts) C [] = 2 * (ts.filter fun p => C p.1).length
  | [], _, _ => by
    show degs n (eOf []) C [] = 0
    unfold degs
    have : ((List.range n).map fun v => if C v = true then cnt n (eOf []) [] v else 0) = (List.range n).map fun _ => 0 := List.map_congr_left fun v _ => by
      have : cnt n (eOf []) [] v = 0 := by
        rw [cntR, eR_nil]
        have : nb n (eOf []) v = [] := List.eq_nil_iff_forall_not_mem.mpr fun x hx => by
          rcases eOf_iff.mp (mem_nb.mp hx).2 with h | h <;> cases h
        rw [this]; rfl
      rw [this]
      split <;> rfl
    rw [this]
    have z : ∀ l : List Nat, (l.map fun _ => 0).sum = 0 := fun l => by induction l with
      | nil => rfl
      | cons x l ih => rw [List.map_cons, List.sum_cons, ih]
    exact z _
  | t :: ts, h, hC => by
    have h2 : TOk n ts := ⟨(List.nodup_cons.mp h.nd).2, fun p hp => h.ok p (List.mem_cons_of_mem _ hp)⟩
    have nt := (List.nodup_cons.mp h.nd).1
    have ht := h.ok t (List.mem_cons_self ..)
    have ih := hand h2 fun p hp => hC p (List.mem_cons_of_mem _ hp)
    have c1 := hC t (List.mem_cons_self ..)
    have key : ∀ v, v < n → cnt n (eOf (t :: ts)) [] v = cnt n (eOf ts) [] v + ((if v = t.1 then 1 else 0) + if v = t.2 then 1 else 0) := fun v hv => by
      rw [cntR, cntR, eR_nil, eR_nil]
      have ho : ∀ x, eOf (t :: ts) v x = true ↔ eOf ts v x = true ∨ (v = t.1 ∧ x = t.2) ∨ (v = t.2 ∧ x = t.1) := fun x => by
        rw [eOf_iff, eOf_iff, List.mem_cons, List.mem_cons]
        obtain ⟨t1, t2⟩ := t
        simp only [Prod.mk.injEq]
        constructor
        · rintro ((⟨a, b⟩ | a) | (⟨a, b⟩ | a))
          · exact .inr (.inl ⟨a, b⟩)
          · exact .inl (.inl a)
          · exact .inr (.inr ⟨b, a⟩)
          · exact .inl (.inr a)
        · rintro ((a | a) | (⟨a, b⟩ | ⟨a, b⟩))
          · exact .inl (.inr a)
          · exact .inr (.inr a)
          · exact .inl (.inl ⟨a, b⟩)
          · exact .inr (.inl ⟨b, a⟩)
      have no : ∀ x, eOf ts v x = true → ¬ ((v = t.1 ∧ x = t.2) ∨ (v = t.2 ∧ x = t.1)) := fun x hx hh => by
        obtain ⟨t1, t2⟩ := t
        simp only at hh ht
        rcases eOf_iff.mp hx with q | q
        · have := h2.ok _ q
          rcases hh with ⟨a, b⟩ | ⟨a, b⟩
          · subst a; subst b; exact nt q
          · simp only at this; omega
        · have := h2.ok _ q
          rcases hh with ⟨a, b⟩ | ⟨a, b⟩
          · simp only at this; omega
          · subst a; subst b; exact nt q
      have pm : (nb n (eOf (t :: ts)) v).Perm (nb n (eOf ts) v ++ ((if v = t.1 then [t.2] else []) ++ if v = t.2 then [t.1] else [])) := by
        refine (List.perm_ext_iff_of_nodup (nodup_of_lt (nb_pw _ _ _)) (List.nodup_append.mpr ⟨nodup_of_lt (nb_pw _ _ _), ?_, fun x hx y hy z => ?_⟩)).mpr fun x => ?_
        · by_cases a : v = t.1
          · rw [if_pos a, if_neg (by omega)]; simp
          · rw [if_neg a]
            split <;> simp
        · subst z
          refine no x (mem_nb.mp hx).2 ?_
          rcases List.mem_append.mp hy with q | q
          · split at q
            · rename_i a; exact .inl ⟨a, List.mem_singleton.mp q⟩
            · cases q
          · split at q
            · rename_i a; exact .inr ⟨a, List.mem_singleton.mp q⟩
            · cases q
        · rw [mem_nb, List.mem_append, mem_nb, ho, List.mem_append]
          constructor
          · rintro ⟨a, b | ⟨b, c⟩ | ⟨b, c⟩⟩
            · exact .inl ⟨a, b⟩
            · exact .inr (.inl (by rw [if_pos b]; exact List.mem_singleton.mpr c))
            · exact .inr (.inr (by rw [if_pos b]; exact List.mem_singleton.mpr c))
          · rintro (⟨a, b⟩ | q | q)
            · exact ⟨a, .inl b⟩
            · split at q
              · rename_i b
                have c := List.mem_singleton.mp q
                exact ⟨by omega, .inr (.inl ⟨b, c⟩)⟩
              · cases q
            · split at q
              · rename_i b
                have c := List.mem_singleton.mp q
                exact ⟨by omega, .inr (.inr ⟨b, c⟩)⟩
              · cases q
      rw [pm.length_eq, List.length_append, List.length_append]
      congr 1
      congr 1 <;> split <;> rfl
    by_cases c : C t.1 = true
    · have : degs n (eOf (t :: ts)) C [] = ((List.range n).map fun v => (if C v = true then cnt n (eOf ts) [] v else 0) + ((if v = t.1 then 1 else 0) + if v = t.2 then 1 else 0)).sum := sum_congr fun v hv => by
        have hv := List.mem_range.mp hv
        by_cases cv : C v = true
        · rw [if_pos cv, if_pos cv]
          exact key v hv
        · rw [if_neg cv, if_neg cv, if_neg (fun z => cv (by rw [z]; exact c)), if_neg (fun z => cv (by rw [z, ← c1]; exact c))]
      rw [this, sum_add, sum_add, sum_one List.nodup_range, sum_one List.nodup_range, if_pos (List.mem_range.mpr (by omega)), if_pos (List.mem_range.mpr ht.2), List.filter_cons, if_pos c, List.length_cons]
      have ih : ((List.range n).map fun v => if C v = true then cnt n (eOf ts) [] v else 0).sum = _ := ih
      rw [ih]
      omega
    · have : degs n (eOf (t :: ts)) C [] = degs n (eOf ts) C [] := sum_congr fun v hv => by
        have hv := List.mem_range.mp hv
        by_cases cv : C v = true
        · rw [if_pos cv, if_pos cv, key v hv, if_neg (fun z => c (by rw [← z]; exact cv)), if_neg (fun z => c (by rw [c1, ← z]; exact cv))]
          rfl
        · rw [if_neg cv, if_neg cv]
      rw [this, ih, List.filter_cons, if_neg c]
/-! ### the core, told -/
theorem fold_dec : ∀ {ns l : List Nat}, (∀ v ∈ ns, v < l.length) → foldO (fun (s132 : (List Nat)) (x133 : Nat) =>
      (s132[x133]?).bind fun x146 =>
      (gd (x133 < s132.length)).bind fun _ =>
      some (s132.set x133 (x146 - 1))) ns l = some (ns.foldl dec1 l)
  | [], l, _ => rfl
  | v :: ns, l, h => by
    have hv := h v (List.mem_cons_self ..)
    have e : l[v]? = some (l.getD v 0) := by rw [List.getD_eq_getElem?_getD, List.getElem?_eq_getElem hv]; rfl
    show ((l[v]?).bind _).bind _ = _
    rw [e]
    show ((gd _).bind _).bind _ = _
    rw [gd_true hv]
    exact fold_dec (l := dec1 l v) fun w hw => by rw [dec1_len]; exact h w (List.mem_cons_of_mem _ hw)
section
variable {n : Nat} {e : Rel}
theorem leaves_comp (S : List Nat) : compO (β := Nat) (fun (x163 : Nat) =>
      ((cnts n e S)[x163]?).bind fun x178 =>
      if (decide (x178 = 1)) = true then
        some (some x163)
      else some none) (List.range n) = some (leaves n e S) := by
  unfold leaves
  refine compO_filter fun v hv => ?_
  rw [cnts_at (List.mem_range.mp hv)]
  show (if _ then _ else _) = _
  by_cases c : cnt n e S v = 1
  · rw [decide_eq_true c, c]; rfl
  · rw [decide_eq_false c, if_neg (by decide)]
    have : (cnt n e S v == 1) = false := beq_eq_false_iff_ne.mpr c
    rw [this]
    rfl
theorem core_ok (g : Gr n e) (hn : n ≤ 100) : f_core (nbs n e) = some (struck n e, rest n (struck n e)) := by
  have zl : ∀ S, (leaves n e S).length ≤ n := fun S => Nat.le_trans (List.length_filter_le _ _) (by rw [List.length_range]; omega)
  have zr : ∀ S, (rest n S).length ≤ n := fun S => Nat.le_trans (List.length_filter_le _ _) (by rw [List.length_range]; omega)
  have c0 : compO (β := Nat) (fun (x9 : Nat) =>
    (f_Web_neighbours (nbs n e) x9).bind fun x27 =>
    some (some x27.length)) (List.range n) = some (cnts n e []) := by
    refine (compO_all (g := fun v => (nb n e v).length) fun v hv => ?_).trans (congrArg some ?_)
    · rw [neighbours_eq (List.mem_range.mp hv)]
      rfl
    · unfold cnts
      refine List.map_congr_left fun v _ => ?_
      rw [cntR, eR_nil]
  have : ∃ r, f_core (nbs n e) = some r ∧ r = (struck n e, rest n (struck n e)) := by
    unfold f_core
    rw [nbs_len]
    refine ex_g (by omega) (ex_g (by omega) (ex_b _ c0 (ex_g (by rw [cnts_len]; omega) (ex_g (by omega) (ex_g (by omega) (ex_b _ (leaves_comp []) (ex_g (by have := zl []; omega) ?_)))))))
    refine ex_w (fun s => ∃ S, s = (leaves n e S, S, cnts n e S) ∧ Str1 n e S) (fun s => n - s.2.1.length) ⟨[], rfl, Str1.nil n e⟩ (by show n - 0 < 100000; omega) (fun s ⟨S, hs, st⟩ => ?_) fun s ⟨S, hs, st⟩ hc => ?_
    · subst hs
      refine ⟨_, rfl, fun c => ?_⟩
      cases hl : leaves n e S with
      | nil => rw [hl] at c; simp [eqD] at c
      | cons a r =>
        obtain ⟨a1, a2, _⟩ := leaf_ok (hl ▸ List.mem_cons_self .. : a ∈ leaves n e S)
        have st2 := st.step hl
        have zs := st2.len
        rw [List.length_append] at zs
        have one : [a].length = 1 := rfl
        refine ex_b a rfl (ex_g (by show S.length < 100000; omega) (ex_g (by show a < (cnts n e S).length; rw [cnts_len]; exact a1) (ex_b _ (neighbours_eq a1) (ex_b (cnts n e (S ++ [a])) ?_ (ex_g (by omega) (ex_g (by omega) (ex_b _ (leaves_comp (S ++ [a])) (ex_g (by have := zl (S ++ [a]); omega) (ex_s ⟨⟨S ++ [a], rfl, st2⟩, ?_⟩)))))))))
        · rw [fold_dec fun v hv => by rw [List.length_set, cnts_len]; exact (mem_nb.mp hv).1]
          exact congrArg some (cnts_step g a1 a2)
        · show n - (S ++ [a]).length < n - S.length
          rw [List.length_append]
          omega
    · subst hs
      have hl : leaves n e S = [] := by
        have hc : (!eqD (leaves n e S) []) = false := Option.some.inj hc
        rw [Bool.not_eq_false'] at hc
        exact eqD_iff.mp hc
      have := st.done hl
      rw [← this]
      refine ex_g (by omega) (ex_g (by omega) (ex_b (rest n S) ?_ (ex_g (by have := zr S; omega) (ex_s rfl))))
      unfold rest
      refine compO_filter fun v _ => ?_
      show (if (!decide (v ∈ S)) = true then _ else _) = _
      by_cases c : v ∈ S
      · simp [c]
      · simp [c]
  obtain ⟨r, er, rfl⟩ := this
  exact er
theorem mem_rest {S : List Nat} {v : Nat} : v ∈ rest n S ↔ v < n ∧ v ∉ S := by
  unfold rest
  rw [List.mem_filter, List.mem_range, decide_eq_true_eq]
theorem rest_asc (S : List Nat) : (rest n S).Pairwise (· < ·) := List.pairwise_lt_range.filter _
end
/-! ### the core's ties and parts, told -/
section
variable {n : Nat} {e : Rel}
/-- what is known of the ties of the core -/
structure DOk (n : Nat) (r : Rel) (Vs : List Nat) (d : List (Nat × List Nat)) : Prop where
  at_ : ∀ v, dget d v = if v ∈ Vs then some (nb n r v) else none
  keys : d.map (·.1) = Vs
theorem dput_new {β : Type} {d : List (Nat × β)} {k : Nat} {v : β} (h : k ∉ d.map (·.1)) : (dput d k v).map (·.1) = d.map (·.1) ++ [k] := by
  unfold dput
  rw [if_neg]
  · rw [List.map_append]; rfl
  · intro z
    rw [List.any_eq_true] at z
    obtain ⟨p, hp, e⟩ := z
    exact h (List.mem_map.mpr ⟨p, hp, by simpa using e⟩)
theorem kept_ok (g : Gr n e) (hn : n ≤ 100) : ∃ d, f_kept_ties (nbs n e) = some d ∧ DOk n (eR e (struck n e)) (rest n (struck n e)) d := by
  unfold f_kept_ties
  have zr : (rest n (struck n e)).length ≤ n := Nat.le_trans (List.length_filter_le _ _) (by rw [List.length_range]; omega)
  generalize hS : struck n e = S at *
  have nd := nodup_of_lt (rest_asc (n := n) S)
  refine ex_b (S, rest n S) (by rw [core_ok g hn, hS]) ?_
  dsimp only
  refine (ex_e (dcompO_ok (fun i d => (∀ v, dget d v = if v ∈ (rest n S).take i then some (nb n (eR e S) v) else none) ∧ d.map (·.1) = (rest n S).take i) ⟨fun v => rfl, rfl⟩ fun i x d hx ⟨h1, h2⟩ => ?_) fun d ⟨h1, h2⟩ => ex_g (by omega) (ex_s ⟨fun v => by rw [h1 v, List.take_length], by rw [h2, List.take_length]⟩))
  have hxm := List.mem_of_getElem? hx
  obtain ⟨hxn, hxS⟩ := mem_rest.mp hxm
  have z1 := nb_len n e x
  have fl : (nb n e x).filter (fun w => decide (w ∈ rest n S)) = nb n (eR e S) x := by
    rw [nbR hxS]
    refine List.filter_congr fun w hw => ?_
    rw [Bool.eq_iff_iff, decide_eq_true_eq, decide_eq_true_eq, mem_rest]
    exact ⟨fun h => h.2, fun h => ⟨(mem_nb.mp hw).1, h⟩⟩
  have z2 := List.length_filter_le (fun w => decide (w ∈ rest n S)) (nb n e x)
  refine ⟨some (x, nb n (eR e S) x), bind_of (neighbours_eq hxn) (bind_of (compO_filter fun w _ => ite_oo) (bind_of (gd_true (by omega)) (by rw [fl]))), fun v => ?_, ?_⟩
  · show dget (dput d x _) v = _
    rw [dget_put, take_snoc hx]
    by_cases c : x = v
    · rw [if_pos c, if_pos (mem_snoc.mpr (.inr c.symm)), c]
    · rw [if_neg c, h1 v]
      by_cases z : v ∈ (rest n S).take i
      · rw [if_pos z, if_pos (mem_snoc.mpr (.inl z))]
      · rw [if_neg z, if_neg (fun q => (mem_snoc.mp q).elim z fun q => c q.symm)]
  · show (dput d x _).map (·.1) = _
    rw [dput_new, h2, take_snoc hx]
    rw [h2]
    intro z
    obtain ⟨j, hj⟩ := List.getElem?_of_mem z
    have hji : j < i := by
      have := (List.getElem?_eq_some_iff.mp hj).1
      rw [List.length_take] at this
      omega
    rw [List.getElem?_take, if_pos hji] at hj
    have := nd_ix nd hj hx
    omega
/-! ### parts of some places -/
noncomputable def partsIn (n : Nat) (r : Rel) (Vs : List Nat) : List (List Nat) := (Vs.filter fun h => mn r h == h).map (cls n r)
/-- places that hold what is tied to them -/
structure Closed (n : Nat) (r : Rel) (Vs : List Nat) : Prop where
  asc : Vs.Pairwise (· < ·)
  lt : ∀ v ∈ Vs, v < n
  cl : ∀ u v, r u v = true → u ∈ Vs ∧ v ∈ Vs
variable {r : Rel} {Vs : List Nat}
theorem Closed.conn (c : Closed n r Vs) {u v : Nat} (h : Conn r u v) (hu : u ∈ Vs) : v ∈ Vs := by
  cases h with
  | refl => exact hu
  | step _ k => exact (c.cl _ _ k).2
theorem Closed.mn (c : Closed n r Vs) {u : Nat} (hu : u ∈ Vs) : OC.mn r u ∈ Vs := c.conn mn_conn hu
theorem Closed.lt_take (c : Closed n r Vs) {i x v : Nat} (hx : Vs[i]? = some x) (hv : v ∈ Vs) : v < x ↔ v ∈ Vs.take i := by
  obtain ⟨hi, ei⟩ := List.getElem?_eq_some_iff.mp hx
  obtain ⟨j, hj⟩ := List.getElem?_of_mem hv
  obtain ⟨hj2, ej⟩ := List.getElem?_eq_some_iff.mp hj
  have pw := List.pairwise_iff_getElem.mp c.asc
  constructor
  · intro h
    have : j < i := by
      refine Nat.lt_of_not_le fun z => ?_
      by_cases q : i = j
      · subst q; omega
      · have := pw i j hi hj2 (by omega)
        omega
    exact List.mem_of_getElem? (i := j) (by rw [List.getElem?_take, if_pos this]; exact hj)
  · intro h
    obtain ⟨k, hk⟩ := List.getElem?_of_mem h
    have hki : k < i := by
      have := (List.getElem?_eq_some_iff.mp hk).1
      rw [List.length_take] at this
      omega
    rw [List.getElem?_take, if_pos hki] at hk
    obtain ⟨hk2, ek⟩ := List.getElem?_eq_some_iff.mp hk
    have := pw k i hk2 hi hki
    omega
theorem rest_closed (S : List Nat) (g : Gr n e) : Closed n (eR e S) (rest n S) := ⟨rest_asc S, fun v hv => (mem_rest.mp hv).1, fun u v h => by
  obtain ⟨h1, h2, h3⟩ := eR_iff.mp h
  exact ⟨mem_rest.mpr ⟨g.lt _ _ h1, h2⟩, mem_rest.mpr ⟨g.lt2 h1, h3⟩⟩⟩
theorem all_closed (g : Gr n e) : Closed n e (List.range n) := ⟨List.pairwise_lt_range, fun v hv => List.mem_range.mp hv, fun u v h => ⟨List.mem_range.mpr (g.lt _ _ h), List.mem_range.mpr (g.lt2 h)⟩⟩
theorem partsIn_all : partsIn n r (List.range n) = partsOf n r := rfl
theorem partsIn_yes {i x : Nat} (hx : Vs[i]? = some x) (h : mn r x = x) : partsIn n r (Vs.take (i + 1)) = partsIn n r (Vs.take i) ++ [cls n r x] := by
  unfold partsIn
  rw [take_snoc hx, List.filter_append, List.filter_cons_of_pos (by rw [beq_iff_eq]; exact h), List.map_append]
  rfl
theorem partsIn_no {i x : Nat} (hx : Vs[i]? = some x) (h : mn r x ≠ x) : partsIn n r (Vs.take (i + 1)) = partsIn n r (Vs.take i) := by
  unfold partsIn
  rw [take_snoc hx, List.filter_append, List.filter_cons_of_neg (by rw [beq_iff_eq]; exact h), List.filter_nil, List.append_nil]
end
/-! ### the parts of the core, told -/
section
variable {n : Nat} {e r : Rel} {Vs : List Nat}
structure SeenV (r : Rel) (Vs : List Nat) (i : Nat) (S : List Nat) : Prop where
  nd : S.Nodup
  mem : ∀ v, v ∈ S ↔ v ∈ Vs ∧ mn r v ∈ Vs.take i
theorem cparts_ok (g : Gr n e) (hn : n ≤ 100) : f_core_parts (nbs n e) = some (partsIn n (eR e (struck n e)) (rest n (struck n e))) := by
  obtain ⟨d, ed, hd⟩ := kept_ok g hn
  have gr := eR_gr (S := struck n e) g
  have c := rest_closed (struck n e) g
  generalize eR e (struck n e) = r at *
  generalize rest n (struck n e) = Vs at *
  have zV : Vs.length ≤ n := nodup_le (nodup_of_lt c.asc) c.lt
  have zp : ∀ i, (partsIn n r (Vs.take i)).length ≤ n := fun i => by
    unfold partsIn
    rw [List.length_map]
    refine Nat.le_trans (List.length_filter_le _ _) ?_
    rw [List.length_take]
    omega
  have : ∃ q, f_core_parts (nbs n e) = some q ∧ q = partsIn n r Vs := by
    unfold f_core_parts
    rw [nbs_len]
    refine ex_b d ed ?_
    rw [hd.keys]
    refine ex_e (foldO_ok (fun i (s : List (Nat × Bool) × List (List Nat)) => ∃ S, (∀ v, (dget s.1 v).isSome = true ↔ v ∈ S) ∧ s.1.length ≤ S.length ∧ s.2 = partsIn n r (Vs.take i) ∧ SeenV r Vs i S) ⟨[], fun v => by simp [dget], Nat.le_refl _, rfl, List.nodup_nil, fun v => by simp⟩ fun i x s hx ⟨S, d1, d2, d3, sn⟩ => ?_) fun s ⟨S, _, _, d3, _⟩ => ex_s (by rw [d3, List.take_length])
    have hxV := List.mem_of_getElem? hx
    have hxn := c.lt x hxV
    have hSn : ∀ y ∈ S, y < n := fun y hy => c.lt y ((sn.mem y).mp hy).1
    have zS := nodup_le sn.nd hSn
    have zi := zp i
    refine ex_i (fun cc => ?_) fun cc => ?_
    · have xS : x ∉ S := fun z => by rw [(d1 x).mpr z] at cc; cases cc
      have hm : mn r x = x := by
        have h1 := mn_self (e := r) (u := x)
        have h2 : ¬ mn r x < x := fun z => xS ((sn.mem x).mpr ⟨hxV, (c.lt_take hx (c.mn hxV)).mp z⟩)
        omega
      have G0 : Grow n r x S [x] 0 := ⟨List.nodup_append.mpr ⟨sn.nd, by simp, fun a ha b hb q => by rw [List.mem_singleton.mp hb] at q; exact xS (q ▸ ha)⟩, by simp, fun y hy => by rw [List.mem_singleton.mp hy]; exact .refl _, Nat.zero_le _, fun j y hj => absurd hj (Nat.not_lt_zero _)⟩
      refine ex_g (by omega) (ex_g (by omega) (ex_g (by omega) ?_))
      refine ex_e (foldO_ok (fun k (t : List Nat × List (Nat × Bool)) => (∀ v, (dget t.2 v).isSome = true ↔ v ∈ S ++ t.1) ∧ t.2.length ≤ (S ++ t.1).length ∧ Grow n r x S t.1 (min k t.1.length)) ⟨fun v => ?_, ?_, by simpa using G0⟩ fun k x2 t hk ⟨h1, h2, G⟩ => ?_) fun t ⟨h1, h2, G⟩ => ?_
      · show (dget (dput s.1 x true) v).isSome = true ↔ _
        rw [dget_put, List.mem_append, List.mem_singleton]
        by_cases z : x = v
        · simp [z]
        · rw [if_neg z, d1]
          exact ⟨.inl, fun h => h.resolve_right fun q => z q.symm⟩
      · show (dput s.1 x true).length ≤ (S ++ [x]).length
        have := dput_len (d := s.1) (k := x) (v := true)
        rw [List.length_append]
        exact Nat.le_trans this (Nat.add_le_add_right d2 1)
      · obtain ⟨rfl, hkn⟩ := range_at hk
        obtain ⟨part, seen⟩ := t
        have h1 : ∀ v, (dget seen v).isSome = true ↔ v ∈ S ++ part := h1
        have h2 : seen.length ≤ (S ++ part).length := h2
        have G : Grow n r x S part (min x2 part.length) := G
        refine ex_i (fun c2 => ?_) fun c2 => ?_
        · have c2 : x2 < part.length := of_decide_eq_true c2
          have G : Grow n r x S part x2 := by rwa [Nat.min_eq_left (by omega)] at G
          have ea : part[x2]? = some part[x2] := List.getElem?_eq_getElem c2
          have yin := List.getElem_mem c2
          have yV : part[x2] ∈ Vs := c.conn (G.co _ yin) hxV
          generalize part[x2] = y at *
          refine ex_b y ea (ex_b (nb n r y) (by rw [hd.at_, if_pos yV]) ?_)
          refine ex_e (foldO_ok (fun j (t : List Nat × List (Nat × Bool)) => (∀ v, (dget t.2 v).isSome = true ↔ v ∈ S ++ t.1) ∧ t.2.length ≤ (S ++ t.1).length ∧ Grow n r x S t.1 x2 ∧ t.1[x2]? = some y ∧ ∀ w ∈ (nb n r y).take j, w ∈ t.1) ⟨h1, h2, G, ea, by simp⟩ fun j w t hj ⟨t1, t2, t3, t4, t5⟩ => ?_) fun t ⟨t1, t2, t3, t4, t5⟩ => ?_
          · have hw : r y w = true := (mem_nb.mp (List.mem_of_getElem? hj)).2
            have zt := t3.len gr hxn hSn
            rw [List.length_append] at zt t2
            refine ex_i (fun c3 => ?_) fun c3 => ?_
            · have cw : w ∉ S ++ t.1 := fun z => by rw [(t1 w).mpr z] at c3; cases c3
              refine ex_g (by omega) (ex_g (by omega) (ex_s ⟨fun v => ?_, ?_, t3.app (List.mem_of_getElem? t4) hw cw, ?_, ?_⟩))
              · show (dget (dput t.2 w true) v).isSome = true ↔ v ∈ S ++ (t.1 ++ [w])
                rw [dget_put, ← List.append_assoc, mem_snoc]
                by_cases z : w = v
                · simp [z]
                · rw [if_neg z, t1]
                  exact ⟨.inl, fun h => h.resolve_right fun q => z q.symm⟩
              · show (dput t.2 w true).length ≤ (S ++ (t.1 ++ [w])).length
                have := dput_len (d := t.2) (k := w) (v := true)
                simp only [List.length_append, List.length_singleton]
                omega
              · show (t.1 ++ [w])[x2]? = _
                rw [List.getElem?_append_left (List.getElem?_eq_some_iff.mp t4).1]
                exact t4
              · intro z hz
                rw [take_snoc hj, mem_snoc] at hz
                exact mem_snoc.mpr (hz.imp (t5 z) id)
            · have cw : w ∈ S ++ t.1 := (t1 w).mp (by simpa using c3)
              refine ex_s ⟨t1, by rw [List.length_append]; exact t2, t3, t4, fun z hz => ?_⟩
              rw [take_snoc hj, mem_snoc] at hz
              rcases hz with hz | rfl
              · exact t5 z hz
              · refine (List.mem_append.mp cw).resolve_left fun q => ?_
                have a1 := ((sn.mem _).mp q).2
                have a2 := mn_eq gr ((t3.co y (List.mem_of_getElem? t4)).trans (.one hw))
                rw [hm] at a2
                rw [← a2] at a1
                have := (c.lt_take hx hxV).mpr a1
                omega
          · refine ex_s ⟨t1, t2, ?_⟩
            have tl := (List.getElem?_eq_some_iff.mp t4).1
            show Grow n r x S t.1 (min (x2 + 1) t.1.length)
            rw [Nat.min_eq_left (by omega)]
            refine ⟨t3.nd, t3.hd, t3.co, by omega, fun j z hj hz w hw => ?_⟩
            by_cases q : j = x2
            · subst q
              obtain rfl := Option.some.inj (hz.symm.trans t4)
              exact t5 w (by rw [List.take_length]; exact mem_nb.mpr ⟨gr.lt2 hw, hw⟩)
            · exact t3.cl j z (by omega) hz w hw
        · have c2 : ¬ x2 < part.length := of_decide_eq_false c2
          refine ex_s ⟨h1, h2, ?_⟩
          show Grow n r x S part (min (x2 + 1) part.length)
          rw [show min (x2 + 1) part.length = min x2 part.length by omega]
          exact G
      · have zt := G.len gr hxn hSn
        rw [List.length_append] at zt
        rw [List.length_range, Nat.min_eq_right (by omega)] at G
        have hcl : ∀ v, v ∈ t.1 ↔ v ∈ cls n r x := closed_cls gr hxn hm G.hd G.co fun z hz w hw => by
          obtain ⟨j, hj⟩ := List.mem_iff_getElem?.mp hz
          exact G.cl j z (List.getElem?_eq_some_iff.mp hj).1 hj w hw
        refine ex_g (by rw [d3]; omega) (ex_s ⟨S ++ t.1, h1, h2, ?_, G.nd, fun v => ?_⟩)
        · show s.2 ++ [srtN t.1] = _
          rw [partsIn_yes hx hm, d3]
          congr 2
          have nd : t.1.Nodup := (List.nodup_append.mp G.nd).2.1
          exact asc_eq (asc_srt nd) (cls_pw n r x) fun v => by rw [(srtN_perm _).mem_iff, hcl]
        · rw [List.mem_append, sn.mem, hcl, mem_cls, take_snoc hx, mem_snoc]
          constructor
          · rintro (⟨a, b⟩ | ⟨a, b⟩)
            · exact ⟨a, .inl b⟩
            · exact ⟨c.conn (mn_conn.symm gr) (by rw [b]; exact hxV), .inr b⟩
          · rintro ⟨a, b | b⟩
            · exact .inl ⟨a, b⟩
            · exact .inr ⟨c.lt v a, b⟩
    · have xS : x ∈ S := (d1 x).mp (by simpa using cc)
      have ne : mn r x ≠ x := fun z => by
        have h1 := ((sn.mem x).mp xS).2
        rw [z] at h1
        have := (c.lt_take hx hxV).mpr h1
        omega
      refine ex_s ⟨S, d1, d2, by rw [partsIn_no hx ne]; exact d3, sn.nd, fun v => ?_⟩
      rw [sn.mem, take_snoc hx, mem_snoc]
      constructor
      · rintro ⟨a, b⟩; exact ⟨a, .inl b⟩
      · rintro ⟨a, b | b⟩
        · exact ⟨a, b⟩
        · exact absurd (by rw [← b]; exact mn_mn') ne
  obtain ⟨q, eq, rfl⟩ := this
  exact eq
end
/-! ### walks by places of two ties -/
theorem whl_all {S D : Type} {P : D → Prop} {c : D → S → Option Bool} {body : D → S → Option S} (I Z : S → Prop) (μ : S → Nat) (hs : ∀ s, I s → ∃ b, (∀ d, P d → c d s = some b) ∧ (b = true → ∃ s', (∀ d, P d → body d s = some s') ∧ I s' ∧ μ s' < μ s) ∧ (b = false → Z s)) : ∀ (n : Nat) (s0 : S), I s0 → μ s0 < n → ∃ s, (∀ d, P d → whlO (c d) (body d) n s0 = some s) ∧ I s ∧ Z s
  | 0, _, _, h => absurd h (Nat.not_lt_zero _)
  | n + 1, s0, i, h => by
    obtain ⟨b, hb, q, z⟩ := hs s0 i
    cases b with
    | false => exact ⟨s0, fun d hd => by show (c d s0).bind _ = _; rw [hb d hd]; rfl, i, z rfl⟩
    | true =>
      obtain ⟨s1, h1, i1, m1⟩ := q rfl
      obtain ⟨s, a1, a2, a3⟩ := whl_all I Z μ hs n s1 i1 (by omega)
      exact ⟨s, fun d hd => by show (c d s0).bind _ = _; rw [hb d hd]; show (body d s0).bind _ = _; rw [h1 d hd]; exact a1 d hd, a2, a3⟩
/-- places l gone through from s on, y next -/
structure Wk (n : Nat) (r : Rel) (s : Nat) (l : List Nat) (y : Nat) : Prop where
  hd : l[0]? = some s
  nd : l.Nodup
  nin : y ∈ l → y = s
  tied : ∀ i a b, l[i]? = some a → (l ++ [y])[i + 1]? = some b → r a b = true
  two : ∀ i a, 1 ≤ i → l[i]? = some a → (nb n r a).length = 2
  nt : ∀ k a, k + 2 = l.length → l[k]? = some a → y ≠ a
section
variable {n : Nat} {r : Rel} {s y : Nat} {l : List Nat}
theorem Wk.pos (w : Wk n r s l y) : 0 < l.length := (List.getElem?_eq_some_iff.mp w.hd).1
theorem Wk.last (w : Wk n r s l y) : ∃ p, l[l.length - 1]? = some p ∧ r p y = true := by
  have := w.pos
  have e : l[l.length - 1]? = some l[l.length - 1] := List.getElem?_eq_getElem (by omega)
  refine ⟨_, e, w.tied _ _ _ e ?_⟩
  rw [show l.length - 1 + 1 = l.length by omega, List.getElem?_append_right (Nat.le_refl _), Nat.sub_self]
  rfl
theorem Wk.start (g : Gr n r) (h : r s y = true) : Wk n r s [s] y := by
  refine ⟨rfl, by simp, fun z => List.mem_singleton.mp z, fun i a b h1 h2 => ?_, fun i a hi h1 => ?_, fun k a hk => ?_⟩
  · have hi : i = 0 := by
      have := (List.getElem?_eq_some_iff.mp h1).1
      simp at this
      exact this
    subst hi
    cases h1
    cases h2
    exact h
  · have := (List.getElem?_eq_some_iff.mp h1).1
    simp at this
    omega
  · simp at hk
theorem two_of {L : List Nat} {u w x : Nat} (nd : L.Nodup) (h2 : L.length = 2) (hu : u ∈ L) (hw : w ∈ L) (ne : u ≠ w) (hx : x ∈ L) : x = u ∨ x = w := by
  match L, h2 with
  | [a, b], _ =>
    simp only [List.mem_cons, List.not_mem_nil, or_false] at hu hw hx
    rcases hu with rfl | rfl <;> rcases hw with rfl | rfl <;> rcases hx with rfl | rfl <;> simp_all
/-- both places tied to one gone through -/
theorem Wk.both (w : Wk n r s l y) (g : Gr n r) {j v : Nat} (hj : 1 ≤ j) (hv : l[j]? = some v) : ∃ u z, l[j - 1]? = some u ∧ (l ++ [y])[j + 1]? = some z ∧ u ∈ nb n r v ∧ z ∈ nb n r v ∧ (y ∉ l ∨ j + 1 < l.length → u ≠ z) := by
  have jl := (List.getElem?_eq_some_iff.mp hv).1
  have eu : l[j - 1]? = some l[j - 1] := List.getElem?_eq_getElem (by omega)
  have ez : (l ++ [y])[j + 1]? = some ((l ++ [y])[j + 1]'(by rw [List.length_append]; show j + 1 < l.length + 1; omega)) := List.getElem?_eq_getElem _
  have t1 := w.tied (j - 1) _ v eu (by rw [show j - 1 + 1 = j by omega, List.getElem?_append_left jl]; exact hv)
  have t2 := w.tied j v _ hv ez
  refine ⟨_, _, eu, ez, mem_nb.mpr ⟨g.lt _ _ t1, by rw [g.sym]; exact t1⟩, mem_nb.mpr ⟨g.lt2 t2, t2⟩, fun h e => ?_⟩
  by_cases c : j + 1 < l.length
  · rw [List.getElem?_append_left c] at ez
    rw [← e] at ez
    have := nd_ix w.nd eu ez
    omega
  · have hy : y ∉ l := h.resolve_right c
    rw [List.getElem?_append_right (by omega), show j + 1 - l.length = 0 by omega] at ez
    have : y = l[j - 1] := (Option.some.inj ez).trans e.symm
    exact hy (by rw [this]; exact List.getElem_mem _)
theorem Wk.step (w : Wk n r s l y) (g : Gr n r) (ys : y ≠ s) {a b p : Nat} (hnb : nb n r y = [a, b]) (hp : l[l.length - 1]? = some p) : Wk n r s (l ++ [y]) (if a = p then b else a) ∧ r y (if a = p then b else a) = true := by
  have yl : y ∉ l := fun z => ys (w.nin z)
  have pos := w.pos
  obtain ⟨p', hp', rp⟩ := w.last
  rw [hp] at hp'
  cases hp'
  have nd2 : (nb n r y).Nodup := nodup_of_lt (nb_pw n r y)
  rw [hnb] at nd2
  have ab : a ≠ b := by simpa using nd2
  have pin : p ∈ nb n r y := mem_nb.mpr ⟨g.lt _ _ rp, by rw [g.sym]; exact rp⟩
  have pab : p = a ∨ p = b := by rw [hnb] at pin; simpa using pin
  have hy2 : (if a = p then b else a) ≠ p ∧ (if a = p then b else a) ∈ nb n r y := by
    rw [hnb]
    by_cases c : a = p
    · rw [if_pos c]
      exact ⟨fun z => ab (by rw [c, z]), by simp⟩
    · rw [if_neg c]
      exact ⟨c, by simp⟩
  generalize (if a = p then b else a) = y' at *
  obtain ⟨y1, y2⟩ := hy2
  have ry := (mem_nb.mp y2).2
  refine ⟨⟨?_, nodup_snoc w.nd yl, fun z => ?_, fun i u v h1 h2 => ?_, fun i u hi h1 => ?_, fun k u hk h1 => ?_⟩, ry⟩
  · rw [List.getElem?_append_left pos]
    exact w.hd
  · rcases mem_snoc.mp z with z | z
    · obtain ⟨j, hj⟩ := List.getElem?_of_mem z
      have jl := (List.getElem?_eq_some_iff.mp hj).1
      by_cases j0 : j = 0
      · subst j0
        rw [w.hd] at hj
        exact (Option.some.inj hj).symm
      · exfalso
        obtain ⟨u, v, hu, hv, u2, v2, ne⟩ := w.both g (by omega) hj
        have ne := ne (.inl yl)
        have yin : y ∈ nb n r y' := mem_nb.mpr ⟨g.lt _ _ ry, by rw [g.sym]; exact ry⟩
        rcases two_of (nodup_of_lt (nb_pw n r y')) (w.two j y' (by omega) hj) u2 v2 ne yin with q | q
        · exact yl (by rw [q]; exact List.mem_of_getElem? hu)
        · by_cases c : j + 1 < l.length
          · rw [List.getElem?_append_left c] at hv
            exact yl (by rw [q]; exact List.mem_of_getElem? hv)
          · have : j = l.length - 1 := by omega
            rw [this, hp] at hj
            exact y1 (Option.some.inj hj).symm
    · rw [z, g.irr] at ry
      cases ry
  · by_cases c : i < l.length
    · rw [List.getElem?_append_left c] at h1
      rw [List.getElem?_append_left (by rw [List.length_append]; show i + 1 < l.length + 1; omega)] at h2
      exact w.tied i u v h1 h2
    · have il := (List.getElem?_eq_some_iff.mp h1).1
      rw [List.length_append] at il
      have : i = l.length := by
        have : [y].length = 1 := rfl
        omega
      subst this
      rw [List.getElem?_append_right (Nat.le_refl _), Nat.sub_self] at h1
      rw [List.getElem?_append_right (by rw [List.length_append]; exact Nat.le_refl _)] at h2
      rw [show l.length + 1 - (l ++ [y]).length = 0 by rw [List.length_append]; show l.length + 1 - (l.length + 1) = 0; omega] at h2
      cases h1
      cases h2
      exact ry
  · by_cases c : i < l.length
    · rw [List.getElem?_append_left c] at h1
      exact w.two i u hi h1
    · rw [List.getElem?_append_right (by omega)] at h1
      have := (List.getElem?_eq_some_iff.mp h1).1
      have i0 : i - l.length = 0 := by simp at this; omega
      rw [i0] at h1
      cases h1
      rw [hnb]
      rfl
  · rw [List.length_append] at hk
    have : [y].length = 1 := rfl
    have e : k = l.length - 1 := by omega
    have bl : l.length - 1 < l.length := by omega
    rw [e, List.getElem?_append_left bl, hp] at h1
    cases h1
    exact y1
theorem Wk.conn (w : Wk n r s l y) : ∀ {i v : Nat}, (l ++ [y])[i]? = some v → Conn r s v
  | 0, v, h => by
    rw [List.getElem?_append_left w.pos, w.hd] at h
    cases h
    exact .refl _
  | i + 1, v, h => by
    have hl := (List.getElem?_eq_some_iff.mp h).1
    rw [List.length_append] at hl
    have one : [y].length = 1 := rfl
    have eu : l[i]? = some l[i] := List.getElem?_eq_getElem (by omega)
    have il : i < l.length := by omega
    exact .step (w.conn (i := i) (by rw [List.getElem?_append_left il]; exact eu)) (w.tied i _ v eu h)
theorem Wk.len (w : Wk n r s l y) (g : Gr n r) (hs : s < n) : l.length ≤ n := nodup_le w.nd fun x hx => by
  obtain ⟨i, hi⟩ := List.getElem?_of_mem hx
  exact (w.conn (i := i) (by rw [List.getElem?_append_left (List.getElem?_eq_some_iff.mp hi).1]; exact hi)).lt g hs
theorem Wk.yconn (w : Wk n r s l y) : Conn r s y := w.conn (i := l.length) (by rw [List.getElem?_append_right (Nat.le_refl _), Nat.sub_self]; rfl)
/-- a walk that has come round -/
theorem Wk.round (w : Wk n r s l s) (g : Gr n r) (h2 : ∀ v ∈ l, (nb n r v).length = 2) : ∀ v ∈ l, ∀ x, r v x = true → x ∈ l := by
  have pos := w.pos
  obtain ⟨p, hp, rp⟩ := w.last
  have l3 : 3 ≤ l.length := by
    refine Nat.le_of_not_lt fun z => ?_
    have : l.length = 1 ∨ l.length = 2 := by omega
    rcases this with h | h
    · rw [h] at hp
      rw [show 1 - 1 = 0 by rfl, w.hd] at hp
      cases hp
      rw [g.irr] at rp
      cases rp
    · exact w.nt 0 s (by omega) w.hd rfl
  intro v hv x hx
  have xin : x ∈ nb n r v := mem_nb.mpr ⟨g.lt2 hx, hx⟩
  obtain ⟨j, hj⟩ := List.getElem?_of_mem hv
  have jl := (List.getElem?_eq_some_iff.mp hj).1
  have nd := nodup_of_lt (nb_pw n r v)
  by_cases j0 : j = 0
  · subst j0
    rw [w.hd] at hj
    cases hj
    have e1 : l[1]? = some l[1] := List.getElem?_eq_getElem (by omega)
    have t1 := w.tied 0 _ _ w.hd (by rw [List.getElem?_append_left (by omega)]; exact e1)
    have ne : l[1] ≠ p := fun z => by
      rw [← z] at hp
      have := nd_ix w.nd e1 hp
      omega
    rcases two_of nd (h2 _ hv) (mem_nb.mpr ⟨g.lt2 t1, t1⟩) (mem_nb.mpr ⟨g.lt _ _ rp, by rw [g.sym]; exact rp⟩) ne xin with q | q
    · rw [q]; exact List.getElem_mem _
    · rw [q]; exact List.mem_of_getElem? hp
  · obtain ⟨u, z, hu, hz, u2, z2, ne⟩ := w.both g (by omega) hj
    have uz : u ≠ z := by
      by_cases c : j + 1 < l.length
      · exact ne (.inr c)
      · intro e
        rw [List.getElem?_append_right (by omega), show j + 1 - l.length = 0 by omega] at hz
        have hz : s = z := Option.some.inj hz
        rw [e, ← hz] at hu
        have := nd_ix w.nd hu w.hd
        omega
    rcases two_of nd (h2 _ hv) u2 z2 uz xin with q | q
    · rw [q]; exact List.mem_of_getElem? hu
    · rw [q]
      rcases mem_snoc.mp (List.mem_of_getElem? hz) with k | k
      · exact k
      · rw [k]; exact List.mem_of_getElem? w.hd
end
/-! ### parts of a relation, ascending -/
structure IsPart (n : Nat) (r : Rel) (P : List Nat) : Prop where
  asc : P.Pairwise (· < ·)
  lt : ∀ v ∈ P, v < n
  co : ∀ u ∈ P, ∀ v, v ∈ P ↔ Conn r u v
section
variable {r : Rel} {s : Nat}
theorem conn_in {Q : Nat → Prop} {v : Nat} (cl : ∀ v, Q v → ∀ x, r v x = true → Q x) (h : Conn r s v) (q : Q s) : Q v := by
  induction h with
  | refl => exact q
  | step _ e ih => exact cl _ ih _ e
end
section
variable {n : Nat} {e : Rel} {S : List Nat}
theorem cls_part {r : Rel} (g : Gr n r) {h : Nat} (hm : mn r h = h) : IsPart n r (cls n r h) := ⟨cls_pw n r h, fun v hv => (mem_cls.mp hv).1, fun u hu v => by
  obtain ⟨u1, u2⟩ := mem_cls.mp hu
  rw [mem_cls]
  constructor
  · rintro ⟨v1, v2⟩
    exact (conn_iff g).mpr (by rw [u2, v2])
  · intro c
    exact ⟨c.lt g u1, by rw [← mn_eq g c, u2]⟩⟩
theorem not_leaf {v : Nat} (h : leaves n e S = []) (hv : v < n) : (nb n (eR e S) v).length ≠ 1 := fun z => by
  have : v ∈ leaves n e S := List.mem_filter.mpr ⟨List.mem_range.mpr hv, by rw [beq_iff_eq, cntR]; exact z⟩
  rw [h] at this
  cases this
end
/-! ### the forms of parts -/
theorem bnd_eq {α β : Type} {o : Option α} {x : α} {f : α → Option β} {y : Option β} (h : o = some x) (k : f x = y) : o.bind f = y := by subst h; exact k
section
variable {n : Nat} {r : Rel} {s : Nat} {P : List Nat}
def Tells (n : Nat) (r : Rel) (P : List Nat) (d : List (Nat × List Nat)) : Prop := ∀ v ∈ P, dget d v = some (nb n r v)
theorem ixO_2 {l : List Nat} {p y : Nat} (h : l[l.length - 1]? = some p) : ixO (l ++ [y]) (-((2 : Nat) : Int)) = some p := by
  have := (List.getElem?_eq_some_iff.mp h).1
  have e : (l ++ [y]).length = l.length + 1 := List.length_append
  unfold ixO
  rw [if_neg (by omega), if_pos (by rw [e]; omega)]
  have e2 : (((l ++ [y]).length : Int) + -((2 : Nat) : Int)).toNat = l.length - 1 := by rw [e]; omega
  rw [e2, List.getElem?_append_left this]
  exact h
theorem pick_eq {a p b : Nat} : (if (decide (a = p)) = true then (some b) else (some a)) = some (if a = p then b else a) := by
  by_cases c : a = p
  · rw [if_pos (decide_eq_true c), if_pos c]
  · rw [if_neg (by rw [decide_eq_false c]; decide), if_neg c]
theorem two_nb {y : Nat} (h : (nb n r y).length = 2) : ∃ a b, nb n r y = [a, b] := by
  match nb n r y, h with
  | [a, b], _ => exact ⟨a, b, rfl⟩
theorem ring_all (g : Gr n r) (hn : n ≤ 100) (p : IsPart n r P) (hs : s ∈ P) (h2 : ∀ v ∈ P, (nb n r v).length = 2) : ∃ l, (∀ d, Tells n r P d → f_ring_from d s = some l) ∧ srtN l = P := by
  have sn := p.lt s hs
  have inP : ∀ {v}, Conn r s v → v ∈ P := fun h => (p.co s hs _).mpr h
  obtain ⟨a, b, hnb⟩ := two_nb (h2 s hs)
  have ra : min a b ∈ nb n r s := by
    rw [hnb]
    rcases Nat.le_total a b with h | h
    · rw [Nat.min_eq_left h]; simp
    · rw [Nat.min_eq_right h]; simp
  have rm := (mem_nb.mp ra).2
  obtain ⟨st, w1, w2, w3⟩ := whl_all (S := Nat × List Nat) (D := List (Nat × List Nat)) (P := Tells n r P) (c := fun _ s13 => some (!decide (s13.1 = s))) (body := fun d s13 =>
    (gd (s13.2.length < 100000)).bind fun _ =>
    (dget d s13.1).bind fun x30 =>
    (x30[0]?).bind fun x33 =>
    (x30[1]?).bind fun x34 =>
    (gd (x30.length = 2)).bind fun _ =>
    (ixO (s13.2 ++ [s13.1]) (-((2 : Nat) : Int))).bind fun x42 =>
    (if (decide (x33 = x42)) = true then (
        some x34
      ) else (
        some x33)).bind fun y55 =>
    some (y55, (s13.2 ++ [s13.1]))) (fun st => Wk n r s st.2 st.1) (fun st => st.1 = s) (fun st => n + 1 - st.2.length) (fun st w => by
      refine ⟨_, fun _ _ => rfl, fun h => ?_, fun h => by simpa using h⟩
      have ne : st.1 ≠ s := by simpa using h
      obtain ⟨y, l⟩ := st
      have w : Wk n r s l y := w
      have ne : y ≠ s := ne
      obtain ⟨a1, b1, e1⟩ := two_nb (h2 y (inP w.yconn))
      obtain ⟨q, hq, rq⟩ := w.last
      obtain ⟨k1, k2⟩ := w.step g ne e1 hq
      have zl := w.len g sn
      refine ⟨(if a1 = q then b1 else a1, l ++ [y]), fun d hd => ?_, k1, ?_⟩
      · exact bnd_eq (gd_true (by show l.length < 100000; omega)) (bnd_eq ((hd y (inP w.yconn)).trans (congrArg some e1)) (bnd_eq rfl (bnd_eq rfl (bnd_eq (gd_true rfl) (bnd_eq (ixO_2 hq) (bnd_eq pick_eq rfl))))))
      · show n + 1 - (l ++ [y]).length < n + 1 - l.length
        rw [List.length_append]
        show n + 1 - (l.length + 1) < _
        omega) 100000 (min a b, [s]) (Wk.start g rm) (by show n + 1 - 1 < 100000; omega)
  obtain ⟨y, l⟩ := st
  have w2 : Wk n r s l y := w2
  have w3 : y = s := w3
  subst w3
  refine ⟨l, fun d hd => ?_, ?_⟩
  · unfold f_ring_from
    exact bnd_eq ((hd _ hs).trans (congrArg some hnb)) (bnd_eq rfl (bnd_eq (w1 d hd) rfl))
  · have lin : ∀ v ∈ l, v ∈ P := fun v hv => by
      obtain ⟨i, hi⟩ := List.getElem?_of_mem hv
      exact inP (w2.conn (i := i) (by rw [List.getElem?_append_left (List.getElem?_eq_some_iff.mp hi).1]; exact hi))
    have cl := w2.round g fun v hv => h2 v (lin v hv)
    refine (srtN_eq ((List.perm_ext_iff_of_nodup (nodup_of_lt p.asc) w2.nd).mpr fun v => ⟨fun hv => ?_, lin v⟩) (p.asc.imp fun h => Nat.le_of_lt h)).symm
    exact conn_in cl ((p.co _ hs v).mp hv) (List.mem_of_getElem? w2.hd)
theorem way_all (g : Gr n r) (hn : n ≤ 100) (p : IsPart n r P) (hs : s ∈ P) (h2 : (nb n r s).length ≠ 2) {x : Nat} (hx : x ∈ nb n r s) : ∃ q, ∀ d, Tells n r P d → f_way_from d s x = some q := by
  have sn := p.lt s hs
  have inP : ∀ {v}, Conn r s v → v ∈ P := fun h => (p.co s hs _).mpr h
  obtain ⟨st, w1, _, _⟩ := whl_all (S := Nat × Nat × List Nat) (D := List (Nat × List Nat)) (P := Tells n r P) (c := fun d s8 =>
    (dget d s8.2.1).bind fun x63 =>
    some (decide (x63.length = 2))) (body := fun d s8 =>
    (gd (s8.2.2.length < 100000)).bind fun _ =>
    (dget d s8.2.1).bind fun x25 =>
    (x25[0]?).bind fun x28 =>
    (x25[1]?).bind fun x29 =>
    (gd (x25.length = 2)).bind fun _ =>
    (if (decide (x28 = s8.1)) = true then (
        some x29
      ) else (
        some x28)).bind fun y47 =>
    some (s8.2.1, y47, (s8.2.2 ++ [s8.2.1]))) (fun st => Wk n r s (s :: st.2.2) st.2.1 ∧ (s :: st.2.2)[(s :: st.2.2).length - 1]? = some st.1) (fun _ => True) (fun st => n + 1 - st.2.2.length) (fun st w => by
      obtain ⟨q, y, l⟩ := st
      obtain ⟨w, hq⟩ := w
      have w : Wk n r s (s :: l) y := w
      have hq : (s :: l)[(s :: l).length - 1]? = some q := hq
      have yP := inP w.yconn
      refine ⟨decide ((nb n r y).length = 2), fun d hd => bnd_eq (hd y yP) rfl, fun h => ?_, fun _ => trivial⟩
      have e2 := of_decide_eq_true h
      have ne : y ≠ s := fun z => h2 (by rw [← z]; exact e2)
      obtain ⟨a1, b1, e1⟩ := two_nb e2
      obtain ⟨k1, k2⟩ := w.step g ne e1 hq
      have zl := w.len g sn
      have zl : l.length + 1 ≤ n := zl
      refine ⟨(y, if a1 = q then b1 else a1, l ++ [y]), fun d hd => ?_, ⟨k1, ?_⟩, ?_⟩
      · exact bnd_eq (gd_true (by show l.length < 100000; omega)) (bnd_eq ((hd y yP).trans (congrArg some e1)) (bnd_eq rfl (bnd_eq rfl (bnd_eq (gd_true rfl) (bnd_eq pick_eq rfl)))))
      · show ((s :: l) ++ [y])[((s :: l) ++ [y]).length - 1]? = some y
        rw [List.length_append, show (s :: l).length + [y].length - 1 = (s :: l).length from rfl, List.getElem?_append_right (Nat.le_refl _), Nat.sub_self]
        rfl
      · show n + 1 - (l ++ [y]).length < n + 1 - l.length
        rw [List.length_append]
        show n + 1 - (l.length + 1) < _
        omega) 100000 (s, x, []) ⟨Wk.start g (mem_nb.mp hx).2, rfl⟩ (by show n + 1 - 0 < 100000; omega)
  exact ⟨_, fun d hd => by unfold f_way_from; exact bnd_eq (w1 d hd) rfl⟩
end
/-! ### the three ways; the form of a part -/
def Nice (k : Nat) (d : PyData) : Prop := PyData.canLay0 d = true ∧ PyData.depth d ≤ k ∧ PyData.eqv d d = true
theorem nice_all {k : Nat} : ∀ {ds : List PyData}, (∀ d ∈ ds, Nice k d) → PyData.canLayAll0 ds = true ∧ PyData.depthAll ds ≤ k ∧ PyData.eqvAll ds ds = true
  | [], _ => ⟨rfl, Nat.zero_le _, rfl⟩
  | d :: t, h => by
    obtain ⟨a1, a2, a3⟩ := h d (List.mem_cons_self ..)
    obtain ⟨b1, b2, b3⟩ := nice_all fun x hx => h x (List.mem_cons_of_mem _ hx)
    refine ⟨?_, ?_, ?_⟩
    · show (_ && _) = true
      rw [a1, b1]; rfl
    · show max _ _ ≤ k
      omega
    · show (_ && _) = true
      rw [a3, b3]; rfl
theorem nice_list {k : Nat} {ds : List PyData} (h : ∀ d ∈ ds, Nice k d) : Nice (k + 1) (.list ds) := by
  obtain ⟨a, b, c⟩ := nice_all h
  exact ⟨a, Nat.succ_le_succ b, c⟩
theorem nice_tup {k : Nat} {ds : List PyData} (h : ∀ d ∈ ds, Nice k d) : Nice (k + 1) (.tuple ds) := by
  obtain ⟨a, b, c⟩ := nice_all h
  exact ⟨a, Nat.succ_le_succ b, c⟩
theorem nice_int (k : Nat) (n : Nat) : Nice k (.int (n : Int)) := ⟨rfl, Nat.zero_le _, by show ((n : Int) == (n : Int)) = true; exact beq_self_eq_true _⟩
theorem nice_str (k : Nat) (s : Str) (h : PyData.canLay0 (.str s) = true) : Nice k (.str s) := ⟨h, Nat.zero_le _, by show (s == s) = true; exact beq_self_eq_true _⟩
theorem nice_none (k : Nat) : Nice k .none := ⟨rfl, Nat.zero_le _, rfl⟩
theorem nice_nats (k : Nat) (l : List Nat) : Nice (k + 1) ((cvL cvN).d l) := nice_list fun d hd => by
  obtain ⟨n, _, rfl⟩ := List.mem_map.mp hd
  exact nice_int k n
theorem nice_natss (k : Nat) (l : List (List Nat)) : Nice (k + 2) ((cvL (cvL cvN)).d l) := nice_list fun d hd => by
  obtain ⟨n, _, rfl⟩ := List.mem_map.mp hd
  exact nice_nats k n
theorem nice_shaped {k : Nat} {d : PyData} (h : Nice k d) (hk : k ≤ 64) : SeqAt.shaped d = true := by
  unfold SeqAt.shaped
  rw [h.1, decide_eq_true (Nat.le_trans h.2.1 hk)]
  rfl
theorem ite_som {α : Type} {c : Bool} {x : α} : (if c = true then some (some x) else some none) = some (if c = true then some x else none) := by
  cases c <;> rfl
theorem compO3 {α β : Type} {f : α → Option (Option β)} {a b c : α} {u v w : β} (h1 : f a = some (some u)) (h2 : f b = some (some v)) (h3 : f c = some (some w)) : compO f [a, b, c] = some [u, v, w] := by
  show (f a).bind _ = _
  rw [h1]
  show ((f b).bind _).bind _ = _
  rw [h2]
  show (((f c).bind _).bind _).bind _ = _
  rw [h3]
  rfl
section
variable {n : Nat} {r : Rel} {P : List Nat}
def endsOf (n : Nat) (r : Rel) (P : List Nat) : List Nat := P.filter fun v => !decide ((nb n r v).length = 2)
def IsWays (n : Nat) (r : Rel) (P : List Nat) (q : PyData) : Prop := q = .none ∨ (∃ x y, endsOf n r P = [x, y] ∧ (nb n r x).length = 3 ∧ (nb n r y).length = 3) ∧ ∃ L, q = .tuple (.str "ways" :: L)
def tW (x y : Nat) (W : List (List Nat)) : Option PyData :=
      (W[0]?).bind fun x232 =>
      (if (!decide (x232.length = 1)) = true then some true else (
          (W[1]?).bind fun x240 =>
          (if (!decide (x240.length = 1)) = true then some true else (
              (W[2]?).bind fun x248 =>
              some (decide ((x248.length % 2) = 0))
            )).bind fun b253 =>
          some b253
        )).bind fun b257 =>
      if b257 = true then
        some (cvU.d ())
      else
        some (PyData.tuple [(cvS.d ("ways")), (cvN.d x), (cvN.d y), ((cvL (cvL cvN)).d W)])
theorem tW_ok {x y : Nat} {W : List (List Nat)} (h : W.length = 3) : tW x y W = some .none ∨ tW x y W = some (PyData.tuple [(cvS.d ("ways")), (cvN.d x), (cvN.d y), ((cvL (cvL cvN)).d W)]) := by
  match W, h with
  | [a, b, c], _ =>
    by_cases h0 : a.length = 1
    · by_cases h1 : b.length = 1
      · by_cases h2 : c.length % 2 = 0
        · refine .inl (bnd_eq rfl (bnd_eq (x := true) ?_ rfl))
          rw [decide_eq_true h0]
          refine (if_neg (by decide)).trans (bnd_eq rfl (bnd_eq (x := true) ?_ rfl))
          rw [decide_eq_true h1]
          exact (if_neg (by decide)).trans (bnd_eq rfl (congrArg some (decide_eq_true h2)))
        · refine .inr (bnd_eq rfl (bnd_eq (x := false) ?_ rfl))
          rw [decide_eq_true h0]
          refine (if_neg (by decide)).trans (bnd_eq rfl (bnd_eq (x := false) ?_ rfl))
          rw [decide_eq_true h1]
          exact (if_neg (by decide)).trans (bnd_eq rfl (congrArg some (decide_eq_false h2)))
      · refine .inl (bnd_eq rfl (bnd_eq (x := true) ?_ rfl))
        rw [decide_eq_true h0]
        refine (if_neg (by decide)).trans (bnd_eq rfl (bnd_eq (x := true) ?_ rfl))
        rw [decide_eq_false h1]
        rfl
    · refine .inl (bnd_eq rfl (bnd_eq (x := true) ?_ rfl))
      rw [decide_eq_false h0]
      rfl
theorem three_all (g : Gr n r) (hn : n ≤ 100) (p : IsPart n r P) : ∃ q, (∀ d, Tells n r P d → f_three_ways d P = some q) ∧ IsWays n r P q ∧ Nice 8 q := by
  have zP : P.length ≤ n := nodup_le (nodup_of_lt p.asc) p.lt
  have hE : ∀ d, Tells n r P d → compO (β := Nat) (fun (x6 : Nat) =>
      (dget d x6).bind fun x23 =>
      if (!decide (x23.length = 2)) = true then
        some (some x6)
      else some none) P = some (endsOf n r P) := fun d hd => compO_filter fun x hx => bnd_eq (hd x hx) ite_som
  have zE : (endsOf n r P).length ≤ P.length := List.length_filter_le _ _
  by_cases hl : (endsOf n r P).length = 2
  · obtain ⟨x, y, exy⟩ : ∃ x y, endsOf n r P = [x, y] := by
      match endsOf n r P, hl with
      | [x, y], _ => exact ⟨x, y, rfl⟩
    have hxE : x ∈ endsOf n r P := by rw [exy]; simp
    have hyE : y ∈ endsOf n r P := by rw [exy]; simp
    have hx := (List.mem_filter.mp hxE).1
    have hy := (List.mem_filter.mp hyE).1
    have hx2 : (nb n r x).length ≠ 2 := by simpa using (List.mem_filter.mp hxE).2
    have hL : ∀ d, Tells n r P d → compO (β := Nat) (fun (x52 : Nat) =>
        (dget d x52).bind fun x69 =>
        some (some x69.length)) [x, y] = some [(nb n r x).length, (nb n r y).length] := fun d hd => compO_all (g := fun v => (nb n r v).length) fun v hv => by
      refine bnd_eq (hd v ?_) rfl
      rcases List.mem_cons.mp hv with rfl | h
      · exact hx
      · rw [List.mem_singleton.mp h]; exact hy
    by_cases h3 : [(nb n r x).length, (nb n r y).length] = [3, 3]
    · have h3x : (nb n r x).length = 3 := by simpa using (List.cons.inj h3).1
      have h3y : (nb n r y).length = 3 := by simpa using (List.cons.inj (List.cons.inj h3).2).1
      obtain ⟨a, b, c, eabc⟩ : ∃ a b c, nb n r x = [a, b, c] := by
        match nb n r x, h3x with
        | [a, b, c], _ => exact ⟨a, b, c, rfl⟩
      obtain ⟨q1, w1⟩ := way_all g hn p hx hx2 (x := a) (by rw [eabc]; simp)
      obtain ⟨q2, w2⟩ := way_all g hn p hx hx2 (x := b) (by rw [eabc]; simp)
      obtain ⟨q3, w3⟩ := way_all g hn p hx hx2 (x := c) (by rw [eabc]; simp)
      have hW : ∀ d, Tells n r P d → compO (β := ((List Nat) × Nat)) (fun (x110 : Nat) =>
          (f_way_from d x x110).bind fun x127 =>
          some (some x127)) [a, b, c] = some [q1, q2, q3] := fun d hd => compO3 (bnd_eq (w1 d hd) rfl) (bnd_eq (w2 d hd) rfl) (bnd_eq (w3 d hd) rfl)
      have pre : ∀ d, Tells n r P d → ∀ q, (if (!eqD [q1.2, q2.2, q3.2] [y, y, y]) = true then some (cvU.d ()) else tW x y (srtD (keyLen dtN) [q1.1, q2.1, q3.1])) = some q → f_three_ways d P = some q := fun d hd q hq => by
        unfold f_three_ways
        refine bnd_eq ((hE d hd).trans (congrArg some exy)) (bnd_eq (gd_true (by show 2 ≤ 100000; omega)) (bnd_eq (x := false) ?_ ?_))
        · exact bnd_eq (hL d hd) (bnd_eq (gd_true (by show 2 ≤ 100000; omega)) (congrArg some (by rw [eqD_yes h3]; rfl)))
        · refine (if_neg (by decide)).trans (bnd_eq (x := x) rfl (bnd_eq (x := y) rfl (bnd_eq (gd_true rfl) (bnd_eq ((hd x hx).trans (congrArg some eabc)) (bnd_eq (hW d hd) (bnd_eq (gd_true (by show 3 ≤ 100000; omega)) (bnd_eq (x := [q1.2, q2.2, q3.2]) rfl (bnd_eq (gd_true (by show 3 ≤ 100000; omega)) ?_))))))))
          by_cases h4 : [q1.2, q2.2, q3.2] = [y, y, y]
          · rw [eqD_yes h4] at hq ⊢
            refine (if_neg (by decide)).trans (bnd_eq (x := [q1.1, q2.1, q3.1]) rfl (bnd_eq (gd_true (by show 3 ≤ 100000; omega)) ?_))
            exact (if_neg (by decide)).symm.trans hq
          · rw [eqD_no h4] at hq ⊢
            exact hq
      by_cases h4 : [q1.2, q2.2, q3.2] = [y, y, y]
      · rcases tW_ok (x := x) (y := y) (W := srtD (keyLen dtN) [q1.1, q2.1, q3.1]) (by unfold srtD; rw [List.length_mergeSort]; rfl) with k | k
        · refine ⟨_, fun d hd => pre d hd .none ?_, .inl rfl, nice_none _⟩
          rw [eqD_yes h4]
          exact k
        · refine ⟨_, fun d hd => pre d hd _ (by rw [eqD_yes h4]; exact k), .inr ⟨⟨x, y, exy, h3x, h3y⟩, _, rfl⟩, nice_tup (k := 7) fun d hd => ?_⟩
          simp only [List.mem_cons, List.not_mem_nil, or_false] at hd
          rcases hd with rfl | rfl | rfl | rfl
          · exact nice_str _ _ (by decide +kernel)
          · exact nice_int _ _
          · exact nice_int _ _
          · exact nice_natss 5 _
      · refine ⟨_, fun d hd => pre d hd .none ?_, .inl rfl, nice_none _⟩
        rw [eqD_no h4]
        rfl
    · refine ⟨.none, fun d hd => ?_, .inl rfl, nice_none _⟩
      unfold f_three_ways
      refine bnd_eq ((hE d hd).trans (congrArg some exy)) (bnd_eq (gd_true (by show 2 ≤ 100000; omega)) (bnd_eq (x := true) ?_ rfl))
      exact bnd_eq (hL d hd) (bnd_eq (gd_true (by show 2 ≤ 100000; omega)) (congrArg some (by rw [eqD_no h3]; rfl)))
  · refine ⟨.none, fun d hd => ?_, .inl rfl, nice_none _⟩
    unfold f_three_ways
    refine bnd_eq (hE d hd) (bnd_eq (gd_true (by omega)) (bnd_eq (x := true) ?_ rfl))
    rw [decide_eq_false hl]
    rfl
structure Form (n : Nat) (r : Rel) (P : List Nat) (q : PyData) : Prop where
  one : ∀ v, P = [v] → q = .tuple [.str "one", .int (v : Int)]
  odd : P.length ≠ 1 → (∀ v ∈ P, (nb n r v).length = 2) → P.length % 2 = 1 → q = .none
  ring : P.length ≠ 1 → (∀ v ∈ P, (nb n r v).length = 2) → P.length % 2 ≠ 1 → ∃ l, srtN l = P ∧ q = .tuple [.str "ring", (cvL cvN).d l]
  ways : P.length ≠ 1 → ¬ (∀ v ∈ P, (nb n r v).length = 2) → IsWays n r P q
  nice : Nice 8 q
theorem part_all (g : Gr n r) (hn : n ≤ 100) (p : IsPart n r P) (ne : P ≠ []) : ∃ q, (∀ d, Tells n r P d → f_part_form d P = some q) ∧ Form n r P q := by
  have zP : P.length ≤ n := nodup_le (nodup_of_lt p.asc) p.lt
  obtain ⟨s, hs⟩ : ∃ s, P[0]? = some s := by
    match P, ne with
    | s :: _, _ => exact ⟨s, rfl⟩
  have sP := List.mem_of_getElem? hs
  by_cases h1 : P.length = 1
  · have eP : P = [s] := by
      match P, h1, hs with
      | [a], _, h => cases h; rfl
    refine ⟨.tuple [.str "one", .int (s : Int)], fun d hd => ?_, fun v hv => ?_, fun h => absurd h1 h, fun h => absurd h1 h, fun h => absurd h1 h, nice_tup (k := 7) fun d hd => ?_⟩
    · unfold f_part_form
      rw [decide_eq_true h1]
      exact bnd_eq hs rfl
    · rw [eP] at hv
      cases hv
      rfl
    · simp only [List.mem_cons, List.not_mem_nil, or_false] at hd
      rcases hd with rfl | rfl
      · exact nice_str _ _ (by decide +kernel)
      · exact nice_int _ _
  · have hC : ∀ d, Tells n r P d → compO (β := Bool) (fun (x18 : Nat) =>
        (dget d x18).bind fun x35 =>
        some (some (decide (x35.length = 2)))) P = some (P.map fun v => decide ((nb n r v).length = 2)) := fun d hd => compO_all fun v hv => bnd_eq (hd v hv) rfl
    have hA : ((P.map fun v => decide ((nb n r v).length = 2)).all id) = decide (∀ v ∈ P, (nb n r v).length = 2) := by
      rw [Bool.eq_iff_iff, List.all_eq_true, decide_eq_true_eq]
      constructor
      · exact fun h v hv => of_decide_eq_true (h _ (List.mem_map.mpr ⟨v, hv, rfl⟩))
      · rintro h b hb
        obtain ⟨v, hv, rfl⟩ := List.mem_map.mp hb
        exact decide_eq_true (h v hv)
    by_cases h2 : ∀ v ∈ P, (nb n r v).length = 2
    · rw [decide_eq_true h2] at hA
      by_cases h3 : P.length % 2 = 1
      · refine ⟨.none, fun d hd => ?_, fun v hv => absurd (by rw [hv]; rfl) h1, fun _ _ _ => rfl, fun _ _ h => absurd h3 h, fun _ h => absurd h2 h, nice_none _⟩
        unfold f_part_form
        rw [decide_eq_false h1]
        refine bnd_eq (hC d hd) (bnd_eq (gd_true (by rw [List.length_map]; omega)) ?_)
        rw [hA, decide_eq_true h3]
        rfl
      · obtain ⟨l, hl, hl2⟩ := ring_all g hn p sP h2
        refine ⟨_, fun d hd => ?_, fun v hv => absurd (by rw [hv]; rfl) h1, fun _ _ h => absurd h h3, fun _ _ _ => ⟨l, hl2, rfl⟩, fun _ h => absurd h2 h, nice_tup (k := 7) fun d hd => ?_⟩
        · unfold f_part_form
          rw [decide_eq_false h1]
          refine bnd_eq (hC d hd) (bnd_eq (gd_true (by rw [List.length_map]; omega)) ?_)
          rw [hA, decide_eq_false h3]
          exact bnd_eq hs (bnd_eq (hl d hd) rfl)
        · simp only [List.mem_cons, List.not_mem_nil, or_false] at hd
          rcases hd with rfl | rfl
          · exact nice_str _ _ (by decide +kernel)
          · exact nice_nats 6 _
    · rw [decide_eq_false h2] at hA
      obtain ⟨q, hq, hw, hN⟩ := three_all g hn p
      refine ⟨q, fun d hd => ?_, fun v hv => absurd (by rw [hv]; rfl) h1, fun _ h => absurd h h2, fun _ h => absurd h h2, fun _ _ => hw, hN⟩
      unfold f_part_form
      rw [decide_eq_false h1]
      refine bnd_eq (hC d hd) (bnd_eq (gd_true (by rw [List.length_map]; omega)) ?_)
      rw [hA]
      exact bnd_eq (hq d hd) rfl
end
/-! ### three ways of one place each -/
section
variable {n : Nat} {r : Rel} {s : Nat} {P : List Nat}
theorem way_all2 (g : Gr n r) (hn : n ≤ 100) (p : IsPart n r P) (hs : s ∈ P) (h2 : (nb n r s).length ≠ 2) {x : Nat} (hx : x ∈ nb n r s) : ∃ q : List Nat × Nat, (∀ d, Tells n r P d → f_way_from d s x = some q) ∧ Wk n r s (s :: q.1) q.2 ∧ (nb n r q.2).length ≠ 2 ∧ (s :: (q.1 ++ [q.2]))[1]? = some x := by
  have sn := p.lt s hs
  have inP : ∀ {v}, Conn r s v → v ∈ P := fun h => (p.co s hs _).mpr h
  obtain ⟨st, w1, w2, w3⟩ := whl_all (S := Nat × Nat × List Nat) (D := List (Nat × List Nat)) (P := Tells n r P) (c := fun d s8 =>
    (dget d s8.2.1).bind fun x63 =>
    some (decide (x63.length = 2))) (body := fun d s8 =>
    (gd (s8.2.2.length < 100000)).bind fun _ =>
    (dget d s8.2.1).bind fun x25 =>
    (x25[0]?).bind fun x28 =>
    (x25[1]?).bind fun x29 =>
    (gd (x25.length = 2)).bind fun _ =>
    (if (decide (x28 = s8.1)) = true then (
        some x29
      ) else (
        some x28)).bind fun y47 =>
    some (s8.2.1, y47, (s8.2.2 ++ [s8.2.1]))) (fun st => Wk n r s (s :: st.2.2) st.2.1 ∧ (s :: st.2.2)[(s :: st.2.2).length - 1]? = some st.1 ∧ (s :: (st.2.2 ++ [st.2.1]))[1]? = some x) (fun st => (nb n r st.2.1).length ≠ 2) (fun st => n + 1 - st.2.2.length) (fun st w => by
      obtain ⟨q, y, l⟩ := st
      obtain ⟨w, hq, hx1⟩ := w
      have w : Wk n r s (s :: l) y := w
      have hq : (s :: l)[(s :: l).length - 1]? = some q := hq
      have hx1 : (s :: (l ++ [y]))[1]? = some x := hx1
      have yP := inP w.yconn
      refine ⟨decide ((nb n r y).length = 2), fun d hd => bnd_eq (hd y yP) rfl, fun h => ?_, fun h => of_decide_eq_false h⟩
      have e2 := of_decide_eq_true h
      have ne : y ≠ s := fun z => h2 (by rw [← z]; exact e2)
      obtain ⟨a1, b1, e1⟩ := two_nb e2
      obtain ⟨k1, k2⟩ := w.step g ne e1 hq
      have zl := w.len g sn
      have zl : l.length + 1 ≤ n := zl
      refine ⟨(y, if a1 = q then b1 else a1, l ++ [y]), fun d hd => ?_, ⟨k1, ?_, ?_⟩, ?_⟩
      · exact bnd_eq (gd_true (by show l.length < 100000; omega)) (bnd_eq ((hd y yP).trans (congrArg some e1)) (bnd_eq rfl (bnd_eq rfl (bnd_eq (gd_true rfl) (bnd_eq pick_eq rfl)))))
      · show ((s :: l) ++ [y])[((s :: l) ++ [y]).length - 1]? = some y
        rw [List.length_append, show (s :: l).length + [y].length - 1 = (s :: l).length from rfl, List.getElem?_append_right (Nat.le_refl _), Nat.sub_self]
        rfl
      · show ((l ++ [y]) ++ [_])[0]? = some x
        have b0 : 0 < (l ++ [y]).length := by rw [List.length_append]; exact Nat.succ_pos _
        rw [List.getElem?_append_left b0]
        exact hx1
      · show n + 1 - (l ++ [y]).length < n + 1 - l.length
        rw [List.length_append]
        show n + 1 - (l.length + 1) < _
        omega) 100000 (s, x, []) ⟨Wk.start g (mem_nb.mp hx).2, rfl, rfl⟩ (by show n + 1 - 0 < 100000; omega)
  exact ⟨(st.2.2, st.2.1), fun d hd => by unfold f_way_from; exact bnd_eq (w1 d hd) rfl, w2.1, w3, w2.2.2⟩
/-- two places of three ties with the same three places between -/
def K23 (n : Nat) (r : Rel) (P : List Nat) : Prop := ∃ s t, endsOf n r P = [s, t] ∧ (nb n r s).length = 3 ∧ nb n r t = nb n r s ∧ ∀ x ∈ nb n r s, (nb n r x).length = 2
theorem way_one (g : Gr n r) {t x : Nat} {l : List Nat} {y : Nat} (w : Wk n r s (s :: l) y) (hy : (nb n r y).length ≠ 2) (h1 : (s :: (l ++ [y]))[1]? = some x) (hx : (nb n r x).length = 2) (st : s ≠ t) (rs : r x s = true) (rt : r x t = true) (ht : (nb n r t).length ≠ 2) : l = [x] ∧ y = t := by
  cases l with
  | nil =>
    have e : y = x := Option.some.inj h1
    rw [e] at hy
    exact absurd hx hy
  | cons z l =>
    have e : z = x := Option.some.inj h1
    subst e
    have two := fun u (hu : u ∈ nb n r z) => two_of (nodup_of_lt (nb_pw n r z)) hx (mem_nb.mpr ⟨g.lt2 rs, rs⟩) (mem_nb.mpr ⟨g.lt2 rt, rt⟩) st hu
    cases l with
    | nil =>
      have t1 := w.tied 1 z y rfl rfl
      have ne := w.nt 0 s rfl rfl
      rcases two _ (mem_nb.mpr ⟨g.lt2 t1, t1⟩) with q | q
      · exact absurd q ne
      · exact ⟨rfl, q⟩
    | cons u l =>
      have t1 := w.tied 1 z u rfl rfl
      have u2 := w.two 2 u (by omega) rfl
      rcases two _ (mem_nb.mpr ⟨g.lt2 t1, t1⟩) with q | q
      · have := w.nd
        rw [q] at this
        simp at this
      · rw [q] at u2
        exact absurd u2 ht
theorem one_way (g : Gr n r) {x : Nat} {l : List Nat} {y : Nat} (w : Wk n r s (s :: l) y) (h1 : (s :: (l ++ [y]))[1]? = some x) (hl : l.length = 1) : (nb n r x).length = 2 ∧ r x y = true := by
  match l, hl with
  | [z], _ =>
    have e : z = x := Option.some.inj h1
    subst e
    exact ⟨w.two 1 z (by omega) rfl, w.tied 1 z y rfl rfl⟩
theorem three_k23 (g : Gr n r) (hn : n ≤ 100) (p : IsPart n r P) : ∃ q, (∀ d, Tells n r P d → f_three_ways d P = some q) ∧ (K23 n r P → ∃ s t a b c, q = PyData.tuple [(cvS.d ("ways")), (cvN.d s), (cvN.d t), ((cvL (cvL cvN)).d [[a], [b], [c]])]) ∧ (¬ K23 n r P → q = .none ∨ ∃ s t W0 W1 W2, q = PyData.tuple [(cvS.d ("ways")), (cvN.d s), (cvN.d t), ((cvL (cvL cvN)).d [W0, W1, W2])] ∧ 2 ≤ W2.length) := by
  have zP : P.length ≤ n := nodup_le (nodup_of_lt p.asc) p.lt
  have hE : ∀ d, Tells n r P d → compO (β := Nat) (fun (x6 : Nat) =>
      (dget d x6).bind fun x23 =>
      if (!decide (x23.length = 2)) = true then
        some (some x6)
      else some none) P = some (endsOf n r P) := fun d hd => compO_filter fun x hx => bnd_eq (hd x hx) ite_som
  have zE : (endsOf n r P).length ≤ P.length := List.length_filter_le _ _
  by_cases hl : (endsOf n r P).length = 2
  · obtain ⟨x, y, exy⟩ : ∃ x y, endsOf n r P = [x, y] := by
      match endsOf n r P, hl with
      | [x, y], _ => exact ⟨x, y, rfl⟩
    have hxE : x ∈ endsOf n r P := by rw [exy]; simp
    have hyE : y ∈ endsOf n r P := by rw [exy]; simp
    have hx := (List.mem_filter.mp hxE).1
    have hy := (List.mem_filter.mp hyE).1
    have hx2 : (nb n r x).length ≠ 2 := by simpa using (List.mem_filter.mp hxE).2
    have hy2 : (nb n r y).length ≠ 2 := by simpa using (List.mem_filter.mp hyE).2
    have xy : x ≠ y := by
      have nd : (endsOf n r P).Nodup := (nodup_of_lt p.asc).filter _
      rw [exy] at nd
      simpa using nd
    have hL : ∀ d, Tells n r P d → compO (β := Nat) (fun (x52 : Nat) =>
        (dget d x52).bind fun x69 =>
        some (some x69.length)) [x, y] = some [(nb n r x).length, (nb n r y).length] := fun d hd => compO_all (g := fun v => (nb n r v).length) fun v hv => by
      refine bnd_eq (hd v ?_) rfl
      rcases List.mem_cons.mp hv with rfl | h
      · exact hx
      · rw [List.mem_singleton.mp h]; exact hy
    by_cases h3 : [(nb n r x).length, (nb n r y).length] = [3, 3]
    · have h3x : (nb n r x).length = 3 := by simpa using (List.cons.inj h3).1
      have h3y : (nb n r y).length = 3 := by simpa using (List.cons.inj (List.cons.inj h3).2).1
      obtain ⟨a, b, c, eabc⟩ : ∃ a b c, nb n r x = [a, b, c] := by
        match nb n r x, h3x with
        | [a, b, c], _ => exact ⟨a, b, c, rfl⟩
      have ha : a ∈ nb n r x := by rw [eabc]; simp
      have hb : b ∈ nb n r x := by rw [eabc]; simp
      have hc : c ∈ nb n r x := by rw [eabc]; simp
      obtain ⟨q1, w1, k1, n1, f1⟩ := way_all2 g hn p hx hx2 ha
      obtain ⟨q2, w2, k2, n2, f2⟩ := way_all2 g hn p hx hx2 hb
      obtain ⟨q3, w3, k3, n3, f3⟩ := way_all2 g hn p hx hx2 hc
      have hW : ∀ d, Tells n r P d → compO (β := ((List Nat) × Nat)) (fun (x110 : Nat) =>
          (f_way_from d x x110).bind fun x127 =>
          some (some x127)) [a, b, c] = some [q1, q2, q3] := fun d hd => compO3 (bnd_eq (w1 d hd) rfl) (bnd_eq (w2 d hd) rfl) (bnd_eq (w3 d hd) rfl)
      have pre : ∀ d, Tells n r P d → ∀ q, (if (!eqD [q1.2, q2.2, q3.2] [y, y, y]) = true then some (cvU.d ()) else tW x y (srtD (keyLen dtN) [q1.1, q2.1, q3.1])) = some q → f_three_ways d P = some q := fun d hd q hq => by
        unfold f_three_ways
        refine bnd_eq ((hE d hd).trans (congrArg some exy)) (bnd_eq (gd_true (by show 2 ≤ 100000; omega)) (bnd_eq (x := false) ?_ ?_))
        · exact bnd_eq (hL d hd) (bnd_eq (gd_true (by show 2 ≤ 100000; omega)) (congrArg some (by rw [eqD_yes h3]; rfl)))
        · refine (if_neg (by decide)).trans (bnd_eq (x := x) rfl (bnd_eq (x := y) rfl (bnd_eq (gd_true rfl) (bnd_eq ((hd x hx).trans (congrArg some eabc)) (bnd_eq (hW d hd) (bnd_eq (gd_true (by show 3 ≤ 100000; omega)) (bnd_eq (x := [q1.2, q2.2, q3.2]) rfl (bnd_eq (gd_true (by show 3 ≤ 100000; omega)) ?_))))))))
          by_cases h4 : [q1.2, q2.2, q3.2] = [y, y, y]
          · rw [eqD_yes h4] at hq ⊢
            refine (if_neg (by decide)).trans (bnd_eq (x := [q1.1, q2.1, q3.1]) rfl (bnd_eq (gd_true (by show 3 ≤ 100000; omega)) ?_))
            exact (if_neg (by decide)).symm.trans hq
          · rw [eqD_no h4] at hq ⊢
            exact hq
      have perm : (srtD (keyLen dtN) [q1.1, q2.1, q3.1]).Perm [q1.1, q2.1, q3.1] := List.mergeSort_perm ..
      obtain ⟨W0, W1, W2, eW⟩ : ∃ W0 W1 W2, srtD (keyLen dtN) [q1.1, q2.1, q3.1] = [W0, W1, W2] := by
        have := perm.length_eq
        match srtD (keyLen dtN) [q1.1, q2.1, q3.1], this with
        | [W0, W1, W2], _ => exact ⟨W0, W1, W2, rfl⟩
      rw [eW] at perm
      have to23 : [q1.2, q2.2, q3.2] = [y, y, y] → W0.length = 1 → W1.length = 1 → W2.length = 1 → K23 n r P := fun h4 l0 l1 l2 => by
        have all1 : ∀ l ∈ [q1.1, q2.1, q3.1], l.length = 1 := fun l hl => by
          have := perm.mem_iff.mpr hl
          simp only [List.mem_cons, List.not_mem_nil, or_false] at this
          rcases this with rfl | rfl | rfl
          · exact l0
          · exact l1
          · exact l2
        have y1 : q1.2 = y := (List.cons.inj h4).1
        have y2 : q2.2 = y := (List.cons.inj (List.cons.inj h4).2).1
        have y3 : q3.2 = y := (List.cons.inj (List.cons.inj (List.cons.inj h4).2).2).1
        obtain ⟨m1, r1⟩ := one_way g k1 f1 (all1 _ (by simp))
        obtain ⟨m2, r2⟩ := one_way g k2 f2 (all1 _ (by simp))
        obtain ⟨m3, r3⟩ := one_way g k3 f3 (all1 _ (by simp))
        rw [y1] at r1
        rw [y2] at r2
        rw [y3] at r3
        have sub : ∀ z ∈ nb n r x, z ∈ nb n r y := fun z hz => by
          rw [eabc] at hz
          simp only [List.mem_cons, List.not_mem_nil, or_false] at hz
          rcases hz with rfl | rfl | rfl
          · exact mem_nb.mpr ⟨g.lt _ _ r1, (g.sym y _).trans r1⟩
          · exact mem_nb.mpr ⟨g.lt _ _ r2, (g.sym y _).trans r2⟩
          · exact mem_nb.mpr ⟨g.lt _ _ r3, (g.sym y _).trans r3⟩
        refine ⟨x, y, exy, h3x, ?_, fun z hz => ?_⟩
        · refine (asc_eq (nb_pw n r x) (nb_pw n r y) fun z => ⟨sub z, fun hz => ?_⟩).symm
          refine Classical.byContradiction fun c => ?_
          have := (List.nodup_cons.mpr ⟨c, nodup_of_lt (nb_pw n r x)⟩).length_le_of_subset (l₂ := nb n r y) fun u hu => by
            rcases List.mem_cons.mp hu with rfl | hu
            · exact hz
            · exact sub u hu
          rw [List.length_cons] at this
          omega
        · rw [eabc] at hz
          simp only [List.mem_cons, List.not_mem_nil, or_false] at hz
          rcases hz with rfl | rfl | rfl
          · exact m1
          · exact m2
          · exact m3
      by_cases kk : K23 n r P
      · obtain ⟨s', t', e1, e2, e3, e4⟩ := kk
        rw [exy] at e1
        obtain ⟨es, e1b⟩ := List.cons.inj e1
        obtain ⟨et, _⟩ := List.cons.inj e1b
        rw [← es] at e2 e3 e4
        rw [← et] at e3
        have one : ∀ {z : Nat} {q : List Nat × Nat}, z ∈ nb n r x → Wk n r x (x :: q.1) q.2 → (nb n r q.2).length ≠ 2 → (x :: (q.1 ++ [q.2]))[1]? = some z → q.1 = [z] ∧ q.2 = y := fun {z q} hz w hq h1 => way_one g w hq h1 (e4 z hz) xy ((g.sym z x).trans (mem_nb.mp hz).2) ((g.sym z y).trans (mem_nb.mp (by rw [e3]; exact hz)).2) hy2
        obtain ⟨p1, y1⟩ := one ha k1 n1 f1
        obtain ⟨p2, y2⟩ := one hb k2 n2 f2
        obtain ⟨p3, y3⟩ := one hc k3 n3 f3
        have h4 : [q1.2, q2.2, q3.2] = [y, y, y] := by rw [y1, y2, y3]
        have all1 : ∀ l ∈ [W0, W1, W2], ∃ z, l = [z] := fun l hl => by
          have := perm.mem_iff.mp hl
          rw [p1, p2, p3] at this
          simp only [List.mem_cons, List.not_mem_nil, or_false] at this
          rcases this with h | h | h <;> exact ⟨_, h⟩
        obtain ⟨z0, rfl⟩ := all1 W0 (by simp)
        obtain ⟨z1, rfl⟩ := all1 W1 (by simp)
        obtain ⟨z2, rfl⟩ := all1 W2 (by simp)
        refine ⟨_, fun d hd => pre d hd (PyData.tuple [(cvS.d ("ways")), (cvN.d x), (cvN.d y), ((cvL (cvL cvN)).d [[z0], [z1], [z2]])]) ?_, fun _ => ⟨_, _, _, _, _, rfl⟩, fun h => absurd ⟨x, y, exy, e2, e3, e4⟩ h⟩
        rw [eqD_yes h4, eW]
        rfl
      · by_cases h4 : [q1.2, q2.2, q3.2] = [y, y, y]
        · by_cases h5 : W0.length = 1 ∧ W1.length = 1
          · by_cases h6 : W2.length % 2 = 0
            · refine ⟨.none, fun d hd => pre d hd .none ?_, fun h => absurd h kk, fun _ => .inl rfl⟩
              rw [eqD_yes h4, eW]
              refine (if_neg (by decide)).trans (bnd_eq (x := W0) rfl (bnd_eq (x := true) ?_ rfl))
              rw [decide_eq_true h5.1]
              refine (if_neg (by decide)).trans (bnd_eq (x := W1) rfl (bnd_eq (x := true) ?_ rfl))
              rw [decide_eq_true h5.2]
              exact (if_neg (by decide)).trans (bnd_eq (x := W2) rfl (congrArg some (decide_eq_true h6)))
            · have h7 : 2 ≤ W2.length := Nat.le_of_not_lt fun z => kk (to23 h4 h5.1 h5.2 (by omega))
              refine ⟨_, fun d hd => pre d hd (PyData.tuple [(cvS.d ("ways")), (cvN.d x), (cvN.d y), ((cvL (cvL cvN)).d [W0, W1, W2])]) ?_, fun h => absurd h kk, fun _ => .inr ⟨_, _, _, _, _, rfl, h7⟩⟩
              rw [eqD_yes h4, eW]
              refine (if_neg (by decide)).trans (bnd_eq (x := W0) rfl (bnd_eq (x := false) ?_ rfl))
              rw [decide_eq_true h5.1]
              refine (if_neg (by decide)).trans (bnd_eq (x := W1) rfl (bnd_eq (x := false) ?_ rfl))
              rw [decide_eq_true h5.2]
              exact (if_neg (by decide)).trans (bnd_eq (x := W2) rfl (congrArg some (decide_eq_false h6)))
          · refine ⟨.none, fun d hd => pre d hd .none ?_, fun h => absurd h kk, fun _ => .inl rfl⟩
            rw [eqD_yes h4, eW]
            refine (if_neg (by decide)).trans (bnd_eq (x := W0) rfl (bnd_eq (x := true) ?_ rfl))
            by_cases h0 : W0.length = 1
            · rw [decide_eq_true h0]
              refine (if_neg (by decide)).trans (bnd_eq (x := W1) rfl (bnd_eq (x := true) ?_ rfl))
              rw [decide_eq_false fun z => h5 ⟨h0, z⟩]
              rfl
            · rw [decide_eq_false h0]
              rfl
        · refine ⟨.none, fun d hd => pre d hd .none ?_, fun h => absurd h kk, fun _ => .inl rfl⟩
          rw [eqD_no h4]
          rfl
    · refine ⟨.none, fun d hd => ?_, fun ⟨s', t', e1, e2, e3, _⟩ => ?_, fun _ => .inl rfl⟩
      · unfold f_three_ways
        refine bnd_eq ((hE d hd).trans (congrArg some exy)) (bnd_eq (gd_true (by show 2 ≤ 100000; omega)) (bnd_eq (x := true) ?_ rfl))
        exact bnd_eq (hL d hd) (bnd_eq (gd_true (by show 2 ≤ 100000; omega)) (congrArg some (by rw [eqD_no h3]; rfl)))
      · rw [exy] at e1
        obtain ⟨es, e1b⟩ := List.cons.inj e1
        obtain ⟨et, _⟩ := List.cons.inj e1b
        rw [← es] at e2 e3
        rw [← et] at e3
        exact absurd (by rw [e3, e2]) h3
  · refine ⟨.none, fun d hd => ?_, fun ⟨s', t', e1, _⟩ => absurd (by rw [e1]; rfl) hl, fun _ => .inl rfl⟩
    unfold f_three_ways
    refine bnd_eq (hE d hd) (bnd_eq (gd_true (by omega)) (bnd_eq (x := true) ?_ rfl))
    rw [decide_eq_false hl]
    rfl
end
/-! ### painted by two: parts that are good so -/
def pbody (x10 : PyData) : Option (Stp Unit Bool) :=
    if ((kndP x10 == "NoneType")) = true then
      some (Stp.rt false)
    else
      (ixP x10 0).bind fun x28 =>
      (gd (SeqAt.shaped x28 = true ∧ SeqAt.shaped (cvS.d ("ways")) = true)).bind fun _ =>
      (if (PyData.eqv x28 (cvS.d ("ways"))) = true then (
          (ixP x10 3).bind fun x37 =>
          (ixP x37 2).bind fun x40 =>
          (lenP x40).bind fun x43 =>
          some (decide (1 < x43))
        ) else some false).bind fun b46 =>
      if b46 = true then
        some (Stp.rt false)
      else
        some (Stp.nx ())
theorem pb_none : pbody .none = some (.rt false) := rfl
theorem pb_other {w : Str} {l : List PyData} (h1 : PyData.canLay0 (.str w) = true) (h2 : PyData.eqv (.str w) (cvS.d ("ways")) = false) : pbody (.tuple (.str w :: l)) = some (.nx ()) := by
  unfold pbody
  have N := nice_str 8 w h1
  have N2 := nice_str 8 "ways" (by decide +kernel)
  exact (if_neg (by show ¬ ("tuple" == "NoneType") = true; decide)).trans (bnd_eq (x := .str w) rfl (bnd_eq (gd_true ⟨nice_shaped N (by omega), nice_shaped N2 (by omega)⟩) (bnd_eq (x := false) (if_neg (by rw [h2]; decide)) rfl)))
theorem pb_ways {a b : PyData} {W0 W1 W2 : List Nat} : pbody (.tuple [cvS.d ("ways"), a, b, (cvL (cvL cvN)).d [W0, W1, W2]]) = some (if W2.length ≤ 1 then .nx () else .rt false) := by
  unfold pbody
  have N2 := nice_str 8 "ways" (by decide +kernel)
  refine (if_neg (by show ¬ ("tuple" == "NoneType") = true; decide)).trans (bnd_eq (x := cvS.d ("ways")) rfl (bnd_eq (gd_true ⟨nice_shaped N2 (by omega), nice_shaped N2 (by omega)⟩) (bnd_eq (x := decide (1 < W2.length)) ?_ ?_)))
  · exact (if_pos N2.2.2).trans (bnd_eq (x := (cvL (cvL cvN)).d [W0, W1, W2]) rfl (bnd_eq (x := (cvL cvN).d W2) rfl (bnd_eq (x := W2.length) (congrArg some (List.length_map _)) rfl)))
  · by_cases c : W2.length ≤ 1
    · rw [if_pos c, decide_eq_false (by omega)]
      rfl
    · rw [if_neg c, decide_eq_true (by omega)]
      rfl
section
variable {n : Nat} {r : Rel} {P : List Nat}
def GoodP (n : Nat) (r : Rel) (P : List Nat) : Prop := P.length = 1 ∨ ((∀ v ∈ P, (nb n r v).length = 2) ∧ P.length % 2 = 0) ∨ K23 n r P
open Classical in
theorem part_good (g : Gr n r) (hn : n ≤ 100) (p : IsPart n r P) (ne : P ≠ []) : ∃ q, (∀ d, Tells n r P d → f_part_form d P = some q) ∧ pbody q = some (if GoodP n r P then .nx () else .rt false) := by
  have zP : P.length ≤ n := nodup_le (nodup_of_lt p.asc) p.lt
  obtain ⟨s, hs⟩ : ∃ s, P[0]? = some s := by
    match P, ne with
    | s :: _, _ => exact ⟨s, rfl⟩
  have sP := List.mem_of_getElem? hs
  by_cases h1 : P.length = 1
  · refine ⟨.tuple [.str "one", .int (s : Int)], fun d hd => ?_, ?_⟩
    · unfold f_part_form
      rw [decide_eq_true h1]
      exact bnd_eq hs rfl
    · rw [if_pos (.inl h1)]
      exact pb_other (by decide +kernel) (by decide +kernel)
  · have hC : ∀ d, Tells n r P d → compO (β := Bool) (fun (x18 : Nat) =>
        (dget d x18).bind fun x35 =>
        some (some (decide (x35.length = 2)))) P = some (P.map fun v => decide ((nb n r v).length = 2)) := fun d hd => compO_all fun v hv => bnd_eq (hd v hv) rfl
    have hA : ((P.map fun v => decide ((nb n r v).length = 2)).all id) = decide (∀ v ∈ P, (nb n r v).length = 2) := by
      rw [Bool.eq_iff_iff, List.all_eq_true, decide_eq_true_eq]
      constructor
      · exact fun h v hv => of_decide_eq_true (h _ (List.mem_map.mpr ⟨v, hv, rfl⟩))
      · rintro h b hb
        obtain ⟨v, hv, rfl⟩ := List.mem_map.mp hb
        exact decide_eq_true (h v hv)
    by_cases h2 : ∀ v ∈ P, (nb n r v).length = 2
    · rw [decide_eq_true h2] at hA
      have nk : ¬ K23 n r P := fun ⟨x, y, e1, _⟩ => by
        have : endsOf n r P = [] := List.filter_eq_nil_iff.mpr fun v hv => by simp [h2 v hv]
        rw [this] at e1
        cases e1
      by_cases h3 : P.length % 2 = 1
      · refine ⟨.none, fun d hd => ?_, ?_⟩
        · unfold f_part_form
          rw [decide_eq_false h1]
          refine bnd_eq (hC d hd) (bnd_eq (gd_true (by rw [List.length_map]; omega)) ?_)
          rw [hA, decide_eq_true h3]
          rfl
        · rw [if_neg]
          · rfl
          · rintro (h | h | h)
            · exact h1 h
            · omega
            · exact nk h
      · obtain ⟨l, hl, hl2⟩ := ring_all g hn p sP h2
        refine ⟨.tuple [.str "ring", (cvL cvN).d l], fun d hd => ?_, ?_⟩
        · unfold f_part_form
          rw [decide_eq_false h1]
          refine bnd_eq (hC d hd) (bnd_eq (gd_true (by rw [List.length_map]; omega)) ?_)
          rw [hA, decide_eq_false h3]
          exact bnd_eq hs (bnd_eq (hl d hd) rfl)
        · rw [if_pos (.inr (.inl ⟨h2, by omega⟩))]
          exact pb_other (by decide +kernel) (by decide +kernel)
    · rw [decide_eq_false h2] at hA
      obtain ⟨q, hq, k1, k2⟩ := three_k23 g hn p
      refine ⟨q, fun d hd => ?_, ?_⟩
      · unfold f_part_form
        rw [decide_eq_false h1]
        refine bnd_eq (hC d hd) (bnd_eq (gd_true (by rw [List.length_map]; omega)) ?_)
        rw [hA]
        exact bnd_eq (hq d hd) rfl
      · by_cases kk : K23 n r P
        · obtain ⟨s', t', a, b, c, rfl⟩ := k1 kk
          rw [if_pos (.inr (.inr kk)), pb_ways]
          rfl
        · rw [if_neg (by
            rintro (h | h | h)
            · exact h1 h
            · exact h2 h.1
            · exact kk h)]
          rcases k2 kk with rfl | ⟨s', t', W0, W1, W2, rfl, h⟩
          · rfl
          · rw [pb_ways, if_neg (by omega)]
end
/-! ### painted by two, told by the parts of the core -/
section
variable {n : Nat} {e r : Rel}
open Classical in
noncomputable def gform (n : Nat) (r : Rel) (P : List Nat) : PyData := if h : ∃ q, (∀ d, Tells n r P d → f_part_form d P = some q) ∧ pbody q = some (if GoodP n r P then .nx () else .rt false) then Classical.choose h else .none
open Classical in
theorem gform_ok (g : Gr n r) (hn : n ≤ 100) {P : List Nat} (p : IsPart n r P) (ne : P ≠ []) : (∀ d, Tells n r P d → f_part_form d P = some (gform n r P)) ∧ pbody (gform n r P) = some (if GoodP n r P then .nx () else .rt false) := by
  have h := part_good g hn p ne
  unfold gform
  rw [dif_pos h]
  exact Classical.choose_spec h
open Classical in
theorem ploop (F : List Nat → PyData) (G : List Nat → Prop) : ∀ {Ks : List (List Nat)}, (∀ K ∈ Ks, pbody (F K) = some (if G K then .nx () else .rt false)) → loopO (S := Unit) (T := Bool) (fun _ x => pbody x) (Ks.map F) () = some (if ∀ K ∈ Ks, G K then .nx () else .rt false)
  | [], _ => by
    rw [if_pos fun K h => by cases h]
    rfl
  | K :: t, h => by
    have hK := h K List.mem_cons_self
    show (pbody (F K)).bind _ = _
    rw [hK]
    by_cases c : G K
    · rw [if_pos c]
      show loopO (S := Unit) (T := Bool) (fun _ x => pbody x) (t.map F) () = _
      rw [ploop F G fun K' h' => h K' (List.mem_cons_of_mem _ h')]
      by_cases c2 : ∀ K' ∈ t, G K'
      · rw [if_pos c2, if_pos fun K' h' => (List.mem_cons.mp h').elim (fun q => by rw [q]; exact c) (c2 K')]
      · rw [if_neg c2, if_neg fun z => c2 fun K' h' => z K' (List.mem_cons_of_mem _ h')]
    · rw [if_neg c, if_neg fun z => c (z K List.mem_cons_self)]
      rfl
open Classical in
theorem painted_eq (g : Gr n e) (hn : n ≤ 100) : f_painted_by_two (nbs n e) = some (decide (∀ K ∈ partsIn n (eR e (struck n e)) (rest n (struck n e)), GoodP n (eR e (struck n e)) K)) := by
  have W2 := cparts_ok g hn
  obtain ⟨d1, W3, W4⟩ := kept_ok g hn
  have gr := eR_gr (S := struck n e) g
  have rc := rest_closed (struck n e) g
  have zL : (rest n (struck n e)).length ≤ n := nodup_le (nodup_of_lt rc.asc) rc.lt
  generalize eR e (struck n e) = r at *
  generalize rest n (struck n e) = L at *
  have zK : (partsIn n r L).length ≤ n := by
    unfold partsIn
    rw [List.length_map]
    exact Nat.le_trans (List.length_filter_le _ _) zL
  have pk : ∀ K ∈ partsIn n r L, f_part_form d1 K = some (gform n r K) ∧ pbody (gform n r K) = some (if GoodP n r K then .nx () else .rt false) := fun K hK => by
    unfold partsIn at hK
    obtain ⟨h, hh, rfl⟩ := List.mem_map.mp hK
    obtain ⟨h1, h2⟩ := List.mem_filter.mp hh
    rw [beq_iff_eq] at h2
    obtain ⟨a1, a2⟩ := gform_ok gr hn (cls_part gr h2) (List.ne_nil_of_mem (mem_cls.mpr ⟨rc.lt h h1, h2⟩))
    refine ⟨a1 d1 fun v hv => ?_, a2⟩
    obtain ⟨v1, v2⟩ := mem_cls.mp hv
    rw [W4.at_ v, if_pos (rc.conn (((conn_iff gr).mpr (by rw [v2, h2]) : Conn r v h).symm gr) h1)]
  have pf : f_part_forms (nbs n e) = some ((partsIn n r L).map (gform n r)) := by
    unfold f_part_forms
    exact bnd_eq W3 (bnd_eq W2 (bnd_eq (compO_all fun K hK => bnd_eq (pk K hK).1 rfl) (bnd_eq (gd_true (by rw [List.length_map]; omega)) rfl)))
  unfold f_painted_by_two
  refine bnd_eq pf (bnd_eq (ploop (gform n r) (GoodP n r) fun K hK => (pk K hK).2) ?_)
  by_cases c : ∀ K ∈ partsIn n r L, GoodP n r K
  · rw [if_pos c, decide_eq_true c]
  · rw [if_neg c, decide_eq_false c]
end
/-! ### sorted, each once (where mren is not pasted) -/
theorem asc_srtN {l : List Nat} (nd : l.Nodup) : (srtN l).Pairwise (· < ·) := ((srtN_le l).and ((srtN_perm l).nodup_iff.mpr nd)).imp fun h => by omega
/-! ### rings with trees: what is struck, what is kept -/
section
variable {n : Nat} {e : Rel} {S : List Nat} {R : Nat → Prop}
/-- places of which each is tied to two others of them are never struck -/
theorem two_kept (g : Gr n e) (hR : ∀ u, R u → ∃ a b, a ≠ b ∧ R a ∧ R b ∧ e u a = true ∧ e u b = true) (s : Str1 n e S) : ∀ u, R u → u ∉ S := by
  have key : ∀ k i a : Nat, i ≤ k → S[i]? = some a → ¬ R a := by
    intro k
    induction k with
    | zero =>
      intro i a hi ha ra
      obtain ⟨r, hr⟩ := s.st i a ha
      have := leaf_ok (a := a) (by rw [hr]; exact List.mem_cons_self)
      obtain ⟨_, _, h1⟩ := this
      obtain ⟨x, y, ne, _, _, ex, ey⟩ := hR a ra
      have i0 : i = 0 := by omega
      subst i0
      rw [List.take_zero, cntR, eR_nil] at h1
      have := (show [x, y].Nodup by simp [ne]).length_le_of_subset (l₂ := nb n e a) fun z hz => by
        rcases List.mem_cons.mp hz with rfl | hz
        · exact mem_nb.mpr ⟨g.lt2 ex, ex⟩
        · rw [List.mem_singleton.mp hz]; exact mem_nb.mpr ⟨g.lt2 ey, ey⟩
      have : [x, y].length = 2 := rfl
      omega
    | succ k ih =>
      intro i a hi ha ra
      obtain ⟨r, hr⟩ := s.st i a ha
      obtain ⟨_, aS, h1⟩ := leaf_ok (a := a) (by rw [hr]; exact List.mem_cons_self)
      obtain ⟨x, y, ne, rx, ry, ex, ey⟩ := hR a ra
      have out : ∀ z, R z → z ∉ S.take i := fun z rz hz => by
        obtain ⟨j, hj⟩ := List.getElem?_of_mem hz
        have jl := (List.getElem?_eq_some_iff.mp hj).1
        rw [List.length_take] at jl
        have ji : j < i := by omega
        rw [List.getElem?_take, if_pos ji] at hj
        exact ih j z (by omega) hj rz
      rw [cntR] at h1
      have := (show [x, y].Nodup by simp [ne]).length_le_of_subset (l₂ := nb n (eR e (S.take i)) a) fun z hz => by
        rcases List.mem_cons.mp hz with rfl | hz
        · exact mem_nb.mpr ⟨g.lt2 ex, eR_iff.mpr ⟨ex, aS, out _ rx⟩⟩
        · rw [List.mem_singleton.mp hz]; exact mem_nb.mpr ⟨g.lt2 ey, eR_iff.mpr ⟨ey, aS, out _ ry⟩⟩
      have : [x, y].length = 2 := rfl
      omega
  intro u ru hu
  obtain ⟨i, hi⟩ := List.getElem?_of_mem hu
  exact key i i u (Nat.le_refl _) hi ru
theorem alone_of {r : Rel} {K : List Nat} {v : Nat} (g : Gr n r) (p : IsPart n r K) (hv : v ∈ K) (h : nb n r v = []) : K = [v] := by
  refine asc_eq p.asc (by simp) fun x => ?_
  rw [List.mem_singleton]
  constructor
  · intro hx
    have c := (p.co x hx v).mp hv
    cases c with
    | refl => rfl
    | step _ k =>
      have := mem_nb.mpr ⟨g.lt _ _ k, (g.sym v _).trans k⟩
      rw [h] at this
      cases this
  · rintro rfl
    exact hv
theorem max_of {f : Nat → Nat} : ∀ {l : List Nat}, l ≠ [] → ∃ v ∈ l, ∀ x ∈ l, f x ≤ f v
  | [], h => absurd rfl h
  | [a], _ => ⟨a, List.mem_cons_self, fun x hx => by rw [List.mem_singleton.mp hx]; exact Nat.le_refl _⟩
  | a :: b :: t, _ => by
    obtain ⟨v, hv, h⟩ := max_of (f := f) (l := b :: t) (by simp)
    by_cases c : f v ≤ f a
    · exact ⟨a, List.mem_cons_self, fun x hx => by
        rcases List.mem_cons.mp hx with rfl | hx
        · exact Nat.le_refl _
        · exact Nat.le_trans (h x hx) c⟩
    · exact ⟨v, List.mem_cons_of_mem _ hv, fun x hx => by
        rcases List.mem_cons.mp hx with rfl | hx
        · omega
        · exact h x hx⟩
/-- places put in one behind another, each tied to at most one earlier place: of a part of the core with such a place it is the only one -/
theorem tree_alone (g : Gr n e) (lv : leaves n e S = []) {f : Nat → Nat} (inj : ∀ u v, u < n → v < n → f u = f v → u = v) (hf : ∀ v, v < n → ¬ R v → ∀ x y, e v x = true → e v y = true → f x < f v → f y < f v → x = y) (hR : ∀ u v, R u → ¬ R v → e v u = true → f u < f v) {K : List Nat} (p : IsPart n (eR e S) K) {v : Nat} (hv : v ∈ K) (nv : ¬ R v) : K = [v] := by
  classical
  have gr := eR_gr (S := S) g
  obtain ⟨w, hw, mx⟩ := max_of (f := f) (l := K.filter fun x => decide (¬ R x)) (List.ne_nil_of_mem (List.mem_filter.mpr ⟨hv, decide_eq_true nv⟩))
  obtain ⟨wK, nw⟩ := List.mem_filter.mp hw
  have nw := of_decide_eq_true nw
  have wn := p.lt w wK
  have early : ∀ x, x ∈ nb n (eR e S) w → e w x = true ∧ f x < f w := fun x hx => by
    obtain ⟨xn, ex⟩ := mem_nb.mp hx
    have ew := (eR_iff.mp ex).1
    refine ⟨ew, ?_⟩
    by_cases rx : R x
    · exact hR x w rx nw ew
    · have xK := (p.co w wK x).mpr (.one ex)
      have := mx x (List.mem_filter.mpr ⟨xK, decide_eq_true rx⟩)
      refine Nat.lt_of_le_of_ne this fun z => ?_
      have := inj x w xn wn z
      rw [this, g.irr] at ew
      cases ew
  have e0 : nb n (eR e S) w = [] := by
    have ne1 := not_leaf lv wn
    match h : nb n (eR e S) w with
    | [] => rfl
    | [a] => exact absurd (by rw [h]; rfl) ne1
    | a :: b :: t =>
      have nd := nodup_of_lt (nb_pw n (eR e S) w)
      rw [h] at nd
      obtain ⟨a1, a2⟩ := early a (by rw [h]; exact List.mem_cons_self)
      obtain ⟨b1, b2⟩ := early b (by rw [h]; exact List.mem_cons_of_mem _ List.mem_cons_self)
      have := hf w wn nw a b a1 b1 a2 b2
      rw [this] at nd
      exact absurd List.mem_cons_self (List.nodup_cons.mp nd).1
  have := alone_of gr p wK e0
  rw [this] at hv
  rw [List.mem_singleton.mp hv]
  exact this
end
/-! ### rings with trees, by numbers in a drawn order -/
def Tie2 (ps : List (Nat × Nat)) (a b : Nat) : Prop := (a, b) ∈ ps ∨ (b, a) ∈ ps
def Rg (rg : List (List Nat)) (a : Nat) : Prop := ∃ l ∈ rg, a ∈ l
structure Grp (ps : List (Nat × Nat)) (rg : List (List Nat)) (G r : List Nat) : Prop where
  sub : ∀ a ∈ r, a ∈ G
  rr : ∀ a ∈ G, Rg rg a → a ∈ r
  nd : r.Nodup
  ring : r ≠ [] → ∀ a ∈ G, a ∉ r → ∃ b ∈ G, b < a ∧ Tie2 ps a b
  tree : r = [] → ∃ g ∈ G, ∀ a ∈ G, a ≠ g → ∃ b ∈ G, b < a ∧ Tie2 ps a b
structure Bld (ps : List (Nat × Nat)) (at_ : Nat) (rg gs : List (List Nat)) : Prop where
  len : rg.length = gs.length
  lt : ∀ G ∈ gs, ∀ a ∈ G, a < at_
  plt : ∀ p ∈ ps, p.1 < at_ ∧ p.2 < at_
  sep : ∀ p ∈ ps, ∀ G ∈ gs, p.1 ∈ G ↔ p.2 ∈ G
  two : ∀ a, Rg rg a → ∃ b c, b ≠ c ∧ Rg rg b ∧ Rg rg c ∧ b ≠ a ∧ c ≠ a ∧ Tie2 ps a b ∧ Tie2 ps a c
  tr : ∀ v, ¬ Rg rg v → ∀ x y, Tie2 ps v x → Tie2 ps v y → x < v → y < v → x = y
  hr : ∀ u v, Rg rg u → ¬ Rg rg v → Tie2 ps v u → u < v
  rlt : ∀ a, Rg rg a → a < at_
  grp : ∀ G r, (G, r) ∈ gs.zip rg → Grp ps rg G r
section
variable {ps : List (Nat × Nat)} {n : Nat} {rg gs : List (List Nat)} {e : Rel} {o : List Nat}
/-- how places and numbers go together -/
structure Named (n : Nat) (o : List Nat) (ps : List (Nat × Nat)) (e : Rel) : Prop where
  pm : o.Perm (List.range n)
  tie : ∀ u v, e u v = true ↔ u < n ∧ v < n ∧ u ≠ v ∧ Tie2 ps (o.idxOf u) (o.idxOf v)
theorem Named.at_ (m : Named n o ps e) {a : Nat} (h : a < n) : o.idxOf (o.getD a 0) = a ∧ o.getD a 0 < n := by
  have ol : o.length = n := by rw [m.pm.length_eq, List.length_range]
  have nd : o.Nodup := m.pm.nodup_iff.mpr List.nodup_range
  have e1 : o[a]? = some o[a] := List.getElem?_eq_getElem (by omega)
  have e2 : o.getD a 0 = o[a] := by rw [List.getD_eq_getElem?_getD, e1]; rfl
  have hm : o[a] ∈ o := List.getElem_mem _
  have i1 := List.idxOf_lt_length_iff.mpr hm
  rw [e2]
  refine ⟨nd_ix nd (x := o[a]) ?_ e1, List.mem_range.mp (m.pm.mem_iff.mp hm)⟩
  rw [List.getElem?_eq_getElem i1, List.getElem_idxOf i1]
theorem Named.num (m : Named n o ps e) {u : Nat} (h : u < n) : o.idxOf u < n ∧ o.getD (o.idxOf u) 0 = u := by
  have ol : o.length = n := by rw [m.pm.length_eq, List.length_range]
  have hm : u ∈ o := m.pm.mem_iff.mpr (List.mem_range.mpr h)
  have i1 := List.idxOf_lt_length_iff.mpr hm
  refine ⟨by omega, ?_⟩
  rw [List.getD_eq_getElem?_getD, List.getElem?_eq_getElem i1, List.getElem_idxOf i1]
  rfl
theorem Named.mem (m : Named n o ps e) {G : List Nat} (hG : ∀ a ∈ G, a < n) {u : Nat} (hu : u < n) : u ∈ G.map (fun a => o.getD a 0) ↔ o.idxOf u ∈ G := by
  rw [List.mem_map]
  constructor
  · rintro ⟨a, ha, rfl⟩
    rw [(m.at_ (hG a ha)).1]
    exact ha
  · exact fun h => ⟨_, h, (m.num hu).2⟩
variable {S : List Nat}
theorem group_ok (g : Gr n e) (m : Named n o ps e) (B : Bld ps n rg gs) (s : Str1 n e S) (lv : leaves n e S = []) {G r : List Nat} (hz : (G, r) ∈ gs.zip rg) :
    (r ≠ [] → (rest n S).filter (fun u => decide (u ∈ G.map fun a => o.getD a 0)) = srtN (r.map fun a => o.getD a 0)) ∧ (r = [] → ((rest n S).filter (fun u => decide (u ∈ G.map fun a => o.getD a 0))).length = 1) := by
  obtain ⟨k1, k2⟩ := keep_ok g s
  have gr := eR_gr (S := S) g
  have gp := B.grp G r hz
  have hG : G ∈ gs := (List.of_mem_zip hz).1
  have hr : r ∈ rg := (List.of_mem_zip hz).2
  have ltG := B.lt G hG
  have inj : ∀ u v, u < n → v < n → o.idxOf u = o.idxOf v → u = v := fun u v hu hv q => by rw [← (m.num hu).2, q, (m.num hv).2]
  have tw := two_kept (R := fun u => u < n ∧ Rg rg (o.idxOf u)) g (fun u ⟨hu, ru⟩ => by
    obtain ⟨b, c, bc, rb, rc, ba, ca, tb, tc⟩ := B.two _ ru
    obtain ⟨b1, b2⟩ := m.at_ (B.rlt b rb)
    obtain ⟨c1, c2⟩ := m.at_ (B.rlt c rc)
    refine ⟨o.getD b 0, o.getD c 0, fun q => bc (by rw [← b1, q, c1]), ⟨b2, by rw [b1]; exact rb⟩, ⟨c2, by rw [c1]; exact rc⟩, (m.tie _ _).mpr ⟨hu, b2, fun q => ba (by rw [q, b1]), by rw [b1]; exact tb⟩, (m.tie _ _).mpr ⟨hu, c2, fun q => ca (by rw [q, c1]), by rw [c1]; exact tc⟩⟩) s
  have ta : ∀ {K : List Nat} (_ : IsPart n (eR e S) K) {v : Nat}, v ∈ K → ¬ Rg rg (o.idxOf v) → K = [v] := fun p v hv nv => by
    refine tree_alone (R := fun u => u < n ∧ Rg rg (o.idxOf u)) (f := o.idxOf) g lv inj (fun w hw nw x y ex ey lx ly => ?_) (fun u w ⟨_, ru⟩ nw ew => ?_) p hv fun q => nv q.2
    · have tx := (m.tie _ _).mp ex
      have ty := (m.tie _ _).mp ey
      exact inj x y tx.2.1 ty.2.1 (B.tr _ (fun q => nw ⟨hw, q⟩) _ _ tx.2.2.2 ty.2.2.2 lx ly)
    · have tx := (m.tie _ _).mp ew
      exact B.hr _ _ ru (fun q => nw ⟨tx.1, q⟩) tx.2.2.2
  have part : ∀ u, u < n → IsPart n (eR e S) (cls n (eR e S) (mn (eR e S) u)) ∧ u ∈ cls n (eR e S) (mn (eR e S) u) := fun u hu => ⟨cls_part gr (mn_mn gr), mem_cls.mpr ⟨hu, rfl⟩⟩
  have step : ∀ u, u < n → o.idxOf u ∈ G → ∀ b ∈ G, b < o.idxOf u → Tie2 ps (o.idxOf u) b → ∃ v, v < n ∧ o.idxOf v = b ∧ e u v = true := fun u hu _ b hb hlt ht => by
    obtain ⟨b1, b2⟩ := m.at_ (ltG b hb)
    refine ⟨o.getD b 0, b2, b1, (m.tie _ _).mpr ⟨hu, b2, fun q => ?_, by rw [b1]; exact ht⟩⟩
    rw [q, b1] at hlt
    exact Nat.lt_irrefl _ hlt
  have memF : ∀ u, u ∈ (rest n S).filter (fun u => decide (u ∈ G.map fun a => o.getD a 0)) ↔ u < n ∧ u ∉ S ∧ o.idxOf u ∈ G := fun u => by
    rw [List.mem_filter, mem_rest, decide_eq_true_eq]
    constructor
    · rintro ⟨⟨a, b⟩, c⟩
      exact ⟨a, b, (m.mem ltG a).mp c⟩
    · rintro ⟨a, b, c⟩
      exact ⟨⟨a, b⟩, (m.mem ltG a).mpr c⟩
  constructor
  · intro rne
    have toR : ∀ k u, o.idxOf u ≤ k → u < n → o.idxOf u ∈ G → ∃ v, v < n ∧ o.idxOf v ∈ r ∧ Conn e u v := by
      intro k
      induction k with
      | zero =>
        intro u hk hu hg
        by_cases c : o.idxOf u ∈ r
        · exact ⟨u, hu, c, .refl _⟩
        · obtain ⟨b, _, hb, _⟩ := gp.ring rne _ hg c
          omega
      | succ k ih =>
        intro u hk hu hg
        by_cases c : o.idxOf u ∈ r
        · exact ⟨u, hu, c, .refl _⟩
        · obtain ⟨b, bG, hb, ht⟩ := gp.ring rne _ hg c
          obtain ⟨v, vn, vb, ev⟩ := step u hu hg b bG hb ht
          obtain ⟨w, w1, w2, w3⟩ := ih v (by omega) vn (by rw [vb]; exact bG)
          exact ⟨w, w1, w2, (Conn.one ev).trans w3⟩
    have ltr : ∀ a ∈ r, a < n := fun a ha => ltG a (gp.sub a ha)
    have ndm : (r.map fun a => o.getD a 0).Nodup := List.pairwise_map.mpr (gp.nd.imp_of_mem fun {a b} ha hb ne q => ne (by rw [← (m.at_ (ltr a ha)).1, q, (m.at_ (ltr b hb)).1]))
    refine asc_eq ((rest_asc S).filter _) (asc_srtN ndm) fun u => ?_
    rw [memF, (srtN_perm _).mem_iff]
    constructor
    · rintro ⟨hu, uS, uG⟩
      rw [m.mem ltr hu]
      refine Classical.byContradiction fun c => ?_
      have nR : ¬ Rg rg (o.idxOf u) := fun q => c (gp.rr _ uG q)
      obtain ⟨p, hp⟩ := part u hu
      have eK := ta p hp nR
      obtain ⟨v, vn, vr, cv⟩ := toR _ u (Nat.le_refl _) hu uG
      have vS := tw v ⟨vn, r, hr, vr⟩
      have := (p.co u hp v).mpr (k1 u v uS vS cv)
      rw [eK, List.mem_singleton] at this
      rw [this] at vr
      exact c vr
    · intro hu
      have un : u < n := by
        obtain ⟨a, ha, rfl⟩ := List.mem_map.mp hu
        exact (m.at_ (ltr a ha)).2
      have ur := (m.mem ltr un).mp hu
      exact ⟨un, tw u ⟨un, r, hr, ur⟩, gp.sub _ ur⟩
  · intro re
    obtain ⟨r0, hr0, par⟩ := gp.tree re
    obtain ⟨p1, p2⟩ := m.at_ (ltG r0 hr0)
    have toR : ∀ k u, o.idxOf u ≤ k → u < n → o.idxOf u ∈ G → Conn e u (o.getD r0 0) := by
      intro k
      induction k with
      | zero =>
        intro u hk hu hg
        by_cases c : o.idxOf u = r0
        · rw [← c, (m.num hu).2]
          exact .refl _
        · obtain ⟨b, _, hb, _⟩ := par _ hg c
          omega
      | succ k ih =>
        intro u hk hu hg
        by_cases c : o.idxOf u = r0
        · rw [← c, (m.num hu).2]
          exact .refl _
        · obtain ⟨b, bG, hb, ht⟩ := par _ hg c
          obtain ⟨v, vn, vb, ev⟩ := step u hu hg b bG hb ht
          exact (Conn.one ev).trans (ih v (by omega) vn (by rw [vb]; exact bG))
    have inG : ∀ {u v : Nat}, Conn e u v → o.idxOf u ∈ G → o.idxOf v ∈ G := fun {u v} c h => by
      refine conn_in (Q := fun x => o.idxOf x ∈ G) (fun x hx y exy => ?_) c h
      obtain ⟨_, _, _, t⟩ := (m.tie _ _).mp exy
      rcases t with t | t
      · exact (B.sep _ t G hG).mp hx
      · exact (B.sep _ t G hG).mpr hx
    obtain ⟨v, vn, vS, cv⟩ := k2 _ p2
    have vG : o.idxOf v ∈ G := inG cv (by rw [p1]; exact hr0)
    have nR : ¬ Rg rg (o.idxOf v) := fun q => by
      have := gp.rr _ vG q
      rw [re] at this
      cases this
    obtain ⟨p, hp⟩ := part v vn
    have eK := ta p hp nR
    have : (rest n S).filter (fun u => decide (u ∈ G.map fun a => o.getD a 0)) = [v] := by
      refine asc_eq ((rest_asc S).filter _) (by simp) fun u => ?_
      rw [memF, List.mem_singleton]
      constructor
      · rintro ⟨hu, uS, uG⟩
        have c := (cv.symm g).trans ((toR _ u (Nat.le_refl _) hu uG).symm g)
        have := (p.co v hp u).mpr (k1 v u vS uS c)
        rw [eK, List.mem_singleton] at this
        exact this
      · rintro rfl
        exact ⟨vn, vS, vG⟩
    rw [this]
    rfl
end
/-! ### a group of numbers put beside others -/
theorem Tie2.l {ps qs : List (Nat × Nat)} {a b : Nat} (h : Tie2 ps a b) : Tie2 (ps ++ qs) a b := h.imp (List.mem_append_left _) (List.mem_append_left _)
theorem Tie2.r {ps qs : List (Nat × Nat)} {a b : Nat} (h : Tie2 qs a b) : Tie2 (ps ++ qs) a b := h.imp (List.mem_append_right _) (List.mem_append_right _)
structure Kern (more : List (Nat × Nat)) (size at_ sort : Nat) : Prop where
  pos : 1 ≤ size
  rng : ∀ p ∈ more, (at_ ≤ p.1 ∧ p.1 < at_ + size) ∧ at_ ≤ p.2 ∧ p.2 < at_ + size
  two : sort ≠ 0 → ∀ a, at_ ≤ a → a < at_ + size → ∃ b c, b ≠ c ∧ b ≠ a ∧ c ≠ a ∧ Tie2 more a b ∧ Tie2 more a c
  one : sort = 0 → more = [] ∧ size = 1
/-! ### rings with trees, step by step -/
def runs (a s : Nat) : List Nat := (List.range (a + s - a)).map fun k => a + k
theorem mem_runs {a s x : Nat} : x ∈ runs a s ↔ a ≤ x ∧ x < a + s := by
  unfold runs
  rw [List.mem_map]
  constructor
  · rintro ⟨k, hk, rfl⟩
    have := List.mem_range.mp hk
    omega
  · rintro ⟨h1, h2⟩
    exact ⟨x - a, List.mem_range.mpr (by omega), by omega⟩
theorem runs_nd {a s : Nat} : (runs a s).Nodup := List.pairwise_map.mpr (List.nodup_range.imp fun {x y} ne q => ne (by omega))
theorem runs_len {a s : Nat} : (runs a s).length = s := by
  unfold runs
  rw [List.length_map, List.length_range]
  omega
theorem Rg.app {rg : List (List Nat)} {r : List Nat} {a : Nat} : Rg (rg ++ [r]) a ↔ Rg rg a ∨ a ∈ r := by
  constructor
  · rintro ⟨l, hl, ha⟩
    rcases mem_snoc.mp hl with hl | rfl
    · exact .inl ⟨l, hl, ha⟩
    · exact .inr ha
  · rintro (⟨l, hl, ha⟩ | ha)
    · exact ⟨l, List.mem_append_left _ hl, ha⟩
    · exact ⟨r, mem_snoc.mpr (.inr rfl), ha⟩
theorem tie_app {ps qs : List (Nat × Nat)} {a b : Nat} (h : Tie2 (ps ++ qs) a b) : Tie2 ps a b ∨ Tie2 qs a b := by
  rcases h with h | h <;> rcases List.mem_append.mp h with h | h
  · exact .inl (.inl h)
  · exact .inr (.inl h)
  · exact .inl (.inr h)
  · exact .inr (.inr h)
theorem bld_nil : Bld [] 0 [] [] := ⟨rfl, (fun G h => by cases h), (fun p h => by cases h), (fun p h => by cases h), (fun a ⟨l, h, _⟩ => by cases h), (fun v _ x y h => by rcases h with h | h <;> cases h), (fun u v ⟨l, h, _⟩ => by cases h), (fun a ⟨l, h, _⟩ => by cases h), fun G r h => by cases h⟩
section
variable {ps : List (Nat × Nat)} {at_ : Nat} {rg gs : List (List Nat)}
theorem Bld.tlt (B : Bld ps at_ rg gs) {a b : Nat} (h : Tie2 ps a b) : a < at_ ∧ b < at_ := by
  rcases h with h | h
  · exact B.plt _ h
  · exact (B.plt _ h).symm
theorem bld_add (B : Bld ps at_ rg gs) {more : List (Nat × Nat)} {size sort : Nat} (k : Kern more size at_ sort) {r : List Nat} (hr : sort ≠ 0 → r = runs at_ size) (hr0 : sort = 0 → r = []) : Bld (ps ++ more) (at_ + size) (rg ++ [r]) (gs ++ [runs at_ size]) := by
  have rs : ∀ a ∈ r, at_ ≤ a ∧ a < at_ + size := fun a ha => by
    by_cases c : sort = 0
    · rw [hr0 c] at ha
      cases ha
    · rw [hr c] at ha
      exact mem_runs.mp ha
  have tm : ∀ {a b}, Tie2 more a b → (at_ ≤ a ∧ a < at_ + size) ∧ at_ ≤ b ∧ b < at_ + size := fun h => by
    rcases h with h | h
    · exact k.rng _ h
    · exact (k.rng _ h).symm
  have nm : ∀ {a b}, ¬ Rg (rg ++ [r]) a → ¬ Tie2 more a b := fun {a b} h q => by
    by_cases c : sort = 0
    · rw [(k.one c).1] at q
      rcases q with q | q <;> cases q
    · exact h (Rg.app.mpr (.inr (by rw [hr c]; exact mem_runs.mpr (tm q).1)))
  refine ⟨by rw [List.length_append, List.length_append, B.len]; rfl, fun G hG a ha => ?_, fun p hp => ?_, fun p hp G hG => ?_, fun a ha => ?_, fun v hv x y hx hy lx ly => ?_, fun u v hu hv h => ?_, fun a ha => ?_, fun G r' hz => ?_⟩
  · rcases mem_snoc.mp hG with hG | rfl
    · have := B.lt G hG a ha
      omega
    · exact (mem_runs.mp ha).2
  · rcases List.mem_append.mp hp with hp | hp
    · have := B.plt p hp
      omega
    · have := k.rng p hp
      omega
  · rcases List.mem_append.mp hp with hp | hp
    · rcases mem_snoc.mp hG with hG | rfl
      · exact B.sep p hp G hG
      · have := B.plt p hp
        rw [mem_runs, mem_runs]
        omega
    · have := k.rng p hp
      rcases mem_snoc.mp hG with hG | rfl
      · exact ⟨fun h => by have := B.lt G hG _ h; omega, fun h => by have := B.lt G hG _ h; omega⟩
      · rw [mem_runs, mem_runs]
        omega
  · rcases Rg.app.mp ha with ha | ha
    · obtain ⟨b, c, h1, h2, h3, h4, h5, h6, h7⟩ := B.two a ha
      exact ⟨b, c, h1, Rg.app.mpr (.inl h2), Rg.app.mpr (.inl h3), h4, h5, h6.l, h7.l⟩
    · have s0 : sort ≠ 0 := fun c => by
        rw [hr0 c] at ha
        cases ha
      obtain ⟨b, c, h1, h4, h5, h6, h7⟩ := k.two s0 a (rs a ha).1 (rs a ha).2
      exact ⟨b, c, h1, Rg.app.mpr (.inr (by rw [hr s0]; exact mem_runs.mpr (tm h6).2)), Rg.app.mpr (.inr (by rw [hr s0]; exact mem_runs.mpr (tm h7).2)), h4, h5, h6.r, h7.r⟩
  · exact B.tr v (fun q => hv (Rg.app.mpr (.inl q))) x y ((tie_app hx).resolve_right (nm hv)) ((tie_app hy).resolve_right (nm hv)) lx ly
  · have t := (tie_app h).resolve_right (nm hv)
    refine B.hr u v ((Rg.app.mp hu).resolve_right fun q => ?_) (fun q => hv (Rg.app.mpr (.inl q))) t
    have := rs u q
    have := B.tlt t
    omega
  · rcases Rg.app.mp ha with ha | ha
    · have := B.rlt a ha
      omega
    · exact (rs a ha).2
  · rw [List.zip_append B.len.symm] at hz
    rcases mem_snoc.mp hz with hz | hz
    · have gp := B.grp G r' hz
      have hG := (List.of_mem_zip hz).1
      refine ⟨gp.sub, fun a ha q => gp.rr a ha ((Rg.app.mp q).resolve_right fun z => ?_), gp.nd, fun h a ha n => ?_, fun h => ?_⟩
      · have := rs a z
        have := B.lt G hG a ha
        omega
      · obtain ⟨b, b1, b2, b3⟩ := gp.ring h a ha n
        exact ⟨b, b1, b2, b3.l⟩
      · obtain ⟨g, g1, g2⟩ := gp.tree h
        refine ⟨g, g1, fun a ha n => ?_⟩
        obtain ⟨b, b1, b2, b3⟩ := g2 a ha n
        exact ⟨b, b1, b2, b3.l⟩
    · have hz : G = runs at_ size ∧ r' = r := ⟨congrArg Prod.fst hz, congrArg Prod.snd hz⟩
      obtain ⟨rfl, rfl⟩ := hz
      refine ⟨fun a ha => mem_runs.mpr (rs a ha), fun a ha q => (Rg.app.mp q).resolve_left fun z => ?_, ?_, fun h a ha n => ?_, fun h => ?_⟩
      · have := B.rlt a z
        have := mem_runs.mp ha
        omega
      · by_cases c : sort = 0
        · rw [hr0 c]
          exact List.nodup_nil
        · rw [hr c]
          exact runs_nd
      · by_cases c : sort = 0
        · exact absurd (hr0 c) h
        · exact absurd (by rw [hr c]; exact ha) n
      · have c : sort = 0 := Classical.byContradiction fun c => by
          rw [hr c] at h
          have := runs_len (a := at_) (s := size)
          rw [h] at this
          have := k.pos
          have : ([] : List Nat).length = 0 := rfl
          omega
        have e1 := (k.one c).2
        exact ⟨at_, mem_runs.mpr (by omega), fun a ha n => absurd (by have := mem_runs.mp ha; omega) n⟩
def grown (ch at_ : Nat) (G : List Nat) : List Nat := if ch ∈ G then G ++ [at_] else G
theorem mem_grown {ch at_ a : Nat} {G : List Nat} : a ∈ grown ch at_ G ↔ a ∈ G ∨ ch ∈ G ∧ a = at_ := by
  unfold grown
  by_cases c : ch ∈ G
  · rw [if_pos c, mem_snoc]
    exact ⟨fun h => h.imp id fun q => ⟨c, q⟩, fun h => h.imp id fun q => q.2⟩
  · rw [if_neg c]
    exact ⟨.inl, fun h => h.resolve_right fun q => c q.1⟩
theorem bld_leaf (B : Bld ps at_ rg gs) {ch : Nat} (hc : ch < at_) : Bld (ps ++ [(ch, at_)]) (at_ + 1) rg (gs.map (grown ch at_)) := by
  have t1 : ∀ {a b}, Tie2 [(ch, at_)] a b → (a = ch ∧ b = at_) ∨ (a = at_ ∧ b = ch) := fun {a b} h => by
    rcases h with h | h
    · have := List.mem_singleton.mp h
      exact .inl ⟨congrArg Prod.fst this, congrArg Prod.snd this⟩
    · have := List.mem_singleton.mp h
      exact .inr ⟨congrArg Prod.snd this, congrArg Prod.fst this⟩
  have notin : ∀ G ∈ gs, at_ ∉ G := fun G hG h => Nat.lt_irrefl _ (B.lt G hG _ h)
  refine ⟨by rw [List.length_map, B.len], fun G' hG' a ha => ?_, fun p hp => ?_, fun p hp G' hG' => ?_, fun a ha => ?_, fun v hv x y hx hy lx ly => ?_, fun u v hu hv h => ?_, fun a ha => ?_, fun G' r hz => ?_⟩
  · obtain ⟨G, hG, rfl⟩ := List.mem_map.mp hG'
    rcases mem_grown.mp ha with ha | ha
    · have := B.lt G hG a ha
      omega
    · omega
  · rcases mem_snoc.mp hp with hp | rfl
    · have := B.plt p hp
      omega
    · exact ⟨by show ch < at_ + 1; omega, by show at_ < at_ + 1; omega⟩
  · obtain ⟨G, hG, rfl⟩ := List.mem_map.mp hG'
    rw [mem_grown, mem_grown]
    rcases mem_snoc.mp hp with hp | rfl
    · have l := B.plt p hp
      have s := B.sep p hp G hG
      constructor
      · exact fun h => .inl (s.mp (h.resolve_right fun q => by omega))
      · exact fun h => .inl (s.mpr (h.resolve_right fun q => by omega))
    · constructor
      · exact fun h => .inr ⟨h.resolve_right fun q => absurd q.2 (Nat.ne_of_lt hc), rfl⟩
      · exact fun h => .inl ((h.resolve_left (notin G hG)).1)
  · obtain ⟨b, c, h1, h2, h3, h4, h5, h6, h7⟩ := B.two a ha
    exact ⟨b, c, h1, h2, h3, h4, h5, h6.l, h7.l⟩
  · rcases tie_app hx with hx | hx <;> rcases tie_app hy with hy | hy
    · exact B.tr v hv x y hx hy lx ly
    · have := B.tlt hx
      rcases t1 hy with q | q <;> omega
    · have := B.tlt hy
      rcases t1 hx with q | q <;> omega
    · rcases t1 hx with q | q <;> rcases t1 hy with q2 | q2 <;> omega
  · rcases tie_app h with h | h
    · exact B.hr u v hu hv h
    · have := B.rlt u hu
      rcases t1 h with q | q <;> omega
  · have := B.rlt a ha
    omega
  · rw [List.zip_map_left] at hz
    obtain ⟨⟨G, r0⟩, hz2, e⟩ := List.mem_map.mp hz
    have e1 : grown ch at_ G = G' := congrArg Prod.fst e
    have e2 : r0 = r := congrArg Prod.snd e
    subst e1 e2
    have gp := B.grp G r0 hz2
    refine ⟨fun a ha => mem_grown.mpr (.inl (gp.sub a ha)), fun a ha q => ?_, gp.nd, fun h a ha n => ?_, fun h => ?_⟩
    · have := B.rlt a q
      exact gp.rr a ((mem_grown.mp ha).resolve_right fun z => by omega) q
    · rcases mem_grown.mp ha with ha | ⟨c2, e9⟩
      · obtain ⟨b, b1, b2, b3⟩ := gp.ring h a ha n
        exact ⟨b, mem_grown.mpr (.inl b1), b2, b3.l⟩
      · refine ⟨ch, mem_grown.mpr (.inl c2), by omega, ?_⟩
        rw [e9]
        exact Tie2.r (.inr (List.mem_singleton.mpr rfl))
    · obtain ⟨g, g1, g2⟩ := gp.tree h
      refine ⟨g, mem_grown.mpr (.inl g1), fun a ha n => ?_⟩
      rcases mem_grown.mp ha with ha | ⟨c2, e9⟩
      · obtain ⟨b, b1, b2, b3⟩ := g2 a ha n
        exact ⟨b, mem_grown.mpr (.inl b1), b2, b3.l⟩
      · refine ⟨ch, mem_grown.mpr (.inl c2), by omega, ?_⟩
        rw [e9]
        exact Tie2.r (.inr (List.mem_singleton.mpr rfl))
end
theorem named_of {ps : List (Nat × Nat)} {o : List Nat} {m : Nat} {ts : List Tie} (pm : o.Perm (List.range m)) (hp : ∀ p ∈ ps, p.1 < m ∧ p.2 < m) (t : TOk m ts) (h : ∀ q, q ∈ ts ↔ ∃ p ∈ ps, p.1 ≠ p.2 ∧ q = (min (o.getD p.1 0) (o.getD p.2 0), max (o.getD p.1 0) (o.getD p.2 0))) : Named m o ps (eOf ts) := by
  have M : Named m o ps (fun u v => decide (u < m) && decide (v < m) && !decide (u = v) && (decide ((o.idxOf u, o.idxOf v) ∈ ps) || decide ((o.idxOf v, o.idxOf u) ∈ ps))) := ⟨pm, fun u v => by
    simp only [Bool.and_eq_true, Bool.or_eq_true, decide_eq_true_eq, Bool.not_eq_true', decide_eq_false_iff_not, Tie2]
    exact ⟨fun ⟨⟨⟨a, b⟩, c⟩, d⟩ => ⟨a, b, c, d⟩, fun ⟨a, b, c, d⟩ => ⟨⟨⟨a, b⟩, c⟩, d⟩⟩⟩
  refine ⟨pm, fun u v => ?_⟩
  rw [eOf_iff, h, h]
  constructor
  · intro k
    have : ∃ p ∈ ps, p.1 ≠ p.2 ∧ ((u = o.getD p.1 0 ∧ v = o.getD p.2 0) ∨ (u = o.getD p.2 0 ∧ v = o.getD p.1 0)) := by
      rcases k with ⟨p, h1, h2, h3⟩ | ⟨p, h1, h2, h3⟩
      · have e1 := congrArg Prod.fst h3
        have e2 := congrArg Prod.snd h3
        dsimp only at e1 e2
        refine ⟨p, h1, h2, ?_⟩
        omega
      · have e1 := congrArg Prod.fst h3
        have e2 := congrArg Prod.snd h3
        dsimp only at e1 e2
        refine ⟨p, h1, h2, ?_⟩
        omega
    obtain ⟨p, h1, h2, h3⟩ := this
    obtain ⟨l1, l2⟩ := hp p h1
    obtain ⟨a1, a2⟩ := M.at_ l1
    obtain ⟨b1, b2⟩ := M.at_ l2
    have ne : o.getD p.1 0 ≠ o.getD p.2 0 := fun q => h2 (by rw [← a1, q, b1])
    rcases h3 with ⟨rfl, rfl⟩ | ⟨rfl, rfl⟩
    · exact ⟨a2, b2, ne, by rw [a1, b1]; exact .inl h1⟩
    · exact ⟨b2, a2, ne.symm, by rw [a1, b1]; exact .inr h1⟩
  · rintro ⟨hu, hv, ne, k⟩
    have u1 := (M.num hu).2
    have v1 := (M.num hv).2
    have nn : o.idxOf u ≠ o.idxOf v := fun q => ne (by rw [← u1, q, v1])
    have lt : u < v ∨ v < u := by omega
    rcases k with k | k
    · rcases lt with lt | lt
      · exact .inl ⟨_, k, nn, by dsimp only; rw [u1, v1]; exact Prod.ext (by show u = min u v; omega) (by show v = max u v; omega)⟩
      · exact .inr ⟨_, k, nn, by dsimp only; rw [u1, v1]; exact Prod.ext (by show v = min u v; omega) (by show u = max u v; omega)⟩
    · rcases lt with lt | lt
      · exact .inl ⟨_, k, nn.symm, by dsimp only; rw [u1, v1]; exact Prod.ext (by show u = min v u; omega) (by show v = max v u; omega)⟩
      · exact .inr ⟨_, k, nn.symm, by dsimp only; rw [u1, v1]; exact Prod.ext (by show v = min v u; omega) (by show u = max v u; omega)⟩
/-! ### even rings and three ways of one place each, told by counts -/
def tB (ps : List (Nat × Nat)) (u v : Nat) : Bool := ps.any fun p => (p.1 == u && p.2 == v) || (p.1 == v && p.2 == u)
def deg (E : Nat → Nat → Bool) (r : List Nat) (u : Nat) : Nat := r.countP (E u)
def goodB (E : Nat → Nat → Bool) (r : List Nat) : Bool :=
  ((r.all fun v => deg E r v == 2) && r.length % 2 == 0)
  || (r.countP (fun v => !(deg E r v == 2)) == 2 && r.all fun s => deg E r s == 2 || (deg E r s == 3 && r.all fun x => !E s x || (deg E r x == 2 && r.all fun t => deg E r t == 2 || E t x)))
theorem all_cg {α : Type} {p q : α → Bool} : ∀ {l : List α}, (∀ x ∈ l, p x = q x) → l.all p = l.all q
  | [], _ => rfl
  | a :: l, h => by rw [List.all_cons, List.all_cons, h a List.mem_cons_self, all_cg fun x hx => h x (List.mem_cons_of_mem _ hx)]
theorem cnt_cg {α : Type} {p q : α → Bool} : ∀ {l : List α}, (∀ x ∈ l, p x = q x) → l.countP p = l.countP q
  | [], _ => rfl
  | a :: l, h => by rw [List.countP_cons, List.countP_cons, h a List.mem_cons_self, cnt_cg fun x hx => h x (List.mem_cons_of_mem _ hx)]
theorem all_pm {α : Type} {p : α → Bool} {l k : List α} (h : l.Perm k) : l.all p = k.all p := by
  rw [Bool.eq_iff_iff, List.all_eq_true, List.all_eq_true]
  exact ⟨fun z x hx => z x (h.mem_iff.mpr hx), fun z x hx => z x (h.mem_iff.mp hx)⟩
theorem goodB_pm {E : Nat → Nat → Bool} {r k : List Nat} (h : r.Perm k) : goodB E r = goodB E k := by
  have d : deg E r = deg E k := funext fun u => h.countP_eq _
  unfold goodB
  rw [d, h.length_eq, h.countP_eq, all_pm h, all_pm h]
  simp only [all_pm h]
theorem goodB_map {E E0 : Nat → Nat → Bool} {f : Nat → Nat} {r : List Nat} (h : ∀ u ∈ r, ∀ v ∈ r, E (f u) (f v) = E0 u v) : goodB E (r.map f) = goodB E0 r := by
  have d : ∀ u ∈ r, deg E (r.map f) (f u) = deg E0 r u := fun u hu => by
    unfold deg
    rw [List.countP_map]
    exact cnt_cg fun v hv => h u hu v hv
  unfold goodB
  simp only [List.all_map, List.countP_map, List.length_map]
  have e1 : (r.all ((fun v => deg E (r.map f) v == 2) ∘ f)) = r.all fun v => deg E0 r v == 2 := all_cg fun v hv => by
    show (deg E (r.map f) (f v) == 2) = _
    rw [d v hv]
  have e2 : (r.countP ((fun v => !(deg E (r.map f) v == 2)) ∘ f)) = r.countP fun v => !(deg E0 r v == 2) := cnt_cg fun v hv => by
    show (!(deg E (r.map f) (f v) == 2)) = _
    rw [d v hv]
  rw [e1, e2]
  congr 1
  congr 1
  refine all_cg fun s hs => ?_
  show (deg E (r.map f) (f s) == 2 || (deg E (r.map f) (f s) == 3 && r.all _)) = _
  rw [d s hs]
  congr 1
  congr 1
  refine all_cg fun x hx => ?_
  show (!E (f s) (f x) || (deg E (r.map f) (f x) == 2 && r.all _)) = _
  rw [d x hx, h s hs x hx]
  congr 1
  congr 1
  refine all_cg fun t ht => ?_
  show (deg E (r.map f) (f t) == 2 || E (f t) (f x)) = _
  rw [d t ht, h t ht x hx]
theorem goodB_cg {E E0 : Nat → Nat → Bool} {r : List Nat} (h : ∀ u ∈ r, ∀ v ∈ r, E u v = E0 u v) : goodB E r = goodB E0 r := by
  have := goodB_map (f := id) (E := E) h
  rwa [List.map_id] at this
/-! ### groups of numbers and the parts of the core -/
theorem tB_iff {ps : List (Nat × Nat)} {u v : Nat} : tB ps u v = true ↔ Tie2 ps u v := by
  unfold tB Tie2
  rw [List.any_eq_true]
  constructor
  · rintro ⟨p, hp, h⟩
    simp only [Bool.or_eq_true, Bool.and_eq_true, beq_iff_eq] at h
    rcases h with ⟨rfl, rfl⟩ | ⟨rfl, rfl⟩
    · exact .inl hp
    · exact .inr hp
  · rintro (h | h)
    · exact ⟨_, h, by simp⟩
    · exact ⟨_, h, by simp⟩
/-- all numbers hang together -/
def ConnR (ps : List (Nat × Nat)) (r : List Nat) : Prop := ∃ s ∈ r, ∀ Q : Nat → Prop, Q s → (∀ u ∈ r, Q u → ∀ v ∈ r, Tie2 ps u v → Q v) → ∀ v ∈ r, Q v
section
variable {n : Nat} {r : Rel} {P : List Nat}
theorem nb_in (g : Gr n r) (p : IsPart n r P) {v : Nat} (hv : v ∈ P) : nb n r v = P.filter (r v) := by
  refine asc_eq (nb_pw n r v) (p.asc.filter _) fun x => ?_
  rw [mem_nb, List.mem_filter]
  exact ⟨fun ⟨_, h2⟩ => ⟨(p.co v hv x).mpr (.one h2), h2⟩, fun ⟨h1, h2⟩ => ⟨p.lt x h1, h2⟩⟩
theorem nb_deg (g : Gr n r) (p : IsPart n r P) {v : Nat} (hv : v ∈ P) : (nb n r v).length = deg r P v := by
  rw [nb_in g p hv, ← List.countP_eq_length_filter]
  rfl
theorem goodP_iff (g : Gr n r) (p : IsPart n r P) (h2 : 2 ≤ P.length) : GoodP n r P ↔ goodB r P = true := by
  unfold GoodP goodB
  have eE : endsOf n r P = P.filter fun v => !(deg r P v == 2) := by
    unfold endsOf
    refine List.filter_congr fun v hv => ?_
    rw [nb_deg g p hv]
    by_cases c : deg r P v = 2
    · rw [c]; rfl
    · rw [decide_eq_false c, beq_eq_false_iff_ne.mpr c]
  have nd : P.Nodup := nodup_of_lt p.asc
  rw [Bool.or_eq_true, Bool.and_eq_true, Bool.and_eq_true]
  have a1 : (P.all fun v => deg r P v == 2) = true ↔ ∀ v ∈ P, (nb n r v).length = 2 := by
    rw [List.all_eq_true]
    exact ⟨fun h v hv => by rw [nb_deg g p hv]; exact beq_iff_eq.mp (h v hv), fun h v hv => by rw [← nb_deg g p hv]; exact beq_iff_eq.mpr (h v hv)⟩
  rw [a1, beq_iff_eq]
  constructor
  · rintro (h | h | ⟨s, t, h1, h3, h4, h5⟩)
    · omega
    · exact .inl h
    · refine .inr ?_
      have sE : s ∈ endsOf n r P := by rw [h1]; simp
      have tE : t ∈ endsOf n r P := by rw [h1]; simp
      have sP := (List.mem_filter.mp sE).1
      have tP := (List.mem_filter.mp tE).1
      have ends : ∀ v ∈ P, deg r P v ≠ 2 → v = s ∨ v = t := fun v hv hd => by
        have : v ∈ endsOf n r P := by
          rw [eE]
          exact List.mem_filter.mpr ⟨hv, by rw [beq_eq_false_iff_ne.mpr hd]; rfl⟩
        rw [h1] at this
        simpa using this
      have nbE : ∀ v ∈ P, deg r P v ≠ 2 → nb n r v = nb n r s := fun v hv hd => (ends v hv hd).elim (fun q => by rw [q]) (fun q => by rw [q, h4])
      refine ⟨?_, ?_⟩
      · rw [beq_iff_eq, List.countP_eq_length_filter, ← eE, h1]
        rfl
      · rw [List.all_eq_true]
        intro v hv
        by_cases c : deg r P v = 2
        · rw [c]; rfl
        · rw [beq_eq_false_iff_ne.mpr c, Bool.false_or, Bool.and_eq_true, List.all_eq_true]
          have e1 := nbE v hv c
          refine ⟨by rw [beq_iff_eq, ← nb_deg g p hv, e1, h3], fun x hx => ?_⟩
          cases cx : r v x with
          | false => rfl
          | true =>
            have xs : x ∈ nb n r s := by rw [← e1]; exact mem_nb.mpr ⟨p.lt x hx, cx⟩
            rw [Bool.not_true, Bool.false_or, Bool.and_eq_true, List.all_eq_true]
            refine ⟨by rw [beq_iff_eq, ← nb_deg g p hx, h5 x xs], fun t' ht' => ?_⟩
            by_cases c' : deg r P t' = 2
            · rw [c']; rfl
            · rw [← nbE t' ht' c'] at xs
              rw [(mem_nb.mp xs).2, Bool.or_true]
  · rintro (h | ⟨h1, h3⟩)
    · exact .inr (.inl h)
    · refine .inr (.inr ?_)
      rw [beq_iff_eq, List.countP_eq_length_filter, ← eE] at h1
      obtain ⟨s, t, est⟩ : ∃ s t, endsOf n r P = [s, t] := by
        match endsOf n r P, h1 with
        | [s, t], _ => exact ⟨s, t, rfl⟩
      have sE : s ∈ endsOf n r P := by rw [est]; simp
      have tE : t ∈ endsOf n r P := by rw [est]; simp
      rw [eE] at sE tE
      obtain ⟨sP, s2⟩ := List.mem_filter.mp sE
      obtain ⟨tP, t2⟩ := List.mem_filter.mp tE
      rw [List.all_eq_true] at h3
      have key : ∀ v ∈ P, (!(deg r P v == 2)) = true → deg r P v = 3 ∧ ∀ x ∈ P, r v x = true → deg r P x = 2 ∧ ∀ t ∈ P, (!(deg r P t == 2)) = true → r t x = true := fun v hv hd => by
        have h := h3 v hv
        rw [Bool.not_eq_true'] at hd
        rw [hd, Bool.false_or, Bool.and_eq_true, List.all_eq_true] at h
        refine ⟨beq_iff_eq.mp h.1, fun x hx hr => ?_⟩
        have h' := h.2 x hx
        rw [hr, Bool.not_true, Bool.false_or, Bool.and_eq_true, List.all_eq_true] at h'
        refine ⟨beq_iff_eq.mp h'.1, fun t ht hd' => ?_⟩
        have h'' := h'.2 t ht
        rw [Bool.not_eq_true'] at hd'
        rwa [hd', Bool.false_or] at h''
      have sub : ∀ {a b}, a ∈ P → (!(deg r P a == 2)) = true → b ∈ P → (!(deg r P b == 2)) = true → ∀ x, x ∈ nb n r a → x ∈ nb n r b := fun {a b} ha ha2 hb hb2 x hx => by
        rw [nb_in g p ha, List.mem_filter] at hx
        exact mem_nb.mpr ⟨p.lt x hx.1, ((key a ha ha2).2 x hx.1 hx.2).2 b hb hb2⟩
      refine ⟨s, t, est, by rw [nb_deg g p sP]; exact (key s sP s2).1, asc_eq (nb_pw n r t) (nb_pw n r s) fun x => ⟨sub tP t2 sP s2 x, sub sP s2 tP t2 x⟩, fun x hx => ?_⟩
      rw [nb_in g p sP, List.mem_filter] at hx
      rw [nb_deg g p hx.1]
      exact ((key s sP s2).2 x hx.1 hx.2).1
end
section
variable {ps : List (Nat × Nat)} {n : Nat} {rg gs : List (List Nat)} {e : Rel} {o : List Nat} {S : List Nat}
theorem group_part (g : Gr n e) (m : Named n o ps e) (B : Bld ps n rg gs) (lt2 : ∀ p ∈ ps, p.1 < p.2) (s : Str1 n e S) (lv : leaves n e S = []) (rc : Closed n (eR e S) (rest n S)) {G r : List Nat} (hz : (G, r) ∈ gs.zip rg) (hc : r ≠ [] → ConnR ps r ∧ 3 ≤ r.length) :
    ∃ F, F ≠ [] ∧ IsPart n (eR e S) F ∧ (∀ u, u ∈ F ↔ u ∈ rest n S ∧ o.idxOf u ∈ G) ∧ (GoodP n (eR e S) F ↔ r = [] ∨ goodB (tB ps) r = true) := by
  obtain ⟨h1, h2⟩ := group_ok g m B s lv hz
  have gr := eR_gr (S := S) g
  have gp := B.grp G r hz
  have hG : G ∈ gs := (List.of_mem_zip hz).1
  have ltG := B.lt G hG
  have memF : ∀ u, u ∈ (rest n S).filter (fun u => decide (u ∈ G.map fun a => o.getD a 0)) ↔ u ∈ rest n S ∧ o.idxOf u ∈ G := fun u => by
    rw [List.mem_filter, decide_eq_true_eq]
    constructor
    · rintro ⟨a, b⟩
      exact ⟨a, (m.mem ltG (mem_rest.mp a).1).mp b⟩
    · rintro ⟨a, b⟩
      exact ⟨a, (m.mem ltG (mem_rest.mp a).1).mpr b⟩
  have ascF : ((rest n S).filter (fun u => decide (u ∈ G.map fun a => o.getD a 0))).Pairwise (· < ·) := (rest_asc S).filter _
  have inG : ∀ {u v : Nat}, Conn (eR e S) u v → o.idxOf u ∈ G → o.idxOf v ∈ G := fun {u v} c h => by
    refine conn_in (Q := fun x => o.idxOf x ∈ G) (fun x hx y exy => ?_) c h
    obtain ⟨_, _, _, t⟩ := (m.tie _ _).mp (eR_iff.mp exy).1
    rcases t with t | t
    · exact (B.sep _ t G hG).mp hx
    · exact (B.sep _ t G hG).mpr hx
  have ltr : ∀ a ∈ r, a < n := fun a ha => ltG a (gp.sub a ha)
  have pt : ∀ {u}, u ∈ (rest n S).filter (fun u => decide (u ∈ G.map fun a => o.getD a 0)) → (∀ v, v ∈ (rest n S).filter (fun u => decide (u ∈ G.map fun a => o.getD a 0)) → Conn (eR e S) u v) → IsPart n (eR e S) ((rest n S).filter (fun u => decide (u ∈ G.map fun a => o.getD a 0))) := fun {u} hu hall =>
    ⟨ascF, fun v hv => (mem_rest.mp ((memF v).mp hv).1).1, fun w hw v => ⟨fun hv => ((hall w hw).symm gr).trans (hall v hv), fun c => (memF v).mpr ⟨rc.conn c ((memF w).mp hw).1, inG c ((memF w).mp hw).2⟩⟩⟩
  by_cases re : r = []
  · have l1 := h2 re
    refine ⟨_, ?_, ?_, memF, ⟨fun _ => .inl re, fun _ => .inl l1⟩⟩
    · intro q
      rw [q] at l1
      cases l1
    · obtain ⟨v, ev⟩ : ∃ v, (rest n S).filter (fun u => decide (u ∈ G.map fun a => o.getD a 0)) = [v] := by
        match (rest n S).filter (fun u => decide (u ∈ G.map fun a => o.getD a 0)), l1 with
        | [v], _ => exact ⟨v, rfl⟩
      refine pt (u := v) (by rw [ev]; exact List.mem_singleton.mpr rfl) fun w hw => ?_
      rw [ev, List.mem_singleton] at hw
      rw [hw]
      exact .refl _
  · have eF := h1 re
    obtain ⟨⟨s0, s1, s2⟩, l3⟩ := hc re
    have inF : ∀ u, u ∈ (rest n S).filter (fun u => decide (u ∈ G.map fun a => o.getD a 0)) ↔ ∃ a ∈ r, o.getD a 0 = u := fun u => by
      rw [eF, (srtN_perm _).mem_iff, List.mem_map]
    have st : ∀ a ∈ r, o.getD a 0 ∉ S := fun a ha => (mem_rest.mp ((memF _).mp ((inF _).mpr ⟨a, ha, rfl⟩)).1).2
    have tie : ∀ a ∈ r, ∀ b ∈ r, eR e S (o.getD a 0) (o.getD b 0) = tB ps a b := fun a ha b hb => by
      obtain ⟨a1, a2⟩ := m.at_ (ltr a ha)
      obtain ⟨b1, b2⟩ := m.at_ (ltr b hb)
      rw [Bool.eq_iff_iff, tB_iff, eR_iff, m.tie, a1, b1]
      refine ⟨fun h => h.1.2.2.2, fun h => ⟨⟨a2, b2, fun q => ?_, h⟩, st a ha, st b hb⟩⟩
      have q : a = b := by rw [← a1, q, b1]
      subst q
      rcases h with h | h
      · exact Nat.lt_irrefl _ (lt2 _ h)
      · exact Nat.lt_irrefl _ (lt2 _ h)
    have pF : IsPart n (eR e S) ((rest n S).filter (fun u => decide (u ∈ G.map fun a => o.getD a 0))) := by
      refine pt (u := o.getD s0 0) ((inF _).mpr ⟨s0, s1, rfl⟩) fun v hv => ?_
      obtain ⟨a, ha, rfl⟩ := (inF v).mp hv
      exact s2 (fun x => Conn (eR e S) (o.getD s0 0) (o.getD x 0)) (.refl _) (fun x hx c y hy t => c.trans (.one (by rw [tie x hx y hy]; exact tB_iff.mpr t))) a ha
    have lF : ((rest n S).filter (fun u => decide (u ∈ G.map fun a => o.getD a 0))).length = r.length := by
      rw [eF, (srtN_perm _).length_eq, List.length_map]
    refine ⟨_, ?_, pF, memF, ?_⟩
    · intro q
      rw [q] at lF
      have : ([] : List Nat).length = 0 := rfl
      omega
    · rw [goodP_iff gr pF (by omega), eF, goodB_pm (srtN_perm _), goodB_map (E0 := tB ps) tie]
      exact ⟨.inr, fun h => h.resolve_left re⟩
open Classical in
/-- painted by two exactly if all groups are good -/
theorem painted_groups (g : Gr n e) (hn : n ≤ 100) (m : Named n o ps e) (B : Bld ps n rg gs) (lt2 : ∀ p ∈ ps, p.1 < p.2) (cov : ∀ a, a < n → ∃ G ∈ gs, a ∈ G) (hc : ∀ G r, (G, r) ∈ gs.zip rg → r ≠ [] → ConnR ps r ∧ 3 ≤ r.length) {due : Bool} (hd : due = true ↔ ∀ G r, (G, r) ∈ gs.zip rg → r = [] ∨ goodB (tB ps) r = true) : f_painted_by_two (nbs n e) = some due := by
  rw [painted_eq g hn]
  congr 1
  rw [Bool.eq_iff_iff, decide_eq_true_eq, hd]
  obtain ⟨s, lv⟩ := struck_ok n e
  have rc := rest_closed (struck n e) g
  have gr := eR_gr (S := struck n e) g
  have gp := fun {G r} (hz : (G, r) ∈ gs.zip rg) => group_part g m B lt2 s lv rc hz (hc G r hz)
  unfold partsIn
  constructor
  · intro h G r hz
    obtain ⟨F, f1, f2, f3, f4⟩ := gp hz
    refine f4.mp (h F ?_)
    obtain ⟨u, hu⟩ := List.exists_mem_of_ne_nil F f1
    have eF : F = cls n (eR e (struck n e)) (mn (eR e (struck n e)) u) := by
      refine asc_eq f2.asc (cls_pw n _ _) fun x => ?_
      rw [f2.co u hu x, mem_cls]
      exact ⟨fun c => ⟨f2.lt x ((f2.co u hu x).mpr c), (mn_eq gr c).symm⟩, fun ⟨_, q⟩ => (conn_iff gr).mpr q.symm⟩
    refine List.mem_map.mpr ⟨_, List.mem_filter.mpr ⟨rc.conn mn_conn ((f3 u).mp hu).1, by rw [beq_iff_eq]; exact mn_mn gr⟩, eF.symm⟩
  · intro h K hK
    obtain ⟨k, hk, rfl⟩ := List.mem_map.mp hK
    obtain ⟨k1, k2⟩ := List.mem_filter.mp hk
    rw [beq_iff_eq] at k2
    have kn := rc.lt k k1
    obtain ⟨G, hG, kG⟩ := cov _ (m.num kn).1
    obtain ⟨j, hj⟩ := List.getElem?_of_mem hG
    have jl := (List.getElem?_eq_some_iff.mp hj).1
    have hz : (G, rg[j]'(by rw [B.len]; exact jl)) ∈ gs.zip rg := List.mem_of_getElem? (i := j) (by
      rw [List.getElem?_zip_eq_some]
      exact ⟨hj, List.getElem?_eq_getElem _⟩)
    obtain ⟨F, f1, f2, f3, f4⟩ := gp hz
    have kF : k ∈ F := (f3 k).mpr ⟨k1, kG⟩
    have eF : cls n (eR e (struck n e)) k = F := by
      refine asc_eq (cls_pw n _ _) f2.asc fun x => ?_
      rw [f2.co k kF x, mem_cls]
      exact ⟨fun ⟨_, q⟩ => (conn_iff gr).mpr (by rw [q, k2]), fun c => ⟨f2.lt x ((f2.co k kF x).mpr c), by rw [← mn_eq gr c, k2]⟩⟩
    rw [eF]
    exact f4.mpr (h G _ hz)
end
theorem loop_nx {α S T : Type} {body : S → α → Option (Stp S T)} {xs : List α} {s0 : S} (hs : ∀ (i : Nat) (x : α) (s : S), xs[i]? = some x → ∃ r, body s x = some r ∧ ∃ s', r = .nx s') : ∃ e, loopO body xs s0 = some e ∧ ∃ s, e = .nx s := by
  obtain ⟨s, e, _⟩ := loopO_all (I := fun _ _ => True) (body := body) (xs := xs) (s0 := s0) trivial fun i x s hx _ => by
    obtain ⟨r, er, s', rfl⟩ := hs i x s hx
    exact ⟨s', er, trivial⟩
  exact ⟨_, e, s, rfl⟩
theorem cut_nat {α : Type} {l : List α} {a b : Nat} (h : b ≤ l.length) (h2 : a ≤ b) : cutL l (some ((a : Nat) : Int)) (some ((b : Nat) : Int)) = (l.drop a).take (b - a) := by
  unfold cutL
  rw [HT.sIx_nat, HT.sIx_nat, Nat.min_eq_left h, Nat.min_eq_left (by omega)]
/-! ### draws of a cell -/
theorem flat_rep {α : Type} (n : Nat) (a : α) : (List.replicate n [a]).flatten = List.replicate n a := by
  induction n with
  | zero => rfl
  | succ n ih => rw [List.replicate_succ, List.flatten_cons, ih]; rfl
/-- draws r by sizes -/
structure Drawn (sizes r : List Nat) : Prop where
  len : r.length = sizes.length
  lt : ∀ (i x s : Nat), r[i]? = some x → sizes[i]? = some s → x < s
theorem Drawn.get {sizes r : List Nat} (d : Drawn sizes r) {i s : Nat} (h : sizes[i]? = some s) : ∃ x, r[i]? = some x ∧ x < s := by
  have hi := (List.getElem?_eq_some_iff.mp h).1
  have hl := d.len
  have e : r[i]? = some (r[i]'(by omega)) := List.getElem?_eq_getElem (by omega)
  exact ⟨_, e, d.lt i _ s e h⟩
theorem draws_ok {ns : List Int} {k : Nat} {sizes : List Nat} (hz : ∀ s ∈ sizes, 0 < s ∧ s < 1073741824) (hl : sizes.length ≤ 1000) : ∃ r, f_l_draws ns k sizes = some r ∧ Drawn sizes r := by
  unfold f_l_draws
  refine ex_i (fun c => ex_g (by show 1 * sizes.length ≤ 100000 ∧ _; omega) (ex_s ⟨?_, fun i x s h1 h2 => ?_⟩)) fun c => ?_
  · rw [flat_rep, List.length_replicate]
  · rw [flat_rep, List.getElem?_replicate] at h1
    split at h1
    · cases h1
      exact (hz s (List.mem_of_getElem? h2)).1
    · cases h1
  · have c := of_decide_eq_false c
    have e : ns[k]? = some (ns[k]'(by omega)) := List.getElem?_eq_getElem (by omega)
    refine ex_b _ e (ex_g (.inl (by decide)) (ex_b _ e (ex_g (by omega) ?_)))
    generalize (2 * (Int.natAbs ns[k])) + (decide (ns[k] < ((0 : Nat) : Int))).toNat = rest0
    generalize decide ((2 * (10 ^ 18)) ≤ rest0) = great
    refine ex_e (foldO_ok (fun i (s : Nat × List Nat) => s.2.length = i ∧ ∀ (j x z : Nat), s.2[j]? = some x → sizes[j]? = some z → x < z) ⟨rfl, fun j x z h => by cases h⟩ fun i x s hx ⟨i1, i2⟩ => ?_) fun s ⟨s1, s2⟩ => ex_s ⟨by rw [s1, List.length_range], s2⟩
    obtain ⟨rfl, hi⟩ := range_at hx
    have em : ∀ a b : Nat, 0 < b → b < 2 ^ 64 → a % b < 2 ^ 64 := fun a b h1 h2 => Nat.lt_trans (Nat.mod_lt a h1) h2
    refine ex_e (A := fun _ => True) (ex_i (fun _ => ex_g (.inl (by decide)) (ex_g (.inr (by omega)) (ex_g (.inr (by decide)) (ex_g (.inl (by omega)) (ex_g (.inl (em _ _ (by decide) (by decide))) (ex_s trivial)))))) fun _ => ex_s trivial) fun v _ => ?_
    have ez : sizes[x]? = some sizes[x] := List.getElem?_eq_getElem hi
    have hp := hz _ (List.getElem_mem hi)
    have nxt : (s.2 ++ [v % sizes[x]]).length = x + 1 ∧ ∀ (j y z : Nat), (s.2 ++ [v % sizes[x]])[j]? = some y → sizes[j]? = some z → y < z := by
      refine ⟨by rw [List.length_append, i1]; rfl, fun j y z h1 h2 => ?_⟩
      by_cases q : j < s.2.length
      · rw [List.getElem?_append_left q] at h1
        exact i2 j y z h1 h2
      · rw [List.getElem?_append_right (by omega)] at h1
        have q2 := (List.getElem?_eq_some_iff.mp h1).1
        have q2 : j - s.2.length < 1 := q2
        have q3 : j = x := by omega
        subst q3
        rw [show j - s.2.length = 0 by omega] at h1
        cases h1
        rw [ez] at h2
        cases h2
        exact Nat.mod_lt _ hp.1
    exact ex_b _ ez (ex_g hp.1 (ex_g (by omega) (ex_i (fun _ => ex_b _ ez (ex_g hp (ex_s nxt))) fun _ => ex_s nxt)))
/-! ### an order by drawn places to put in, and ties turned by it -/
theorem order69 {ns : List Int} {k m : Nat} (hm : m ≤ 100) : ∃ r, f_l_order ns k m = some r ∧ r.Perm (List.range m) := by
  unfold f_l_order
  have em : m + 1 - 1 = m := by omega
  rw [em]
  refine ex_g ⟨by omega, by omega⟩ (ex_e (draws_ok (sizes := (List.range m).map fun k => 1 + k) (fun x hx => by obtain ⟨y, hy, rfl⟩ := List.mem_map.mp hx; have := List.mem_range.mp hy; omega) (by rw [List.length_map, List.length_range]; omega)) fun d hd => ex_g (by omega) ?_)
  refine ex_e (foldO_ok (fun i (s : List Nat) => s.Perm (List.range i)) (List.Perm.refl _) fun i x s hx hi => ?_) fun s hs => ex_s (by rw [List.length_range] at hs; exact hs)
  obtain ⟨rfl, hx⟩ := range_at hx
  have hl := hi.length_eq
  rw [List.length_range] at hl
  obtain ⟨p, e, hp⟩ := hd.get (i := x) (s := 1 + x) (by rw [List.getElem?_map, List.getElem?_range hx]; rfl)
  refine ex_b p e (ex_g ⟨by omega, by omega⟩ (ex_s ?_))
  rw [List.range_succ]
  have h1 : ∀ (k : Nat), (s.take k ++ [x] ++ s.drop k).Perm (s ++ [x]) := fun k => by
    rw [List.append_assoc]
    refine (List.Perm.append_left _ List.perm_append_comm).trans ?_
    rw [← List.append_assoc, List.take_append_drop]
  exact (h1 _).trans (hi.append_right _)
def turned (o : List Nat) (p : Nat × Nat) : Nat × Nat := (min (o.getD p.1 0) (o.getD p.2 0), max (o.getD p.1 0) (o.getD p.2 0))
theorem turned_ok {o : List Nat} {m : Nat} {ps : List (Nat × Nat)} (ol : o.length = m) (hp : ∀ p ∈ ps, p.1 < m ∧ p.2 < m) (z : ps.length ≤ 1000) : f_l_turned_ties o ps = some (ps.map (turned o)) := by
  unfold f_l_turned_ties
  refine bnd_eq (compO_all (g := turned o) fun p hpp => ?_) (bnd_eq (gd_true (by rw [List.length_map]; omega)) rfl)
  obtain ⟨l1, l2⟩ := hp p hpp
  have at_ : ∀ u, u < m → o[u]? = some (o.getD u 0) := fun u hu => by
    have b : u < o.length := by omega
    rw [List.getD_eq_getElem?_getD, List.getElem?_eq_getElem b]
    rfl
  exact bnd_eq (at_ _ l1) (bnd_eq (at_ _ l2) (bnd_eq (at_ _ l1) (bnd_eq (at_ _ l2) rfl)))
/-! ### the shapes, looked through -/
def nearB (E : Nat → Nat → Bool) (n v : Nat) : Bool := v == 0 || (List.range v).any (E v) || (List.range n).any fun w => E v w && (E w 0 || (List.range n).any fun x => E w x && E x 0)
def chkR (x : Nat × List (Nat × Nat) × Bool) : Bool :=
  decide (3 ≤ x.1) && (decide (x.1 ≤ 26) && (decide (x.2.1.length ≤ 30) && (x.2.1.all (fun p => decide (p.1 < p.2) && decide (p.2 < x.1)) && (decide x.2.1.Nodup
  && ((List.range x.1).all (fun v => decide (2 ≤ deg (tB x.2.1) (List.range x.1) v)) && ((List.range x.1).all (nearB (tB x.2.1) x.1) && x.2.2 == goodB (tB x.2.1) (List.range x.1)))))))
theorem shapes_chk : ∀ sort : Fin 11, ∀ size : Fin 24, (f_l_shape (sort.val + 1) size.val).map chkR = some true := by decide +kernel
theorem shape_one : ∀ size : Fin 24, f_l_shape 0 size.val = some (1, [], true) := by decide +kernel
theorem shape_ok {sort size : Nat} (h1 : sort < 12) (h2 : size < 24) : ∃ x, f_l_shape sort size = some x ∧ (x = (1, [], true) ∨ chkR x = true) := by
  by_cases c : sort = 0
  · subst c
    exact ⟨_, shape_one ⟨size, h2⟩, .inl rfl⟩
  · have h := shapes_chk ⟨sort - 1, by omega⟩ ⟨size, h2⟩
    have e : sort - 1 + 1 = sort := by omega
    dsimp only at h
    rw [e] at h
    obtain ⟨x, e1, e2⟩ := Option.map_eq_some_iff.mp h
    exact ⟨x, e1, .inr e2⟩
/-! ### painted by two: the web, put together -/
structure B69 (ps : List (Nat × Nat)) (at_ : Nat) (rg gs : List (List Nat)) (due : Bool) : Prop where
  b : Bld ps at_ rg gs
  nd : ps.Nodup
  lt : ∀ p ∈ ps, p.1 < p.2
  cov : ∀ a, a < at_ → ∃ G ∈ gs, a ∈ G
  co : ∀ r ∈ rg, r ≠ [] → ConnR ps r ∧ 3 ≤ r.length
  due : due = true ↔ ∀ r ∈ rg, r = [] ∨ goodB (tB ps) r = true
theorem b69_nil : B69 [] 0 [] [] true := ⟨bld_nil, List.nodup_nil, (fun p h => by cases h), (fun a h => by omega), (fun r h => by cases h), ⟨(fun _ r h => by cases h), fun _ => rfl⟩⟩
theorem ConnR.cg {ps qs : List (Nat × Nat)} {r : List Nat} (h : ∀ u ∈ r, ∀ v ∈ r, Tie2 ps u v → Tie2 qs u v) (c : ConnR ps r) : ConnR qs r := by
  obtain ⟨s, s1, s2⟩ := c
  exact ⟨s, s1, fun Q q0 q => s2 Q q0 fun u hu hq v hv t => q u hu hq v hv (h u hu v hv t)⟩
section
variable {ps : List (Nat × Nat)} {at_ : Nat} {rg gs : List (List Nat)} {due : Bool}
theorem old_tie {more : List (Nat × Nat)} (h : ∀ p ∈ more, at_ ≤ p.2) {u v : Nat} (hu : u < at_) (hv : v < at_) : Tie2 (ps ++ more) u v ↔ Tie2 ps u v := by
  refine ⟨fun t => (tie_app t).resolve_right fun t => ?_, Tie2.l⟩
  rcases t with t | t
  · have := h _ t
    dsimp only at this
    omega
  · have := h _ t
    dsimp only at this
    omega
theorem B69.old (I : B69 ps at_ rg gs due) {more : List (Nat × Nat)} (h : ∀ p ∈ more, at_ ≤ p.2) : (∀ r ∈ rg, r ≠ [] → ConnR (ps ++ more) r ∧ 3 ≤ r.length) ∧ (due = true ↔ ∀ r ∈ rg, r = [] ∨ goodB (tB (ps ++ more)) r = true) := by
  have lt : ∀ r ∈ rg, ∀ a ∈ r, a < at_ := fun r hr a ha => I.b.rlt a ⟨r, hr, ha⟩
  have eg : ∀ r ∈ rg, goodB (tB (ps ++ more)) r = goodB (tB ps) r := fun r hr => goodB_cg fun u hu v hv => by
    rw [Bool.eq_iff_iff, tB_iff, tB_iff, old_tie h (lt r hr u hu) (lt r hr v hv)]
  refine ⟨fun r hr ne => ⟨(I.co r hr ne).1.cg fun u _ v _ t => t.l, (I.co r hr ne).2⟩, I.due.trans ⟨fun z r hr => ?_, fun z r hr => ?_⟩⟩
  · rw [eg r hr]
    exact z r hr
  · rw [← eg r hr]
    exact z r hr
theorem leaf69 (I : B69 ps at_ rg gs due) {ch : Nat} (hc : ch < at_) : B69 (ps ++ [(ch, at_)]) (at_ + 1) rg (gs.map (grown ch at_)) due := by
  have hm : ∀ p ∈ [(ch, at_)], at_ ≤ p.2 := fun p hp => by rw [List.mem_singleton.mp hp]; exact Nat.le_refl _
  obtain ⟨k1, k2⟩ := I.old hm
  refine ⟨bld_leaf I.b hc, ?_, fun p hp => ?_, fun a ha => ?_, k1, k2⟩
  · rw [List.nodup_append]
    refine ⟨I.nd, by simp, fun p hp q hq z => ?_⟩
    have := I.b.plt p hp
    rw [z, List.mem_singleton.mp hq] at this
    exact Nat.lt_irrefl _ this.2
  · rcases mem_snoc.mp hp with hp | rfl
    · exact I.lt p hp
    · exact hc
  · by_cases q : a < at_
    · obtain ⟨G, g1, g2⟩ := I.cov a q
      exact ⟨_, List.mem_map_of_mem g1, mem_grown.mpr (.inl g2)⟩
    · obtain ⟨G, g1, g2⟩ := I.cov ch hc
      exact ⟨_, List.mem_map_of_mem g1, mem_grown.mpr (.inr ⟨g2, by omega⟩)⟩
theorem cov_add (h : ∀ a, a < at_ → ∃ G ∈ gs, a ∈ G) (size : Nat) : ∀ a, a < at_ + size → ∃ G ∈ gs ++ [runs at_ size], a ∈ G := fun a ha => by
  by_cases q : a < at_
  · obtain ⟨G, g1, g2⟩ := h a q
    exact ⟨G, List.mem_append_left _ g1, g2⟩
  · exact ⟨_, mem_snoc.mpr (.inr rfl), mem_runs.mpr (by omega)⟩
theorem one69 (I : B69 ps at_ rg gs due) : B69 (ps ++ []) (at_ + 1) (rg ++ [[]]) (gs ++ [runs at_ 1]) (due && true) := by
  have k : Kern [] 1 at_ 0 := ⟨Nat.le_refl _, (fun p h => by cases h), fun h => absurd rfl h, fun _ => ⟨rfl, rfl⟩⟩
  refine ⟨bld_add I.b k (fun h => absurd rfl h) fun _ => rfl, ?_, ?_, cov_add I.cov 1, fun r hr ne => ?_, ?_⟩
  · rw [List.append_nil]; exact I.nd
  · rw [List.append_nil]; exact I.lt
  · rw [List.append_nil]
    rcases mem_snoc.mp hr with hr | rfl
    · exact I.co r hr ne
    · exact absurd rfl ne
  · rw [Bool.and_true, I.due, List.append_nil]
    constructor
    · intro h r hr
      rcases mem_snoc.mp hr with hr | rfl
      · exact h r hr
      · exact .inl rfl
    · exact fun h r hr => h r (List.mem_append_left _ hr)
theorem runs_eq {a s : Nat} : runs a s = (List.range s).map fun k => a + k := by
  unfold runs
  rw [show a + s - a = s by omega]
theorem two_cnt {p : Nat → Bool} {l : List Nat} (nd : l.Nodup) (h : 2 ≤ l.countP p) : ∃ b c, b ≠ c ∧ b ∈ l ∧ c ∈ l ∧ p b = true ∧ p c = true := by
  rw [List.countP_eq_length_filter] at h
  have n2 := nd.filter p
  match e : l.filter p, h with
  | b :: c :: t, _ =>
    have mb : b ∈ l.filter p := by rw [e]; simp
    have mc : c ∈ l.filter p := by rw [e]; simp
    rw [e] at n2
    refine ⟨b, c, fun z => (List.nodup_cons.mp n2).1 (by rw [z]; simp), (List.mem_filter.mp mb).1, (List.mem_filter.mp mc).1, (List.mem_filter.mp mb).2, (List.mem_filter.mp mc).2⟩
theorem add69 (I : B69 ps at_ rg gs due) {size : Nat} {ts : List (Nat × Nat)} {good : Bool} (hc : chkR (size, ts, good) = true) : B69 (ps ++ ts.map fun p => (p.1 + at_, p.2 + at_)) (at_ + size) (rg ++ [runs at_ size]) (gs ++ [runs at_ size]) (due && good) := by
  unfold chkR at hc
  simp only [Bool.and_eq_true, decide_eq_true_eq, List.all_eq_true, List.mem_range, beq_iff_eq] at hc
  obtain ⟨c1, c2, c3, c4, c5, c6, c7, c8⟩ := hc
  have tlt : ∀ {u v}, Tie2 ts u v → u < size ∧ v < size ∧ u ≠ v := fun {u v} t => by
    rcases t with t | t
    · have := c4 _ t
      dsimp only at this
      omega
    · have := c4 _ t
      dsimp only at this
      omega
  have sh : ∀ {u v}, Tie2 (ts.map fun p => (p.1 + at_, p.2 + at_)) (at_ + u) (at_ + v) ↔ Tie2 ts u v := fun {u v} => by
    have one : ∀ {x y : Nat}, (at_ + x, at_ + y) ∈ (ts.map fun p => (p.1 + at_, p.2 + at_)) ↔ (x, y) ∈ ts := fun {x y} => by
      rw [List.mem_map]
      constructor
      · rintro ⟨p, hp, e⟩
        have e1 := congrArg Prod.fst e
        have e2 := congrArg Prod.snd e
        dsimp only at e1 e2
        have : p = (x, y) := Prod.ext (by show p.1 = x; omega) (by show p.2 = y; omega)
        rwa [← this]
      · exact fun h => ⟨_, h, Prod.ext (Nat.add_comm _ _) (Nat.add_comm _ _)⟩
    unfold Tie2
    rw [one, one]
  have rng : ∀ p ∈ (ts.map fun p => (p.1 + at_, p.2 + at_)), (at_ ≤ p.1 ∧ p.1 < at_ + size) ∧ at_ ≤ p.2 ∧ p.2 < at_ + size := fun p hp => by
    obtain ⟨q, hq, rfl⟩ := List.mem_map.mp hp
    have := c4 q hq
    dsimp only
    omega
  have k : Kern (ts.map fun p => (p.1 + at_, p.2 + at_)) size at_ 1 := by
    refine ⟨by omega, rng, fun _ a h1 h2 => ?_, fun h => by cases h⟩
    have h := c6 (a - at_) (by omega)
    obtain ⟨b, c, bc, _, _, hb, hc⟩ := two_cnt List.nodup_range h
    rw [tB_iff] at hb hc
    have eb := tlt hb
    have ec := tlt hc
    have ea : at_ + (a - at_) = a := by omega
    refine ⟨at_ + b, at_ + c, by omega, by omega, by omega, ?_, ?_⟩
    · have := sh.mpr hb
      rwa [ea] at this
    · have := sh.mpr hc
      rwa [ea] at this
  obtain ⟨k1, k2⟩ := I.old (more := ts.map fun p => (p.1 + at_, p.2 + at_)) fun p hp => (rng p hp).2.1
  have tie : ∀ u v, Tie2 (ps ++ ts.map fun p => (p.1 + at_, p.2 + at_)) (at_ + u) (at_ + v) ↔ Tie2 ts u v := fun u v => by
    refine ⟨fun t => sh.mp ((tie_app t).resolve_left fun t => ?_), fun t => (sh.mpr t).r⟩
    have := I.b.tlt t
    omega
  have eG : goodB (tB (ps ++ ts.map fun p => (p.1 + at_, p.2 + at_))) (runs at_ size) = good := by
    rw [runs_eq, goodB_map (E0 := tB ts) fun u _ v _ => by rw [Bool.eq_iff_iff, tB_iff, tB_iff, tie], ← c8]
  have cR : ConnR (ps ++ ts.map fun p => (p.1 + at_, p.2 + at_)) (runs at_ size) := by
    refine ⟨at_ + 0, mem_runs.mpr (by omega), fun Q q0 q => ?_⟩
    have mr : ∀ {x}, x < size → at_ + x ∈ runs at_ size := fun {x} hx => mem_runs.mpr (by omega)
    have st : ∀ u v, Q (at_ + u) → Tie2 ts u v → Q (at_ + v) := fun u v h t => q _ (mr (tlt t).1) h _ (mr (tlt t).2.1) ((tie u v).mpr t)
    have sy : ∀ {u v}, tB ts u v = true → Tie2 ts v u := fun {u v} h => (tB_iff.mp h).elim .inr .inl
    have all : ∀ k u, u ≤ k → u < size → Q (at_ + u) := by
      intro k
      induction k with
      | zero =>
        intro u hk _
        rw [show u = 0 by omega]
        exact q0
      | succ k ih =>
        intro u hk hu
        have h := c7 u hu
        unfold nearB at h
        simp only [Bool.or_eq_true, beq_iff_eq, List.any_eq_true, List.mem_range, Bool.and_eq_true] at h
        rcases h with (h | ⟨w, hw, t⟩) | ⟨w, hw, t, h⟩
        · rw [h]; exact q0
        · exact st w u (ih w (by omega) (by omega)) (sy t)
        · refine st w u ?_ (sy t)
          rcases h with h | ⟨x, _, t1, t2⟩
          · exact st 0 w q0 (sy h)
          · exact st x w (st 0 x q0 (sy t2)) (sy t1)
    intro v hv
    have hv := mem_runs.mp hv
    have := all (v - at_) (v - at_) (Nat.le_refl _) (by omega)
    rwa [show at_ + (v - at_) = v by omega] at this
  refine ⟨bld_add I.b k (fun _ => rfl) (fun h => by cases h), ?_, fun p hp => ?_, cov_add I.cov size, fun r hr ne => ?_, ?_⟩
  · rw [List.nodup_append]
    refine ⟨I.nd, ?_, fun p hp q hq z => ?_⟩
    · refine List.pairwise_map.mpr (c5.imp fun {p q} ne z => ne ?_)
      have e1 := congrArg Prod.fst z
      have e2 := congrArg Prod.snd z
      dsimp only at e1 e2
      exact Prod.ext (by omega) (by omega)
    · have := I.b.plt p hp
      have := rng q hq
      rw [z] at *
      omega
  · rcases List.mem_append.mp hp with hp | hp
    · exact I.lt p hp
    · obtain ⟨q, hq, rfl⟩ := List.mem_map.mp hp
      have := (c4 q hq).1
      show q.1 + at_ < q.2 + at_
      omega
  · rcases mem_snoc.mp hr with hr | rfl
    · exact k1 r hr ne
    · exact ⟨cR, by rw [runs_len]; exact c1⟩
  · rw [Bool.and_eq_true, k2]
    constructor
    · rintro ⟨h, hg⟩ r hr
      rcases mem_snoc.mp hr with hr | rfl
      · exact h r hr
      · exact .inr (eG.trans hg)
    · intro h
      refine ⟨fun r hr => h r (List.mem_append_left _ hr), ?_⟩
      rcases h _ (mem_snoc.mpr (.inr rfl)) with z | z
      · have := runs_len (a := at_) (s := size)
        rw [z] at this
        have : ([] : List Nat).length = 0 := rfl
        omega
      · rw [← eG]; exact z
end
/-! ### painted by two: the law -/
theorem ite_so69 {α : Type} {x : α} {o : Option α} {c : Bool} (h : c = true) : (if c = true then some x else o) = some x := if_pos h
def S69 (i : Nat) (s : Bool × List (Nat × Nat) × Nat) : Prop := (∃ rg gs, B69 s.2.1 s.2.2 rg gs s.1) ∧ s.2.2 ≤ 38 ∧ s.2.1.length ≤ 40 * i
theorem web69 (ns : List Int) : ∃ r, f_l_web ns = some r ∧ (∃ rg gs, B69 r.2.1 r.1 rg gs r.2.2) ∧ r.1 ≤ 38 ∧ r.2.1.length ≤ 1000 := by
  unfold f_l_web
  have z15 : min 15 (max 2 ns.length) ≤ 15 := by omega
  refine ex_g (by omega) (ex_e (foldO_ok S69 ⟨⟨_, _, b69_nil⟩, Nat.zero_le _, Nat.le_refl _⟩ fun i x s hx ⟨⟨rg, gs, I⟩, i2, i3⟩ => ?_) fun s ⟨h1, h2, h3⟩ => ex_s ⟨h1, h2, ?_⟩)
  · have il : i < 15 := by
      have := (List.getElem?_eq_some_iff.mp hx).1
      rw [List.length_map, List.length_range] at this
      omega
    obtain ⟨due, ps, at_⟩ := s
    have I : B69 ps at_ rg gs due := I
    have i2 : at_ ≤ 38 := i2
    have i3 : ps.length ≤ 40 * i := i3
    refine ex_e (draws_ok (sizes := [12, 24, 4, 60, 60, 60]) (by decide) (by decide)) fun d hd => ?_
    obtain ⟨a, ea, la⟩ := hd.get (i := 0) rfl
    obtain ⟨b, eb, lb⟩ := hd.get (i := 1) rfl
    obtain ⟨c, ec, lc⟩ := hd.get (i := 2) rfl
    obtain ⟨y, ey, hy⟩ := shape_ok la lb
    refine ex_b a ea (ex_b b eb (ex_b y ey (ex_b c ec (ex_i (fun cc => ?_) fun cc => ex_s ⟨⟨_, _, I⟩, i2, by show ps.length ≤ 40 * (i + 1); omega⟩))))
    obtain ⟨size, ts, good⟩ := y
    have cc : at_ + size + c ≤ 38 := of_decide_eq_true cc
    have zt : ts.length ≤ 30 ∧ 1 ≤ size := by
      rcases hy with q | q
      · have e1 := congrArg (fun z => z.2.1) q
        have e2 := congrArg Prod.fst q
        dsimp only at e1 e2
        rw [e1, e2]
        exact ⟨Nat.zero_le _, Nat.le_refl _⟩
      · unfold chkR at q
        simp only [Bool.and_eq_true, decide_eq_true_eq] at q
        exact ⟨q.2.2.1, by omega⟩
    obtain ⟨rg1, gs1, J⟩ : ∃ rg1 gs1, B69 (ps ++ ts.map fun p => (p.1 + at_, p.2 + at_)) (at_ + size) rg1 gs1 (due && good) := by
      rcases hy with q | q
      · have e1 : size = 1 := congrArg Prod.fst q
        have e2 : ts = [] := congrArg (fun z => z.2.1) q
        have e3 : good = true := congrArg (fun z => z.2.2) q
        rw [e1, e2, e3]
        exact ⟨_, _, one69 I⟩
      · exact ⟨_, _, add69 I q⟩
    refine ex_b (ts.map fun p => (p.1 + at_, p.2 + at_)) (compO_all fun p _ => rfl) (ex_g (by rw [List.length_map]; omega) (ex_g (by show ps.length + _ ≤ _; rw [List.length_map]; omega) (ex_b c ec (ex_g (by omega) ?_))))
    refine ex_e (foldO_ok (fun j (s : List (Nat × Nat)) => j ≤ 3 ∧ (∃ gs2, B69 s (at_ + size + j) rg1 gs2 (due && good)) ∧ s.length ≤ 40 * i + 30 + j) ⟨by omega, ⟨gs1, J⟩, by rw [List.length_append, List.length_map]; omega⟩ fun j x s hx ⟨_, ⟨gs2, L⟩, j2⟩ => ?_) fun s ⟨j0, ⟨gs2, L⟩, j2⟩ => ?_
    · obtain ⟨rfl, hj⟩ := range_at hx
      obtain ⟨p, ep, lp⟩ := hd.get (i := 3 + x) (s := 60) (by
        have : x = 0 ∨ x = 1 ∨ x = 2 := by omega
        rcases this with rfl | rfl | rfl <;> rfl)
      refine ex_b p ep (ex_g (by show 0 < size + x; omega) (ex_g (by omega) (ex_s ⟨by omega, ⟨_, leaf69 L ?_⟩, ?_⟩)))
      · show at_ + p % (size + x) < at_ + size + x
        have := Nat.mod_lt p (show 0 < size + x by omega)
        omega
      · show (s ++ [_]).length ≤ _
        rw [List.length_append]
        exact Nat.add_le_add_right j2 1
    · rw [List.length_range] at L j2
      exact ex_b c ec (ex_s ⟨⟨_, _, L⟩, by show at_ + size + c ≤ 38; omega, by show s.length ≤ 40 * (i + 1); omega⟩)
  · rw [List.length_map, List.length_range] at h3
    show s.2.1.length ≤ 1000
    omega
theorem law_true (ns : List Int) : ∃ r, f_law ns = some r ∧ r = true := by
  unfold f_law
  refine ex_e (web69 ns) fun x ⟨⟨rg, gs, I⟩, h2, h3⟩ => ?_
  obtain ⟨n, ps, due⟩ := x
  have I : B69 ps n rg gs due := I
  have h2 : n ≤ 38 := h2
  have h3 : ps.length ≤ 1000 := h3
  refine ex_e (order69 (m := n) (by omega)) fun o pm => ?_
  have ol : o.length = n := by rw [pm.length_eq, List.length_range]
  have nd : o.Nodup := pm.nodup_iff.mpr List.nodup_range
  refine ex_b (ps.map (turned o)) (turned_ok ol I.b.plt h3) ?_
  have at_ : ∀ u, u < n → o[u]? = some (o.getD u 0) ∧ o.getD u 0 < n := fun u hu => by
    have e : o[u]? = some o[u] := List.getElem?_eq_getElem (by omega)
    rw [List.getD_eq_getElem?_getD, e]
    exact ⟨rfl, List.mem_range.mp (pm.mem_iff.mp (List.getElem_mem (by omega)))⟩
  have inj : ∀ u v, u < n → v < n → o.getD u 0 = o.getD v 0 → u = v := fun u v hu hv q => by
    have h1 := (at_ u hu).1
    rw [q] at h1
    exact nd_ix nd h1 (at_ v hv).1
  have tok : TOk n (ps.map (turned o)) := by
    have inj2 : ∀ p ∈ ps, ∀ q ∈ ps, turned o p = turned o q → p = q := fun p hp q hq z => by
      have lp := I.b.plt p hp
      have lq := I.b.plt q hq
      have tp := I.lt p hp
      have tq := I.lt q hq
      have e1 := congrArg Prod.fst z
      have e2 := congrArg Prod.snd z
      unfold turned at e1 e2
      dsimp only at e1 e2
      have i1 := inj p.1 q.1 lp.1 lq.1
      have i2 := inj p.2 q.2 lp.2 lq.2
      have i3 := inj p.1 q.2 lp.1 lq.2
      have i4 := inj p.2 q.1 lp.2 lq.1
      have : p.1 = q.1 ∧ p.2 = q.2 := by omega
      exact Prod.ext this.1 this.2
    refine ⟨List.pairwise_map.mpr (I.nd.imp_of_mem fun hp hq ne z => ne (inj2 _ hp _ hq z)), fun q hq => ?_⟩
    · obtain ⟨p, hp, rfl⟩ := List.mem_map.mp hq
      have lp := I.b.plt p hp
      have tp := I.lt p hp
      have i1 := inj p.1 p.2 lp.1 lp.2
      have a1 := (at_ p.1 lp.1).2
      have a2 := (at_ p.2 lp.2).2
      unfold turned
      dsimp only
      omega
  have M : Named n o ps (eOf (ps.map (turned o))) := named_of pm I.b.plt tok fun q => by
    rw [List.mem_map]
    exact ⟨fun ⟨p, hp, e⟩ => ⟨p, hp, Nat.ne_of_lt (I.lt p hp), e.symm⟩, fun ⟨p, hp, _, e⟩ => ⟨p, hp, e.symm⟩⟩
  have hp : f_painted_by_two (nbs n (eOf (ps.map (turned o)))) = some due := by
    refine painted_groups tok.gr (by omega) M I.b I.lt I.cov (fun G r hz => I.co r (List.of_mem_zip hz).2) (I.due.trans ⟨fun h G r hz => h r (List.of_mem_zip hz).2, fun h r hr => ?_⟩)
    obtain ⟨j, hj⟩ := List.getElem?_of_mem hr
    have jl := (List.getElem?_eq_some_iff.mp hj).1
    exact h (gs[j]'(by rw [← I.b.len]; exact jl)) r (List.mem_of_getElem? (i := j) (by
      rw [List.getElem?_zip_eq_some]
      exact ⟨List.getElem?_eq_getElem _, hj⟩))
  have h0 : f_painted_by_two (nbs 0 (eOf [])) = some true := by
    have t0 : TOk 0 [] := ⟨List.nodup_nil, fun p h => by cases h⟩
    rw [painted_eq t0.gr (by omega)]
    congr 1
  refine ex_b _ (mkWeb_tok tok (by show n ≤ 100; omega)) (ex_b _ (mkWeb_rev tok (by show n ≤ 100; omega)) ?_)
  refine ex_e (loopO_cases (fun _ (_ : Unit) => True) trivial (fun o => o = .nx ()) (fun i x s hx _ => .inl ⟨(), ?_, trivial⟩) fun s _ => rfl) fun o' ho => ?_
  · have hx : x = nbs n (eOf (ps.map (turned o))) := by
      have := List.mem_of_getElem? hx
      simpa using this
    rw [hx, hp]
    show (if (false || (!decide (due = due))) = true then _ else _) = _
    rw [decide_eq_true rfl]
    rfl
  · subst ho
    refine ex_b _ (mkWeb_tok tok (by show n ≤ 100; omega)) (ex_b true (by unfold f_WebD_eqD; rw [eqD_yes rfl]; rfl) ?_)
    refine ex_b true ((if_pos rfl).trans (bnd_eq (x := nbs 0 (eOf [])) (mkWeb_tok ⟨List.nodup_nil, fun p h => by cases h⟩ (by omega)) (bnd_eq h0 rfl))) (ex_s rfl)
section
variable {K : PySem.W.Frag}
theorem law_tab {H : Hp} {a : Addr} {ns : List Int} {E : XK} (t : LamX.Tabs TL H) (hs : SqL K H a (ns.map V.int)) : (q_law TL K) [.ref a] H (fun v _ => v = .bl true) E := by
  obtain ⟨r, e, t'⟩ := law_true ns
  exact ⟨cutT H, .ref a, ns, r, rfl, same_cutT H, noT_cutT H, t, ⟨a, rfl, sql_cutT hs⟩, e, fun v F' H' x rv => by
    rw [show v = _ from rv, t']⟩
end
theorem all_mk {l : PySem.W.OpenLaw} {w : World} {K : PySem.W.Frag} {h : Heap} {mg : Str → Option Value} {fa : Addr} {C_Web : Addr} {f0 : Addr} {oc0 kV0 dc0 pm0 cd0 ct0 : Value} {od0 an0 : Option Addr} {sl0 : Array (Option Value)} {f1 : Addr} {oc1 kV1 dc1 pm1 cd1 ct1 : Value} {od1 an1 : Option Addr} {sl1 : Array (Option Value)} {f2 : Addr} {oc2 kV2 dc2 pm2 cd2 ct2 : Value} {od2 an2 : Option Addr} {sl2 : Array (Option Value)} {f3 : Addr} {oc3 kV3 dc3 pm3 cd3 ct3 : Value} {od3 an3 : Option Addr} {sl3 : Array (Option Value)} {f4 : Addr} {oc4 kV4 dc4 pm4 cd4 ct4 : Value} {od4 an4 : Option Addr} {sl4 : Array (Option Value)} {f5 : Addr} {oc5 kV5 dc5 pm5 cd5 ct5 : Value} {od5 an5 : Option Addr} {sl5 : Array (Option Value)} {f6 : Addr} {oc6 kV6 dc6 pm6 cd6 ct6 : Value} {od6 an6 : Option Addr} {sl6 : Array (Option Value)} {f7 : Addr} {oc7 kV7 dc7 pm7 cd7 ct7 : Value} {od7 an7 : Option Addr} {sl7 : Array (Option Value)} {f8 : Addr} {oc8 kV8 dc8 pm8 cd8 ct8 : Value} {od8 an8 : Option Addr} {sl8 : Array (Option Value)} {f9 : Addr} {oc9 kV9 dc9 pm9 cd9 ct9 : Value} {od9 an9 : Option Addr} {sl9 : Array (Option Value)} {f10 : Addr} {oc10 kV10 dc10 pm10 cd10 ct10 : Value} {od10 an10 : Option Addr} {sl10 : Array (Option Value)} {f11 : Addr} {oc11 kV11 dc11 pm11 cd11 ct11 : Value} {od11 an11 : Option Addr} {sl11 : Array (Option Value)} {f12 : Addr} {oc12 kV12 dc12 pm12 ct12 : Value} {od12 an12 : Option Addr} {sl12 : Array (Option Value)} {cc12 pp12 : Addr} {oq12 : Option Addr} {vq12 : Array Value} {sq12 : Array (Option Value)} {f13 : Addr} {oc13 kV13 dc13 pm13 cd13 ct13 : Value} {od13 an13 : Option Addr} {sl13 : Array (Option Value)} {f14 : Addr} {oc14 kV14 dc14 pm14 cd14 ct14 : Value} {od14 an14 : Option Addr} {sl14 : Array (Option Value)} {f15 : Addr} {oc15 kV15 dc15 pm15 cd15 ct15 : Value} {od15 an15 : Option Addr} {sl15 : Array (Option Value)} {f16 : Addr} {oc16 kV16 dc16 pm16 cd16 ct16 : Value} {od16 an16 : Option Addr} {sl16 : Array (Option Value)} {f17 : Addr} {oc17 kV17 dc17 pm17 cd17 ct17 : Value} {od17 an17 : Option Addr} {sl17 : Array (Option Value)} {f18 : Addr} {oc18 kV18 dc18 pm18 cd18 ct18 : Value} {od18 an18 : Option Addr} {sl18 : Array (Option Value)} {f19 : Addr} {oc19 kV19 dc19 pm19 cd19 ct19 : Value} {od19 an19 : Option Addr} {sl19 : Array (Option Value)} {f20 : Addr} {oc20 kV20 dc20 pm20 cd20 ct20 : Value} {od20 an20 : Option Addr} {sl20 : Array (Option Value)} {f21 : Addr} {oc21 kV21 dc21 pm21 cd21 ct21 : Value} {od21 an21 : Option Addr} {sl21 : Array (Option Value)} {f22 : Addr} {oc22 kV22 dc22 pm22 cd22 ct22 : Value} {od22 an22 : Option Addr} {sl22 : Array (Option Value)}
    (X : K.In h) (G : h.Ns mainGlobals mg) (hfa : mg "law" = some (.ref fa))
    (aC_Web : PySem.W.nsIn K mainGlobals "Web" = some (some (.ref C_Web)))
    (pg_Web : PySem.W.plainGet K C_Web Str.empty = true)
    (hd_Web : PySem.W.hasDictIn K C_Web = true)
    (po_Web : PySem.W.plainOver K C_Web = true)
    (sa_Web : PySem.W.findIn K (.ref C_Web) "__setattr__" = some (some (.builtin "object.__setattr__")))
    (mk_Web : PySem.W.makesIn K C_Web = true)
    (kc_Web : PySem.W.keepIn K (.ref C_Web) = true)
    (ih_Web : PySem.W.findIn K (.ref C_Web) "__class__" = some (some (.builtin "object.__class__")))
    (in_Web : PySem.W.specialIn K (.builtin "object.__class__") "__get__" = some (some (.builtin "getset_descriptor.__get__")))
    (it_Web : PySem.W.takesIn K (.builtin "object.__class__") = some true)
    (im_Web : PySem.W.mroIn K C_Web (.type "object") = some true)
    (n_Web_beside : PySem.W.findIn K (.ref C_Web) "beside" = some none)
    (z_abs : PySem.W.nsIn K mainGlobals "abs" = some none)
    (z_all : PySem.W.nsIn K mainGlobals "all" = some none)
    (z_bool : PySem.W.nsIn K mainGlobals "bool" = some none)
    (z_int : PySem.W.nsIn K mainGlobals "int" = some none)
    (z_isinstance : PySem.W.nsIn K mainGlobals "isinstance" = some none)
    (z_len : PySem.W.nsIn K mainGlobals "len" = some none)
    (z_list : PySem.W.nsIn K mainGlobals "list" = some none)
    (z_max : PySem.W.nsIn K mainGlobals "max" = some none)
    (z_min : PySem.W.nsIn K mainGlobals "min" = some none)
    (z_property : PySem.W.nsIn K mainGlobals "property" = some none)
    (z_range : PySem.W.nsIn K mainGlobals "range" = some none)
    (z_sorted : PySem.W.nsIn K mainGlobals "sorted" = some none)
    (z_tuple : PySem.W.nsIn K mainGlobals "tuple" = some none)
    (a0 : PySem.W.nsIn K mainGlobals "is_integer" = some (some (.ref f0)))
    (l0 : K.lookup f0 = some ⟨oc0, od0, .func (PySem.W.fnOf "is_integer" "is_integer" (defArgs s_is_integer) (defBody s_is_integer) (defScope s_is_integer) .none kV0 dc0 pm0 an0 cd0 ct0), sl0⟩)
    (c0 : PySem.W.codeIn K cd0 "is_integer" = true)
    (k0 : PySem.W.keepIn K (.ref f0) = true)
    (a1 : PySem.W.nsIn K mainGlobals "is_tie" = some (some (.ref f1)))
    (l1 : K.lookup f1 = some ⟨oc1, od1, .func (PySem.W.fnOf "is_tie" "is_tie" (defArgs s_is_tie) (defBody s_is_tie) (defScope s_is_tie) .none kV1 dc1 pm1 an1 cd1 ct1), sl1⟩)
    (c1 : PySem.W.codeIn K cd1 "is_tie" = true)
    (k1 : PySem.W.keepIn K (.ref f1) = true)
    (a2 : PySem.W.findIn K (.ref C_Web) "__init__" = some (some (.ref f2)))
    (i2 : PySem.W.isFn K (.ref f2) = true)
    (l2 : K.lookup f2 = some ⟨oc2, od2, .func (PySem.W.fnOf "__init__" "Web.__init__" (defArgs s_WebD_initD) (defBody s_WebD_initD) (defScope s_WebD_initD) .none kV2 dc2 pm2 an2 cd2 ct2), sl2⟩)
    (c2 : PySem.W.codeIn K cd2 "Web.__init__" = true)
    (k2 : PySem.W.keepIn K (.ref f2) = true)
    (a3 : PySem.W.findIn K (.ref C_Web) "__len__" = some (some (.ref f3)))
    (i3 : PySem.W.isFn K (.ref f3) = true)
    (l3 : K.lookup f3 = some ⟨oc3, od3, .func (PySem.W.fnOf "__len__" "Web.__len__" (defArgs s_WebD_lenD) (defBody s_WebD_lenD) (defScope s_WebD_lenD) .none kV3 dc3 pm3 an3 cd3 ct3), sl3⟩)
    (c3 : PySem.W.codeIn K cd3 "Web.__len__" = true)
    (k3 : PySem.W.keepIn K (.ref f3) = true)
    (a4 : PySem.W.findIn K (.ref C_Web) "__eq__" = some (some (.ref f4)))
    (i4 : PySem.W.isFn K (.ref f4) = true)
    (l4 : K.lookup f4 = some ⟨oc4, od4, .func (PySem.W.fnOf "__eq__" "Web.__eq__" (defArgs s_WebD_eqD) (defBody s_WebD_eqD) (defScope s_WebD_eqD) .none kV4 dc4 pm4 an4 cd4 ct4), sl4⟩)
    (c4 : PySem.W.codeIn K cd4 "Web.__eq__" = true)
    (k4 : PySem.W.keepIn K (.ref f4) = true)
    (a5 : PySem.W.findIn K (.ref C_Web) "is_place" = some (some (.ref f5)))
    (i5 : PySem.W.isFn K (.ref f5) = true)
    (l5 : K.lookup f5 = some ⟨oc5, od5, .func (PySem.W.fnOf "is_place" "Web.is_place" (defArgs s_Web_is_place) (defBody s_Web_is_place) (defScope s_Web_is_place) .none kV5 dc5 pm5 an5 cd5 ct5), sl5⟩)
    (c5 : PySem.W.codeIn K cd5 "Web.is_place" = true)
    (k5 : PySem.W.keepIn K (.ref f5) = true)
    (a6 : PySem.W.findIn K (.ref C_Web) "neighbours" = some (some (.ref f6)))
    (i6 : PySem.W.isFn K (.ref f6) = true)
    (l6 : K.lookup f6 = some ⟨oc6, od6, .func (PySem.W.fnOf "neighbours" "Web.neighbours" (defArgs s_Web_neighbours) (defBody s_Web_neighbours) (defScope s_Web_neighbours) .none kV6 dc6 pm6 an6 cd6 ct6), sl6⟩)
    (c6 : PySem.W.codeIn K cd6 "Web.neighbours" = true)
    (k6 : PySem.W.keepIn K (.ref f6) = true)
    (a7 : PySem.W.nsIn K mainGlobals "core" = some (some (.ref f7)))
    (l7 : K.lookup f7 = some ⟨oc7, od7, .func (PySem.W.fnOf "core" "core" (defArgs s_core) (defBody s_core) (defScope s_core) .none kV7 dc7 pm7 an7 cd7 ct7), sl7⟩)
    (c7 : PySem.W.codeIn K cd7 "core" = true)
    (k7 : PySem.W.keepIn K (.ref f7) = true)
    (a8 : PySem.W.nsIn K mainGlobals "kept_ties" = some (some (.ref f8)))
    (l8 : K.lookup f8 = some ⟨oc8, od8, .func (PySem.W.fnOf "kept_ties" "kept_ties" (defArgs s_kept_ties) (defBody s_kept_ties) (defScope s_kept_ties) .none kV8 dc8 pm8 an8 cd8 ct8), sl8⟩)
    (c8 : PySem.W.codeIn K cd8 "kept_ties" = true)
    (k8 : PySem.W.keepIn K (.ref f8) = true)
    (a9 : PySem.W.nsIn K mainGlobals "core_parts" = some (some (.ref f9)))
    (l9 : K.lookup f9 = some ⟨oc9, od9, .func (PySem.W.fnOf "core_parts" "core_parts" (defArgs s_core_parts) (defBody s_core_parts) (defScope s_core_parts) .none kV9 dc9 pm9 an9 cd9 ct9), sl9⟩)
    (c9 : PySem.W.codeIn K cd9 "core_parts" = true)
    (k9 : PySem.W.keepIn K (.ref f9) = true)
    (a10 : PySem.W.nsIn K mainGlobals "ring_from" = some (some (.ref f10)))
    (l10 : K.lookup f10 = some ⟨oc10, od10, .func (PySem.W.fnOf "ring_from" "ring_from" (defArgs s_ring_from) (defBody s_ring_from) (defScope s_ring_from) .none kV10 dc10 pm10 an10 cd10 ct10), sl10⟩)
    (c10 : PySem.W.codeIn K cd10 "ring_from" = true)
    (k10 : PySem.W.keepIn K (.ref f10) = true)
    (a11 : PySem.W.nsIn K mainGlobals "way_from" = some (some (.ref f11)))
    (l11 : K.lookup f11 = some ⟨oc11, od11, .func (PySem.W.fnOf "way_from" "way_from" (defArgs s_way_from) (defBody s_way_from) (defScope s_way_from) .none kV11 dc11 pm11 an11 cd11 ct11), sl11⟩)
    (c11 : PySem.W.codeIn K cd11 "way_from" = true)
    (k11 : PySem.W.keepIn K (.ref f11) = true)
    (a12 : PySem.W.nsIn K mainGlobals "three_ways" = some (some (.ref f12)))
    (l12 : K.lookup f12 = some ⟨oc12, od12, .func (PySem.W.fnOf "three_ways" "three_ways" (defArgs s_three_ways) (defBody s_three_ways) (defScope s_three_ways) .none kV12 dc12 pm12 an12 (.ref cc12) ct12), sl12⟩)
    (c12 : PySem.W.codeIn K (.ref cc12) "three_ways" = true)
    (k12 : PySem.W.keepIn K (.ref f12) = true)
    (tn12 : K.lookup cc12 = some ⟨.type "code", oq12, .fields vq12, sq12⟩)
    (tp12 : vq12[11]? = some (.ref pp12))
    (th12 : PySem.W.codeHdIn K cc12 pp12 = true)
    (to12 : K.lookup pp12 = none)
    (te12 : h.get? pp12 = some { cls := .none, data := .fields #[] })
    (a13 : PySem.W.nsIn K mainGlobals "part_form" = some (some (.ref f13)))
    (l13 : K.lookup f13 = some ⟨oc13, od13, .func (PySem.W.fnOf "part_form" "part_form" (defArgs s_part_form) (defBody s_part_form) (defScope s_part_form) .none kV13 dc13 pm13 an13 cd13 ct13), sl13⟩)
    (c13 : PySem.W.codeIn K cd13 "part_form" = true)
    (k13 : PySem.W.keepIn K (.ref f13) = true)
    (a14 : PySem.W.nsIn K mainGlobals "part_forms" = some (some (.ref f14)))
    (l14 : K.lookup f14 = some ⟨oc14, od14, .func (PySem.W.fnOf "part_forms" "part_forms" (defArgs s_part_forms) (defBody s_part_forms) (defScope s_part_forms) .none kV14 dc14 pm14 an14 cd14 ct14), sl14⟩)
    (c14 : PySem.W.codeIn K cd14 "part_forms" = true)
    (k14 : PySem.W.keepIn K (.ref f14) = true)
    (a15 : PySem.W.nsIn K mainGlobals "painted_by_two" = some (some (.ref f15)))
    (l15 : K.lookup f15 = some ⟨oc15, od15, .func (PySem.W.fnOf "painted_by_two" "painted_by_two" (defArgs s_painted_by_two) (defBody s_painted_by_two) (defScope s_painted_by_two) .none kV15 dc15 pm15 an15 cd15 ct15), sl15⟩)
    (c15 : PySem.W.codeIn K cd15 "painted_by_two" = true)
    (k15 : PySem.W.keepIn K (.ref f15) = true)
    (a16 : PySem.W.nsIn K mainGlobals "_law_draws" = some (some (.ref f16)))
    (l16 : K.lookup f16 = some ⟨oc16, od16, .func (PySem.W.fnOf "_law_draws" "_law_draws" (defArgs s_l_draws) (defBody s_l_draws) (defScope s_l_draws) .none kV16 dc16 pm16 an16 cd16 ct16), sl16⟩)
    (c16 : PySem.W.codeIn K cd16 "_law_draws" = true)
    (k16 : PySem.W.keepIn K (.ref f16) = true)
    (a17 : PySem.W.nsIn K mainGlobals "_law_turned_ties" = some (some (.ref f17)))
    (l17 : K.lookup f17 = some ⟨oc17, od17, .func (PySem.W.fnOf "_law_turned_ties" "_law_turned_ties" (defArgs s_l_turned_ties) (defBody s_l_turned_ties) (defScope s_l_turned_ties) .none kV17 dc17 pm17 an17 cd17 ct17), sl17⟩)
    (c17 : PySem.W.codeIn K cd17 "_law_turned_ties" = true)
    (k17 : PySem.W.keepIn K (.ref f17) = true)
    (a18 : PySem.W.nsIn K mainGlobals "_law_order" = some (some (.ref f18)))
    (l18 : K.lookup f18 = some ⟨oc18, od18, .func (PySem.W.fnOf "_law_order" "_law_order" (defArgs s_l_order) (defBody s_l_order) (defScope s_l_order) .none kV18 dc18 pm18 an18 cd18 ct18), sl18⟩)
    (c18 : PySem.W.codeIn K cd18 "_law_order" = true)
    (k18 : PySem.W.keepIn K (.ref f18) = true)
    (a19 : PySem.W.nsIn K mainGlobals "_law_between" = some (some (.ref f19)))
    (l19 : K.lookup f19 = some ⟨oc19, od19, .func (PySem.W.fnOf "_law_between" "_law_between" (defArgs s_l_between) (defBody s_l_between) (defScope s_l_between) .none kV19 dc19 pm19 an19 cd19 ct19), sl19⟩)
    (c19 : PySem.W.codeIn K cd19 "_law_between" = true)
    (k19 : PySem.W.keepIn K (.ref f19) = true)
    (a20 : PySem.W.nsIn K mainGlobals "_law_shape" = some (some (.ref f20)))
    (l20 : K.lookup f20 = some ⟨oc20, od20, .func (PySem.W.fnOf "_law_shape" "_law_shape" (defArgs s_l_shape) (defBody s_l_shape) (defScope s_l_shape) .none kV20 dc20 pm20 an20 cd20 ct20), sl20⟩)
    (c20 : PySem.W.codeIn K cd20 "_law_shape" = true)
    (k20 : PySem.W.keepIn K (.ref f20) = true)
    (a21 : PySem.W.nsIn K mainGlobals "_law_web" = some (some (.ref f21)))
    (l21 : K.lookup f21 = some ⟨oc21, od21, .func (PySem.W.fnOf "_law_web" "_law_web" (defArgs s_l_web) (defBody s_l_web) (defScope s_l_web) .none kV21 dc21 pm21 an21 cd21 ct21), sl21⟩)
    (c21 : PySem.W.codeIn K cd21 "_law_web" = true)
    (k21 : PySem.W.keepIn K (.ref f21) = true)
    (a22 : PySem.W.nsIn K mainGlobals "law" = some (some (.ref f22)))
    (l22 : K.lookup f22 = some ⟨oc22, od22, .func (PySem.W.fnOf "law" "law" (defArgs s_law) (defBody s_law) (defScope s_law) .none kV22 dc22 pm22 an22 cd22 ct22), sl22⟩)
    (c22 : PySem.W.codeIn K cd22 "law" = true)
    (k22 : PySem.W.keepIn K (.ref f22) = true) :
    LamX.LawAtS l w K L2.CX0 9 63 "script" mg fa h := by
  have e := hfa.symm.trans (PySem.W.mg_of X G a22)
  cases e
  have O_Web : Own K mg "Web" C_Web := own_mk X G aC_Web pg_Web hd_Web po_Web sa_Web mk_Web kc_Web
  have I_Web : C8.InsC K C_Web := ⟨O_Web.cl, ih_Web, in_Web, it_Web, im_Web, by unfold PySem.W.kitOne; rw [if_pos (by simp)]⟩
  have n_Web_beside : NoAttr K C_Web "beside" := n_Web_beside
  have T : Tx mg := ⟨PySem.W.mg_none_of X G z_abs, PySem.W.mg_none_of X G z_all, PySem.W.mg_none_of X G z_bool, PySem.W.mg_none_of X G z_int, PySem.W.mg_none_of X G z_isinstance, PySem.W.mg_none_of X G z_len, PySem.W.mg_none_of X G z_list, PySem.W.mg_none_of X G z_max, PySem.W.mg_none_of X G z_min, PySem.W.mg_none_of X G z_property, PySem.W.mg_none_of X G z_range, PySem.W.mg_none_of X G z_sorted, PySem.W.mg_none_of X G z_tuple⟩
  have D_is_integer : DefAt K mg "is_integer" s_is_integer ["value"] := defAt_mk X G a0 l0 c0 k0 (fun _ _ _ _ _ _ us hl => match us, hl with | [_], _ => rfl)
  have D_is_tie : DefAt K mg "is_tie" s_is_tie ["places", "value"] := defAt_mk X G a1 l1 c1 k1 (fun _ _ _ _ _ _ us hl => match us, hl with | [_, _], _ => rfl)
  have D_WebD_initD : MetAt K C_Web "__init__" "Web.__init__" s_WebD_initD ["self", "places", "ties"] := metAt_mk a2 i2 l2 c2 k2 (fun _ _ _ _ _ _ us hl => match us, hl with | [_, _, _], _ => rfl)
  have D_WebD_lenD : MetAt K C_Web "__len__" "Web.__len__" s_WebD_lenD ["self"] := metAt_mk a3 i3 l3 c3 k3 (fun _ _ _ _ _ _ us hl => match us, hl with | [_], _ => rfl)
  have D_WebD_eqD : MetAt K C_Web "__eq__" "Web.__eq__" s_WebD_eqD ["self", "other"] := metAt_mk a4 i4 l4 c4 k4 (fun _ _ _ _ _ _ us hl => match us, hl with | [_, _], _ => rfl)
  have D_Web_is_place : MetAt K C_Web "is_place" "Web.is_place" s_Web_is_place ["self", "value"] := metAt_mk a5 i5 l5 c5 k5 (fun _ _ _ _ _ _ us hl => match us, hl with | [_, _], _ => rfl)
  have D_Web_neighbours : MetAt K C_Web "neighbours" "Web.neighbours" s_Web_neighbours ["self", "place"] := metAt_mk a6 i6 l6 c6 k6 (fun _ _ _ _ _ _ us hl => match us, hl with | [_, _], _ => rfl)
  have D_core : DefAt K mg "core" s_core ["web"] := defAt_mk X G a7 l7 c7 k7 (fun _ _ _ _ _ _ us hl => match us, hl with | [_], _ => rfl)
  have D_kept_ties : DefAt K mg "kept_ties" s_kept_ties ["web"] := defAt_mk X G a8 l8 c8 k8 (fun _ _ _ _ _ _ us hl => match us, hl with | [_], _ => rfl)
  have D_core_parts : DefAt K mg "core_parts" s_core_parts ["web"] := defAt_mk X G a9 l9 c9 k9 (fun _ _ _ _ _ _ us hl => match us, hl with | [_], _ => rfl)
  have D_ring_from : DefAt K mg "ring_from" s_ring_from ["beside", "start"] := defAt_mk X G a10 l10 c10 k10 (fun _ _ _ _ _ _ us hl => match us, hl with | [_, _], _ => rfl)
  have D_way_from : DefAt K mg "way_from" s_way_from ["beside", "start", "second"] := defAt_mk X G a11 l11 c11 k11 (fun _ _ _ _ _ _ us hl => match us, hl with | [_, _, _], _ => rfl)
  have D_three_ways : DefAtC K mg "three_ways" s_three_ways ["beside", "part"] cc12 := ⟨f12, _, _, _, _, _, _, _, _, l12, c12, k12, PySem.W.mg_of X G a12, (fun_mk l12 c12 k12).binds (fun _ _ _ _ _ _ us hl => match us, hl with | [_, _], _ => rfl)⟩
  have D_part_form : DefAt K mg "part_form" s_part_form ["beside", "part"] := defAt_mk X G a13 l13 c13 k13 (fun _ _ _ _ _ _ us hl => match us, hl with | [_, _], _ => rfl)
  have D_part_forms : DefAt K mg "part_forms" s_part_forms ["web"] := defAt_mk X G a14 l14 c14 k14 (fun _ _ _ _ _ _ us hl => match us, hl with | [_], _ => rfl)
  have D_painted_by_two : DefAt K mg "painted_by_two" s_painted_by_two ["web"] := defAt_mk X G a15 l15 c15 k15 (fun _ _ _ _ _ _ us hl => match us, hl with | [_], _ => rfl)
  have D_l_draws : DefAt K mg "_law_draws" s_l_draws ["script", "k", "sizes"] := defAt_mk X G a16 l16 c16 k16 (fun _ _ _ _ _ _ us hl => match us, hl with | [_, _, _], _ => rfl)
  have D_l_turned_ties : DefAt K mg "_law_turned_ties" s_l_turned_ties ["order", "ties"] := defAt_mk X G a17 l17 c17 k17 (fun _ _ _ _ _ _ us hl => match us, hl with | [_, _], _ => rfl)
  have D_l_order : DefAt K mg "_law_order" s_l_order ["script", "k", "many"] := defAt_mk X G a18 l18 c18 k18 (fun _ _ _ _ _ _ us hl => match us, hl with | [_, _, _], _ => rfl)
  have D_l_between : DefAt K mg "_law_between" s_l_between ["first", "last"] := defAt_mk X G a19 l19 c19 k19 (fun _ _ _ _ _ _ us hl => match us, hl with | [_, _], _ => rfl)
  have D_l_shape : DefAt K mg "_law_shape" s_l_shape ["sort", "size"] := defAt_mk X G a20 l20 c20 k20 (fun _ _ _ _ _ _ us hl => match us, hl with | [_, _], _ => rfl)
  have D_l_web : DefAt K mg "_law_web" s_l_web ["script"] := defAt_mk X G a21 l21 c21 k21 (fun _ _ _ _ _ _ us hl => match us, hl with | [_], _ => rfl)
  refine ⟨PySem.W.fnOf "law" "law" (defArgs s_law) (defBody s_law) (defScope s_law) .none kV22 dc22 pm22 an22 cd22 ct22, [(cc12, pp12)], (q_law [(pp12, ("three_ways.<locals>.<lambda>" : Str))] K), (List.forall_mem_cons.mpr ⟨te12, (fun _ h => nomatch h)⟩), (List.forall_mem_cons.mpr ⟨to12, (fun _ h => nomatch h)⟩), (List.forall_mem_cons.mpr ⟨(PySem.W.codeHd_of_K X th12), (fun _ h => nomatch h)⟩), fun s v => .of_eq rfl, fun H a ns hl hb ht hs => ?_, fun base KB GB TB => ?_⟩
  · exact law_tab (tabs_of_empty (List.forall_mem_cons.mpr ⟨(ht (cc12, pp12) (by simp)), (fun _ h => nomatch h)⟩)) hs
  have TB_three_ways : TabB base mg cc12 pp12 := TB (cc12, pp12) (by simp)
  have LM_three_ways : (pp12, ("three_ways.<locals>.<lambda>" : Str)) ∈ ([(pp12, ("three_ways.<locals>.<lambda>" : Str))] : List (Addr × Str)) := by simp
  have LU_three_ways : ∀ p ∈ ([(pp12, ("three_ways.<locals>.<lambda>" : Str))] : List (Addr × Str)), p.1 = pp12 → p.2 = ("three_ways.<locals>.<lambda>" : Str) := (List.forall_mem_cons.mpr ⟨(fun _ => rfl), (fun _ h => nomatch h)⟩)
  have h_is_integer := c_is_integer (base := base) (P := l.prog) (w := w) (K := K) T D_is_integer
  have h_is_tie := c_is_tie (base := base) (P := l.prog) (w := w) (K := K) T D_is_tie h_is_integer
  have h_WebD_initD := m_Web_init (base := base) (P := l.prog) (w := w) T O_Web n_Web_beside D_WebD_initD h_is_integer h_is_tie
  have h_l_draws := t_l_draws (base := base) (P := l.prog) (w := w) (TL := [(pp12, ("three_ways.<locals>.<lambda>" : Str))]) T D_l_draws
  have h_l_between := t_l_between (base := base) (P := l.prog) (w := w) (TL := [(pp12, ("three_ways.<locals>.<lambda>" : Str))]) T D_l_between
  have h_l_shape := t_l_shape (base := base) (P := l.prog) (w := w) (TL := [(pp12, ("three_ways.<locals>.<lambda>" : Str))]) T D_l_shape h_l_between
  have h_l_web := t_l_web (base := base) (P := l.prog) (w := w) (TL := [(pp12, ("three_ways.<locals>.<lambda>" : Str))]) T D_l_web h_l_draws h_l_shape
  have h_l_order := t_l_order (base := base) (P := l.prog) (w := w) (TL := [(pp12, ("three_ways.<locals>.<lambda>" : Str))]) T D_l_order h_l_draws
  have h_l_turned_ties := t_l_turned_ties (base := base) (P := l.prog) (w := w) (TL := [(pp12, ("three_ways.<locals>.<lambda>" : Str))]) T D_l_turned_ties
  have h_WebD_lenD := t_WebD_lenD (base := base) (P := l.prog) (w := w) (TL := [(pp12, ("three_ways.<locals>.<lambda>" : Str))]) T O_Web n_Web_beside D_WebD_lenD
  have h_Web_is_place := t_Web_is_place (base := base) (P := l.prog) (w := w) (TL := [(pp12, ("three_ways.<locals>.<lambda>" : Str))]) T O_Web n_Web_beside D_Web_is_place h_is_integer
  have h_Web_neighbours := t_Web_neighbours (base := base) (P := l.prog) (w := w) (TL := [(pp12, ("three_ways.<locals>.<lambda>" : Str))]) T O_Web n_Web_beside D_Web_neighbours h_Web_is_place
  have h_core := t_core (base := base) (P := l.prog) (w := w) (TL := [(pp12, ("three_ways.<locals>.<lambda>" : Str))]) T O_Web D_core h_WebD_lenD h_Web_neighbours
  have h_kept_ties := t_kept_ties (base := base) (P := l.prog) (w := w) (TL := [(pp12, ("three_ways.<locals>.<lambda>" : Str))]) T O_Web D_kept_ties h_core h_Web_neighbours
  have h_core_parts := t_core_parts (base := base) (P := l.prog) (w := w) (TL := [(pp12, ("three_ways.<locals>.<lambda>" : Str))]) T O_Web D_core_parts h_kept_ties h_WebD_lenD
  have h_ring_from := t_ring_from (base := base) (P := l.prog) (w := w) (TL := [(pp12, ("three_ways.<locals>.<lambda>" : Str))]) T D_ring_from
  have h_way_from := t_way_from (base := base) (P := l.prog) (w := w) (TL := [(pp12, ("three_ways.<locals>.<lambda>" : Str))]) T D_way_from
  have h_three_ways := t_three_ways (base := base) (P := l.prog) (w := w) (TL := [(pp12, ("three_ways.<locals>.<lambda>" : Str))]) T D_three_ways TB_three_ways LM_three_ways LU_three_ways h_way_from
  have h_part_form := t_part_form (base := base) (P := l.prog) (w := w) (TL := [(pp12, ("three_ways.<locals>.<lambda>" : Str))]) T D_part_form h_ring_from h_three_ways
  have h_part_forms := t_part_forms (base := base) (P := l.prog) (w := w) (TL := [(pp12, ("three_ways.<locals>.<lambda>" : Str))]) T O_Web D_part_forms h_kept_ties h_core_parts h_part_form
  have h_painted_by_two := t_painted_by_two (base := base) (P := l.prog) (w := w) (TL := [(pp12, ("three_ways.<locals>.<lambda>" : Str))]) T O_Web D_painted_by_two h_part_forms
  have h_WebD_eqD := t_WebD_eqD (base := base) (P := l.prog) (w := w) (TL := [(pp12, ("three_ways.<locals>.<lambda>" : Str))]) T O_Web n_Web_beside I_Web D_WebD_eqD
  exact t_law T O_Web (fun_mk l22 c22 k22) h_l_web h_l_order h_l_turned_ties h_WebD_initD h_painted_by_two h_WebD_eqD
end OC
open PySem PySem.W PyProof.Rows
set_option maxRecDepth 100000 in
set_option maxHeartbeats 0 in
theorem PySem.Challenge.cw_ownhues_k69_painted_by_two_holds : PySem.Challenge.rw_ownhues_k69_painted_by_two.Holds := by
  w_on; o_law; k_head; (case hw => w_witness2)
  k_fill
  refine LamX.walk_ofTs (l := PySem.Challenge.rw_ownhues_k69_painted_by_two) (n := 63) (k := 9) (x := "script") (CX := fun _ => L2.CX0) rfl (by decide) rfl ⟨rfl, by decide, by decide⟩ (fun w h Y => PySem.W.km_in_of Y) ?F (fun _ _ _ _ _ h => h)
  case F =>
    intro w mg fa h Y KX G hmg
    refine' OC.all_mk KX G hmg ?aC_Web ?pg_Web ?hd_Web ?po_Web ?sa_Web ?mk_Web ?kc_Web ?ih_Web ?in_Web ?it_Web ?im_Web ?n_Web_beside ?z_abs ?z_all ?z_bool ?z_int ?z_isinstance ?z_len ?z_list ?z_max ?z_min ?z_property ?z_range ?z_sorted ?z_tuple ?a0 ?l0 ?c0 ?k0 ?a1 ?l1 ?c1 ?k1 ?a2 ?i2 ?l2 ?c2 ?k2 ?a3 ?i3 ?l3 ?c3 ?k3 ?a4 ?i4 ?l4 ?c4 ?k4 ?a5 ?i5 ?l5 ?c5 ?k5 ?a6 ?i6 ?l6 ?c6 ?k6 ?a7 ?l7 ?c7 ?k7 ?a8 ?l8 ?c8 ?k8 ?a9 ?l9 ?c9 ?k9 ?a10 ?l10 ?c10 ?k10 ?a11 ?l11 ?c11 ?k11 ?a12 ?l12 ?c12 ?k12 ?tn12 ?tp12 ?th12 ?to12 ?te12 ?a13 ?l13 ?c13 ?k13 ?a14 ?l14 ?c14 ?k14 ?a15 ?l15 ?c15 ?k15 ?a16 ?l16 ?c16 ?k16 ?a17 ?l17 ?c17 ?k17 ?a18 ?l18 ?c18 ?k18 ?a19 ?l19 ?c19 ?k19 ?a20 ?l20 ?c20 ?k20 ?a21 ?l21 ?c21 ?k21 ?a22 ?l22 ?c22 ?k22
    (case aC_Web => k_is)
    (case pg_Web => k_is)
    (case hd_Web => k_is)
    (case po_Web => k_is)
    (case sa_Web => k_is)
    (case mk_Web => k_is)
    (case kc_Web => k_is)
    (case ih_Web => k_is)
    (case in_Web => k_is)
    (case it_Web => k_is)
    (case im_Web => k_is)
    (case n_Web_beside => k_is)
    (case z_abs => k_is)
    (case z_all => k_is)
    (case z_bool => k_is)
    (case z_int => k_is)
    (case z_isinstance => k_is)
    (case z_len => k_is)
    (case z_list => k_is)
    (case z_max => k_is)
    (case z_min => k_is)
    (case z_property => k_is)
    (case z_range => k_is)
    (case z_sorted => k_is)
    (case z_tuple => k_is)
    (case a0 => k_is)
    (case l0 => k_is)
    (case c0 => k_is)
    (case k0 => k_is)
    (case a1 => k_is)
    (case l1 => k_is)
    (case c1 => k_is)
    (case k1 => k_is)
    (case a2 => k_is)
    (case i2 => k_is)
    (case l2 => k_is)
    (case c2 => k_is)
    (case k2 => k_is)
    (case a3 => k_is)
    (case i3 => k_is)
    (case l3 => k_is)
    (case c3 => k_is)
    (case k3 => k_is)
    (case a4 => k_is)
    (case i4 => k_is)
    (case l4 => k_is)
    (case c4 => k_is)
    (case k4 => k_is)
    (case a5 => k_is)
    (case i5 => k_is)
    (case l5 => k_is)
    (case c5 => k_is)
    (case k5 => k_is)
    (case a6 => k_is)
    (case i6 => k_is)
    (case l6 => k_is)
    (case c6 => k_is)
    (case k6 => k_is)
    (case a7 => k_is)
    (case l7 => k_is)
    (case c7 => k_is)
    (case k7 => k_is)
    (case a8 => k_is)
    (case l8 => k_is)
    (case c8 => k_is)
    (case k8 => k_is)
    (case a9 => k_is)
    (case l9 => k_is)
    (case c9 => k_is)
    (case k9 => k_is)
    (case a10 => k_is)
    (case l10 => k_is)
    (case c10 => k_is)
    (case k10 => k_is)
    (case a11 => k_is)
    (case l11 => k_is)
    (case c11 => k_is)
    (case k11 => k_is)
    (case a12 => k_is)
    (case l12 => k_is)
    (case c12 => k_is)
    (case k12 => k_is)
    (case tn12 => k_is)
    (case tp12 => rfl)
    (case th12 => kernel_rfl)
    (case to12 => kernel_rfl)
    (case te12 => exact PySem.W.km_tabs_of Y _ (by simp))
    (case a13 => k_is)
    (case l13 => k_is)
    (case c13 => k_is)
    (case k13 => k_is)
    (case a14 => k_is)
    (case l14 => k_is)
    (case c14 => k_is)
    (case k14 => k_is)
    (case a15 => k_is)
    (case l15 => k_is)
    (case c15 => k_is)
    (case k15 => k_is)
    (case a16 => k_is)
    (case l16 => k_is)
    (case c16 => k_is)
    (case k16 => k_is)
    (case a17 => k_is)
    (case l17 => k_is)
    (case c17 => k_is)
    (case k17 => k_is)
    (case a18 => k_is)
    (case l18 => k_is)
    (case c18 => k_is)
    (case k18 => k_is)
    (case a19 => k_is)
    (case l19 => k_is)
    (case c19 => k_is)
    (case k19 => k_is)
    (case a20 => k_is)
    (case l20 => k_is)
    (case c20 => k_is)
    (case k20 => k_is)
    (case a21 => k_is)
    (case l21 => k_is)
    (case c21 => k_is)
    (case k21 => k_is)
    (case a22 => k_is)
    (case l22 => k_is)
    (case c22 => k_is)
    (case k22 => k_is)
