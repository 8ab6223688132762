import PyProof.Rows.All
import Wide.All
import OpenK.AllK
import Wide.FinOn
import HandS.ForMost
import HandS.ForExc
import HandS.More
import HandS.Wide
import HandS.DictComp
import HandS.TupAny
import HandS.IsInst
import HandS.Walk
import HandS.Style
import HandS.SetKeys
import HandS.Steps
import PyProof.Rows.SortShellAny
import PyProof.Rows.RuleB_pow
import KE.GoesEnum
import HandS.Conv
import HandS.Property
import HandS.TryOnly
import KE.KDictSum
import HandS.SortRule
import HandS.NamedTupSort
import HandS.TupLe
import HandS.SortKw
import HandS.Finally
import KE.KEqDict
import PySem.Challenge.RW_ownshares_k71_whole_freest_book_lets_all
set_option Elab.async false
set_option linter.all false
set_option maxRecDepth 100000
set_option maxHeartbeats 4000000
set_option pp.maxSteps 1200
set_option Elab.async false
set_option linter.all false
set_option maxRecDepth 100000
set_option maxHeartbeats 2000000
/-! The heap's order, readings of plain data, steps of readings: shared by all laws. -/
namespace M
open PySem PySem.Spec PyProof.Rows L2

/-! ### the heap's orders -/
/-- the heap without the addresses of S -/
def hid (S : List Addr) (H : Hp) : Hp := fun b => if b ∈ S then none else H b
/-- all but the addresses of S is as it was -/
def SX (S : List Addr) (A B : Hp) : Prop := ∀ b o, b ∉ S → A b = some o → B b = some o
/-- what is plain to be read -/
def Pl : HO → Prop
  | .lst _ | .tup _ | .dK _ | .dT _ => True
  | _ => False
/-- what may be read stays to be read -/
structure Le (A B : Hp) : Prop where
  rd : ∀ b u, Pl u → Rd A b u → Rd B b u
  ins : ∀ b C dx fs, A b = some (.ins C dx fs) → B b = some (.ins C dx fs)
  tup : ∀ b xs, A b = some (.tup xs) → B b = some (.tup xs)
theorem Le.refl (A : Hp) : Le A A := ⟨fun _ _ _ h => h, fun _ _ _ _ h => h, fun _ _ h => h⟩
theorem Le.trans {A B C : Hp} (a : Le A B) (b : Le B C) : Le A C := ⟨fun x u p h => b.rd x u p (a.rd x u p h), fun x c d f h => b.ins x c d f (a.ins x c d f h), fun x u h => b.tup x u (a.tup x u h)⟩
theorem le_of {A B : Hp} (h : ∀ b o, A b = some o → B b = some o) : Le A B :=
  ⟨fun b u _ q => by rcases q with q | ⟨o, q⟩
                     · exact .inl (h _ _ q)
                     · exact .inr ⟨o, h _ _ q⟩, fun b C dx fs q => h _ _ q, fun b xs q => h _ _ q⟩
theorem Le.l {K : PySem.W.Frag} {A B : Hp} {a : Addr} {xs : List V} (e : Le A B) (h : SqL K A a xs) : SqL K B a xs := by
  rcases h with h | h
  · exact .inl (e.rd _ _ trivial h)
  · exact .inr h
theorem Le.t {K : PySem.W.Frag} {A B : Hp} {a : Addr} {xs : List V} (e : Le A B) (h : SqT K A a xs) : SqT K B a xs := by
  rcases h with h | h
  · exact .inl (e.rd _ _ trivial h)
  · exact .inr h
theorem sqL {K : PySem.W.Frag} {H : Hp} {a : Addr} {xs : List V} (h : H a = some (.lst xs)) : SqL K H a xs := .inl (.inl h)
theorem sqT {K : PySem.W.Frag} {H : Hp} {a : Addr} {xs : List V} (h : H a = some (.tup xs)) : SqT K H a xs := .inl (.inl h)
theorem hid_at {S : List Addr} {H : Hp} {b : Addr} {o : HO} (h : hid S H b = some o) : b ∉ S ∧ H b = some o := by
  unfold hid at h
  split at h
  · cases h
  · exact ⟨by assumption, h⟩
theorem hid_of {S : List Addr} {H : Hp} {b : Addr} (h : b ∉ S) : hid S H b = H b := by
  unfold hid
  rw [if_neg h]
theorem hid_in {S : List Addr} {H : Hp} {b : Addr} (h : b ∈ S) : hid S H b = none := by
  unfold hid
  rw [if_pos h]
theorem hid_nil {H : Hp} : hid [] H = H := by
  funext b
  exact hid_of List.not_mem_nil
theorem le_hid {S : List Addr} {H : Hp} : Le (hid S H) H := le_of fun _ _ q => (hid_at q).2
theorem le_hid2 {S S' : List Addr} {H : Hp} (h : ∀ b ∈ S, b ∈ S') : Le (hid S' H) (hid S H) := le_of fun b o q => by
  obtain ⟨n, q⟩ := hid_at q
  rw [hid_of fun m => n (h b m)]
  exact q
theorem SX.refl {S : List Addr} (A : Hp) : SX S A A := fun _ _ _ h => h
theorem SX.trans {S : List Addr} {A B C : Hp} (a : SX S A B) (b : SX S B C) : SX S A C := fun x o n h => b x o n (a x o n h)
theorem SX.sub {S S' : List Addr} {A B : Hp} (h : ∀ b ∈ S, b ∈ S') (a : SX S A B) : SX S' A B := fun x o n q => a x o (fun m => n (h x m)) q
theorem SX.le {S : List Addr} {A B : Hp} (a : SX S A B) : Le (hid S A) (hid S B) := le_of fun b o q => by
  obtain ⟨n, q⟩ := hid_at q
  rw [hid_of n]
  exact a b o n q
theorem SX.le0 {A B : Hp} (a : SX [] A B) : Le A B := le_of fun b o q => a b o List.not_mem_nil q
theorem SX.leH {S : List Addr} {A B : Hp} (a : SX S A B) : Le (hid S A) B := a.le.trans le_hid
theorem SX.new {S : List Addr} {A : Hp} {p : Addr} {o : HO} (h : A p = none) : SX S A (upd A p o) := fun b u _ q => by
  rw [upd_ne (ne_of_none q h)]
  exact q
theorem SX.mut {S : List Addr} {A : Hp} {p : Addr} {o : HO} (h : p ∈ S) : SX S A (upd A p o) := fun b u n q => by
  rw [upd_ne (by rintro rfl; exact n h)]
  exact q
theorem SX.same {A B : Hp} (h : ∀ b o, A b = some o → B b = some o) {S : List Addr} : SX S A B := fun b o _ q => h b o q
theorem SX.at_ {S : List Addr} {A B : Hp} {b : Addr} {o : HO} (a : SX S A B) (q : A b = some o) (n : b ∉ S) : B b = some o := a b o n q
/-- fresh behind is fresh ahead -/
theorem SX.free {S : List Addr} {A B : Hp} {b : Addr} (a : SX S A B) (q : B b = none) (n : b ∉ S) : A b = none := by
  cases e : A b with
  | none => rfl
  | some o =>
    rw [a b o n e] at q
    cases q
theorem not_in_of_none {H : Hp} {p : Addr} {S : List Addr} (h : H p = none) (hs : ∀ b ∈ S, H b ≠ none) : p ∉ S := fun m => hs p m h
/-- locks -/
theorem le_lock {A : Hp} {d : Addr} {u : HO} {od : Obj} (h : A d = some u) (hm : Mut (some u)) (hi : ∀ C dx fs, u ≠ .ins C dx fs) : Le A (upd A d (.frz od u)) := by
  refine ⟨fun b v p q => ?_, fun b C dx fs q => ?_, fun b xs q => ?_⟩
  · by_cases e : b = d
    · subst e
      rcases q with q | ⟨o, q⟩
      · rw [h] at q
        cases q
        exact .inr ⟨od, upd_same⟩
      · rw [h] at q
        cases q
        exact hm.elim
    · unfold Rd
      rw [upd_ne e]
      exact q
  · rw [upd_ne]
    · exact q
    · rintro rfl
      rw [h] at q
      cases q
      exact hi _ _ _ rfl
  · rw [upd_ne]
    · exact q
    · rintro rfl
      rw [h] at q
      cases q
      exact hm
theorem le_unlock {A : Hp} {d : Addr} {u : HO} {od : Obj} (h : A d = some (.frz od u)) : Le A (upd A d u) := by
  refine ⟨fun b v p q => ?_, fun b C dx fs q => ?_, fun b xs q => ?_⟩
  · by_cases e : b = d
    · subst e
      rcases q with q | ⟨o, q⟩
      · rw [h] at q
        cases q
        exact p.elim
      · rw [h] at q
        cases q
        exact .inl upd_same
    · unfold Rd
      rw [upd_ne e]
      exact q
  · rw [upd_ne]
    · exact q
    · rintro rfl
      rw [h] at q
      cases q
  · rw [upd_ne]
    · exact q
    · rintro rfl
      rw [h] at q
      cases q

/-! ### steps of readings -/
section
variable {K : PySem.W.Frag} {σ σ' : L2.St} {H H' : Hp} {ta tb tc te : TE} {t u : TT} {x y z v : V} {r : R2} {Q : VK} {D : Ends} {t1 t2 : TS} {ag : TA} {QA : List V → Hp → Prop} {QB : Bool → Hp → Prop} {i j : Int}
theorem x_var {n : Nat} (h : σ[n]? = some (some v)) (k : Q v H) : tVar n σ H Q := ⟨v, h, k⟩
theorem x_c (k : Q v H) : tC v σ H Q := k
theorem x_op (k : ta σ H fun x H1 => tb σ H1 fun y H2 => r x y H2 Q) : tOp r ta tb σ H Q := k
theorem x_un {r : V → Hp → VK → Prop} (k : ta σ H fun x H1 => r x H1 Q) : tUn r ta σ H Q := k
theorem x_I0 {g : Int → Int → V} (k : Q (g i j) H) : rI0 g (.int i) (.int j) H Q := ⟨i, j, rfl, rfl, k⟩
theorem x_I {C : Int → Int → Prop} {g : Int → Int → V} (c : C i j) (k : Q (g i j) H) : rI C g (.int i) (.int j) H Q := ⟨i, j, rfl, rfl, c, k⟩
theorem x_U {g : Int → V} (k : Q (g i) H) : rU g (.int i) H Q := ⟨i, rfl, k⟩
theorem x_eq (h : scal x y = true) (k : Q (.bl (decide (x = y))) H) : rEq x y H Q := ⟨h, k⟩
theorem x_ne (h : scal x y = true) (k : Q (.bl (!decide (x = y))) H) : rNe x y H Q := ⟨h, k⟩
theorem x_test {te : TE} (k : te σ H fun x H' => ∃ c, x = .bl c ∧ QB c H') : tTest te σ H QB := k
theorem x_B {te : TE} (k : te σ H fun x H' => ∃ c, x = .bl c ∧ QB c H') : tB te σ H QB := k
theorem x_bl {b : Bool} {R : Bool → Prop} (k : R b) : ∃ c, V.bl b = .bl c ∧ R c := ⟨b, rfl, k⟩
theorem x_and (k : t σ H fun c H1 => if c = true then u σ H1 QB else QB false H1) : tAnd t u σ H QB := k
theorem x_or (k : t σ H fun c H1 => if c = true then QB true H1 else u σ H1 QB) : tOr t u σ H QB := k
theorem x_not (k : t σ H fun c H1 => QB (!c) H1) : tNot t σ H QB := k
theorem x_andV (k : ta σ H fun x H1 => ∃ c, x = .bl c ∧ if c = true then tb σ H1 Q else Q (.bl false) H1) : tAndV ta tb σ H Q := k
theorem x_orV (k : ta σ H fun x H1 => ∃ c, x = .bl c ∧ if c = true then Q (.bl true) H1 else tb σ H1 Q) : tOrV ta tb σ H Q := k
theorem x_notV (k : ta σ H fun x H1 => ∃ c, x = .bl c ∧ Q (.bl (!c)) H1) : tNotV ta σ H Q := k
theorem x_if (k : t σ H fun c H1 => if c = true then ta σ H1 Q else tb σ H1 Q) : tIf t ta tb σ H Q := k
theorem x_chain {r' : R2} (k : ta σ H fun x H1 => tb σ H1 fun y H2 => r x y H2 fun z H3 => ∃ k, z = .bl k ∧ (if k = true then tc σ H3 fun w' H4 => r' y w' H4 Q else Q (.bl false) H3)) : tChain r r' ta tb tc σ H Q := k
theorem x_CB {r : List V → Hp → VK → Prop} (k : ag σ H fun vs H1 => r vs H1 Q) : tCB r ag σ H Q := k
theorem x_nil (k : QA [] H) : tNil σ H QA := k
theorem x_cons {ar : TA} (k : ta σ H fun x H1 => ar σ H1 fun xs H2 => QA (x :: xs) H2) : tCons ta ar σ H QA := k
theorem x_tup (k : ag σ H fun xs H1 => xs.length ≤ sizeLine ∧ ∀ p, H1 p = none → Q (.ref p) (upd H1 p (.tup xs))) : tTup ag σ H Q := k
theorem x_lst (k : ag σ H fun xs H1 => xs.length ≤ sizeLine ∧ ∀ p, H1 p = none → Q (.ref p) (upd H1 p (.lst xs))) : tLst ag σ H Q := k
theorem x_call {sp : Sp} {dvs : List V} {E : XK} (k : ag σ H fun vs H1 => sp (vs ++ dvs) H1 Q E) : tCall sp dvs E ag σ H Q := k
theorem x_dnew (k : ∀ p, H p = none → Q (.ref p) (upd H p (.dK []))) : tDNewK σ H Q := k
theorem x_seq (k : t1 { D with nx := t2 D } σ H) : tSeq t1 t2 D σ H := k
theorem x_next (k : D.nx σ H) : tNext D σ H := k
theorem x_break (k : D.bk σ H) : tBreak D σ H := k
theorem x_cont (k : D.ct σ H) : tCont D σ H := k
theorem x_ret (k : te σ H D.rt) : tRet te D σ H := k
theorem x_retN (k : D.rt .non H) : tRetN D σ H := k
theorem x_drop (k : te σ H fun _ H1 => D.nx σ H1) : tDrop te D σ H := k
theorem x_ifS (k : t σ H fun b H1 => if b = true then t1 D σ H1 else t2 D σ H1) : tIfS t t1 t2 D σ H := k
theorem x_asg {g : TG} (k : te σ H fun x H1 => g x σ H1 D.nx) : tAsg te g D σ H := k
theorem x_name {n : Nat} {Q : L2.St → Hp → Prop} (e : σ.set n (some v) = σ') (k : Q σ' H) : gName n v σ H Q := by
  subst e
  exact k
theorem x_sub {to ti : TE} {st : TSet} {Q : L2.St → Hp → Prop} (k : to σ H fun o H1 => ti σ H1 fun i H2 => st o i v H2 fun H3 => Q σ H3) : gSub to ti st v σ H Q := k
theorem x_gnil {Q : L2.St → Hp → Prop} (k : Q σ H) : gNil [] σ H Q := ⟨rfl, k⟩
theorem x_gcons {g : TG} {gs : TGs} {vs : List V} {Q : L2.St → Hp → Prop} (k : g v σ H fun σ' H' => gs vs σ' H' Q) : gCons g gs (v :: vs) σ H Q := ⟨v, vs, rfl, k⟩
theorem x_gtup {n : Nat} {gs : TGs} {a : Addr} {xs : List V} {Q : L2.St → Hp → Prop} (h : SqT K H a xs) (hl : xs.length = n) (k : gs xs σ H Q) : gTup K n gs (.ref a) σ H Q := ⟨a, xs, rfl, h, hl, k⟩
theorem x_par {n m : Nat} (k : ag σ H fun vs H1 => ∃ v w, vs = [v, w] ∧ D.nx ((σ.set n (some v)).set m (some w)) H1) : tPar n m ag D σ H := k
theorem x_par2 {v w : V} {R : V → V → Prop} (k : R v w) : ∃ v' w', [v, w] = [v', w'] ∧ R v' w' := ⟨v, w, rfl, k⟩
theorem x_aug {n : Nat} {ti : TIp} (h : σ[n]? = some (some x)) (k : te σ H fun y H1 => ti x y H1 fun z H2 => D.nx (σ.set n (some z)) H2) : tAug n te ti D σ H := ⟨x, h, k⟩
theorem x_ipI {f : Int → Int → Int} (k : Q (.int (f i j)) H) : ipI f (.int i) (.int j) H Q := ⟨i, j, rfl, rfl, k⟩
theorem x_dput {td ty tv : TE} (k : tv σ H fun v H1 => td σ H1 fun x H2 => ty σ H2 fun y H3 => ∃ a H4, x = .ref a ∧ DPut H3 a y v H4 ∧ D.nx σ H4) : sDPut td ty tv D σ H := k
theorem x_dget {td ty : TE} (k : td σ H fun x H1 => ty σ H1 fun y H2 => ∃ a v, x = .ref a ∧ DGet H2 a y (some v) ∧ Q v H2) : tDGet td ty σ H Q := k
theorem x_din {td ty : TE} (k : ty σ H fun y H1 => td σ H1 fun x H2 => ∃ a o, x = .ref a ∧ DGet H2 a y o ∧ Q (.bl o.isSome) H2) : tDIn ty td σ H Q := k
theorem x_dnotin {td ty : TE} (k : ty σ H fun y H1 => td σ H1 fun x H2 => ∃ a o, x = .ref a ∧ DGet H2 a y o ∧ Q (.bl (!o.isSome)) H2) : tDNotIn ty td σ H Q := k
theorem x_bm {T : String} {r : V → List V → Hp → VK → Prop} (k : ta σ H fun x H1 => tyV K T x H1 ∧ ag σ H1 fun xs H2 => r x xs H2 Q) : tBM K T r ta ag σ H Q := k
theorem x_bm0 {T : String} {r : V → List V → Hp → VK → Prop} (k : ta σ H fun x H1 => tyV K T x H1 ∧ r x [] H1 Q) : tBM0 K T r ta σ H Q := k
theorem x_sl {r : V → Option Int → Option Int → Hp → VK → Prop} {tl th : TO} (k : te σ H fun x H1 => tl σ H1 fun l H2 => th σ H2 fun u H3 => r x l u H3 Q) : tSl r te tl th σ H Q := k
theorem x_nopart {Q : Option Int → Hp → Prop} (k : Q none H) : tNoPart σ H Q := k
theorem x_part {Q : Option Int → Hp → Prop} (k : te σ H fun x H1 => ∃ i, x = .int i ∧ Q (some i) H1) : tPart te σ H Q := k
theorem x_int {Q : Int → Prop} (k : Q i) : ∃ j, V.int i = .int j ∧ Q j := ⟨i, rfl, k⟩
theorem x_fld {f : Str} (k : te σ H fun x H1 => ∃ a C dx fs v, x = .ref a ∧ H1 a = some (.ins C dx fs) ∧ Cls K C ∧ NoAttr K C f ∧ fs.lookup f = some v ∧ Q v H1) : tFld K te f σ H Q := k
theorem x_start {t : TS} (e : σ = σ') (k : t D σ' H) : t D σ H := by
  rw [e]
  exact k
theorem x_for {wi : TI} {g : TG} {tb : TS} (k : wi σ H fun J H1 => ∃ W : Nat → Nat → L2.St → Hp → Prop, (∃ m, W 0 m σ H1) ∧ ∀ i m σ H, W i m σ H →
  (J.stop i H ∧ D.nx σ H) ∨ (J.go i H ∧ ∃ N : L2.St → Hp → Prop, (∀ σ' H', N σ' H' → ∃ m', m' < m ∧ W (i + 1) m' σ' H') ∧ ∀ x H', J.yld i H x H' → g x σ H' fun σ2 H2 => tb { D with nx := N, ct := N, bk := D.nx } σ2 H2)) : tFor wi g tb D σ H := k
theorem x_iStr {R : It → Hp → Prop} (k : te σ H fun v H1 => ∃ x, v = .str x ∧ R (Its x) H1) : iStr te σ H R := k
theorem x_str {s : Str} {R : Str → Prop} (k : R s) : ∃ x, V.str s = .str x ∧ R x := ⟨s, rfl, k⟩
theorem x_iRng1 {R : It → Hp → Prop} (k : ag σ H fun vs H1 => ∃ j : Int, vs = [.int j] ∧ -(2 ^ 62) ≤ j ∧ j < 2 ^ 62 ∧ R (Itr 0 j.toNat) H1) : iRng1 ag σ H R := k
theorem x_rng1 {R : Int → Prop} (h1 : -(2 ^ 62) ≤ i) (h2 : i < 2 ^ 62) (k : R i) : ∃ j : Int, [V.int i] = [.int j] ∧ -(2 ^ 62) ≤ j ∧ j < 2 ^ 62 ∧ R j := ⟨i, rfl, h1, h2, k⟩
theorem x_iRng2 {R : It → Hp → Prop} (k : ag σ H fun vs H1 => ∃ i j : Int, vs = [.int i, .int j] ∧ (-(2 ^ 62) ≤ i ∧ i < 2 ^ 62 ∧ -(2 ^ 62) ≤ j ∧ j < 2 ^ 62) ∧ R (Itr i (j - i).toNat) H1) : iRng2 ag σ H R := k
theorem x_rng2 {R : Int → Int → Prop} (h : -(2 ^ 62) ≤ i ∧ i < 2 ^ 62 ∧ -(2 ^ 62) ≤ j ∧ j < 2 ^ 62) (k : R i j) : ∃ i' j' : Int, [V.int i, V.int j] = [.int i', .int j'] ∧ (-(2 ^ 62) ≤ i' ∧ i' < 2 ^ 62 ∧ -(2 ^ 62) ≤ j' ∧ j' < 2 ^ 62) ∧ R i' j' := ⟨i, j, rfl, h, k⟩
theorem x_iList {R : It → Hp → Prop} (k : te σ H fun x H1 => ∃ a, x = .ref a ∧ (∃ xs, SqL K H1 a xs) ∧ R (Itl K a) H1) : iList K te σ H R := k
theorem x_itl {a : Addr} {xs : List V} {R : Addr → Prop} (h : SqL K H a xs) (k : R a) : ∃ a', V.ref a = .ref a' ∧ (∃ xs, SqL K H a' xs) ∧ R a' := ⟨a, rfl, ⟨xs, h⟩, k⟩
theorem x_iTup {R : It → Hp → Prop} (k : te σ H fun x H1 => ∃ a, x = .ref a ∧ (∃ xs, SqT K H1 a xs) ∧ R (Itt K a) H1) : iTup K te σ H R := k
theorem x_itt {a : Addr} {xs : List V} {R : Addr → Prop} (h : SqT K H a xs) (k : R a) : ∃ a', V.ref a = .ref a' ∧ (∃ xs, SqT K H a' xs) ∧ R a' := ⟨a, rfl, ⟨xs, h⟩, k⟩
theorem x_iKeys {R : It → Hp → Prop} (k : te σ H fun x H1 => ∃ d o, x = .ref d ∧ ((∃ kvs, H1 d = some (.frz o (.dK kvs)) ∧ R (Itk d o kvs) H1) ∨ ∃ kvs, H1 d = some (.frz o (.dT kvs)) ∧ R (Itkt d o kvs) H1)) : iKeys te σ H R := k
theorem x_itk {d : Addr} {o : Obj} {kvs : List (Key × V)} {R : Addr → Obj → List (Key × V) → Prop} {R' : Addr → Obj → Prop} (h : H d = some (.frz o (.dK kvs))) (k : R d o kvs) : ∃ d' o', V.ref d = .ref d' ∧ ((∃ kvs, H d' = some (.frz o' (.dK kvs)) ∧ R d' o' kvs) ∨ R' d' o') := ⟨d, o, rfl, .inl ⟨kvs, h, k⟩⟩
theorem x_iVals {R : It → Hp → Prop} (k : te σ H fun x H1 => ∃ d o kvs, x = .ref d ∧ H1 d = some (.frz o (.dK kvs)) ∧ R (Itd d o kvs) H1) : iVals te σ H R := k
theorem x_itd {d : Addr} {o : Obj} {kvs : List (Key × V)} {R : Addr → Obj → List (Key × V) → Prop} (h : H d = some (.frz o (.dK kvs))) (k : R d o kvs) : ∃ d' o' kvs', V.ref d = .ref d' ∧ H d' = some (.frz o' (.dK kvs')) ∧ R d' o' kvs' := ⟨d, o, kvs, rfl, h, k⟩
theorem x_iItems {R : It → Hp → Prop} (k : te σ H fun x H1 => ∃ d o kvs, x = .ref d ∧ H1 d = some (.frz o (.dK kvs)) ∧ R (Iti d o kvs) H1) : iItems te σ H R := k
theorem x_iti {d : Addr} {o : Obj} {kvs : List (Key × V)} {R : Addr → Obj → List (Key × V) → Prop} (h : H d = some (.frz o (.dK kvs))) (k : R d o kvs) : ∃ d' o' kvs', V.ref d = .ref d' ∧ H d' = some (.frz o' (.dK kvs')) ∧ R d' o' kvs' := ⟨d, o, kvs, rfl, h, k⟩
theorem x_nt {A B : Prop} (k : B) : if (!true) = true then A else B := iteF k
theorem x_nf {A B : Prop} (k : A) : if (!false) = true then A else B := iteT k
theorem x_true {c : Bool} {A B : Prop} (h : c = true) (k : A) : if c = true then A else B := by
  rw [if_pos h]
  exact k
theorem x_false {c : Bool} {A B : Prop} (h : c = false) (k : B) : if c = true then A else B := by
  rw [h]
  exact iteF k
theorem x_cases {c : Bool} {A B : Prop} (h1 : c = true → A) (h2 : c = false → B) : if c = true then A else B := by
  cases c
  · exact iteF (h2 rfl)
  · exact iteT (h1 rfl)
end

theorem cx_K {CX : CXT} {P : Program} {w : World} {K : PySem.W.Frag} {mg : Str → Option Value} {base : Heap} {N : List Str} {qual : Str} {scope : Scope} {f : Addr} {cd : Value} {A : Around} {outer : List Env} {s : Shared} {H : Hp} {E : XK} :
    (cxOf CX P w K mg base N qual scope f cd A outer s H E).K = K := rfl
theorem cx_w {CX : CXT} {P : Program} {w : World} {K : PySem.W.Frag} {mg : Str → Option Value} {base : Heap} {N : List Str} {qual : Str} {scope : Scope} {f : Addr} {cd : Value} {A : Around} {outer : List Env} {s : Shared} {H : Hp} {E : XK} :
    (cxOf CX P w K mg base N qual scope f cd A outer s H E).w = w := rfl
theorem cx_P {CX : CXT} {P : Program} {w : World} {K : PySem.W.Frag} {mg : Str → Option Value} {base : Heap} {N : List Str} {qual : Str} {scope : Scope} {f : Addr} {cd : Value} {A : Around} {outer : List Env} {s : Shared} {H : Hp} {E : XK} :
    (cxOf CX P w K mg base N qual scope f cd A outer s H E).prog = P := rfl
theorem cx_n {X : Cx} {E : Value → Shared → Prop} : (X.wish E).K = X.K := rfl
/-! ### defs of the top -/
structure FX (K : PySem.W.Frag) (mg : Str → Option Value) (x qual : Str) (st : Stmt) (ps : List Str) where
  f : Addr
  fd : FuncData
  F : Fun K x qual st f fd
  g : mg x = some (.ref f)
  B : Binds K fd ps []
structure MX (K : PySem.W.Frag) (x qual : Str) (st : Stmt) (ps : List Str) where
  f : Addr
  fd : FuncData
  F : Fun K x qual st f fd
  B : Binds K fd ps []

/-! ### readings of plain data -/
abbrev RR (α : Type) := Hp → V → α → Prop
/-- a reading that stays as the heap grows -/
def Mono {α : Type} (R : RR α) : Prop := ∀ A B v x, Le A B → R A v x → R B v x
def rI : RR Int := fun _ v i => v = .int i
def rS : RR Str := fun _ v s => v = .str s
def rB : RR Bool := fun _ v b => v = .bl b
theorem mono_I : Mono rI := fun _ _ _ _ _ h => h
theorem mono_S : Mono rS := fun _ _ _ _ _ h => h
theorem mono_B : Mono rB := fun _ _ _ _ _ h => h
/-- a list, a tuple of alike things -/
def rL (K : PySem.W.Frag) {α : Type} (R : RR α) : RR (List α) := fun H v l => ∃ a xs, v = .ref a ∧ SqL K H a xs ∧ Paired (R H) xs l
def rTL (K : PySem.W.Frag) {α : Type} (R : RR α) : RR (List α) := fun H v l => ∃ a xs, v = .ref a ∧ SqT K H a xs ∧ Paired (R H) xs l
def rP (K : PySem.W.Frag) {α β : Type} (R : RR α) (S : RR β) : RR (α × β) := fun H v p => ∃ a x y, v = .ref a ∧ SqT K H a [x, y] ∧ R H x p.1 ∧ S H y p.2
/-- a dict whose keys are texts -/
def KVs {α : Type} (R : RR α) (H : Hp) : List (Key × V) → List (Str × α) → Prop := Paired fun kv p => kv.1 = Sum.inr p.1 ∧ R H kv.2 p.2
def rD {α : Type} (R : RR α) : RR (List (Str × α)) := fun H v l => ∃ a kvs, v = .ref a ∧ Rd H a (.dK kvs) ∧ KVs R H kvs l
section
variable {K : PySem.W.Frag} {α β : Type} {R : RR α} {S : RR β}
theorem paired_le {A B : Hp} (m : Mono R) (e : Le A B) : ∀ {xs : List V} {l : List α}, Paired (R A) xs l → Paired (R B) xs l
  | _, _, .nil => .nil
  | _, _, .cons h t => .cons (m _ _ _ _ e h) (paired_le m e t)
theorem KVs.le {A B : Hp} (m : Mono R) (e : Le A B) : ∀ {xs : List (Key × V)} {l : List (Str × α)}, KVs R A xs l → KVs R B xs l
  | _, _, .nil => .nil
  | _, _, .cons h t => .cons ⟨h.1, m _ _ _ _ e h.2⟩ (KVs.le m e t)
theorem mono_L (m : Mono R) : Mono (rL K R) := fun A B v l e ⟨a, xs, h1, h2, h3⟩ => ⟨a, xs, h1, e.l h2, paired_le m e h3⟩
theorem mono_TL (m : Mono R) : Mono (rTL K R) := fun A B v l e ⟨a, xs, h1, h2, h3⟩ => ⟨a, xs, h1, e.t h2, paired_le m e h3⟩
theorem mono_P (m : Mono R) (n : Mono S) : Mono (rP K R S) := fun A B v p e ⟨a, x, y, h1, h2, h3, h4⟩ => ⟨a, x, y, h1, e.t h2, m _ _ _ _ e h3, n _ _ _ _ e h4⟩
theorem mono_D (m : Mono R) : Mono (rD R) := fun A B v l e ⟨a, kvs, h1, h2, h3⟩ => ⟨a, kvs, h1, e.rd _ _ trivial h2, KVs.le m e h3⟩
end

/-! ### paired lists -/
section
variable {α β : Type} {F : α → β → Prop}
theorem Paired.get : ∀ {xs : List α} {l : List β} {i : Nat} {y : β}, Paired F xs l → l[i]? = some y → ∃ x, xs[i]? = some x ∧ F x y
  | _, _, _, _, .nil, e => by simp at e
  | _, _, 0, y, .cons h _, e => by simp at e; subst e; exact ⟨_, rfl, h⟩
  | _, _, i + 1, y, .cons _ t, e => by
    obtain ⟨x, h1, h2⟩ := Paired.get (i := i) (y := y) t (by simpa using e)
    exact ⟨x, by simpa using h1, h2⟩
theorem Paired.getL : ∀ {xs : List α} {l : List β} {i : Nat} {x : α}, Paired F xs l → xs[i]? = some x → ∃ y, l[i]? = some y ∧ F x y
  | _, _, _, _, .nil, e => by simp at e
  | _, _, 0, y, .cons h _, e => by simp at e; subst e; exact ⟨_, rfl, h⟩
  | _, _, i + 1, y, .cons _ t, e => by
    obtain ⟨x, h1, h2⟩ := Paired.getL (i := i) (x := y) t (by simpa using e)
    exact ⟨x, by simpa using h1, h2⟩
theorem Paired.app : ∀ {xs xs' : List α} {l l' : List β}, Paired F xs l → Paired F xs' l' → Paired F (xs ++ xs') (l ++ l')
  | _, _, _, _, .nil, h => h
  | _, _, _, _, .cons a t, h => .cons a (Paired.app t h)
theorem Paired.map_right {γ : Type} {g : γ → β} : ∀ {xs : List α} {l : List γ}, Paired (fun x y => F x (g y)) xs l → Paired F xs (l.map g)
  | _, _, .nil => .nil
  | _, _, .cons a t => .cons a (Paired.map_right t)
end
/-- ints, texts in a list are told by what they are -/
theorem paired_I {H : Hp} : ∀ {xs : List V} {l : List Int}, Paired (rI H) xs l → xs = l.map V.int
  | _, _, .nil => rfl
  | _, _, .cons h t => by rw [h, paired_I t]; rfl
theorem paired_S {H : Hp} : ∀ {xs : List V} {l : List Str}, Paired (rS H) xs l → xs = l.map V.str
  | _, _, .nil => rfl
  | _, _, .cons h t => by rw [h, paired_S t]; rfl
theorem paired_B {H : Hp} : ∀ {xs : List V} {l : List Bool}, Paired (rB H) xs l → xs = l.map V.bl
  | _, _, .nil => rfl
  | _, _, .cons h t => by rw [h, paired_B t]; rfl
theorem paired_I' {H : Hp} : ∀ (l : List Int), Paired (rI H) (l.map V.int) l
  | [] => .nil
  | a :: t => .cons rfl (paired_I' t)
theorem paired_S' {H : Hp} : ∀ (l : List Str), Paired (rS H) (l.map V.str) l
  | [] => .nil
  | a :: t => .cons rfl (paired_S' t)
theorem KVs.keys {α : Type} {R : RR α} {H : Hp} : ∀ {kvs : List (Key × V)} {l : List (Str × α)}, KVs R H kvs l → kvs.map (·.1) = (l.map (·.1)).map Sum.inr
  | _, _, .nil => rfl
  | _, _, .cons h t => by
    rw [List.map_cons, List.map_cons, List.map_cons, h.1, KVs.keys t]

/-! ### a dict's look-up by what it holds -/
def lookA {α : Type} : List (Str × α) → Str → Option α
  | [], _ => none
  | (k, a) :: r, x => if k = x then some a else lookA r x
theorem KVs.look {α : Type} {R : RR α} {H : Hp} : ∀ {kvs : List (Key × V)} {l : List (Str × α)} (x : Str), KVs R H kvs l → (∃ v a, valV kvs (Sum.inr x) = some v ∧ lookA l x = some a ∧ R H v a) ∨ (valV kvs (Sum.inr x) = none ∧ lookA l x = none)
  | _, _, x, .nil => .inr ⟨rfl, rfl⟩
  | kv :: kvs, (y, a) :: l, x, .cons h t => by
    by_cases e : y = x
    · left
      refine ⟨kv.2, a, valV_pos (by rw [h.1, e]), ?_, h.2⟩
      unfold lookA
      rw [if_pos e]
    · have n : ¬ kv.1 = (Sum.inr x : Key) := by
        rw [h.1]
        intro q
        exact e (Sum.inr.inj q)
      rw [valV_neg n]
      unfold lookA
      rw [if_neg e]
      exact KVs.look x t
theorem lookA_mem {α : Type} : ∀ {l : List (Str × α)} {x : Str} {a : α}, lookA l x = some a → (x, a) ∈ l
  | (k, b) :: r, x, a, h => by
    unfold lookA at h
    split at h
    · rename_i e
      cases h
      subst e
      exact List.mem_cons_self
    · exact List.mem_cons_of_mem _ (lookA_mem h)
theorem lookA_some {α : Type} : ∀ {l : List (Str × α)} {x : Str}, x ∈ l.map (·.1) → ∃ a, lookA l x = some a
  | (k, b) :: r, x, h => by
    unfold lookA
    by_cases e : k = x
    · exact ⟨b, if_pos e⟩
    · rw [if_neg e]
      rcases List.mem_cons.mp h with h | h
      · exact absurd h.symm e
      · exact lookA_some h
theorem lookA_none {α : Type} : ∀ {l : List (Str × α)} {x : Str}, x ∉ l.map (·.1) → lookA l x = none
  | [], _, _ => rfl
  | (k, b) :: r, x, h => by
    unfold lookA
    rw [if_neg fun e => h (List.mem_cons.mpr (.inl e.symm)), lookA_none fun m => h (List.mem_cons_of_mem _ m)]
theorem lookA_isSome {α : Type} {l : List (Str × α)} {x : Str} : (lookA l x).isSome = true ↔ x ∈ l.map (·.1) := by
  constructor
  · intro h
    by_cases m : x ∈ l.map (·.1)
    · exact m
    · rw [lookA_none m] at h
      cases h
  · intro h
    obtain ⟨a, e⟩ := lookA_some h
    rw [e]
    rfl
theorem lookA_nodup {α : Type} : ∀ {l : List (Str × α)} {x : Str} {a : α}, (l.map (·.1)).Nodup → (x, a) ∈ l → lookA l x = some a
  | (k, b) :: r, x, a, hn, h => by
    have hn : (k :: r.map (·.1)).Nodup := hn
    obtain ⟨h1, h2⟩ := List.nodup_cons.mp hn
    unfold lookA
    rcases List.mem_cons.mp h with h | h
    · cases h
      exact if_pos rfl
    · rw [if_neg]
      · exact lookA_nodup h2 h
      · rintro rfl
        exact h1 (List.mem_map.mpr ⟨_, h, rfl⟩)
/-- d[x] = a -/
def putA {α : Type} : List (Str × α) → Str → α → List (Str × α)
  | [], x, a => [(x, a)]
  | (k, b) :: r, x, a => if k = x then (k, a) :: r else (k, b) :: putA r x a

/-! ### more steps -/
section
variable {K : PySem.W.Frag} {σ σ' : L2.St} {H H' : Hp} {x y z v : V} {Q : VK} {D : Ends} {i : Int}
theorem ty_tup {a : Addr} {xs : List V} (h : SqT K H a xs) : TyX K H (.ref a) (.type "tuple") := by
  rcases h with (h | ⟨o, h⟩) | ⟨o, its, n, h1, h2, _⟩
  · exact .base (.tup h)
  · exact .fTuple h
  · exact .kTuple h1 h2
theorem ty_dict {a : Addr} {kvs : List (Key × V)} (h : Rd H a (.dK kvs)) : TyX K H (.ref a) (.type "dict") := by
  rcases h with h | ⟨o, h⟩
  · exact .base (.dK h)
  · exact .fDict h
theorem ty_list {a : Addr} {xs : List V} (h : SqL K H a xs) : TyX K H (.ref a) (.type "list") := by
  rcases h with (h | ⟨o, h⟩) | ⟨o, its, n, h1, h2, _⟩
  · exact .base (.lst h)
  · exact .base (.frz h)
  · exact .kList h1 h2
theorem x_isi {a b : String} {r : Bool} (ty : TyX K H x (.type a)) (h : kitB a b = some r) (k : Q (.bl r) H) : rIsi K [x, .ty b] H Q := ⟨x, .ty b, _, _, r, rfl, .ty b, ty, kit_ty h, k⟩
theorem x_isiT {a b : String} (ty : TyX K H x (.type a)) (h : kitB a b = some true) (k : Q (.bl true) H) : rIsi K [x, .ty b] H Q := x_isi ty h k
theorem x_isiF {a b : String} (ty : TyX K H x (.type a)) (h : kitB a b = some false) (k : Q (.bl false) H) : rIsi K [x, .ty b] H Q := x_isi ty h k
theorem x_lenS {s : Str} (h : s.length ≤ sizeLine) (k : Q (.int s.length) H) : ∃ x n, [V.str s] = [x] ∧ LenV K x H n ∧ Q (.int n) H := ⟨_, _, rfl, ⟨h, rfl⟩, k⟩
theorem x_lenL {a : Addr} {xs : List V} (h : SqL K H a xs) (k : Q (.int xs.length) H) : ∃ x n, [V.ref a] = [x] ∧ LenV K x H n ∧ Q (.int n) H := ⟨_, _, rfl, .inl ⟨xs, h, rfl⟩, k⟩
theorem x_lenT {a : Addr} {xs : List V} (h : SqT K H a xs) (k : Q (.int xs.length) H) : ∃ x n, [V.ref a] = [x] ∧ LenV K x H n ∧ Q (.int n) H := ⟨_, _, rfl, .inr ⟨xs, h, rfl⟩, k⟩
theorem x_ixT {a : Addr} {xs : List V} (h : SqT K H a xs) (e : atI xs i = some v) (k : Q v H) : rIxT K (.ref a) (.int i) H Q := ⟨a, xs, i, v, rfl, rfl, h, e, k⟩
theorem x_ixL {a : Addr} {xs : List V} (h : SqL K H a xs) (e : atI xs i = some v) (k : Q v H) : rIxL K (.ref a) (.int i) H Q := ⟨a, xs, i, v, rfl, rfl, h, e, k⟩
theorem x_ixS {s : Str} {c : Nat} (h : s.length ≤ sizeLine) (e : atI s.cps.toList i = some c) (k : Q (.str ⟨#[c]⟩) H) : rIxS (.str s) (.int i) H Q := ⟨s, i, c, rfl, rfl, h, e, k⟩
/-- what a dict of texts holds at a text -/
theorem dget_rd {a : Addr} {kvs : List (Key × V)} {s : Str} (h : Rd H a (.dK kvs)) : DGet H a (.str s) (valV kvs (Sum.inr s)) := .inl ⟨kvs, Sum.inr s, h, rfl, rfl⟩
end
/-- len of a dict that may be locked -/
theorem call_lenR {X : Cx} : CallR X (.builtin "len") (fun xs H Q => ∃ a kvs, xs = [V.ref a] ∧ Rd H a (.dK kvs) ∧ Q (.int kvs.length) H) := by
  intro pins s σ H xs us Q I r h
  obtain ⟨a, kvs, rfl, ha, q⟩ := h
  obtain ⟨u, rfl, ru⟩ := vals1 r
  cases ru
  exact d_len I ha fun t s' I' => ⟨.int kvs.length, H, I', ⟨t, rfl⟩, q⟩
/-- H with o (or nothing) at d -/
def put (H : Hp) (d : Addr) (o : Option HO) : Hp := fun b => if b = d then o else H b
theorem put_ne {H : Hp} {d b : Addr} {o : Option HO} (h : b ≠ d) : put H d o b = H b := by
  unfold put
  rw [if_neg h]
theorem put_same {H : Hp} {d : Addr} {o : Option HO} : put H d o d = o := by
  unfold put
  rw [if_pos rfl]
theorem put_upd {H : Hp} {d : Addr} {u : HO} : put H d (some u) = upd H d u := rfl
theorem put_self {H : Hp} {d : Addr} {o : Option HO} (h : H d = o) : put H d o = H := by
  funext b
  unfold put
  split
  · rename_i e
    rw [e, h]
  · rfl
/-- a thing is locked, or it was locked before -/
def tLockR (t : TS) : TS := fun D σ H => ∃ d u, Rd H d u ∧ Mut (some u) ∧ ∀ od HL, HL d = some (.frz od u) → (∀ b, b ≠ d → HL b = H b) →
  t ⟨fun σ' H' => H' d = some (.frz od u) ∧ D.nx σ' (put H' d (H d)), fun v H' => H' d = some (.frz od u) ∧ D.rt v (put H' d (H d)), fun σ' H' => H' d = some (.frz od u) ∧ D.bk σ' (put H' d (H d)), fun σ' H' => H' d = some (.frz od u) ∧ D.ct σ' (put H' d (H d))⟩ σ HL
def tLockRE (t : TE) : TE := fun σ H Q => ∃ d u, Rd H d u ∧ Mut (some u) ∧ ∀ od HL, HL d = some (.frz od u) → (∀ b, b ≠ d → HL b = H b) → t σ HL fun v H' => H' d = some (.frz od u) ∧ Q v (put H' d (H d))
theorem ps_lockR {X : Cx} {st : Stmt} {t : TS} (h : PS X st t) : PS X st (tLockR t) := by
  refine ⟨fun pins s σ H D I hw => ?_⟩
  obtain ⟨d, u, hd, mu, hw⟩ := hw
  rcases hd with hd | ⟨o, hd⟩
  · refine (ps_lock h).run pins s σ H D I ⟨d, u, hd, mu, fun od => ?_⟩
    have q := hw od (upd H d (.frz od u)) upd_same fun b hb => upd_ne hb
    rw [hd] at q
    exact q
  · refine thn (h.run pins s σ _ _ I (hw o H hd fun _ _ => rfl)) fun f s1 q => ?_
    cases f with
    | next => obtain ⟨σ', H', I2, e, q⟩ := q; rw [put_self (e.trans hd.symm)] at q; exact ⟨σ', _, I2, q⟩
    | brk => obtain ⟨σ', H', I2, e, q⟩ := q; rw [put_self (e.trans hd.symm)] at q; exact ⟨σ', _, I2, q⟩
    | cont => obtain ⟨σ', H', I2, e, q⟩ := q; rw [put_self (e.trans hd.symm)] at q; exact ⟨σ', _, I2, q⟩
    | ret v => obtain ⟨x, σ', H', I2, r, e, q⟩ := q; rw [put_self (e.trans hd.symm)] at q; exact ⟨x, σ', _, I2, r, q⟩
theorem pe_lockR {X : Cx} {e : Expr} {t : TE} (h : PE X e t) : PE X e (tLockRE t) := by
  refine ⟨fun pins s σ H Q I hw => ?_⟩
  obtain ⟨d, u, hd, mu, hw⟩ := hw
  rcases hd with hd | ⟨o, hd⟩
  · refine (pe_lock h).run pins s σ H Q I ⟨d, u, hd, mu, fun od => ?_⟩
    have q := hw od (upd H d (.frz od u)) upd_same fun b hb => upd_ne hb
    rw [hd] at q
    exact q
  · refine thn (h.run pins s σ _ _ I (hw o H hd fun _ _ => rfl)) fun v s1 ⟨x, H1, I2, r, e2, q⟩ => ?_
    rw [put_self (e2.trans hd.symm)] at q
    exact ⟨x, _, I2, r, q⟩
section
variable {H HL H' : Hp} {d : Addr} {kvs : List (Key × V)} {od : Obj} {S : List Addr}
theorem lock_le (h : Rd H d (.dK kvs)) (e : HL d = some (.frz od (.dK kvs))) (ne : ∀ b, b ≠ d → HL b = H b) : Le H HL := by
  refine ⟨fun b v p q => ?_, fun b C dx fs q => ?_, fun b xs q => ?_⟩
  · by_cases hb : b = d
    · subst hb
      have z : v = .dK kvs := by
        rcases q with q | ⟨o, q⟩ <;> rcases h with h | ⟨o', h⟩ <;> rw [h] at q <;> cases q
        · rfl
        · exact p.elim
        · rfl
      exact .inr ⟨od, by rw [e, z]⟩
    · unfold Rd
      rw [ne b hb]
      exact q
  · rw [ne]
    · exact q
    · rintro rfl
      rcases h with h | ⟨o', h⟩ <;> rw [h] at q <;> cases q
  · rw [ne]
    · exact q
    · rintro rfl
      rcases h with h | ⟨o', h⟩ <;> rw [h] at q <;> cases q
theorem unlock_sx (ne : ∀ b, b ≠ d → HL b = H b) (a : SX S HL H') : SX S H (put H' d (H d)) := fun b o n q => by
  by_cases hb : b = d
  · subst hb
    rw [put_same]
    exact q
  · rw [put_ne hb]
    exact a b o n (by rw [ne b hb]; exact q)
theorem unlock_le (h : Rd H d (.dK kvs)) (e : H' d = some (.frz od (.dK kvs))) : Le H' (put H' d (H d)) := by
  rcases h with h | ⟨o, h⟩
  · rw [h, put_upd]
    exact le_unlock e
  · refine ⟨fun b v p q => ?_, fun b C dx fs q => ?_, fun b xs q => ?_⟩
    · by_cases hb : b = d
      · subst hb
        have z : v = .dK kvs := by
          rcases q with q | ⟨o, q⟩ <;> rw [e] at q <;> cases q
          · exact p.elim
          · rfl
        refine .inr ⟨o, ?_⟩
        rw [put_same, h, z]
      · unfold Rd
        rw [put_ne hb]
        exact q
    · rw [put_ne]
      · exact q
      · rintro rfl
        rw [e] at q
        cases q
    · rw [put_ne]
      · exact q
      · rintro rfl
        rw [e] at q
        cases q
end

/-! ### names for the readings of operators and calls -/
def rLeS : R2 := fun x y H Q => ∃ i j, x = .str i ∧ y = .str j ∧ Q (.bl (!decide (j.cps.toList < i.cps.toList))) H
def rCatS : R2 := fun x y H Q => ∃ i j, x = .str i ∧ y = .str j ∧ i.length + j.length ≤ sizeLine ∧ Q (.str (i ++ j)) H
def rIsNo : R2 := fun x y H Q => y = .non ∧ Q (.bl (decide (x = .non))) H
def rNotNo : R2 := fun x y H Q => y = .non ∧ Q (.bl (!decide (x = .non))) H
def rInSg (neg : Bool) : R2 := fun x y H Q => ∃ (c : Nat) (z : Str), x = .str ⟨#[c]⟩ ∧ y = .str z ∧ Q (.bl (if neg then !decide (c ∈ z.cps.toList) else decide (c ∈ z.cps.toList))) H
def cLen (K : PySem.W.Frag) : List V → Hp → VK → Prop := fun xs H Q => ∃ x n, xs = [x] ∧ LenV K x H n ∧ Q (.int n) H
def cLenD : List V → Hp → VK → Prop := fun xs H Q => ∃ a kvs, xs = [V.ref a] ∧ Rd H a (.dK kvs) ∧ Q (.int kvs.length) H
def cMin2 : List V → Hp → VK → Prop := fun xs H Q => ∃ i j, xs = [.int i, .int j] ∧ Q (.int (if j < i then j else i)) H
def cMax2 : List V → Hp → VK → Prop := fun xs H Q => ∃ i j, xs = [.int i, .int j] ∧ Q (.int (if j > i then j else i)) H
def cAbs : List V → Hp → VK → Prop := fun xs H Q => ∃ i, xs = [.int i] ∧ Q (.int (if i < 0 then -i else i)) H
def cInt : List V → Hp → VK → Prop := fun xs H Q => (∃ i, xs = [.int i] ∧ Q (.int i) H) ∨ ∃ k, xs = [.bl k] ∧ Q (.int (if k then 1 else 0)) H
def cStr : List V → Hp → VK → Prop := fun xs H Q => ∃ i, xs = [.int i] ∧ i.natAbs.log2 < 1920 ∧ Q (.str (toString i)) H
def cList (K : PySem.W.Frag) : List V → Hp → VK → Prop := fun xs H Q => ∃ p ys, xs = [.ref p] ∧ (SqL K H p ys ∨ SqT K H p ys) ∧ ∀ l, H l = none → Q (.ref l) (upd H l (.lst ys))
def cTup (K : PySem.W.Frag) : List V → Hp → VK → Prop := fun xs H Q => ∃ p ys, xs = [.ref p] ∧ SqL K H p ys ∧ ∀ l, H l = none → Q (.ref l) (upd H l (.tup ys))
def cDict : List V → Hp → VK → Prop := fun xs H Q => ∃ (a : Addr) (kvs : List (Key × V)), xs = [.ref a] ∧ Rd H a (.dK kvs) ∧ ∀ p, H p = none → Q (.ref p) (upd H p (.dK kvs))
def cListD : List V → Hp → VK → Prop := fun xs H Q => ∃ (a : Addr) (kvs : List (Key × V)), xs = [.ref a] ∧ Rd H a (.dK kvs) ∧ ∀ p, H p = none → Q (.ref p) (upd H p (.lst (kvs.map fun kv => kV kv.1)))
section
variable {X : Cx}
theorem op_leS : OpR X (compareOp .LtE) rLeS := op_le_str
theorem op_catS : OpR X (binaryOp .Add) rCatS := op_add_str
theorem op_isNo : OpR X (compareOp .Is) rIsNo := op_isN
theorem op_notNo : OpR X (compareOp .IsNot) rNotNo := op_notN
theorem op_inSg : OpR X (compareOp .In) (rInSg false) := op_in_sign
theorem op_notInSg : OpR X (compareOp .NotIn) (rInSg true) := op_notIn_sign
theorem cl_len : CallR X (.builtin "len") (cLen X.K) := call_len
theorem cl_lenD : CallR X (.builtin "len") cLenD := call_lenR
theorem cl_min2 (hc : X.calm = true) : CallR X (.builtin "min") cMin2 := call_min2 hc
theorem cl_max2 (hc : X.calm = true) : CallR X (.builtin "max") cMax2 := call_max2 hc
theorem cl_abs : CallR X (.builtin "abs") cAbs := call_abs
theorem cl_int : CallR X (.type "int") cInt := call_int1
theorem cl_str : CallR X (.type "str") cStr := call_str_int
theorem cl_list : CallR X (.type "list") (cList X.K) := call_list_of
theorem cl_tup : CallR X (.type "tuple") (cTup X.K) := by
  intro pins s σ H xs us Q I r h
  obtain ⟨p, ys, e, hs, q⟩ := h
  exact call_tuple_of pins s σ H xs us Q I r ⟨p, ys, e, .inl ⟨hs, q⟩⟩
theorem cl_dict : CallR X (.type "dict") cDict := call_dictD
theorem cl_listD (hc : X.calm = true) : CallR X (.type "list") cListD := call_listD hc
end
section
variable {K : PySem.W.Frag} {H : Hp} {Q : VK} {i j : Int} {a : Addr}
theorem x_leS {s t : Str} (k : Q (.bl (!decide (t.cps.toList < s.cps.toList))) H) : rLeS (.str s) (.str t) H Q := ⟨s, t, rfl, rfl, k⟩
theorem x_catS {s t : Str} (h : s.length + t.length ≤ sizeLine) (k : Q (.str (s ++ t)) H) : rCatS (.str s) (.str t) H Q := ⟨s, t, rfl, rfl, h, k⟩
theorem x_isNo {x : V} (k : Q (.bl (decide (x = .non))) H) : rIsNo x .non H Q := ⟨rfl, k⟩
theorem x_notNo {x : V} (k : Q (.bl (!decide (x = .non))) H) : rNotNo x .non H Q := ⟨rfl, k⟩
theorem x_len {x : V} {n : Nat} (h : LenV K x H n) (k : Q (.int n) H) : cLen K [x] H Q := ⟨x, n, rfl, h, k⟩
theorem x_lenL' {xs : List V} (h : SqL K H a xs) (k : Q (.int xs.length) H) : cLen K [.ref a] H Q := ⟨_, _, rfl, .inl ⟨xs, h, rfl⟩, k⟩
theorem x_lenT' {xs : List V} (h : SqT K H a xs) (k : Q (.int xs.length) H) : cLen K [.ref a] H Q := ⟨_, _, rfl, .inr ⟨xs, h, rfl⟩, k⟩
theorem x_lenS' {s : Str} (h : s.length ≤ sizeLine) (k : Q (.int s.length) H) : cLen K [.str s] H Q := ⟨_, _, rfl, ⟨h, rfl⟩, k⟩
theorem x_lenD {kvs : List (Key × V)} (h : Rd H a (.dK kvs)) (k : Q (.int kvs.length) H) : cLenD [.ref a] H Q := ⟨a, kvs, rfl, h, k⟩
theorem x_min2 (k : Q (.int (if j < i then j else i)) H) : cMin2 [.int i, .int j] H Q := ⟨i, j, rfl, k⟩
theorem x_max2 (k : Q (.int (if j > i then j else i)) H) : cMax2 [.int i, .int j] H Q := ⟨i, j, rfl, k⟩
theorem x_abs (k : Q (.int (if i < 0 then -i else i)) H) : cAbs [.int i] H Q := ⟨i, rfl, k⟩
theorem x_cint (k : Q (.int i) H) : cInt [.int i] H Q := .inl ⟨i, rfl, k⟩
theorem x_cintB {b : Bool} (k : Q (.int (if b then 1 else 0)) H) : cInt [.bl b] H Q := .inr ⟨b, rfl, k⟩
theorem x_cstr (h : i.natAbs.log2 < 1920) (k : Q (.str (toString i)) H) : cStr [.int i] H Q := ⟨i, rfl, h, k⟩
theorem x_clist {ys : List V} (h : SqL K H a ys) (k : ∀ l, H l = none → Q (.ref l) (upd H l (.lst ys))) : cList K [.ref a] H Q := ⟨a, ys, rfl, .inl h, k⟩
theorem x_clistT {ys : List V} (h : SqT K H a ys) (k : ∀ l, H l = none → Q (.ref l) (upd H l (.lst ys))) : cList K [.ref a] H Q := ⟨a, ys, rfl, .inr h, k⟩
theorem x_ctup {ys : List V} (h : SqL K H a ys) (k : ∀ l, H l = none → Q (.ref l) (upd H l (.tup ys))) : cTup K [.ref a] H Q := ⟨a, ys, rfl, h, k⟩
theorem x_cdict {kvs : List (Key × V)} (h : Rd H a (.dK kvs)) (k : ∀ p, H p = none → Q (.ref p) (upd H p (.dK kvs))) : cDict [.ref a] H Q := ⟨a, kvs, rfl, h, k⟩
theorem x_clistD {kvs : List (Key × V)} (h : Rd H a (.dK kvs)) (k : ∀ p, H p = none → Q (.ref p) (upd H p (.lst (kvs.map fun kv => kV kv.1)))) : cListD [.ref a] H Q := ⟨a, kvs, rfl, h, k⟩
end

/-! ### walks over what is read -/
section
variable {K : PySem.W.Frag} {α β : Type} {R : RR α} {Hb : Hp} {a d : Addr} {o : Obj}
theorem x_lockR {t : TS} {D : Ends} {σ : L2.St} {H : Hp} {kvs : List (Key × V)} (h : Rd H d (.dK kvs)) (k : ∀ od HL, HL d = some (.frz od (.dK kvs)) → (∀ b, b ≠ d → HL b = H b) →
  t ⟨fun σ' H' => H' d = some (.frz od (.dK kvs)) ∧ D.nx σ' (put H' d (H d)), fun v H' => H' d = some (.frz od (.dK kvs)) ∧ D.rt v (put H' d (H d)), fun σ' H' => H' d = some (.frz od (.dK kvs)) ∧ D.bk σ' (put H' d (H d)), fun σ' H' => H' d = some (.frz od (.dK kvs)) ∧ D.ct σ' (put H' d (H d))⟩ σ HL) : tLockR t D σ H := ⟨d, _, h, trivial, k⟩
theorem x_lockRE {t : TE} {σ : L2.St} {H : Hp} {Q : VK} {kvs : List (Key × V)} (h : Rd H d (.dK kvs)) (k : ∀ od HL, HL d = some (.frz od (.dK kvs)) → (∀ b, b ≠ d → HL b = H b) →
  t σ HL fun v H' => H' d = some (.frz od (.dK kvs)) ∧ Q v (put H' d (H d))) : tLockRE t σ H Q := ⟨d, _, h, trivial, k⟩
theorem walk_itemsR {kvs : List (Key × V)} {l : List (Str × α)} (h : KVs R Hb kvs l) : Walk (Iti d o kvs) l.length (fun H => H d = some (.frz o (.dK kvs)))
    (fun i H x H' => ∃ T p v, l[i]? = some p ∧ R Hb v p.2 ∧ x = .ref T ∧ H T = none ∧ H' = upd H T (.tup [.str p.1, v])) := by
  rw [← Paired.length h]
  refine walk_items.mono (fun _ h => h) fun i H x H' hi _ y => ?_
  obtain ⟨T, k, v, rfl, h2, rfl, h4, h5⟩ := y
  obtain ⟨kv, ekv⟩ : ∃ kv, kvs[i]? = some kv := ⟨kvs[i], by simp [hi]⟩
  obtain ⟨p, ep, e1, r⟩ := Paired.getL h ekv
  dsimp only at h4 h5
  rw [ekv] at h4 h5
  cases h4
  cases h5
  exact ⟨T, p, _, ep, r, rfl, h2, by dsimp only; rw [e1]; rfl⟩
theorem walk_keysR {kvs : List (Key × V)} {l : List (Str × α)} (h : KVs R Hb kvs l) : Walk (Itk d o kvs) l.length (fun H => H d = some (.frz o (.dK kvs)))
    (fun i H x H' => H' = H ∧ ∃ p v, l[i]? = some p ∧ x = .str p.1 ∧ R Hb v p.2) := by
  rw [← Paired.length h]
  refine walk_keys.mono (fun _ h => h) fun i H x H' hi _ y => ?_
  obtain ⟨rfl, k, v, h1, rfl⟩ := y
  obtain ⟨p, ep, e1, r⟩ := Paired.getL h h1
  exact ⟨rfl, p, v, ep, by rw [show k = Sum.inr p.1 from e1]; rfl, r⟩
theorem walk_valsR {kvs : List (Key × V)} {l : List (Str × α)} (h : KVs R Hb kvs l) : Walk (Itd d o kvs) l.length (fun H => H d = some (.frz o (.dK kvs)))
    (fun i H x H' => H' = H ∧ ∃ p, l[i]? = some p ∧ R Hb x p.2) := by
  rw [← Paired.length h]
  refine walk_values.mono (fun _ h => h) fun i H x H' hi _ y => ?_
  obtain ⟨rfl, k, h1⟩ := y
  obtain ⟨p, ep, e1, r⟩ := Paired.getL h h1
  exact ⟨rfl, p, ep, r⟩
theorem walk_listR {xs : List V} {l : List α} (h : Paired (R Hb) xs l) : Walk (Itl K a) l.length (fun H => SqL K H a xs) (fun i H x H' => H' = H ∧ ∃ y, l[i]? = some y ∧ R Hb x y) := by
  rw [← Paired.length h]
  refine walk_list.mono (fun _ h => h) fun i H x H' hi _ y => ?_
  obtain ⟨rfl, h1⟩ := y
  exact ⟨rfl, Paired.getL h h1⟩
theorem walk_tupR {xs : List V} {l : List α} (h : Paired (R Hb) xs l) : Walk (Itt K a) l.length (fun H => SqT K H a xs) (fun i H x H' => H' = H ∧ ∃ y, l[i]? = some y ∧ R Hb x y) := by
  rw [← Paired.length h]
  refine walk_tup.mono (fun _ h => h) fun i H x H' hi _ y => ?_
  obtain ⟨rfl, h1⟩ := y
  exact ⟨rfl, Paired.getL h h1⟩
end
/-! ### the names that a dict has -/
def rK : RR (List Str) := fun H v l => ∃ a kvs, v = .ref a ∧ Rd H a (.dK kvs) ∧ kvs.map (·.1) = l.map Sum.inr
theorem mono_K : Mono rK := fun _ _ _ _ e ⟨a, kvs, h1, h2, h3⟩ => ⟨a, kvs, h1, e.rd _ _ trivial h2, h3⟩
theorem rD.toK {α : Type} {R : RR α} {H : Hp} {v : V} {l : List (Str × α)} (h : rD R H v l) : rK H v (l.map (·.1)) := by
  obtain ⟨a, kvs, h1, h2, h3⟩ := h
  exact ⟨a, kvs, h1, h2, h3.keys⟩
theorem keys_val {kvs : List (Key × V)} {l : List Str} (h : kvs.map (·.1) = l.map Sum.inr) (s : Str) : (valV kvs (Sum.inr s)).isSome = decide (s ∈ l) := by
  rw [← valV_any]
  by_cases m : s ∈ l
  · rw [decide_eq_true m, List.any_eq_true]
    have : (Sum.inr s : Key) ∈ kvs.map (·.1) := by
      rw [h]
      exact List.mem_map.mpr ⟨s, m, rfl⟩
    obtain ⟨kv, h1, h2⟩ := List.mem_map.mp this
    exact ⟨kv, h1, decide_eq_true h2⟩
  · rw [decide_eq_false m, List.any_eq_false]
    intro kv hkv q
    have q := of_decide_eq_true q
    have : (Sum.inr s : Key) ∈ l.map Sum.inr := by
      rw [← h]
      exact List.mem_map.mpr ⟨kv, hkv, q⟩
    obtain ⟨t, h1, h2⟩ := List.mem_map.mp this
    cases h2
    exact m h1
theorem x_din' {H : Hp} {a : Addr} {s : Str} {kvs : List (Key × V)} {R : Option V → Prop} (h : Rd H a (.dK kvs)) (k : R (valV kvs (Sum.inr s))) : ∃ a' o, V.ref a = .ref a' ∧ DGet H a' (.str s) o ∧ R o := ⟨a, _, rfl, dget_rd h, k⟩
theorem x_dni' {H : Hp} {a : Addr} {s : Str} {kvs : List (Key × V)} {R : Option V → Prop} (h : Rd H a (.dK kvs)) (k : R (valV kvs (Sum.inr s))) : ∃ a' o, V.ref a = .ref a' ∧ DGet H a' (.str s) o ∧ R o := ⟨a, _, rfl, dget_rd h, k⟩
theorem x_dg' {H : Hp} {a : Addr} {s : Str} {kvs : List (Key × V)} {v : V} {R : V → Prop} (h : Rd H a (.dK kvs)) (e : valV kvs (Sum.inr s) = some v) (k : R v) : ∃ a' v', V.ref a = .ref a' ∧ DGet H a' (.str s) (some v') ∧ R v' := ⟨a, v, rfl, by rw [← e]; exact dget_rd h, k⟩
theorem Rd.le {A B : Hp} {a : Addr} {kvs : List (Key × V)} (e : Le A B) (h : Rd A a (.dK kvs)) : Rd B a (.dK kvs) := e.rd _ _ trivial h
theorem SX.rd {A B : Hp} {a : Addr} {kvs : List (Key × V)} (e : SX [] A B) (h : Rd A a (.dK kvs)) : Rd B a (.dK kvs) := e.le0.rd _ _ trivial h
theorem nil_sx {S : List Addr} {A B : Hp} (a : SX [] A B) : SX S A B := a.sub fun _ h => absurd h List.not_mem_nil
theorem getLt {α : Type} {l : List α} {i : Nat} {x : α} (h : l[i]? = some x) : i < l.length := (List.getElem?_eq_some_iff.mp h).1
theorem getMem {α : Type} {l : List α} {i : Nat} {x : α} (h : l[i]? = some x) : x ∈ l := List.mem_of_getElem? h
/-! ### works -/
inductive Stand where
  | fin
  | hand (h : Int) (ms : List (Str × Str))
  | chance (ds : List (Str × (Str × Int)))
def rStand (K : PySem.W.Frag) : RR Stand := fun H v s => match s with
  | .fin => ∃ p, v = .ref p ∧ SqT K H p [.str "end"]
  | .hand h ms => ∃ p d, v = .ref p ∧ SqT K H p [.str "hand", .int h, d] ∧ rD rS H d ms
  | .chance ds => ∃ p d, v = .ref p ∧ SqT K H p [.str "chance", d] ∧ rD (rP K rS rI) H d ds
theorem mono_stand (K : PySem.W.Frag) : Mono (rStand K) := fun A B v s e h => by
  cases s with
  | fin => obtain ⟨p, h1, h2⟩ := h; exact ⟨p, h1, e.t h2⟩
  | hand h ms => obtain ⟨p, d, h1, h2, h3⟩ := h; exact ⟨p, d, h1, e.t h2, mono_D mono_S _ _ _ _ e h3⟩
  | chance ds => obtain ⟨p, d, h1, h2, h3⟩ := h; exact ⟨p, d, h1, e.t h2, mono_D (mono_P mono_S mono_I) _ _ _ _ e h3⟩

/-! ### sorted of a dict of texts, of a list of texts, whatever their number -/
def cSortD : List V → Hp → VK → Prop := fun xs H Q => ∃ (a : Addr) (kvs : List (Key × V)) (ks : List Str), xs = [.ref a] ∧ Rd H a (.dK kvs) ∧ kvs.map (·.1) = ks.map Sum.inr ∧
  ∀ ys p, ys.Perm ks → sortedS ys = true → H p = none → Q (.ref p) (upd H p (.lst (ys.map V.str)))
def cSortL (K : PySem.W.Frag) : List V → Hp → VK → Prop := fun xs H Q => ∃ (a : Addr) (ks : List Str), xs = [.ref a] ∧ SqL K H a (ks.map V.str) ∧
  ∀ ys p, ys.Perm ks → sortedS ys = true → H p = none → Q (.ref p) (upd H p (.lst (ys.map V.str)))
section
variable {X : Cx}
theorem cl_sortL : CallR X (.builtin "sorted") (cSortL X.K) := by
  intro pi s0 st Hp0 args us Qk In rel hh
  obtain ⟨lx, ks, rfl, hq, kk⟩ := hh
  obtain ⟨its, rv, hl, hsz⟩ := In.list hq
  rw [Vals.ref1 rel]
  have n0 : ks.length = its.length := by simpa using rv.length
  have nl : its.length ≤ sizeLine := by rw [← n0]; simpa using hsz
  refine PyProof.Rows.sorted_strsAny hl.isList rv.strs nl fun ot ys p1 p2 p3 => ?_
  obtain ⟨ep, at1⟩ := PyProof.Rows.sortedAll_at s0.heap its ot
  have fit : (ys.map V.str).length ≤ sizeLine := by rw [List.length_map, p2.length_eq, n0]; exact nl
  refine ⟨.ref _, upd Hp0 (s0.heap.objs.size + 1) (.lst (ys.map V.str)), ?_, rfl, kk ys _ p2 p3 (In.hok.fresh (Nat.le_succ _))⟩
  exact In.laid (t' := s0.toks) (fun _ _ => PyProof.Rows.sortedAll_old) (Nat.le_succ _) ⟨fit, ot.toList, ep, vals_of_strs p1, at1⟩
theorem cl_sortD (calmly : X.calm = true) : CallR X (.builtin "sorted") cSortD := by
  intro pi s0 st Hp0 args us Qk In rel hh
  obtain ⟨ad, kv0, ks, exs, rd0, names, kk⟩ := hh
  subst exs
  obtain ⟨u0, eu0, r0⟩ := vals1 rel
  subst eu0
  cases r0
  obtain ⟨zd, od0, vv, prs, dof⟩ := dk_rd In.hok rd0
  obtain ⟨epo, dAt⟩ := dof.dictAt
  have nm : vv.map (·.1) = ks.map Sum.inr := by rw [← names, prs.keys]
  have nl : vv.length = ks.length := by simpa using congrArg List.length nm
  have fit0 : vv.length ≤ sizeLine := by rw [← prs.length]; exact zd
  refine Calls.call_function_entry PyProof.Rows.kind_sorted PyProof.Rows.plain_sorted PyProof.Rows.entry_sorted (by exact PyProof.Rows.args_sorted1 _) ?_
  unfold Builtin.«sorted»
  refine wpAny_bind (m := checkCount "sorted" 1 1 _) ?_; refine wpAny_pure ?_
  refine wpAny_bind (PySem.W.kdu_collect (A := X.A.in1) (PySem.W.kdl_dict (knd := mixKind X.prog X.w) (kvs := vv) (ep := epo) od0) (In.ok.hd calmly) dAt fit0 fun hp1 tk1 got keep1 ⟨gsz, gat⟩ => ?_)
  have al : got.toList.length = ks.length := by rw [Array.length_toList, gsz, nl]
  have txt : StrsAre got.toList ks := strs_at al fun n v ev => by
    obtain ⟨kq, xq, f1, f2⟩ := gat n v (by rw [← Array.getElem?_toList]; exact ev)
    have f3 : (ks.map Sum.inr : List Key)[n]? = some kq := by rw [← nm, List.getElem?_map, f1]; rfl
    rw [List.getElem?_map] at f3
    match q4 : ks[n]? with
    | none =>
      rw [q4] at f3
      cases f3
    | some y =>
      rw [q4] at f3
      have f5 : Sum.inr y = kq := Option.some.inj f3
      subst f5
      obtain ⟨tt, f6⟩ := Value.isStrOf_shape (x := y) (v := v) f2
      exact ⟨y, tt, rfl, f6⟩
  have sml : got.toList.length ≤ sizeLine := by rw [al, ← nl]; exact fit0
  have In1 : Inv X pi st Hp0 { s0 with heap := hp1, toks := tk1 } := In.kept keep1
  refine wpAny_bind (wpAny_newList ?_ (by simpa using sml))
  have at0 : (hp1.push (seqObj "list" got.toList.toArray 0)).get? hp1.objs.size = some (seqObj "list" got.toList.toArray 0) := by exact Heap.get?_push_size _ rfl
  show wpAny _ _ _ _ _ { s0 with heap := hp1.push (seqObj "list" got.toList.toArray 0), toks := tk1 }
  refine wpAny_bind (wpAny_holding (wpAny_call_entry PyProof.Rows.slot_list_sort ⟨_, at0, rfl⟩ PyProof.Rows.entry_list_sort
    (PyProof.Rows.list_sort_treeKAny strKind_oneLt (s := { s0 with heap := hp1.push (seqObj "list" got.toList.toArray 0), toks := tk1 }) at0 txt.keysOf (fun _ _ _ e => keyKind_strs (by rw [← e]; exact txt)) sml fun sst p1 p2 => ⟨_, rfl, ?_⟩)
    (by exact PyProof.Rows.args_list_sort _)))
  obtain ⟨ys, g1, g2, g3⟩ := sorted_out_str txt p1 p2
  obtain ⟨ep2, at2⟩ := PyProof.Rows.sortedHeap_at (vs := got.toList) (out := (arrOf sst).map (·.2)) at0
  have fit : (ys.map V.str).length ≤ sizeLine := by rw [List.length_map, g2.length_eq, ← al]; exact sml
  refine wpAny_pure ⟨_, rfl, .ref hp1.objs.size, upd Hp0 hp1.objs.size (.lst (ys.map V.str)), ?_, rfl, kk ys _ g2 g3 (In1.hok.fresh (Nat.le_refl _))⟩
  refine In1.laid (t' := tk1) (fun b u e => ?_) (Nat.le_refl _) (show ObjOk X.prog X.w _ _ _ (.lst (ys.map V.str)) from ⟨fit, ((arrOf sst).map (·.2)).toList, ep2, vals_of_strs g1, ?_⟩)
  · have lt : b < hp1.objs.size := Heap.lt_size e
    rw [PyProof.Rows.sortedHeap_old (Nat.ne_of_lt lt) (Nat.lt_of_lt_of_eq (Nat.lt_succ_of_lt lt) (size_push' _ _).symm)]
    exact Heap.get?_push_of_some _ e
  · rw [Array.toArray_toList]
    exact at2
end
section
variable {K : PySem.W.Frag} {H : Hp} {Q : VK} {a : Addr}
theorem x_sortD {kvs : List (Key × V)} {ks : List Str} (h : Rd H a (.dK kvs)) (e : kvs.map (·.1) = ks.map Sum.inr) (k : ∀ ys p, ys.Perm ks → sortedS ys = true → H p = none → Q (.ref p) (upd H p (.lst (ys.map V.str)))) : cSortD [.ref a] H Q := ⟨a, kvs, ks, rfl, h, e, k⟩
theorem x_sortL {ks : List Str} (h : SqL K H a (ks.map V.str)) (k : ∀ ys p, ys.Perm ks → sortedS ys = true → H p = none → Q (.ref p) (upd H p (.lst (ys.map V.str)))) : cSortL K [.ref a] H Q := ⟨a, ks, rfl, h, k⟩
end

/-- a dict comprehension over a walk: Iv by the turn and the heap (the new dict at D within) -/
theorem dc_walk {J : It} {n : Nat} {G : Hp → Prop} {Y : Nat → Hp → V → Hp → Prop} (wk : Walk J n G Y) {g : TG} {tt : TT} {tk tv : TE} {own : List Nat} {σ : L2.St} {H1 : Hp} {D : Addr} {fin : Hp → Prop} (Iv : Nat → Hp → Prop)
    (ini : Iv 0 (upd H1 D (.dK []))) (std : ∀ i A, i ≤ n → Iv i A → G A)
    (one : ∀ i x A B, i < n → Iv i A → Y i A x B → g x (wipe σ own) B fun σ2 B2 => wipe σ2 own = wipe σ own ∧ tt σ2 B2 fun b B3 =>
      if b = true then tk σ2 B3 fun y B4 => tv σ2 B4 fun z B5 => ∃ kvs k, y = kV k ∧ B5 D = some (.dK kvs) ∧ kvs.length < sizeLine ∧ Iv (i + 1) (upd B5 D (.dK (putK kvs k z))) else Iv (i + 1) B3)
    (all : ∀ A, Iv n A → fin A) :
    ∃ W : Nat → Nat → Hp → Prop, (∃ m, W 0 m (upd H1 D (.dK []))) ∧ ∀ i m A, W i m A →
      (J.stop i A ∧ fin A) ∨ (J.go i A ∧ ∃ Nx : Hp → Prop, (∀ B, Nx B → ∃ m', m' < m ∧ W (i + 1) m' B) ∧ ∀ x B, J.yld i A x B → g x (wipe σ own) B fun σ2 B2 => wipe σ2 own = wipe σ own ∧ tt σ2 B2 fun b B3 =>
        if b = true then tk σ2 B3 fun y B4 => tv σ2 B4 fun z B5 => ∃ kvs k, y = kV k ∧ B5 D = some (.dK kvs) ∧ kvs.length < sizeLine ∧ Nx (upd B5 D (.dK (putK kvs k z))) else Nx B3) := by
  refine ⟨fun i m A => m + i = n ∧ Iv i A, ⟨n, rfl, ini⟩, fun i m A ⟨e, v⟩ => ?_⟩
  have gi := std i A (by omega) v
  rcases Nat.lt_or_ge i n with l | l
  · exact .inr ⟨wk.goes i A l gi, Iv (i + 1), fun B vB => ⟨m - 1, by omega, by omega, vB⟩, fun x B yl => one i x A B l v (wk.yields i A x B l gi yl)⟩
  · obtain rfl : i = n := by omega
    exact .inl ⟨wk.stops A gi, all A v⟩
section
variable {K : PySem.W.Frag} {σ : L2.St} {H : Hp} {Q : VK}
theorem x_lc {wi : TI} {g : TG} {tt : TT} {te : TE} {vs : List Nat} (k : wi σ H fun J H1 => ∀ D, H1 D = none → ∃ W : Nat → Nat → Hp → Prop, (∃ m, W 0 m (upd H1 D (.lst []))) ∧ ∀ i m H, W i m H →
  (J.stop i H ∧ Q (.ref D) H) ∨ (J.go i H ∧ ∃ Nx : Hp → Prop, (∀ H', Nx H' → ∃ m', m' < m ∧ W (i + 1) m' H') ∧ ∀ x H', J.yld i H x H' → g x (wipe σ vs) H' fun σ2 H2 => wipe σ2 vs = wipe σ vs ∧ tt σ2 H2 fun b H3 =>
    if b = true then te σ2 H3 fun y H4 => ∃ acc, H4 D = some (.lst acc) ∧ acc.length < sizeLine ∧ Nx (upd H4 D (.lst (acc ++ [y]))) else Nx H3)) : tLc wi g tt te vs σ H Q := k
theorem x_dc {wi : TI} {g : TG} {tt : TT} {tk tv : TE} {vs : List Nat} (k : wi σ H fun J H1 => ∀ D, H1 D = none → ∃ W : Nat → Nat → Hp → Prop, (∃ m, W 0 m (upd H1 D (.dK []))) ∧ ∀ i m H, W i m H →
  (J.stop i H ∧ Q (.ref D) H) ∨ (J.go i H ∧ ∃ Nx : Hp → Prop, (∀ H', Nx H' → ∃ m', m' < m ∧ W (i + 1) m' H') ∧ ∀ x H', J.yld i H x H' → g x (wipe σ vs) H' fun σ2 H2 => wipe σ2 vs = wipe σ vs ∧ tt σ2 H2 fun b H3 =>
    if b = true then tk σ2 H3 fun y H4 => tv σ2 H4 fun z H5 => ∃ kvs k, y = kV k ∧ H5 D = some (.dK kvs) ∧ kvs.length < sizeLine ∧ Nx (upd H5 D (.dK (putK kvs k z))) else Nx H3)) : tDc wi g tt tk tv vs σ H Q := k
theorem x_yes {QB : Bool → Hp → Prop} (k : QB true H) : tYes σ H QB := k
theorem x_wipe {n : Nat} {r : List Nat} {A : L2.St} {B C : Prop} (e : A = σ) (k : C) : A = σ ∧ C := ⟨e, k⟩
theorem x_sfld {ta tv : TE} {f : Str} {D : Ends} (k : tv σ H fun y H1 => ta σ H1 fun x H2 => ∃ a C dx fs, x = .ref a ∧ H2 a = some (.ins C dx fs) ∧ Cls K C ∧ NoAttr K C f ∧ fs.length < 1000 ∧ D.nx σ (upd H2 a (.ins C dx (putF f y fs)))) : sFld K ta tv f D σ H := k
theorem x_while {c : TT} {tb : TS} {D : Ends} (Pv : L2.St → Hp → Prop) (μ : L2.St → Hp → Nat) (h0 : Pv σ H)
    (hs : ∀ σ H, Pv σ H → c σ H fun b H1 => if b = true then tb { D with nx := fun σ' H' => Pv σ' H' ∧ μ σ' H' < μ σ H, ct := fun σ' H' => Pv σ' H' ∧ μ σ' H' < μ σ H, bk := D.nx } σ H1 else D.nx σ H1)
    (mono : ∀ σ H Q Q', (∀ b H1, Q b H1 → Q' b H1) → c σ H Q → c σ H Q') : tWhile c tb D σ H := while_by Pv μ h0 hs mono
end
/-- sorted by the keys, the same pairs -/
structure Srt {α : Type} (l l' : List (Str × α)) : Prop where
  perm : l'.Perm l
  srt : sortedS (l'.map (·.1)) = true
/-- the pairs of l in the order of ys -/
def pick {α : Type} [Inhabited α] (l : List (Str × α)) (ys : List Str) : List (Str × α) := ys.map fun k => (k, (lookA l k).getD default)
theorem pick_keys {α : Type} [Inhabited α] (l : List (Str × α)) (ys : List Str) : (pick l ys).map (·.1) = ys := by
  unfold pick
  rw [List.map_map]
  exact List.map_id' ys
theorem pick_perm {α : Type} [Inhabited α] {l : List (Str × α)} {ys : List Str} (hn : (l.map (·.1)).Nodup) (h : ys.Perm (l.map (·.1))) : (pick l ys).Perm l := by
  have h1 : (pick l ys).Perm (pick l (l.map (·.1))) := h.map _
  have h2 : pick l (l.map (·.1)) = l := by
    unfold pick
    rw [List.map_map]
    have : ∀ p ∈ l, ((fun k => (k, (lookA l k).getD default)) ∘ fun x => x.1) p = p := fun p hp => by
      show (p.1, (lookA l p.1).getD default) = p
      rw [lookA_nodup hn (show (p.1, p.2) ∈ l from hp)]
      rfl
    exact (List.map_congr_left this).trans (List.map_id' l)
  rw [h2] at h1
  exact h1
theorem pick_srt {α : Type} [Inhabited α] {l : List (Str × α)} {ys : List Str} (hn : (l.map (·.1)).Nodup) (h : ys.Perm (l.map (·.1))) (hs : sortedS ys = true) : Srt l (pick l ys) := ⟨pick_perm hn h, by rw [pick_keys]; exact hs⟩
/-- a new key goes to the end -/
theorem putK_fresh {kvs : List (Key × V)} {l : List Str} {s : Str} (v : V) (e : kvs.map (·.1) = l.map Sum.inr) (n : s ∉ l) : putK kvs (Sum.inr s) v = kvs ++ [(Sum.inr s, v)] := by
  refine putK_new v ?_
  have := keys_val e s
  rw [decide_eq_false n] at this
  cases h : valV kvs (Sum.inr s) with
  | none => rfl
  | some x =>
    rw [h] at this
    cases this
theorem take_succ_of {α : Type} {l : List α} {i : Nat} {x : α} (h : l[i]? = some x) : l.take (i + 1) = l.take i ++ [x] := by
  rw [List.take_add_one, h]
  rfl
theorem nodup_take {α : Type} {l : List α} (hn : l.Nodup) {i : Nat} {x : α} (h : l[i]? = some x) : x ∉ l.take i := by
  intro m
  obtain ⟨j, hj⟩ := List.getElem?_of_mem m
  have hj' := getLt hj
  rw [List.length_take] at hj'
  rw [List.getElem?_take] at hj
  split at hj
  · rename_i hlt
    have := nd_ix hn h hj
    omega
  · cases hj
instance : Inhabited Stand := ⟨.fin⟩

/-! ### {k: d[k] for k in sorted(d)} -/
theorem wipe1 (σ : L2.St) (j : Nat) : wipe σ [j] = σ.set j none := rfl
theorem wipe_set (σ : L2.St) (j : Nat) (v : Option V) : wipe ((wipe σ [j]).set j v) [j] = wipe σ [j] := by
  rw [wipe1, wipe1, List.set_set, List.set_set]
theorem wiped_other {σ : L2.St} {i j : Nat} {x : Option V} {v : Option (Option V)} (h : σ[i]? = v) (n : i ≠ j) : ((wipe σ [j]).set j x)[i]? = v := by
  rw [wipe1, List.set_set, List.getElem?_set_ne (Ne.symm n)]
  exact h
theorem wiped_self {σ : L2.St} {j : Nat} {x : V} (h : j < σ.length) : ((wipe σ [j]).set j (some x))[j]? = some (some x) := by
  rw [wipe1, List.set_set, List.getElem?_set_self h]
theorem lt_size {n : Nat} (h : n ≤ 10000) : n < sizeLine := Nat.lt_of_le_of_lt h (by decide)
theorem sx_nil_of {S : List Addr} {A B : Hp} (a : SX S A B) (h : ∀ b ∈ S, A b = none) : SX [] A B := fun b o _ q => a b o (fun m => by rw [h b m] at q; cases q) q
theorem x_copyD {α : Type} [Inhabited α] {R : RR α} (mR : Mono R) {K : PySem.W.Frag} {σ : L2.St} {H : Hp} {Q : VK} {i j : Nat} {d : Addr} {l : List (Str × α)} {S : List Addr} (hS : ∀ b ∈ S, H b ≠ none) (hi : σ[i]? = some (some (.ref d))) (hj : j < σ.length) (hij : i ≠ j)
    (h : rD R (hid S H) (.ref d) l) (hn : (l.map (·.1)).Nodup) (hl : l.length ≤ 10000) (k : ∀ D H' l', SX [] H H' → H D = none → rD R (hid S H') (.ref D) l' → H' D ≠ none → Srt l l' → Q (.ref D) H') :
    tDc (iList K (tCB cSortD (tCons (tVar i) tNil))) (gName j) tYes (tVar j) (tDGet (tVar i) (tVar j)) [j] σ H Q := by
  obtain ⟨d', kvs, hd, hr0, hk⟩ := h
  cases hd
  have hr : Rd H d (.dK kvs) := le_hid.rd _ _ trivial hr0
  refine x_dc (x_iList (x_CB (x_cons (x_var hi (x_nil ?_)))))
  refine x_sortD hr hk.keys fun ys p hp hs np => ?_
  refine x_itl (sqL upd_same) fun D hD => ?_
  have hDp : D ≠ p := by
    rintro rfl
    rw [upd_same] at hD
    cases hD
  have hD0 : H D = none := by rw [upd_ne hDp] at hD; exact hD
  have ysn : ys.Nodup := hp.nodup_iff.mpr hn
  have hyl : ys.length = l.length := by rw [hp.length_eq, List.length_map]
  refine dc_walk (walk_list (xs := ys.map V.str)) (fun n A => SX [] H A ∧ A p = some (.lst (ys.map V.str)) ∧ ∃ kv, A D = some (.dK kv) ∧ KVs R (hid S H) kv (pick l (ys.take n))) ?_ ?_ ?_ ?_
  · exact ⟨(SX.new np).trans (SX.new hD), by rw [upd_ne (Ne.symm hDp)]; exact upd_same, [], upd_same, .nil⟩
  · exact fun n A _ ⟨_, h2, _⟩ => sqL h2
  · rintro n x A B hn' ⟨s1, s2, kv, s3, s4⟩ ⟨rfl, hx⟩
    rw [List.getElem?_map] at hx
    cases ey : ys[n]? with
    | none => rw [ey] at hx; cases hx
    | some y =>
      rw [ey] at hx
      cases hx
      have ym : y ∈ l.map (·.1) := hp.mem_iff.mp (getMem ey)
      obtain ⟨v, a, e1, e2, r⟩ : ∃ v a, valV kvs (Sum.inr y) = some v ∧ lookA l y = some a ∧ R (hid S H) v a := by
        rcases KVs.look y hk with q | ⟨_, q⟩
        · exact q
        · obtain ⟨a, e⟩ := lookA_some ym
          rw [e] at q
          cases q
      refine x_name rfl ⟨wipe_set σ j _, x_yes (iteT (x_var (wiped_self hj) (x_dget (x_var (wiped_other hi hij) (x_var (wiped_self hj) ?_)))))⟩
      refine x_dg' (s1.rd hr) e1 ⟨kv, Sum.inr y, rfl, s3, ?_, ?_⟩
      · rw [Paired.length s4]
        unfold pick
        rw [List.length_map, List.length_take]
        exact lt_size (by omega)
      have kk : kv.map (·.1) = (ys.take n).map Sum.inr := by rw [s4.keys, pick_keys]
      rw [putK_fresh v kk (nodup_take ysn ey)]
      have nD : p ≠ D := Ne.symm hDp
      refine ⟨sx_nil_of (S := [D]) ((nil_sx s1).trans (SX.mut List.mem_cons_self)) (by simp [hD0]), by rw [upd_ne nD]; exact s2, _, upd_same, ?_⟩
      have : pick l (ys.take (n + 1)) = pick l (ys.take n) ++ [(y, a)] := by
        rw [take_succ_of ey]
        unfold pick
        rw [List.map_append]
        show _ ++ [(y, (lookA l y).getD default)] = _
        rw [e2]
        rfl
      rw [this]
      exact Paired.app s4 (.cons ⟨rfl, r⟩ .nil)
  · rintro A ⟨s1, s2, kv, s3, s4⟩
    rw [List.length_map, List.take_length] at s4
    have nDS : D ∉ S := fun m => hS D m hD0
    exact k D A _ s1 hD0 ⟨D, kv, rfl, .inl (by rw [hid_of nDS]; exact s3), KVs.le mR (nil_sx s1).le s4⟩ (by rw [s3]; exact fun z => nomatch z) (pick_srt hn hp hs)
/-! ### fields -/
theorem putF_fresh : ∀ {fs : List (Str × V)} {f : Str} {v : V}, f ∉ fs.map (·.1) → putF f v fs = fs ++ [(f, v)]
  | [], f, v, _ => rfl
  | (g, w) :: r, f, v, h => by
    have n : ¬ g = f := fun e => h (List.mem_cons.mpr (.inl e.symm))
    show (if g = f then (g, v) :: r else (g, w) :: putF f v r) = _
    rw [if_neg n, putF_fresh fun m => h (List.mem_cons_of_mem _ m)]
    rfl
theorem look_here {f : Str} {v : V} {r : List (Str × V)} : List.lookup f ((f, v) :: r) = some v := by simp [List.lookup]
theorem look_next {f g : Str} {v w : V} {r : List (Str × V)} (n : (f == g) = false) (h : List.lookup f r = some w) : List.lookup f ((g, v) :: r) = some w := by
  simp only [List.lookup, n]
  exact h

/-! ### y = {k: v for ..}, y a local name -/
section
variable {X : Cx}
theorem sw_dc {ke ve : Expr} {gs : List Comprehension} {sco : Scope} {po pn : Pos} {y : Str} {ln : Nat} {en : Env} (f1 : en.scope.kind = .function) (f2 : en.scope.names.lookup y = some .local) (f3 : (pn.line == po.line) = true)
    (f4 : (sco.names.any fun (n, k) => n == y && (k == .local || k == .cell)) = false) : swapsWith (.DictComp ke ve gs sco po) (some (.Name y pn)) ln en = pure true := by
  have g1 : en.kindOf y = some .local := f2
  have g2 : en.blockKind = .function := by unfold Env.blockKind; rw [f1] <;> rfl
  unfold swapsWith
  simp only [g2, g1, f4, Expr.pos, f3]
  rfl
theorem ps_setDc {i : Nat} {y : Str} {py : Pos} {ke ve tgt itr : Expr} {cnd : List Expr} {sco : Scope} {own : List (Str × Nat)} {po sp : Pos} {wi : TI} {g : TG} {tt : TT} {tk tv : TE} (hc : X.calm = true) (hN : X.N.Nodup) (hy : X.N[i]? = some y) (hyl : X.env.scope.names.lookup y = some .local)
    (hsw : swapsWith (.DictComp ke ve [⟨tgt, itr, cnd, 0⟩] sco po) (some (.Name y py)) sp.line X.env = pure true) (hi : PI X tgt itr wi) (ok : BlkOk X.N X.env.scope sco own)
    (hg : ∀ (s : Shared) (H : Hp) (C : Addr) (cl : List (Str × Addr)) (fp : List Addr), PG (X.blk s H sco (compEnvC sco cl C X.env) fp) tgt g) (ht : ∀ (s : Shared) (H : Hp) (C : Addr) (cl : List (Str × Addr)) (fp : List Addr), PTs (X.blk s H sco (compEnvC sco cl C X.env) fp) cnd tt)
    (hk : ∀ (s : Shared) (H : Hp) (C : Addr) (cl : List (Str × Addr)) (fp : List Addr), PE (X.blk s H sco (compEnvC sco cl C X.env) fp) ke tk) (hv : ∀ (s : Shared) (H : Hp) (C : Addr) (cl : List (Str × Addr)) (fp : List Addr), PE (X.blk s H sco (compEnvC sco cl C X.env) fp) ve tv)
    (hs : ∀ x, foldedSetIterable itr X.env x = pure x := by intro _; rfl) :
    PS X (.Assign [.Name y py] (.DictComp ke ve [⟨tgt, itr, cnd, 0⟩] sco po) sp) (tAsg (tDc wi g tt tk tv (own.map (·.2))) (gName i)) := by
  refine ⟨fun pi s0 st A D In hh => ?_⟩
  rw [exec_Assign_Name_used _ _ _ _ hsw]
  refine wpAny_bind (wpAny_standAt ?_)
  refine wpAny_bind ?_
  show wpAny _ X.A (do let _ ← comprehension (.DictComp ke ve [⟨tgt, itr, cnd, 0⟩] sco po) sco X.env (firstIterPos [⟨tgt, itr, cnd, 0⟩] po) newDict false (eval itr X.env) (some (assign (.Name y py) X.env))) _ _ s0
  have h2 : tDc wi g tt tk tv (own.map (·.2)) st A (fun x B => gName i x st B D.nx) := hh
  refine wpAny_bind (thn (dc_core (Qf := fun _ s' => SP X pi D .next s') hc hN In hi ok hg ht hk hv hs h2 fun Ld C s1 m B In1 q hn fr => ?_) fun _ s1 hq => ?_)
  · show wpAny _ _ (assign (.Name y py) X.env (.ref Ld)) _ _ _
    obtain ⟨f0, f1, f2, f3, f4, f5⟩ := fr
    refine wpAny_assign_Name (store_ok2 (v := V.ref Ld) In1 hN hy (.inl hyl) rfl (fun s2 In2 ⟨a, sb, ha⟩ => ?_) (.inr hyl))
    have ne : C ≠ a := by
      rcases ha with z | z
      · exact fun e => f1 (e.trans z)
      · exact fun e => f4 y a z e.symm
    exact ⟨m, hn.sameBut sb ne, fun h3 sb3 => ⟨_, B, In2.turned (t' := s2.toks) (fun b o hb e => (sb3.2 b hb).trans e) f0 f1 f3 f4 f5, q⟩⟩
  · exact wpAny_pure (wpAny_pure hq)
end

theorem KVs.at_ {α : Type} {R : RR α} {H : Hp} {kvs : List (Key × V)} {l : List (Str × α)} {x : Str} {a : α} (h : KVs R H kvs l) (e : lookA l x = some a) : ∃ v, valV kvs (Sum.inr x) = some v ∧ R H v a := by
  rcases KVs.look x h with ⟨v, b, e1, e2, r⟩ | ⟨_, q⟩
  · rw [e] at e2
    cases e2
    exact ⟨v, e1, r⟩
  · rw [e] at q
    cases q
theorem KVs.in_ {α : Type} {R : RR α} {H : Hp} {kvs : List (Key × V)} {l : List (Str × α)} {p : Str × α} (h : KVs R H kvs l) (hn : (l.map (·.1)).Nodup) (m : p ∈ l) : ∃ v, valV kvs (Sum.inr p.1) = some v ∧ R H v p.2 := h.at_ (lookA_nodup hn m)

/-! ### the rules that speak of the written part, by its name -/
section
variable {X : Cx} {K : PySem.W.Frag}
theorem w_ixT (h : X.K = K) : IxR X (rIxT K) := by subst h; exact ix_tup
theorem w_ixL (h : X.K = K) : IxR X (rIxL K) := by subst h; exact ix_list
theorem w_slL (h : X.K = K) : SlR X (rSlL K) := by subst h; exact sl_list
theorem w_slT (h : X.K = K) : SlR X (rSlA K) := by subst h; exact sl_tupA
theorem w_in (h : X.K = K) : OpR X (compareOp .In) (rIn K false) := by subst h; exact op_in_seq
theorem w_nin (h : X.K = K) : OpR X (compareOp .NotIn) (rIn K true) := by subst h; exact op_notIn_seq
theorem w_catT (h : X.K = K) : OpR X (binaryOp .Add) (rCatA K) := by subst h; exact op_catA
theorem w_eqD (h : X.K = K) (hu : X.A.units + 64 < cLine) : OpR X (compareOp .Eq) (rEqD K) := by subst h; exact op_eqD hu
theorem w_neD (h : X.K = K) (hu : X.A.units + 64 < cLine) : OpR X (compareOp .NotEq) (rNeD K) := by subst h; exact op_neD hu
theorem w_ltT (h : X.K = K) (hu : X.A.units < cLine) : OpR X (compareOp .Lt) (rLtT K) := by subst h; exact op_ltT hu
theorem w_len (h : X.K = K) : CallR X (.builtin "len") (cLen K) := by subst h; exact cl_len
theorem w_list (h : X.K = K) : CallR X (.type "list") (cList K) := by subst h; exact cl_list
theorem w_tup (h : X.K = K) : CallR X (.type "tuple") (cTup K) := by subst h; exact cl_tup
theorem w_sortL (h : X.K = K) : CallR X (.builtin "sorted") (cSortL K) := by subst h; exact cl_sortL
theorem w_max (h : X.K = K) (hc : X.calm = true) : CallR X (.builtin "max") (rMax K) := by subst h; exact cr_max hc
theorem w_min (h : X.K = K) (hc : X.calm = true) : CallR X (.builtin "min") (rMin K) := by subst h; exact cr_min hc
theorem w_sum (h : X.K = K) (hc : X.calm = true) : CallR X (.builtin "sum") (rSum K) := by subst h; exact cr_sum hc
theorem w_all (h : X.K = K) (hc : X.calm = true) : CallR X (.builtin "all") (rAll K) := by subst h; exact cr_all hc
theorem w_any (h : X.K = K) (hc : X.calm = true) : CallR X (.builtin "any") (rAny K) := by subst h; exact cr_any hc
theorem w_isi (h : X.K = K) : CallR X (.builtin "isinstance") (rIsi K) := by subst h; exact call_isi
theorem w_isiT (h : X.K = K) : CallR X (.builtin "isinstance") (rIsiT K) := by subst h; exact call_isiT
theorem w_fld {e : Expr} {f : Str} {ta : TE} {pos : Pos} (h : X.K = K) (he : PE X e ta) (hb : attributeBase e f X.env (eval e X.env) = eval e X.env) : PE X (.Attribute e f pos) (tFld K ta f) := by subst h; exact pe_fld he hb
theorem w_pilist {tg l : Expr} {tl : TE} (h : X.K = K) (hl : PE X l tl) : PI X tg l (iList K tl) := by subst h; exact pi_list hl
theorem w_pitup {tg l : Expr} {tl : TE} (h : X.K = K) (hl : PE X l tl) : PI X tg l (iTup K tl) := by subst h; exact pi_tup hl
theorem w_pgtup {es : List Expr} {k n : Nat} {t : TGs} {pos : Pos} (h : X.K = K) (hc : X.calm = true) (ht : PGs X es t) (hn : (assignEach es X.env).length = n) (hst : (assignEach es X.env).findIdx? (·.1) = none) : PG X (.Tuple es k pos) (gTup K n t) := by subst h; exact pg_tup hc ht hn hst
theorem w_truth {a : Expr} {ta : TE} (h : X.K = K) (ha : PE X a ta) (he : ∀ whole, isTrue a X.env whole = (do let v ← whole; standAt a.pos; holding [v] (truthy v))) : PT X a (tTru K ta) := by subst h; exact pt_truth ha he
theorem w_bm {T name id : String} {r : V → List V → Hp → VK → Prop} {o e : Expr} {es : List Expr} {to : TE} {t : TA} {apos cpos : Pos} (h : X.K = K) (pa : PlainAttrs T) (slot : Slot T name id) (hty : typeOf (.builtin id) = pure (.type "method_descriptor")) (hm : MtR X id r) (ho : PE X o to) (ha : PA X (e :: es) t)
    (hp : PE X (.Call (.Attribute o name apos) (e :: es) [] cpos) (tBM X.K T r to t)) : PE X (.Call (.Attribute o name apos) (e :: es) [] cpos) (tBM K T r to t) := by subst h; exact hp
end

/-- what is hidden may grow by what is new -/
theorem le_hidS {S S' : List Addr} {H A : Hp} (a : SX S H A) (h : ∀ b ∈ S', b ∈ S ∨ H b = none) : Le (hid S H) (hid S' A) := le_of fun b o q => by
  obtain ⟨n, q⟩ := hid_at q
  rw [hid_of]
  · exact a b o n q
  · intro m
    rcases h b m with z | z
    · exact n z
    · rw [q] at z
      cases z
theorem hid_new {S : List Addr} {H : Hp} {p : Addr} {o : HO} (hp : H p = none) (hS : ∀ b ∈ S, H b ≠ none) : hid S (upd H p o) p = some o := by
  rw [hid_of fun m => hS p m hp]
  exact upd_same
theorem there {S : List Addr} {A B : Hp} (a : SX [] A B) (h : ∀ b ∈ S, A b ≠ none) : ∀ b ∈ S, B b ≠ none := fun b m e => h b m (a.free e List.not_mem_nil)

/-! ### the one ascending list of texts -/
def leS (a b : Str) : Prop := a.cps.toList ≤ b.cps.toList
theorem leS_trans {a b c : Str} (h1 : leS a b) (h2 : leS b c) : leS a c := List.le_trans h1 h2
theorem leS_antisymm {a b : Str} (h1 : leS a b) (h2 : leS b a) : a = b := by
  have e : a.cps.toList = b.cps.toList := List.le_antisymm h1 h2
  obtain ⟨a⟩ := a
  obtain ⟨b⟩ := b
  have : a = b := Array.toList_inj.mp e
  rw [this]
theorem rising_pw : ∀ (p : Str) (l : List Str), risingS p l = true → (p :: l).Pairwise leS
  | p, [], _ => List.pairwise_singleton _ _
  | p, x :: r, h => by
    have h : (!ltCps x.cps.toList p.cps.toList && risingS x r) = true := h
    rw [Bool.and_eq_true] at h
    have h1 : leS p x := by
      have q := h.1
      rw [PyProof.Rows.ltCps_eq] at q
      exact List.not_lt.mp (by simpa using q)
    have h2 := rising_pw x r h.2
    refine List.pairwise_cons.mpr ⟨fun y hy => ?_, h2⟩
    rcases List.mem_cons.mp hy with rfl | hy
    · exact h1
    · exact leS_trans h1 (List.rel_of_pairwise_cons h2 hy)
theorem sortedS_pw : ∀ {l : List Str}, sortedS l = true → l.Pairwise leS
  | [], _ => .nil
  | x :: r, h => rising_pw x r h
theorem sorted_one {l l' : List Str} (h : sortedS l = true) (h' : sortedS l' = true) (p : l.Perm l') : l = l' :=
  List.Perm.eq_of_pairwise (fun _ _ _ _ a b => leS_antisymm a b) (sortedS_pw h) (sortedS_pw h') p
theorem x_setF {K : PySem.W.Frag} {H : Hp} {C a dx : Addr} {f : Str} {fs : List (Str × V)} {y : V} {R : Hp → Prop} (ns : List Str) (h : H a = some (.ins C dx fs)) (c : Cls K C) (n : NoAttr K C f) (e : fs.map (·.1) = ns) (hl : ns.length < 1000) (hf : decide (f ∈ ns) = false)
    (k : R (upd H a (.ins C dx (fs ++ [(f, y)])))) : ∃ a' C' dx' fs', V.ref a = .ref a' ∧ H a' = some (.ins C' dx' fs') ∧ Cls K C' ∧ NoAttr K C' f ∧ fs'.length < 1000 ∧ R (upd H a' (.ins C' dx' (putF f y fs'))) :=
  ⟨a, C, dx, fs, rfl, h, c, n, by rw [← e, List.length_map] at hl; exact hl, by
    rw [putF_fresh (by rw [e]; exact of_decide_eq_false hf)]
    exact k⟩
theorem x_getF {K : PySem.W.Frag} {H : Hp} {C a dx : Addr} {f : Str} {fs : List (Str × V)} {v : V} {R : V → Prop} (h : H a = some (.ins C dx fs)) (c : Cls K C) (n : NoAttr K C f) (e : fs.lookup f = some v) (k : R v) :
    ∃ a' C' dx' fs' v', V.ref a = .ref a' ∧ H a' = some (.ins C' dx' fs') ∧ Cls K C' ∧ NoAttr K C' f ∧ fs'.lookup f = some v' ∧ R v' := ⟨a, C, dx, fs, v, rfl, h, c, n, e, k⟩

/-! ### d[s] = a, told by what the dict holds -/
section
variable {α : Type} {R : RR α} {H : Hp}
theorem putA_keys (s : Str) (a : α) : ∀ l : List (Str × α), (putA l s a).map (·.1) = if s ∈ l.map (·.1) then l.map (·.1) else l.map (·.1) ++ [s]
  | [] => rfl
  | (k, b) :: r => by
    unfold putA
    by_cases e : k = s
    · subst e
      rw [if_pos rfl, if_pos (by simp)]
      rfl
    · rw [if_neg e]
      show k :: (putA r s a).map (·.1) = _
      rw [putA_keys s a r]
      by_cases m : s ∈ r.map (·.1)
      · rw [if_pos m, List.map_cons, if_pos (List.mem_cons_of_mem _ m)]
      · rw [if_neg m, if_neg (by
          intro q
          rcases List.mem_cons.mp q with q | q
          · exact e q.symm
          · exact m q)]
        rfl
theorem putA_mem {s : Str} {a : α} {p : Str × α} : ∀ {l : List (Str × α)}, p ∈ putA l s a → p ∈ l ∨ p = (s, a)
  | [], h => .inr (List.mem_singleton.mp h)
  | (k, b) :: r, h => by
    unfold putA at h
    split at h
    · rename_i e
      rcases List.mem_cons.mp h with h | h
      · exact .inr (by rw [h, e])
      · exact .inl (List.mem_cons_of_mem _ h)
    · rcases List.mem_cons.mp h with h | h
      · exact .inl (by rw [h]; exact List.mem_cons_self)
      · rcases putA_mem h with h | h
        · exact .inl (List.mem_cons_of_mem _ h)
        · exact .inr h
theorem putA_nodup {s : Str} {a : α} {l : List (Str × α)} (h : (l.map (·.1)).Nodup) : ((putA l s a).map (·.1)).Nodup := by
  rw [putA_keys]
  split
  · exact h
  · exact nd_snoc h (by assumption)
theorem putA_len {s : Str} {a : α} {l : List (Str × α)} : (putA l s a).length ≤ l.length + 1 := by
  have := congrArg List.length (putA_keys s a l)
  rw [List.length_map] at this
  rw [this]
  split
  · simp
  · simp
theorem putA_pos {s : Str} {a : α} {l : List (Str × α)} : 1 ≤ (putA l s a).length := by
  cases l with
  | nil => exact Nat.le_refl _
  | cons p r =>
    obtain ⟨k, b⟩ := p
    unfold putA
    split <;> simp
theorem putA_fresh {s : Str} {a : α} : ∀ {l : List (Str × α)}, s ∉ l.map (·.1) → putA l s a = l ++ [(s, a)]
  | [], _ => rfl
  | (k, b) :: r, h => by
    unfold putA
    rw [if_neg (fun e => h (List.mem_cons.mpr (.inl e.symm))), putA_fresh fun m => h (List.mem_cons_of_mem _ m)]
    rfl
theorem putA_key_in {s : Str} {a : α} {l : List (Str × α)} : s ∈ (putA l s a).map (·.1) := by
  rw [putA_keys]
  split
  · assumption
  · simp
theorem putA_key_mono {s x : Str} {a : α} {l : List (Str × α)} (h : x ∈ l.map (·.1)) : x ∈ (putA l s a).map (·.1) := by
  rw [putA_keys]
  split
  · exact h
  · exact List.mem_append_left _ h
theorem putA_key_of {s x : Str} {a : α} {l : List (Str × α)} (h : x ∈ (putA l s a).map (·.1)) : x ∈ l.map (·.1) ∨ x = s := by
  rw [putA_keys] at h
  split at h
  · exact .inl h
  · rcases List.mem_append.mp h with h | h
    · exact .inl h
    · exact .inr (List.mem_singleton.mp h)
theorem putK_cons_pos {p : Key × V} {r : List (Key × V)} {k : Key} {v : V} (e : p.1 = k) (hn : valV r k = none) : putK (p :: r) k v = (p.1, v) :: r := by
  unfold putK
  rw [if_pos (by rw [List.any_cons, decide_eq_true e]; rfl), List.map_cons, if_pos e]
  congr 1
  have : ∀ q ∈ r, (if q.1 = k then (q.1, v) else q) = q := fun q hq => by
    rw [if_neg]
    intro z
    have : (r.any fun kv => decide (kv.1 = k)) = true := List.any_eq_true.mpr ⟨q, hq, decide_eq_true z⟩
    rw [valV_any, hn] at this
    cases this
  rw [List.map_congr_left this, List.map_id']
theorem putK_cons_neg {p : Key × V} {r : List (Key × V)} {k : Key} {v : V} (e : ¬ p.1 = k) : putK (p :: r) k v = p :: putK r k v := by
  unfold putK
  rw [List.any_cons, decide_eq_false e, Bool.false_or]
  split
  · rw [List.map_cons, if_neg e]
  · rfl
theorem KVs.put {s : Str} {v : V} {a : α} (hr : R H v a) : ∀ {kvs : List (Key × V)} {l : List (Str × α)}, KVs R H kvs l → (l.map (·.1)).Nodup → KVs R H (putK kvs (Sum.inr s) v) (putA l s a)
  | _, _, .nil, _ => .cons ⟨rfl, hr⟩ .nil
  | p :: kvs, (k, b) :: l, .cons h t, hn => by
    have hn : (k :: l.map (·.1)).Nodup := hn
    obtain ⟨n1, n2⟩ := List.nodup_cons.mp hn
    unfold putA
    by_cases e : k = s
    · subst e
      have no : valV kvs (Sum.inr k) = none := by
        have := keys_val (KVs.keys t) k
        rw [decide_eq_false n1] at this
        cases q : valV kvs (Sum.inr k) with
        | none => rfl
        | some x => rw [q] at this; cases this
      rw [putK_cons_pos h.1 no, if_pos rfl]
      exact .cons ⟨h.1, hr⟩ t
    · have ne : ¬ p.1 = (Sum.inr s : Key) := by
        rw [h.1]
        exact fun z => e (Sum.inr.inj z)
      rw [putK_cons_neg ne, if_neg e]
      exact .cons h (KVs.put hr t n2)
end

/-! ### powers of great numbers -/
def CPowB (i j : Int) : Prop := 0 ≤ j ∧ (Builtin.Int.intBits i : Int) * j ≤ 2 ^ 27
theorem op_powB {X : Cx} : OpR X (binaryOp .Pow) (L2.rI CPowB fun i j => V.int (i ^ j.toNat)) := opI fun _ _ _ _ _ _ _ hc q => pow_int hc.1 hc.2 q

theorem walk_rng {n : Nat} : Walk (Itr 0 n) n (fun _ => True) (fun i H x H' => H' = H ∧ x = .int (i : Int)) :=
  walk_range.mono (fun _ h => h) fun i H x H' _ _ y => ⟨y.1, y.2.trans (by show V.int (0 + (i : Int)) = _; rw [Int.zero_add])⟩
end M

set_option Elab.async false
set_option linter.all false
set_option maxRecDepth 100000
set_option maxHeartbeats 2000000
namespace M
open PySem PySem.Spec PyProof.Rows L2
/-! ### enumerate over a list or a tuple -/
section
open PySem.Sem (wp)
set_option maxHeartbeats 4000000 in
theorem meets_enum1 {v : Value} {o : Obj} {G : Heap → Prop} (B : Begins v o G) :
    Meets (Builtin.«enumerate.__new__» ⟨[.type "enumerate", v], []⟩) (fun _ R s => G s.heap ∧
      R (.ok (.ret (.ref (s.heap.push o).objs.size)))
        { s with heap := (s.heap.push o).push { cls := .type "enumerate",
                                                data := .fields #[.none, .bool false, .ref s.heap.objs.size, rawInt 0, .none, .none] } }) :=
  .of_wp fun prog w A R s hh => by
    obtain ⟨hp, gl, di, tk, os⟩ := s
    obtain ⟨hG, hR⟩ := hh
    have hsub := sub_enumerate
    have it1 : ∀ {A1 : Around} {E1 : Value → Shared → Prop} {Q1 : Value → Shared → Prop}, Q1 (.ref hp.objs.size) ⟨hp.push o, gl, di, tk, os⟩ →
        wpAny (model prog w) A1 (pyIter v) Q1 E1 ⟨hp, gl, di, tk, os⟩ := fun q => B.iter prog w _ _ ⟨hp, gl, di, tk, os⟩ _ hG q
    wp_walk using it1
    refine wpAny_stack_any fun st => wpAny_pure ?_
    split
    · rename_i cc _ _ _ _ _
      cases (cc == Value.type "enumerate")
      · wp_walk using it1
        exact ⟨_, rfl, hR⟩
      · wp_walk using it1
        exact ⟨_, rfl, hR⟩
    · wp_walk using it1
      exact ⟨_, rfl, hR⟩
theorem enum_begin1 {prog : Program} {w : World} {A : Around} {E : Value → Shared → Prop} {s : Shared} {v : Value} {o : Obj} {G : Heap → Prop} {Q : Value → Shared → Prop} (B : Begins v o G) (hG : G s.heap)
    (k : ∀ h', IsEnum h' (s.heap.objs.size + 1) s.heap.objs.size 0 .none → h'.get? s.heap.objs.size = some o →
      (∀ b ob, s.heap.get? b = some ob → h'.get? b = some ob) → Q (.ref (s.heap.objs.size + 1)) { s with heap := h' }) : wpAny (model prog w) A (call (.type "enumerate") [v]) Q E s := by
  refine callType_new F.called_enumerate (by decide) (F.typeCall_enumerate_1 _) (F.newCall_enumerate_1 _) (fun ob => F.args_object_init_2 ob _) F.entry_enumerate_new (meets_enum1 B) ⟨hG, ?_⟩
  have sz : (s.heap.push o).objs.size = s.heap.objs.size + 1 := Heap.size_push ..
  show _ ∧ _
  rw [sz]
  have en := Heap.get?_push_size (s.heap.push o) (o := { cls := .type "enumerate", data := .fields #[.none, .bool false, .ref s.heap.objs.size, rawInt 0, .none, .none] }) rfl
  rw [sz] at en
  exact ⟨⟨_, en, rfl⟩, k _ en (Heap.get?_push_of_some _ (Heap.get?_push_size _ B.free)) fun b ob q => Heap.get?_push_of_some _ (Heap.get?_push_of_some _ q)⟩
end
/-- the tuple at a, each item in a new pair with its place -/
def IteT (K : PySem.W.Frag) (a : Addr) : It :=
  ⟨fun i H => ∃ (xs : List V) (x : V), SqT K H a xs ∧ xs[i]? = some x,
   fun i H v H' => ∃ T x, v = .ref T ∧ H T = none ∧ H' = upd H T (.tup [.int (i : Nat), x]) ∧ ∀ xs, SqT K H a xs → xs[i]? = some x,
   fun i H => ∃ xs : List V, SqT K H a xs ∧ xs.length ≤ i⟩
theorem turn_enumT {P : Program} {w : World} {K : PySem.W.Frag} {elts : List Expr} {kk : Nat} {tpos : Pos} (a e it : Addr) :
    Turn P w K (.Tuple elts kk tpos) (IteT K a) [e, it] e (fun i h => (∃ old, IsEnum h e it ((i : Nat) : Int) old) ∧ h.IsTupleIter it a i ∧ e ≠ it) where
  mem := by simp
  obj := fun i h st b hb => by
    obtain ⟨⟨old, he⟩, ⟨o, ho, hc, hd⟩, _⟩ := st
    rcases List.mem_cons.mp hb with rfl | hb
    · exact ⟨_, he, fun v q => nomatch q⟩
    · cases List.mem_singleton.mp hb
      exact ⟨o, ho, fun v q => by rw [hd] at q; cases q⟩
  keep := fun i h h' st k => by
    obtain ⟨⟨old, he⟩, hi, ne⟩ := st
    exact ⟨⟨old, k e (by simp) _ he⟩, hi.at fun o q => k it (by simp) o q, ne⟩
  item := by
    intro X hP hw hK hc i pins s σ H E I hf st hg
    subst hP hw hK
    obtain ⟨⟨old, he⟩, hit, ne⟩ := st
    obtain ⟨xs, x, hq, hx⟩ := hg
    obtain ⟨its, rv, pt, hz⟩ := I.tuple hq
    have pt : s.heap.IsTuple a its.toArray := pt
    obtain ⟨u, hu, ru⟩ := rv.get hx
    have hel : e < s.heap.objs.size := Heap.lt_size he
    have hil : it < s.heap.objs.size := by obtain ⟨_, q, _⟩ := hit; exact Heap.lt_size q
    obtain ⟨h1, h2, h3, h4, h5, h6⟩ := hf e (by simp)
    have nea : e ∉ [it, a] := by
      simp only [List.mem_cons, List.not_mem_nil, or_false, not_or]
      refine ⟨ne, fun q => ?_⟩
      obtain ⟨ob, hob, hcl, _⟩ := pt
      rw [← q, he] at hob
      cases hob
      injection hcl with hcl
      exact absurd hcl (by decide)
    have nai : a ≠ it := fun q => by
      obtain ⟨ob, hob, hcl, _⟩ := pt
      obtain ⟨o2, ho2, hc2, _⟩ := hit
      rw [q, ho2] at hob
      cases hob
      rw [hc2] at hcl
      injection hcl with hcl
      exact absurd hcl (by decide)
    have D := Draws.tuple (prog := X.prog) (w := X.w) (A := X.A.in1) (I.ok.hd hc) it a nai its.toArray
    refine wpAny_pyNext_enum_itemD D he ⟨hit, pt⟩ (getLt (l := its) hu |> fun q => by simpa using q) ne nea fun y h' tk hy ho st' hT hsz hk => ?_
    obtain rfl : y = u := by simpa [hu] using hy.symm
    refine ⟨_, rfl, wpAny_letOwnedTupleGo_enum (s := { s with heap := h', toks := tk + 1 }) ho fun h'' he' sb => ?_⟩
    have hT2 : h''.get? s.heap.objs.size = some { cls := .type "tuple", data := .seq #[.int i tk, y] } := (sb.2 _ (Nat.ne_of_gt hel)).trans hT
    have new : ObjOk X.prog X.w (upd H s.heap.objs.size (.tup [.int (i : Nat), x])) h'' s.heap.objs.size (.tup [.int (i : Nat), x]) :=
      ⟨(by decide : 2 ≤ sizeLine), [.int i tk, y], .cons ⟨_, rfl⟩ (.cons ru .nil), ⟨_, hT2, rfl, _, rfl⟩⟩
    have I1 : Inv X pins σ (upd H s.heap.objs.size (.tup [.int (i : Nat), x])) { s with heap := h'', toks := tk + 1 } :=
      I.turnedNew (ch := [e, it]) (fun b ob hb q => by
        have n1 : b ≠ e := fun z => hb (by simp [z])
        have n2 : b ≠ it := fun z => hb (by simp [z])
        exact (sb.2 b n1).trans (hk b ob n1 n2 q)) hf (Nat.le_refl _) new
    refine ⟨.ref s.heap.objs.size, _, I1, rfl, ⟨_, x, rfl, I.hok.fresh (Nat.le_refl _), rfl, fun ys hys => by rw [I.tuple_inj hys hq]; exact hx⟩, ⟨⟨y, ?_⟩, st'.1.at fun o q => (sb.2 it (Ne.symm ne)).trans q, ne⟩, fun b hb => ?_⟩
    · have e1 : ((i + 1 : Nat) : Int) = (i : Int) + 1 := by omega
      rw [e1]
      exact he'
    · have hb' : b < s.heap.objs.size := by
        rcases List.mem_cons.mp hb with rfl | hb2
        · exact hel
        · cases List.mem_singleton.mp hb2
          exact hil
      rw [upd_ne (Nat.ne_of_lt hb')]
      exact (hf b hb).1
  done := by
    intro X hP hw hK hc i pins s σ H E I hf st hg
    subst hP hw hK
    obtain ⟨⟨old, he⟩, hit, ne⟩ := st
    obtain ⟨xs, hq, hx⟩ := hg
    obtain ⟨its, rv, pt, hz⟩ := I.tuple hq
    have pt : s.heap.IsTuple a its.toArray := pt
    obtain ⟨f0, f1, f2, f3, f4, f5⟩ := hf it (by simp)
    have hl := rv.length
    have hT : s.TypeIs (.ref e) "enumerate" := ⟨_, he, rfl⟩
    have go : wpAny (model X.prog X.w) X.A (pyNext (.ref e)) (fun r s1 => r = none ∧ Inv X pins σ H s1) E s := by
      unfold pyNext
      refine wpAny_bind (wpAny_attempt (wpAny_callSpecial?_slot (name := Str.ofString "__next__") hT F.slot_enumerate_next (wpAny_call_entry F.slot_enumerate_next hT F.entry_enumerate_next ?_ (F.args_enumerate_next_1 _))))
      show wpAny _ _ (field (.ref e) 2 >>= _) _ _ _
      refine wpAny_bind (wpAny_field he rfl (x := .ref it) rfl ?_)
      refine wpAny_bind (wpAny_nextOf_tuple_end (I.ok.hd hc) hit pt (by simp; omega) fun h' z eb hz' => ?_)
      obtain ⟨o, ho, hcl⟩ := hz'
      refine wpAny_bind (wpAny_isInstance (T := "StopIteration") (b := true) ⟨o, ho, hcl⟩ isSubtype_stop ?_)
      exact wpAny_pure ⟨rfl, I.turned (t' := s.toks) (fun b o hb q => eb b o hb q) f0 f1 f3 f4 f5⟩
    exact go
  self := fun A i s Q E st h => by
    obtain ⟨⟨_, he⟩, _⟩ := st
    exact wpAny_pyIter_enum he h
/-- a row: a list or a tuple -/
def RowAt (H : Hp) (a : Addr) (xs : List V) : Prop := H a = some (.lst xs) ∨ H a = some (.tup xs)
theorem RowAt.sx {S : List Addr} {A B : Hp} {a : Addr} {xs : List V} (s : SX S A B) (n : a ∉ S) (h : RowAt A a xs) : RowAt B a xs := h.imp (s _ _ n) (s _ _ n)
theorem RowAt.there {A : Hp} {a : Addr} {xs : List V} (h : RowAt A a xs) : A a ≠ none := by rcases h with h | h <;> rw [h] <;> exact fun z => nomatch z
/-- enumerate(x): x a list or a tuple that is no part of the top's -/
def iEnumA (K : PySem.W.Frag) (ta : TA) : TI := fun σ H R => ta σ H fun vs H1 => ∃ a xs, vs = [.ref a] ∧ RowAt H1 a xs ∧
  ∀ J, Walk J xs.length (fun A => A a = H1 a) (fun i A x A' => ∃ T y, xs[i]? = some y ∧ x = .ref T ∧ A T = none ∧ A' = upd A T (.tup [.int (i : Int), y])) → R J H1
theorem walk_eL {K : PySem.W.Frag} {H : Hp} {a : Addr} {xs : List V} (h : H a = some (.lst xs)) :
    Walk (Ite K a) xs.length (fun A => A a = H a) (fun i A x A' => ∃ T y, xs[i]? = some y ∧ x = .ref T ∧ A T = none ∧ A' = upd A T (.tup [.int (i : Int), y])) :=
  ⟨fun i A hi q => ⟨xs, xs[i], sqL (q.trans h), by simp [hi]⟩, fun A q => ⟨xs, sqL (q.trans h), Nat.le_refl _⟩, fun i A v A' hi q y => by
    obtain ⟨T, x, h1, h2, h3, h4⟩ := y
    exact ⟨T, x, h4 xs (sqL (q.trans h)), h1, h2, h3⟩⟩
theorem walk_eT {K : PySem.W.Frag} {H : Hp} {a : Addr} {xs : List V} (h : H a = some (.tup xs)) :
    Walk (IteT K a) xs.length (fun A => A a = H a) (fun i A x A' => ∃ T y, xs[i]? = some y ∧ x = .ref T ∧ A T = none ∧ A' = upd A T (.tup [.int (i : Int), y])) :=
  ⟨fun i A hi q => ⟨xs, xs[i], sqT (q.trans h), by simp [hi]⟩, fun A q => ⟨xs, sqT (q.trans h), Nat.le_refl _⟩, fun i A v A' hi q y => by
    obtain ⟨T, x, h1, h2, h3, h4⟩ := y
    exact ⟨T, x, h4 xs (sqT (q.trans h)), h1, h2, h3⟩⟩
theorem pi_enumA {X : Cx} {e : Expr} {ta : TA} {p pos tpos : Pos} {elts : List Expr} {kk : Nat} (hg : Gl X "enumerate") (hm : X.mg "enumerate" = none) (ha : PA X [e] ta) (hs : starEach [e] X.env = [(false, eval e X.env)] := by rfl) :
    PI X (.Tuple elts kk tpos) (.Call (.Name "enumerate" p) [e] [] pos) (iEnumA X.K ta) := by
  refine ⟨fun pins s σ H R I h => ?_⟩
  refine Call_ (ld_blt I hg hm boot_enumerate (PyProof.Rows.callWith_type1 (thn (ha.run pos pins s σ H _ I h) fun us s1 ⟨vs, H1, I1, r1, a, xs, ex, hq, q⟩ => ?_) hs rfl))
  subst ex
  cases r1 with
  | cons r rr =>
    cases rr
    cases r
    have fp : ∀ (h' : Heap), Inv X pins σ H1 { s1 with heap := h' } → ∀ b ∈ [s1.heap.objs.size + 1, s1.heap.objs.size], FpOk X pins H1 b := fun h' I2 b hb => by
      have hle : s1.heap.objs.size ≤ b := by
        rcases List.mem_cons.mp hb with rfl | hb
        · exact Nat.le_succ _
        · cases List.mem_singleton.mp hb
          exact Nat.le_refl _
      exact I1.fpOk hle (I1.hok.fresh hle)
    rcases hq with hq | hq
    · obtain ⟨its, rv, pl, hz⟩ := I1.list (sqL (K := X.K) hq)
      refine call_enumerate_list pl.isList fun h' he hit hsz hk => wpAny_pyIter_enum he ?_
      have I2 : Inv X pins σ H1 { s1 with heap := h' } := I1.kept (t' := s1.toks) hk
      exact ⟨s1.heap.objs.size + 1, [s1.heap.objs.size + 1, s1.heap.objs.size], _, _, H1, rfl, I2, turn_enum a (s1.heap.objs.size + 1) s1.heap.objs.size, ⟨⟨.none, he⟩, hit, Nat.succ_ne_self _⟩, fp h' I2, q _ (walk_eL hq)⟩
    · obtain ⟨its, rv, pt, hz⟩ := I1.tuple (sqT (K := X.K) hq)
      refine enum_begin1 (begins_tuple a its.toArray) pt fun h' he hit hk => wpAny_pyIter_enum he ?_
      have I2 : Inv X pins σ H1 { s1 with heap := h' } := I1.kept (t' := s1.toks) hk
      exact ⟨s1.heap.objs.size + 1, [s1.heap.objs.size + 1, s1.heap.objs.size], _, _, H1, rfl, I2, turn_enumT a (s1.heap.objs.size + 1) s1.heap.objs.size, ⟨⟨.none, he⟩, ⟨_, hit, rfl, rfl⟩, Nat.succ_ne_self _⟩, fp h' I2, q _ (walk_eT hq)⟩
section
variable {K : PySem.W.Frag}
theorem w_enumA {X : Cx} {e : Expr} {ta : TA} {p pos tpos : Pos} {elts : List Expr} {kk : Nat} (h : X.K = K) (hg : Gl X "enumerate") (hm : X.mg "enumerate" = none) (ha : PA X [e] ta) (hs : starEach [e] X.env = [(false, eval e X.env)] := by rfl) :
    PI X (.Tuple elts kk tpos) (.Call (.Name "enumerate" p) [e] [] pos) (iEnumA K ta) := by subst h; exact pi_enumA hg hm ha hs
theorem x_iEnumA {ta : TA} {σ : L2.St} {H : Hp} {R : It → Hp → Prop} (k : ta σ H fun vs H1 => ∃ a xs, vs = [.ref a] ∧ RowAt H1 a xs ∧
  ∀ J, Walk J xs.length (fun A => A a = H1 a) (fun i A x A' => ∃ T y, xs[i]? = some y ∧ x = .ref T ∧ A T = none ∧ A' = upd A T (.tup [.int (i : Int), y])) → R J H1) : iEnumA K ta σ H R := k
end
end M

set_option Elab.async false
set_option linter.all false
set_option maxRecDepth 100000
set_option maxHeartbeats 2000000
namespace M
open PySem PySem.Spec PyProof.Rows L2
/-! ### list(d.values()), tuple(d) -/
section
variable {X : Cx}
def tListVals (td : TE) : TE := fun σ H Q => td σ H fun x H1 => ∃ d kvs, x = .ref d ∧ H1 d = some (.dK kvs) ∧ ∀ l, H1 l = none → Q (.ref l) (upd H1 l (.lst (kvs.map (·.2))))
theorem pe_listVals {e : Expr} {td : TE} {p apos cpos pos : Pos} (hc : X.calm = true) (hg : Gl X "list") (hm : X.mg "list" = none) (he : PE X e td)
    (hbase : attributeBase e "values" X.env (eval e X.env) = eval e X.env := by rfl) (hline : (apos.endLine == cpos.line) = true := by rfl)
    (na : starEach [.Call (.Attribute e "values" apos) [] [] cpos] X.env = (false, eval (.Call (.Attribute e "values" apos) [] [] cpos) X.env) :: starEach [] X.env := by rfl) :
    PE X (.Call (.Name "list" p) [.Call (.Attribute e "values" apos) [] [] cpos] [] pos) (tListVals td) := by
  refine ⟨fun pins s σ H Q I h => ?_⟩
  refine Call_ (ld_blt I hg hm boot_list (PyProof.Rows.callWith_type1 (args_cons ?_ na) na))
  refine wpAny_Call_method (T := "dict") (id := "dict.values") hbase rfl hline F.plainAttrs_dict F.slot_dict_values F.type_dict_values (thn (he.run pins s σ H _ I h) fun u s1 ⟨x, H1, I1, rx, d, kvs, ex, hd, q⟩ => ?_)
  subst ex
  obtain rfl : u = Value.ref d := rx
  obtain ⟨z, lo, vs, rk, hdic⟩ := (show ObjOk X.prog X.w H1 s1.heap d (.dK kvs) from I1.hok d _ hd)
  obtain ⟨ep, hat⟩ := hdic.dictAt
  have hl : kvs.length = vs.length := Paired.length rk
  refine ⟨hdic.typeIs, hdic.mapOf.noDict, ?_⟩
  have I2 : Inv X pins σ H1 { s1 with heap := s1.heap.push { cls := .type "dict_values", data := .fields #[.ref d] } } := I1.kept (t' := s1.toks) fun b ob q => Heap.get?_push_of_some _ q
  have fin : wpAny (model X.prog X.w) X.A (spliced (backTo pos (starEach [] X.env))) (fun us s' => wpAny (model X.prog X.w) X.A (call (.type "list") (.ref s1.heap.objs.size :: us)) (EP X pins σ Q) X.xe s') X.xe { s1 with heap := s1.heap.push { cls := .type "dict_values", data := .fields #[.ref d] } } := by
    refine args_nil ?_
    have vw : (s1.heap.push { cls := .type "dict_values", data := .fields #[.ref d] }).IsValuesView s1.heap.objs.size d := ⟨_, Heap.get?_push_size _ rfl, rfl, rfl⟩
    refine PySem.W.kdl_call (PySem.W.kdl_values (knd := mixKind X.prog X.w) (kvs := vs) (ep := ep) (d := d) (r := s1.heap.objs.size)) (I2.ok.hd hc) ⟨vw, hat.push _⟩ (by rw [← hl]; exact z) fun h' tk acc' c' hkeep hS hacc => ?_
    refine ⟨.ref _, upd H1 _ (.lst (kvs.map (·.2))), I2.laid (t' := tk) hkeep (Nat.le_refl _) (show ObjOk X.prog X.w _ _ _ (.lst (kvs.map (·.2))) from ⟨by rw [List.length_map]; exact z, acc'.toList, c', ?_, by rw [Array.toArray_toList]; exact hS⟩), rfl, q _ (I2.hok.fresh (Nat.le_refl _))⟩
    have z1 : acc'.toList.length = acc'.size := by simp
    have z2 : (kvs.map (·.2)).length = acc'.toList.length := by rw [List.length_map, z1, hacc.1, hl]
    refine vals_of_at z2 fun j y w h1 h2 => ?_
    obtain ⟨ky, hky⟩ := hacc.2 j w (by rw [← Array.getElem?_toList]; exact h2)
    rw [List.getElem?_map] at h1
    cases e1 : kvs[j]? with
    | none => rw [e1] at h1; cases h1
    | some kv =>
      rw [e1] at h1
      cases h1
      obtain ⟨vv, e2, _, r2⟩ := Paired.getL rk e1
      rw [hky] at e2
      cases e2
      exact r2
  show wpAny _ _ (callWith cpos (.builtin "dict.values") [.ref d] [] []) _ X.xe s1
  exact method_meetsIn F.slot_dict_values F.entry_dict_values rfl (PySem.evalArgs_none ⟨rfl, hdic.typeIs, F.args_dict_values_1 _, _, meets_dict_values (mixKind X.prog X.w) d lo, ⟨vs, hdic⟩, fin⟩)
/-- tuple(d): its keys -/
def cTupD : List V → Hp → VK → Prop := fun xs H Q => ∃ (p : Addr) (kvs : List (Key × V)), xs = [.ref p] ∧ H p = some (.dK kvs) ∧ ∀ q, H q = none → Q (.ref q) (upd H q (.tup (kvs.map fun kv => kV kv.1)))
theorem new_tup_of {prog : Program} {w : World} {A : Around} {E : Value → Shared → Prop} {s : Shared} {r d : Addr} {n : Nat} {G : Nat → Value → Prop} {OK : Heap → Prop} {Q1 : Value → Shared → Prop} (src : PySem.W.KdlSrc prog w "dict" r d n G OK) (hh : A.handled = none) (ok : OK s.heap) (hn : n ≤ sizeLine)
    (k : ∀ (h' : Heap) (tk : Nat) (acc : Array Value), (∀ b o, s.heap.get? b = some o → h'.get? b = some o) → ItemsOf G acc n →
      Q1 (.ref h'.objs.size) { s with heap := h'.push { cls := .type "tuple", data := .seq acc }, toks := tk }) :
    codeAny (model prog w) A (.call (.builtin "tuple.__new__") ⟨[.type "tuple", .ref r], []⟩) (wants Q1 E) s := by
  have tyT : s.TypeIs (.ref r) "dict" := src.type s ok
  refine codeAny_of_tree ?_
  show wpAny _ A.in1 (checkBuiltinCall "tuple.__new__" ⟨[.type "tuple", .ref r], []⟩ >>= fun _ => again (.builtin "tuple.__new__" ⟨[.type "tuple", .ref r], []⟩)) _ _ s
  refine wpAny_bind (wpAny_of_eq (F.newCall_tuple_1 _) (wpAny_pure ⟨plainId_quiet F.plain_tuple_new _, codeAny_builtin F.entry_tuple_new ?_⟩))
  rw [Around.under_plainId F.plain_tuple_new _]
  have hsub := sub_tuple_self
  have hinit := init_tuple_lookup
  have hmh := madeHere_tuple
  have hh1 : A.in1.handled = none := hh
  wp_walk using wpAny_typeOf tyT, PySem.W.kdu_collect (A := A.in1) src hh1 ok hn
  intro h' tk acc hk hacc
  have e1 : acc.toList.toArray = acc := by simp
  show wpAny _ _ (Builtin.Tuple.tupleExact acc.toList.toArray >>= fun z => ret z) _ _ _
  unfold Builtin.Tuple.tupleExact
  rw [e1]
  refine wpAny_bind (wpAny_newObj_type ?_ (by show acc.size ≤ sizeLine; rw [hacc.1]; exact hn))
  exact wpAny_pure (k h' tk acc hk hacc)
theorem cl_tupD (hc : X.calm = true) : CallR X (.type "tuple") cTupD := by
  intro pins s σ H vs us Q I r h
  obtain ⟨p, kvs, rfl, hk, q⟩ := h
  obtain ⟨u, rfl, ru⟩ := vals1 r
  obtain rfl : u = Value.ref p := ru
  obtain ⟨z, lo, ws, rk, hdic⟩ := (show ObjOk X.prog X.w H s.heap p (.dK kvs) from I.hok p _ hk)
  obtain ⟨ep, hat⟩ := hdic.dictAt
  have hl : kvs.length = ws.length := Paired.length rk
  refine callType_codes (Q₁ := fun ob s1 => s1.TypeIs ob "tuple" ∧ (EP X pins σ Q) ob s1) F.called_tuple (F.typeCall_tuple_1 _) F.entry_object_init
    (new_tup_of (A := X.A.in1) (PySem.W.kdl_dict (knd := mixKind X.prog X.w) (kvs := ws) (ep := ep) lo) (I.ok.hd hc) hat (by rw [← hl]; exact z) fun h' tk acc hkeep hacc => ⟨⟨_, Heap.get?_push_size _ rfl, rfl⟩, ?_⟩) fun ob s1 h1 => ?_
  · have I2 : Inv X pins σ H { s with heap := h', toks := tk } := I.kept hkeep
    have z1 : acc.toList.length = acc.size := by simp
    refine ⟨.ref h'.objs.size, upd H h'.objs.size (.tup (kvs.map fun kv => kV kv.1)), I2.laid (t' := tk) (fun b ob e => Heap.get?_push_of_some _ e) (Nat.le_refl _) (show ObjOk X.prog X.w _ _ _ (.tup (kvs.map fun kv => kV kv.1)) from ⟨by rw [List.length_map]; exact z, acc.toList, ?_, by rw [Array.toArray_toList]; exact IsTup.new _ _⟩), rfl, q _ (I2.hok.fresh (Nat.le_refl _))⟩
    refine vals_of_at (by rw [List.length_map, z1, hacc.1, hl]) fun j x w h1 h2 => ?_
    obtain ⟨ky, yy, hky, hi⟩ := hacc.2 j w (by rw [← Array.getElem?_toList]; exact h2)
    rw [List.getElem?_map] at h1
    cases e1 : kvs[j]? with
    | none => rw [e1] at h1; cases h1
    | some kv =>
      rw [e1] at h1
      cases h1
      obtain ⟨vv, e2, k1, _⟩ := Paired.getL rk e1
      rw [hky] at e2
      cases e2
      have k2 : kv.1 = ky := k1
      show L2.RelV (kV kv.1) w
      rw [k2]
      exact keyIs_rel hi
  · exact ⟨h1.1, F.args_object_init_2 ob _, object_init_meets F.called_tuple.init.lookup F.called_tuple.made (by decide) X.prog X.w X.A.in1 _ s1 ⟨h1.1, rfl, h1.2⟩⟩
end
/-! ### sorted, of tuples of ints of any lengths, the first one empty -/
/-- at v: a tuple of these ints -/
def TupAt (h : Heap) (v : Value) (ns : List Int) : Prop := ∃ a o xs n, v = .ref a ∧ h.get? a = some o ∧ o.cls = .type "tuple" ∧ o.data = .seq xs n ∧ IntsAre xs.toList ns
theorem TupAt.grow {h h' : Heap} {v : Value} {ns : List Int} (t : TupAt h v ns) (g : ∀ b o, h.get? b = some o → o.cls = .type "tuple" → h'.get? b = some o) : TupAt h' v ns := by
  obtain ⟨a, o, xs, n, e, ho, hc, hd, i⟩ := t
  exact ⟨a, o, xs, n, e, g _ _ ho hc, hc, hd, i⟩
section
variable {M : Model} {A : Around} {E : Value → Shared → Prop} {s : Shared}
theorem tup_looks {v : Value} {ns : List Int} (t : TupAt s.heap v ns) : PySem.W.Looks M s.heap (typeOf v) (.type "tuple") := by
  obtain ⟨a, o, xs, n, rfl, ho, hc, hd, i⟩ := t
  rw [← hc]
  exact (PySem.W.Looks.ld ho).andThen .now
theorem tups_firsts {k : Value → List Int} : ∀ (vs : List Value) {Q : List (Option Value) → Shared → Prop}, (∀ v ∈ vs, TupAt s.heap v (k v)) →
    (∀ fs : List (Option Value), fs.length = vs.length → (∀ v r, vs = v :: r → k v = [] → fs[0]? = some none) → Q fs s) → wpAny M A (vs.mapM firstOfTuple') Q E s
  | [], Q, _, h => by
    rw [List.mapM_nil]
    exact wpAny_pure (h [] rfl fun v r e => nomatch e)
  | v :: vs, Q, hv, h => by
    obtain ⟨a, o, xs, n, rfl, ho, hc, hd, i⟩ := hv v List.mem_cons_self
    rw [List.mapM_cons]
    refine wpAny_bind ?_
    rw [PySem.W.kas_first_eq]
    refine wpAny_bind (PySem.W.Looks.here (tup_looks ⟨a, o, xs, n, rfl, ho, hc, hd, i⟩) ?_)
    rw [if_neg (by decide)]
    refine wpAny_bind (listItems_at ho hd (wpAny_pure ?_))
    refine wpAny_bind (tups_firsts vs (Q := fun bs s' => wpAny M A (pure (xs[0]? :: bs)) Q E s') (fun u hu => hv u (List.mem_cons_of_mem _ hu)) fun fs hl _ => wpAny_pure (h _ (by simp [hl]) fun v' r e hk => ?_))
    injection e with e1 e2
    rw [← e1] at hk
    rw [hk] at i
    have : xs.toList.length = 0 := i.length
    have z : xs.size = 0 := by simpa using this
    have : xs[0]? = none := by simp [z]
    rw [this]
    rfl
theorem tups_kind {vs : List Value} {k : Value → List Int} {Q : SortKind → Shared → Prop} (hv : ∀ v ∈ vs, TupAt s.heap v (k v)) {v0 : Value} {r0 : List Value} (e0 : vs = v0 :: r0) (k0 : k v0 = []) (h : Q oneType' s) : wpAny M A (keyKind' vs.toArray) Q E s := by
  rw [keyKind'_eq, List.mapM_toArray, map_eq_pure_bind]
  refine wpAny_bind (wpAny_bind (tups_firsts vs hv fun fs hl hf => wpAny_pure ?_))
  have f0 : fs[0]? = some none := hf v0 r0 e0 k0
  have na : (fs.toArray.all fun x => x.isSome) = false := by
    rw [List.all_toArray, List.all_eq_false]
    exact ⟨none, List.mem_of_getElem? f0, by simp⟩
  rw [na, if_neg (by decide)]
  have nb : ((fs.toArray[0]?).bind id).isSome = false := by
    have : fs.toArray[0]? = some none := by simpa using f0
    rw [this]
    rfl
  rw [nb, if_neg (by decide), oneTypeOnly'_eq, List.mapM_toArray, map_eq_pure_bind]
  refine wpAny_bind (wpAny_bind (wpAny_bind (PySem.W.kas_mapM (r := Value.type "tuple") _ (fun v m Q' hq => (tup_looks (hv v m)).here hq) (wpAny_pure ?_))))
  subst e0
  have al : ((List.map (fun _ => Value.type "tuple") (v0 :: r0)).toArray.all fun x => x == Value.type "tuple") = true := by
    simp only [List.all_toArray, List.all_map, List.all_eq_true]
    intro _ _
    rfl
  have h0 : (List.map (fun _ => Value.type "tuple") (v0 :: r0)).toArray[0]? = some (Value.type "tuple") := by simp
  rw [h0]
  simp only [al, if_true]
  exact wpAny_pure (wpAny_pure h)
end
section
variable {prog : Program} {w : World} {A : Around} {E : Value → Shared → Prop} {s : Shared}
theorem tups_lt {v u : Value} {ns ms : List Int} {Q : Bool → Shared → Prop} (hu : A.units < cLine) (hv : TupAt s.heap v ns) (hw : TupAt s.heap u ms) (h : Q (HT.lexLt ns ms) s) : wpAny (model prog w) A (keyLt' oneType' v u) Q E s := by
  obtain ⟨a, ⟨c1, d1, q1, l1⟩, xs, n, rfl, ho, hc, hd, i⟩ := hv
  obtain ⟨b, ⟨c2, d2, q2, l2⟩, ys, m, rfl, ho2, hc2, hd2, j⟩ := hw
  have hc : c1 = .type "tuple" := hc
  have hc2 : c2 = .type "tuple" := hc2
  have hd : q1 = .seq xs n := hd
  have hd2 : q2 = .seq ys m := hd2
  subst hc hc2 hd hd2
  rw [keyLt'_oneType, oneLt'_eq]
  simp only [if_true]
  refine wpAny_bind (wpAny_cRoomFor hu ?_)
  have tT : s.TypeIs (.ref a) "tuple" := ⟨_, ho, rfl⟩
  refine wpAny_bind (wpAny_callSpecialIfBound?_slot (name := Str.ofString "__lt__") tT PySem.F.slot_tuple_lt (call_meets PySem.F.slot_tuple_lt tT PySem.F.entry_tuple_lt (PySem.F.args_tuple_lt_2 _ _) (HT.tuple_lt_ints a b xs ys n m d1 d2 l1 l2 ns ms i j) ⟨ho, ho2, ?_⟩))
  exact wpAny_truthy_bool h
theorem tups_sortable {a : Addr} {vs : List Value} {k : Value → List Int} (hu : A.units < cLine) (hv : ∀ v ∈ vs, TupAt s.heap v (k v)) {v0 : Value} {r0 : List Value} (e0 : vs = v0 :: r0) (k0 : k v0 = []) (ha : ∀ o, s.heap.get? a = some o → o.cls ≠ .type "tuple") :
    SrtO.SortableO prog w A s a vs fun v u => HT.lexLt (k v) (k u) := by
  intro h' keep
  have hv' : ∀ v ∈ vs, TupAt h' v (k v) := fun v m => (hv v m).grow fun b o q c => keep b o (fun z => ha o (z ▸ q) c) q
  refine ⟨oneType', fun Q E hq => tups_kind (s := { s with heap := h' }) hv' e0 k0 hq, ?_⟩
  intro p q hp hq
  exact tups_lt (s := { s with heap := h' }) (Q := fun r s' => s' = { s with heap := h' } ∧ r = HT.lexLt (k p.1) (k q.1)) (E := fun _ _ => False) hu (hv' p.1 hp) (hv' q.1 hq) ⟨rfl, rfl⟩
end
/-- sorted(xs), xs a list of tuples of ints (k says which), the first one empty -/
def rSortL (K : PySem.W.Frag) : List V → Hp → VK → Prop := fun vs H Q => ∃ (a : Addr) (ts : List Addr) (k : Addr → List Int), vs = [V.ref a] ∧ SqL K H a (ts.map V.ref) ∧ (∀ t ∈ ts, H t = some (.tup ((k t).map V.int))) ∧ (∃ t0 r0, ts = t0 :: r0 ∧ k t0 = []) ∧
  ∀ (ts' : List Addr) (p : Addr), ts'.Perm ts → ts'.Pairwise (fun p q => HT.lexLt (k q) (k p) = false) → H p = none → Q (.ref p) (upd H p (.lst (ts'.map V.ref)))
section
variable {X : Cx}
theorem cr_sortL (hu : X.A.units + 64 < cLine) : CallR X (.builtin "sorted") (rSortL X.K) := by
  intro pins s σ H vs us Q I r h
  obtain ⟨a, ts, k, rfl, hs, hx, ⟨t0, r0, e0, k0⟩, q⟩ := h
  obtain ⟨its, rv, hl, hz⟩ := I.list hs
  obtain ⟨u, rfl, ru⟩ := vals1 r
  obtain rfl : u = Value.ref a := ru
  have ei := L2.nts_of rv
  have hv : ∀ v ∈ its, TupAt s.heap v (k (L2.adO v)) := fun v m => by
    rw [ei] at m
    obtain ⟨t, ht, rfl⟩ := List.mem_map.mp m
    obtain ⟨_, its2, r2, o, ho, hc, n, hd⟩ := I.hok _ _ (hx t ht)
    exact ⟨t, o, its2.toArray, n, rfl, ho, hc, hd, intsAre_of r2⟩
  have eh : its = Value.ref t0 :: r0.map Value.ref := by rw [ei, e0]; rfl
  refine SrtO.sorted_ord (NtL.swo_lexL fun v => k (L2.adO v)) hl.isList (by rw [← rv.length]; exact hz) (fun h2 h1 b hb kk => ?_) fun out hs1 hb1 => ?_
  · refine tups_sortable (s := { s with heap := h1 }) (by show X.A.units + 2 < cLine; omega) (fun v m => (hv v m).grow fun c o e _ => (kk c o e).2) eh k0 fun o e => ?_
    have e' : some o = some (seqObj "list" its.toArray 0) := e.symm.trans hb
    cases e'
    intro c
    exact absurd (Value.type.inj c) (by decide)
  · have eo : out = (out.map L2.adO).map Value.ref := L2.ref_map fun v m => by
      have m' : v ∈ its := hb1.perm.mem_iff.mp m
      rw [ei] at m'
      obtain ⟨t, _, e⟩ := List.mem_map.mp m'
      exact ⟨t, e.symm⟩
    have hp : (out.map L2.adO).Perm ts := by
      have p1 := hb1.perm.map L2.adO
      rw [ei, L2.ad_map] at p1
      exact p1
    have hs2 : (out.map L2.adO).Pairwise (fun p q => HT.lexLt (k q) (k p) = false) := List.pairwise_map.mpr (hs1.imp fun {x y} z => z)
    have fit : ((out.map L2.adO).map V.ref).length ≤ sizeLine := by
      rw [List.length_map, hp.length_eq]
      rw [List.length_map] at hz
      exact hz
    have rvo : Vals ((out.map L2.adO).map V.ref) out := by
      have z := L2.of_nts (out.map L2.adO)
      rw [← eo] at z
      exact z
    obtain ⟨ep, at2⟩ := PyProof.Rows.sortedAll_at s.heap its out.toArray
    have dn : H (s.heap.objs.size + 1) = none := I.hok.fresh (Nat.le_succ _)
    exact ⟨.ref (s.heap.objs.size + 1), upd H _ (.lst ((out.map L2.adO).map V.ref)), I.laid (t' := s.toks) (fun b o e => sortedAll_old e) (Nat.le_succ _) ⟨fit, out, ep, rvo, at2⟩, rfl, q _ _ hp hs2 dn⟩
theorem w_sortT {K : PySem.W.Frag} (h : X.K = K) (hu : X.A.units + 64 < cLine) : CallR X (.builtin "sorted") (rSortL K) := by subst h; exact cr_sortL hu
end
section
variable {K : PySem.W.Frag} {X : Cx} {pos : Pos}
theorem w_pglst {es : List Expr} {k : Nat} {t : TGs} {n : Nat} (h : X.K = K) (hc : X.calm = true) (ht : PGs X es t) (hn : (assignEach es X.env).length = n) (hst : (assignEach es X.env).findIdx? (·.1) = none) : PG X (.Tuple es k pos) (gLst K n t) := by subst h; exact pg_lst hc ht hn hst
theorem w_revL {e : Expr} {te : TE} {k : Nat} {p1 p2 p3 : Pos} (h : X.K = K) (he : PE X e te) : PE X (.Subscript e (.Slice none none (some (.UnaryOp .USub (.Constant (.int 1) k p1) p2)) p3) pos) (tRevL K te) := by subst h; exact pe_revL he
end
end M

set_option Elab.async false
set_option linter.all false
set_option maxRecDepth 100000
set_option maxHeartbeats 2000000
/-! sorted(d, reverse=True) of a dict of texts; == of dicts of plain data; going through a list or a tuple. -/
namespace M
open PySem PySem.Spec PyProof.Rows L2
def svOf : Value → List Nat
  | .str x _ => x.cps.toList
  | _ => []
def ltSv (v u : Value) : Bool := decide (svOf v < svOf u)
theorem swo_sv : SrtO.Swo ltSv := ⟨fun x y h => by
    have := of_decide_eq_true h
    exact decide_eq_false fun z => List.lt_irrefl _ (List.lt_trans this z),
  fun x y z h1 h2 => by
    have a := of_decide_eq_false h1
    have b := of_decide_eq_false h2
    exact decide_eq_false (List.not_lt.mpr (List.le_trans (List.not_lt.mp a) (List.not_lt.mp b)))⟩
def toS : Value → Str
  | .str x _ => x
  | _ => Str.empty
theorem strs_mem : ∀ {vs : List Value} {ss : List Str}, StrsAre vs ss → ∀ v ∈ vs, ∃ x t, v = Value.str x t
  | _, _, .nil, v, h => absurd h (by simp)
  | _, _, .cons n t r, v, h => by
    rcases List.mem_cons.mp h with e | h
    · exact ⟨n, t, e⟩
    · exact strs_mem r v h
theorem strs_of : ∀ {vs : List Value}, (∀ v ∈ vs, ∃ x t, v = Value.str x t) → StrsAre vs (vs.map toS)
  | [], _ => .nil
  | v :: vs, h => by
    obtain ⟨i, t, e⟩ := h v List.mem_cons_self
    subst e
    exact .cons i t (strs_of fun u hu => h u (List.mem_cons_of_mem _ hu))
theorem toS_strs : ∀ {vs : List Value} {ss : List Str}, StrsAre vs ss → vs.map toS = ss
  | _, _, .nil => rfl
  | _, _, .cons n t r => congrArg (n :: ·) (toS_strs r)
theorem strs_sortable {prog : Program} {w : World} {A : Around} {s : Shared} {a : Addr} {vs : List Value} {ss : List Str} (hI : StrsAre vs ss) (h2 : 2 ≤ vs.length) : SrtO.SortableO prog w A s a vs ltSv := by
  intro h' _
  refine ⟨oneType', fun Q E hq => ?_, fun p q hm hm' => ?_⟩
  · match vs, hI, h2 with
    | v1 :: v2 :: rest, hI, _ =>
      rw [keyKind_strs hI]
      exact wpAny_pure hq
    | [], _, h => exact absurd h (by decide)
    | [v], _, h => exact absurd h (by simp)
  · obtain ⟨a, t, e⟩ := strs_mem hI _ hm
    obtain ⟨b, u, e'⟩ := strs_mem hI _ hm'
    show wpAny (model prog w) A (keyLt' oneType' p.1 q.1) (fun r s' => s' = { s with heap := h' } ∧ r = ltSv p.1 q.1) (fun _ _ => False) { s with heap := h' }
    rw [e, e', keyLt'_oneType]
    exact oneLt_str ⟨rfl, rfl⟩
/-- sorted(d, reverse=True): the keys in some order -/
def rSortDR : List V → List V → Hp → VK → Prop := fun xs zs H Q => ∃ (a : Addr) (kvs : List (Key × V)) (ks : List Str), xs = [.ref a] ∧ zs = [.bl true] ∧ Rd H a (.dK kvs) ∧ kvs.map (·.1) = ks.map Sum.inr ∧
  ∀ (ys : List Str) (p : Addr), ys.Perm ks → H p = none → Q (.ref p) (upd H p (.lst (ys.map V.str)))
section
variable {X : Cx}
theorem cl_sortDR (calmly : X.calm = true) : CallRK X (.builtin "sorted") [Str.ofString "reverse"] rSortDR := by
  intro pi s0 st Hp0 args zs us ws Qk In rel rz hh
  obtain ⟨ad, kv0, ks, exs, ezs, rd0, names, kk⟩ := hh
  subst exs
  subst ezs
  obtain ⟨u0, eu0, r0⟩ := vals1 rel
  subst eu0
  cases r0
  obtain ⟨w1, rfl, e1⟩ := vals1 rz
  obtain rfl : w1 = Value.bool true := e1
  obtain ⟨zd, od0, vv, prs, dof⟩ := dk_rd In.hok rd0
  obtain ⟨epo, dAt⟩ := dof.dictAt
  have nm : vv.map (·.1) = ks.map Sum.inr := by rw [← names, prs.keys]
  have nl : vv.length = ks.length := by simpa using congrArg List.length nm
  have fit0 : vv.length ≤ sizeLine := by rw [← prs.length]; exact zd
  refine call_function_entry_kw kind_sorted plain_sorted entry_sorted (args_sorted_rev _ _) ?_
  unfold Builtin.«sorted»
  refine wpAny_bind (m := checkCount "sorted" 1 1 _) (wpAny_pure ?_)
  refine wpAny_bind (PySem.W.kdu_collect (A := X.A.in1) (PySem.W.kdl_dict (knd := mixKind X.prog X.w) (kvs := vv) (ep := epo) od0) (In.ok.hd calmly) dAt fit0 fun hp1 tk1 got keep1 ⟨gsz, gat⟩ => ?_)
  have al : got.toList.length = ks.length := by rw [Array.length_toList, gsz, nl]
  have txt : StrsAre got.toList ks := strs_at al fun n v ev => by
    obtain ⟨kq, xq, f1, f2⟩ := gat n v (by rw [← Array.getElem?_toList]; exact ev)
    have f3 : (ks.map Sum.inr : List Key)[n]? = some kq := by rw [← nm, List.getElem?_map, f1]; rfl
    rw [List.getElem?_map] at f3
    match q4 : ks[n]? with
    | none =>
      rw [q4] at f3
      cases f3
    | some y =>
      rw [q4] at f3
      have f5 : Sum.inr y = kq := Option.some.inj f3
      subst f5
      obtain ⟨tt, f6⟩ := Value.isStrOf_shape (x := y) (v := v) f2
      exact ⟨y, tt, rfl, f6⟩
  have sml : got.toList.length ≤ sizeLine := by rw [al, ← nl]; exact fit0
  have In1 : Inv X pi st Hp0 { s0 with heap := hp1, toks := tk1 } := In.kept keep1
  refine wpAny_bind (wpAny_newList ?_ (by simpa using sml))
  have at0 : (hp1.push (seqObj "list" got.toList.toArray 0)).get? hp1.objs.size = some (seqObj "list" got.toList.toArray 0) := by exact Heap.get?_push_size _ rfl
  show wpAny _ _ _ _ _ { s0 with heap := hp1.push (seqObj "list" got.toList.toArray 0), toks := tk1 }
  refine wpAny_bind (wpAny_holding (wpAny_call_entry_kw slot_list_sort ⟨_, at0, rfl⟩ entry_list_sort ?_ (args_list_sort_rev _ _)))
  refine SrtR.list_sort_ordR (b := true) (s := { s0 with heap := hp1.push (seqObj "list" got.toList.toArray 0), toks := tk1 }) swo_sv at0 sml (fun h2 => strs_sortable txt h2) fun out hs hb => ⟨_, rfl, ?_⟩
  have pm : out.reverse.Perm got.toList := (List.reverse_perm _).trans (hb.perm.trans (List.reverse_perm _))
  have g1 : StrsAre out.reverse (out.reverse.map toS) := strs_of fun v hv => strs_mem txt v (pm.mem_iff.mp hv)
  have g2 : (out.reverse.map toS).Perm ks := by
    have := pm.map toS
    rw [toS_strs txt] at this
    exact this
  have ea : (if true = true then out.toArray.reverse else out.toArray) = out.reverse.toArray := by
    rw [if_pos rfl]
    simp
  rw [ea]
  obtain ⟨ep2, at2⟩ := PyProof.Rows.sortedHeap_at (vs := got.toList) (out := out.reverse.toArray) at0
  have fit : ((out.reverse.map toS).map V.str).length ≤ sizeLine := by rw [List.length_map, g2.length_eq, ← al]; exact sml
  refine wpAny_pure ⟨_, rfl, .ref hp1.objs.size, upd Hp0 hp1.objs.size (.lst ((out.reverse.map toS).map V.str)), ?_, rfl, kk _ _ g2 (In1.hok.fresh (Nat.le_refl _))⟩
  refine In1.laid (t' := tk1) (fun b u e => ?_) (Nat.le_refl _) (show ObjOk X.prog X.w _ _ _ (.lst ((out.reverse.map toS).map V.str)) from ⟨fit, out.reverse, ep2, vals_of_strs g1, ?_⟩)
  · have lt : b < hp1.objs.size := Heap.lt_size e
    rw [PyProof.Rows.sortedHeap_old (Nat.ne_of_lt lt) (Nat.lt_of_lt_of_eq (Nat.lt_succ_of_lt lt) (size_push' _ _).symm)]
    exact Heap.get?_push_of_some _ e
  · exact at2
end
/-! ### a list or a tuple, whichever a name holds -/
def iAny (K : PySem.W.Frag) (i : Nat) : TI := fun σ H R => iList K (tVar i) σ H R ∨ iTup K (tVar i) σ H R
theorem w_piany {K : PySem.W.Frag} {X : Cx} {i : Nat} {tg l : Expr} (h : X.K = K) (hl : PE X l (tVar i)) : PI X tg l (iAny K i) := by
  subst h
  refine ⟨fun pins s σ H R I q => ?_⟩
  rcases q with q | q
  · exact (pi_list hl).run pins s σ H R I q
  · exact (pi_tup hl).run pins s σ H R I q
theorem x_iAnyL {K : PySem.W.Frag} {i : Nat} {σ : L2.St} {H : Hp} {R : It → Hp → Prop} (k : iList K (tVar i) σ H R) : iAny K i σ H R := .inl k
theorem x_iAnyT {K : PySem.W.Frag} {i : Nat} {σ : L2.St} {H : Hp} {R : It → Hp → Prop} (k : iTup K (tVar i) σ H R) : iAny K i σ H R := .inr k
/-! ### dicts of plain data that are equal -/
structure DKeq (K : PySem.W.Frag) (H : Hp) (a b : Addr) (ks ls : List (Key × V)) : Prop where
  l : H a = some (.dK ks)
  r : H b = some (.dK ls)
  len : ks.length = ls.length
  all : ∀ p ∈ ks, ∃ u d e, valV ls p.1 = some u ∧ Dp K H p.2 d ∧ Dp K H u e ∧ d.canLay0 = true ∧ e.canLay0 = true ∧ d.depth ≤ 50 ∧ PyData.eqv d e = true
def rDEq (K : PySem.W.Frag) (neg : Bool) : R2 := fun x y H Q => (x = .non ∧ y = .non ∧ Q (.bl (!neg)) H) ∨ (∃ a b ks ls, x = .ref a ∧ y = .ref b ∧ DKeq K H a b ks ls ∧ Q (.bl (!neg)) H)
section
variable {X : Cx}
theorem dk_hits {pins : List (Addr × Obj)} {σ : L2.St} {H : Hp} {s : Shared} (I : Inv X pins σ H s) (hu : X.A.units + 64 < cLine) {ls : List (Key × V)} {vb : List (Key × Value)} (rb : KV ls vb) {ks : List (Key × V)} {va : List (Key × Value)} (ra : KV ks va)
    (h : ∀ p ∈ ks, ∃ u d e, valV ls p.1 = some u ∧ Dp X.K H p.2 d ∧ Dp X.K H u e ∧ d.canLay0 = true ∧ e.canLay0 = true ∧ d.depth ≤ 50 ∧ PyData.eqv d e = true) : PySem.W.KeqHits X.A.in1 s vb va true := by
  unfold KV at ra
  induction ra with
  | nil => exact .nil
  | @cons p q ps qs h0 t k =>
    obtain ⟨h1, h2⟩ := h0
    obtain ⟨u, d, e, ev, hd, he, cd, ce, dd, eqv⟩ := h p List.mem_cons_self
    have rr : RelO (some u) (valueAt vb p.1) := by rw [← ev]; exact rb.val p.1
    obtain ⟨y, hy, ry⟩ := rr.some_of
    obtain ⟨key, v⟩ := q
    have h1' : p.1 = key := h1
    rw [h1'] at hy
    obtain ⟨as, r1⟩ := Dp.reads I d p.2 v hd h2
    obtain ⟨bs, r2⟩ := Dp.reads I e u y he ry
    show PySem.W.KeqHits X.A.in1 s vb ((key, v) :: qs) (true && true)
    refine .hit hy ?_ (k fun p' hm => h p' (List.mem_cons_of_mem _ hm))
    have := SeqAt.eqAt_reads d e X.A.in1 s v y as bs r1 r2 cd ce (by show X.A.units + 1 + min d.depth e.depth < cLine; omega)
    rw [eqv] at this
    exact this
theorem op_dEq (hu : X.A.units + 64 < cLine) : OpR X (compareOp .Eq) (rDEq X.K false) := by
  intro pins s σ H x y v u Q I rx ry h
  rcases h with ⟨rfl, rfl, q⟩ | ⟨a, b, ks, ls, rfl, rfl, D, q⟩
  · exact op_eqD hu pins s σ H .non .non v u Q I rx ry ⟨.none, .none, .non, .non, by rfl, by rfl, q⟩
  · cases (show v = Value.ref a from rx)
    cases (show u = Value.ref b from ry)
    obtain ⟨_, ya, va, ra, da⟩ := (show ObjOk X.prog X.w H s.heap a (.dK ks) from I.hok a _ D.l)
    obtain ⟨_, yb, vb, rb, db⟩ := (show ObjOk X.prog X.w H s.heap b (.dK ls) from I.hok b _ D.r)
    have e : va.length = vb.length := by rw [← ra.length, ← rb.length]; exact D.len
    refine PySem.W.keq_eq (knd := mixKind X.prog X.w) (r := true) ya yb da db (by omega) (fun _ => dk_hits I hu rb ra D.all) ?_
    rw [show (va.length == vb.length && true) = true from by rw [e]; simp]
    exact ⟨.bl true, H, I, rfl, q⟩
theorem op_dNe (hu : X.A.units + 64 < cLine) : OpR X (compareOp .NotEq) (rDEq X.K true) := by
  intro pins s σ H x y v u Q I rx ry h
  rcases h with ⟨rfl, rfl, q⟩ | ⟨a, b, ks, ls, rfl, rfl, D, q⟩
  · exact op_neD hu pins s σ H .non .non v u Q I rx ry ⟨.none, .none, .non, .non, by rfl, by rfl, q⟩
  · cases (show v = Value.ref a from rx)
    cases (show u = Value.ref b from ry)
    obtain ⟨_, ya, va, ra, da⟩ := (show ObjOk X.prog X.w H s.heap a (.dK ks) from I.hok a _ D.l)
    obtain ⟨_, yb, vb, rb, db⟩ := (show ObjOk X.prog X.w H s.heap b (.dK ls) from I.hok b _ D.r)
    have e : va.length = vb.length := by rw [← ra.length, ← rb.length]; exact D.len
    refine PySem.W.keq_ne (knd := mixKind X.prog X.w) (r := true) ya yb da db (by omega) (fun _ => dk_hits I hu rb ra D.all) ?_
    rw [show (va.length == vb.length && true) = true from by rw [e]; simp]
    exact ⟨.bl false, H, I, rfl, q⟩
theorem w_dEq {K : PySem.W.Frag} (h : X.K = K) (hu : X.A.units + 64 < cLine) : OpR X (compareOp .Eq) (rDEq K false) := by subst h; exact op_dEq hu
theorem w_dNe {K : PySem.W.Frag} (h : X.K = K) (hu : X.A.units + 64 < cLine) : OpR X (compareOp .NotEq) (rDEq K true) := by subst h; exact op_dNe hu
theorem w_dclear {K : PySem.W.Frag} {o : Expr} {to : TE} {apos cpos : Pos} (h : X.K = K) (ho : PE X o to) (hbase : attributeBase o "clear" X.env (eval o X.env) = eval o X.env := by rfl) (hline : (apos.endLine == cpos.line) = true := by rfl) :
    PE X (.Call (.Attribute o "clear" apos) [] [] cpos) (tBM0 K "dict" rDClear to) := by subst h; exact pe_dclear ho hbase hline
end
end M

open PySem PySem.Spec PyProof.Rows L2 M
/-! one step of a reading that asks nothing -/
local macro_rules | `(tactic| walk_at "rd1") => `(tactic| first
  | with_reducible (refine x_seq ?_)
  | with_reducible (refine x_c ?_)
  | ((with_reducible refine' x_var ?h ?k); (case h => exact rfl))
  | with_reducible (refine x_op ?_)
  | with_reducible (refine x_I0 ?_)
  | with_reducible (refine x_asg ?_)
  | ((with_reducible refine' x_name ?h ?k); (case h => (first | (simp only [List.set_cons_zero, List.set_cons_succ]; rfl) | simp only [List.set_cons_zero, List.set_cons_succ] | rfl)))
  | with_reducible (refine x_ifS ?_)
  | with_reducible (refine x_test ?_)
  | with_reducible (refine x_bl ?_)
  | with_reducible (refine x_B ?_)
  | ((with_reducible refine x_eq ?h ?k); (case h => exact rfl))
  | ((with_reducible refine x_ne ?h ?k); (case h => exact rfl))
  | with_reducible (refine x_and ?_)
  | with_reducible (refine x_or ?_)
  | with_reducible (refine x_not ?_)
  | with_reducible (refine x_andV ?_)
  | with_reducible (refine x_orV ?_)
  | with_reducible (refine x_notV ?_)
  | with_reducible (refine x_if ?_)
  | with_reducible (refine x_chain ?_)
  | with_reducible (refine x_CB ?_)
  | with_reducible (refine x_cons ?_)
  | with_reducible (refine x_nil ?_)
  | with_reducible (refine x_tup ?_)
  | with_reducible (refine x_lst ?_)
  | with_reducible (refine x_call ?_)
  | with_reducible (refine x_ret ?_)
  | with_reducible (refine x_retN ?_)
  | with_reducible (refine x_drop ?_)
  | with_reducible (refine x_next ?_)
  | with_reducible (refine x_break ?_)
  | with_reducible (refine x_cont ?_)
  | with_reducible (refine x_sub ?_)
  | with_reducible (refine x_gnil ?_)
  | with_reducible (refine x_gcons ?_)
  | with_reducible (refine x_par ?_)
  | with_reducible (refine x_un ?_)
  | with_reducible (refine x_U ?_)
  | ((with_reducible refine' x_aug ?h ?k); (case h => exact rfl))
  | with_reducible (refine x_ipI ?_)
  | with_reducible (refine x_dput ?_)
  | with_reducible (refine x_dget ?_)
  | with_reducible (refine x_din ?_)
  | with_reducible (refine x_dnotin ?_)
  | with_reducible (refine x_bm ?_)
  | with_reducible (refine x_bm0 ?_)
  | with_reducible (refine x_sl ?_)
  | with_reducible (refine x_nopart ?_)
  | with_reducible (refine x_part ?_)
  | with_reducible (refine x_int ?_)
  | with_reducible (refine x_leS ?_)
  | with_reducible (refine x_isNo ?_)
  | with_reducible (refine x_notNo ?_)
  | with_reducible (refine x_min2 ?_)
  | with_reducible (refine x_max2 ?_)
  | with_reducible (refine x_abs ?_)
  | with_reducible (refine x_cint ?_)
  | with_reducible (refine x_cintB ?_)
  | with_reducible (refine x_par2 ?_)
  | with_reducible (refine x_for ?_)
  | with_reducible (refine x_iStr ?_)
  | with_reducible (refine x_str ?_)
  | with_reducible (refine x_iRng1 ?_)
  | with_reducible (refine x_iRng2 ?_)
  | with_reducible (refine x_iList ?_)
  | with_reducible (refine x_iTup ?_)
  | with_reducible (refine x_iKeys ?_)
  | with_reducible (refine x_iVals ?_)
  | with_reducible (refine x_iItems ?_)
  | (refine x_gtup (Or.inl (Or.inl upd_same)) rfl ?_)
  | with_reducible (refine x_lc ?_)
  | with_reducible (refine x_yes ?_)
  | with_reducible (refine x_sfld ?_)
  | with_reducible (refine x_fld ?_)
  | with_reducible (refine x_nt ?_)
  | with_reducible (refine x_nf ?_)
  | with_reducible (refine iteT ?_)
  | with_reducible (refine iteF ?_))
local macro_rules | `(tactic| walk_at "rd") => `(tactic| repeat (walk_at "rd1"))
local macro_rules | `(tactic| walk_at "if!") => `(tactic| first
  | refine x_true (by decide +kernel) ?_
  | refine x_false (by decide +kernel) ?_
  | refine x_true (by rfl) ?_
  | refine x_false (by rfl) ?_)

namespace M
open PySem PySem.Spec PyProof.Rows L2
def topS (i : Nat) : Stmt := PySem.Challenge.pw_ownshares_k71_whole_freest_book_lets_all.main.body.getD i (.Pass ⟨0, 0, 0, 0⟩)
abbrev s_is_integer : Stmt := topS 1
abbrev N_is_integer : List Str := ["thing"]
abbrev P_is_integer : List Str := ["thing"]
theorem sc_is_integer : FnScope N_is_integer P_is_integer (defScope s_is_integer) := ⟨rfl, rfl, rfl, by decide +kernel, rfl, by decide +kernel, by decide +kernel⟩
abbrev s_is_name : Stmt := topS 2
abbrev N_is_name : List Str := ["thing", "char"]
abbrev P_is_name : List Str := ["thing"]
theorem sc_is_name : FnScope N_is_name P_is_name (defScope s_is_name) := ⟨rfl, rfl, rfl, by decide +kernel, rfl, by decide +kernel, by decide +kernel⟩
abbrev s_is_pair : Stmt := topS 3
abbrev N_is_pair : List Str := ["thing"]
abbrev P_is_pair : List Str := ["thing"]
theorem sc_is_pair : FnScope N_is_pair P_is_pair (defScope s_is_pair) := ⟨rfl, rfl, rfl, by decide +kernel, rfl, by decide +kernel, by decide +kernel⟩
abbrev s_is_moves : Stmt := topS 42
abbrev N_is_moves : List Str := ["thing", "names", "move", "to"]
abbrev P_is_moves : List Str := ["thing", "names"]
theorem sc_is_moves : FnScope N_is_moves P_is_moves (defScope s_is_moves) := ⟨rfl, rfl, rfl, by decide +kernel, rfl, by decide +kernel, by decide +kernel⟩
abbrev s_is_draws : Stmt := topS 43
abbrev N_is_draws : List Str := ["thing", "names", "draw", "pair"]
abbrev P_is_draws : List Str := ["thing", "names"]
theorem sc_is_draws : FnScope N_is_draws P_is_draws (defScope s_is_draws) := ⟨rfl, rfl, rfl, by decide +kernel, rfl, by decide +kernel, by decide +kernel⟩
abbrev s_is_stand : Stmt := topS 44
abbrev N_is_stand : List Str := ["thing", "hands", "names"]
abbrev P_is_stand : List Str := ["thing", "hands", "names"]
theorem sc_is_stand : FnScope N_is_stand P_is_stand (defScope s_is_stand) := ⟨rfl, rfl, rfl, by decide +kernel, rfl, by decide +kernel, by decide +kernel⟩
abbrev s_are_stands : Stmt := topS 45
abbrev N_are_stands : List Str := ["thing", "hands", "name", "stand"]
abbrev P_are_stands : List Str := ["thing", "hands"]
theorem sc_are_stands : FnScope N_are_stands P_are_stands (defScope s_are_stands) := ⟨rfl, rfl, rfl, by decide +kernel, rfl, by decide +kernel, by decide +kernel⟩
abbrev s_copied : Stmt := topS 46
abbrev N_copied : List Str := ["stand", "steps", "ordered", "step"]
abbrev P_copied : List Str := ["stand"]
theorem sc_copied : FnScope N_copied P_copied (defScope s_copied) := ⟨rfl, rfl, rfl, by decide +kernel, rfl, by decide +kernel, by decide +kernel⟩
abbrev s_leads : Stmt := topS 47
abbrev N_leads : List Str := ["work", "stand", "row", "step"]
abbrev P_leads : List Str := ["work", "stand"]
theorem sc_leads : FnScope N_leads P_leads (defScope s_leads) := ⟨rfl, rfl, rfl, by decide +kernel, rfl, by decide +kernel, by decide +kernel⟩
abbrev s_is_ringless : Stmt := topS 48
abbrev N_is_ringless : List Str := ["work", "left", "settled", "going", "rest", "name", "to"]
abbrev P_is_ringless : List Str := ["work"]
theorem sc_is_ringless : FnScope N_is_ringless P_is_ringless (defScope s_is_ringless) := ⟨rfl, rfl, rfl, by decide +kernel, rfl, by decide +kernel, by decide +kernel⟩
abbrev s_Work_init : Stmt := inClass (topS 49) 0
abbrev N_Work_init : List Str := ["self", "hands", "start", "stands", "name"]
abbrev P_Work_init : List Str := ["self", "hands", "start", "stands"]
theorem sc_Work_init : FnScope N_Work_init P_Work_init (defScope s_Work_init) := ⟨rfl, rfl, rfl, by decide +kernel, rfl, by decide +kernel, by decide +kernel⟩
abbrev s_Work_row : Stmt := inClass (topS 49) 3
abbrev N_Work_row : List Str := ["self", "stand"]
abbrev P_Work_row : List Str := ["self", "stand"]
theorem sc_Work_row : FnScope N_Work_row P_Work_row (defScope s_Work_row) := ⟨rfl, rfl, rfl, by decide +kernel, rfl, by decide +kernel, by decide +kernel⟩
abbrev s_Work_kind : Stmt := inClass (topS 49) 4
abbrev N_Work_kind : List Str := ["self", "stand"]
abbrev P_Work_kind : List Str := ["self", "stand"]
theorem sc_Work_kind : FnScope N_Work_kind P_Work_kind (defScope s_Work_kind) := ⟨rfl, rfl, rfl, by decide +kernel, rfl, by decide +kernel, by decide +kernel⟩
abbrev s_Work_mover : Stmt := inClass (topS 49) 5
abbrev N_Work_mover : List Str := ["self", "stand", "row"]
abbrev P_Work_mover : List Str := ["self", "stand"]
theorem sc_Work_mover : FnScope N_Work_mover P_Work_mover (defScope s_Work_mover) := ⟨rfl, rfl, rfl, by decide +kernel, rfl, by decide +kernel, by decide +kernel⟩
abbrev s_Work_steps : Stmt := inClass (topS 49) 6
abbrev N_Work_steps : List Str := ["self", "stand", "row"]
abbrev P_Work_steps : List Str := ["self", "stand"]
theorem sc_Work_steps : FnScope N_Work_steps P_Work_steps (defScope s_Work_steps) := ⟨rfl, rfl, rfl, by decide +kernel, rfl, by decide +kernel, by decide +kernel⟩
abbrev s_Work_to : Stmt := inClass (topS 49) 7
abbrev N_Work_to : List Str := ["self", "stand", "step", "row"]
abbrev P_Work_to : List Str := ["self", "stand", "step"]
theorem sc_Work_to : FnScope N_Work_to P_Work_to (defScope s_Work_to) := ⟨rfl, rfl, rfl, by decide +kernel, rfl, by decide +kernel, by decide +kernel⟩
abbrev s_law_open : Stmt := topS 51
abbrev N_law_open : List Str := ["script", "k", "cell"]
abbrev P_law_open : List Str := ["script", "k"]
theorem sc_law_open : FnScope N_law_open P_law_open (defScope s_law_open) := ⟨rfl, rfl, rfl, by decide +kernel, rfl, by decide +kernel, by decide +kernel⟩
abbrev s_law_draw : Stmt := topS 52
abbrev N_law_draw : List Str := ["drawer", "many", "number"]
abbrev P_law_draw : List Str := ["drawer", "many"]
theorem sc_law_draw : FnScope N_law_draw P_law_draw (defScope s_law_draw) := ⟨rfl, rfl, rfl, by decide +kernel, rfl, by decide +kernel, by decide +kernel⟩
abbrev s_law_names : Stmt := topS 53
abbrev N_law_names : List Str := ["drawer", "many", "names", "k", "letter"]
abbrev P_law_names : List Str := ["drawer", "many"]
theorem sc_law_names : FnScope N_law_names P_law_names (defScope s_law_names) := ⟨rfl, rfl, rfl, by decide +kernel, rfl, by decide +kernel, by decide +kernel⟩
abbrev s_law_target : Stmt := topS 54
abbrev N_law_target : List Str := ["drawer", "names", "k", "rings"]
abbrev P_law_target : List Str := ["drawer", "names", "k", "rings"]
theorem sc_law_target : FnScope N_law_target P_law_target (defScope s_law_target) := ⟨rfl, rfl, rfl, by decide +kernel, rfl, by decide +kernel, by decide +kernel⟩
abbrev s_law_menu : Stmt := topS 55
abbrev N_law_menu : List Str := ["drawer", "letter", "menus"]
abbrev P_law_menu : List Str := ["drawer"]
theorem sc_law_menu : FnScope N_law_menu P_law_menu (defScope s_law_menu) := ⟨rfl, rfl, rfl, by decide +kernel, rfl, by decide +kernel, by decide +kernel⟩
abbrev s_law_stand : Stmt := topS 56
abbrev N_law_stand : List Str := ["drawer", "names", "k", "hands", "menu", "rings", "sort", "count", "shift", "steps", "hand", "j", "weight"]
abbrev P_law_stand : List Str := ["drawer", "names", "k", "hands", "menu", "rings"]
theorem sc_law_stand : FnScope N_law_stand P_law_stand (defScope s_law_stand) := ⟨rfl, rfl, rfl, by decide +kernel, rfl, by decide +kernel, by decide +kernel⟩
abbrev s_law_stands : Stmt := topS 57
abbrev N_law_stands : List Str := ["drawer", "names", "hands", "rings", "menu", "stands", "k"]
abbrev P_law_stands : List Str := ["drawer", "names", "hands", "rings"]
theorem sc_law_stands : FnScope N_law_stands P_law_stands (defScope s_law_stands) := ⟨rfl, rfl, rfl, by decide +kernel, rfl, by decide +kernel, by decide +kernel⟩
abbrev s_law_build : Stmt := topS 58
abbrev N_law_build : List Str := ["script", "drawer", "hands", "many", "rings", "names"]
abbrev P_law_build : List Str := ["script"]
theorem sc_law_build : FnScope N_law_build P_law_build (defScope s_law_build) := ⟨rfl, rfl, rfl, by decide +kernel, rfl, by decide +kernel, by decide +kernel⟩
abbrev s_law_steps : Stmt := topS 59
abbrev N_law_steps : List Str := ["stands", "stand", "row"]
abbrev P_law_steps : List Str := ["stands", "stand"]
theorem sc_law_steps : FnScope N_law_steps P_law_steps (defScope s_law_steps) := ⟨rfl, rfl, rfl, by decide +kernel, rfl, by decide +kernel, by decide +kernel⟩
abbrev s_law_to : Stmt := topS 60
abbrev N_law_to : List Str := ["stands", "stand", "step", "row"]
abbrev P_law_to : List Str := ["stands", "stand", "step"]
theorem sc_law_to : FnScope N_law_to P_law_to (defScope s_law_to) := ⟨rfl, rfl, rfl, by decide +kernel, rfl, by decide +kernel, by decide +kernel⟩
abbrev s_law_mover : Stmt := topS 61
abbrev N_law_mover : List Str := ["stands", "stand"]
abbrev P_law_mover : List Str := ["stands", "stand"]
theorem sc_law_mover : FnScope N_law_mover P_law_mover (defScope s_law_mover) := ⟨rfl, rfl, rfl, by decide +kernel, rfl, by decide +kernel, by decide +kernel⟩
abbrev s_law_worths : Stmt := topS 62
abbrev N_law_worths : List Str := ["drawer", "stands", "size", "worths", "stand"]
abbrev P_law_worths : List Str := ["drawer", "stands"]
theorem sc_law_worths : FnScope N_law_worths P_law_worths (defScope s_law_worths) := ⟨rfl, rfl, rfl, by decide +kernel, rfl, by decide +kernel, by decide +kernel⟩
abbrev s_law_endless : Stmt := topS 63
abbrev N_law_endless : List Str := ["drawer", "worths", "values", "stand", "gap"]
abbrev P_law_endless : List Str := ["drawer", "worths"]
theorem sc_law_endless : FnScope N_law_endless P_law_endless (defScope s_law_endless) := ⟨rfl, rfl, rfl, by decide +kernel, rfl, by decide +kernel, by decide +kernel⟩
abbrev s_law_level : Stmt := topS 65
abbrev N_law_level : List Str := ["drawer", "worths", "endless", "values", "stand", "value", "way"]
abbrev P_law_level : List Str := ["drawer", "worths", "endless"]
theorem sc_law_level : FnScope N_law_level P_law_level (defScope s_law_level) := ⟨rfl, rfl, rfl, by decide +kernel, rfl, by decide +kernel, by decide +kernel⟩
abbrev s_common_divisor : Stmt := topS 4
abbrev N_common_divisor : List Str := ["one", "other"]
abbrev P_common_divisor : List Str := ["one", "other"]
theorem sc_common_divisor : FnScope N_common_divisor P_common_divisor (defScope s_common_divisor) := ⟨rfl, rfl, rfl, by decide +kernel, rfl, by decide +kernel, by decide +kernel⟩
abbrev s_is_fraction : Stmt := topS 5
abbrev N_is_fraction : List Str := ["thing"]
abbrev P_is_fraction : List Str := ["thing"]
theorem sc_is_fraction : FnScope N_is_fraction P_is_fraction (defScope s_is_fraction) := ⟨rfl, rfl, rfl, by decide +kernel, rfl, by decide +kernel, by decide +kernel⟩
abbrev s_is_lot : Stmt := topS 17
abbrev N_is_lot : List Str := ["work", "thing", "before", "hand"]
abbrev P_is_lot : List Str := ["work", "thing"]
theorem sc_is_lot : FnScope N_is_lot P_is_lot (defScope s_is_lot) := ⟨rfl, rfl, rfl, by decide +kernel, rfl, by decide +kernel, by decide +kernel⟩
abbrev s_checked_lot : Stmt := topS 18
abbrev N_checked_lot : List Str := ["work", "lot"]
abbrev P_checked_lot : List Str := ["work", "lot"]
theorem sc_checked_lot : FnScope N_checked_lot P_checked_lot (defScope s_checked_lot) := ⟨rfl, rfl, rfl, by decide +kernel, rfl, by decide +kernel, by decide +kernel⟩
abbrev s_is_value : Stmt := topS 20
abbrev N_is_value : List Str := ["thing"]
abbrev P_is_value : List Str := ["thing"]
theorem sc_is_value : FnScope N_is_value P_is_value (defScope s_is_value) := ⟨rfl, rfl, rfl, by decide +kernel, rfl, by decide +kernel, by decide +kernel⟩
abbrev s_are_worths : Stmt := topS 21
abbrev N_are_worths : List Str := ["thing", "name", "value"]
abbrev P_are_worths : List Str := ["thing"]
theorem sc_are_worths : FnScope N_are_worths P_are_worths (defScope s_are_worths) := ⟨rfl, rfl, rfl, by decide +kernel, rfl, by decide +kernel, by decide +kernel⟩
abbrev s_Wish_init : Stmt := inClass (topS 22) 0
abbrev N_Wish_init : List Str := ["self", "worths", "endless", "below", "value", "above", "name"]
abbrev P_Wish_init : List Str := ["self", "worths", "endless"]
theorem sc_Wish_init : FnScope N_Wish_init P_Wish_init (defScope s_Wish_init) := ⟨rfl, rfl, rfl, by decide +kernel, rfl, by decide +kernel, by decide +kernel⟩
abbrev s_Wish_worths : Stmt := inClass (topS 22) 1
abbrev N_Wish_worths : List Str := ["self", "name"]
abbrev P_Wish_worths : List Str := ["self"]
theorem sc_Wish_worths : FnScope N_Wish_worths P_Wish_worths (defScope s_Wish_worths) := ⟨rfl, rfl, rfl, by decide +kernel, rfl, by decide +kernel, by decide +kernel⟩
abbrev s_suited : Stmt := topS 23
abbrev N_suited : List Str := ["work", "wish"]
abbrev P_suited : List Str := ["work", "wish"]
theorem sc_suited : FnScope N_suited P_suited (defScope s_suited) := ⟨rfl, rfl, rfl, by decide +kernel, rfl, by decide +kernel, by decide +kernel⟩
abbrev s_suited_lot : Stmt := topS 24
abbrev N_suited_lot : List Str := ["work", "wish", "lot"]
abbrev P_suited_lot : List Str := ["work", "wish", "lot"]
theorem sc_suited_lot : FnScope N_suited_lot P_suited_lot (defScope s_suited_lot) := ⟨rfl, rfl, rfl, by decide +kernel, rfl, by decide +kernel, by decide +kernel⟩
abbrev s_is_entry : Stmt := topS 26
abbrev N_is_entry : List Str := ["steps", "row", "at", "move"]
abbrev P_is_entry : List Str := ["steps", "row"]
theorem sc_is_entry : FnScope N_is_entry P_is_entry (defScope s_is_entry) := ⟨rfl, rfl, rfl, by decide +kernel, rfl, by decide +kernel, by decide +kernel⟩
abbrev s_is_book : Stmt := topS 27
abbrev N_is_book : List Str := ["work", "thing", "stand"]
abbrev P_is_book : List Str := ["work", "thing"]
theorem sc_is_book : FnScope N_is_book P_is_book (defScope s_is_book) := ⟨rfl, rfl, rfl, by decide +kernel, rfl, by decide +kernel, by decide +kernel⟩
abbrev s_let_steps : Stmt := topS 28
abbrev N_let_steps : List Str := ["work", "book", "stand"]
abbrev P_let_steps : List Str := ["work", "book", "stand"]
theorem sc_let_steps : FnScope N_let_steps P_let_steps (defScope s_let_steps) := ⟨rfl, rfl, rfl, by decide +kernel, rfl, by decide +kernel, by decide +kernel⟩
abbrev s_let_ways : Stmt := topS 29
abbrev N_let_ways : List Str := ["work", "book", "ways", "waiting", "at", "stand", "step", "goal"]
abbrev P_let_ways : List Str := ["work", "book"]
theorem sc_let_ways : FnScope N_let_ways P_let_ways (defScope s_let_ways) := ⟨rfl, rfl, rfl, by decide +kernel, rfl, by decide +kernel, by decide +kernel⟩
abbrev s_way_to : Stmt := topS 30
abbrev N_way_to : List Str := ["ways", "stand", "steps", "at", "step"]
abbrev P_way_to : List Str := ["ways", "stand"]
theorem sc_way_to : FnScope N_way_to P_way_to (defScope s_way_to) := ⟨rfl, rfl, rfl, by decide +kernel, rfl, by decide +kernel, by decide +kernel⟩
abbrev s_is_below : Stmt := topS 31
abbrev N_is_below : List Str := ["worth", "level"]
abbrev P_is_below : List Str := ["worth", "level"]
theorem sc_is_below : FnScope N_is_below P_is_below (defScope s_is_below) := ⟨rfl, rfl, rfl, by decide +kernel, rfl, by decide +kernel, by decide +kernel⟩
abbrev s_checked_book : Stmt := topS 32
abbrev N_checked_book : List Str := ["work", "wish", "level", "book"]
abbrev P_checked_book : List Str := ["work", "wish", "level", "book"]
theorem sc_checked_book : FnScope N_checked_book P_checked_book (defScope s_checked_book) := ⟨rfl, rfl, rfl, by decide +kernel, rfl, by decide +kernel, by decide +kernel⟩
abbrev s_breaking : Stmt := topS 33
abbrev N_breaking : List Str := ["work", "wish", "level", "book", "worths", "ways", "stand"]
abbrev P_breaking : List Str := ["work", "wish", "level", "book"]
theorem sc_breaking : FnScope N_breaking P_breaking (defScope s_breaking) := ⟨rfl, rfl, rfl, by decide +kernel, rfl, by decide +kernel, by decide +kernel⟩
abbrev s_keeps : Stmt := topS 34
abbrev N_keeps : List Str := ["work", "wish", "level", "book"]
abbrev P_keeps : List Str := ["work", "wish", "level", "book"]
theorem sc_keeps : FnScope N_keeps P_keeps (defScope s_keeps) := ⟨rfl, rfl, rfl, by decide +kernel, rfl, by decide +kernel, by decide +kernel⟩
abbrev s_kept_stands : Stmt := topS 35
abbrev N_kept_stands : List Str := ["work", "wish", "level", "book"]
abbrev P_kept_stands : List Str := ["work", "wish", "level", "book"]
theorem sc_kept_stands : FnScope N_kept_stands P_kept_stands (defScope s_kept_stands) := ⟨rfl, rfl, rfl, by decide +kernel, rfl, by decide +kernel, by decide +kernel⟩
abbrev s_is_drawn_in : Stmt := topS 37
abbrev N_is_drawn_in : List Str := ["work", "lot", "stand", "bad", "steps", "reached", "step"]
abbrev P_is_drawn_in : List Str := ["work", "lot", "stand", "bad"]
theorem sc_is_drawn_in : FnScope N_is_drawn_in P_is_drawn_in (defScope s_is_drawn_in) := ⟨rfl, rfl, rfl, by decide +kernel, rfl, by decide +kernel, by decide +kernel⟩
abbrev s_bad_stands : Stmt := topS 38
abbrev N_bad_stands : List Str := ["work", "wish", "lot", "level", "worths", "bad", "stand", "grown"]
abbrev P_bad_stands : List Str := ["work", "wish", "lot", "level"]
theorem sc_bad_stands : FnScope N_bad_stands P_bad_stands (defScope s_bad_stands) := ⟨rfl, rfl, rfl, by decide +kernel, rfl, by decide +kernel, by decide +kernel⟩
abbrev s_safe_stands : Stmt := topS 39
abbrev N_safe_stands : List Str := ["work", "wish", "lot", "level", "bad", "stand"]
abbrev P_safe_stands : List Str := ["work", "wish", "lot", "level"]
theorem sc_safe_stands : FnScope N_safe_stands P_safe_stands (defScope s_safe_stands) := ⟨rfl, rfl, rfl, by decide +kernel, rfl, by decide +kernel, by decide +kernel⟩
abbrev s_freest : Stmt := topS 40
abbrev N_freest : List Str := ["work", "wish", "lot", "level", "safe", "book", "stand", "move"]
abbrev P_freest : List Str := ["work", "wish", "lot", "level"]
theorem sc_freest : FnScope N_freest P_freest (defScope s_freest) := ⟨rfl, rfl, rfl, by decide +kernel, rfl, by decide +kernel, by decide +kernel⟩
abbrev s_law_lot : Stmt := topS 64
abbrev N_law_lot : List Str := ["drawer", "hands", "bits", "hand"]
abbrev P_law_lot : List Str := ["drawer", "hands"]
theorem sc_law_lot : FnScope N_law_lot P_law_lot (defScope s_law_lot) := ⟨rfl, rfl, rfl, by decide +kernel, rfl, by decide +kernel, by decide +kernel⟩
abbrev s_law_book : Stmt := topS 66
abbrev N_law_book : List Str := ["drawer", "stands", "book", "stand", "steps", "bits", "row", "at"]
abbrev P_law_book : List Str := ["drawer", "stands"]
theorem sc_law_book : FnScope N_law_book P_law_book (defScope s_law_book) := ⟨rfl, rfl, rfl, by decide +kernel, rfl, by decide +kernel, by decide +kernel⟩
abbrev s_law_bad : Stmt := topS 67
abbrev N_law_bad : List Str := ["stands", "worths", "lot", "level", "bad", "stand", "part", "goals", "step"]
abbrev P_law_bad : List Str := ["stands", "worths", "lot", "level"]
theorem sc_law_bad : FnScope N_law_bad P_law_bad (defScope s_law_bad) := ⟨rfl, rfl, rfl, by decide +kernel, rfl, by decide +kernel, by decide +kernel⟩
abbrev s_law_due_book : Stmt := topS 68
abbrev N_law_due_book : List Str := ["stands", "lot", "bad", "book", "stand", "moves", "move"]
abbrev P_law_due_book : List Str := ["stands", "lot", "bad"]
theorem sc_law_due_book : FnScope N_law_due_book P_law_due_book (defScope s_law_due_book) := ⟨rfl, rfl, rfl, by decide +kernel, rfl, by decide +kernel, by decide +kernel⟩
abbrev s_law_within : Stmt := topS 69
abbrev N_law_within : List Str := ["stands", "lot", "book", "free", "reached", "stand", "let", "move"]
abbrev P_law_within : List Str := ["stands", "lot", "book", "free", "reached"]
theorem sc_law_within : FnScope N_law_within P_law_within (defScope s_law_within) := ⟨rfl, rfl, rfl, by decide +kernel, rfl, by decide +kernel, by decide +kernel⟩
abbrev s_law_no_ends : Stmt := topS 70
abbrev N_law_no_ends : List Str := ["stands", "start", "found", "stand"]
abbrev P_law_no_ends : List Str := ["stands", "start"]
theorem sc_law_no_ends : FnScope N_law_no_ends P_law_no_ends (defScope s_law_no_ends) := ⟨rfl, rfl, rfl, by decide +kernel, rfl, by decide +kernel, by decide +kernel⟩
abbrev s_law_again : Stmt := topS 71
abbrev N_law_again : List Str := ["work", "stands", "start", "lot", "worths", "endless", "level", "mirror", "end", "lesser", "rows", "values", "least", "asked", "wish", "bad", "stand", "due"]
abbrev P_law_again : List Str := ["work", "stands", "start", "lot", "worths", "endless", "level"]
theorem sc_law_again : FnScope N_law_again P_law_again (defScope s_law_again) := ⟨rfl, rfl, rfl, by decide +kernel, rfl, by decide +kernel, by decide +kernel⟩
abbrev s_law : Stmt := topS 72
abbrev N_law : List Str := ["script", "hands", "names", "stands", "drawer", "lot", "worths", "endless", "level", "drawn", "book", "stand", "work", "wish", "bad", "safe", "free", "reached"]
abbrev P_law : List Str := ["script"]
theorem sc_law : FnScope N_law P_law (defScope s_law) := ⟨rfl, rfl, rfl, by decide +kernel, rfl, by decide +kernel, by decide +kernel⟩
/-- what the top has written, as the walk asks it -/
structure Tx (K : PySem.W.Frag) (mg : Str → Option Value) where
  is_integer : FX K mg "is_integer" "is_integer" s_is_integer P_is_integer
  is_name : FX K mg "is_name" "is_name" s_is_name P_is_name
  is_pair : FX K mg "is_pair" "is_pair" s_is_pair P_is_pair
  is_moves : FX K mg "is_moves" "is_moves" s_is_moves P_is_moves
  is_draws : FX K mg "is_draws" "is_draws" s_is_draws P_is_draws
  is_stand : FX K mg "is_stand" "is_stand" s_is_stand P_is_stand
  are_stands : FX K mg "are_stands" "are_stands" s_are_stands P_are_stands
  copied : FX K mg "copied" "copied" s_copied P_copied
  leads : FX K mg "leads" "leads" s_leads P_leads
  is_ringless : FX K mg "is_ringless" "is_ringless" s_is_ringless P_is_ringless
  Work_init : MX K "__init__" "Work.__init__" s_Work_init P_Work_init
  Work_row : MX K "row" "Work.row" s_Work_row P_Work_row
  Work_kind : MX K "kind" "Work.kind" s_Work_kind P_Work_kind
  Work_mover : MX K "mover" "Work.mover" s_Work_mover P_Work_mover
  Work_steps : MX K "steps" "Work.steps" s_Work_steps P_Work_steps
  Work_to : MX K "to" "Work.to" s_Work_to P_Work_to
  law_open : FX K mg "_law_open" "_law_open" s_law_open P_law_open
  law_draw : FX K mg "_law_draw" "_law_draw" s_law_draw P_law_draw
  law_names : FX K mg "_law_names" "_law_names" s_law_names P_law_names
  law_target : FX K mg "_law_target" "_law_target" s_law_target P_law_target
  law_menu : FX K mg "_law_menu" "_law_menu" s_law_menu P_law_menu
  law_stand : FX K mg "_law_stand" "_law_stand" s_law_stand P_law_stand
  law_stands : FX K mg "_law_stands" "_law_stands" s_law_stands P_law_stands
  law_build : FX K mg "_law_build" "_law_build" s_law_build P_law_build
  law_steps : FX K mg "_law_steps" "_law_steps" s_law_steps P_law_steps
  law_to : FX K mg "_law_to" "_law_to" s_law_to P_law_to
  law_mover : FX K mg "_law_mover" "_law_mover" s_law_mover P_law_mover
  law_worths : FX K mg "_law_worths" "_law_worths" s_law_worths P_law_worths
  law_endless : FX K mg "_law_endless" "_law_endless" s_law_endless P_law_endless
  law_level : FX K mg "_law_level" "_law_level" s_law_level P_law_level
  common_divisor : FX K mg "common_divisor" "common_divisor" s_common_divisor P_common_divisor
  is_fraction : FX K mg "is_fraction" "is_fraction" s_is_fraction P_is_fraction
  is_lot : FX K mg "is_lot" "is_lot" s_is_lot P_is_lot
  checked_lot : FX K mg "checked_lot" "checked_lot" s_checked_lot P_checked_lot
  is_value : FX K mg "is_value" "is_value" s_is_value P_is_value
  are_worths : FX K mg "are_worths" "are_worths" s_are_worths P_are_worths
  Wish_init : MX K "__init__" "Wish.__init__" s_Wish_init P_Wish_init
  Wish_worths : MX K "worths" "Wish.worths" s_Wish_worths P_Wish_worths
  suited : FX K mg "suited" "suited" s_suited P_suited
  suited_lot : FX K mg "suited_lot" "suited_lot" s_suited_lot P_suited_lot
  is_entry : FX K mg "is_entry" "is_entry" s_is_entry P_is_entry
  is_book : FX K mg "is_book" "is_book" s_is_book P_is_book
  let_steps : FX K mg "let_steps" "let_steps" s_let_steps P_let_steps
  let_ways : FX K mg "let_ways" "let_ways" s_let_ways P_let_ways
  way_to : FX K mg "way_to" "way_to" s_way_to P_way_to
  is_below : FX K mg "is_below" "is_below" s_is_below P_is_below
  checked_book : FX K mg "checked_book" "checked_book" s_checked_book P_checked_book
  breaking : FX K mg "breaking" "breaking" s_breaking P_breaking
  keeps : FX K mg "keeps" "keeps" s_keeps P_keeps
  kept_stands : FX K mg "kept_stands" "kept_stands" s_kept_stands P_kept_stands
  is_drawn_in : FX K mg "is_drawn_in" "is_drawn_in" s_is_drawn_in P_is_drawn_in
  bad_stands : FX K mg "bad_stands" "bad_stands" s_bad_stands P_bad_stands
  safe_stands : FX K mg "safe_stands" "safe_stands" s_safe_stands P_safe_stands
  freest : FX K mg "freest" "freest" s_freest P_freest
  law_lot : FX K mg "_law_lot" "_law_lot" s_law_lot P_law_lot
  law_book : FX K mg "_law_book" "_law_book" s_law_book P_law_book
  law_bad : FX K mg "_law_bad" "_law_bad" s_law_bad P_law_bad
  law_due_book : FX K mg "_law_due_book" "_law_due_book" s_law_due_book P_law_due_book
  law_within : FX K mg "_law_within" "_law_within" s_law_within P_law_within
  law_no_ends : FX K mg "_law_no_ends" "_law_no_ends" s_law_no_ends P_law_no_ends
  law_again : FX K mg "_law_again" "_law_again" s_law_again P_law_again
  law : FX K mg "law" "law" s_law P_law
  b_abs : mg "abs" = none
  b_all : mg "all" = none
  b_any : mg "any" = none
  b_bool : mg "bool" = none
  b_dict : mg "dict" = none
  b_enumerate : mg "enumerate" = none
  b_int : mg "int" = none
  b_isinstance : mg "isinstance" = none
  b_len : mg "len" = none
  b_list : mg "list" = none
  b_max : mg "max" = none
  b_min : mg "min" = none
  b_range : mg "range" = none
  b_sorted : mg "sorted" = none
  b_str : mg "str" = none
  b_tuple : mg "tuple" = none
  a_Work : Addr
  g_Work : mg "Work" = some (.ref a_Work)
  cl_Work : Cls K a_Work
  m_Work : Mk K a_Work Work_init.f
  n_Work_hands : NoAttr K a_Work "hands"
  n_Work_start : NoAttr K a_Work "start"
  n_Work_table : NoAttr K a_Work "table"
  n_Work_names : NoAttr K a_Work "names"
  n_Work_ends : NoAttr K a_Work "ends"
  n_Work_ringless : NoAttr K a_Work "ringless"
  a_Wish : Addr
  g_Wish : mg "Wish" = some (.ref a_Wish)
  cl_Wish : Cls K a_Wish
  m_Wish : Mk K a_Wish Wish_init.f
  n_Wish_table : NoAttr K a_Wish "table"
  n_Wish_endless : NoAttr K a_Wish "endless"
  n_Wish_coming : NoAttr K a_Wish "coming"
  me_Work_row : Meth K a_Work "row" Work_row.f
  me_Work_kind : Meth K a_Work "kind" Work_kind.f
  me_Work_mover : Meth K a_Work "mover" Work_mover.f
  me_Work_steps : Meth K a_Work "steps" Work_steps.f
  me_Work_to : Meth K a_Work "to" Work_to.f
  p_Wish_worths : Addr
  pr_Wish_worths : PropOf K a_Wish "worths" p_Wish_worths Wish_worths.f
end M

namespace M
open PySem PySem.Spec PyProof.Rows L2
/-! ### names -/
def lowB (c : Nat) : Bool := decide (97 ≤ c) && decide (c ≤ 122)
def digB (c : Nat) : Bool := decide (48 ≤ c) && decide (c ≤ 57)
def nameL (l : List Nat) : Bool := decide (1 ≤ l.length) && decide (l.length ≤ 8) && lowB (l.getD 0 0) && l.all fun c => lowB c || digB c
def nameB (s : Str) : Bool := nameL s.cps.toList
theorem lt1 (a b : Nat) : decide (([a] : List Nat) < [b]) = decide (a < b) := by
  by_cases h : a < b
  · rw [decide_eq_true h, decide_eq_true]
    exact List.Lex.rel h
  · rw [decide_eq_false h, decide_eq_false]
    intro q
    cases q with
    | rel q => exact h q
    | cons q => cases q
section
variable {P : Program} {w : World} {K : PySem.W.Frag} {mg : Str → Option Value} {base : Heap}
def sp_is_integer (T : Tx K mg) : Sp := fun vs H Q _ => ∃ i, vs = [.int i] ∧ Q (.bl true) H
theorem ok_is_integer (T : Tx K mg) : FnOk P w K mg base CX0 1 T.is_integer.f T.is_integer.fd P_is_integer (sp_is_integer T) := by
  refine T.is_integer.F.ok sc_is_integer (fun vs H Q E h => ?_) (fun cdv A outer s H vs Q E hr h => ?_)
  · obtain ⟨i, rfl, k⟩ := h
    rfl
  have hu := hu_of hr
  have nd := sc_is_integer.nd
  obtain ⟨i, rfl, k⟩ := h
  refine ⟨_, (pss_one (ps_ret (pe_and (pe_callB (w_isi (K := K) rfl) (by rfl) T.b_isinstance (by decide +kernel) (pa_cons (pv 0) (pa_cons (pe_bltn (v := .ty "int") (by rfl) T.b_int (by decide +kernel) rfl) pa_nil))) (pe_one (pe_not (pe_callB (w_isi (K := K) rfl) (by rfl) T.b_isinstance (by decide +kernel) (pa_cons (pv 0) (pa_cons (pe_bltn (v := .ty "bool") (by rfl) T.b_bool (by decide +kernel) rfl) pa_nil)))))))), ?_⟩
  refine x_start (σ' := [some _]) rfl ?_
  try simp only [cx_n, cx_K, cx_w, cx_P]
  walk_at "rd"
  refine x_isiT (.base (.int i)) (by decide +kernel) ?_
  walk_at "rd"
  refine x_isiF (.base (.int i)) (by decide +kernel) ?_
  walk_at "rd"
  exact k
def sp_is_name (T : Tx K mg) : Sp := fun vs H Q _ => ∃ s, vs = [.str s] ∧ s.length ≤ 10000 ∧ Q (.bl (nameB s)) H
theorem nameB_len {s : Str} (h : ¬ (1 ≤ s.length ∧ s.length ≤ 8)) : nameB s = false := by
  unfold nameB nameL
  have e : s.cps.toList.length = s.length := by simp [Str.length]
  rw [e]
  by_cases h1 : 1 ≤ s.length
  · have h2 : ¬ s.length ≤ 8 := fun q => h ⟨h1, q⟩
    simp [h2]
  · simp [h1]
theorem nameB_low {s : Str} (h : lowB (s.cps.toList.getD 0 0) = false) : nameB s = false := by
  unfold nameB nameL
  rw [h]
  simp
theorem nameB_all {s : Str} {c : Nat} (hc : c ∈ s.cps.toList) (h : (lowB c || digB c) = false) : nameB s = false := by
  unfold nameB nameL
  have : (s.cps.toList.all fun c => lowB c || digB c) = false := by
    rw [List.all_eq_false]
    exact ⟨c, hc, by simpa using h⟩
  rw [this]
  simp
theorem nameB_yes {s : Str} (h1 : 1 ≤ s.length ∧ s.length ≤ 8) (h2 : lowB (s.cps.toList.getD 0 0) = true) (h3 : ∀ c ∈ s.cps.toList, (lowB c || digB c) = true) : nameB s = true := by
  unfold nameB nameL
  have e : s.cps.toList.length = s.length := by simp [Str.length]
  rw [e, h2, List.all_eq_true.mpr h3]
  simp [h1.1, h1.2]
theorem sz10 {n : Nat} (h : n ≤ 10000) : n ≤ sizeLine := Nat.le_trans h (by decide)
/-- 'a' <= c, c <= 'z' and the like -/
theorem le_lit (a c : Nat) : (!decide ((⟨#[c]⟩ : Str).cps.toList < (⟨#[a]⟩ : Str).cps.toList)) = decide (a ≤ c) := by
  show (!decide (([c] : List Nat) < [a])) = decide (a ≤ c)
  rw [lt1]
  by_cases h : a ≤ c
  · rw [decide_eq_true h, decide_eq_false (by omega)]
    rfl
  · rw [decide_eq_false h, decide_eq_true (by omega)]
    rfl
theorem lit_a : ("a" : Str) = ⟨#[97]⟩ := by decide +kernel
theorem lit_z : ("z" : Str) = ⟨#[122]⟩ := by decide +kernel
theorem lit_0 : ("0" : Str) = ⟨#[48]⟩ := by decide +kernel
theorem lit_9 : ("9" : Str) = ⟨#[57]⟩ := by decide +kernel
theorem ok_is_name (T : Tx K mg) : FnOk P w K mg base CX0 1 T.is_name.f T.is_name.fd P_is_name (sp_is_name T) := by
  refine T.is_name.F.ok sc_is_name (fun vs H Q E h => ?_) (fun cdv A outer s H vs Q E hr h => ?_)
  · obtain ⟨s, rfl, hs, k⟩ := h
    rfl
  have hu := hu_of hr
  have nd := sc_is_name.nd
  obtain ⟨s, rfl, hs, k⟩ := h
  refine ⟨_, (pss_cons (ps_if (PW.pt (pw_or (pt_not (pt_val (pe_callB (w_isi (K := K) rfl) (by rfl) T.b_isinstance (by decide +kernel) (pa_cons (pv 0) (pa_cons (pe_bltn (v := .ty "str") (by rfl) T.b_str (by decide +kernel) rfl) pa_nil))))) (pw_or1 (pt_not (pt_chain op_le op_le pe_int (pe_callB (w_len (K := K) rfl) (by rfl) T.b_len (by decide +kernel) (pa_cons (pv 0) pa_nil)) pe_int))))) (pss_one (ps_ret pe_bl)) pss_nil)
      (pss_cons (ps_if (pt_not (pt_chain op_leS op_leS pe_str (pe_ix ix_str (pv 0) pe_int (fun _ _ => rfl)) pe_str)) (pss_one (ps_ret pe_bl)) pss_nil)
      (pss_cons (ps_for PassesOwn.never rfl (pi_str (pv 0)) (pg_name (i := 1) nd rfl (Or.inl rfl)) (pss_one (ps_if (PW.pt (pw_and (pt_not (pt_chain op_leS op_leS pe_str (pv 1) pe_str)) (pw_and1 (pt_not (pt_chain op_leS op_leS pe_str (pv 1) pe_str))))) (pss_one (ps_ret pe_bl)) pss_nil)))
      (pss_one (ps_ret pe_bl))))), ?_⟩
  refine x_start (σ' := [some _, none]) rfl ?_
  try simp only [cx_n, cx_K, cx_w, cx_P]
  simp only [lit_a, lit_z, lit_0, lit_9]
  walk_at "rd"
  refine x_isiT (.base (.str s)) (by decide +kernel) ?_
  walk_at "rd"
  refine x_lenS' (sz10 hs) ?_
  walk_at "rd"
  have es : s.cps.toList.length = s.length := by simp [Str.length]
  have kf : nameB s = false → Q (.bl false) H := fun e => by
    rw [e] at k
    exact k
  refine x_cases (fun h1 => ?_) (fun h1 => ?_)
  rotate_left
  · walk_at "rd"
    exact kf (nameB_len fun q => by simp at h1; omega)
  walk_at "rd"
  refine x_cases (fun h2 => ?_) (fun h2 => ?_)
  · walk_at "rd"
    exact kf (nameB_len fun q => by simp at h2; omega)
  walk_at "rd"
  have hlen : 1 ≤ s.length ∧ s.length ≤ 8 := by simp at h1 h2; omega
  obtain ⟨c0, hc0⟩ : ∃ c, s.cps.toList[0]? = some c := ⟨s.cps.toList[0]'(by omega), by simp⟩
  have hd0 : s.cps.toList.getD 0 0 = c0 := by rw [List.getD_eq_getElem?_getD, hc0]; rfl
  refine x_ixS (sz10 hs) (atI_nat (j := 0) hc0) ?_
  walk_at "rd"
  rw [le_lit]
  refine x_cases (fun h3 => ?_) (fun h3 => ?_)
  rotate_left
  · walk_at "rd"
    exact kf (nameB_low (by rw [hd0]; unfold lowB; rw [h3]; rfl))
  walk_at "rd"
  rw [le_lit]
  refine x_cases (fun h4 => ?_) (fun h4 => ?_)
  · walk_at "rd"
    exact kf (nameB_low (by rw [hd0]; unfold lowB; simp at h4; simp [h4]))
  walk_at "rd"
  have hlow : lowB (s.cps.toList.getD 0 0) = true := by
    rw [hd0]
    unfold lowB
    simp at h3 h4
    simp [h3, h4]
  refine for_it walk_str (fun i σ H' => H' = H ∧ ∃ c, σ = [some (.str s), c] ∧ ∀ j, j < i → ∀ c, s.cps.toList[j]? = some c → (lowB c || digB c) = true) ⟨rfl, _, rfl, fun j hj => absurd hj (Nat.not_lt_zero _)⟩ (fun _ _ _ _ _ => trivial) ?_ ?_
  · rintro i x σ H0 H1 hi ⟨rfl, cc, rfl, hj⟩ ⟨rfl, c, hc, rfl⟩
    walk_at "rd"
    rw [le_lit]
    have mem : c ∈ s.cps.toList := by
      rw [Array.mem_toList_iff]
      exact Array.mem_of_getElem? hc
    have next : (lowB c || digB c) = true → ∀ j, j < i + 1 → ∀ c, s.cps.toList[j]? = some c → (lowB c || digB c) = true := fun h j hj' d hd => by
      by_cases e : j = i
      · subst e
        have : some c = some d := by rw [← hc, ← hd]; simp
        cases this
        exact h
      · exact hj j (by omega) d hd
    refine x_cases (fun h5 => ?_) (fun h5 => ?_)
    · walk_at "rd"
      rw [le_lit]
      refine x_cases (fun h6 => ?_) (fun h6 => ?_)
      · walk_at "rd"
        rw [le_lit]
        refine x_cases (fun h7 => ?_) (fun h7 => ?_)
        · walk_at "rd"
          rw [le_lit]
          refine x_cases (fun h8 => ?_) (fun h8 => ?_)
          · walk_at "rd"
            exact kf (nameB_all mem (by simp at h5 h6 h7 h8; simp [lowB, digB]; omega))
          · walk_at "rd"
            exact ⟨rfl, _, rfl, next (by simp at h5 h6 h7 h8; simp [lowB, digB]; omega)⟩
        · walk_at "rd"
          exact kf (nameB_all mem (by simp at h5 h6 h7; simp [lowB, digB]; omega))
      · walk_at "rd"
        exact ⟨rfl, _, rfl, next (by simp at h5 h6; simp [lowB, digB]; omega)⟩
    · walk_at "rd"
      rw [le_lit]
      refine x_cases (fun h7 => ?_) (fun h7 => ?_)
      · walk_at "rd"
        rw [le_lit]
        refine x_cases (fun h8 => ?_) (fun h8 => ?_)
        · walk_at "rd"
          exact kf (nameB_all mem (by simp at h5 h7 h8; simp [lowB, digB]; omega))
        · walk_at "rd"
          exact ⟨rfl, _, rfl, next (by simp at h5 h7 h8; simp [lowB, digB]; omega)⟩
      · walk_at "rd"
        exact kf (nameB_all mem (by simp at h5 h7; simp [lowB, digB]; omega))
  · rintro σ H1 ⟨rfl, c, rfl, hj⟩
    walk_at "rd"
    have e : nameB s = true := nameB_yes hlen hlow fun c hc => by
      obtain ⟨j, hj'⟩ := List.getElem?_of_mem hc
      refine hj j ?_ c hj'
      have := (List.getElem?_eq_some_iff.mp hj').1
      simpa using this
    rw [e] at k
    exact k
end
end M

namespace M
open PySem PySem.Spec PyProof.Rows L2
/-- a stand that is right, of so many hands, all steps to names -/
def StandOk (hands : Int) (names : List Str) : Stand → Prop
  | .fin => True
  | .hand h ms => 0 ≤ h ∧ h < hands ∧ 1 ≤ ms.length ∧ ms.length ≤ 4 ∧ (ms.map (·.1)).Nodup ∧ ∀ p ∈ ms, nameB p.1 = true ∧ nameB p.2 = true ∧ p.2 ∈ names
  | .chance ds => 1 ≤ ds.length ∧ ds.length ≤ 4 ∧ (ds.map (·.1)).Nodup ∧ ∀ p ∈ ds, nameB p.1 = true ∧ nameB p.2.1 = true ∧ p.2.1 ∈ names ∧ 1 ≤ p.2.2 ∧ p.2.2 ≤ 9
theorem nameB_size {s : Str} (h : nameB s = true) : s.length ≤ 10000 := by
  by_cases q : 1 ≤ s.length ∧ s.length ≤ 8
  · omega
  · rw [nameB_len q] at h
    cases h
section
variable {P : Program} {w : World} {K : PySem.W.Frag} {mg : Str → Option Value} {base : Heap}
def sp_is_pair (T : Tx K mg) : Sp := fun vs H Q _ => ∃ a xs, vs = [.ref a] ∧ SqT K H a xs ∧ Q (.bl (decide (xs.length = 2))) H
theorem ok_is_pair (T : Tx K mg) : FnOk P w K mg base CX0 1 T.is_pair.f T.is_pair.fd P_is_pair (sp_is_pair T) := by
  refine T.is_pair.F.ok sc_is_pair (fun vs H Q E h => ?_) (fun cdv A outer s H vs Q E hr h => ?_)
  · obtain ⟨a, xs, rfl, hx, k⟩ := h
    rfl
  have hu := hu_of hr
  have nd := sc_is_pair.nd
  obtain ⟨a, xs, rfl, hx, k⟩ := h
  refine ⟨_, (pss_one (ps_ret (pe_and (pe_callB (w_isi (K := K) rfl) (by rfl) T.b_isinstance (by decide +kernel) (pa_cons (pv 0) (pa_cons (pe_bltn (v := .ty "tuple") (by rfl) T.b_tuple (by decide +kernel) rfl) pa_nil))) (pe_one (pe_cmpR op_eq (pe_callB (w_len (K := K) rfl) (by rfl) T.b_len (by decide +kernel) (pa_cons (pv 0) pa_nil)) pe_int (nomark _)))))), ?_⟩
  refine x_start (σ' := [some _]) rfl ?_
  try simp only [cx_n, cx_K, cx_w, cx_P]
  walk_at "rd"
  refine x_isiT (ty_tup hx) (by decide +kernel) ?_
  walk_at "rd"
  refine x_lenT' hx ?_
  walk_at "rd"
  have e : decide (V.int (xs.length : Int) = V.int 2) = decide (xs.length = 2) := by
    by_cases h : xs.length = 2
    · rw [decide_eq_true h, decide_eq_true]
      rw [h]
      rfl
    · rw [decide_eq_false h, decide_eq_false]
      intro q
      injection q with q
      omega
  rw [e]
  exact k
def sp_is_moves (T : Tx K mg) : Sp := fun vs H Q _ => ∃ v u ms names, vs = [v, u] ∧ rD rS H v ms ∧ rK H u names ∧ 1 ≤ ms.length ∧ ms.length ≤ 4 ∧
  (∀ p ∈ ms, nameB p.1 = true ∧ nameB p.2 = true ∧ p.2 ∈ names) ∧ ∀ H', SX [] H H' → Q (.bl true) H'
theorem ok_is_moves (T : Tx K mg) : FnOk P w K mg base CX0 2 T.is_moves.f T.is_moves.fd P_is_moves (sp_is_moves T) := by
  refine T.is_moves.F.ok sc_is_moves (fun vs H Q E h => ?_) (fun cdv A outer s H vs Q E hr h => ?_)
  · obtain ⟨v, u, ms, names, rfl, ⟨d, kvs, hv, hd, hk⟩, ⟨e, kvs2, hu2, he, hn⟩, h1, h4, hall, k⟩ := h
    rfl
  have hu := hu_of hr
  have nd := sc_is_moves.nd
  obtain ⟨v, u, ms, names, rfl, ⟨d, kvs, hv, hd, hk⟩, ⟨e, kvs2, hu2, he, hn⟩, h1, h4, hall, k⟩ := h
  refine ⟨_, (pss_cons (ps_if (PW.pt (pw_or (pt_not (pt_val (pe_callB (w_isi (K := K) rfl) (by rfl) T.b_isinstance (by decide +kernel) (pa_cons (pv 0) (pa_cons (pe_bltn (v := .ty "dict") (by rfl) T.b_dict (by decide +kernel) rfl) pa_nil))))) (pw_or1 (pt_not (pt_chain op_le op_le pe_int (pe_callB cl_lenD (by rfl) T.b_len (by decide +kernel) (pa_cons (pv 0) pa_nil)) pe_int))))) (pss_one (ps_ret pe_bl)) pss_nil)
      (pss_cons (ps_lockR (ps_for PassesOwn.never rfl (pi_items (pv 0)) (w_pgtup (K := K) (n := 2) rfl (by rfl) (pgs_cons (pg_name (i := 2) nd rfl (Or.inl rfl)) (pgs_cons (pg_name (i := 3) nd rfl (Or.inl rfl)) pgs_nil)) (by rfl) (by rfl)) (pss_one (ps_if (PW.pt (pw_or (pt_not (pt_val (pe_call (ok_is_name T) (hr.mono (by decide)) (by rfl) T.is_name.g T.is_name.F.kp T.is_name.B .nil pass0 (pa_cons (pv 2) pa_nil)))) (pw_or (pt_not (pt_val (pe_call (ok_is_name T) (hr.mono (by decide)) (by rfl) T.is_name.g T.is_name.F.kp T.is_name.B .nil pass0 (pa_cons (pv 3) pa_nil)))) (pw_or1 (pt_cmp (pc_dnotin hu (pv 3) (pv 1))))))) (pss_one (ps_ret pe_bl)) pss_nil))))
      (pss_one (ps_ret pe_bl)))), ?_⟩
  refine x_start (σ' := [some _, some _, none, none]) rfl ?_
  try simp only [cx_n, cx_K, cx_w, cx_P]
  subst hv hu2
  walk_at "rd"
  refine x_isiT (ty_dict hd) (by decide +kernel) ?_
  walk_at "rd"
  have hl : kvs.length = ms.length := Paired.length hk
  refine x_lenD hd ?_
  walk_at "rd"
  rw [hl]
  refine x_true (decide_eq_true (by omega)) ?_
  walk_at "rd"
  rw [decide_eq_true (show (ms.length : Int) ≤ 4 by omega)]
  walk_at "rd"
  refine x_lockR hd fun od HL eL ne => ?_
  walk_at "rd"
  refine x_iti eL ?_
  have leL : Le H HL := lock_le hd eL ne
  refine for_it (walk_itemsR (KVs.le mono_S leL hk)) (fun i σ H' => SX [] HL H' ∧ ∃ a b, σ = [some (.ref d), some (.ref e), a, b]) ⟨SX.refl _, _, _, rfl⟩ (fun _ _ _ _ h => h.1 _ _ List.not_mem_nil eL) ?_ ?_
  · rintro i x σ H0 H1 hi ⟨sx, a, b, rfl⟩ ⟨T1, p, v, hp, rfl, rfl, hT, rfl⟩
    obtain ⟨n1, n2, n3⟩ := hall p (getMem hp)
    walk_at "rd"
    refine ⟨_, rfl, nameB_size n1, ?_⟩
    rw [n1]
    walk_at "rd"
    refine ⟨_, rfl, nameB_size n2, ?_⟩
    rw [n2]
    walk_at "rd"
    have sx1 : SX [] HL (upd H0 T1 (.tup [.str p.1, .str p.2])) := sx.trans (SX.new hT)
    refine x_dni' (sx1.rd (Rd.le leL he)) ?_
    rw [keys_val hn, decide_eq_true n3]
    walk_at "rd"
    exact ⟨sx1, _, _, rfl⟩
  · rintro σ H1 ⟨sx, a, b, rfl⟩
    refine ⟨sx _ _ List.not_mem_nil eL, ?_⟩
    walk_at "rd"
    exact k _ (unlock_sx ne sx)
def sp_is_draws (T : Tx K mg) : Sp := fun vs H Q _ => ∃ v u ds names, vs = [v, u] ∧ rD (rP K rS rI) H v ds ∧ rK H u names ∧ 1 ≤ ds.length ∧ ds.length ≤ 4 ∧
  (∀ p ∈ ds, nameB p.1 = true ∧ nameB p.2.1 = true ∧ p.2.1 ∈ names ∧ 1 ≤ p.2.2 ∧ p.2.2 ≤ 9) ∧ ∀ H', SX [] H H' → Q (.bl true) H'
theorem ok_is_draws (T : Tx K mg) : FnOk P w K mg base CX0 2 T.is_draws.f T.is_draws.fd P_is_draws (sp_is_draws T) := by
  refine T.is_draws.F.ok sc_is_draws (fun vs H Q E h => ?_) (fun cdv A outer s H vs Q E hr h => ?_)
  · obtain ⟨v, u, ds, names, rfl, ⟨d, kvs, hv, hd, hk⟩, ⟨e, kvs2, hu2, he, hn⟩, h1, h4, hall, k⟩ := h
    rfl
  have hu := hu_of hr
  have nd := sc_is_draws.nd
  obtain ⟨v, u, ds, names, rfl, ⟨d, kvs, hv, hd, hk⟩, ⟨e, kvs2, hu2, he, hn⟩, h1, h4, hall, k⟩ := h
  refine ⟨_, (pss_cons (ps_if (PW.pt (pw_or (pt_not (pt_val (pe_callB (w_isi (K := K) rfl) (by rfl) T.b_isinstance (by decide +kernel) (pa_cons (pv 0) (pa_cons (pe_bltn (v := .ty "dict") (by rfl) T.b_dict (by decide +kernel) rfl) pa_nil))))) (pw_or1 (pt_not (pt_chain op_le op_le pe_int (pe_callB cl_lenD (by rfl) T.b_len (by decide +kernel) (pa_cons (pv 0) pa_nil)) pe_int))))) (pss_one (ps_ret pe_bl)) pss_nil)
      (pss_cons (ps_lockR (ps_for PassesOwn.never rfl (pi_items (pv 0)) (w_pgtup (K := K) (n := 2) rfl (by rfl) (pgs_cons (pg_name (i := 2) nd rfl (Or.inl rfl)) (pgs_cons (pg_name (i := 3) nd rfl (Or.inl rfl)) pgs_nil)) (by rfl) (by rfl)) (pss_cons (ps_if (PW.pt (pw_or (pt_not (pt_val (pe_call (ok_is_name T) (hr.mono (by decide)) (by rfl) T.is_name.g T.is_name.F.kp T.is_name.B .nil pass0 (pa_cons (pv 2) pa_nil)))) (pw_or1 (pt_not (pt_val (pe_call (ok_is_pair T) (hr.mono (by decide)) (by rfl) T.is_pair.g T.is_pair.F.kp T.is_pair.B .nil pass0 (pa_cons (pv 3) pa_nil))))))) (pss_one (ps_ret pe_bl)) pss_nil)
      (pss_cons (ps_if (PW.pt (pw_or (pt_not (pt_val (pe_call (ok_is_name T) (hr.mono (by decide)) (by rfl) T.is_name.g T.is_name.F.kp T.is_name.B .nil pass0 (pa_cons (pe_ix (w_ixT (K := K) rfl) (pv 3) pe_int (fun _ _ => rfl)) pa_nil)))) (pw_or1 (pt_cmp (pc_dnotin hu (pe_ix (w_ixT (K := K) rfl) (pv 3) pe_int (fun _ _ => rfl)) (pv 1)))))) (pss_one (ps_ret pe_bl)) pss_nil)
      (pss_one (ps_if (PW.pt (pw_or (pt_not (pt_val (pe_call (ok_is_integer T) (hr.mono (by decide)) (by rfl) T.is_integer.g T.is_integer.F.kp T.is_integer.B .nil pass0 (pa_cons (pe_ix (w_ixT (K := K) rfl) (pv 3) pe_int (fun _ _ => rfl)) pa_nil)))) (pw_or1 (pt_not (pt_chain op_le op_le pe_int (pe_ix (w_ixT (K := K) rfl) (pv 3) pe_int (fun _ _ => rfl)) pe_int))))) (pss_one (ps_ret pe_bl)) pss_nil))))))
      (pss_one (ps_ret pe_bl)))), ?_⟩
  refine x_start (σ' := [some _, some _, none, none]) rfl ?_
  try simp only [cx_n, cx_K, cx_w, cx_P]
  subst hv hu2
  walk_at "rd"
  refine x_isiT (ty_dict hd) (by decide +kernel) ?_
  walk_at "rd"
  have hl : kvs.length = ds.length := Paired.length hk
  refine x_lenD hd ?_
  walk_at "rd"
  rw [hl]
  refine x_true (decide_eq_true (by omega)) ?_
  walk_at "rd"
  rw [decide_eq_true (show (ds.length : Int) ≤ 4 by omega)]
  walk_at "rd"
  refine x_lockR hd fun od HL eL ne => ?_
  walk_at "rd"
  refine x_iti eL ?_
  have leL : Le H HL := lock_le hd eL ne
  refine for_it (walk_itemsR (KVs.le (mono_P mono_S mono_I) leL hk)) (fun i σ H' => SX [] HL H' ∧ ∃ a b, σ = [some (.ref d), some (.ref e), a, b]) ⟨SX.refl _, _, _, rfl⟩ (fun _ _ _ _ h => h.1 _ _ List.not_mem_nil eL) ?_ ?_
  · rintro i x σ H0 H1 hi ⟨sx, a, b, rfl⟩ ⟨T1, p, v, hp, ⟨t, x1, x2, rfl, ht, rfl, rfl⟩, rfl, hT, rfl⟩
    obtain ⟨n1, n2, n3, n4, n5⟩ := hall p (getMem hp)
    have sx1 : SX [] HL (upd H0 T1 (.tup [.str p.1, .ref t])) := sx.trans (SX.new hT)
    have ht1 := sx1.le0.t ht
    walk_at "rd"
    refine ⟨_, rfl, nameB_size n1, ?_⟩
    rw [n1]
    walk_at "rd"
    refine ⟨_, _, rfl, ht1, ?_⟩
    walk_at "rd"
    walk_at "if!"
    walk_at "rd"
    refine x_ixT ht1 (atI_nat (j := 0) rfl) ?_
    walk_at "rd"
    refine ⟨_, rfl, nameB_size n2, ?_⟩
    rw [n2]
    walk_at "rd"
    refine x_ixT ht1 (atI_nat (j := 0) rfl) ?_
    walk_at "rd"
    refine x_dni' (sx1.rd (Rd.le leL he)) ?_
    rw [keys_val hn, decide_eq_true n3]
    walk_at "rd"
    refine x_ixT ht1 (atI_nat (j := 1) rfl) ?_
    walk_at "rd"
    refine ⟨_, rfl, ?_⟩
    walk_at "rd"
    refine x_ixT ht1 (atI_nat (j := 1) rfl) ?_
    walk_at "rd"
    refine x_true (decide_eq_true n4) ?_
    walk_at "rd"
    rw [decide_eq_true n5]
    walk_at "rd"
    exact ⟨sx1, _, _, rfl⟩
  · rintro σ H1 ⟨sx, a, b, rfl⟩
    refine ⟨sx _ _ List.not_mem_nil eL, ?_⟩
    walk_at "rd"
    exact k _ (unlock_sx ne sx)
def sp_is_stand (T : Tx K mg) : Sp := fun vs H Q _ => ∃ v u n st names, vs = [v, .int n, u] ∧ rStand K H v st ∧ rK H u names ∧ StandOk n names st ∧ ∀ H', SX [] H H' → Q (.bl true) H'
theorem ok_is_stand (T : Tx K mg) : FnOk P w K mg base CX0 3 T.is_stand.f T.is_stand.fd P_is_stand (sp_is_stand T) := by
  refine T.is_stand.F.ok sc_is_stand (fun vs H Q E h => ?_) (fun cdv A outer s H vs Q E hr h => ?_)
  · obtain ⟨v, u, n, st, names, rfl, hst, hu2, hok, k⟩ := h
    rfl
  have hu := hu_of hr
  have nd := sc_is_stand.nd
  obtain ⟨v, u, n, st, names, rfl, hst, hu2, hok, k⟩ := h
  refine ⟨_, (pss_cons (ps_if (PW.pt (pw_or (pt_not (pt_val (pe_callB (w_isi (K := K) rfl) (by rfl) T.b_isinstance (by decide +kernel) (pa_cons (pv 0) (pa_cons (pe_bltn (v := .ty "tuple") (by rfl) T.b_tuple (by decide +kernel) rfl) pa_nil))))) (pw_or (pt_cmpR op_eq (pe_callB (w_len (K := K) rfl) (by rfl) T.b_len (by decide +kernel) (pa_cons (pv 0) pa_nil)) pe_int (nomark _)) (pw_or1 (pt_not (pt_val (pe_callB (w_isi (K := K) rfl) (by rfl) T.b_isinstance (by decide +kernel) (pa_cons (pe_ix (w_ixT (K := K) rfl) (pv 0) pe_int (fun _ _ => rfl)) (pa_cons (pe_bltn (v := .ty "str") (by rfl) T.b_str (by decide +kernel) rfl) pa_nil))))))))) (pss_one (ps_ret pe_bl)) pss_nil)
      (pss_cons (ps_if (pt_cmpR op_eq (pe_ix (w_ixT (K := K) rfl) (pv 0) pe_int (fun _ _ => rfl)) pe_str (nomark _)) (pss_one (ps_ret (pe_cmpR op_eq (pe_callB (w_len (K := K) rfl) (by rfl) T.b_len (by decide +kernel) (pa_cons (pv 0) pa_nil)) pe_int (nomark _)))) pss_nil)
      (pss_cons (ps_if (pt_cmpR op_eq (pe_ix (w_ixT (K := K) rfl) (pv 0) pe_int (fun _ _ => rfl)) pe_str (nomark _)) (pss_one (ps_ret (pe_and (pe_cmpR op_eq (pe_callB (w_len (K := K) rfl) (by rfl) T.b_len (by decide +kernel) (pa_cons (pv 0) pa_nil)) pe_int (nomark _)) (pe_one (pe_call (ok_is_draws T) (hr.mono (by decide)) (by rfl) T.is_draws.g T.is_draws.F.kp T.is_draws.B .nil pass0 (pa_cons (pe_ix (w_ixT (K := K) rfl) (pv 0) pe_int (fun _ _ => rfl)) (pa_cons (pv 2) pa_nil))))))) pss_nil)
      (pss_cons (ps_if (PW.pt (pw_or (pt_cmpR op_ne (pe_ix (w_ixT (K := K) rfl) (pv 0) pe_int (fun _ _ => rfl)) pe_str (nomark _)) (pw_or1 (pt_cmpR op_ne (pe_callB (w_len (K := K) rfl) (by rfl) T.b_len (by decide +kernel) (pa_cons (pv 0) pa_nil)) pe_int (nomark _))))) (pss_one (ps_ret pe_bl)) pss_nil)
      (pss_cons (ps_if (PW.pt (pw_or (pt_not (pt_val (pe_call (ok_is_integer T) (hr.mono (by decide)) (by rfl) T.is_integer.g T.is_integer.F.kp T.is_integer.B .nil pass0 (pa_cons (pe_ix (w_ixT (K := K) rfl) (pv 0) pe_int (fun _ _ => rfl)) pa_nil)))) (pw_or1 (pt_not (pt_chain op_le op_lt pe_int (pe_ix (w_ixT (K := K) rfl) (pv 0) pe_int (fun _ _ => rfl)) (pv 1)))))) (pss_one (ps_ret pe_bl)) pss_nil)
      (pss_one (ps_ret (pe_call (ok_is_moves T) (hr.mono (by decide)) (by rfl) T.is_moves.g T.is_moves.F.kp T.is_moves.B .nil pass0 (pa_cons (pe_ix (w_ixT (K := K) rfl) (pv 0) pe_int (fun _ _ => rfl)) (pa_cons (pv 2) pa_nil)))))))))), ?_⟩
  refine x_start (σ' := [some _, some _, some _]) rfl ?_
  try simp only [cx_n, cx_K, cx_w, cx_P]
  cases st with
  | fin =>
    obtain ⟨p, rfl, hp⟩ := hst
    walk_at "rd"
    refine x_isiT (ty_tup hp) (by decide +kernel) ?_
    walk_at "rd"
    refine x_lenT' hp ?_
    walk_at "rd"
    walk_at "if!"
    walk_at "rd"
    refine x_ixT hp (atI_nat (j := 0) rfl) ?_
    walk_at "rd"
    refine x_isiT (.base (.str _)) (by decide +kernel) ?_
    walk_at "rd"
    refine x_ixT hp (atI_nat (j := 0) rfl) ?_
    walk_at "rd"
    walk_at "if!"
    walk_at "rd"
    refine x_lenT' hp ?_
    walk_at "rd"
    exact k H (SX.refl H)
  | chance ds =>
    obtain ⟨p, d, rfl, hp, hd⟩ := hst
    obtain ⟨h1, h4, hnd, hall⟩ := hok
    walk_at "rd"
    refine x_isiT (ty_tup hp) (by decide +kernel) ?_
    walk_at "rd"
    refine x_lenT' hp ?_
    walk_at "rd"
    walk_at "if!"
    walk_at "rd"
    refine x_ixT hp (atI_nat (j := 0) rfl) ?_
    walk_at "rd"
    refine x_isiT (.base (.str _)) (by decide +kernel) ?_
    walk_at "rd"
    refine x_ixT hp (atI_nat (j := 0) rfl) ?_
    walk_at "rd"
    walk_at "if!"
    walk_at "rd"
    refine x_ixT hp (atI_nat (j := 0) rfl) ?_
    walk_at "rd"
    walk_at "if!"
    walk_at "rd"
    refine x_lenT' hp ?_
    walk_at "rd"
    walk_at "if!"
    walk_at "rd"
    refine x_ixT hp (atI_nat (j := 1) rfl) ?_
    walk_at "rd"
    exact ⟨_, _, ds, names, rfl, hd, hu2, h1, h4, hall, k⟩
  | hand h ms =>
    obtain ⟨p, d, rfl, hp, hd⟩ := hst
    obtain ⟨hh0, hh1, h1, h4, hnd, hall⟩ := hok
    walk_at "rd"
    refine x_isiT (ty_tup hp) (by decide +kernel) ?_
    walk_at "rd"
    refine x_lenT' hp ?_
    walk_at "rd"
    walk_at "if!"
    walk_at "rd"
    refine x_ixT hp (atI_nat (j := 0) rfl) ?_
    walk_at "rd"
    refine x_isiT (.base (.str _)) (by decide +kernel) ?_
    walk_at "rd"
    refine x_ixT hp (atI_nat (j := 0) rfl) ?_
    walk_at "rd"
    walk_at "if!"
    walk_at "rd"
    refine x_ixT hp (atI_nat (j := 0) rfl) ?_
    walk_at "rd"
    walk_at "if!"
    walk_at "rd"
    refine x_ixT hp (atI_nat (j := 0) rfl) ?_
    walk_at "rd"
    walk_at "if!"
    walk_at "rd"
    refine x_lenT' hp ?_
    walk_at "rd"
    walk_at "if!"
    walk_at "rd"
    refine x_ixT hp (atI_nat (j := 1) rfl) ?_
    walk_at "rd"
    refine ⟨_, rfl, ?_⟩
    walk_at "rd"
    refine x_ixT hp (atI_nat (j := 1) rfl) ?_
    walk_at "rd"
    refine x_true (decide_eq_true hh0) ?_
    walk_at "rd"
    rw [decide_eq_true hh1]
    walk_at "rd"
    refine x_ixT hp (atI_nat (j := 2) rfl) ?_
    walk_at "rd"
    exact ⟨_, _, ms, names, rfl, hd, hu2, h1, h4, hall, k⟩
def sp_are_stands (T : Tx K mg) : Sp := fun vs H Q _ => ∃ v n sts, vs = [v, .int n] ∧ rD (rStand K) H v sts ∧ 1 ≤ sts.length ∧ sts.length ≤ 100 ∧
  (∀ p ∈ sts, nameB p.1 = true ∧ StandOk n (sts.map (·.1)) p.2) ∧ ∀ H', SX [] H H' → Q (.bl true) H'
theorem ok_are_stands (T : Tx K mg) : FnOk P w K mg base CX0 4 T.are_stands.f T.are_stands.fd P_are_stands (sp_are_stands T) := by
  refine T.are_stands.F.ok sc_are_stands (fun vs H Q E h => ?_) (fun cdv A outer s H vs Q E hr h => ?_)
  · obtain ⟨v, n, sts, rfl, ⟨d, kvs, hv, hd, hk⟩, h1, h100, hall, k⟩ := h
    rfl
  have hu := hu_of hr
  have nd := sc_are_stands.nd
  obtain ⟨v, n, sts, rfl, ⟨d, kvs, hv, hd, hk⟩, h1, h100, hall, k⟩ := h
  refine ⟨_, (pss_cons (ps_if (PW.pt (pw_or (pt_not (pt_val (pe_callB (w_isi (K := K) rfl) (by rfl) T.b_isinstance (by decide +kernel) (pa_cons (pv 0) (pa_cons (pe_bltn (v := .ty "dict") (by rfl) T.b_dict (by decide +kernel) rfl) pa_nil))))) (pw_or1 (pt_not (pt_chain op_le op_le pe_int (pe_callB cl_lenD (by rfl) T.b_len (by decide +kernel) (pa_cons (pv 0) pa_nil)) pe_int))))) (pss_one (ps_ret pe_bl)) pss_nil)
      (pss_cons (ps_lockR (ps_for PassesOwn.never rfl (pi_keys (pv 0)) (pg_name (i := 2) nd rfl (Or.inl rfl)) (pss_one (ps_if (pt_not (pt_val (pe_call (ok_is_name T) (hr.mono (by decide)) (by rfl) T.is_name.g T.is_name.F.kp T.is_name.B .nil pass0 (pa_cons (pv 2) pa_nil)))) (pss_one (ps_ret pe_bl)) pss_nil))))
      (pss_cons (ps_lockR (ps_for PassesOwn.never rfl (pi_values (pv 0)) (pg_name (i := 3) nd rfl (Or.inl rfl)) (pss_one (ps_if (pt_not (pt_val (pe_call (ok_is_stand T) (hr.mono (by decide)) (by rfl) T.is_stand.g T.is_stand.F.kp T.is_stand.B .nil pass0 (pa_cons (pv 3) (pa_cons (pv 1) (pa_cons (pv 0) pa_nil)))))) (pss_one (ps_ret pe_bl)) pss_nil))))
      (pss_one (ps_ret pe_bl))))), ?_⟩
  refine x_start (σ' := [some _, some _, none, none]) rfl ?_
  try simp only [cx_n, cx_K, cx_w, cx_P]
  subst hv
  walk_at "rd"
  refine x_isiT (ty_dict hd) (by decide +kernel) ?_
  walk_at "rd"
  have hl : kvs.length = sts.length := Paired.length hk
  refine x_lenD hd ?_
  walk_at "rd"
  rw [hl]
  refine x_true (decide_eq_true (by omega)) ?_
  walk_at "rd"
  rw [decide_eq_true (show (sts.length : Int) ≤ 100 by omega)]
  walk_at "rd"
  refine x_lockR hd fun od HL eL ne => ?_
  walk_at "rd"
  refine ⟨d, od, rfl, .inl ⟨kvs, eL, ?_⟩⟩
  have leL : Le H HL := lock_le hd eL ne
  refine for_it (walk_keysR (KVs.le (mono_stand K) leL hk)) (fun i σ H' => SX [] HL H' ∧ ∃ a, σ = [some (.ref d), some (.int n), a, none]) ⟨SX.refl _, _, rfl⟩ (fun _ _ _ _ h => h.1 _ _ List.not_mem_nil eL) ?_ ?_
  · rintro i x σ H0 H1 hi ⟨sx, a, rfl⟩ ⟨rfl, p, v, hp, rfl, hv⟩
    obtain ⟨n1, n2⟩ := hall p (getMem hp)
    walk_at "rd"
    refine ⟨_, rfl, nameB_size n1, ?_⟩
    rw [n1]
    walk_at "rd"
    exact ⟨sx, _, rfl⟩
  rintro σ H1 ⟨sx, a, rfl⟩
  refine ⟨sx _ _ List.not_mem_nil eL, ?_⟩
  have sx1 : SX [] H (put H1 d (H d)) := unlock_sx ne sx
  generalize put H1 d (H d) = H2 at sx1
  walk_at "rd"
  refine x_lockR (sx1.rd hd) fun od2 HL2 eL2 ne2 => ?_
  walk_at "rd"
  refine ⟨d, od2, kvs, rfl, eL2, ?_⟩
  have leL2 : Le H HL2 := sx1.le0.trans (lock_le (sx1.rd hd) eL2 ne2)
  refine for_it (walk_valsR (KVs.le (mono_stand K) leL2 hk)) (fun i σ H' => SX [] HL2 H' ∧ ∃ b, σ = [some (.ref d), some (.int n), a, b]) ⟨SX.refl _, _, rfl⟩ (fun _ _ _ _ h => h.1 _ _ List.not_mem_nil eL2) ?_ ?_
  · rintro i x σ H0 H1 hi ⟨sx, b, rfl⟩ ⟨rfl, p, hp, hv⟩
    obtain ⟨n1, n2⟩ := hall p (getMem hp)
    walk_at "rd"
    refine ⟨_, _, n, p.2, sts.map (·.1), rfl, mono_stand K _ _ _ _ sx.le0 hv, ⟨d, kvs, rfl, sx.rd (Rd.le leL2 hd), hk.keys⟩, n2, fun H' sx' => ?_⟩
    walk_at "rd"
    exact ⟨sx.trans sx', _, rfl⟩
  · rintro σ H1 ⟨sx, b, rfl⟩
    refine ⟨sx _ _ List.not_mem_nil eL2, ?_⟩
    walk_at "rd"
    exact k _ (sx1.trans (unlock_sx ne2 sx))
end
end M

namespace M
open PySem PySem.Spec PyProof.Rows L2
/-- the same stand, its steps ascending -/
def SrtStand : Stand → Stand → Prop
  | .fin, .fin => True
  | .hand h ms, .hand h' ms' => h = h' ∧ Srt ms ms'
  | .chance ds, .chance ds' => Srt ds ds'
  | _, _ => False
/-- the stands to which steps lead -/
def Stand.tos : Stand → List Str
  | .fin => []
  | .hand _ ms => ms.map (·.2)
  | .chance ds => ds.map (·.2.1)
def Stand.size : Stand → Nat
  | .fin => 0
  | .hand _ ms => ms.length
  | .chance ds => ds.length
def Stand.nd : Stand → Prop
  | .fin => True
  | .hand _ ms => (ms.map (·.1)).Nodup
  | .chance ds => (ds.map (·.1)).Nodup
theorem SrtStand.tos {a b : Stand} (h : SrtStand a b) : b.tos.Perm a.tos := by
  cases a <;> cases b <;> first | exact h.elim | exact .refl _ | exact (h.2.perm.map _) | exact (Srt.perm h).map _
section
variable {P : Program} {w : World} {K : PySem.W.Frag} {mg : Str → Option Value} {base : Heap}
def sp_copied (T : Tx K mg) : Sp := fun vs H Q _ => ∃ v st S, vs = [v] ∧ (∀ b ∈ S, H b ≠ none) ∧ rStand K (hid S H) v st ∧ st.nd ∧ st.size ≤ 100 ∧ ∀ v' H' st', SX [] H H' → rStand K (hid S H') v' st' → SrtStand st st' → Q v' H'
theorem ok_copied (T : Tx K mg) : FnOk P w K mg base CX0 1 T.copied.f T.copied.fd P_copied (sp_copied T) := by
  refine T.copied.F.ok sc_copied (fun vs H Q E h => ?_) (fun cdv A outer s H vs Q E hr h => ?_)
  · obtain ⟨v, st, S, rfl, hS, hst, hnd, hsz, k⟩ := h
    rfl
  have hu := hu_of hr
  have nd := sc_copied.nd
  obtain ⟨v, st, S, rfl, hS, hst, hnd, hsz, k⟩ := h
  refine ⟨_, (pss_cons (ps_if (pt_cmpR op_eq (pe_ix (w_ixT (K := K) rfl) (pv 0) pe_int (fun _ _ => rfl)) pe_str (nomark _)) (pss_one (ps_ret (pe_tup (pa_cons pe_str pa_nil)))) pss_nil)
      (pss_cons (ps_set (i := 1) nd rfl (Or.inr rfl) (pe_ix (w_ixT (K := K) rfl) (pv 0) (pe_op op_sub (pe_callB (w_len (K := K) rfl) (by rfl) T.b_len (by decide +kernel) (pa_cons (pv 0) pa_nil)) pe_int) (fun _ _ => rfl)))
      (pss_cons (ps_setDc (i := 2) (own := [("step", 3)]) rfl nd rfl rfl (sw_dc rfl rfl rfl (by decide +kernel)) (w_pilist (K := K) rfl (pe_callB (cl_sortD rfl) (by rfl) T.b_sorted (by decide +kernel) (pa_cons (pv 1) pa_nil))) (blkOk_by (own := [("step", 3)]) (N := N_copied) (sc := defScope s_copied) (by decide +kernel)) (fun _ _ _ _ _ => (pg_name (i := 3) nd rfl (Or.inl rfl))) (fun _ _ _ _ _ => pts_nil) (fun _ _ _ _ _ => (pv 3)) (fun _ _ _ _ _ => (pe_dget hu (pv 1) (pv 3) (fun _ _ => rfl))))
      (pss_cons (ps_if (pt_cmpR op_eq (pe_ix (w_ixT (K := K) rfl) (pv 0) pe_int (fun _ _ => rfl)) pe_str (nomark _)) (pss_one (ps_ret (pe_tup (pa_cons pe_str (pa_cons (pe_ix (w_ixT (K := K) rfl) (pv 0) pe_int (fun _ _ => rfl)) (pa_cons (pv 2) pa_nil)))))) pss_nil)
      (pss_one (ps_ret (pe_tup (pa_cons pe_str (pa_cons (pv 2) pa_nil))))))))), ?_⟩
  refine x_start (σ' := [some _, none, none, none]) rfl ?_
  try simp only [cx_n, cx_K, cx_w, cx_P]
  cases st with
  | fin =>
    obtain ⟨p, rfl, hp0⟩ := hst
    have hp := le_hid.t hp0
    walk_at "rd"
    refine x_ixT hp (atI_nat (j := 0) rfl) ?_
    walk_at "rd"
    walk_at "if!"
    walk_at "rd"
    refine ⟨Nat.le_of_ble_eq_true rfl, fun q hq => ?_⟩
    exact k _ _ .fin (SX.new hq) ⟨q, rfl, sqT (hid_new hq hS)⟩ trivial
  | hand h ms =>
    obtain ⟨p, d, rfl, hp0, hd⟩ := hst
    have hp := le_hid.t hp0
    obtain ⟨dd, kvs, rfl, hd1, hd2⟩ := id hd
    walk_at "rd"
    refine x_ixT hp (atI_nat (j := 0) rfl) ?_
    walk_at "rd"
    walk_at "if!"
    walk_at "rd"
    refine x_lenT' hp ?_
    walk_at "rd"
    refine x_ixT hp (v := .ref dd) (atI_nat (j := 2) rfl) ?_
    walk_at "rd"
    refine x_copyD (S := S) (i := 1) (j := 3) mono_S hS (by rfl) (by simp) (by decide) hd hnd (by show ms.length ≤ 10000; exact Nat.le_trans hsz (by decide)) fun D H' l' s1 hD r1 hD' sr => ?_
    walk_at "rd"
    refine x_ixT (s1.le0.t hp) (atI_nat (j := 0) rfl) ?_
    walk_at "rd"
    walk_at "if!"
    walk_at "rd"
    refine x_ixT (s1.le0.t hp) (atI_nat (j := 1) rfl) ?_
    walk_at "rd"
    refine ⟨Nat.le_of_ble_eq_true rfl, fun q hq => ?_⟩
    have s2 : SX [] H' (upd H' q (.tup [.str "hand", .int h, .ref D])) := SX.new hq
    exact k _ _ (.hand h l') (s1.trans s2) ⟨q, .ref D, rfl, sqT (hid_new hq (there s1 hS)), mono_D mono_S _ _ _ _ (nil_sx s2).le r1⟩ ⟨rfl, sr⟩
  | chance ds =>
    obtain ⟨p, d, rfl, hp0, hd⟩ := hst
    have hp := le_hid.t hp0
    obtain ⟨dd, kvs, rfl, hd1, hd2⟩ := id hd
    walk_at "rd"
    refine x_ixT hp (atI_nat (j := 0) rfl) ?_
    walk_at "rd"
    walk_at "if!"
    walk_at "rd"
    refine x_lenT' hp ?_
    walk_at "rd"
    refine x_ixT hp (v := .ref dd) (atI_nat (j := 1) rfl) ?_
    walk_at "rd"
    refine x_copyD (S := S) (i := 1) (j := 3) (mono_P mono_S mono_I) hS (by rfl) (by simp) (by decide) hd hnd (by show ds.length ≤ 10000; exact Nat.le_trans hsz (by decide)) fun D H' l' s1 hD r1 hD' sr => ?_
    walk_at "rd"
    refine x_ixT (s1.le0.t hp) (atI_nat (j := 0) rfl) ?_
    walk_at "rd"
    walk_at "if!"
    walk_at "rd"
    refine ⟨Nat.le_of_ble_eq_true rfl, fun q hq => ?_⟩
    have s2 : SX [] H' (upd H' q (.tup [.str "chance", .ref D])) := SX.new hq
    exact k _ _ (.chance l') (s1.trans s2) ⟨q, .ref D, rfl, sqT (hid_new hq (there s1 hS)), mono_D (mono_P mono_S mono_I) _ _ _ _ (nil_sx s2).le r1⟩ sr
/-- a work at x: its table -/
def TableAt (T : Tx K mg) (H : Hp) (x : Addr) (tbl : List (Str × Stand)) : Prop := ∃ dx fs d, H x = some (.ins T.a_Work dx fs) ∧ fs.lookup ("table" : Str) = some (V.ref d) ∧ rD (rStand K) H (.ref d) tbl
theorem TableAt.le {T : Tx K mg} {A B : Hp} {x : Addr} {tbl : List (Str × Stand)} (e : Le A B) (h : TableAt T A x tbl) : TableAt T B x tbl := by
  obtain ⟨dx, fs, d, h1, h2, h3⟩ := h
  exact ⟨dx, fs, d, e.ins _ _ _ _ h1, h2, mono_D (mono_stand K) _ _ _ _ e h3⟩
def sp_leads (T : Tx K mg) : Sp := fun vs H Q _ => ∃ x s tbl st, vs = [.ref x, .str s] ∧ TableAt T H x tbl ∧ lookA tbl s = some st ∧ st.nd ∧ st.size ≤ 100 ∧
  ∀ p H', SX [] H H' → H p = none → H' p = some (.lst (st.tos.map V.str)) → Q (.ref p) H'
theorem ok_leads (T : Tx K mg) : FnOk P w K mg base CX0 1 T.leads.f T.leads.fd P_leads (sp_leads T) := by
  refine T.leads.F.ok sc_leads (fun vs H Q E h => ?_) (fun cdv A outer s H vs Q E hr h => ?_)
  · obtain ⟨x, s, tbl, st, rfl, ⟨dx, fs, d, h1, h2, h3⟩, hs, hnd, hsz, k⟩ := h
    rfl
  have hu := hu_of hr
  have nd := sc_leads.nd
  obtain ⟨x, s, tbl, st, rfl, ⟨dx, fs, d, h1, h2, h3⟩, hs, hnd, hsz, k⟩ := h
  refine ⟨_, (pss_cons (ps_set (i := 2) nd rfl (Or.inr rfl) (pe_dget hu (w_fld (K := K) rfl (pv 0) rfl) (pv 1) (fun _ _ => rfl)))
      (pss_cons (ps_if (pt_cmpR op_eq (pe_ix (w_ixT (K := K) rfl) (pv 2) pe_int (fun _ _ => rfl)) pe_str (nomark _)) (pss_one (ps_ret (pe_lst pa_nil))) pss_nil)
      (pss_cons (ps_if (pt_cmpR op_eq (pe_ix (w_ixT (K := K) rfl) (pv 2) pe_int (fun _ _ => rfl)) pe_str (nomark _)) (pss_one (ps_ret (pe_lockR (pe_lc (own := [("step", 3)]) rfl nd (pi_keys (pe_ix (w_ixT (K := K) rfl) (pv 2) pe_int (fun _ _ => rfl))) (blkOk_by (own := [("step", 3)]) (N := N_leads) (sc := defScope s_leads) (by decide +kernel)) (fun _ _ _ _ _ => (pg_name (i := 3) nd rfl (Or.inl rfl))) (fun _ _ _ _ _ => pts_nil) (fun _ _ _ _ _ => (pe_dget hu (pe_ix (w_ixT (K := K) rfl) (pv 2) pe_int (fun _ _ => rfl)) (pv 3) (fun _ _ => rfl))))))) pss_nil)
      (pss_one (ps_ret (pe_lockR (pe_lc (own := [("step", 3)]) rfl nd (pi_keys (pe_ix (w_ixT (K := K) rfl) (pv 2) pe_int (fun _ _ => rfl))) (blkOk_by (own := [("step", 3)]) (N := N_leads) (sc := defScope s_leads) (by decide +kernel)) (fun _ _ _ _ _ => (pg_name (i := 3) nd rfl (Or.inl rfl))) (fun _ _ _ _ _ => pts_nil) (fun _ _ _ _ _ => (pe_ix (w_ixT (K := K) rfl) (pe_dget hu (pe_ix (w_ixT (K := K) rfl) (pv 2) pe_int (fun _ _ => rfl)) (pv 3) (fun _ _ => rfl)) pe_int (fun _ _ => rfl)))))))))), ?_⟩
  refine x_start (σ' := [some _, some _, none, none]) rfl ?_
  try simp only [cx_n, cx_K, cx_w, cx_P]
  obtain ⟨d', kvs, hd', hr, hk⟩ := h3
  cases hd'
  obtain ⟨v, e1, hst⟩ := hk.at_ hs
  walk_at "rd"
  refine ⟨x, _, dx, fs, _, rfl, h1, T.cl_Work, T.n_Work_table, h2, ?_⟩
  walk_at "rd"
  refine x_dg' hr e1 ?_
  walk_at "rd"
  cases st with
  | fin =>
    obtain ⟨p, rfl, hp⟩ := hst
    refine x_ixT hp (atI_nat (j := 0) rfl) ?_
    walk_at "rd"
    walk_at "if!"
    walk_at "rd"
    exact ⟨Nat.le_of_ble_eq_true rfl, fun q hq => k q _ (SX.new hq) hq upd_same⟩
  | hand h ms =>
    obtain ⟨p, dd, rfl, hp, d1, kv1, rfl, hr1, hk1⟩ := hst
    refine x_ixT hp (atI_nat (j := 0) rfl) ?_
    walk_at "rd"
    walk_at "if!"
    walk_at "rd"
    refine x_ixT hp (atI_nat (j := 0) rfl) ?_
    walk_at "rd"
    walk_at "if!"
    walk_at "rd"
    refine x_lockRE hr1 fun od HL eL ne => ?_
    have leL : Le H HL := lock_le hr1 eL ne
    walk_at "rd"
    refine x_ixT (leL.t hp) (v := .ref d1) (atI_nat (j := 2) rfl) ?_
    refine ⟨d1, od, rfl, .inl ⟨kv1, eL, fun D hD => ?_⟩⟩
    have hDd : d1 ≠ D := ne_of_none eL hD
    have hD0 : H D = none := by rw [← ne D (Ne.symm hDd)]; exact hD
    refine lc_it (walk_keysR hk1) (fun n A => SX [] HL A ∧ A D = some (.lst ((ms.take n).map fun p => V.str p.2))) ⟨SX.new hD, upd_same⟩ (fun _ _ _ h => h.1 _ _ List.not_mem_nil eL) ?_ ?_
    · rintro n y A B hn ⟨s1, s2⟩ ⟨rfl, q, v, hq, rfl, rfl⟩
      walk_at "rd"
      refine ⟨rfl, ?_⟩
      walk_at "rd"
      refine x_ixT (s1.le0.t (leL.t hp)) (v := .ref d1) (atI_nat (j := 2) rfl) ?_
      walk_at "rd"
      obtain ⟨v3, e3, rfl⟩ := hk1.in_ hnd (getMem hq)
      refine x_dg' (s1.rd (Rd.le leL hr1)) e3 ?_
      refine ⟨_, s2, lt_size (by rw [List.length_map, List.length_take]; have : ms.length ≤ 100 := hsz; omega), sx_nil_of (S := [D]) ((nil_sx s1).trans (SX.mut List.mem_cons_self)) (by simp [hD]), ?_⟩
      rw [upd_same, take_succ_of hq, List.map_append]
      rfl
    · rintro A ⟨s1, s2⟩
      refine ⟨s1 _ _ List.not_mem_nil eL, ?_⟩
      rw [List.take_length] at s2
      refine k D _ (unlock_sx ne s1) hD0 ?_
      rw [put_ne (Ne.symm hDd), s2]
      show _ = some (HO.lst ((ms.map (·.2)).map V.str))
      rw [List.map_map]
      rfl
  | chance ds =>
    obtain ⟨p, dd, rfl, hp, d1, kv1, rfl, hr1, hk1⟩ := hst
    refine x_ixT hp (atI_nat (j := 0) rfl) ?_
    walk_at "rd"
    walk_at "if!"
    walk_at "rd"
    refine x_ixT hp (atI_nat (j := 0) rfl) ?_
    walk_at "rd"
    walk_at "if!"
    walk_at "rd"
    refine x_lockRE hr1 fun od HL eL ne => ?_
    have leL : Le H HL := lock_le hr1 eL ne
    walk_at "rd"
    refine x_ixT (leL.t hp) (v := .ref d1) (atI_nat (j := 1) rfl) ?_
    refine ⟨d1, od, rfl, .inl ⟨kv1, eL, fun D hD => ?_⟩⟩
    have hDd : d1 ≠ D := ne_of_none eL hD
    have hD0 : H D = none := by rw [← ne D (Ne.symm hDd)]; exact hD
    refine lc_it (walk_keysR hk1) (fun n A => SX [] HL A ∧ A D = some (.lst ((ds.take n).map fun p => V.str p.2.1))) ⟨SX.new hD, upd_same⟩ (fun _ _ _ h => h.1 _ _ List.not_mem_nil eL) ?_ ?_
    · rintro n y A B hn ⟨s1, s2⟩ ⟨rfl, q, v, hq, rfl, _⟩
      walk_at "rd"
      refine ⟨rfl, ?_⟩
      walk_at "rd"
      refine x_ixT (s1.le0.t (leL.t hp)) (v := .ref d1) (atI_nat (j := 1) rfl) ?_
      walk_at "rd"
      obtain ⟨v3, e3, a, x1, x2, rfl, ha, rfl, rfl⟩ := hk1.in_ hnd (getMem hq)
      refine x_dg' (s1.rd (Rd.le leL hr1)) e3 ?_
      walk_at "rd"
      refine x_ixT (s1.le0.t (leL.t ha)) (atI_nat (j := 0) rfl) ?_
      refine ⟨_, s2, lt_size (by rw [List.length_map, List.length_take]; have : ds.length ≤ 100 := hsz; omega), sx_nil_of (S := [D]) ((nil_sx s1).trans (SX.mut List.mem_cons_self)) (by simp [hD]), ?_⟩
      rw [upd_same, take_succ_of hq, List.map_append]
      rfl
    · rintro A ⟨s1, s2⟩
      refine ⟨s1 _ _ List.not_mem_nil eL, ?_⟩
      rw [List.take_length] at s2
      refine k D _ (unlock_sx ne s1) hD0 ?_
      rw [put_ne (Ne.symm hDd), s2]
      show _ = some (HO.lst ((ds.map (·.2.1)).map V.str))
      rw [List.map_map]
      rfl
end
end M

namespace M
open PySem PySem.Spec PyProof.Rows L2
/-! ### settling, round by round -/
def addS (s : List Str) (n : Str) : List Str := if n ∈ s then s else s ++ [n]
def tosOf (tbl : List (Str × Stand)) (n : Str) : List Str := ((lookA tbl n).map Stand.tos).getD []
def turnR (f : Str → List Str) (rs : List Str × List Str) (n : Str) : List Str × List Str := if ((f n).all fun t => decide (t ∈ rs.2)) = true then (rs.1, addS rs.2 n) else (rs.1 ++ [n], rs.2)
def roundR (f : Str → List Str) (left s : List Str) : List Str × List Str := left.foldl (turnR f) ([], s)
def ringR (f : Str → List Str) : Nat → List Str → List Str → List Str
  | 0, left, _ => left
  | n + 1, left, s => if (roundR f left s).1.length < left.length then ringR f n (roundR f left s).1 (roundR f left s).2 else (roundR f left s).1
def ringB (tbl : List (Str × Stand)) : Bool := decide ((ringR (tosOf tbl) (tbl.length + 1) (tbl.map (·.1)) []).length = 0)
theorem ringR_succ (f : Str → List Str) (n : Nat) (left s : List Str) : ringR f (n + 1) left s = if (roundR f left s).1.length < left.length then ringR f n (roundR f left s).1 (roundR f left s).2 else (roundR f left s).1 := rfl
def muR (σ : L2.St) (A : Hp) : Nat := match σ with
  | [_, some (.ref L), _, some (.bl true), _, _, _] => (match A L with | some (.lst l) => l.length + 1 | _ => 0)
  | _ => 0
theorem muR_true {A : Hp} {L : Addr} {l : List V} {a b c d e : Option V} (h : A L = some (.lst l)) : muR [a, some (.ref L), b, some (.bl true), c, d, e] A = l.length + 1 := by
  show (match A L with | some (.lst l) => l.length + 1 | _ => 0) = _
  rw [h]
theorem muR_false {A : Hp} {L : Addr} {a b c d e : Option V} : muR [a, some (.ref L), b, some (.bl false), c, d, e] A = 0 := rfl
theorem tos_len (st : Stand) : st.tos.length = st.size := by
  cases st with
  | fin => rfl
  | hand h ms => exact List.length_map _
  | chance ds => exact List.length_map _
theorem ringR_fuel (f : Str → List Str) : ∀ (n m : Nat) (left s : List Str), left.length < n → left.length < m → ringR f n left s = ringR f m left s
  | 0, _, _, _, h, _ => absurd h (Nat.not_lt_zero _)
  | _, 0, _, _, _, h => absurd h (Nat.not_lt_zero _)
  | n + 1, m + 1, left, s, h1, h2 => by
    unfold ringR
    split
    · exact ringR_fuel f n m _ _ (by omega) (by omega)
    · rfl
theorem addS_len (s : List Str) (n : Str) : (addS s n).length ≤ s.length + 1 := by
  unfold addS
  split
  · omega
  · simp
theorem turnR_len (f : Str → List Str) (rs : List Str × List Str) (n : Str) : (turnR f rs n).1.length + (turnR f rs n).2.length ≤ rs.1.length + rs.2.length + 1 := by
  unfold turnR
  split
  · have := addS_len rs.2 n
    show rs.1.length + (addS rs.2 n).length ≤ _
    omega
  · show (rs.1 ++ [n]).length + rs.2.length ≤ _
    rw [List.length_append]
    show rs.1.length + 1 + rs.2.length ≤ _
    omega
theorem foldR_len (f : Str → List Str) : ∀ (l : List Str) (rs : List Str × List Str), (l.foldl (turnR f) rs).1.length + (l.foldl (turnR f) rs).2.length ≤ rs.1.length + rs.2.length + l.length
  | [], rs => Nat.le_refl _
  | n :: l, rs => by
    have h1 := foldR_len f l (turnR f rs n)
    have h2 := turnR_len f rs n
    show (l.foldl (turnR f) (turnR f rs n)).1.length + (l.foldl (turnR f) (turnR f rs n)).2.length ≤ _
    rw [List.length_cons]
    omega
theorem foldR_take (f : Str → List Str) {l : List Str} {i : Nat} {n : Str} (h : l[i]? = some n) (rs : List Str × List Str) : (l.take (i + 1)).foldl (turnR f) rs = turnR f ((l.take i).foldl (turnR f) rs) n := by
  rw [take_succ_of h, List.foldl_append]
  rfl
theorem foldR_sub (f : Str → List Str) : ∀ (l : List Str) (rs : List Str × List Str) (x : Str), x ∈ (l.foldl (turnR f) rs).1 → x ∈ rs.1 ∨ x ∈ l
  | [], rs, x, h => .inl h
  | n :: l, rs, x, h => by
    rcases foldR_sub f l (turnR f rs n) x h with h | h
    · unfold turnR at h
      split at h
      · exact .inl h
      · rcases List.mem_append.mp h with h | h
        · exact .inl h
        · exact .inr (List.mem_cons.mpr (.inl (List.mem_singleton.mp h)))
    · exact .inr (List.mem_cons_of_mem _ h)
theorem keys_put {kv : List (Key × V)} {l : List Str} {s : Str} {v : V} (e : kv.map (·.1) = l.map Sum.inr) : (putK kv (Sum.inr s) v).map (·.1) = (addS l s).map Sum.inr := by
  unfold addS
  by_cases m : s ∈ l
  · rw [if_pos m, ← e]
    unfold putK
    have h : (kv.any fun p => decide (p.1 = (Sum.inr s : Key))) = true := by rw [valV_any, keys_val e, decide_eq_true m]
    rw [if_pos h, List.map_map]
    apply List.map_congr_left
    intro p hp
    show (if p.1 = (Sum.inr s : Key) then (p.1, v) else p).1 = p.1
    split <;> rfl
  · rw [if_neg m, putK_fresh v e m, List.map_append, List.map_append, e]
    rfl
section
variable {P : Program} {w : World} {K : PySem.W.Frag} {mg : Str → Option Value} {base : Heap}
def sp_is_ringless (T : Tx K mg) : Sp := fun vs H Q _ => ∃ x tbl dx fs d nm, vs = [.ref x] ∧ H x = some (.ins T.a_Work dx fs) ∧ fs.lookup ("table" : Str) = some (V.ref d) ∧ rD (rStand K) H (.ref d) tbl ∧
  fs.lookup ("names" : Str) = some (V.ref nm) ∧ SqT K H nm ((tbl.map (·.1)).map V.str) ∧ tbl.length ≤ 100 ∧ (∀ p ∈ tbl, p.2.nd ∧ p.2.size ≤ 100) ∧ ∀ H', SX [] H H' → Q (.bl (ringB tbl)) H'
theorem ok_is_ringless (T : Tx K mg) : FnOk P w K mg base CX0 2 T.is_ringless.f T.is_ringless.fd P_is_ringless (sp_is_ringless T) := by
  refine T.is_ringless.F.ok sc_is_ringless (fun vs H Q E h => ?_) (fun cdv A outer s H vs Q E hr h => ?_)
  · obtain ⟨x, tbl, dx, fs, d, nm, rfl, h1, h2, h3, h4, h5, h100, hall, k⟩ := h
    rfl
  have hu := hu_of hr
  have nd := sc_is_ringless.nd
  obtain ⟨x, tbl, dx, fs, d, nm, rfl, h1, h2, h3, h4, h5, h100, hall, k⟩ := h
  refine ⟨_, (pss_cons (ps_set (i := 1) nd rfl (Or.inl rfl) (pe_callTy (w_list (K := K) rfl) (by rfl) T.b_list (by decide +kernel) (pa_cons (w_fld (K := K) rfl (pv 0) rfl) pa_nil)))
      (pss_cons (ps_set (i := 2) nd rfl (Or.inr rfl) pe_dnewK)
      (pss_cons (ps_set (i := 3) nd rfl (Or.inl rfl) pe_bl)
      (pss_cons (ps_while PassesOwn.never (pt_val (pv 3)) (pss_cons (ps_set (i := 4) nd rfl (Or.inl rfl) (pe_lst pa_nil))
      (pss_cons (ps_for PassesOwn.never rfl (w_pilist (K := K) rfl (pv 1)) (pg_name (i := 5) nd rfl (Or.inl rfl)) (pss_one (ps_if (pt_val (pe_callB (w_all (K := K) rfl rfl) (by rfl) T.b_all (by decide +kernel) (pa_cons (pe_lc (own := [("to", 6)]) rfl nd (w_pilist (K := K) rfl (pe_call (ok_leads T) (hr.mono (by decide)) (by rfl) T.leads.g T.leads.F.kp T.leads.B .nil pass0 (pa_cons (pv 0) (pa_cons (pv 5) pa_nil)))) (blkOk_by (own := [("to", 6)]) (N := N_is_ringless) (sc := defScope s_is_ringless) (by decide +kernel)) (fun _ _ _ _ _ => (pg_name (i := 6) nd rfl (Or.inl rfl))) (fun _ _ _ _ _ => pts_nil) (fun _ _ _ _ _ => (pe_cmp (pc_din hu (pv 6) (pv 2)) rfl))) pa_nil))) (pss_one (ps_dput hu (pv 2) (pv 5) pe_bl rfl)) (pss_one (ps_expr (pe_bm PySem.F.plainAttrs_list PySem.F.slot_list_append PySem.F.type_list_append mt_append (pv 4) (pa_cons (pv 5) pa_nil)))))))
      (pss_cons (ps_set (i := 3) nd rfl (Or.inl rfl) (pe_cmpR op_lt (pe_callB (w_len (K := K) rfl) (by rfl) T.b_len (by decide +kernel) (pa_cons (pv 4) pa_nil)) (pe_callB (w_len (K := K) rfl) (by rfl) T.b_len (by decide +kernel) (pa_cons (pv 1) pa_nil)) (nomark _)))
      (pss_one (ps_set (i := 1) nd rfl (Or.inl rfl) (pv 4)))))))
      (pss_one (ps_ret (pe_cmpR op_eq (pe_callB (w_len (K := K) rfl) (by rfl) T.b_len (by decide +kernel) (pa_cons (pv 1) pa_nil)) pe_int (nomark _)))))))), ?_⟩
  refine x_start (σ' := [some _, none, none, none, none, none, none]) rfl ?_
  try simp only [cx_n, cx_K, cx_w, cx_P]
  walk_at "rd"
  refine ⟨x, _, dx, fs, _, rfl, h1, T.cl_Work, T.n_Work_names, h4, ?_⟩
  walk_at "rd"
  refine x_clistT h5 fun L0 hL0 => ?_
  walk_at "rd"
  intro S hS
  walk_at "rd"
  have hSL : S ≠ L0 := by
    rintro rfl
    rw [upd_same] at hS
    cases hS
  have hS0 : H S = none := by rw [upd_ne hSL] at hS; exact hS
  refine x_while (fun σ A => ∃ (L : Addr) (left settled : List Str) (going : Bool) (a b : Option V) (kv : List (Key × V)), σ = [some (.ref x), some (.ref L), some (.ref S), some (.bl going), a, b, none] ∧ SX [] H A ∧ A L = some (.lst (left.map V.str)) ∧ A S = some (.dK kv) ∧ kv.map (·.1) = settled.map Sum.inr ∧
      left.length + settled.length ≤ 100 ∧ (∀ n ∈ left, n ∈ tbl.map (·.1)) ∧ (going = true → ringR (tosOf tbl) (left.length + 1) left settled = ringR (tosOf tbl) (tbl.length + 1) (tbl.map (·.1)) []) ∧ (going = false → left = ringR (tosOf tbl) (tbl.length + 1) (tbl.map (·.1)) []))
    muR ?_ ?_ ?_
  · refine ⟨L0, tbl.map (·.1), [], true, none, none, [], rfl, (SX.new hL0).trans (SX.new hS), by rw [upd_ne (Ne.symm hSL)]; exact upd_same, upd_same, rfl, ?_, fun _ h => h, fun _ => ?_, fun h => nomatch h⟩
    · rw [List.length_map]
      exact h100
    · rw [List.length_map]
  · rintro σ A ⟨L, left, settled, going, a, b, kv, rfl, sx, hL, hK, hkeys, hlen, hin, hgo, hend⟩
    walk_at "rd"
    cases going with
    | false =>
      walk_at "rd"
      refine x_len (n := left.length) (.inl ⟨left.map V.str, sqL hL, by rw [List.length_map]⟩) ?_
      walk_at "rd"
      have e : decide (V.int (left.length : Int) = V.int 0) = ringB tbl := by
        unfold ringB
        rw [← hend rfl]
        by_cases h : left.length = 0
        · rw [decide_eq_true h, decide_eq_true (by rw [h]; rfl)]
        · rw [decide_eq_false h, decide_eq_false (by intro q; injection q with q; omega)]
      rw [e]
      exact k A sx
    | true =>
      walk_at "rd"
      refine ⟨Nat.le_of_ble_eq_true rfl, fun R hR => ?_⟩
      walk_at "rd"
      have hRL : L ≠ R := ne_of_none hL hR
      have hRS : S ≠ R := ne_of_none hK hR
      have hLS : L ≠ S := ne_of hL hK (by intro z; cases z)
      refine x_itl (sqL (by rw [upd_ne hRL]; exact hL)) ?_
      have hR0 : H R = none := (SX.free sx hR List.not_mem_nil)
      refine for_it (walk_listR (R := rS) (Hb := H) (paired_S' left)) (fun i σ B => ∃ (b : Option V) (kv : List (Key × V)), σ = [some (.ref x), some (.ref L), some (.ref S), some (.bl true), some (.ref R), b, none] ∧ SX [] H B ∧ B L = some (.lst (left.map V.str)) ∧ B S = some (.dK kv) ∧
        kv.map (·.1) = ((left.take i).foldl (turnR (tosOf tbl)) ([], settled)).2.map Sum.inr ∧ B R = some (.lst (((left.take i).foldl (turnR (tosOf tbl)) ([], settled)).1.map V.str))) ?_ ?_ ?_ ?_
      · exact ⟨_, kv, rfl, sx.trans (SX.new hR), by rw [upd_ne hRL]; exact hL, by rw [upd_ne hRS]; exact hK, hkeys, upd_same⟩
      · rintro i σ B _ ⟨_, _, rfl, _, hB, _⟩
        exact sqL hB
      · rintro i y σ B0 B hi ⟨b, kv2, rfl, s2, hL2, hS2, hk2, hR2⟩ ⟨rfl, n, hn, rfl⟩
        generalize hrs : (left.take i).foldl (turnR (tosOf tbl)) ([], settled) = rs at hk2 hR2
        have hlen2 : rs.1.length + rs.2.length ≤ 100 := by
          have := foldR_len (tosOf tbl) (left.take i) ([], settled)
          rw [hrs, List.length_take] at this
          simp only [List.length_nil] at this
          omega
        obtain ⟨st, hst⟩ := lookA_some (hin n (getMem hn))
        obtain ⟨c1, c2⟩ := hall _ (lookA_mem hst)
        have htos : tosOf tbl n = st.tos := by
          unfold tosOf
          rw [hst]
          rfl
        have hstep := foldR_take (tosOf tbl) hn ([], settled)
        rw [hrs] at hstep
        walk_at "rd"
        refine ⟨x, n, tbl, st, rfl, ⟨dx, fs, d, s2 _ _ List.not_mem_nil h1, h2, mono_D (mono_stand K) _ _ _ _ s2.le0 h3⟩, hst, c1, c2, fun p B1 sx1 hp hp1 => ?_⟩
        refine x_itl (sqL hp1) fun D hD => ?_
        have hDp : p ≠ D := ne_of_none hp1 hD
        have k1 := sx1 _ _ List.not_mem_nil hS2
        have hDS : S ≠ D := ne_of_none k1 hD
        refine lc_it (walk_listR (R := rS) (Hb := H) (paired_S' st.tos)) (fun m C => SX [] B1 C ∧ C D = some (.lst ((st.tos.take m).map fun t => V.bl (decide (t ∈ rs.2))))) ⟨SX.new hD, upd_same⟩ (fun m C _ h => sqL (h.1 _ _ List.not_mem_nil hp1)) ?_ ?_
        · rintro m y C C' hm ⟨s3, s4⟩ ⟨rfl, t, ht, rfl⟩
          walk_at "rd"
          refine ⟨rfl, ?_⟩
          walk_at "rd"
          refine x_din' (.inl (s3 _ _ List.not_mem_nil k1)) ?_
          rw [keys_val hk2]
          refine ⟨_, s4, lt_size (by rw [List.length_map, List.length_take]; have := tos_len st; have c3 : st.size ≤ 100 := c2; omega), sx_nil_of (S := [D]) ((nil_sx s3).trans (SX.mut List.mem_cons_self)) (by simp [hD]), ?_⟩
          rw [upd_same, take_succ_of ht, List.map_append]
          rfl
        · rintro C ⟨s3, s4⟩
          rw [List.take_length] at s4
          have sBC : SX [] B C := sx1.trans s3
          refine ⟨D, st.tos.map fun t => decide (t ∈ rs.2), rfl, sqL (by rw [s4, List.map_map]; rfl), ?_⟩
          walk_at "rd"
          have eall : ((st.tos.map fun t => decide (t ∈ rs.2)).all id) = ((tosOf tbl n).all fun t => decide (t ∈ rs.2)) := by
            rw [htos, List.all_map]
            rfl
          rw [eall]
          refine x_cases (fun hc => ?_) (fun hc => ?_)
          · walk_at "rd"
            refine ⟨S, _, rfl, DPut.k (k := Sum.inr n) (sBC _ _ List.not_mem_nil hS2) (lt_size (by have := congrArg List.length hk2; simp at this; omega)), ?_⟩
            have e2 : turnR (tosOf tbl) rs n = (rs.1, addS rs.2 n) := if_pos hc
            rw [hstep, e2]
            refine ⟨_, _, rfl, sx_nil_of (S := [S]) ((nil_sx (s2.trans sBC)).trans (SX.mut List.mem_cons_self)) (by simp [hS0]), by rw [upd_ne hLS]; exact sBC _ _ List.not_mem_nil hL2, upd_same, keys_put hk2, by rw [upd_ne (Ne.symm hRS)]; exact sBC _ _ List.not_mem_nil hR2⟩
          · walk_at "rd"
            have hR3 := sBC _ _ List.not_mem_nil hR2
            refine ⟨.inl ⟨rfl, _, sqL hR3⟩, ?_⟩
            walk_at "rd"
            refine ⟨R, _, _, rfl, rfl, hR3, lt_size (by rw [List.length_map]; omega), ?_⟩
            have e2 : turnR (tosOf tbl) rs n = (rs.1 ++ [n], rs.2) := if_neg (by rw [hc]; exact Bool.false_ne_true)
            rw [hstep, e2]
            refine ⟨_, _, rfl, sx_nil_of (S := [R]) ((nil_sx (s2.trans sBC)).trans (SX.mut List.mem_cons_self)) (by simp [hR0]), by rw [upd_ne hRL]; exact sBC _ _ List.not_mem_nil hL2, by rw [upd_ne hRS]; exact sBC _ _ List.not_mem_nil hS2, hk2, ?_⟩
            rw [upd_same, List.map_append]
            rfl
      · rintro σ B ⟨b, kv2, rfl, s2, hL2, hS2, hk2, hR2⟩
        rw [List.take_length] at hk2 hR2
        generalize hrs : left.foldl (turnR (tosOf tbl)) ([], settled) = rs at hk2 hR2
        have hround : roundR (tosOf tbl) left settled = rs := hrs
        walk_at "rd"
        refine x_len (n := rs.1.length) (.inl ⟨_, sqL hR2, by rw [List.length_map]⟩) ?_
        walk_at "rd"
        refine x_len (n := left.length) (.inl ⟨_, sqL hL2, by rw [List.length_map]⟩) ?_
        walk_at "rd"
        have hl2 : rs.1.length + rs.2.length ≤ 100 := by
          have := foldR_len (tosOf tbl) left ([], settled)
          rw [hrs] at this
          simp only [List.length_nil] at this
          omega
        have hg := hgo rfl
        rw [ringR_succ (tosOf tbl) left.length left settled] at hg
        rw [hround] at hg
        refine ⟨⟨R, rs.1, rs.2, _, _, _, kv2, rfl, s2, hR2, hS2, hk2, hl2, fun n hn => ?_, fun h => ?_, fun h => ?_⟩, ?_⟩
        · rcases foldR_sub (tosOf tbl) left ([], settled) n (by rw [hrs]; exact hn) with q | q
          · cases q
          · exact hin n q
        · have h : rs.1.length < left.length := by simpa using h
          rw [if_pos h] at hg
          rw [← hg]
          exact ringR_fuel _ _ _ _ _ (Nat.lt_succ_self _) h
        · have h : ¬ rs.1.length < left.length := by simpa using h
          rw [if_neg h] at hg
          exact hg
        · rw [muR_true hL, List.length_map]
          by_cases h : rs.1.length < left.length
          · rw [decide_eq_true (show (rs.1.length : Int) < left.length by omega), muR_true hR2, List.length_map]
            omega
          · rw [decide_eq_false (show ¬ (rs.1.length : Int) < left.length by omega), muR_false]
            omega
  · rintro σ A Q1 Q2 hm ⟨v, hv, c, hc, q⟩
    exact ⟨v, hv, c, hc, hm _ _ q⟩
end
end M

namespace M
open PySem PySem.Spec PyProof.Rows L2
/-- the fields of a work -/
def workF (hands : Int) (start : Str) (d nm en : Addr) (b : Bool) : List (Str × V) := [("hands", .int hands), ("start", .str start), ("table", .ref d), ("names", .ref nm), ("ends", .ref en), ("ringless", .bl b)]
/-- the table of a work, by its stands -/
structure Tbl (sts tbl : List (Str × Stand)) : Prop where
  srt : sortedS (tbl.map (·.1)) = true
  perm : (tbl.map (·.1)).Perm (sts.map (·.1))
  all : ∀ p ∈ tbl, ∃ st, lookA sts p.1 = some st ∧ SrtStand st p.2
def endsOf (tbl : List (Str × Stand)) : List Str := (tbl.filter fun p => match p.2 with | .fin => true | _ => false).map (·.1)
structure WorkOk (hands : Int) (start : Str) (sts : List (Str × Stand)) : Prop where
  h : 1 ≤ hands ∧ hands ≤ 4
  len : 1 ≤ sts.length ∧ sts.length ≤ 100
  nd : (sts.map (·.1)).Nodup
  all : ∀ p ∈ sts, nameB p.1 = true ∧ StandOk hands (sts.map (·.1)) p.2
  st : start ∈ sts.map (·.1)
theorem StandOk.nd {h : Int} {names : List Str} {st : Stand} (o : StandOk h names st) : st.nd := by
  cases st with
  | fin => exact trivial
  | hand h ms => exact o.2.2.2.2.1
  | chance ds => exact o.2.2.1
theorem StandOk.size {h : Int} {names : List Str} {st : Stand} (o : StandOk h names st) : st.size ≤ 4 := by
  cases st with
  | fin => exact Nat.zero_le _
  | hand h ms => exact o.2.2.2.1
  | chance ds => exact o.2.1
theorem SrtStand.size {a b : Stand} (h : SrtStand a b) : b.size = a.size := by rw [← tos_len, ← tos_len, (SrtStand.tos h).length_eq]
theorem SrtStand.nd {a b : Stand} (h : SrtStand a b) (n : a.nd) : b.nd := by
  cases a <;> cases b <;> first | exact h.elim | exact trivial | exact (h.2.perm.map _).nodup_iff.mpr n | exact ((Srt.perm h).map _).nodup_iff.mpr n
section
variable {P : Program} {w : World} {K : PySem.W.Frag} {mg : Str → Option Value} {base : Heap}
structure WorkAt (T : Tx K mg) (H : Hp) (x : Addr) (hands : Int) (start : Str) (tbl : List (Str × Stand)) : Prop where
  ex : ∃ dx d nm en, H x = some (.ins T.a_Work dx (workF hands start d nm en (ringB tbl))) ∧ rD (rStand K) H (.ref d) tbl ∧ SqT K H nm ((tbl.map (·.1)).map V.str) ∧ SqT K H en ((endsOf tbl).map V.str)
theorem WorkAt.le {T : Tx K mg} {A B : Hp} {x : Addr} {hands : Int} {start : Str} {tbl : List (Str × Stand)} (e : Le A B) (h : WorkAt T A x hands start tbl) : WorkAt T B x hands start tbl := by
  obtain ⟨dx, d, nm, en, h1, h2, h3, h4⟩ := h.ex
  exact ⟨dx, d, nm, en, e.ins _ _ _ _ h1, mono_D (mono_stand K) _ _ _ _ e h2, e.t h3, e.t h4⟩
theorem memF {f : Str} {fs : List (Str × V)} (h : (fs.map (·.1)).all (fun g => decide (g ≠ f)) = true) : f ∉ fs.map (·.1) := fun m => by
  have := List.all_eq_true.mp h f m
  simp at this
theorem ne_ref {H : Hp} {a b : Addr} {o u : HO} (h : H a = some o) (h' : H b = some u) (d : o ≠ u) : a ≠ b := ne_of h h' d
def sp_Work_init (T : Tx K mg) : Sp := fun vs H Q _ => ∃ x dx v hands start sts, vs = [.ref x, .int hands, .str start, v] ∧ H x = some (.ins T.a_Work dx []) ∧ rD (rStand K) (hid [x] H) v sts ∧ WorkOk hands start sts ∧
  ∀ H' tbl, SX [x] H H' → WorkAt T H' x hands start tbl → Tbl sts tbl → Q .non H'
theorem ok_Work_init (T : Tx K mg) : FnOk P w K mg base CX0 5 T.Work_init.f T.Work_init.fd P_Work_init (sp_Work_init T) := by
  refine T.Work_init.F.ok sc_Work_init (fun vs H Q E h => ?_) (fun cdv A outer s H vs Q E hr h => ?_)
  · obtain ⟨x, dx, v, hands, start, sts, rfl, hx, hv, ok, k⟩ := h
    rfl
  have hu := hu_of hr
  have nd := sc_Work_init.nd
  obtain ⟨x, dx, v, hands, start, sts, rfl, hx, hv, ok, k⟩ := h
  refine ⟨_, (pss_cons (ps_if (PW.pt (pw_or (pt_not (pt_val (pe_call (ok_is_integer T) (hr.mono (by decide)) (by rfl) T.is_integer.g T.is_integer.F.kp T.is_integer.B .nil pass0 (pa_cons (pv 1) pa_nil)))) (pw_or1 (pt_not (pt_chain op_le op_le pe_int (pv 1) pe_int))))) (pss_one ps_never) pss_nil)
      (pss_cons (ps_if (pt_not (pt_val (pe_call (ok_are_stands T) (hr.mono (by decide)) (by rfl) T.are_stands.g T.are_stands.F.kp T.are_stands.B .nil pass0 (pa_cons (pv 3) (pa_cons (pv 1) pa_nil))))) (pss_one ps_never) pss_nil)
      (pss_cons (ps_if (PW.pt (pw_or (pt_not (pt_val (pe_call (ok_is_name T) (hr.mono (by decide)) (by rfl) T.is_name.g T.is_name.F.kp T.is_name.B .nil pass0 (pa_cons (pv 2) pa_nil)))) (pw_or1 (pt_cmp (pc_dnotin hu (pv 2) (pv 3)))))) (pss_one ps_never) pss_nil)
      (pss_cons (ps_fld (pv 0) (pv 1) rfl)
      (pss_cons (ps_fld (pv 0) (pv 2) rfl)
      (pss_cons (ps_fld (pv 0) (pe_dc (own := [("name", 4)]) rfl nd (w_pilist (K := K) rfl (pe_callB (cl_sortD rfl) (by rfl) T.b_sorted (by decide +kernel) (pa_cons (pv 3) pa_nil))) (blkOk_by (own := [("name", 4)]) (N := N_Work_init) (sc := defScope s_Work_init) (by decide +kernel)) (fun _ _ _ _ _ => (pg_name (i := 4) nd rfl (Or.inl rfl))) (fun _ _ _ _ _ => pts_nil) (fun _ _ _ _ _ => (pv 4)) (fun _ _ _ _ _ => (pe_call (ok_copied T) (hr.mono (by decide)) (by rfl) T.copied.g T.copied.F.kp T.copied.B .nil pass0 (pa_cons (pe_dget hu (pv 3) (pv 4) (fun _ _ => rfl)) pa_nil)))) rfl)
      (pss_cons (ps_fld (pv 0) (pe_callTy (w_tup (K := K) rfl) (by rfl) T.b_tuple (by decide +kernel) (pa_cons (pe_callB (cl_sortD rfl) (by rfl) T.b_sorted (by decide +kernel) (pa_cons (pv 3) pa_nil)) pa_nil)) rfl)
      (pss_cons (ps_fld (pv 0) (pe_callTy (w_tup (K := K) rfl) (by rfl) T.b_tuple (by decide +kernel) (pa_cons (pe_lc (own := [("name", 4)]) rfl nd (w_pitup (K := K) rfl (w_fld (K := K) rfl (pv 0) rfl)) (blkOk_by (own := [("name", 4)]) (N := N_Work_init) (sc := defScope s_Work_init) (by decide +kernel)) (fun _ _ _ _ _ => (pg_name (i := 4) nd rfl (Or.inl rfl))) (fun _ _ _ _ _ => pts_one (pt_cmpR op_eq (pe_ix (w_ixT (K := K) rfl) (pe_dget hu (w_fld (K := K) rfl (pv 0) rfl) (pv 4) (fun _ _ => rfl)) pe_int (fun _ _ => rfl)) pe_str (nomark _))) (fun _ _ _ _ _ => (pv 4))) pa_nil)) rfl)
      (pss_one (ps_fld (pv 0) (pe_call (ok_is_ringless T) (hr.mono (by decide)) (by rfl) T.is_ringless.g T.is_ringless.F.kp T.is_ringless.B .nil pass0 (pa_cons (pv 0) pa_nil)) rfl)))))))))), ?_⟩
  refine x_start (σ' := [some _, some _, some _, some _, none]) rfl ?_
  try simp only [cx_n, cx_K, cx_w, cx_P]
  obtain ⟨⟨hh1, hh4⟩, ⟨hl1, hl100⟩, hnd, hall, hst⟩ := ok
  obtain ⟨d0, kvs, rfl, hr0, hk⟩ := id hv
  have hname : nameB start = true := by
    obtain ⟨p, hp, e⟩ := List.mem_map.mp hst
    rw [← e]
    exact (hall p hp).1
  walk_at "rd"
  refine ⟨_, rfl, ?_⟩
  walk_at "rd"
  refine x_true (decide_eq_true hh1) ?_
  walk_at "rd"
  rw [decide_eq_true hh4]
  walk_at "rd"
  refine ⟨_, hands, sts, rfl, mono_D (mono_stand K) _ _ _ _ le_hid hv, hl1, hl100, hall, fun H1 s1 => ?_⟩
  walk_at "rd"
  refine ⟨_, rfl, nameB_size hname, ?_⟩
  rw [hname]
  walk_at "rd"
  refine x_dni' (s1.rd (le_hid.rd _ _ trivial hr0)) ?_
  rw [keys_val hk.keys, decide_eq_true hst]
  walk_at "rd"
  refine x_setF [] (s1 _ _ List.not_mem_nil hx) T.cl_Work T.n_Work_hands rfl (by decide) (by decide) ?_
  walk_at "rd"
  refine x_setF ["hands"] upd_same T.cl_Work T.n_Work_start rfl (by decide) (by decide +kernel) ?_
  rw [upd_upd]
  -- the table
  generalize hH2 : upd H1 x (.ins T.a_Work dx (([] ++ [(("hands" : Str), V.int hands)]) ++ [(("start" : Str), V.str start)])) = H2
  have s2 : SX [x] H H2 := by rw [← hH2]; exact (nil_sx s1).trans (SX.mut List.mem_cons_self)
  have x2 : H2 x = some (.ins T.a_Work dx [("hands", .int hands), ("start", .str start)]) := by rw [← hH2, upd_same]; rfl
  clear hH2
  have lk : ∀ {b : Addr} {u : HO}, H b = some u → b ≠ x → H2 b = some u := fun h n => s2 _ _ (by simpa using n) h
  have r2 : Rd H2 d0 (.dK kvs) := s2.leH.rd _ _ trivial hr0
  walk_at "rd"
  refine x_dc (x_iList (x_CB (x_cons (x_var (by rfl) (x_nil ?_)))))
  refine x_sortD r2 hk.keys fun ys p hp hs np => ?_
  refine x_itl (sqL upd_same) fun D hD => ?_
  have hDp : D ≠ p := by
    rintro rfl
    rw [upd_same] at hD
    cases hD
  have hD2 : H2 D = none := by rw [upd_ne hDp] at hD; exact hD
  have hDx : D ≠ x := by
    rintro rfl
    rw [x2] at hD2
    cases hD2
  have hD0 : H D = none := s2.free hD2 (by simpa using hDx)
  have ysn : ys.Nodup := hp.nodup_iff.mpr hnd
  have hyl : ys.length = sts.length := by rw [hp.length_eq, List.length_map]
  refine dc_walk (walk_listR (R := rS) (Hb := H) (paired_S' ys)) (fun n A => SX [] H2 A ∧ A p = some (.lst (ys.map V.str)) ∧ ∃ kv tb, A D = some (.dK kv) ∧ KVs (rStand K) (hid [D, x] A) kv tb ∧ tb.map (·.1) = ys.take n ∧
    ∀ q ∈ tb, ∃ st, lookA sts q.1 = some st ∧ SrtStand st q.2) ?_ ?_ ?_ ?_
  · exact ⟨(SX.new np).trans (SX.new hD), by rw [upd_ne (Ne.symm hDp)]; exact upd_same, [], [], upd_same, .nil, rfl, fun _ h => nomatch h⟩
  · exact fun n A _ h => sqL h.2.1
  · rintro n y A0 A hn ⟨sA, pA, kv, tb, dA, kA, eA, allA⟩ ⟨rfl, s, hs', rfl⟩
    have sm : s ∈ sts.map (·.1) := hp.mem_iff.mp (getMem hs')
    obtain ⟨st, hst'⟩ := lookA_some sm
    obtain ⟨v, e1, rv⟩ := hk.at_ hst'
    obtain ⟨_, sok⟩ := hall _ (lookA_mem hst')
    walk_at "rd"
    refine ⟨rfl, ?_⟩
    walk_at "rd"
    refine x_dg' (sA.rd r2) e1 ?_
    walk_at "rd"
    have sHA : SX [x] H A := s2.trans (nil_sx sA)
    refine ⟨v, st, [D, x], rfl, ?_, mono_stand K _ _ _ _ (le_hidS sHA ?_) rv, sok.nd, Nat.le_trans sok.size (by decide), fun v' A' st' sx' rv' sr => ?_⟩
    · intro b hb
      rcases List.mem_cons.mp hb with rfl | hb
      · rw [dA]
        exact fun z => nomatch z
      · rcases List.mem_cons.mp hb with rfl | hb
        · rw [sA _ _ List.not_mem_nil x2]
          exact fun z => nomatch z
        · cases hb
    · intro b hb
      rcases List.mem_cons.mp hb with rfl | hb
      · exact .inr hD0
      · exact .inl hb
    have dA' := sx' _ _ List.not_mem_nil dA
    have hkl : kv.length = (ys.take n).length := by rw [Paired.length kA, ← eA, List.length_map]
    refine ⟨kv, Sum.inr s, rfl, dA', lt_size (by rw [hkl, List.length_take]; omega), ?_⟩
    have kk : kv.map (·.1) = (ys.take n).map Sum.inr := by rw [kA.keys, eA]
    rw [putK_fresh v' kk (nodup_take ysn hs')]
    have le1 : Le (hid [D, x] A) (hid [D, x] (upd A' D (.dK (kv ++ [(Sum.inr s, v')])))) := (nil_sx sx').le.trans (SX.mut (by simp)).le
    refine ⟨sx_nil_of (S := [D]) ((nil_sx (sA.trans sx')).trans (SX.mut List.mem_cons_self)) (by simp [hD2]), by rw [upd_ne (Ne.symm hDp)]; exact sx' _ _ List.not_mem_nil pA, _, tb ++ [(s, st')], upd_same, ?_, ?_, ?_⟩
    · exact Paired.app (KVs.le (mono_stand K) le1 kA) (.cons ⟨rfl, mono_stand K _ _ _ _ (SX.mut (by simp)).le rv'⟩ .nil)
    · rw [List.map_append, eA, take_succ_of hs']
      rfl
    · intro q hq
      rcases List.mem_append.mp hq with hq | hq
      · exact allA q hq
      · cases List.mem_singleton.mp hq
        exact ⟨st, hst', sr⟩
  rintro A ⟨sA, pA, kv, tb, dA, kA, eA, allA⟩
  rw [List.take_length] at eA
  have htb : Tbl sts tb := ⟨by rw [eA]; exact hs, by rw [eA]; exact hp, allA⟩
  walk_at "rd"
  refine x_setF ["hands", "start"] (sA _ _ List.not_mem_nil x2) T.cl_Work T.n_Work_table rfl (by decide) (by decide +kernel) ?_
  generalize hH3 : upd A x (.ins T.a_Work dx ([(("hands" : Str), V.int hands), (("start" : Str), V.str start)] ++ [(("table" : Str), V.ref D)])) = H3
  have x3 : H3 x = some (.ins T.a_Work dx [("hands", .int hands), ("start", .str start), ("table", .ref D)]) := by rw [← hH3, upd_same]; rfl
  have sA3 : SX [x] A H3 := by rw [← hH3]; exact SX.mut List.mem_cons_self
  have s3 : SX [x] H H3 := (s2.trans (nil_sx sA)).trans sA3
  have tb3 : rD (rStand K) (hid [x] H3) (.ref D) tb := by
    refine ⟨D, kv, rfl, .inl ?_, KVs.le (mono_stand K) ((le_hid2 (S := [x]) (by simp)).trans sA3.le) kA⟩
    rw [hid_of (by simpa using hDx)]
    exact sA3 _ _ (by simpa using hDx) dA
  clear hH3
  walk_at "rd"
  have r3 : Rd H3 d0 (.dK kvs) := s3.leH.rd _ _ trivial hr0
  refine x_sortD r3 hk.keys fun ys2 p2 hp2 hs2 np2 => ?_
  have ey : ys2 = ys := sorted_one hs2 hs (hp2.trans hp.symm)
  subst ey
  walk_at "rd"
  refine x_ctup (sqL upd_same) fun nm hnm => ?_
  walk_at "rd"
  have xp2 : x ≠ p2 := ne_of_none x3 np2
  have hnp : nm ≠ p2 := by
    rintro rfl
    rw [upd_same] at hnm
    cases hnm
  have hnm3 : H3 nm = none := by rw [upd_ne hnp] at hnm; exact hnm
  have xnm : x ≠ nm := ne_of_none x3 hnm3
  refine x_setF ["hands", "start", "table"] (by rw [upd_ne xnm, upd_ne xp2]; exact x3) T.cl_Work T.n_Work_names rfl (by decide) (by decide +kernel) ?_
  generalize hH4 : upd (upd (upd H3 p2 (.lst (ys2.map V.str))) nm (.tup (ys2.map V.str))) x (.ins T.a_Work dx ([(("hands" : Str), V.int hands), (("start" : Str), V.str start), (("table" : Str), V.ref D)] ++ [(("names" : Str), V.ref nm)])) = H4
  have x4 : H4 x = some (.ins T.a_Work dx [("hands", .int hands), ("start", .str start), ("table", .ref D), ("names", .ref nm)]) := by rw [← hH4, upd_same]; rfl
  have s34 : SX [x] H3 H4 := by rw [← hH4]; exact (nil_sx ((SX.new np2).trans (SX.new hnm))).trans (SX.mut List.mem_cons_self)
  have s4 : SX [x] H H4 := s3.trans s34
  have tb4 : rD (rStand K) (hid [x] H4) (.ref D) tb := mono_D (mono_stand K) _ _ _ _ s34.le tb3
  have nm4 : SqT K (hid [x] H4) nm (ys2.map V.str) := by
    refine sqT ?_
    rw [hid_of (by simpa using Ne.symm xnm), ← hH4, upd_ne (Ne.symm xnm), upd_same]
  clear hH4
  walk_at "rd"
  refine x_getF x4 T.cl_Work T.n_Work_names (look_next (by decide +kernel) (look_next (by decide +kernel) (look_next (by decide +kernel) look_here))) ?_
  refine x_itt (le_hid.t nm4) fun E1 hE1 => ?_
  have lt : tb.length = ys2.length := by rw [← eA, List.length_map]
  have xE : x ≠ E1 := ne_of_none x4 hE1
  obtain ⟨_, kv4, eD, rD4, kD4⟩ := id tb4
  cases eD
  refine lc_it (walk_tupR (R := rS) (Hb := H) (paired_S' ys2)) (fun n A => SX [] H4 A ∧ A E1 = some (.lst ((endsOf (tb.take n)).map V.str))) ⟨SX.new hE1, upd_same⟩ (fun n A _ h => h.1.le0.t (le_hid.t nm4)) ?_ ?_
  · rintro n y A0 A5 hn ⟨sA5, eA5⟩ ⟨rfl, s, hs5, rfl⟩
    obtain ⟨q, hq, eq⟩ : ∃ q, tb[n]? = some q ∧ q.1 = s := by
      rw [← eA, List.getElem?_map] at hs5
      cases h : tb[n]? with
      | none => rw [h] at hs5; cases hs5
      | some q => rw [h] at hs5; cases hs5; exact ⟨q, rfl, rfl⟩
    have tnd : (tb.map (·.1)).Nodup := by rw [eA]; exact ysn
    obtain ⟨v5, ev5, rv5⟩ := kD4.in_ tnd (getMem hq)
    rw [eq] at ev5
    walk_at "rd"
    refine ⟨rfl, ?_⟩
    walk_at "rd"
    refine x_getF (sA5 _ _ List.not_mem_nil x4) T.cl_Work T.n_Work_table (look_next (by decide +kernel) (look_next (by decide +kernel) look_here)) ?_
    walk_at "rd"
    refine x_dg' (sA5.le0.rd _ _ trivial (le_hid.rd _ _ trivial rD4)) ev5 ?_
    walk_at "rd"
    have step : endsOf (tb.take (n + 1)) = endsOf (tb.take n) ++ endsOf [q] := by
      rw [take_succ_of hq]
      unfold endsOf
      rw [List.filter_append, List.map_append]
    have h5 : Le (hid [x] H4) A5 := le_hid.trans sA5.le0
    have fit : ((endsOf (tb.take n)).map V.str).length < sizeLine := by
      refine lt_size ?_
      rw [List.length_map]
      unfold endsOf
      rw [List.length_map]
      have := List.length_filter_le (fun p : Str × Stand => match p.2 with | .fin => true | _ => false) (tb.take n)
      rw [List.length_take] at this
      omega
    cases hq2 : q.2 with
    | fin =>
      rw [hq2] at rv5
      obtain ⟨p5, rfl, hp5⟩ := rv5
      refine x_ixT (h5.t hp5) (atI_nat (j := 0) rfl) ?_
      walk_at "rd"
      walk_at "if!"
      walk_at "rd"
      have one : endsOf [q] = [s] := by
        unfold endsOf
        rw [← eq]
        obtain ⟨q1, q2⟩ := q
        cases hq2
        rfl
      refine ⟨_, eA5, fit, sx_nil_of (S := [E1]) ((nil_sx sA5).trans (SX.mut List.mem_cons_self)) (by simp [hE1]), ?_⟩
      rw [upd_same, step, one, List.map_append]
      rfl
    | hand h5' ms =>
      rw [hq2] at rv5
      obtain ⟨p5, d5, rfl, hp5, _⟩ := rv5
      refine x_ixT (h5.t hp5) (atI_nat (j := 0) rfl) ?_
      walk_at "rd"
      walk_at "if!"
      have one : endsOf [q] = [] := by
        unfold endsOf
        obtain ⟨q1, q2⟩ := q
        cases hq2
        rfl
      refine ⟨sA5, ?_⟩
      rw [step, one, List.append_nil]
      exact eA5
    | chance ds =>
      rw [hq2] at rv5
      obtain ⟨p5, d5, rfl, hp5, _⟩ := rv5
      refine x_ixT (h5.t hp5) (atI_nat (j := 0) rfl) ?_
      walk_at "rd"
      walk_at "if!"
      have one : endsOf [q] = [] := by
        unfold endsOf
        obtain ⟨q1, q2⟩ := q
        cases hq2
        rfl
      refine ⟨sA5, ?_⟩
      rw [step, one, List.append_nil]
      exact eA5
  rintro A5 ⟨sA5, eA5⟩
  rw [← lt, List.take_length] at eA5
  walk_at "rd"
  refine x_ctup (sqL eA5) fun en hen => ?_
  walk_at "rd"
  have x5 := sA5 _ _ List.not_mem_nil x4
  have xen : x ≠ en := ne_of_none x5 hen
  refine x_setF ["hands", "start", "table", "names"] (by rw [upd_ne xen]; exact x5) T.cl_Work T.n_Work_ends rfl (by decide) (by decide +kernel) ?_
  generalize hH6 : upd (upd A5 en (.tup ((endsOf tb).map V.str))) x (.ins T.a_Work dx ([(("hands" : Str), V.int hands), (("start" : Str), V.str start), (("table" : Str), V.ref D), (("names" : Str), V.ref nm)] ++ [(("ends" : Str), V.ref en)])) = H6
  have x6 : H6 x = some (.ins T.a_Work dx [("hands", .int hands), ("start", .str start), ("table", .ref D), ("names", .ref nm), ("ends", .ref en)]) := by rw [← hH6, upd_same]; rfl
  have s46 : SX [x] H4 H6 := by rw [← hH6]; exact (nil_sx (sA5.trans (SX.new hen))).trans (SX.mut List.mem_cons_self)
  have tb6 : rD (rStand K) (hid [x] H6) (.ref D) tb := mono_D (mono_stand K) _ _ _ _ s46.le tb4
  have nm6 : SqT K (hid [x] H6) nm ((tb.map (·.1)).map V.str) := by rw [eA]; exact s46.le.t nm4
  have en6 : SqT K (hid [x] H6) en ((endsOf tb).map V.str) := by
    refine sqT ?_
    rw [hid_of (by simpa using Ne.symm xen), ← hH6, upd_ne (Ne.symm xen), upd_same]
  clear hH6
  walk_at "rd"
  refine ⟨x, tb, dx, _, D, nm, rfl, x6, look_next (by decide +kernel) (look_next (by decide +kernel) look_here), mono_D (mono_stand K) _ _ _ _ le_hid tb6,
    look_next (by decide +kernel) (look_next (by decide +kernel) (look_next (by decide +kernel) look_here)), le_hid.t nm6, by omega, fun q hq => ?_, fun H7 s7 => ?_⟩
  · obtain ⟨st, e1, sr⟩ := allA q hq
    obtain ⟨_, sok⟩ := hall _ (lookA_mem e1)
    exact ⟨sr.nd sok.nd, by rw [sr.size]; exact Nat.le_trans sok.size (by decide)⟩
  walk_at "rd"
  refine x_setF ["hands", "start", "table", "names", "ends"] (s7 _ _ List.not_mem_nil x6) T.cl_Work T.n_Work_ringless rfl (by decide) (by decide +kernel) ?_
  have s78 : SX [x] H6 (upd H7 x (.ins T.a_Work dx ([(("hands" : Str), V.int hands), (("start" : Str), V.str start), (("table" : Str), V.ref D), (("names" : Str), V.ref nm), (("ends" : Str), V.ref en)] ++ [(("ringless" : Str), V.bl (ringB tb))]))) := (nil_sx s7).trans (SX.mut List.mem_cons_self)
  refine k _ tb ((s4.trans s46).trans s78) ⟨dx, D, nm, en, upd_same, mono_D (mono_stand K) _ _ _ _ s78.leH tb6, s78.leH.t nm6, s78.leH.t en6⟩ htb
end
end M

namespace M
open PySem PySem.Spec PyProof.Rows L2
theorem at_map {ns : List Int} {i : Nat} {n : Int} (h : ns[i]? = some n) : atI (ns.map V.int) (i : Int) = some (.int n) := atI_nat (by rw [List.getElem?_map, h]; rfl)
theorem ixN_nat {n j : Nat} (h : j < n) : ixN n (j : Int) = some j := by
  unfold ixN
  rw [if_pos (by omega), if_pos (by omega)]
  rfl
theorem app_cps (a b : Str) : (a ++ b : Str).cps.toList = a.cps.toList ++ b.cps.toList := by
  show (a.cps ++ b.cps).toList = _
  exact Array.toList_append
theorem app_len (a b : Str) : (a ++ b : Str).length = a.length + b.length := by
  have := congrArg List.length (app_cps a b)
  simpa [Str.length] using this
theorem str_len (a : Str) : a.cps.toList.length = a.length := by simp [Str.length]
theorem letters_at : ∀ i, i < 26 → ((("abcdefghijklmnopqrstuvwxyz" : Str).cps.toList[i]?).map lowB) = some true := by decide +kernel
theorem signs_at : ∀ i, i < 36 → (((("abcdefghijklmnopqrstuvwxyz" : Str) ++ ("0123456789" : Str) : Str).cps.toList[i]?).map fun c => lowB c || digB c) = some true := by decide +kernel
theorem at_opt {l : List Nat} {f : Nat → Bool} {i : Nat} (h : (l[i]?).map f = some true) : ∃ c, l[i]? = some c ∧ f c = true := by
  cases e : l[i]? with
  | none => rw [e] at h; cases h
  | some c => rw [e] at h; exact ⟨c, rfl, Option.some.inj h⟩
theorem at_ints {ns : List Int} {r : Int} (h0 : 0 ≤ r) (h1 : r < ns.length) : ∃ n, atI (ns.map V.int) r = some (.int n) ∧ n ∈ ns := by
  obtain ⟨i, rfl⟩ : ∃ i : Nat, r = (i : Int) := ⟨r.toNat, by omega⟩
  have hi : i < ns.length := by omega
  exact ⟨ns[i], at_map (by simp [hi]), List.getElem_mem hi⟩
theorem at_strs {ns : List Str} {r : Int} (h0 : 0 ≤ r) (h1 : r < ns.length) : ∃ n, atI (ns.map V.str) r = some (.str n) ∧ n ∈ ns := by
  obtain ⟨i, rfl⟩ : ∃ i : Nat, r = (i : Int) := ⟨r.toNat, by omega⟩
  have hi : i < ns.length := by omega
  exact ⟨ns[i], atI_nat (by rw [List.getElem?_map]; simp [hi]), List.getElem_mem hi⟩
theorem flat_strs (l : List Str) : (l.map V.str).all flatV = true := by
  rw [List.all_map]
  exact List.all_eq_true.mpr fun _ _ => rfl
/-- the first is a letter, all are letters or digits -/
structure WordOk (s : Str) : Prop where
  low : lowB (s.cps.toList.getD 0 0) = true
  all : ∀ c ∈ s.cps.toList, (lowB c || digB c) = true
theorem WordOk.name {s : Str} (h : WordOk s) (h1 : 1 ≤ s.length ∧ s.length ≤ 8) : nameB s = true := nameB_yes h1 h.low h.all
theorem WordOk.app {s : Str} {c : Nat} (h : WordOk s) (h1 : 1 ≤ s.length) (hc : (lowB c || digB c) = true) : WordOk (s ++ ⟨#[c]⟩) := by
  refine ⟨?_, fun d hd => ?_⟩
  · rw [app_cps, List.getD_eq_getElem?_getD, List.getElem?_append_left (by rw [str_len]; exact h1), ← List.getD_eq_getElem?_getD]
    exact h.low
  · rw [app_cps] at hd
    rcases List.mem_append.mp hd with hd | hd
    · exact h.all d hd
    · cases List.mem_singleton.mp hd
      exact hc
theorem n_names : ∀ j, j < 60 → nameB (("n" : Str) ++ (toString ((j : Nat) : Int) : Str)) = true := by decide +kernel
theorem small_log {j : Nat} (h : j < 1000000) : ((j : Int)).natAbs.log2 < 1920 := by
  have : ((j : Int)).natAbs = j := rfl
  rw [this]
  by_cases h0 : j = 0
  · subst h0
    decide
  · exact Nat.lt_of_lt_of_le ((Nat.log2_lt h0).mpr (show j < 2 ^ 20 by omega)) (by decide)
theorem cut_from {xs : List V} {k : Nat} : cutV xs (some (k : Int)) none = xs.drop k := by
  unfold cutV
  rw [HT.sIx_nat, HT.sIx_none]
  by_cases h : k ≤ xs.length
  · rw [Nat.min_eq_left h]
    exact List.take_of_length_le (by rw [List.length_drop]; exact Nat.le_refl _)
  · rw [Nat.min_eq_right (by omega), List.drop_length, List.drop_eq_nil_of_le (by omega), List.take_nil]
theorem lock_leS {S : List Addr} {H HL : Hp} {d : Addr} {kvs : List (Key × V)} {od : Obj} (h : Rd (hid S H) d (.dK kvs)) (e : HL d = some (.frz od (.dK kvs))) (ne : ∀ b, b ≠ d → HL b = H b) : Le (hid S H) (hid S HL) := by
  have dS : d ∉ S := by
    rcases h with h | ⟨o, h⟩ <;> exact (hid_at h).1
  refine lock_le (d := d) (kvs := kvs) (od := od) h (by rw [hid_of dS]; exact e) fun b hb => ?_
  unfold hid
  rw [ne b hb]
theorem unlock_leS {S : List Addr} {H H' : Hp} {d : Addr} {kvs : List (Key × V)} {od : Obj} (h : Rd H d (.dK kvs)) (e : H' d = some (.frz od (.dK kvs))) : Le (hid S H') (hid S (put H' d (H d))) := by
  have l := unlock_le h e
  have hp : ∀ b, hid S (put H' d (H d)) b = if b ∈ S then none else put H' d (H d) b := fun _ => rfl
  refine ⟨fun b u p q => ?_, fun b C dx fs q => ?_, fun b xs q => ?_⟩
  · have n : b ∉ S := by rcases q with q | ⟨o, q⟩ <;> exact (hid_at q).1
    have q2 : Rd H' b u := le_hid.rd b u p q
    have := l.rd b u p q2
    unfold Rd
    rw [hid_of n]
    exact this
  · obtain ⟨n, q⟩ := hid_at q
    rw [hid_of n]
    exact l.ins _ _ _ _ q
  · obtain ⟨n, q⟩ := hid_at q
    rw [hid_of n]
    exact l.tup _ _ q
theorem rd_there {H : Hp} {d : Addr} {u : HO} (h : Rd H d u) : H d ≠ none := by
  rcases h with h | ⟨o, h⟩ <;> rw [h] <;> exact fun z => nomatch z
/-- the stands of drawn names -/
structure StandsOk (hands : Int) (names : List Str) (sts : List (Str × Stand)) : Prop where
  nd : (sts.map (·.1)).Nodup
  keys : ∀ n, n ∈ sts.map (·.1) ↔ n ∈ names
  all : ∀ q ∈ sts, StandOk hands names q.2
  len : sts.length ≤ names.length
theorem StandOk.sub {h : Int} {ns ms : List Str} {st : Stand} (o : StandOk h ns st) (s : ∀ x ∈ ns, x ∈ ms) : StandOk h ms st := by
  cases st with
  | fin => exact trivial
  | hand a b => exact ⟨o.1, o.2.1, o.2.2.1, o.2.2.2.1, o.2.2.2.2.1, fun q hq => ⟨(o.2.2.2.2.2 q hq).1, (o.2.2.2.2.2 q hq).2.1, s _ (o.2.2.2.2.2 q hq).2.2⟩⟩
  | chance b => exact ⟨o.1, o.2.1, o.2.2.1, fun q hq => ⟨(o.2.2.2 q hq).1, (o.2.2.2 q hq).2.1, s _ (o.2.2.2 q hq).2.2.1, (o.2.2.2 q hq).2.2.2⟩⟩
def isEnd : Stand → Bool
  | .fin => true
  | _ => false
theorem endsOf_snoc {l : List (Str × Stand)} {q : Str × Stand} : endsOf (l ++ [q]) = endsOf l ++ (if isEnd q.2 = true then [q.1] else []) := by
  unfold endsOf
  rw [List.filter_append, List.map_append]
  obtain ⟨a, b⟩ := q
  cases b <;> rfl
theorem endsOf_sub {l : List (Str × Stand)} {x : Str} (h : x ∈ endsOf l) : x ∈ l.map (·.1) := by
  unfold endsOf at h
  obtain ⟨q, h1, h2⟩ := List.mem_map.mp h
  exact List.mem_map.mpr ⟨q, (List.mem_filter.mp h1).1, h2⟩
theorem endsOf_len (l : List (Str × Stand)) : (endsOf l).length ≤ l.length := by
  unfold endsOf
  rw [List.length_map]
  exact List.length_filter_le _ _
theorem key_fresh {α : Type} {l : List (Str × α)} (hn : (l.map (·.1)).Nodup) {i : Nat} {q : Str × α} (h : l[i]? = some q) : q.1 ∉ (l.take i).map (·.1) := by
  have h2 : (l.map (·.1))[i]? = some q.1 := by rw [List.getElem?_map, h]; rfl
  rw [List.map_take]
  exact nodup_take hn h2
theorem sx_drop {p wd : Addr} {A B C : Hp} (a : SX [p] A B) (b : SX [p, wd] B C) (h : A wd = none) : SX [p] A C := fun x o n q => b x o (by
  simp only [List.mem_cons, List.not_mem_nil, or_false, not_or] at n ⊢
  exact ⟨n, fun e => by rw [e, h] at q; cases q⟩) (a x o n q)
/-- steps of a stand by their names, with where they lead -/
def Stand.rows : Stand → List (Str × Str)
  | .fin => []
  | .hand _ ms => ms
  | .chance ds => ds.map fun q => (q.1, q.2.1)
theorem rows_tos (st : Stand) : st.rows.map (·.2) = st.tos := by
  cases st with
  | fin => rfl
  | hand h ms => rfl
  | chance ds => show (ds.map _).map _ = _; rw [List.map_map]; rfl
theorem pick_take {α : Type} [Inhabited α] {l : List (Str × α)} {ys : List Str} {n : Nat} {s : Str} {a : α} (h : ys[n]? = some s) (e : lookA l s = some a) : pick l (ys.take (n + 1)) = pick l (ys.take n) ++ [(s, a)] := by
  rw [take_succ_of h]
  unfold pick
  rw [List.map_append]
  show _ ++ [(s, (lookA l s).getD default)] = _
  rw [e]
  rfl
theorem pick_len {α : Type} [Inhabited α] (l : List (Str × α)) (ys : List Str) : (pick l ys).length = ys.length := List.length_map _
theorem Srt.map_snd {α β : Type} {l l' : List (Str × α)} {g : α → β} (h : Srt l l') : Srt (l.map fun q => (q.1, g q.2)) (l'.map fun q => (q.1, g q.2)) := ⟨h.perm.map _, by
  have := h.srt
  rw [List.map_map]
  exact this⟩
section
variable {P : Program} {w : World} {K : PySem.W.Frag} {mg : Str → Option Value} {base : Heap}
theorem hid_nn {S : List Addr} {H : Hp} {d : Addr} (hS : ∀ b ∈ S, H b ≠ none) (hd : H d ≠ none) : ∀ b ∈ d :: S, H b ≠ none := fun b hb => by
  rcases List.mem_cons.mp hb with rfl | hb
  · exact hd
  · exact hS b hb
theorem sx_there {S : List Addr} {A B : Hp} {p : Addr} (a : SX [p] A B) (hp : B p ≠ none) (h : ∀ b ∈ S, A b ≠ none) : ∀ b ∈ S, B b ≠ none := fun b hb z => by
  by_cases e : b = p
  · exact hp (e ▸ z)
  · exact h b hb (a.free z (by simpa using e))
/-- the word of a stand's kind -/
def kindS : Stand → Str
  | .fin => "end"
  | .hand _ _ => "hand"
  | .chance _ => "chance"
theorem rStand.kind {H : Hp} {v : V} {st : Stand} (h : rStand K H v st) : ∃ p xs, v = .ref p ∧ SqT K H p xs ∧ atI xs 0 = some (.str (kindS st)) := by
  cases st with
  | fin => obtain ⟨p, h1, h2⟩ := h; exact ⟨p, _, h1, h2, rfl⟩
  | hand a b => obtain ⟨p, d, h1, h2, _⟩ := h; exact ⟨p, _, h1, h2, rfl⟩
  | chance b => obtain ⟨p, d, h1, h2, _⟩ := h; exact ⟨p, _, h1, h2, rfl⟩
theorem kind_end {st : Stand} : decide (V.str (kindS st) = V.str "end") = isEnd st := by
  cases st with
  | fin => decide +kernel
  | hand a b => show decide (V.str "hand" = V.str "end") = false; decide +kernel
  | chance b => show decide (V.str "chance" = V.str "end") = false; decide +kernel
end
end M

namespace M
open PySem PySem.Spec PyProof.Rows L2
/-! ### the drawer that a law draws from -/
structure DrawOk (c z t : Int) : Prop where
  c0 : 0 ≤ c
  z0 : 0 ≤ z
  z1 : z < 2147483647
  t0 : 0 ≤ t
def Drw (H : Hp) (p : Addr) : Prop := ∃ (c : Int) (f : Bool) (z t : Int), H p = some (.lst [.int c, .bl f, .int z, .int t]) ∧ DrawOk c z t
theorem Drw.there {H : Hp} {p : Addr} (h : Drw H p) : H p ≠ none := by
  obtain ⟨c, f, z, t, e, _⟩ := h
  rw [e]
  exact fun z => nomatch z
theorem Drw.sx {S : List Addr} {A B : Hp} {p : Addr} (h : Drw A p) (a : SX S A B) (n : p ∉ S) : Drw B p := by
  obtain ⟨c, f, z, t, e, o⟩ := h
  exact ⟨c, f, z, t, a _ _ n e, o⟩
theorem Drw.lst {H : Hp} {p : Addr} (h : Drw H p) : ∃ ys, H p = some (.lst ys) := by
  obtain ⟨c, f, z, t, e, o⟩ := h
  exact ⟨_, e⟩
theorem bits60 : ((Builtin.Int.intBits (10 ^ (60 : Int).toNat) : Nat) : Int) * 6 ≤ 2 ^ 27 := by decide +kernel
section
variable {P : Program} {w : World} {K : PySem.W.Frag} {mg : Str → Option Value} {base : Heap}
def sp_law_open (T : Tx K mg) : Sp := fun vs H Q _ => ∃ (a : Addr) (ns : List Int) (k : Int), vs = [.ref a, .int k] ∧ SqL K H a (ns.map V.int) ∧ ns.length ≤ 10000 ∧ 0 ≤ k ∧ k ≤ 10000 ∧ ∀ p H', H p = none → SX [] H H' → Drw H' p → Q (.ref p) H'
theorem ok_law_open (T : Tx K mg) : FnOk P w K mg base CX0 1 T.law_open.f T.law_open.fd P_law_open (sp_law_open T) := by
  refine T.law_open.F.ok sc_law_open (fun vs H Q E h => ?_) (fun cdv A outer s H vs Q E hr h => ?_)
  · obtain ⟨a, ns, k0, rfl, ha, hlen, hk0, hk1, k⟩ := h
    rfl
  have hu := hu_of hr
  have nd := sc_law_open.nd
  obtain ⟨a, ns, k0, rfl, ha, hlen, hk0, hk1, k⟩ := h
  refine ⟨_, (pss_cons (ps_set (i := 2) nd rfl (Or.inl rfl) pe_int)
      (pss_cons (ps_if (pt_cmpR op_lt (pv 1) (pe_callB (w_len (K := K) rfl) (by rfl) T.b_len (by decide +kernel) (pa_cons (pv 0) pa_nil)) (nomark _)) (pss_one (ps_set (i := 2) nd rfl (Or.inl rfl) (pe_op op_mod (pe_callTy cl_int (by rfl) T.b_int (by decide +kernel) (pa_cons (pe_ix (w_ixL (K := K) rfl) (pv 0) (pv 1) (fun _ _ => rfl)) pa_nil)) (pe_op op_powB (pe_op op_powB pe_int pe_int) pe_int)))) pss_nil)
      (pss_one (ps_ret (pe_lst (pa_cons (pv 2) (pa_cons (pe_cmpR op_ge (pv 2) (pe_op op_powB pe_int pe_int) (nomark _)) (pa_cons (pe_op op_mod (pe_op op_add (pv 2) (pe_op op_mul pe_int (pe_op op_add (pv 1) pe_int))) pe_int) (pa_cons pe_int pa_nil))))))))), ?_⟩
  refine x_start (σ' := [some _, some _, none]) rfl ?_
  try simp only [cx_n, cx_K, cx_w, cx_P]
  walk_at "rd"
  refine x_lenL' ha ?_
  walk_at "rd"
  rw [List.length_map]
  have fin : ∀ c : Int, 0 ≤ c → ∀ b : Bool, ∀ q, H q = none → Q (.ref q) (upd H q (.lst [.int c, .bl b, .int ((c + 104729 * (k0 + 1)) % 2147483647), .int 0])) := fun c c0 b q hq =>
    k q _ hq (SX.new hq) ⟨c, b, _, 0, upd_same, c0, by omega, by omega, Int.le_refl _⟩
  refine x_cases (fun h => ?_) (fun h => ?_)
  · obtain ⟨j, rfl⟩ : ∃ j : Nat, k0 = (j : Int) := ⟨k0.toNat, by omega⟩
    have hj : j < ns.length := by simpa using h
    obtain ⟨z, hz⟩ : ∃ z, ns[j]? = some z := ⟨ns[j], by simp [hj]⟩
    walk_at "rd"
    refine x_ixL ha (at_map hz) ?_
    walk_at "rd"
    refine x_I ⟨by decide, by decide +kernel⟩ ?_
    walk_at "rd"
    refine x_I ⟨by decide, bits60⟩ ?_
    walk_at "rd"
    have m0 : (0 : Int) < (10 ^ (60 : Int).toNat) ^ (6 : Int).toNat := by decide +kernel
    refine x_I m0 ?_
    walk_at "rd"
    generalize hc : z % (10 ^ (60 : Int).toNat) ^ (6 : Int).toNat = c
    have c0 : 0 ≤ c := by rw [← hc]; exact Int.emod_nonneg _ (by omega)
    refine x_I ⟨by decide, by decide +kernel⟩ ?_
    walk_at "rd"
    refine x_I (.inl ⟨by decide, by decide⟩) ?_
    walk_at "rd"
    refine x_I (by decide) ?_
    walk_at "rd"
    exact ⟨Nat.le_of_ble_eq_true rfl, fun q hq => fin c c0 _ q hq⟩
  · walk_at "rd"
    refine x_I ⟨by decide, by decide +kernel⟩ ?_
    walk_at "rd"
    refine x_I (.inl ⟨by decide, by decide⟩) ?_
    walk_at "rd"
    refine x_I (by decide) ?_
    walk_at "rd"
    exact ⟨Nat.le_of_ble_eq_true rfl, fun q hq => fin 0 (Int.le_refl _) _ q hq⟩
def sp_law_draw (T : Tx K mg) : Sp := fun vs H Q _ => ∃ p n, vs = [.ref p, .int n] ∧ Drw H p ∧ 0 < n ∧ n < 2 ^ 200 ∧ ∀ r H', 0 ≤ r → r < n → SX [p] H H' → Drw H' p → Q (.int r) H'
theorem ok_law_draw (T : Tx K mg) : FnOk P w K mg base CX0 1 T.law_draw.f T.law_draw.fd P_law_draw (sp_law_draw T) := by
  refine T.law_draw.F.ok sc_law_draw (fun vs H Q E h => ?_) (fun cdv A outer s H vs Q E hr h => ?_)
  · obtain ⟨p, n, rfl, ⟨c, f, z, t, hp, o⟩, hn0, hn1, k⟩ := h
    rfl
  have hu := hu_of hr
  have nd := sc_law_draw.nd
  obtain ⟨p, n, rfl, ⟨c, f, z, t, hp, o⟩, hn0, hn1, k⟩ := h
  refine ⟨_, (pss_cons (ps_if (PW.pt (pw_and (pt_val (pe_ix (w_ixL (K := K) rfl) (pv 0) pe_int (fun _ _ => rfl))) (pw_and1 (pt_cmpR op_gt (pe_ix (w_ixL (K := K) rfl) (pv 0) pe_int (fun _ _ => rfl)) pe_int (nomark _))))) (pss_cons (ps_set (i := 2) nd rfl (Or.inl rfl) (pe_op op_mod (pe_callTy cl_int (by rfl) T.b_int (by decide +kernel) (pa_cons (pe_ix (w_ixL (K := K) rfl) (pv 0) pe_int (fun _ _ => rfl)) pa_nil)) (pv 1)))
      (pss_cons (ps_asg (pe_op op_fdivW (pe_ix (w_ixL (K := K) rfl) (pv 0) pe_int (fun _ _ => rfl)) (pv 1)) (pg_sub (pv 0) pe_int set_list))
      (pss_one (ps_ret (pv 2))))) pss_nil)
      (pss_cons (ps_asg (pe_op op_add (pe_ix (w_ixL (K := K) rfl) (pv 0) pe_int (fun _ _ => rfl)) pe_int) (pg_sub (pv 0) pe_int set_list))
      (pss_cons (ps_set (i := 2) nd rfl (Or.inl rfl) (pe_op op_mod (pe_callTy cl_int (by rfl) T.b_int (by decide +kernel) (pa_cons (pe_op op_mul (pe_op op_add (pe_op op_add (pe_ix (w_ixL (K := K) rfl) (pv 0) pe_int (fun _ _ => rfl)) (pe_op op_mul pe_int (pe_ix (w_ixL (K := K) rfl) (pv 0) pe_int (fun _ _ => rfl)))) pe_int) pe_int) pa_nil)) pe_int))
      (pss_cons (ps_set (i := 2) nd rfl (Or.inl rfl) (pe_op op_mod (pe_callTy cl_int (by rfl) T.b_int (by decide +kernel) (pa_cons (pe_op op_mul (pv 2) (pe_op op_add (pe_op op_fdivW (pv 2) pe_int) pe_int)) pa_nil)) pe_int))
      (pss_cons (ps_set (i := 2) nd rfl (Or.inl rfl) (pe_op op_mod (pe_callTy cl_int (by rfl) T.b_int (by decide +kernel) (pa_cons (pe_op op_mul (pv 2) (pe_op op_add (pe_op op_fdivW (pv 2) pe_int) pe_int)) pa_nil)) pe_int))
      (pss_one (ps_ret (pe_op op_mod (pe_callTy cl_int (by rfl) T.b_int (by decide +kernel) (pa_cons (pe_op op_fdivW (pv 2) pe_int) pa_nil)) (pv 1))))))))), ?_⟩
  refine x_start (σ' := [some _, some _, none]) rfl ?_
  try simp only [cx_n, cx_K, cx_w, cx_P]
  have divN : CDivW c n := wide_div (b := 200) hn0 (by omega) (by decide) (by decide)
  walk_at "rd"
  refine x_ixL (sqL hp) (v := .bl f) (atI_nat (j := 1) rfl) ?_
  walk_at "rd"
  refine x_cases (fun h => ?_) (fun h => ?_)
  all_goals walk_at "rd"
  · refine x_ixL (sqL hp) (v := .int c) (atI_nat (j := 0) rfl) ?_
    walk_at "rd"
    refine x_cases (fun h2 => ?_) (fun h2 => ?_)
    · walk_at "rd"
      refine x_ixL (sqL hp) (v := .int c) (atI_nat (j := 0) rfl) ?_
      walk_at "rd"
      refine x_I hn0 ?_
      walk_at "rd"
      refine x_ixL (sqL hp) (v := .int c) (atI_nat (j := 0) rfl) ?_
      walk_at "rd"
      refine x_I divN ?_
      walk_at "rd"
      refine ⟨p, _, _, 0, rfl, rfl, hp, ixN_nat (j := 0) (by simp), ?_⟩
      walk_at "rd"
      exact k _ _ (Int.emod_nonneg _ (by omega)) (Int.emod_lt_of_pos _ hn0) (SX.mut List.mem_cons_self) ⟨c / n, f, z, t, upd_same, Int.ediv_nonneg o.c0 (by omega), o.z0, o.z1, o.t0⟩
    · walk_at "rd"
      refine x_ixL (sqL hp) (v := .int t) (atI_nat (j := 3) rfl) ?_
      walk_at "rd"
      refine ⟨p, _, _, 3, rfl, rfl, hp, ixN_nat (j := 3) (by simp), ?_⟩
      have e : ([V.int c, .bl f, .int z, .int t] : List V).set 3 (V.int (t + 1)) = [.int c, .bl f, .int z, .int (t + 1)] := rfl
      rw [e]
      walk_at "rd"
      refine x_ixL (sqL upd_same) (v := .int z) (atI_nat (j := 2) rfl) ?_
      walk_at "rd"
      refine x_ixL (sqL upd_same) (v := .int (t + 1)) (atI_nat (j := 3) rfl) ?_
      refine x_I (.inl ⟨by decide, by decide⟩) ?_
      walk_at "rd"
      refine x_I (.inr ⟨by decide, by decide⟩) ?_
      walk_at "rd"
      refine x_I (by decide) ?_
      generalize hy : ((z + 7919 * (t + 1) + 1) * 48271) % 2147483647 = y
      have y0 : 0 ≤ y := by rw [← hy]; exact Int.emod_nonneg _ (by decide)
      have y1 : y < 2147483647 := by rw [← hy]; exact Int.emod_lt_of_pos _ (by decide)
      walk_at "rd"
      refine x_I ⟨by decide, by decide⟩ ?_
      walk_at "rd"
      refine x_I (.inl ⟨by omega, by omega⟩) ?_
      walk_at "rd"
      refine x_I (by decide) ?_
      generalize hy2 : (y * (y / 1009 + 69621)) % 2147483647 = y2
      have y20 : 0 ≤ y2 := by rw [← hy2]; exact Int.emod_nonneg _ (by decide)
      have y21 : y2 < 2147483647 := by rw [← hy2]; exact Int.emod_lt_of_pos _ (by decide)
      walk_at "rd"
      refine x_I ⟨by decide, by decide⟩ ?_
      walk_at "rd"
      refine x_I (.inl ⟨by omega, by omega⟩) ?_
      walk_at "rd"
      refine x_I (by decide) ?_
      walk_at "rd"
      refine x_I ⟨by decide, by decide⟩ ?_
      walk_at "rd"
      refine x_I hn0 ?_
      exact k _ _ (Int.emod_nonneg _ (by omega)) (Int.emod_lt_of_pos _ hn0) (SX.mut List.mem_cons_self) ⟨c, f, z, t + 1, upd_same, o.c0, o.z0, o.z1, by have := o.t0; omega⟩
  · refine x_ixL (sqL hp) (v := .int t) (atI_nat (j := 3) rfl) ?_
    walk_at "rd"
    refine ⟨p, _, _, 3, rfl, rfl, hp, ixN_nat (j := 3) (by simp), ?_⟩
    have e : ([V.int c, .bl f, .int z, .int t] : List V).set 3 (V.int (t + 1)) = [.int c, .bl f, .int z, .int (t + 1)] := rfl
    rw [e]
    walk_at "rd"
    refine x_ixL (sqL upd_same) (v := .int z) (atI_nat (j := 2) rfl) ?_
    walk_at "rd"
    refine x_ixL (sqL upd_same) (v := .int (t + 1)) (atI_nat (j := 3) rfl) ?_
    refine x_I (.inl ⟨by decide, by decide⟩) ?_
    walk_at "rd"
    refine x_I (.inr ⟨by decide, by decide⟩) ?_
    walk_at "rd"
    refine x_I (by decide) ?_
    generalize hy : ((z + 7919 * (t + 1) + 1) * 48271) % 2147483647 = y
    have y0 : 0 ≤ y := by rw [← hy]; exact Int.emod_nonneg _ (by decide)
    have y1 : y < 2147483647 := by rw [← hy]; exact Int.emod_lt_of_pos _ (by decide)
    walk_at "rd"
    refine x_I ⟨by decide, by decide⟩ ?_
    walk_at "rd"
    refine x_I (.inl ⟨by omega, by omega⟩) ?_
    walk_at "rd"
    refine x_I (by decide) ?_
    generalize hy2 : (y * (y / 1009 + 69621)) % 2147483647 = y2
    have y20 : 0 ≤ y2 := by rw [← hy2]; exact Int.emod_nonneg _ (by decide)
    have y21 : y2 < 2147483647 := by rw [← hy2]; exact Int.emod_lt_of_pos _ (by decide)
    walk_at "rd"
    refine x_I ⟨by decide, by decide⟩ ?_
    walk_at "rd"
    refine x_I (.inl ⟨by omega, by omega⟩) ?_
    walk_at "rd"
    refine x_I (by decide) ?_
    walk_at "rd"
    refine x_I ⟨by decide, by decide⟩ ?_
    walk_at "rd"
    refine x_I hn0 ?_
    exact k _ _ (Int.emod_nonneg _ (by omega)) (Int.emod_lt_of_pos _ hn0) (SX.mut List.mem_cons_self) ⟨c, f, z, t + 1, upd_same, o.c0, o.z0, o.z1, by have := o.t0; omega⟩
end
end M

namespace M
open PySem PySem.Spec PyProof.Rows L2
theorem digits_ok : ∀ j, j < 10 → ((toString ((j : Nat) : Int) : Str)).cps.toList = [48 + j] := by decide +kernel
theorem pow8 : ∀ c, c < 128 → lowB c = true → (lowB c || digB c) = true := by decide +kernel
/-- letter, digit, tail -/
theorem name_of {c j : Nat} {s : Str} (hc : lowB c = true) (hj : j < 10) (hs : s.length ≤ 4) (ha : ∀ x ∈ s.cps.toList, (lowB x || digB x) = true) : nameB ((⟨#[c]⟩ ++ (toString ((j : Nat) : Int) : Str) : Str) ++ s) = true := by
  have e : ((⟨#[c]⟩ ++ (toString ((j : Nat) : Int) : Str) : Str) ++ s).cps.toList = c :: (48 + j) :: s.cps.toList := by
    rw [app_cps, app_cps, digits_ok j hj]
    rfl
  have el : ((⟨#[c]⟩ ++ (toString ((j : Nat) : Int) : Str) : Str) ++ s).length = s.length + 2 := by
    rw [← str_len, e, List.length_cons, List.length_cons, str_len]
  refine nameB_yes ⟨by omega, by omega⟩ (by rw [e]; exact hc) fun x hx => ?_
  rw [e] at hx
  rcases List.mem_cons.mp hx with rfl | hx
  · rw [hc]; rfl
  rcases List.mem_cons.mp hx with rfl | hx
  · have : digB (48 + j) = true := by simp [digB]; omega
    rw [this, Bool.or_true]
  · exact ha x hx
theorem tails_ok : ∀ s ∈ (["", "", "q", "zz7x"] : List Str), s.length ≤ 4 ∧ s.cps.toList.all (fun x => lowB x || digB x) = true := by decide +kernel
theorem menu1 : ∀ s ∈ (["go", "a1", "stay", "b"] : List Str), nameB s = true := by decide +kernel
theorem menu2 : ∀ s ∈ (["x", "yy", "z", "w0"] : List Str), nameB s = true := by decide +kernel
theorem menu3 : ∀ c, c < 26 → ∀ s ∈ ([⟨#[97 + c]⟩ ++ ("2" : Str), ⟨#[97 + c]⟩ ++ ("10" : Str), ⟨#[97 + c]⟩, ("m" : Str) ++ (⟨#[97 + c]⟩ : Str)] : List Str), nameB s = true := by decide +kernel
theorem letter_is : ∀ i, i < 26 → ("abcdefghijklmnopqrstuvwxyz" : Str).cps.toList[i]? = some (97 + i) := by decide +kernel
section
variable {P : Program} {w : World} {K : PySem.W.Frag} {mg : Str → Option Value} {base : Heap}
def sp_law_names (T : Tx K mg) : Sp := fun vs H Q _ => ∃ p n, vs = [.ref p, .int n] ∧ Drw H p ∧ 0 ≤ n ∧ n ≤ 10 ∧
  ∀ (q : Addr) (ws : List Str) (H' : Hp), H q = none → SX [p] H H' → Drw H' p → H' q = some (.lst (ws.map V.str)) → (ws.length : Int) = n → (∀ s ∈ ws, nameB s = true) → Q (.ref q) H'
theorem ok_law_names (T : Tx K mg) : FnOk P w K mg base CX0 2 T.law_names.f T.law_names.fd P_law_names (sp_law_names T) := by
  refine T.law_names.F.ok sc_law_names (fun vs H Q E h => ?_) (fun cdv A outer s H vs Q E hr h => ?_)
  · obtain ⟨p, n, rfl, hp, hn0, hn1, k⟩ := h
    rfl
  have hu := hu_of hr
  have nd := sc_law_names.nd
  obtain ⟨p, n, rfl, hp, hn0, hn1, k⟩ := h
  refine ⟨_, (pss_cons (ps_set (i := 2) nd rfl (Or.inl rfl) (pe_lst pa_nil))
      (pss_cons (ps_for PassesOwn.never rfl (pi_range1 (by rfl) T.b_range (pa_cons (pv 1) pa_nil)) (pg_name (i := 3) nd rfl (Or.inl rfl)) (pss_cons (ps_set (i := 4) nd rfl (Or.inl rfl) (pe_ix ix_str pe_str (pe_call (ok_law_draw T) (hr.mono (by decide)) (by rfl) T.law_draw.g T.law_draw.F.kp T.law_draw.B .nil pass0 (pa_cons (pv 0) (pa_cons pe_int pa_nil))) (fun _ _ => rfl)))
      (pss_one (ps_expr (pe_bm PySem.F.plainAttrs_list PySem.F.slot_list_append PySem.F.type_list_append mt_append (pv 2) (pa_cons (pe_op op_catS (pe_op op_catS (pv 4) (pe_callTy cl_str (by rfl) T.b_str (by decide +kernel) (pa_cons (pv 3) pa_nil))) (pe_ix (w_ixL (K := K) rfl) (pe_lst (pa_cons pe_str (pa_cons pe_str (pa_cons pe_str (pa_cons pe_str pa_nil))))) (pe_call (ok_law_draw T) (hr.mono (by decide)) (by rfl) T.law_draw.g T.law_draw.F.kp T.law_draw.B .nil pass0 (pa_cons (pv 0) (pa_cons pe_int pa_nil))) (fun _ _ => rfl))) pa_nil))))))
      (pss_one (ps_ret (pv 2))))), ?_⟩
  refine x_start (σ' := [some _, some _, none, none, none]) rfl ?_
  try simp only [cx_n, cx_K, cx_w, cx_P]
  walk_at "rd"
  refine ⟨Nat.le_of_ble_eq_true rfl, fun q hq => ?_⟩
  walk_at "rd"
  refine x_rng1 (by omega) (by omega) ?_
  have npq : p ≠ q := fun e => hp.there (e ▸ hq)
  refine for_it walk_rng (fun i σ A => SX [p] H A ∧ Drw A p ∧ ∃ (ws : List Str) (a b : Option V), A q = some (.lst (ws.map V.str)) ∧ ws.length = i ∧ (∀ s ∈ ws, nameB s = true) ∧ σ = [some (.ref p), some (.int n), some (.ref q), a, b])
    ⟨SX.new hq, hp.sx (SX.new (S := []) hq) List.not_mem_nil, [], none, none, upd_same, rfl, (fun _ h => nomatch h), rfl⟩ (fun _ _ _ _ _ => trivial) ?_ ?_
  · rintro i x σ A0 A hi ⟨sA, pA, ws, a, b, eA, lA, allA, rfl⟩ ⟨rfl, rfl⟩
    walk_at "rd"
    refine ⟨p, 26, rfl, pA, by decide, by decide, fun r H1 r0 r1 s1 p1 => ?_⟩
    obtain ⟨g, rfl⟩ : ∃ g : Nat, r = (g : Int) := ⟨r.toNat, by omega⟩
    obtain ⟨c, hc, lc⟩ := at_opt (letters_at g (by omega))
    refine x_ixS (by decide +kernel) (atI_nat hc) ?_
    walk_at "rd"
    have e1 := s1 _ _ (by simpa using Ne.symm npq) eA
    refine ⟨.inl ⟨rfl, _, sqL e1⟩, ?_⟩
    walk_at "rd"
    have hi10 : i < 10 := by omega
    refine x_cstr (small_log (by omega)) ?_
    walk_at "rd"
    have dl := congrArg List.length (digits_ok i hi10)
    rw [str_len] at dl
    refine x_catS (by rw [dl]; exact Nat.le_trans (show 1 + 1 ≤ 10000 by decide) (by decide)) ?_
    walk_at "rd"
    refine ⟨Nat.le_of_ble_eq_true rfl, fun l hl => ?_⟩
    walk_at "rd"
    have npl : l ≠ p := fun e => p1.there (e ▸ hl)
    refine ⟨p, 4, rfl, p1.sx (SX.new (S := []) hl) List.not_mem_nil, by decide, by decide, fun r2 H2 r20 r21 s2 p2 => ?_⟩
    obtain ⟨tl, et, mt⟩ := at_strs (ns := ["", "", "q", "zz7x"]) r20 r21
    refine x_ixL (sqL (s2 _ _ (by simpa using npl) upd_same)) et ?_
    obtain ⟨t4, ta⟩ := tails_ok tl mt
    have nm := name_of (j := i) lc hi10 t4 (List.all_eq_true.mp ta)
    have nl8 := nameB_size nm
    rw [app_len] at nl8
    refine x_catS (Nat.le_of_lt (lt_size nl8)) ?_
    walk_at "rd"
    have sAll : SX [p] A H2 := (s1.trans (SX.new hl)).trans s2
    have e2 := sAll _ _ (by simpa using Ne.symm npq) eA
    refine ⟨q, _, _, rfl, rfl, e2, lt_size (by rw [List.length_map]; omega), ?_⟩
    refine ⟨?_, p2.sx (SX.mut (S := [q]) List.mem_cons_self) (by simpa using npq), ws ++ [_], _, _, by rw [upd_same, List.map_append]; rfl, by simp [lA], fun t ht => ?_, rfl⟩
    · intro b o nb hb
      have hbq : b ≠ q := fun e => by rw [e, hq] at hb; cases hb
      rw [upd_ne hbq]
      exact (sA.trans sAll) b o nb hb
    · rcases List.mem_append.mp ht with ht | ht
      · exact allA t ht
      · cases List.mem_singleton.mp ht
        exact nm
  · rintro σ A ⟨sA, pA, ws, a, b, eA, lA, allA, rfl⟩
    walk_at "rd"
    exact k q ws A hq sA pA eA (by omega) allA
def sp_law_target (T : Tx K mg) : Sp := fun vs H Q _ => ∃ (p nl : Addr) (j : Int) (rings : Bool) (names : List Str), vs = [.ref p, .ref nl, .int j, .bl rings] ∧ Drw H p ∧ SqL K (hid [p] H) nl (names.map V.str) ∧ names.length ≤ 10000 ∧ 0 ≤ j ∧ j + 1 < names.length ∧
  ∀ s H', s ∈ names → SX [p] H H' → Drw H' p → Q (.str s) H'
theorem ok_law_target (T : Tx K mg) : FnOk P w K mg base CX0 2 T.law_target.f T.law_target.fd P_law_target (sp_law_target T) := by
  refine T.law_target.F.ok sc_law_target (fun vs H Q E h => ?_) (fun cdv A outer s H vs Q E hr h => ?_)
  · obtain ⟨p, nl, j, rings, names, rfl, hp, hnl, hn2, hj0, hj1, k⟩ := h
    rfl
  have hu := hu_of hr
  have nd := sc_law_target.nd
  obtain ⟨p, nl, j, rings, names, rfl, hp, hnl, hn2, hj0, hj1, k⟩ := h
  refine ⟨_, (pss_cons (ps_if (pt_val (pv 3)) (pss_one (ps_ret (pe_ix (w_ixL (K := K) rfl) (pv 1) (pe_call (ok_law_draw T) (hr.mono (by decide)) (by rfl) T.law_draw.g T.law_draw.F.kp T.law_draw.B .nil pass0 (pa_cons (pv 0) (pa_cons (pe_callB (w_len (K := K) rfl) (by rfl) T.b_len (by decide +kernel) (pa_cons (pv 1) pa_nil)) pa_nil))) (fun _ _ => rfl)))) pss_nil)
      (pss_one (ps_ret (pe_ix (w_ixL (K := K) rfl) (pv 1) (pe_op op_add (pe_op op_add (pv 2) pe_int) (pe_call (ok_law_draw T) (hr.mono (by decide)) (by rfl) T.law_draw.g T.law_draw.F.kp T.law_draw.B .nil pass0 (pa_cons (pv 0) (pa_cons (pe_op op_sub (pe_op op_sub (pe_callB (w_len (K := K) rfl) (by rfl) T.b_len (by decide +kernel) (pa_cons (pv 1) pa_nil)) pe_int) (pv 2)) pa_nil)))) (fun _ _ => rfl))))), ?_⟩
  refine x_start (σ' := [some _, some _, some _, some _]) rfl ?_
  try simp only [cx_n, cx_K, cx_w, cx_P]
  walk_at "rd"
  refine x_cases (fun c => ?_) (fun c => ?_)
  · walk_at "rd"
    refine x_lenL' (le_hid.l hnl) ?_
    walk_at "rd"
    rw [List.length_map]
    refine ⟨p, (names.length : Int), rfl, hp, by omega, by omega, fun r H1 r0 r1 s1 p1 => ?_⟩
    obtain ⟨to, eto, mto⟩ := at_strs r0 r1
    refine x_ixL (s1.leH.l hnl) eto ?_
    exact k to H1 mto s1 p1
  · walk_at "rd"
    refine x_lenL' (le_hid.l hnl) ?_
    walk_at "rd"
    rw [List.length_map]
    refine ⟨p, _, rfl, hp, by omega, by omega, fun r H1 r0 r1 s1 p1 => ?_⟩
    walk_at "rd"
    obtain ⟨to, eto, mto⟩ := at_strs (ns := names) (r := j + 1 + r) (by omega) (by omega)
    refine x_ixL (s1.leH.l hnl) eto ?_
    exact k to H1 mto s1 p1
def sp_law_menu (T : Tx K mg) : Sp := fun vs H Q _ => ∃ (p : Addr), vs = [.ref p] ∧ Drw H p ∧ ∀ (q : Addr) (ws : List Str) (H' : Hp), H q = none → SX [p] H H' → Drw H' p → H' q = some (.lst (ws.map V.str)) → ws.length = 4 → (∀ s ∈ ws, nameB s = true) → Q (.ref q) H'
theorem ok_law_menu (T : Tx K mg) : FnOk P w K mg base CX0 2 T.law_menu.f T.law_menu.fd P_law_menu (sp_law_menu T) := by
  refine T.law_menu.F.ok sc_law_menu (fun vs H Q E h => ?_) (fun cdv A outer s H vs Q E hr h => ?_)
  · obtain ⟨p, rfl, hp, k⟩ := h
    rfl
  have hu := hu_of hr
  have nd := sc_law_menu.nd
  obtain ⟨p, rfl, hp, k⟩ := h
  refine ⟨_, (pss_cons (ps_set (i := 1) nd rfl (Or.inl rfl) (pe_ix ix_str pe_str (pe_call (ok_law_draw T) (hr.mono (by decide)) (by rfl) T.law_draw.g T.law_draw.F.kp T.law_draw.B .nil pass0 (pa_cons (pv 0) (pa_cons pe_int pa_nil))) (fun _ _ => rfl)))
      (pss_cons (ps_set (i := 2) nd rfl (Or.inl rfl) (pe_lst (pa_cons (pe_lst (pa_cons pe_str (pa_cons pe_str (pa_cons pe_str (pa_cons pe_str pa_nil))))) (pa_cons (pe_lst (pa_cons pe_str (pa_cons pe_str (pa_cons pe_str (pa_cons pe_str pa_nil))))) (pa_cons (pe_lst (pa_cons (pe_op op_catS (pv 1) pe_str) (pa_cons (pe_op op_catS (pv 1) pe_str) (pa_cons (pv 1) (pa_cons (pe_op op_catS pe_str (pv 1)) pa_nil))))) pa_nil)))))
      (pss_one (ps_ret (pe_ix (w_ixL (K := K) rfl) (pv 2) (pe_call (ok_law_draw T) (hr.mono (by decide)) (by rfl) T.law_draw.g T.law_draw.F.kp T.law_draw.B .nil pass0 (pa_cons (pv 0) (pa_cons pe_int pa_nil))) (fun _ _ => rfl)))))), ?_⟩
  refine x_start (σ' := [some _, none, none]) rfl ?_
  try simp only [cx_n, cx_K, cx_w, cx_P]
  walk_at "rd"
  refine ⟨p, 26, rfl, hp, by decide, by decide, fun r H1 r0 r1 s1 p1 => ?_⟩
  obtain ⟨g, rfl⟩ : ∃ g : Nat, r = (g : Int) := ⟨r.toNat, by omega⟩
  refine x_ixS (by decide +kernel) (atI_nat (letter_is g (by omega))) ?_
  walk_at "rd"
  refine ⟨Nat.le_of_ble_eq_true rfl, fun l1 h1 => ?_⟩
  walk_at "rd"
  refine ⟨Nat.le_of_ble_eq_true rfl, fun l2 h2 => ?_⟩
  walk_at "rd"
  refine x_catS (Nat.le_of_ble_eq_true rfl) ?_
  walk_at "rd"
  refine x_catS (Nat.le_of_ble_eq_true rfl) ?_
  walk_at "rd"
  refine x_catS (Nat.le_of_ble_eq_true rfl) ?_
  walk_at "rd"
  refine ⟨Nat.le_of_ble_eq_true rfl, fun l3 h3 => ?_⟩
  walk_at "rd"
  refine ⟨Nat.le_of_ble_eq_true rfl, fun l4 h4 => ?_⟩
  walk_at "rd"
  have z1 : SX [] H1 (upd H1 l1 (.lst [.str "go", .str "a1", .str "stay", .str "b"])) := SX.new h1
  have e1 : (upd H1 l1 (.lst [.str "go", .str "a1", .str "stay", .str "b"])) l1 = _ := upd_same
  generalize upd H1 l1 (.lst [.str "go", .str "a1", .str "stay", .str "b"]) = B1 at *
  have z2 : SX [] B1 (upd B1 l2 (.lst [.str "x", .str "yy", .str "z", .str "w0"])) := SX.new h2
  have e2 : (upd B1 l2 (.lst [.str "x", .str "yy", .str "z", .str "w0"])) l2 = _ := upd_same
  generalize upd B1 l2 (.lst [.str "x", .str "yy", .str "z", .str "w0"]) = B2 at *
  have z3 : SX [] B2 (upd B2 l3 (.lst [.str (⟨#[97 + g]⟩ ++ ("2" : Str)), .str (⟨#[97 + g]⟩ ++ ("10" : Str)), .str ⟨#[97 + g]⟩, .str (("m" : Str) ++ ⟨#[97 + g]⟩)])) := SX.new h3
  have e3 : (upd B2 l3 (.lst [.str (⟨#[97 + g]⟩ ++ ("2" : Str)), .str (⟨#[97 + g]⟩ ++ ("10" : Str)), .str ⟨#[97 + g]⟩, .str (("m" : Str) ++ ⟨#[97 + g]⟩)])) l3 = _ := upd_same
  generalize upd B2 l3 (.lst [.str (⟨#[97 + g]⟩ ++ ("2" : Str)), .str (⟨#[97 + g]⟩ ++ ("10" : Str)), .str ⟨#[97 + g]⟩, .str (("m" : Str) ++ ⟨#[97 + g]⟩)]) = B3 at *
  have z4 : SX [] B3 (upd B3 l4 (.lst [.ref l1, .ref l2, .ref l3])) := SX.new h4
  have e4 : (upd B3 l4 (.lst [.ref l1, .ref l2, .ref l3])) l4 = _ := upd_same
  generalize upd B3 l4 (.lst [.ref l1, .ref l2, .ref l3]) = B4 at *
  have s14 : SX [] H1 B4 := ((z1.trans z2).trans z3).trans z4
  have p4 : Drw B4 p := p1.sx s14 List.not_mem_nil
  have nf : ∀ l, H1 l = none → l ≠ p := fun l h e => p1.there (e ▸ h)
  have f1 : H1 l1 = none := h1
  have f2 : H1 l2 = none := z1.free h2 List.not_mem_nil
  have f3 : H1 l3 = none := (z1.trans z2).free h3 List.not_mem_nil
  have f4 : H1 l4 = none := ((z1.trans z2).trans z3).free h4 List.not_mem_nil
  refine ⟨p, 3, rfl, p4, by decide, by decide, fun r2 H2 r20 r21 s2 p2 => ?_⟩
  have g4 := s2 _ _ (by simpa using nf l4 f4) e4
  have sAll : SX [p] H H2 := (s1.trans (nil_sx s14)).trans s2
  have hf : ∀ l, H1 l = none → H l = none := fun l h => s1.free h (by simpa using nf l h)
  have hg : g < 26 := by omega
  rcases (by omega : r2 = 0 ∨ r2 = 1 ∨ r2 = 2) with rfl | rfl | rfl
  · refine x_ixL (sqL g4) (v := .ref l1) (atI_nat (j := 0) rfl) ?_
    exact k l1 ["go", "a1", "stay", "b"] H2 (hf _ f1) sAll p2 (s2 _ _ (by simpa using nf l1 f1) (((z2.trans z3).trans z4) _ _ List.not_mem_nil e1)) rfl menu1
  · refine x_ixL (sqL g4) (v := .ref l2) (atI_nat (j := 1) rfl) ?_
    exact k l2 ["x", "yy", "z", "w0"] H2 (hf _ f2) sAll p2 (s2 _ _ (by simpa using nf l2 f2) ((z3.trans z4) _ _ List.not_mem_nil e2)) rfl menu2
  · refine x_ixL (sqL g4) (v := .ref l3) (atI_nat (j := 2) rfl) ?_
    exact k l3 [⟨#[97 + g]⟩ ++ ("2" : Str), ⟨#[97 + g]⟩ ++ ("10" : Str), ⟨#[97 + g]⟩, ("m" : Str) ++ (⟨#[97 + g]⟩ : Str)] H2 (hf _ f3) sAll p2 (s2 _ _ (by simpa using nf l3 f3) (z4 _ _ List.not_mem_nil e3)) rfl (menu3 g hg)
end
end M

namespace M
open PySem PySem.Spec PyProof.Rows L2
section
variable {P : Program} {w : World} {K : PySem.W.Frag} {mg : Str → Option Value} {base : Heap}
def sp_law_stand (T : Tx K mg) : Sp := fun vs H Q _ => ∃ (p nl wl : Addr) (g hands : Int) (rings : Bool) (names wds : List Str) (S : List Addr), vs = [.ref p, .ref nl, .int g, .int hands, .ref wl, .bl rings] ∧ Drw H p ∧ p ∈ S ∧ (∀ b ∈ S, H b ≠ none) ∧
  SqL K (hid S H) nl (names.map V.str) ∧ SqL K (hid S H) wl (wds.map V.str) ∧ 0 ≤ g ∧ g < names.length ∧ names.length ≤ 10000 ∧ (∀ s ∈ names, nameB s = true) ∧ wds.length = 4 ∧ (∀ s ∈ wds, nameB s = true) ∧ 1 ≤ hands ∧ hands ≤ 4 ∧
  ∀ v H' st, SX [p] H H' → Drw H' p → rStand K (hid S H') v st → StandOk hands names st → (g + 1 = names.length → st = .fin) → Q v H'
theorem ok_law_stand (T : Tx K mg) : FnOk P w K mg base CX0 3 T.law_stand.f T.law_stand.fd P_law_stand (sp_law_stand T) := by
  refine T.law_stand.F.ok sc_law_stand (fun vs H Q E h => ?_) (fun cdv A outer s H vs Q E hr h => ?_)
  · obtain ⟨p, nl, wl, g, hands, rings, names, wds, S, rfl, hp, pS, hS, hnl, hwl, hg0, hg1, hn2, hnn, hw4, hwn, hh1, hh4, k⟩ := h
    rfl
  have hu := hu_of hr
  have nd := sc_law_stand.nd
  obtain ⟨p, nl, wl, g, hands, rings, names, wds, S, rfl, hp, pS, hS, hnl, hwl, hg0, hg1, hn2, hnn, hw4, hwn, hh1, hh4, k⟩ := h
  refine ⟨_, (pss_cons (ps_set (i := 6) nd rfl (Or.inl rfl) (pe_call (ok_law_draw T) (hr.mono (by decide)) (by rfl) T.law_draw.g T.law_draw.F.kp T.law_draw.B .nil pass0 (pa_cons (pv 0) (pa_cons pe_int pa_nil))))
      (pss_cons (ps_set (i := 7) nd rfl (Or.inl rfl) (pe_ix (w_ixL (K := K) rfl) (pe_lst (pa_cons pe_int (pa_cons pe_int (pa_cons pe_int (pa_cons pe_int (pa_cons pe_int (pa_cons pe_int (pa_cons pe_int (pa_cons pe_int pa_nil))))))))) (pe_call (ok_law_draw T) (hr.mono (by decide)) (by rfl) T.law_draw.g T.law_draw.F.kp T.law_draw.B .nil pass0 (pa_cons (pv 0) (pa_cons pe_int pa_nil))) (fun _ _ => rfl)))
      (pss_cons (ps_set (i := 8) nd rfl (Or.inl rfl) (pe_call (ok_law_draw T) (hr.mono (by decide)) (by rfl) T.law_draw.g T.law_draw.F.kp T.law_draw.B .nil pass0 (pa_cons (pv 0) (pa_cons pe_int pa_nil))))
      (pss_cons (ps_if (PW.pt (pw_or (pt_cmpR op_eq (pv 2) (pe_op op_sub (pe_callB (w_len (K := K) rfl) (by rfl) T.b_len (by decide +kernel) (pa_cons (pv 1) pa_nil)) pe_int) (nomark _)) (pw_or1 (PW.pt (pw_and (pt_cmpR op_eq (pv 6) pe_int (nomark _)) (pw_and1 (pt_cmpR op_gt (pv 2) pe_int (nomark _)))))))) (pss_one (ps_ret (pe_tup (pa_cons pe_str pa_nil)))) pss_nil)
      (pss_cons (ps_set (i := 9) nd rfl (Or.inl rfl) pe_dnewK)
      (pss_cons (ps_if (pt_cmpR op_lt (pv 6) pe_int (nomark _)) (pss_cons (ps_set (i := 10) nd rfl (Or.inl rfl) (pe_call (ok_law_draw T) (hr.mono (by decide)) (by rfl) T.law_draw.g T.law_draw.F.kp T.law_draw.B .nil pass0 (pa_cons (pv 0) (pa_cons (pv 3) pa_nil))))
      (pss_cons (ps_for PassesOwn.never rfl (pi_range1 (by rfl) T.b_range (pa_cons (pv 7) pa_nil)) (pg_name (i := 11) nd rfl (Or.inl rfl)) (pss_one (ps_dput hu (pv 9) (pe_ix (w_ixL (K := K) rfl) (pv 4) (pe_op op_mod (pe_op op_add (pv 11) (pv 8)) pe_int) (fun _ _ => rfl)) (pe_call (ok_law_target T) (hr.mono (by decide)) (by rfl) T.law_target.g T.law_target.F.kp T.law_target.B .nil pass0 (pa_cons (pv 0) (pa_cons (pv 1) (pa_cons (pv 2) (pa_cons (pv 5) pa_nil))))) rfl)))
      (pss_one (ps_ret (pe_tup (pa_cons pe_str (pa_cons (pv 10) (pa_cons (pv 9) pa_nil)))))))) pss_nil)
      (pss_cons (ps_for PassesOwn.never rfl (pi_range1 (by rfl) T.b_range (pa_cons (pv 7) pa_nil)) (pg_name (i := 11) nd rfl (Or.inl rfl)) (pss_cons (ps_set (i := 12) nd rfl (Or.inl rfl) (pe_op op_add pe_int (pe_call (ok_law_draw T) (hr.mono (by decide)) (by rfl) T.law_draw.g T.law_draw.F.kp T.law_draw.B .nil pass0 (pa_cons (pv 0) (pa_cons pe_int pa_nil)))))
      (pss_one (ps_dput hu (pv 9) (pe_ix (w_ixL (K := K) rfl) (pv 4) (pe_op op_mod (pe_op op_add (pv 11) (pv 8)) pe_int) (fun _ _ => rfl)) (pe_tup (pa_cons (pe_call (ok_law_target T) (hr.mono (by decide)) (by rfl) T.law_target.g T.law_target.F.kp T.law_target.B .nil pass0 (pa_cons (pv 0) (pa_cons (pv 1) (pa_cons (pv 2) (pa_cons (pv 5) pa_nil))))) (pa_cons (pv 12) pa_nil))) rfl))))
      (pss_one (ps_ret (pe_tup (pa_cons pe_str (pa_cons (pv 9) pa_nil)))))))))))), ?_⟩
  refine x_start (σ' := [some _, some _, some _, some _, some _, some _, none, none, none, none, none, none, none]) rfl ?_
  try simp only [cx_n, cx_K, cx_w, cx_P]
  have subS : ∀ b ∈ [p], b ∈ S := fun b hb => by cases List.mem_singleton.mp hb; exact pS
  walk_at "rd"
  refine ⟨p, 8, rfl, hp, by decide, by decide, fun sort H1 so0 so1 s1 p1 => ?_⟩
  walk_at "rd"
  refine ⟨Nat.le_of_ble_eq_true rfl, fun l0 hl0 => ?_⟩
  walk_at "rd"
  refine ⟨p, 8, rfl, p1.sx (SX.new (S := []) hl0) List.not_mem_nil, by decide, by decide, fun r H2 r0 r1 s2 p2 => ?_⟩
  have npl : l0 ≠ p := fun e => p1.there (e ▸ hl0)
  obtain ⟨m, em, hm⟩ := at_ints (ns := [2, 1, 2, 3, 3, 2, 1, 4]) r0 r1
  have hm2 : 1 ≤ m ∧ m ≤ 4 := by simp at hm; omega
  refine x_ixL (sqL (s2 _ _ (by simpa using npl) upd_same)) em ?_
  walk_at "rd"
  refine ⟨p, 2, rfl, p2, by decide, by decide, fun shift H3 sh0 sh1 s3 p3 => ?_⟩
  walk_at "rd"
  have sH3 : SX [p] H H3 := ((s1.trans (SX.new hl0)).trans s2).trans s3
  -- what is read stays to be read
  have rdN : ∀ {A : Hp}, SX [p] H A → SqL K A nl (names.map V.str) := fun s => (s.sub subS).leH.l hnl
  have rdW : ∀ {A : Hp}, SX [p] H A → SqL K A wl (wds.map V.str) := fun s => (s.sub subS).leH.l hwl
  have rdP : ∀ {A : Hp}, SX [p] H A → SqL K (hid [p] A) nl (names.map V.str) := fun s => ((s.sub subS).le.trans (le_hid2 subS)).l hnl
  have finE : ∀ t, H3 t = none → Q (.ref t) (upd H3 t (.tup [.str "end"])) := fun t ht => by
    have tS : t ∉ S := fun mem => sx_there sH3 p3.there hS t mem ht
    exact k _ _ .fin (sH3.trans (SX.new ht)) (p3.sx (SX.new (S := []) ht) List.not_mem_nil) ⟨t, rfl, sqT (by rw [hid_of tS, upd_same])⟩ trivial fun _ => rfl
  refine x_lenL' (rdN sH3) ?_
  walk_at "rd"
  rw [List.length_map]
  refine x_cases (fun c1 => ?_) (fun c1 => ?_)
  · walk_at "rd"
    exact ⟨Nat.le_of_ble_eq_true rfl, fun t ht => finE t ht⟩
  have gne : g + 1 ≠ names.length := fun e => by
    have : decide (V.int g = V.int ((names.length : Int) - 1)) = true := decide_eq_true (by rw [← e]; congr 1; omega)
    rw [this] at c1
    cases c1
  walk_at "rd"
  refine x_cases (fun c2 => ?_) (fun c2 => ?_)
  · walk_at "rd"
    refine x_cases (fun c3 => ?_) (fun c3 => ?_)
    · walk_at "rd"
      exact ⟨Nat.le_of_ble_eq_true rfl, fun t ht => finE t ht⟩
    · walk_at "rd"
      intro d hd
      walk_at "rd"
      have npd : d ≠ p := fun e => p3.there (e ▸ hd)
      have hd0 : H d = none := sH3.free hd (by simpa using npd)
      have ndS : d ∉ S := fun m => hS d m hd0
      have subD : ∀ b ∈ [p], b ∈ d :: S := fun b hb => List.mem_cons_of_mem _ (subS b hb)
      by_cases hk5 : sort < 5
      · rw [decide_eq_true hk5]
        walk_at "rd"
        refine ⟨p, hands, rfl, p3.sx (SX.new (S := []) hd) List.not_mem_nil, by omega, by omega, fun hand H4 h0 h1 s4 p4 => ?_⟩
        walk_at "rd"
        have sH4 : SX [p] H H4 := (sH3.trans (SX.new hd)).trans s4
        refine x_rng1 (by omega) (by omega) ?_
        refine for_it walk_rng (fun i σ A => SX [p] H A ∧ Drw A p ∧ ∃ (kv : List (Key × V)) (ds : List (Str × Str)) (a b : Option V), A d = some (.dK kv) ∧ KVs rS (hid (d :: S) A) kv ds ∧ ds.length ≤ i ∧ (0 < i → 1 ≤ ds.length) ∧ (ds.map (·.1)).Nodup ∧
          (∀ q ∈ ds, nameB q.1 = true ∧ nameB q.2 = true ∧ q.2 ∈ names) ∧
          σ = [some (.ref p), some (.ref nl), some (.int g), some (.int hands), some (.ref wl), some (.bl rings), some (.int sort), some (.int m), some (.int shift), some (.ref d), some (.int hand), a, b])
          ⟨sH4, p4, [], [], none, none, s4 _ _ (by simpa using npd) upd_same, .nil, Nat.le_refl _, fun h => absurd h (Nat.lt_irrefl _), List.nodup_nil, (fun _ h => nomatch h), rfl⟩ (fun _ _ _ _ _ => trivial) ?_ ?_
        · rintro i x σ A0 A hi ⟨sA, pA, kv, ds, a, b, dA, kA, lA, lA1, nA, allA, rfl⟩ ⟨rfl, rfl⟩
          walk_at "rd"
          refine ⟨p, nl, g, rings, names, rfl, pA, rdP sA, hn2, hg0, by omega, fun to B1 mto t1 q1 => ?_⟩
          walk_at "rd"
          have sB := sA.trans t1
          refine x_I (by decide) ?_
          obtain ⟨wd, ewd, mwd⟩ := at_strs (ns := wds) (r := ((i : Int) + shift) % 4) (by omega) (by rw [hw4]; omega)
          refine x_ixL (rdW sB) ewd ?_
          have dB : B1 d = some (.dK kv) := t1 _ _ (by simpa using npd) dA
          have hkl : kv.length = ds.length := Paired.length kA
          refine ⟨d, _, rfl, DPut.k (k := Sum.inr wd) dB (lt_size (by omega)), ?_⟩
          have le1 : Le (hid (d :: S) A) (hid (d :: S) (upd B1 d (.dK (putK kv (Sum.inr wd) (.str to))))) := ((t1.sub subD).trans (SX.mut List.mem_cons_self)).le
          refine ⟨?_, ?_, _, putA ds wd to, _, _, upd_same, ?_, ?_, fun _ => putA_pos, putA_nodup nA, fun q hq => ?_, rfl⟩
          · intro b o nb hb
            have hbd : b ≠ d := fun e => by rw [e, hd0] at hb; cases hb
            rw [upd_ne hbd]
            exact sB b o nb hb
          · exact q1.sx (SX.mut (S := [d]) List.mem_cons_self) (by simpa using Ne.symm npd)
          · exact KVs.put rfl (KVs.le mono_S le1 kA) nA
          · have := putA_len (s := wd) (a := to) (l := ds)
            omega
          · rcases putA_mem hq with hq | rfl
            · exact allA q hq
            · exact ⟨hwn _ mwd, hnn _ mto, mto⟩
        · rintro σ A ⟨sA, pA, kv, ds, a, b, dA, kA, lA, lA1, nA, allA, rfl⟩
          walk_at "rd"
          refine ⟨Nat.le_of_ble_eq_true rfl, fun t ht => ?_⟩
          have tS : t ∉ S := fun mem => sx_there sA pA.there hS t mem ht
          refine k _ _ (.hand hand ds) (sA.trans (SX.new ht)) (pA.sx (SX.new (S := []) ht) List.not_mem_nil) ⟨t, .ref d, rfl, sqT ?_, d, kv, rfl, .inl ?_, ?_⟩ ⟨h0, h1, lA1 (by omega), by omega, nA, allA⟩ (fun e => absurd e gne)
          · rw [hid_of tS, upd_same]
          · rw [hid_of ndS, upd_ne (ne_of_none dA ht)]
            exact dA
          · exact KVs.le mono_S ((le_hid2 fun b hb => List.mem_cons_of_mem _ hb).trans (SX.new ht).le) kA
      · rw [decide_eq_false hk5]
        walk_at "rd"
        refine x_rng1 (by omega) (by omega) ?_
        refine for_it walk_rng (fun i σ A => SX [p] H A ∧ Drw A p ∧ ∃ (kv : List (Key × V)) (ds : List (Str × (Str × Int))) (a b : Option V), A d = some (.dK kv) ∧ KVs (rP K rS rI) (hid (d :: S) A) kv ds ∧ ds.length ≤ i ∧ (0 < i → 1 ≤ ds.length) ∧ (ds.map (·.1)).Nodup ∧
          (∀ q ∈ ds, nameB q.1 = true ∧ nameB q.2.1 = true ∧ q.2.1 ∈ names ∧ 1 ≤ q.2.2 ∧ q.2.2 ≤ 9) ∧
          σ = [some (.ref p), some (.ref nl), some (.int g), some (.int hands), some (.ref wl), some (.bl rings), some (.int sort), some (.int m), some (.int shift), some (.ref d), none, a, b])
          ⟨sH3.trans (SX.new hd), p3.sx (SX.new (S := []) hd) List.not_mem_nil, [], [], none, none, upd_same, .nil, Nat.le_refl _, fun h => absurd h (Nat.lt_irrefl _), List.nodup_nil, (fun _ h => nomatch h), rfl⟩ (fun _ _ _ _ _ => trivial) ?_ ?_
        · rintro i x σ A0 A hi ⟨sA, pA, kv, ds, a, b, dA, kA, lA, lA1, nA, allA, rfl⟩ ⟨rfl, rfl⟩
          walk_at "rd"
          refine ⟨p, 3, rfl, pA, by decide, by decide, fun wt B0 w0 w1 t0 q0 => ?_⟩
          walk_at "rd"
          refine ⟨p, nl, g, rings, names, rfl, q0, rdP (sA.trans t0), hn2, hg0, by omega, fun to B1 mto t1 q1 => ?_⟩
          walk_at "rd"
          refine ⟨Nat.le_of_ble_eq_true rfl, fun t ht => ?_⟩
          have tB : SX [p] A (upd B1 t (.tup [.str to, .int (1 + wt)])) := (t0.trans t1).trans (SX.new ht)
          have sB := sA.trans tB
          walk_at "rd"
          refine x_I (by decide) ?_
          obtain ⟨wd, ewd, mwd⟩ := at_strs (ns := wds) (r := ((i : Int) + shift) % 4) (by omega) (by rw [hw4]; omega)
          refine x_ixL (rdW sB) ewd ?_
          have dB : (upd B1 t (.tup [.str to, .int (1 + wt)])) d = some (.dK kv) := tB _ _ (by simpa using npd) dA
          have hkl : kv.length = ds.length := Paired.length kA
          refine ⟨d, _, rfl, DPut.k (k := Sum.inr wd) dB (lt_size (by omega)), ?_⟩
          have le1 : Le (hid (d :: S) A) (hid (d :: S) (upd (upd B1 t (.tup [.str to, .int (1 + wt)])) d (.dK (putK kv (Sum.inr wd) (.ref t))))) := ((tB.sub subD).trans (SX.mut List.mem_cons_self)).le
          have d1 : B1 d ≠ none := by rw [(t0.trans t1) _ _ (by simpa using npd) dA]; exact fun z => nomatch z
          have tS : t ∉ d :: S := fun mem => hid_nn (H := B1) (sx_there (t0.trans t1) q1.there (sx_there sA pA.there hS)) d1 t mem ht
          have td : t ≠ d := fun e => tS (by rw [e]; exact List.mem_cons_self)
          refine ⟨?_, ?_, _, putA ds wd (to, 1 + wt), _, _, upd_same, ?_, ?_, fun _ => putA_pos, putA_nodup nA, fun q hq => ?_, rfl⟩
          · intro b o nb hb
            have hbd : b ≠ d := fun e => by rw [e, hd0] at hb; cases hb
            rw [upd_ne hbd]
            exact sB b o nb hb
          · exact (q1.sx (SX.new (S := []) ht) List.not_mem_nil).sx (SX.mut (S := [d]) List.mem_cons_self) (by simpa using Ne.symm npd)
          · refine KVs.put ⟨t, .str to, .int (1 + wt), rfl, sqT ?_, rfl, rfl⟩ (KVs.le (mono_P mono_S mono_I) le1 kA) nA
            rw [hid_of tS, upd_ne td, upd_same]
          · have := putA_len (s := wd) (a := (to, 1 + wt)) (l := ds)
            omega
          · rcases putA_mem hq with hq | rfl
            · exact allA q hq
            · exact ⟨hwn _ mwd, hnn _ mto, mto, by show 1 ≤ 1 + wt; omega, by show 1 + wt ≤ 9; omega⟩
        · rintro σ A ⟨sA, pA, kv, ds, a, b, dA, kA, lA, lA1, nA, allA, rfl⟩
          walk_at "rd"
          refine ⟨Nat.le_of_ble_eq_true rfl, fun t ht => ?_⟩
          have tS : t ∉ S := fun mem => sx_there sA pA.there hS t mem ht
          refine k _ _ (.chance ds) (sA.trans (SX.new ht)) (pA.sx (SX.new (S := []) ht) List.not_mem_nil) ⟨t, .ref d, rfl, sqT ?_, d, kv, rfl, .inl ?_, ?_⟩ ⟨lA1 (by omega), by omega, nA, allA⟩ (fun e => absurd e gne)
          · rw [hid_of tS, upd_same]
          · rw [hid_of ndS, upd_ne (ne_of_none dA ht)]
            exact dA
          · exact KVs.le (mono_P mono_S mono_I) ((le_hid2 fun b hb => List.mem_cons_of_mem _ hb).trans (SX.new ht).le) kA
  · walk_at "rd"
    intro d hd
    walk_at "rd"
    have npd : d ≠ p := fun e => p3.there (e ▸ hd)
    have hd0 : H d = none := sH3.free hd (by simpa using npd)
    have ndS : d ∉ S := fun m => hS d m hd0
    have subD : ∀ b ∈ [p], b ∈ d :: S := fun b hb => List.mem_cons_of_mem _ (subS b hb)
    by_cases hk5 : sort < 5
    · rw [decide_eq_true hk5]
      walk_at "rd"
      refine ⟨p, hands, rfl, p3.sx (SX.new (S := []) hd) List.not_mem_nil, by omega, by omega, fun hand H4 h0 h1 s4 p4 => ?_⟩
      walk_at "rd"
      have sH4 : SX [p] H H4 := (sH3.trans (SX.new hd)).trans s4
      refine x_rng1 (by omega) (by omega) ?_
      refine for_it walk_rng (fun i σ A => SX [p] H A ∧ Drw A p ∧ ∃ (kv : List (Key × V)) (ds : List (Str × Str)) (a b : Option V), A d = some (.dK kv) ∧ KVs rS (hid (d :: S) A) kv ds ∧ ds.length ≤ i ∧ (0 < i → 1 ≤ ds.length) ∧ (ds.map (·.1)).Nodup ∧
        (∀ q ∈ ds, nameB q.1 = true ∧ nameB q.2 = true ∧ q.2 ∈ names) ∧
        σ = [some (.ref p), some (.ref nl), some (.int g), some (.int hands), some (.ref wl), some (.bl rings), some (.int sort), some (.int m), some (.int shift), some (.ref d), some (.int hand), a, b])
        ⟨sH4, p4, [], [], none, none, s4 _ _ (by simpa using npd) upd_same, .nil, Nat.le_refl _, fun h => absurd h (Nat.lt_irrefl _), List.nodup_nil, (fun _ h => nomatch h), rfl⟩ (fun _ _ _ _ _ => trivial) ?_ ?_
      · rintro i x σ A0 A hi ⟨sA, pA, kv, ds, a, b, dA, kA, lA, lA1, nA, allA, rfl⟩ ⟨rfl, rfl⟩
        walk_at "rd"
        refine ⟨p, nl, g, rings, names, rfl, pA, rdP sA, hn2, hg0, by omega, fun to B1 mto t1 q1 => ?_⟩
        walk_at "rd"
        have sB := sA.trans t1
        refine x_I (by decide) ?_
        obtain ⟨wd, ewd, mwd⟩ := at_strs (ns := wds) (r := ((i : Int) + shift) % 4) (by omega) (by rw [hw4]; omega)
        refine x_ixL (rdW sB) ewd ?_
        have dB : B1 d = some (.dK kv) := t1 _ _ (by simpa using npd) dA
        have hkl : kv.length = ds.length := Paired.length kA
        refine ⟨d, _, rfl, DPut.k (k := Sum.inr wd) dB (lt_size (by omega)), ?_⟩
        have le1 : Le (hid (d :: S) A) (hid (d :: S) (upd B1 d (.dK (putK kv (Sum.inr wd) (.str to))))) := ((t1.sub subD).trans (SX.mut List.mem_cons_self)).le
        refine ⟨?_, ?_, _, putA ds wd to, _, _, upd_same, ?_, ?_, fun _ => putA_pos, putA_nodup nA, fun q hq => ?_, rfl⟩
        · intro b o nb hb
          have hbd : b ≠ d := fun e => by rw [e, hd0] at hb; cases hb
          rw [upd_ne hbd]
          exact sB b o nb hb
        · exact q1.sx (SX.mut (S := [d]) List.mem_cons_self) (by simpa using Ne.symm npd)
        · exact KVs.put rfl (KVs.le mono_S le1 kA) nA
        · have := putA_len (s := wd) (a := to) (l := ds)
          omega
        · rcases putA_mem hq with hq | rfl
          · exact allA q hq
          · exact ⟨hwn _ mwd, hnn _ mto, mto⟩
      · rintro σ A ⟨sA, pA, kv, ds, a, b, dA, kA, lA, lA1, nA, allA, rfl⟩
        walk_at "rd"
        refine ⟨Nat.le_of_ble_eq_true rfl, fun t ht => ?_⟩
        have tS : t ∉ S := fun mem => sx_there sA pA.there hS t mem ht
        refine k _ _ (.hand hand ds) (sA.trans (SX.new ht)) (pA.sx (SX.new (S := []) ht) List.not_mem_nil) ⟨t, .ref d, rfl, sqT ?_, d, kv, rfl, .inl ?_, ?_⟩ ⟨h0, h1, lA1 (by omega), by omega, nA, allA⟩ (fun e => absurd e gne)
        · rw [hid_of tS, upd_same]
        · rw [hid_of ndS, upd_ne (ne_of_none dA ht)]
          exact dA
        · exact KVs.le mono_S ((le_hid2 fun b hb => List.mem_cons_of_mem _ hb).trans (SX.new ht).le) kA
    · rw [decide_eq_false hk5]
      walk_at "rd"
      refine x_rng1 (by omega) (by omega) ?_
      refine for_it walk_rng (fun i σ A => SX [p] H A ∧ Drw A p ∧ ∃ (kv : List (Key × V)) (ds : List (Str × (Str × Int))) (a b : Option V), A d = some (.dK kv) ∧ KVs (rP K rS rI) (hid (d :: S) A) kv ds ∧ ds.length ≤ i ∧ (0 < i → 1 ≤ ds.length) ∧ (ds.map (·.1)).Nodup ∧
        (∀ q ∈ ds, nameB q.1 = true ∧ nameB q.2.1 = true ∧ q.2.1 ∈ names ∧ 1 ≤ q.2.2 ∧ q.2.2 ≤ 9) ∧
        σ = [some (.ref p), some (.ref nl), some (.int g), some (.int hands), some (.ref wl), some (.bl rings), some (.int sort), some (.int m), some (.int shift), some (.ref d), none, a, b])
        ⟨sH3.trans (SX.new hd), p3.sx (SX.new (S := []) hd) List.not_mem_nil, [], [], none, none, upd_same, .nil, Nat.le_refl _, fun h => absurd h (Nat.lt_irrefl _), List.nodup_nil, (fun _ h => nomatch h), rfl⟩ (fun _ _ _ _ _ => trivial) ?_ ?_
      · rintro i x σ A0 A hi ⟨sA, pA, kv, ds, a, b, dA, kA, lA, lA1, nA, allA, rfl⟩ ⟨rfl, rfl⟩
        walk_at "rd"
        refine ⟨p, 3, rfl, pA, by decide, by decide, fun wt B0 w0 w1 t0 q0 => ?_⟩
        walk_at "rd"
        refine ⟨p, nl, g, rings, names, rfl, q0, rdP (sA.trans t0), hn2, hg0, by omega, fun to B1 mto t1 q1 => ?_⟩
        walk_at "rd"
        refine ⟨Nat.le_of_ble_eq_true rfl, fun t ht => ?_⟩
        have tB : SX [p] A (upd B1 t (.tup [.str to, .int (1 + wt)])) := (t0.trans t1).trans (SX.new ht)
        have sB := sA.trans tB
        walk_at "rd"
        refine x_I (by decide) ?_
        obtain ⟨wd, ewd, mwd⟩ := at_strs (ns := wds) (r := ((i : Int) + shift) % 4) (by omega) (by rw [hw4]; omega)
        refine x_ixL (rdW sB) ewd ?_
        have dB : (upd B1 t (.tup [.str to, .int (1 + wt)])) d = some (.dK kv) := tB _ _ (by simpa using npd) dA
        have hkl : kv.length = ds.length := Paired.length kA
        refine ⟨d, _, rfl, DPut.k (k := Sum.inr wd) dB (lt_size (by omega)), ?_⟩
        have le1 : Le (hid (d :: S) A) (hid (d :: S) (upd (upd B1 t (.tup [.str to, .int (1 + wt)])) d (.dK (putK kv (Sum.inr wd) (.ref t))))) := ((tB.sub subD).trans (SX.mut List.mem_cons_self)).le
        have d1 : B1 d ≠ none := by rw [(t0.trans t1) _ _ (by simpa using npd) dA]; exact fun z => nomatch z
        have tS : t ∉ d :: S := fun mem => hid_nn (H := B1) (sx_there (t0.trans t1) q1.there (sx_there sA pA.there hS)) d1 t mem ht
        have td : t ≠ d := fun e => tS (by rw [e]; exact List.mem_cons_self)
        refine ⟨?_, ?_, _, putA ds wd (to, 1 + wt), _, _, upd_same, ?_, ?_, fun _ => putA_pos, putA_nodup nA, fun q hq => ?_, rfl⟩
        · intro b o nb hb
          have hbd : b ≠ d := fun e => by rw [e, hd0] at hb; cases hb
          rw [upd_ne hbd]
          exact sB b o nb hb
        · exact (q1.sx (SX.new (S := []) ht) List.not_mem_nil).sx (SX.mut (S := [d]) List.mem_cons_self) (by simpa using Ne.symm npd)
        · refine KVs.put ⟨t, .str to, .int (1 + wt), rfl, sqT ?_, rfl, rfl⟩ (KVs.le (mono_P mono_S mono_I) le1 kA) nA
          rw [hid_of tS, upd_ne td, upd_same]
        · have := putA_len (s := wd) (a := (to, 1 + wt)) (l := ds)
          omega
        · rcases putA_mem hq with hq | rfl
          · exact allA q hq
          · exact ⟨hwn _ mwd, hnn _ mto, mto, by show 1 ≤ 1 + wt; omega, by show 1 + wt ≤ 9; omega⟩
      · rintro σ A ⟨sA, pA, kv, ds, a, b, dA, kA, lA, lA1, nA, allA, rfl⟩
        walk_at "rd"
        refine ⟨Nat.le_of_ble_eq_true rfl, fun t ht => ?_⟩
        have tS : t ∉ S := fun mem => sx_there sA pA.there hS t mem ht
        refine k _ _ (.chance ds) (sA.trans (SX.new ht)) (pA.sx (SX.new (S := []) ht) List.not_mem_nil) ⟨t, .ref d, rfl, sqT ?_, d, kv, rfl, .inl ?_, ?_⟩ ⟨lA1 (by omega), by omega, nA, allA⟩ (fun e => absurd e gne)
        · rw [hid_of tS, upd_same]
        · rw [hid_of ndS, upd_ne (ne_of_none dA ht)]
          exact dA
        · exact KVs.le (mono_P mono_S mono_I) ((le_hid2 fun b hb => List.mem_cons_of_mem _ hb).trans (SX.new ht).le) kA
end
end M

namespace M
open PySem PySem.Spec PyProof.Rows L2
theorem putA_has {α : Type} {s : Str} {a : α} : ∀ {l : List (Str × α)}, (s, a) ∈ putA l s a
  | [] => List.mem_singleton_self _
  | (k, b) :: r => by
    unfold putA
    split
    · rename_i h
      rw [h]
      exact List.mem_cons_self
    · exact List.mem_cons_of_mem _ putA_has
section
variable {P : Program} {w : World} {K : PySem.W.Frag} {mg : Str → Option Value} {base : Heap}
def sp_law_stands (T : Tx K mg) : Sp := fun vs H Q _ => ∃ (p nl : Addr) (hands : Int) (rl : Bool) (names : List Str) (S : List Addr), vs = [.ref p, .ref nl, .int hands, .bl rl] ∧ Drw H p ∧ p ∈ S ∧ (∀ b ∈ S, H b ≠ none) ∧
  SqL K (hid S H) nl (names.map V.str) ∧ names.length ≤ 1000 ∧ (∀ s ∈ names, nameB s = true) ∧ 1 ≤ hands ∧ hands ≤ 4 ∧
  ∀ d H' sts, H d = none → SX [p] H H' → Drw H' p → rD (rStand K) (hid S H') (.ref d) sts → StandsOk hands names sts → (1 ≤ names.length → ∃ z ∈ sts, z.2 = .fin) → Q (.ref d) H'
theorem ok_law_stands (T : Tx K mg) : FnOk P w K mg base CX0 4 T.law_stands.f T.law_stands.fd P_law_stands (sp_law_stands T) := by
  refine T.law_stands.F.ok sc_law_stands (fun vs H Q E h => ?_) (fun cdv A outer s H vs Q E hr h => ?_)
  · obtain ⟨p, nl, hands, rl, names, S, rfl, hp, pS, hS, hnl, hn2, hnn, hh1, hh4, k⟩ := h
    rfl
  have hu := hu_of hr
  have nd := sc_law_stands.nd
  obtain ⟨p, nl, hands, rl, names, S, rfl, hp, pS, hS, hnl, hn2, hnn, hh1, hh4, k⟩ := h
  refine ⟨_, (pss_cons (ps_set (i := 4) nd rfl (Or.inl rfl) (pe_call (ok_law_menu T) (hr.mono (by decide)) (by rfl) T.law_menu.g T.law_menu.F.kp T.law_menu.B .nil pass0 (pa_cons (pv 0) pa_nil)))
      (pss_cons (ps_set (i := 5) nd rfl (Or.inl rfl) pe_dnewK)
      (pss_cons (ps_for PassesOwn.never rfl (pi_range1 (by rfl) T.b_range (pa_cons (pe_callB (w_len (K := K) rfl) (by rfl) T.b_len (by decide +kernel) (pa_cons (pv 1) pa_nil)) pa_nil)) (pg_name (i := 6) nd rfl (Or.inl rfl)) (pss_one (ps_dput hu (pv 5) (pe_ix (w_ixL (K := K) rfl) (pv 1) (pv 6) (fun _ _ => rfl)) (pe_call (ok_law_stand T) (hr.mono (by decide)) (by rfl) T.law_stand.g T.law_stand.F.kp T.law_stand.B .nil pass0 (pa_cons (pv 0) (pa_cons (pv 1) (pa_cons (pv 6) (pa_cons (pv 2) (pa_cons (pv 4) (pa_cons (pv 3) pa_nil))))))) rfl)))
      (pss_one (ps_ret (pv 5)))))), ?_⟩
  refine x_start (σ' := [some _, some _, some _, some _, none, none, none]) rfl ?_
  try simp only [cx_n, cx_K, cx_w, cx_P]
  have subS : ∀ b ∈ [p], b ∈ S := fun b hb => by cases List.mem_singleton.mp hb; exact pS
  walk_at "rd"
  refine ⟨p, rfl, hp, fun wl wds H1 hwl s1 p1 ewl lw4 hwn => ?_⟩
  walk_at "rd"
  intro d hd
  walk_at "rd"
  have npd : d ≠ p := fun e => p1.there (e ▸ hd)
  have hd0 : H d = none := s1.free hd (by simpa using npd)
  have ndS : d ∉ S := fun m => hS d m hd0
  have nwp : wl ≠ p := fun e => hp.there (e ▸ hwl)
  have nwS : wl ∉ S := fun m => hS wl m hwl
  have ndw : d ≠ wl := Ne.symm (ne_of_none ewl hd)
  have rdN : ∀ {A : Hp}, SX [p] H A → SqL K A nl (names.map V.str) := fun s => (s.sub subS).leH.l hnl
  have subD : ∀ b ∈ [p], b ∈ d :: S := fun b hb => List.mem_cons_of_mem _ (subS b hb)
  have s1d : SX [p] H (upd H1 d (.dK [])) := s1.trans (SX.new hd)
  refine x_lenL' (rdN s1d) ?_
  walk_at "rd"
  rw [List.length_map]
  refine x_rng1 (by omega) (by omega) ?_
  refine for_it walk_rng (fun i σ A => SX [p] H A ∧ Drw A p ∧ ∃ (kv : List (Key × V)) (sts : List (Str × Stand)) (a : Option V), A d = some (.dK kv) ∧ A wl = some (.lst (wds.map V.str)) ∧ KVs (rStand K) (hid (d :: S) A) kv sts ∧ sts.length ≤ i ∧ (sts.map (·.1)).Nodup ∧
      (∀ q ∈ sts, StandOk hands names q.2) ∧ (∀ n, n ∈ sts.map (·.1) ↔ n ∈ names.take i) ∧ (1 ≤ names.length → i = names.length → ∃ z ∈ sts, z.2 = .fin) ∧
      σ = [some (.ref p), some (.ref nl), some (.int hands), some (.bl rl), some (.ref wl), some (.ref d), a])
      ⟨s1d, p1.sx (SX.new (S := []) hd) List.not_mem_nil, [], [], none, upd_same, by rw [upd_ne (Ne.symm ndw)]; exact ewl, .nil, Nat.le_refl _, List.nodup_nil, (fun _ h => nomatch h), (fun n => ⟨(fun h => nomatch h), (fun h => nomatch h)⟩), (fun a b => by omega), rfl⟩ (fun _ _ _ _ _ => trivial) ?_ ?_
  · rintro i x σ A0 A hi ⟨sA, pA, kv, sts, a, dA, wA, kA, lA, nA, allA, keyA, finA, rfl⟩ ⟨rfl, rfl⟩
    have hi2 : i < names.length := by omega
    obtain ⟨nm, hnm⟩ : ∃ nm, names[i]? = some nm := ⟨names[i], by simp [hi2]⟩
    have anm : atI (names.map V.str) (i : Int) = some (.str nm) := atI_nat (by rw [List.getElem?_map, hnm]; rfl)
    have thereA := sx_there sA pA.there hS
    have hkl : kv.length = sts.length := Paired.length kA
    have ndA : A d ≠ none := by rw [dA]; exact fun z => nomatch z
    walk_at "rd"
    refine ⟨p, nl, wl, i, hands, rl, names, wds, d :: S, rfl, pA, List.mem_cons_of_mem _ pS, hid_nn thereA ndA, ?_, ?_, by omega, by omega, by omega, hnn, lw4, hwn, hh1, hh4, fun v B st tB pB rv sok fn => ?_⟩
    · refine (le_hidS (sA.sub subS) fun b hb => ?_).l hnl
      rcases List.mem_cons.mp hb with rfl | hb
      · exact .inr hd0
      · exact .inl hb
    · refine sqL ?_
      rw [hid_of (by simp only [List.mem_cons, not_or]; exact ⟨Ne.symm ndw, nwS⟩)]
      exact wA
    walk_at "rd"
    refine x_ixL (rdN (sA.trans tB)) anm ?_
    have dB : B d = some (.dK kv) := tB _ _ (by simpa using npd) dA
    refine ⟨d, _, rfl, DPut.k (k := Sum.inr nm) dB (lt_size (by omega)), ?_⟩
    have le1 : Le (hid (d :: S) A) (hid (d :: S) (upd B d (.dK (putK kv (Sum.inr nm) v)))) := ((tB.sub subD).trans (SX.mut List.mem_cons_self)).le
    refine ⟨?_, pB.sx (SX.mut (S := [d]) List.mem_cons_self) (by simpa using Ne.symm npd), _, putA sts nm st, _, upd_same, ?_, ?_, ?_, putA_nodup nA, fun q hq => ?_, fun n => ?_, fun _ e => ?_, rfl⟩
    · intro b o nb hb
      have hbd : b ≠ d := fun e => by rw [e, hd0] at hb; cases hb
      rw [upd_ne hbd]
      exact (sA.trans tB) b o nb hb
    · rw [upd_ne (Ne.symm ndw)]
      exact tB _ _ (by simpa using nwp) wA
    · exact KVs.put (mono_stand K _ _ _ _ (SX.mut List.mem_cons_self).le rv) (KVs.le (mono_stand K) le1 kA) nA
    · have := putA_len (s := nm) (a := st) (l := sts)
      omega
    · rcases putA_mem hq with hq | rfl
      · exact allA q hq
      · exact sok
    · rw [take_succ_of hnm, List.mem_append, List.mem_singleton]
      constructor
      · intro h
        rcases putA_key_of h with h | h
        · exact .inl ((keyA n).mp h)
        · exact .inr h
      · rintro (h | rfl)
        · exact putA_key_mono ((keyA n).mpr h)
        · exact putA_key_in
    · exact ⟨_, putA_has, fn (by omega)⟩
  · rintro σ A ⟨sA, pA, kv, sts, a, dA, wA, kA, lA, nA, allA, keyA, finA, rfl⟩
    walk_at "rd"
    have e : (names.length : Int).toNat = names.length := by omega
    rw [e] at lA keyA finA
    rw [List.take_length] at keyA
    refine k d A sts hd0 sA pA ⟨d, kv, rfl, .inl (by rw [hid_of ndS]; exact dA), KVs.le (mono_stand K) (le_hid2 fun b hb => List.mem_cons_of_mem _ hb) kA⟩ ⟨nA, keyA, allA, lA⟩ fun h => finA h rfl
def sp_law_build (T : Tx K mg) : Sp := fun vs H Q _ => ∃ (a : Addr) (ns : List Int), vs = [.ref a] ∧ SqL K H a (ns.map V.int) ∧ ns.length ≤ 10000 ∧
  ∀ (q : Addr) (H' : Hp) (hands : Int) (nl : Addr) (names : List Str) (d : Addr) (sts : List (Str × Stand)) (n0 : Str), H q = none → SX [] H H' → H' q = some (.lst [.int hands, .ref nl, .ref d]) → H' nl = some (.lst (names.map V.str)) → H nl = none → rD (rStand K) H' (.ref d) sts → WorkOk hands n0 sts → names[0]? = some n0 → names.length ≤ 8 →
    (∀ n, n ∈ sts.map (·.1) ↔ n ∈ names) → (∃ z ∈ sts, z.2 = .fin) → Q (.ref q) H'
theorem ok_law_build (T : Tx K mg) : FnOk P w K mg base CX0 5 T.law_build.f T.law_build.fd P_law_build (sp_law_build T) := by
  refine T.law_build.F.ok sc_law_build (fun vs H Q E h => ?_) (fun cdv A outer s H vs Q E hr h => ?_)
  · obtain ⟨a, ns, rfl, ha, hlen, k⟩ := h
    rfl
  have hu := hu_of hr
  have nd := sc_law_build.nd
  obtain ⟨a, ns, rfl, ha, hlen, k⟩ := h
  refine ⟨_, (pss_cons (ps_set (i := 1) nd rfl (Or.inl rfl) (pe_call (ok_law_open T) (hr.mono (by decide)) (by rfl) T.law_open.g T.law_open.F.kp T.law_open.B .nil pass0 (pa_cons (pv 0) (pa_cons pe_int pa_nil))))
      (pss_cons (ps_set (i := 2) nd rfl (Or.inl rfl) (pe_ix (w_ixL (K := K) rfl) (pe_lst (pa_cons pe_int (pa_cons pe_int (pa_cons pe_int (pa_cons pe_int (pa_cons pe_int (pa_cons pe_int (pa_cons pe_int (pa_cons pe_int pa_nil))))))))) (pe_call (ok_law_draw T) (hr.mono (by decide)) (by rfl) T.law_draw.g T.law_draw.F.kp T.law_draw.B .nil pass0 (pa_cons (pv 1) (pa_cons pe_int pa_nil))) (fun _ _ => rfl)))
      (pss_cons (ps_set (i := 3) nd rfl (Or.inl rfl) (pe_ix (w_ixL (K := K) rfl) (pe_lst (pa_cons pe_int (pa_cons pe_int (pa_cons pe_int (pa_cons pe_int (pa_cons pe_int (pa_cons pe_int (pa_cons pe_int (pa_cons pe_int (pa_cons pe_int (pa_cons pe_int (pa_cons pe_int (pa_cons pe_int (pa_cons pe_int (pa_cons pe_int (pa_cons pe_int (pa_cons pe_int pa_nil))))))))))))))))) (pe_call (ok_law_draw T) (hr.mono (by decide)) (by rfl) T.law_draw.g T.law_draw.F.kp T.law_draw.B .nil pass0 (pa_cons (pv 1) (pa_cons pe_int pa_nil))) (fun _ _ => rfl)))
      (pss_cons (ps_set (i := 4) nd rfl (Or.inl rfl) (pe_cmpR op_eq (pe_call (ok_law_draw T) (hr.mono (by decide)) (by rfl) T.law_draw.g T.law_draw.F.kp T.law_draw.B .nil pass0 (pa_cons (pv 1) (pa_cons pe_int pa_nil))) pe_int (nomark _)))
      (pss_cons (ps_set (i := 5) nd rfl (Or.inl rfl) (pe_call (ok_law_names T) (hr.mono (by decide)) (by rfl) T.law_names.g T.law_names.F.kp T.law_names.B .nil pass0 (pa_cons (pv 1) (pa_cons (pv 3) pa_nil))))
      (pss_one (ps_ret (pe_lst (pa_cons (pv 2) (pa_cons (pv 5) (pa_cons (pe_call (ok_law_stands T) (hr.mono (by decide)) (by rfl) T.law_stands.g T.law_stands.F.kp T.law_stands.B .nil pass0 (pa_cons (pv 1) (pa_cons (pv 5) (pa_cons (pv 2) (pa_cons (pv 4) pa_nil))))) pa_nil))))))))))), ?_⟩
  refine x_start (σ' := [some _, none, none, none, none, none]) rfl ?_
  try simp only [cx_n, cx_K, cx_w, cx_P]
  walk_at "rd"
  refine ⟨a, ns, 1, rfl, ha, hlen, by decide, by decide, fun p H1 hp s1 p1 => ?_⟩
  walk_at "rd"
  refine ⟨Nat.le_of_ble_eq_true rfl, fun l0 hl0 => ?_⟩
  walk_at "rd"
  have npl : l0 ≠ p := fun e => p1.there (e ▸ hl0)
  refine ⟨p, 8, rfl, p1.sx (SX.new (S := []) hl0) List.not_mem_nil, by decide, by decide, fun r H2 r0 r1 s2 p2 => ?_⟩
  obtain ⟨hands, em, hm⟩ := at_ints (ns := [1, 2, 3, 2, 3, 4, 2, 1]) r0 r1
  have hm2 : 1 ≤ hands ∧ hands ≤ 4 := by simp at hm; omega
  refine x_ixL (sqL (s2 _ _ (by simpa using npl) upd_same)) em ?_
  walk_at "rd"
  have s12 : SX [p] H H2 := (nil_sx s1).trans ((SX.new hl0).trans s2)
  refine ⟨Nat.le_of_ble_eq_true rfl, fun l1 hl1 => ?_⟩
  walk_at "rd"
  have npl1 : l1 ≠ p := fun e => p2.there (e ▸ hl1)
  refine ⟨p, 16, rfl, p2.sx (SX.new (S := []) hl1) List.not_mem_nil, by decide, by decide, fun r H3 r0 r1 s3 p3 => ?_⟩
  obtain ⟨many, em2, hmm⟩ := at_ints (ns := [4, 5, 6, 7, 8, 5, 6, 3, 4, 2, 1, 7, 8, 6, 5, 4]) r0 r1
  have hm3 : 1 ≤ many ∧ many ≤ 8 := by simp at hmm; omega
  refine x_ixL (sqL (s3 _ _ (by simpa using npl1) upd_same)) em2 ?_
  walk_at "rd"
  have s13 : SX [p] H H3 := s12.trans ((SX.new hl1).trans s3)
  refine ⟨p, 2, rfl, p3, by decide, by decide, fun r4 H4 r40 r41 s4 p4 => ?_⟩
  walk_at "rd"
  refine ⟨p, many, rfl, p4, by omega, by omega, fun nl names H5 hnl s5 p5 enl lnl nn => ?_⟩
  walk_at "rd"
  have npn : nl ≠ p := fun e => p4.there (e ▸ hnl)
  have nnS : nl ∉ [p] := by simpa using npn
  refine ⟨p, nl, hands, _, names, [p], rfl, p5, List.mem_cons_self, (by intro b hb; cases List.mem_singleton.mp hb; exact p5.there), sqL (by rw [hid_of nnS]; exact enl), by omega, nn, hm2.1, hm2.2, fun d H6 sts hd s6 p6 rd6 so fn => ?_⟩
  walk_at "rd"
  refine ⟨Nat.le_of_ble_eq_true rfl, fun q hq => ?_⟩
  have sAll : SX [p] H H6 := ((s13.trans s4).trans s5).trans s6
  have nqp : q ≠ p := fun e => p6.there (e ▸ hq)
  have hpn : ∀ b ∈ [p], H b = none := fun b hb => by cases List.mem_singleton.mp hb; exact hp
  obtain ⟨n0, hn0⟩ : ∃ n0, names[0]? = some n0 := ⟨names[0]'(by omega), by simp⟩
  have enl6 := s6 _ _ nnS enl
  have nqn : nl ≠ q := ne_of_none enl6 hq
  refine k q _ hands nl names d sts n0 (sAll.free hq (by simpa using nqp)) (sx_nil_of (sAll.trans (SX.new hq)) hpn) upd_same (by rw [upd_ne nqn]; exact enl6) ((s13.trans s4).free hnl nnS)
    (mono_D (mono_stand K) _ _ _ _ ((SX.new (S := [p]) hq).leH) rd6) ⟨hm2, ⟨?_, by have := so.len; omega⟩, so.nd, fun z hz => ⟨nn _ ((so.keys _).mp (List.mem_map.mpr ⟨z, hz, rfl⟩)), (so.all z hz).sub fun x hx => (so.keys x).mpr hx⟩, (so.keys _).mpr (getMem hn0)⟩ hn0 (by omega) so.keys (fn (by omega))
  rcases Nat.eq_zero_or_pos sts.length with h | h
  · have := (so.keys n0).mpr (getMem hn0)
    rw [List.eq_nil_of_length_eq_zero h] at this
    cases this
  · exact h
end
end M

namespace M
open PySem PySem.Spec PyProof.Rows L2
theorem nodup_sub : ∀ {l m : List Str}, l.Nodup → (∀ x ∈ l, x ∈ m) → l.length ≤ m.length
  | [], _, _, _ => Nat.zero_le _
  | a :: l, m, hn, hs => by
    obtain ⟨h1, h2⟩ := List.nodup_cons.mp hn
    have ha := hs a List.mem_cons_self
    have := nodup_sub (m := m.erase a) h2 fun x hx => (List.mem_erase_of_ne (by rintro rfl; exact h1 hx)).mpr (hs x (List.mem_cons_of_mem _ hx))
    rw [List.length_erase_of_mem ha] at this
    have : 0 < m.length := List.length_pos_of_mem ha
    rw [List.length_cons]
    omega
/-- all that a law asks of a dict of stands -/
structure Closed (sts : List (Str × Stand)) : Prop where
  nd : (sts.map (·.1)).Nodup
  len : sts.length ≤ 1000
  all : ∀ q ∈ sts, q.2.nd ∧ q.2.size ≤ 4 ∧ ∀ t ∈ q.2.tos, t ∈ sts.map (·.1)
theorem Closed.look {sts : List (Str × Stand)} (C : Closed sts) {s : Str} (h : s ∈ sts.map (·.1)) : ∃ st, lookA sts s = some st ∧ st.nd ∧ st.size ≤ 4 ∧ tosOf sts s = st.tos ∧ (∀ t ∈ st.tos, t ∈ sts.map (·.1)) := by
  obtain ⟨st, e⟩ := lookA_some h
  obtain ⟨a, b, c⟩ := C.all _ (lookA_mem e)
  exact ⟨st, e, a, b, by unfold tosOf; rw [e]; rfl, c⟩
theorem Closed.tos {sts : List (Str × Stand)} (C : Closed sts) : ∀ n ∈ sts.map (·.1), ∀ t ∈ tosOf sts n, t ∈ sts.map (·.1) := fun n hn t ht => by
  obtain ⟨st, _, _, _, e, h⟩ := C.look hn
  rw [e] at ht
  exact h t ht
theorem WorkOk.closed {hands : Int} {start : Str} {sts : List (Str × Stand)} (o : WorkOk hands start sts) : Closed sts :=
  ⟨o.nd, Nat.le_trans o.len.2 (by decide), fun q hq => ⟨(o.all q hq).2.nd, (o.all q hq).2.size, fun t ht => by
    have h := (o.all q hq).2
    generalize q.2 = st at h ht
    cases st with
    | fin => cases ht
    | hand a b =>
      obtain ⟨z, hz, rfl⟩ := List.mem_map.mp ht
      exact (h.2.2.2.2.2 z hz).2.2
    | chance b =>
      obtain ⟨z, hz, rfl⟩ := List.mem_map.mp ht
      exact (h.2.2.2 z hz).2.2.1⟩⟩
theorem Tbl.tos {sts tbl : List (Str × Stand)} (t : Tbl sts tbl) (n x : Str) : x ∈ tosOf tbl n ↔ x ∈ tosOf sts n := by
  by_cases h : n ∈ tbl.map (·.1)
  · obtain ⟨b, eb⟩ := lookA_some h
    obtain ⟨a, ea, s⟩ := t.all _ (lookA_mem eb)
    unfold tosOf
    rw [eb, ea]
    exact (SrtStand.tos s).mem_iff
  · unfold tosOf
    rw [lookA_none h, lookA_none fun z => h (t.perm.mem_iff.mpr z)]
end M

namespace M
open PySem PySem.Spec PyProof.Rows L2
/-! ### methods of a work -/
def moverV : Stand → V
  | .hand h _ => .int h
  | _ => .non
theorem lookup_none {m : Str} : ∀ {fs : List (Str × V)}, m ∉ fs.map (·.1) → fs.lookup m = none
  | [], _ => rfl
  | (k, v) :: r, h => by
    have h1 : m ≠ k := fun e => h (by rw [e]; exact List.mem_cons_self)
    rw [List.lookup_cons]
    have : (m == k) = false := by simpa using h1
    rw [this]
    exact lookup_none fun q => h (List.mem_cons_of_mem _ q)
theorem work_none {m : Str} {hands : Int} {start : Str} {d nm en : Addr} {b : Bool} (h : m ∉ (["hands", "start", "table", "names", "ends", "ringless"] : List Str)) : (workF hands start d nm en b).lookup m = none := lookup_none h
theorem work_table {hands : Int} {start : Str} {d nm en : Addr} {b : Bool} : List.lookup ("table" : Str) (workF hands start d nm en b) = some (.ref d) := look_next (by decide +kernel) (look_next (by decide +kernel) look_here)
theorem work_start {hands : Int} {start : Str} {d nm en : Addr} {b : Bool} : List.lookup ("start" : Str) (workF hands start d nm en b) = some (.str start) := look_next (by decide +kernel) look_here
theorem work_hands {hands : Int} {start : Str} {d nm en : Addr} {b : Bool} : List.lookup ("hands" : Str) (workF hands start d nm en b) = some (.int hands) := look_here
section
variable {P : Program} {w : World} {K : PySem.W.Frag} {mg : Str → Option Value} {base : Heap}
theorem x_meth {C : Addr} {m : Str} {sp : Sp} {dvs : List V} {E : XK} {ta : TE} {t : TA} {σ : L2.St} {H : Hp} {Q : VK}
    (k : ta σ H fun x H1 => ∃ a dx fs, x = .ref a ∧ H1 a = some (.ins C dx fs) ∧ fs.lookup m = none ∧ t σ H1 fun vs H2 => sp (x :: (vs ++ dvs)) H2 Q E) : tMeth C m sp dvs E ta t σ H Q := k
theorem x_me {H : Hp} {C a dx : Addr} {m : Str} {fs : List (Str × V)} {R : Prop} (h : H a = some (.ins C dx fs)) (l : fs.lookup m = none) (k : R) : ∃ a' dx' fs', V.ref a = .ref a' ∧ H a' = some (.ins C dx' fs') ∧ fs'.lookup m = none ∧ R := ⟨a, dx, fs, rfl, h, l, k⟩
def sp_Work_row (T : Tx K mg) : Sp := fun vs H Q _ => ∃ (x : Addr) (hands : Int) (start s : Str) (tbl : List (Str × Stand)) (st : Stand), vs = [.ref x, .str s] ∧ WorkAt T H x hands start tbl ∧ lookA tbl s = some st ∧ ∀ v, rStand K H v st → Q v H
theorem ok_Work_row (T : Tx K mg) : FnOk P w K mg base CX0 1 T.Work_row.f T.Work_row.fd P_Work_row (sp_Work_row T) := by
  refine T.Work_row.F.ok sc_Work_row (fun vs H Q E h => ?_) (fun cdv A outer s H vs Q E hr h => ?_)
  · obtain ⟨x, hands, start, s, tbl, st, rfl, wa, hs, k⟩ := h
    rfl
  have hu := hu_of hr
  have nd := sc_Work_row.nd
  obtain ⟨x, hands, start, s, tbl, st, rfl, wa, hs, k⟩ := h
  refine ⟨_, (pss_cons (ps_if (PW.pt (pw_or (pt_not (pt_val (pe_callB (w_isi (K := K) rfl) (by rfl) T.b_isinstance (by decide +kernel) (pa_cons (pv 1) (pa_cons (pe_bltn (v := .ty "str") (by rfl) T.b_str (by decide +kernel) rfl) pa_nil))))) (pw_or1 (pt_cmp (pc_dnotin hu (pv 1) (w_fld (K := K) rfl (pv 0) rfl)))))) (pss_one ps_never) pss_nil)
      (pss_one (ps_ret (pe_dget hu (w_fld (K := K) rfl (pv 0) rfl) (pv 1) (fun _ _ => rfl))))), ?_⟩
  refine x_start (σ' := [some _, some _]) rfl ?_
  try simp only [cx_n, cx_K, cx_w, cx_P]
  obtain ⟨dx, d, nm, en, hx, ⟨d', kvs, ed, hrd, hk⟩, _⟩ := wa.ex
  cases ed
  obtain ⟨v, ev, rv⟩ := hk.at_ hs
  walk_at "rd"
  refine x_isiT (.base (.str _)) (by decide +kernel) ?_
  walk_at "rd"
  refine x_getF hx T.cl_Work T.n_Work_table work_table ?_
  refine x_dni' hrd ?_
  rw [ev]
  walk_at "rd"
  walk_at "if!"
  walk_at "rd"
  refine x_getF hx T.cl_Work T.n_Work_table work_table ?_
  walk_at "rd"
  refine x_dg' hrd ev ?_
  exact k v rv
def sp_Work_kind (T : Tx K mg) : Sp := fun vs H Q _ => ∃ (x : Addr) (hands : Int) (start s : Str) (tbl : List (Str × Stand)) (st : Stand), vs = [.ref x, .str s] ∧ WorkAt T H x hands start tbl ∧ lookA tbl s = some st ∧ Q (.str (kindS st)) H
theorem ok_Work_kind (T : Tx K mg) : FnOk P w K mg base CX0 2 T.Work_kind.f T.Work_kind.fd P_Work_kind (sp_Work_kind T) := by
  refine T.Work_kind.F.ok sc_Work_kind (fun vs H Q E h => ?_) (fun cdv A outer s H vs Q E hr h => ?_)
  · obtain ⟨x, hands, start, s, tbl, st, rfl, wa, hs, k⟩ := h
    rfl
  have hu := hu_of hr
  have nd := sc_Work_kind.nd
  obtain ⟨x, hands, start, s, tbl, st, rfl, wa, hs, k⟩ := h
  refine ⟨_, (pss_one (ps_ret (pe_ix (w_ixT (K := K) rfl) (pe_meth (pv 0) T.cl_Work T.me_Work_row (ok_Work_row T) (hr.mono (by decide)) T.Work_row.B .nil pass0 (pa_cons (pv 1) pa_nil)) pe_int (fun _ _ => rfl)))), ?_⟩
  refine x_start (σ' := [some _, some _]) rfl ?_
  try simp only [cx_n, cx_K, cx_w, cx_P]
  obtain ⟨dx, d, nm, en, hx, _⟩ := id wa.ex
  walk_at "rd"
  refine x_meth ?_
  walk_at "rd"
  refine x_me hx (work_none (by decide +kernel)) ?_
  walk_at "rd"
  refine ⟨x, hands, start, s, tbl, st, rfl, wa, hs, fun v rv => ?_⟩
  walk_at "rd"
  cases st with
  | fin =>
    obtain ⟨p5, rfl, hp5⟩ := rv
    exact x_ixT hp5 (atI_nat (j := 0) rfl) k
  | hand h ms =>
    obtain ⟨p5, _, rfl, hp5, _⟩ := rv
    exact x_ixT hp5 (atI_nat (j := 0) rfl) k
  | chance ds =>
    obtain ⟨p5, _, rfl, hp5, _⟩ := rv
    exact x_ixT hp5 (atI_nat (j := 0) rfl) k
def sp_Work_mover (T : Tx K mg) : Sp := fun vs H Q _ => ∃ (x : Addr) (hands : Int) (start s : Str) (tbl : List (Str × Stand)) (st : Stand), vs = [.ref x, .str s] ∧ WorkAt T H x hands start tbl ∧ lookA tbl s = some st ∧ Q (moverV st) H
theorem ok_Work_mover (T : Tx K mg) : FnOk P w K mg base CX0 2 T.Work_mover.f T.Work_mover.fd P_Work_mover (sp_Work_mover T) := by
  refine T.Work_mover.F.ok sc_Work_mover (fun vs H Q E h => ?_) (fun cdv A outer s H vs Q E hr h => ?_)
  · obtain ⟨x, hands, start, s, tbl, st, rfl, wa, hs, k⟩ := h
    rfl
  have hu := hu_of hr
  have nd := sc_Work_mover.nd
  obtain ⟨x, hands, start, s, tbl, st, rfl, wa, hs, k⟩ := h
  refine ⟨_, (pss_cons (ps_set (i := 2) nd rfl (Or.inl rfl) (pe_meth (pv 0) T.cl_Work T.me_Work_row (ok_Work_row T) (hr.mono (by decide)) T.Work_row.B .nil pass0 (pa_cons (pv 1) pa_nil)))
      (pss_cons (ps_if (pt_cmpR op_eq (pe_ix (w_ixT (K := K) rfl) (pv 2) pe_int (fun _ _ => rfl)) pe_str (nomark _)) (pss_one (ps_ret (pe_ix (w_ixT (K := K) rfl) (pv 2) pe_int (fun _ _ => rfl)))) pss_nil)
      (pss_one (ps_ret pe_non)))), ?_⟩
  refine x_start (σ' := [some _, some _, none]) rfl ?_
  try simp only [cx_n, cx_K, cx_w, cx_P]
  obtain ⟨dx, d, nm, en, hx, _⟩ := id wa.ex
  walk_at "rd"
  refine x_meth ?_
  walk_at "rd"
  refine x_me hx (work_none (by decide +kernel)) ?_
  walk_at "rd"
  refine ⟨x, hands, start, s, tbl, st, rfl, wa, hs, fun v rv => ?_⟩
  walk_at "rd"
  cases st with
  | fin =>
    obtain ⟨p5, rfl, hp5⟩ := rv
    refine x_ixT hp5 (atI_nat (j := 0) rfl) ?_
    walk_at "rd"
    walk_at "if!"
    walk_at "rd"
    exact k
  | hand h ms =>
    obtain ⟨p5, _, rfl, hp5, _⟩ := rv
    refine x_ixT hp5 (atI_nat (j := 0) rfl) ?_
    walk_at "rd"
    walk_at "if!"
    walk_at "rd"
    exact x_ixT hp5 (atI_nat (j := 1) rfl) k
  | chance ds =>
    obtain ⟨p5, _, rfl, hp5, _⟩ := rv
    refine x_ixT hp5 (atI_nat (j := 0) rfl) ?_
    walk_at "rd"
    walk_at "if!"
    walk_at "rd"
    exact k
def sp_Work_steps (T : Tx K mg) : Sp := fun vs H Q _ => ∃ (x : Addr) (hands : Int) (start s : Str) (tbl : List (Str × Stand)) (st : Stand), vs = [.ref x, .str s] ∧ WorkAt T H x hands start tbl ∧ lookA tbl s = some st ∧
  ∀ p H' ys, H p = none → SX [] H H' → H' p = some (.lst (ys.map V.str)) → ys.Perm (st.rows.map (·.1)) → sortedS ys = true → Q (.ref p) H'
theorem ok_Work_steps (T : Tx K mg) : FnOk P w K mg base CX0 2 T.Work_steps.f T.Work_steps.fd P_Work_steps (sp_Work_steps T) := by
  refine T.Work_steps.F.ok sc_Work_steps (fun vs H Q E h => ?_) (fun cdv A outer s H vs Q E hr h => ?_)
  · obtain ⟨x, hands, start, s, tbl, st, rfl, wa, hs, k⟩ := h
    rfl
  have hu := hu_of hr
  have nd := sc_Work_steps.nd
  obtain ⟨x, hands, start, s, tbl, st, rfl, wa, hs, k⟩ := h
  refine ⟨_, (pss_cons (ps_set (i := 2) nd rfl (Or.inl rfl) (pe_meth (pv 0) T.cl_Work T.me_Work_row (ok_Work_row T) (hr.mono (by decide)) T.Work_row.B .nil pass0 (pa_cons (pv 1) pa_nil)))
      (pss_cons (ps_if (pt_cmpR op_eq (pe_ix (w_ixT (K := K) rfl) (pv 2) pe_int (fun _ _ => rfl)) pe_str (nomark _)) (pss_one (ps_ret (pe_lst pa_nil))) pss_nil)
      (pss_one (ps_ret (pe_callB (cl_sortD rfl) (by rfl) T.b_sorted (by decide +kernel) (pa_cons (pe_ix (w_ixT (K := K) rfl) (pv 2) (pe_op op_sub (pe_callB (w_len (K := K) rfl) (by rfl) T.b_len (by decide +kernel) (pa_cons (pv 2) pa_nil)) pe_int) (fun _ _ => rfl)) pa_nil)))))), ?_⟩
  refine x_start (σ' := [some _, some _, none]) rfl ?_
  try simp only [cx_n, cx_K, cx_w, cx_P]
  obtain ⟨dx, d, nm, en, hx, _⟩ := id wa.ex
  walk_at "rd"
  refine x_meth ?_
  walk_at "rd"
  refine x_me hx (work_none (by decide +kernel)) ?_
  walk_at "rd"
  refine ⟨x, hands, start, s, tbl, st, rfl, wa, hs, fun v rv => ?_⟩
  walk_at "rd"
  cases st with
  | fin =>
    obtain ⟨p5, rfl, hp5⟩ := rv
    refine x_ixT hp5 (atI_nat (j := 0) rfl) ?_
    walk_at "rd"
    walk_at "if!"
    walk_at "rd"
    exact ⟨Nat.le_of_ble_eq_true rfl, fun q hq => k q _ [] hq (SX.new hq) upd_same (.refl _) rfl⟩
  | hand h ms =>
    obtain ⟨p5, _, rfl, hp5, d5, kv5, rfl, r5, k5⟩ := rv
    refine x_ixT hp5 (atI_nat (j := 0) rfl) ?_
    walk_at "rd"
    walk_at "if!"
    walk_at "rd"
    refine x_lenT' hp5 ?_
    walk_at "rd"
    refine x_ixT hp5 (v := .ref d5) (atI_nat (j := 2) rfl) ?_
    walk_at "rd"
    refine x_sortD r5 k5.keys fun ys py hp hsy np => ?_
    exact k py _ ys np (SX.new np) upd_same hp hsy
  | chance ds =>
    obtain ⟨p5, _, rfl, hp5, d5, kv5, rfl, r5, k5⟩ := rv
    refine x_ixT hp5 (atI_nat (j := 0) rfl) ?_
    walk_at "rd"
    walk_at "if!"
    walk_at "rd"
    refine x_lenT' hp5 ?_
    walk_at "rd"
    refine x_ixT hp5 (v := .ref d5) (atI_nat (j := 1) rfl) ?_
    walk_at "rd"
    refine x_sortD r5 k5.keys fun ys py hp hsy np => ?_
    exact k py _ ys np (SX.new np) upd_same (by show ys.Perm ((ds.map _).map _); rw [List.map_map]; exact hp) hsy
def sp_Work_to (T : Tx K mg) : Sp := fun vs H Q _ => ∃ (x : Addr) (hands : Int) (start s step to : Str) (tbl : List (Str × Stand)) (st : Stand), vs = [.ref x, .str s, .str step] ∧ WorkAt T H x hands start tbl ∧ lookA tbl s = some st ∧ lookA st.rows step = some to ∧ Q (.str to) H
theorem rows_chance {ds : List (Str × (Str × Int))} {step to : Str} (h : lookA (Stand.rows (.chance ds)) step = some to) : ∃ n, lookA ds step = some (to, n) := by
  change lookA (ds.map fun q => (q.1, q.2.1)) step = some to at h
  induction ds with
  | nil => cases h
  | cons q r ih =>
    rw [List.map_cons] at h
    unfold lookA at h ⊢
    by_cases e : q.1 = step
    · rw [if_pos e] at h ⊢
      cases h
      exact ⟨q.2.2, rfl⟩
    · rw [if_neg e] at h ⊢
      exact ih h
theorem ok_Work_to (T : Tx K mg) : FnOk P w K mg base CX0 2 T.Work_to.f T.Work_to.fd P_Work_to (sp_Work_to T) := by
  refine T.Work_to.F.ok sc_Work_to (fun vs H Q E h => ?_) (fun cdv A outer s H vs Q E hr h => ?_)
  · obtain ⟨x, hands, start, s, step, to, tbl, st, rfl, wa, hs, hst, k⟩ := h
    rfl
  have hu := hu_of hr
  have nd := sc_Work_to.nd
  obtain ⟨x, hands, start, s, step, to, tbl, st, rfl, wa, hs, hst, k⟩ := h
  refine ⟨_, (pss_cons (ps_set (i := 3) nd rfl (Or.inl rfl) (pe_meth (pv 0) T.cl_Work T.me_Work_row (ok_Work_row T) (hr.mono (by decide)) T.Work_row.B .nil pass0 (pa_cons (pv 1) pa_nil)))
      (pss_cons (ps_if (PW.pt (pw_or (pt_cmpR op_eq (pe_ix (w_ixT (K := K) rfl) (pv 3) pe_int (fun _ _ => rfl)) pe_str (nomark _)) (pw_or (pt_not (pt_val (pe_callB (w_isi (K := K) rfl) (by rfl) T.b_isinstance (by decide +kernel) (pa_cons (pv 2) (pa_cons (pe_bltn (v := .ty "str") (by rfl) T.b_str (by decide +kernel) rfl) pa_nil))))) (pw_or1 (pt_cmp (pc_dnotin hu (pv 2) (pe_ix (w_ixT (K := K) rfl) (pv 3) (pe_op op_sub (pe_callB (w_len (K := K) rfl) (by rfl) T.b_len (by decide +kernel) (pa_cons (pv 3) pa_nil)) pe_int) (fun _ _ => rfl)))))))) (pss_one ps_never) pss_nil)
      (pss_cons (ps_if (pt_cmpR op_eq (pe_ix (w_ixT (K := K) rfl) (pv 3) pe_int (fun _ _ => rfl)) pe_str (nomark _)) (pss_one (ps_ret (pe_dget hu (pe_ix (w_ixT (K := K) rfl) (pv 3) pe_int (fun _ _ => rfl)) (pv 2) (fun _ _ => rfl)))) pss_nil)
      (pss_one (ps_ret (pe_ix (w_ixT (K := K) rfl) (pe_dget hu (pe_ix (w_ixT (K := K) rfl) (pv 3) pe_int (fun _ _ => rfl)) (pv 2) (fun _ _ => rfl)) pe_int (fun _ _ => rfl))))))), ?_⟩
  refine x_start (σ' := [some _, some _, some _, none]) rfl ?_
  try simp only [cx_n, cx_K, cx_w, cx_P]
  obtain ⟨dx, d, nm, en, hx, _⟩ := id wa.ex
  walk_at "rd"
  refine x_meth ?_
  walk_at "rd"
  refine x_me hx (work_none (by decide +kernel)) ?_
  walk_at "rd"
  refine ⟨x, hands, start, s, tbl, st, rfl, wa, hs, fun v rv => ?_⟩
  walk_at "rd"
  cases st with
  | fin => cases hst
  | hand h ms =>
    obtain ⟨p5, _, rfl, hp5, d5, kv5, rfl, r5, k5⟩ := rv
    obtain ⟨v1, e1, rfl⟩ := k5.at_ hst
    refine x_ixT hp5 (atI_nat (j := 0) rfl) ?_
    walk_at "rd"
    walk_at "if!"
    walk_at "rd"
    refine x_isiT (.base (.str _)) (by decide +kernel) ?_
    walk_at "rd"
    refine x_lenT' hp5 ?_
    walk_at "rd"
    refine x_ixT hp5 (v := .ref d5) (atI_nat (j := 2) rfl) ?_
    refine x_dni' r5 ?_
    rw [e1]
    walk_at "rd"
    walk_at "if!"
    walk_at "rd"
    refine x_ixT hp5 (atI_nat (j := 0) rfl) ?_
    walk_at "rd"
    walk_at "if!"
    walk_at "rd"
    refine x_ixT hp5 (v := .ref d5) (atI_nat (j := 2) rfl) ?_
    walk_at "rd"
    exact x_dg' r5 e1 k
  | chance ds =>
    obtain ⟨p5, _, rfl, hp5, d5, kv5, rfl, r5, k5⟩ := rv
    obtain ⟨n, hn⟩ := rows_chance hst
    obtain ⟨v1, e1, q1, z1, z2, rfl, hq1, rfl, rfl⟩ := k5.at_ hn
    refine x_ixT hp5 (atI_nat (j := 0) rfl) ?_
    walk_at "rd"
    walk_at "if!"
    walk_at "rd"
    refine x_isiT (.base (.str _)) (by decide +kernel) ?_
    walk_at "rd"
    refine x_lenT' hp5 ?_
    walk_at "rd"
    refine x_ixT hp5 (v := .ref d5) (atI_nat (j := 1) rfl) ?_
    refine x_dni' r5 ?_
    rw [e1]
    walk_at "rd"
    walk_at "if!"
    walk_at "rd"
    refine x_ixT hp5 (atI_nat (j := 0) rfl) ?_
    walk_at "rd"
    walk_at "if!"
    walk_at "rd"
    refine x_ixT hp5 (v := .ref d5) (atI_nat (j := 1) rfl) ?_
    walk_at "rd"
    refine x_dg' r5 e1 ?_
    walk_at "rd"
    exact x_ixT hq1 (atI_nat (j := 0) rfl) k
end
end M

namespace M
open PySem PySem.Spec PyProof.Rows L2
theorem endsOf_eq {sts : List (Str × Stand)} (hn : (sts.map (·.1)).Nodup) : endsOf sts = (sts.map (·.1)).filter fun n => match lookA sts n with | some st => isEnd st | none => false := by
  have key : ∀ l : List (Str × Stand), (∀ q ∈ l, lookA sts q.1 = some q.2) → endsOf l = (l.map (·.1)).filter fun n => match lookA sts n with | some st => isEnd st | none => false := by
    intro l
    induction l with
    | nil => intro _; rfl
    | cons q r ih =>
      intro h
      have e := ih fun z hz => h z (List.mem_cons_of_mem _ hz)
      have hq := h q List.mem_cons_self
      have : endsOf (q :: r) = (if isEnd q.2 = true then [q.1] else []) ++ endsOf r := by
        have h2 := endsOf_snoc (l := []) (q := q)
        unfold endsOf isEnd
        rw [List.filter_cons]
        cases q.2 <;> rfl
      rw [this, e, List.map_cons, List.filter_cons, hq]
      by_cases c : isEnd q.2 = true <;> simp [c]
  exact key sts fun q hq => lookA_nodup hn hq
section
variable {P : Program} {w : World} {K : PySem.W.Frag} {mg : Str → Option Value} {base : Heap}
def sp_law_steps (T : Tx K mg) : Sp := fun vs H Q _ => ∃ (d : Addr) (s : Str) (sts : List (Str × Stand)) (st : Stand), vs = [.ref d, .str s] ∧ rD (rStand K) H (.ref d) sts ∧ lookA sts s = some st ∧
  ∀ p H' ys, H p = none → SX [] H H' → H' p = some (.lst (ys.map V.str)) → ys.Perm (st.rows.map (·.1)) → sortedS ys = true → Q (.ref p) H'
theorem ok_law_steps (T : Tx K mg) : FnOk P w K mg base CX0 1 T.law_steps.f T.law_steps.fd P_law_steps (sp_law_steps T) := by
  refine T.law_steps.F.ok sc_law_steps (fun vs H Q E h => ?_) (fun cdv A outer s H vs Q E hr h => ?_)
  · obtain ⟨d, s, sts, st, rfl, ⟨d', kvs, ed, hrd, hk⟩, hs, k⟩ := h
    rfl
  have hu := hu_of hr
  have nd := sc_law_steps.nd
  obtain ⟨d, s, sts, st, rfl, ⟨d', kvs, ed, hrd, hk⟩, hs, k⟩ := h
  refine ⟨_, (pss_cons (ps_set (i := 2) nd rfl (Or.inl rfl) (pe_dget hu (pv 0) (pv 1) (fun _ _ => rfl)))
      (pss_cons (ps_if (pt_cmpR op_eq (pe_ix (w_ixT (K := K) rfl) (pv 2) pe_int (fun _ _ => rfl)) pe_str (nomark _)) (pss_one (ps_ret (pe_lst pa_nil))) pss_nil)
      (pss_one (ps_ret (pe_callB (cl_sortD rfl) (by rfl) T.b_sorted (by decide +kernel) (pa_cons (pe_ix (w_ixT (K := K) rfl) (pv 2) (pe_op op_sub (pe_callB (w_len (K := K) rfl) (by rfl) T.b_len (by decide +kernel) (pa_cons (pv 2) pa_nil)) pe_int) (fun _ _ => rfl)) pa_nil)))))), ?_⟩
  refine x_start (σ' := [some _, some _, none]) rfl ?_
  try simp only [cx_n, cx_K, cx_w, cx_P]
  cases ed
  obtain ⟨v, ev, rv⟩ := hk.at_ hs
  walk_at "rd"
  refine x_dg' hrd ev ?_
  walk_at "rd"
  cases st with
  | fin =>
    obtain ⟨p5, rfl, hp5⟩ := rv
    refine x_ixT hp5 (atI_nat (j := 0) rfl) ?_
    walk_at "rd"
    walk_at "if!"
    walk_at "rd"
    exact ⟨Nat.le_of_ble_eq_true rfl, fun q hq => k q _ [] hq (SX.new hq) upd_same (.refl _) rfl⟩
  | hand h ms =>
    obtain ⟨p5, _, rfl, hp5, d5, kv5, rfl, r5, k5⟩ := rv
    refine x_ixT hp5 (atI_nat (j := 0) rfl) ?_
    walk_at "rd"
    walk_at "if!"
    walk_at "rd"
    refine x_lenT' hp5 ?_
    walk_at "rd"
    refine x_ixT hp5 (v := .ref d5) (atI_nat (j := 2) rfl) ?_
    walk_at "rd"
    refine x_sortD r5 k5.keys fun ys py hp hsy np => ?_
    exact k py _ ys np (SX.new np) upd_same hp hsy
  | chance ds =>
    obtain ⟨p5, _, rfl, hp5, d5, kv5, rfl, r5, k5⟩ := rv
    refine x_ixT hp5 (atI_nat (j := 0) rfl) ?_
    walk_at "rd"
    walk_at "if!"
    walk_at "rd"
    refine x_lenT' hp5 ?_
    walk_at "rd"
    refine x_ixT hp5 (v := .ref d5) (atI_nat (j := 1) rfl) ?_
    walk_at "rd"
    refine x_sortD r5 k5.keys fun ys py hp hsy np => ?_
    exact k py _ ys np (SX.new np) upd_same (by show ys.Perm ((ds.map _).map _); rw [List.map_map]; exact hp) hsy
def sp_law_to (T : Tx K mg) : Sp := fun vs H Q _ => ∃ (d : Addr) (s step to : Str) (sts : List (Str × Stand)) (st : Stand), vs = [.ref d, .str s, .str step] ∧ rD (rStand K) H (.ref d) sts ∧ lookA sts s = some st ∧ lookA st.rows step = some to ∧ Q (.str to) H
theorem ok_law_to (T : Tx K mg) : FnOk P w K mg base CX0 1 T.law_to.f T.law_to.fd P_law_to (sp_law_to T) := by
  refine T.law_to.F.ok sc_law_to (fun vs H Q E h => ?_) (fun cdv A outer s H vs Q E hr h => ?_)
  · obtain ⟨d, s, step, to, sts, st, rfl, ⟨d', kvs, ed, hrd, hk⟩, hs, hst, k⟩ := h
    rfl
  have hu := hu_of hr
  have nd := sc_law_to.nd
  obtain ⟨d, s, step, to, sts, st, rfl, ⟨d', kvs, ed, hrd, hk⟩, hs, hst, k⟩ := h
  refine ⟨_, (pss_cons (ps_set (i := 3) nd rfl (Or.inl rfl) (pe_dget hu (pv 0) (pv 1) (fun _ _ => rfl)))
      (pss_cons (ps_if (pt_cmpR op_eq (pe_ix (w_ixT (K := K) rfl) (pv 3) pe_int (fun _ _ => rfl)) pe_str (nomark _)) (pss_one (ps_ret (pe_dget hu (pe_ix (w_ixT (K := K) rfl) (pv 3) pe_int (fun _ _ => rfl)) (pv 2) (fun _ _ => rfl)))) pss_nil)
      (pss_one (ps_ret (pe_ix (w_ixT (K := K) rfl) (pe_dget hu (pe_ix (w_ixT (K := K) rfl) (pv 3) pe_int (fun _ _ => rfl)) (pv 2) (fun _ _ => rfl)) pe_int (fun _ _ => rfl)))))), ?_⟩
  refine x_start (σ' := [some _, some _, some _, none]) rfl ?_
  try simp only [cx_n, cx_K, cx_w, cx_P]
  cases ed
  obtain ⟨v, ev, rv⟩ := hk.at_ hs
  walk_at "rd"
  refine x_dg' hrd ev ?_
  walk_at "rd"
  cases st with
  | fin => cases hst
  | hand h ms =>
    obtain ⟨p5, _, rfl, hp5, d5, kv5, rfl, r5, k5⟩ := rv
    obtain ⟨v1, e1, rfl⟩ := k5.at_ hst
    refine x_ixT hp5 (atI_nat (j := 0) rfl) ?_
    walk_at "rd"
    walk_at "if!"
    walk_at "rd"
    refine x_ixT hp5 (v := .ref d5) (atI_nat (j := 2) rfl) ?_
    walk_at "rd"
    exact x_dg' r5 e1 k
  | chance ds =>
    obtain ⟨p5, _, rfl, hp5, d5, kv5, rfl, r5, k5⟩ := rv
    obtain ⟨n, hn⟩ := rows_chance hst
    obtain ⟨v1, e1, q1, z1, z2, rfl, hq1, rfl, rfl⟩ := k5.at_ hn
    refine x_ixT hp5 (atI_nat (j := 0) rfl) ?_
    walk_at "rd"
    walk_at "if!"
    walk_at "rd"
    refine x_ixT hp5 (v := .ref d5) (atI_nat (j := 1) rfl) ?_
    walk_at "rd"
    refine x_dg' r5 e1 ?_
    walk_at "rd"
    exact x_ixT hq1 (atI_nat (j := 0) rfl) k
def sp_law_mover (T : Tx K mg) : Sp := fun vs H Q _ => ∃ (d : Addr) (s : Str) (sts : List (Str × Stand)) (st : Stand), vs = [.ref d, .str s] ∧ rD (rStand K) H (.ref d) sts ∧ lookA sts s = some st ∧ Q (moverV st) H
theorem ok_law_mover (T : Tx K mg) : FnOk P w K mg base CX0 1 T.law_mover.f T.law_mover.fd P_law_mover (sp_law_mover T) := by
  refine T.law_mover.F.ok sc_law_mover (fun vs H Q E h => ?_) (fun cdv A outer s H vs Q E hr h => ?_)
  · obtain ⟨d, s, sts, st, rfl, ⟨d', kvs, ed, hrd, hk⟩, hs, k⟩ := h
    rfl
  have hu := hu_of hr
  have nd := sc_law_mover.nd
  obtain ⟨d, s, sts, st, rfl, ⟨d', kvs, ed, hrd, hk⟩, hs, k⟩ := h
  refine ⟨_, (pss_cons (ps_if (pt_cmpR op_eq (pe_ix (w_ixT (K := K) rfl) (pe_dget hu (pv 0) (pv 1) (fun _ _ => rfl)) pe_int (fun _ _ => rfl)) pe_str (nomark _)) (pss_one (ps_ret (pe_ix (w_ixT (K := K) rfl) (pe_dget hu (pv 0) (pv 1) (fun _ _ => rfl)) pe_int (fun _ _ => rfl)))) pss_nil)
      (pss_one (ps_ret pe_non))), ?_⟩
  refine x_start (σ' := [some _, some _]) rfl ?_
  try simp only [cx_n, cx_K, cx_w, cx_P]
  cases ed
  obtain ⟨v, ev, rv⟩ := hk.at_ hs
  walk_at "rd"
  refine x_dg' hrd ev ?_
  walk_at "rd"
  cases st with
  | fin =>
    obtain ⟨p5, rfl, hp5⟩ := rv
    refine x_ixT hp5 (atI_nat (j := 0) rfl) ?_
    walk_at "rd"
    walk_at "if!"
    walk_at "rd"
    exact k
  | hand h ms =>
    obtain ⟨p5, _, rfl, hp5, _⟩ := rv
    refine x_ixT hp5 (atI_nat (j := 0) rfl) ?_
    walk_at "rd"
    walk_at "if!"
    walk_at "rd"
    refine x_dg' hrd ev ?_
    walk_at "rd"
    exact x_ixT hp5 (atI_nat (j := 1) rfl) k
  | chance ds =>
    obtain ⟨p5, _, rfl, hp5, _⟩ := rv
    refine x_ixT hp5 (atI_nat (j := 0) rfl) ?_
    walk_at "rd"
    walk_at "if!"
    walk_at "rd"
    exact k
def sp_law_worths (T : Tx K mg) : Sp := fun vs H Q _ => ∃ (p d : Addr) (sts : List (Str × Stand)), vs = [.ref p, .ref d] ∧ Drw H p ∧ rD (rStand K) (hid [p] H) (.ref d) sts ∧ (sts.map (·.1)).Nodup ∧ sts.length ≤ 5000 ∧
  ∀ wd H' l, H wd = none → SX [p] H H' → Drw H' p → (∃ kv, H' wd = some (.dK kv) ∧ KVs rI H' kv l) → rD rI (hid [p] H') (.ref wd) l → (l.map (·.1)).Perm (endsOf sts) → (l.map (·.1)).Nodup → (∀ q ∈ l, -96 ≤ q.2 ∧ q.2 ≤ 96) → Q (.ref wd) H'
theorem ok_law_worths (T : Tx K mg) : FnOk P w K mg base CX0 2 T.law_worths.f T.law_worths.fd P_law_worths (sp_law_worths T) := by
  refine T.law_worths.F.ok sc_law_worths (fun vs H Q E h => ?_) (fun cdv A outer s H vs Q E hr h => ?_)
  · obtain ⟨p, d, sts, rfl, hp, hd, hnd, hlen, k⟩ := h
    rfl
  have hu := hu_of hr
  have nd := sc_law_worths.nd
  obtain ⟨p, d, sts, rfl, hp, hd, hnd, hlen, k⟩ := h
  refine ⟨_, (pss_cons (ps_set (i := 2) nd rfl (Or.inl rfl) (pe_ix (w_ixL (K := K) rfl) (pe_lst (pa_cons pe_int (pa_cons pe_int (pa_cons pe_int (pa_cons pe_int pa_nil))))) (pe_call (ok_law_draw T) (hr.mono (by decide)) (by rfl) T.law_draw.g T.law_draw.F.kp T.law_draw.B .nil pass0 (pa_cons (pv 0) (pa_cons pe_int pa_nil))) (fun _ _ => rfl)))
      (pss_cons (ps_set (i := 3) nd rfl (Or.inl rfl) pe_dnewK)
      (pss_cons (ps_for PassesOwn.never rfl (w_pilist (K := K) rfl (pe_callB (cl_sortD rfl) (by rfl) T.b_sorted (by decide +kernel) (pa_cons (pv 1) pa_nil))) (pg_name (i := 4) nd rfl (Or.inl rfl)) (pss_one (ps_if (pt_cmpR op_eq (pe_ix (w_ixT (K := K) rfl) (pe_dget hu (pv 1) (pv 4) (fun _ _ => rfl)) pe_int (fun _ _ => rfl)) pe_str (nomark _)) (pss_one (ps_dput hu (pv 3) (pv 4) (pe_op op_sub (pe_call (ok_law_draw T) (hr.mono (by decide)) (by rfl) T.law_draw.g T.law_draw.F.kp T.law_draw.B .nil pass0 (pa_cons (pv 0) (pa_cons (pe_op op_add (pe_op op_mul pe_int (pv 2)) pe_int) pa_nil))) (pv 2)) rfl)) pss_nil)))
      (pss_one (ps_ret (pv 3)))))), ?_⟩
  refine x_start (σ' := [some _, some _, none, none, none]) rfl ?_
  try simp only [cx_n, cx_K, cx_w, cx_P]
  obtain ⟨d', kvs, ed, hr, hk⟩ := id hd
  cases ed
  walk_at "rd"
  refine ⟨Nat.le_of_ble_eq_true rfl, fun l0 hl0 => ?_⟩
  walk_at "rd"
  refine ⟨p, 4, rfl, hp.sx (SX.new (S := []) hl0) List.not_mem_nil, by decide, by decide, fun r H1 r0 r1 s1 p1 => ?_⟩
  have npl : l0 ≠ p := fun e => hp.there (e ▸ hl0)
  obtain ⟨m, em, hm⟩ := at_ints (ns := [9, 3, 1, 96]) r0 r1
  have hm2 : 1 ≤ m ∧ m ≤ 96 := by simp at hm; omega
  refine x_ixL (sqL (s1 _ _ (by simpa using npl) upd_same)) em ?_
  have sH1 : SX [p] H H1 := (SX.new hl0).trans s1
  walk_at "rd"
  intro wd hwd
  walk_at "rd"
  have nwp : wd ≠ p := fun e => p1.there (e ▸ hwd)
  have hwd0 : H wd = none := sH1.free hwd (by simpa using nwp)
  have sH2 : SX [p] H (upd H1 wd (.dK [])) := sH1.trans (SX.new hwd)
  have p2 : Drw (upd H1 wd (.dK [])) p := p1.sx (SX.new (S := []) hwd) List.not_mem_nil
  have w2 : (upd H1 wd (.dK [])) wd = some (.dK []) := upd_same
  generalize upd H1 wd (.dK []) = H2 at sH2 p2 w2
  refine x_sortD (sH2.leH.rd _ _ trivial hr) hk.keys fun ys py hpy hsy np => ?_
  refine x_itl (sqL upd_same) ?_
  have nyp : py ≠ p := fun e => p2.there (e ▸ np)
  have nyw : wd ≠ py := ne_of_none w2 np
  have sH3 : SX [p] H (upd H2 py (.lst (ys.map V.str))) := sH2.trans (SX.new np)
  have p3 : Drw (upd H2 py (.lst (ys.map V.str))) p := p2.sx (SX.new (S := []) np) List.not_mem_nil
  have w3 : (upd H2 py (.lst (ys.map V.str))) wd = some (.dK []) := by rw [upd_ne nyw]; exact w2
  have y3 : (upd H2 py (.lst (ys.map V.str))) py = some (.lst (ys.map V.str)) := upd_same
  generalize upd H2 py (.lst (ys.map V.str)) = H3 at sH3 p3 w3 y3
  have ysl : ys.length = sts.length := by rw [hpy.length_eq, List.length_map]
  refine for_it (walk_listR (R := rS) (Hb := H) (paired_S' ys)) (fun i σ A => SX [p] H A ∧ Drw A p ∧ A py = some (.lst (ys.map V.str)) ∧ ∃ (kv : List (Key × V)) (l : List (Str × Int)) (a : Option V), A wd = some (.dK kv) ∧ KVs rI A kv l ∧
      l.map (·.1) = (ys.take i).filter (fun n => match lookA sts n with | some st => isEnd st | none => false) ∧ (∀ q ∈ l, -96 ≤ q.2 ∧ q.2 ≤ 96) ∧ σ = [some (.ref p), some (.ref d), some (.int m), some (.ref wd), a])
    ⟨sH3, p3, y3, [], [], none, w3, .nil, rfl, (fun _ h => nomatch h), rfl⟩ (fun _ _ _ _ h => sqL h.2.2.1) ?_ ?_
  · rintro i x σ A0 A hi ⟨sA, pA, yA, kv, l, a, wA, kA, lA, bA, rfl⟩ ⟨rfl, s, hs, rfl⟩
    have sm : s ∈ sts.map (·.1) := hpy.mem_iff.mp (getMem hs)
    obtain ⟨st, est⟩ := lookA_some sm
    obtain ⟨v, ev, rv⟩ := hk.at_ est
    obtain ⟨tp, xs, rfl, htp, h0⟩ := rStand.kind rv
    walk_at "rd"
    refine x_dg' (sA.leH.rd _ _ trivial hr) ev ?_
    walk_at "rd"
    refine x_ixT (sA.leH.t htp) h0 ?_
    walk_at "rd"
    rw [kind_end]
    have stp : (ys.take (i + 1)).filter (fun n => match lookA sts n with | some st => isEnd st | none => false) = (ys.take i).filter (fun n => match lookA sts n with | some st => isEnd st | none => false) ++ (if isEnd st = true then [s] else []) := by
      rw [take_succ_of hs, List.filter_append, List.filter_cons, est]
      by_cases c : isEnd st = true <;> simp [c]
    have kl : kv.length = l.length := Paired.length kA
    have ll : l.length ≤ 5000 := by
      have h1 := congrArg List.length lA
      rw [List.length_map] at h1
      have h2 := List.length_filter_le (fun n => match lookA sts n with | some st => isEnd st | none => false) (ys.take i)
      rw [List.length_take] at h2
      omega
    refine x_cases (fun c => ?_) (fun c => ?_)
    · walk_at "rd"
      refine x_I (.inl ⟨by decide, by decide⟩) ?_
      walk_at "rd"
      refine ⟨p, 2 * m + 1, rfl, pA, by omega, by omega, fun r B r0 r1 t1 q1 => ?_⟩
      walk_at "rd"
      have wB := t1 _ _ (by simpa using nwp) wA
      refine ⟨wd, _, rfl, DPut.k (k := Sum.inr s) wB (lt_size (by omega)), ?_⟩
      have fr : s ∉ l.map (·.1) := by
        rw [lA]
        exact fun h => nodup_take (hpy.nodup_iff.mpr hnd) hs (List.mem_filter.mp h).1
      refine ⟨?_, q1.sx (SX.mut (S := [wd]) List.mem_cons_self) (by simpa using Ne.symm nwp), ?_, _, l ++ [(s, r - m)], _, upd_same, ?_, ?_, ?_, rfl⟩
      · intro b o nb hb
        have hbw : b ≠ wd := fun e => by rw [e, hwd0] at hb; cases hb
        rw [upd_ne hbw]
        exact (sA.trans t1) b o nb hb
      · rw [upd_ne (Ne.symm nyw)]
        exact t1 _ _ (by simpa using nyp) yA
      · rw [putK_fresh (l := l.map (·.1)) _ kA.keys fr]
        exact Paired.app kA (.cons ⟨rfl, rfl⟩ .nil)
      · rw [stp, if_pos c, List.map_append, lA]
        rfl
      · intro z hz
        rcases List.mem_append.mp hz with hz | hz
        · exact bA z hz
        · cases List.mem_singleton.mp hz
          exact ⟨by show -96 ≤ r - m; omega, by show r - m ≤ 96; omega⟩
    · walk_at "rd"
      exact ⟨sA, pA, yA, kv, l, _, wA, kA, by rw [stp, c]; simpa using lA, bA, rfl⟩
  · rintro σ A ⟨sA, pA, yA, kv, l, a, wA, kA, lA, bA, rfl⟩
    rw [List.take_length] at lA
    walk_at "rd"
    refine k wd A l hwd0 sA pA ⟨kv, wA, kA⟩ ⟨wd, kv, rfl, .inl ?_, KVs.le mono_I (Le.refl _) kA⟩ ?_ ?_ bA
    · rw [hid_of (by simpa using nwp)]
      exact wA
    · rw [lA, endsOf_eq hnd]
      exact hpy.filter _
    · rw [lA]
      exact List.Nodup.sublist List.filter_sublist (hpy.nodup_iff.mpr hnd)
end
end M

namespace M
open PySem PySem.Spec PyProof.Rows L2
section
variable {P : Program} {w : World} {K : PySem.W.Frag} {mg : Str → Option Value} {base : Heap}
def sp_law_endless (T : Tx K mg) : Sp := fun vs H Q _ => ∃ (p d : Addr) (l : List (Str × Int)), vs = [.ref p, .ref d] ∧ Drw H p ∧ d ≠ p ∧ rD rI H (.ref d) l ∧ (l.map (·.1)).Nodup ∧ 1 ≤ l.length ∧ l.length ≤ 5000 ∧ (∀ q ∈ l, -96 ≤ q.2 ∧ q.2 ≤ 96) ∧
  ∀ e H', SX [p] H H' → Drw H' p → -98 ≤ e → e ≤ 98 → ((∀ q ∈ l, e ≤ q.2) ∨ (∀ q ∈ l, q.2 ≤ e)) → Q (.int e) H'
theorem ok_law_endless (T : Tx K mg) : FnOk P w K mg base CX0 2 T.law_endless.f T.law_endless.fd P_law_endless (sp_law_endless T) := by
  refine T.law_endless.F.ok sc_law_endless (fun vs H Q E h => ?_) (fun cdv A outer s H vs Q E hr h => ?_)
  · obtain ⟨p, d, l, rfl, hp, ndp, ⟨d', kvs, ed, hrd, hk⟩, hnd, hl1, hlen, hb, k⟩ := h
    rfl
  have hu := hu_of hr
  have nd := sc_law_endless.nd
  obtain ⟨p, d, l, rfl, hp, ndp, ⟨d', kvs, ed, hrd, hk⟩, hnd, hl1, hlen, hb, k⟩ := h
  refine ⟨_, (pss_cons (ps_setLc (i := 2) (own := [("stand", 3)]) rfl nd rfl rfl (sw_true rfl rfl rfl (by decide +kernel)) (w_pilist (K := K) rfl (pe_callB (cl_sortD rfl) (by rfl) T.b_sorted (by decide +kernel) (pa_cons (pv 1) pa_nil))) (blkOk_by (own := [("stand", 3)]) (N := N_law_endless) (sc := defScope s_law_endless) (by decide +kernel)) (fun _ _ _ _ _ => (pg_name (i := 3) nd rfl (Or.inl rfl))) (fun _ _ _ _ _ => pts_nil) (fun _ _ _ _ _ => (pe_dget hu (pv 1) (pv 3) (fun _ _ => rfl))))
      (pss_cons (ps_set (i := 4) nd rfl (Or.inl rfl) (pe_call (ok_law_draw T) (hr.mono (by decide)) (by rfl) T.law_draw.g T.law_draw.F.kp T.law_draw.B .nil pass0 (pa_cons (pv 0) (pa_cons pe_int pa_nil))))
      (pss_cons (ps_if (pt_cmpR op_eq (pe_call (ok_law_draw T) (hr.mono (by decide)) (by rfl) T.law_draw.g T.law_draw.F.kp T.law_draw.B .nil pass0 (pa_cons (pv 0) (pa_cons pe_int pa_nil))) pe_int (nomark _)) (pss_one (ps_ret (pe_op op_sub (pe_callB (w_min (K := K) rfl rfl) (by rfl) T.b_min (by decide +kernel) (pa_cons (pv 2) pa_nil)) (pv 4)))) pss_nil)
      (pss_one (ps_ret (pe_op op_add (pe_callB (w_max (K := K) rfl rfl) (by rfl) T.b_max (by decide +kernel) (pa_cons (pv 2) pa_nil)) (pv 4))))))), ?_⟩
  refine x_start (σ' := [some _, some _, none, none, none]) rfl ?_
  try simp only [cx_n, cx_K, cx_w, cx_P]
  cases ed
  walk_at "rd"
  refine x_sortD hrd hk.keys fun ys py hpy hsy np => ?_
  have ysl : ys.length = l.length := by rw [hpy.length_eq, List.length_map]
  refine x_itl (sqL upd_same) fun D hD => ?_
  have hDp : py ≠ D := ne_of_none upd_same hD
  have hD0 : H D = none := by rw [upd_ne (Ne.symm hDp)] at hD; exact hD
  refine lc_it (walk_listR (R := rS) (Hb := H) (paired_S' ys)) (fun n A => SX [] H A ∧ A py = some (.lst (ys.map V.str)) ∧ A D = some (.lst ((ys.take n).map fun s => V.int ((lookA l s).getD 0))))
    ⟨(SX.new np).trans (SX.new hD), by rw [upd_ne hDp]; exact upd_same, upd_same⟩ (fun n A _ h => sqL h.2.1) ?_ ?_
  · rintro n y A0 A hn ⟨sA, yA, dA⟩ ⟨rfl, s, hs, rfl⟩
    obtain ⟨a, ea⟩ := lookA_some (hpy.mem_iff.mp (getMem hs))
    obtain ⟨v, ev, rfl⟩ := hk.at_ ea
    walk_at "rd"
    refine ⟨rfl, ?_⟩
    walk_at "rd"
    refine x_dg' (sA.rd hrd) ev ?_
    refine ⟨_, dA, lt_size (by rw [List.length_map, List.length_take]; omega), sx_nil_of (S := [D]) ((nil_sx sA).trans (SX.mut List.mem_cons_self)) (by simp [hD0]), by rw [upd_ne hDp]; exact yA, ?_⟩
    rw [upd_same, take_succ_of hs, List.map_append]
    show some (HO.lst (_ ++ [V.int a])) = some (HO.lst (_ ++ [V.int ((lookA l s).getD 0)]))
    rw [ea]
    rfl
  rintro A ⟨sA, yA, dA⟩
  rw [List.take_length] at dA
  have npD : p ≠ D := fun e => hp.there (e ▸ hD0)
  -- the worths, in the order of their names
  have vals : ∀ q ∈ l, q.2 ∈ ys.map fun s => (lookA l s).getD 0 := fun q hq => List.mem_map.mpr ⟨q.1, hpy.mem_iff.mpr (List.mem_map.mpr ⟨q, hq, rfl⟩), by rw [lookA_nodup hnd hq]; rfl⟩
  have bnd : ∀ v ∈ ys.map (fun s => (lookA l s).getD 0), -96 ≤ v ∧ v ≤ 96 := fun v hv => by
    obtain ⟨s, hs, rfl⟩ := List.mem_map.mp hv
    obtain ⟨a, ea⟩ := lookA_some (hpy.mem_iff.mp hs)
    rw [ea]
    exact hb _ (lookA_mem ea)
  have dA : A D = some (.lst ((ys.map fun s => (lookA l s).getD 0).map V.int)) := by rw [dA, List.map_map]; rfl
  have vl : 0 < (ys.map fun s => (lookA l s).getD 0).length := by rw [List.length_map]; omega
  generalize (ys.map fun s => (lookA l s).getD 0) = zs at dA vals bnd vl
  have pA : Drw A p := hp.sx sA List.not_mem_nil
  walk_at "rd"
  refine ⟨p, 3, rfl, pA, by decide, by decide, fun gap B g0 g1 t1 q1 => ?_⟩
  walk_at "rd"
  refine ⟨p, 2, rfl, q1, by decide, by decide, fun side B2 b0 b1 t2 q2 => ?_⟩
  have dB2 := t2 _ _ (by simpa using Ne.symm npD) (t1 _ _ (by simpa using Ne.symm npD) dA)
  have sx2 : SX [p] H B2 := ((nil_sx sA).trans t1).trans t2
  walk_at "rd"
  refine x_cases (fun c => ?_) (fun c => ?_)
  · walk_at "rd"
    refine ⟨D, zs, rfl, sqL dB2, vl, fun m mm ml => ?_⟩
    walk_at "rd"
    have hm := bnd m mm
    exact k _ _ sx2 q2 (by omega) (by omega) (.inl fun q hq => by have := ml q.2 (vals q hq); omega)
  · walk_at "rd"
    refine ⟨D, zs, rfl, sqL dB2, vl, fun m mm ml => ?_⟩
    walk_at "rd"
    have hm := bnd m mm
    exact k _ _ sx2 q2 (by omega) (by omega) (.inr fun q hq => by have := ml q.2 (vals q hq); omega)
/-- a fraction in lowest terms -/
def FracOk (a b : Int) : Prop := 1 ≤ b ∧ Int.gcd a b = 1
theorem gcd_one {a b x y : Int} (h : x * a + y * b = 1) : Int.gcd a b = 1 := by
  have h1 : (Int.gcd a b : Int) ∣ a := Int.gcd_dvd_left ..
  have h2 : (Int.gcd a b : Int) ∣ b := Int.gcd_dvd_right ..
  have h3 : (Int.gcd a b : Int) ∣ 1 := by
    rw [← h]
    exact Int.dvd_add (Int.dvd_trans h1 (Int.dvd_mul_left ..)) (Int.dvd_trans h2 (Int.dvd_mul_left ..))
  have := Int.le_of_dvd (by decide) h3
  have h4 : Int.gcd a b ≠ 0 := fun z => by
    rw [z] at h3
    exact absurd h3 (by decide)
  omega
theorem frac2 (v : Int) : FracOk (2 * v + 1) 2 := ⟨by decide, gcd_one (x := 1) (y := -v) (by omega)⟩
theorem frac3 (v : Int) : FracOk (3 * v - 1) 3 := ⟨by decide, gcd_one (x := -1) (y := v) (by omega)⟩
theorem frac1 (v : Int) : FracOk v 1 := ⟨by decide, gcd_one (x := 0) (y := 1) (by omega)⟩
theorem fracN {N e : Int} (v : Int) (hN : 1 ≤ N) (he : e = 1 ∨ e = -1) : FracOk (v * N + e) N := ⟨hN, by
  rcases he with rfl | rfl
  · exact gcd_one (x := 1) (y := -v) (by rw [Int.neg_mul]; omega)
  · exact gcd_one (x := -1) (y := v) (by omega)⟩
def sp_law_level (T : Tx K mg) : Sp := fun vs H Q _ => ∃ (p d : Addr) (l : List (Str × Int)) (e : Int), vs = [.ref p, .ref d, .int e] ∧ Drw H p ∧ d ≠ p ∧ rD rI H (.ref d) l ∧ (l.map (·.1)).Nodup ∧ l.length ≤ 5000 ∧ (∀ q ∈ l, -99 ≤ q.2 ∧ q.2 ≤ 99) ∧ -99 ≤ e ∧ e ≤ 99 ∧
  ∀ t H' a b, H t = none → SX [p] H H' → Drw H' p → H' t = some (.tup [.int a, .int b]) → FracOk a b → -(10 ^ 30) ≤ a → a ≤ 10 ^ 30 → b ≤ 10 ^ 30 → Q (.ref t) H'
theorem ok_law_level (T : Tx K mg) : FnOk P w K mg base CX0 2 T.law_level.f T.law_level.fd P_law_level (sp_law_level T) := by
  refine T.law_level.F.ok sc_law_level (fun vs H Q E h => ?_) (fun cdv A outer s H vs Q E hr h => ?_)
  · obtain ⟨p, d, l, e, rfl, hp, ndp, ⟨d', kvs, ed, hrd, hk⟩, hnd, hlen, hb, he0, he1, k⟩ := h
    rfl
  have hu := hu_of hr
  have nd := sc_law_level.nd
  obtain ⟨p, d, l, e, rfl, hp, ndp, ⟨d', kvs, ed, hrd, hk⟩, hnd, hlen, hb, he0, he1, k⟩ := h
  refine ⟨_, (pss_cons (ps_set (i := 3) nd rfl (Or.inl rfl) (pe_op op_cat (pe_lst (pa_cons (pv 2) pa_nil)) (pe_lc (own := [("stand", 4)]) rfl nd (w_pilist (K := K) rfl (pe_callB (cl_sortD rfl) (by rfl) T.b_sorted (by decide +kernel) (pa_cons (pv 1) pa_nil))) (blkOk_by (own := [("stand", 4)]) (N := N_law_level) (sc := defScope s_law_level) (by decide +kernel)) (fun _ _ _ _ _ => (pg_name (i := 4) nd rfl (Or.inl rfl))) (fun _ _ _ _ _ => pts_nil) (fun _ _ _ _ _ => (pe_dget hu (pv 1) (pv 4) (fun _ _ => rfl))))))
      (pss_cons (ps_set (i := 5) nd rfl (Or.inl rfl) (pe_ix (w_ixL (K := K) rfl) (pv 3) (pe_call (ok_law_draw T) (hr.mono (by decide)) (by rfl) T.law_draw.g T.law_draw.F.kp T.law_draw.B .nil pass0 (pa_cons (pv 0) (pa_cons (pe_callB (w_len (K := K) rfl) (by rfl) T.b_len (by decide +kernel) (pa_cons (pv 3) pa_nil)) pa_nil))) (fun _ _ => rfl)))
      (pss_cons (ps_set (i := 6) nd rfl (Or.inl rfl) (pe_call (ok_law_draw T) (hr.mono (by decide)) (by rfl) T.law_draw.g T.law_draw.F.kp T.law_draw.B .nil pass0 (pa_cons (pv 0) (pa_cons pe_int pa_nil))))
      (pss_cons (ps_if (pt_cmpR op_eq (pv 6) pe_int (nomark _)) (pss_one (ps_ret (pe_tup (pa_cons (pe_op op_add (pe_op op_mul pe_int (pv 5)) pe_int) (pa_cons pe_int pa_nil))))) pss_nil)
      (pss_cons (ps_if (pt_cmpR op_eq (pv 6) pe_int (nomark _)) (pss_one (ps_ret (pe_tup (pa_cons (pe_op op_sub (pe_op op_mul pe_int (pv 5)) pe_int) (pa_cons pe_int pa_nil))))) pss_nil)
      (pss_cons (ps_if (pt_cmpR op_gt (pv 6) pe_int (nomark _)) (pss_one (ps_ret (pe_tup (pa_cons (pe_op op_sub (pe_op op_add (pe_op op_mul (pv 5) (pe_op op_powB pe_int pe_int)) (pe_op op_mul pe_int (pv 6))) pe_int) (pa_cons (pe_op op_powB pe_int pe_int) pa_nil))))) pss_nil)
      (pss_one (ps_ret (pe_tup (pa_cons (pv 5) (pa_cons pe_int pa_nil))))))))))), ?_⟩
  refine x_start (σ' := [some _, some _, some _, none, none, none, none]) rfl ?_
  try simp only [cx_n, cx_K, cx_w, cx_P]
  cases ed
  walk_at "rd"
  refine ⟨Nat.le_of_ble_eq_true rfl, fun l0 hl0 => ?_⟩
  walk_at "rd"
  have s0 : SX [] H (upd H l0 (.lst [.int e])) := SX.new hl0
  have e0 : (upd H l0 (.lst [.int e])) l0 = some (.lst [.int e]) := upd_same
  generalize upd H l0 (.lst [.int e]) = H0 at s0 e0
  refine x_sortD (s0.rd hrd) hk.keys fun ys py hpy hsy np => ?_
  have ysl : ys.length = l.length := by rw [hpy.length_eq, List.length_map]
  refine x_itl (sqL upd_same) fun D hD => ?_
  have hDp : py ≠ D := ne_of_none upd_same hD
  have hD0 : H0 D = none := by rw [upd_ne (Ne.symm hDp)] at hD; exact hD
  refine lc_it (walk_listR (R := rS) (Hb := H) (paired_S' ys)) (fun n A => SX [] H0 A ∧ A py = some (.lst (ys.map V.str)) ∧ A D = some (.lst ((ys.take n).map fun s => V.int ((lookA l s).getD 0))))
    ⟨(SX.new np).trans (SX.new hD), by rw [upd_ne hDp]; exact upd_same, upd_same⟩ (fun n A _ h => sqL h.2.1) ?_ ?_
  · rintro n y A0 A hn ⟨sA, yA, dA⟩ ⟨rfl, s, hs, rfl⟩
    obtain ⟨a, ea⟩ := lookA_some (hpy.mem_iff.mp (getMem hs))
    obtain ⟨v, ev, rfl⟩ := hk.at_ ea
    walk_at "rd"
    refine ⟨rfl, ?_⟩
    walk_at "rd"
    refine x_dg' ((s0.trans sA).rd hrd) ev ?_
    refine ⟨_, dA, lt_size (by rw [List.length_map, List.length_take]; omega), sx_nil_of (S := [D]) ((nil_sx sA).trans (SX.mut List.mem_cons_self)) (by simp [hD0]), by rw [upd_ne hDp]; exact yA, ?_⟩
    rw [upd_same, take_succ_of hs, List.map_append]
    show some (HO.lst (_ ++ [V.int a])) = some (HO.lst (_ ++ [V.int ((lookA l s).getD 0)]))
    rw [ea]
    rfl
  rintro A ⟨sA, yA, dA⟩
  rw [List.take_length] at dA
  have bnd : ∀ v ∈ e :: ys.map (fun s => (lookA l s).getD 0), -99 ≤ v ∧ v ≤ 99 := fun v hv => by
    rcases List.mem_cons.mp hv with rfl | hv
    · exact ⟨he0, he1⟩
    · obtain ⟨s, hs, rfl⟩ := List.mem_map.mp hv
      obtain ⟨a, ea⟩ := lookA_some (hpy.mem_iff.mp hs)
      rw [ea]
      exact hb _ (lookA_mem ea)
  have dA : A D = some (.lst ((ys.map fun s => (lookA l s).getD 0).map V.int)) := by rw [dA, List.map_map]; rfl
  have zl : (ys.map fun s => (lookA l s).getD 0).length ≤ 5000 := by rw [List.length_map]; omega
  generalize (ys.map fun s => (lookA l s).getD 0) = zs at dA bnd zl
  have e0A := sA _ _ List.not_mem_nil e0
  refine ⟨l0, D, _, _, rfl, rfl, e0A, dA, by rw [List.length_map]; exact Nat.le_trans (show 1 + zs.length ≤ 10000 by omega) (by decide), fun vl hvl => ?_⟩
  have ec : [V.int e] ++ zs.map V.int = (e :: zs).map V.int := rfl
  rw [ec]
  have sV : SX [] H (upd A vl (.lst ((e :: zs).map V.int))) := (s0.trans sA).trans (SX.new hvl)
  have pV : Drw (upd A vl (.lst ((e :: zs).map V.int))) p := hp.sx sV List.not_mem_nil
  have eV : (upd A vl (.lst ((e :: zs).map V.int))) vl = some (.lst ((e :: zs).map V.int)) := upd_same
  have nvp : vl ≠ p := fun e => (hp.sx (s0.trans sA) List.not_mem_nil).there (e ▸ hvl)
  generalize upd A vl (.lst ((e :: zs).map V.int)) = B at sV pV eV
  walk_at "rd"
  refine x_lenL' (sqL eV) ?_
  walk_at "rd"
  rw [List.length_map]
  have el : (e :: zs).length = zs.length + 1 := rfl
  refine ⟨p, ((e :: zs).length : Int), rfl, pV, by rw [el]; omega, by rw [el]; omega, fun r B1 r0 r1 t1 q1 => ?_⟩
  obtain ⟨v, ev, mv⟩ := at_ints r0 r1
  have hv := bnd v mv
  refine x_ixL (sqL (t1 _ _ (by simpa using nvp) eV)) ev ?_
  walk_at "rd"
  refine ⟨p, 7, rfl, q1, by decide, by decide, fun way B2 w0 w1 t2 q2 => ?_⟩
  have sAll : SX [p] H B2 := ((nil_sx sV).trans t1).trans t2
  have fin : ∀ (t : Addr) (a b : Int), B2 t = none → FracOk a b → -(10 ^ 30) ≤ a → a ≤ 10 ^ 30 → b ≤ 10 ^ 30 → Q (.ref t) (upd B2 t (.tup [.int a, .int b])) := fun t a b ht f a0 a1 b1 =>
    k t _ a b (sAll.free ht (by simpa using fun e : t = p => q2.there (e ▸ ht))) (sAll.trans (SX.new ht)) (q2.sx (SX.new (S := []) ht) List.not_mem_nil) upd_same f a0 a1 b1
  walk_at "rd"
  refine x_cases (fun c1 => ?_) (fun c1 => ?_)
  · walk_at "rd"
    refine x_I (.inl ⟨by decide, by decide⟩) ?_
    walk_at "rd"
    exact ⟨Nat.le_of_ble_eq_true rfl, fun t ht => fin t _ _ ht (frac2 v) (by omega) (by omega) (by omega)⟩
  walk_at "rd"
  refine x_cases (fun c2 => ?_) (fun c2 => ?_)
  · walk_at "rd"
    refine x_I (.inl ⟨by decide, by decide⟩) ?_
    walk_at "rd"
    exact ⟨Nat.le_of_ble_eq_true rfl, fun t ht => fin t _ _ ht (frac3 v) (by omega) (by omega) (by omega)⟩
  walk_at "rd"
  refine x_cases (fun c3 => ?_) (fun c3 => ?_)
  · have h5 : way = 5 ∨ way = 6 := by
      have : (4 : Int) < way := by simpa using c3
      omega
    walk_at "rd"
    refine x_I ⟨by decide, by decide +kernel⟩ ?_
    refine x_I (.inl ⟨by omega, by omega⟩) ?_
    walk_at "rd"
    refine x_I (.inl ⟨by decide, by decide⟩) ?_
    walk_at "rd"
    refine x_I ⟨by decide, by decide +kernel⟩ ?_
    walk_at "rd"
    have eN : (10 : Int) ^ (27 : Int).toNat = 10 ^ 27 := by decide +kernel
    rw [eN]
    have e1 : v * 10 ^ 27 + 2 * way - 11 = v * 10 ^ 27 + (2 * way - 11) := by omega
    rw [e1]
    refine ⟨Nat.le_of_ble_eq_true rfl, fun t ht => fin t _ _ ht (fracN v (by decide) (by omega)) (by omega) (by omega) (by omega)⟩
  · walk_at "rd"
    exact ⟨Nat.le_of_ble_eq_true rfl, fun t ht => fin t _ _ ht (frac1 v) (by omega) (by omega) (by omega)⟩
end
end M

namespace M
open PySem PySem.Spec PyProof.Rows L2
/-! ### fractions, lots, wishes -/
/-- hands of a lot, ascending -/
def LotOk (hands : Int) (ns : List Int) : Prop := ns.Pairwise (· < ·) ∧ ∀ n ∈ ns, 0 ≤ n ∧ n < hands
section
variable {P : Program} {w : World} {K : PySem.W.Frag} {mg : Str → Option Value} {base : Heap}
def sp_common_divisor (T : Tx K mg) : Sp := fun vs H Q _ => ∃ a b : Int, vs = [.int a, .int b] ∧ 0 ≤ a ∧ 0 ≤ b ∧ Q (.int (Int.gcd a b)) H
theorem ok_common_divisor (T : Tx K mg) : FnOk P w K mg base CX0 1 T.common_divisor.f T.common_divisor.fd P_common_divisor (sp_common_divisor T) := by
  refine T.common_divisor.F.ok sc_common_divisor (fun vs H Q E h => ?_) (fun cdv A outer s H vs Q E hr h => ?_)
  · obtain ⟨a, b, rfl, ha, hb, k⟩ := h
    rfl
  have hu := hu_of hr
  have nd := sc_common_divisor.nd
  obtain ⟨a, b, rfl, ha, hb, k⟩ := h
  refine ⟨_, (pss_cons (ps_while PassesOwn.never (pt_cmpR op_gt (pv 1) pe_int (nomark _)) (pss_one (ps_par (i := 0) (j := 1) rfl nd rfl rfl (by decide) rfl rfl (pa_cons (pv 1) (pa_cons (pe_op op_mod (pv 0) (pv 1)) pa_nil)) (by rfl))))
      (pss_one (ps_ret (pv 0)))), ?_⟩
  refine x_start (σ' := [some _, some _]) rfl ?_
  try simp only [cx_n, cx_K, cx_w, cx_P]
  walk_at "rd"
  refine x_while (fun σ A => A = H ∧ ∃ x y : Int, σ = [some (.int x), some (.int y)] ∧ 0 ≤ x ∧ 0 ≤ y ∧ Int.gcd x y = Int.gcd a b) (fun σ A => match σ with | [_, some (.int y)] => y.toNat | _ => 0) ⟨rfl, a, b, rfl, ha, hb, rfl⟩ ?_ ?_
  · rintro σ A ⟨rfl, x, y, rfl, hx, hy, hg⟩
    walk_at "rd"
    refine x_cases (fun c => ?_) (fun c => ?_)
    · have hy0 : 0 < y := by simpa using c
      walk_at "rd"
      refine x_I hy0 ?_
      walk_at "rd"
      have m0 : 0 ≤ x % y := Int.emod_nonneg _ (by omega)
      have m1 : x % y < y := Int.emod_lt_of_pos _ hy0
      refine ⟨⟨rfl, y, x % y, rfl, hy, m0, ?_⟩, ?_⟩
      · rw [← hg]
        obtain ⟨m, rfl⟩ : ∃ m : Nat, x = (m : Int) := ⟨x.toNat, by omega⟩
        obtain ⟨n, rfl⟩ : ∃ n : Nat, y = (n : Int) := ⟨y.toNat, by omega⟩
        show Nat.gcd n (((m : Int) % (n : Int)).natAbs) = Nat.gcd m n
        have e : ((m : Int) % (n : Int)).natAbs = m % n := by
          rw [← Int.natCast_emod]
          rfl
        rw [e, Nat.gcd_comm n, ← Nat.gcd_rec, Nat.gcd_comm]
      · show (x % y).toNat < y.toNat
        omega
    · have e0 : y = 0 := by
        have : ¬ 0 < y := by simpa using c
        omega
      subst e0
      walk_at "rd"
      have : Int.gcd x 0 = x.natAbs := Int.gcd_zero_right _
      rw [this] at hg
      have e : x = ((Int.gcd a b : Nat) : Int) := by omega
      rw [e]
      exact k
  · rintro σ A Q1 Q2 hm ⟨v, hv, i, j, e1, e2, c, hc, q⟩
    exact ⟨v, hv, i, j, e1, e2, c, hc, hm _ _ q⟩
def sp_is_value (T : Tx K mg) : Sp := fun vs H Q _ => ∃ i : Int, vs = [.int i] ∧ -99 ≤ i ∧ i ≤ 99 ∧ Q (.bl true) H
theorem ok_is_value (T : Tx K mg) : FnOk P w K mg base CX0 2 T.is_value.f T.is_value.fd P_is_value (sp_is_value T) := by
  refine T.is_value.F.ok sc_is_value (fun vs H Q E h => ?_) (fun cdv A outer s H vs Q E hr h => ?_)
  · obtain ⟨i, rfl, h0, h1, k⟩ := h
    rfl
  have hu := hu_of hr
  have nd := sc_is_value.nd
  obtain ⟨i, rfl, h0, h1, k⟩ := h
  refine ⟨_, (pss_one (ps_ret (pe_and (pe_call (ok_is_integer T) (hr.mono (by decide)) (by rfl) T.is_integer.g T.is_integer.F.kp T.is_integer.B .nil pass0 (pa_cons (pv 0) pa_nil)) (pe_one (pe_chain op_le op_le (pe_un un_neg pe_int) (pv 0) pe_int))))), ?_⟩
  refine x_start (σ' := [some _]) rfl ?_
  try simp only [cx_n, cx_K, cx_w, cx_P]
  walk_at "rd"
  refine ⟨i, rfl, ?_⟩
  walk_at "rd"
  refine x_cases (fun c => ?_) (fun c => ?_)
  · walk_at "rd"
    rw [decide_eq_true h1]
    exact k
  · exact absurd (of_decide_eq_false c) (by simpa using h0)
def sp_is_fraction (T : Tx K mg) : Sp := fun vs H Q _ => ∃ (t : Addr) (a b : Int), vs = [.ref t] ∧ SqT K H t [.int a, .int b] ∧ FracOk a b ∧ ∀ H', SX [] H H' → Q (.bl true) H'
theorem ok_is_fraction (T : Tx K mg) : FnOk P w K mg base CX0 2 T.is_fraction.f T.is_fraction.fd P_is_fraction (sp_is_fraction T) := by
  refine T.is_fraction.F.ok sc_is_fraction (fun vs H Q E h => ?_) (fun cdv A outer s H vs Q E hr h => ?_)
  · obtain ⟨t, a, b, rfl, ht, fr, k⟩ := h
    rfl
  have hu := hu_of hr
  have nd := sc_is_fraction.nd
  obtain ⟨t, a, b, rfl, ht, fr, k⟩ := h
  refine ⟨_, (pss_cons (ps_if (PW.pt (pw_or (pt_not (pt_val (pe_call (ok_is_pair T) (hr.mono (by decide)) (by rfl) T.is_pair.g T.is_pair.F.kp T.is_pair.B .nil pass0 (pa_cons (pv 0) pa_nil)))) (pw_or (pt_not (pt_val (pe_call (ok_is_integer T) (hr.mono (by decide)) (by rfl) T.is_integer.g T.is_integer.F.kp T.is_integer.B .nil pass0 (pa_cons (pe_ix (w_ixT (K := K) rfl) (pv 0) pe_int (fun _ _ => rfl)) pa_nil)))) (pw_or1 (pt_not (pt_val (pe_call (ok_is_integer T) (hr.mono (by decide)) (by rfl) T.is_integer.g T.is_integer.F.kp T.is_integer.B .nil pass0 (pa_cons (pe_ix (w_ixT (K := K) rfl) (pv 0) pe_int (fun _ _ => rfl)) pa_nil)))))))) (pss_one (ps_ret pe_bl)) pss_nil)
      (pss_one (ps_ret (pe_and (pe_cmpR op_ge (pe_ix (w_ixT (K := K) rfl) (pv 0) pe_int (fun _ _ => rfl)) pe_int (nomark _)) (pe_one (pe_cmpR op_eq (pe_call (ok_common_divisor T) (hr.mono (by decide)) (by rfl) T.common_divisor.g T.common_divisor.F.kp T.common_divisor.B .nil pass0 (pa_cons (pe_callB cl_abs (by rfl) T.b_abs (by decide +kernel) (pa_cons (pe_ix (w_ixT (K := K) rfl) (pv 0) pe_int (fun _ _ => rfl)) pa_nil)) (pa_cons (pe_ix (w_ixT (K := K) rfl) (pv 0) pe_int (fun _ _ => rfl)) pa_nil))) pe_int (nomark _))))))), ?_⟩
  refine x_start (σ' := [some _]) rfl ?_
  try simp only [cx_n, cx_K, cx_w, cx_P]
  walk_at "rd"
  refine ⟨t, _, rfl, ht, ?_⟩
  walk_at "rd"
  refine x_false (by rfl) ?_
  walk_at "rd"
  refine x_ixT ht (v := .int a) (atI_nat (j := 0) rfl) ?_
  walk_at "rd"
  refine ⟨a, rfl, ?_⟩
  walk_at "rd"
  refine x_ixT ht (v := .int b) (atI_nat (j := 1) rfl) ?_
  walk_at "rd"
  refine ⟨b, rfl, ?_⟩
  walk_at "rd"
  refine x_ixT ht (v := .int b) (atI_nat (j := 1) rfl) ?_
  walk_at "rd"
  have hb := fr.1
  rw [decide_eq_true hb]
  walk_at "rd"
  refine x_ixT ht (v := .int a) (atI_nat (j := 0) rfl) ?_
  walk_at "rd"
  refine x_ixT ht (v := .int b) (atI_nat (j := 1) rfl) ?_
  refine ⟨_, b, rfl, by split <;> omega, by omega, ?_⟩
  walk_at "rd"
  have e : Int.gcd (if a < 0 then -a else a) b = 1 := by
    rw [← fr.2]
    split
    · exact Int.neg_gcd ..
    · rfl
  rw [e]
  exact k H (SX.refl _)
def sp_is_lot (T : Tx K mg) : Sp := fun vs H Q _ => ∃ (x t : Addr) (hands : Int) (start : Str) (tbl : List (Str × Stand)) (ns : List Int), vs = [.ref x, .ref t] ∧ WorkAt T H x hands start tbl ∧ SqT K H t (ns.map V.int) ∧ LotOk hands ns ∧ Q (.bl true) H
theorem work_handsL {hands : Int} {start : Str} {d nm en : Addr} {b : Bool} : List.lookup ("hands" : Str) (workF hands start d nm en b) = some (.int hands) := look_here
theorem ok_is_lot (T : Tx K mg) : FnOk P w K mg base CX0 2 T.is_lot.f T.is_lot.fd P_is_lot (sp_is_lot T) := by
  refine T.is_lot.F.ok sc_is_lot (fun vs H Q E h => ?_) (fun cdv A outer s H vs Q E hr h => ?_)
  · obtain ⟨x, t, hands, start, tbl, ns, rfl, wa, ht, lo, k⟩ := h
    rfl
  have hu := hu_of hr
  have nd := sc_is_lot.nd
  obtain ⟨x, t, hands, start, tbl, ns, rfl, wa, ht, lo, k⟩ := h
  refine ⟨_, (pss_cons (ps_if (pt_not (pt_val (pe_callB (w_isi (K := K) rfl) (by rfl) T.b_isinstance (by decide +kernel) (pa_cons (pv 1) (pa_cons (pe_bltn (v := .ty "tuple") (by rfl) T.b_tuple (by decide +kernel) rfl) pa_nil))))) (pss_one (ps_ret pe_bl)) pss_nil)
      (pss_cons (ps_set (i := 2) nd rfl (Or.inl rfl) (pe_un un_neg pe_int))
      (pss_cons (ps_for PassesOwn.never rfl (w_pitup (K := K) rfl (pv 1)) (pg_name (i := 3) nd rfl (Or.inl rfl)) (pss_cons (ps_if (PW.pt (pw_or (pt_not (pt_val (pe_call (ok_is_integer T) (hr.mono (by decide)) (by rfl) T.is_integer.g T.is_integer.F.kp T.is_integer.B .nil pass0 (pa_cons (pv 3) pa_nil)))) (pw_or1 (pt_not (pt_chain op_lt op_lt (pv 2) (pv 3) (w_fld (K := K) rfl (pv 0) rfl)))))) (pss_one (ps_ret pe_bl)) pss_nil)
      (pss_one (ps_set (i := 2) nd rfl (Or.inl rfl) (pv 3)))))
      (pss_one (ps_ret pe_bl))))), ?_⟩
  refine x_start (σ' := [some _, some _, none, none]) rfl ?_
  try simp only [cx_n, cx_K, cx_w, cx_P]
  obtain ⟨dx, d, nm, en, hx, _⟩ := id wa.ex
  walk_at "rd"
  refine x_isiT (ty_tup ht) (by decide +kernel) ?_
  walk_at "rd"
  refine ⟨t, rfl, ⟨_, ht⟩, ?_⟩
  refine for_it walk_tup (fun i σ A => A = H ∧ ∃ (pr : Int) (c : Option V), (∀ n ∈ ns.drop i, pr < n) ∧ σ = [some (.ref x), some (.ref t), some (.int pr), c]) ⟨rfl, -1, none, fun n hn => by have := (lo.2 n hn).1; omega, rfl⟩ (fun i σ A _ h => by obtain ⟨rfl, _⟩ := h; exact ht) ?_ ?_
  · rintro i y σ A A' hi ⟨rfl, pr, c, hp, rfl⟩ ⟨rfl, hy⟩
    obtain ⟨n, hn, rfl⟩ : ∃ n, ns[i]? = some n ∧ V.int n = y := by
      rw [List.getElem?_map] at hy
      cases e1 : ns[i]? with
      | none => rw [e1] at hy; cases hy
      | some s => rw [e1] at hy; cases hy; exact ⟨s, rfl, rfl⟩
    have hd : ns.drop i = n :: ns.drop (i + 1) := by
      have hl := getLt hn
      rw [List.drop_eq_getElem_cons hl]
      congr 1
      rw [List.getElem?_eq_getElem hl] at hn
      exact Option.some.inj hn
    have h1 : pr < n := hp n (by rw [hd]; exact List.mem_cons_self)
    have h2 := (lo.2 n (getMem hn)).2
    walk_at "rd"
    refine ⟨n, rfl, ?_⟩
    walk_at "rd"
    rw [decide_eq_true h1]
    walk_at "rd"
    refine x_getF hx T.cl_Work T.n_Work_hands work_handsL ?_
    walk_at "rd"
    rw [decide_eq_true h2]
    walk_at "rd"
    refine ⟨rfl, n, _, fun z hz => ?_, rfl⟩
    have pw : (ns.drop i).Pairwise (· < ·) := List.Pairwise.sublist (List.drop_sublist _ _) lo.1
    rw [hd] at pw
    exact (List.pairwise_cons.mp pw).1 z hz
  · rintro σ A ⟨rfl, pr, c, hp, rfl⟩
    walk_at "rd"
    exact k
end
end M

namespace M
open PySem PySem.Spec PyProof.Rows L2
def wishF (d : Addr) (e : Int) (cm : Bool) : List (Str × V) := [("table", .ref d), ("endless", .int e), ("coming", .bl cm)]
theorem wish_table {d : Addr} {e : Int} {cm : Bool} : List.lookup ("table" : Str) (wishF d e cm) = some (.ref d) := look_here
theorem wish_endless {d : Addr} {e : Int} {cm : Bool} : List.lookup ("endless" : Str) (wishF d e cm) = some (.int e) := look_next (by decide +kernel) look_here
theorem wish_coming {d : Addr} {e : Int} {cm : Bool} : List.lookup ("coming" : Str) (wishF d e cm) = some (.bl cm) := look_next (by decide +kernel) (look_next (by decide +kernel) look_here)
theorem pick_at {α : Type} [Inhabited α] {l : List (Str × α)} {ys : List Str} {n : Nat} {s : Str} (h : ys[n]? = some s) : pick l (ys.take (n + 1)) = pick l (ys.take n) ++ [(s, (lookA l s).getD default)] := by
  rw [take_succ_of h]
  unfold pick
  rw [List.map_append]
  rfl
/-- what a wish wants -/
structure WishOk (wl : List (Str × Int)) (e : Int) : Prop where
  nd : (wl.map (·.1)).Nodup
  len : wl.length ≤ 100
  all : ∀ z ∈ wl, nameB z.1 = true ∧ -99 ≤ z.2 ∧ z.2 ≤ 99
  e0 : -99 ≤ e
  e1 : e ≤ 99
  way : (∀ z ∈ wl, e ≤ z.2) ∨ (∀ z ∈ wl, z.2 ≤ e)
section
variable {P : Program} {w : World} {K : PySem.W.Frag} {mg : Str → Option Value} {base : Heap}
structure WishAt (T : Tx K mg) (H : Hp) (y : Addr) (tb : List (Str × Int)) (e : Int) (cm : Bool) : Prop where
  ex : ∃ dy d kv, H y = some (.ins T.a_Wish dy (wishF d e cm)) ∧ H d = some (.dK kv) ∧ KVs rI H kv tb
  srt : sortedS (tb.map (·.1)) = true
theorem WishAt.sx {T : Tx K mg} {A B : Hp} {y : Addr} {tb : List (Str × Int)} {e : Int} {cm : Bool} (s : SX [] A B) (h : WishAt T A y tb e cm) : WishAt T B y tb e cm := by
  obtain ⟨dy, d, kv, h1, h2, h3⟩ := h.ex
  exact ⟨⟨dy, d, kv, s _ _ List.not_mem_nil h1, s _ _ List.not_mem_nil h2, KVs.le mono_I s.le0 h3⟩, h.srt⟩
def sp_checked_lot (T : Tx K mg) : Sp := fun vs H Q _ => ∃ (x t : Addr) (hands : Int) (start : Str) (tbl : List (Str × Stand)) (ns : List Int), vs = [.ref x, .ref t] ∧ WorkAt T H x hands start tbl ∧ SqT K H t (ns.map V.int) ∧ LotOk hands ns ∧ Q .non H
theorem ok_checked_lot (T : Tx K mg) : FnOk P w K mg base CX0 3 T.checked_lot.f T.checked_lot.fd P_checked_lot (sp_checked_lot T) := by
  refine T.checked_lot.F.ok sc_checked_lot (fun vs H Q E h => ?_) (fun cdv A outer s H vs Q E hr h => ?_)
  · obtain ⟨x, t, hands, start, tbl, ns, rfl, wa, ht, lo, k⟩ := h
    rfl
  have hu := hu_of hr
  have nd := sc_checked_lot.nd
  obtain ⟨x, t, hands, start, tbl, ns, rfl, wa, ht, lo, k⟩ := h
  refine ⟨_, (pss_one (ps_if (pt_not (pt_val (pe_call (ok_is_lot T) (hr.mono (by decide)) (by rfl) T.is_lot.g T.is_lot.F.kp T.is_lot.B .nil pass0 (pa_cons (pv 0) (pa_cons (pv 1) pa_nil))))) (pss_one ps_never) pss_nil)), ?_⟩
  refine x_start (σ' := [some _, some _]) rfl ?_
  try simp only [cx_n, cx_K, cx_w, cx_P]
  walk_at "rd"
  refine ⟨x, t, hands, start, tbl, ns, rfl, wa, ht, lo, ?_⟩
  walk_at "rd"
  exact k
def sp_are_worths (T : Tx K mg) : Sp := fun vs H Q _ => ∃ (d : Addr) (wl : List (Str × Int)), vs = [.ref d] ∧ rD rI H (.ref d) wl ∧ wl.length ≤ 100 ∧ (∀ z ∈ wl, nameB z.1 = true ∧ -99 ≤ z.2 ∧ z.2 ≤ 99) ∧ ∀ H', SX [] H H' → Q (.bl true) H'
theorem ok_are_worths (T : Tx K mg) : FnOk P w K mg base CX0 3 T.are_worths.f T.are_worths.fd P_are_worths (sp_are_worths T) := by
  refine T.are_worths.F.ok sc_are_worths (fun vs H Q E h => ?_) (fun cdv A outer s H vs Q E hr h => ?_)
  · obtain ⟨d, wl, rfl, ⟨d', kvs, ed, hd, hk⟩, hl1, hall, k⟩ := h
    rfl
  have hu := hu_of hr
  have nd := sc_are_worths.nd
  obtain ⟨d, wl, rfl, ⟨d', kvs, ed, hd, hk⟩, hl1, hall, k⟩ := h
  refine ⟨_, (pss_cons (ps_if (PW.pt (pw_or (pt_not (pt_val (pe_callB (w_isi (K := K) rfl) (by rfl) T.b_isinstance (by decide +kernel) (pa_cons (pv 0) (pa_cons (pe_bltn (v := .ty "dict") (by rfl) T.b_dict (by decide +kernel) rfl) pa_nil))))) (pw_or1 (pt_cmpR op_gt (pe_callB cl_lenD (by rfl) T.b_len (by decide +kernel) (pa_cons (pv 0) pa_nil)) pe_int (nomark _))))) (pss_one (ps_ret pe_bl)) pss_nil)
      (pss_cons (ps_lockR (ps_for PassesOwn.never rfl (pi_items (pv 0)) (w_pgtup (K := K) (n := 2) rfl (by rfl) (pgs_cons (pg_name (i := 1) nd rfl (Or.inl rfl)) (pgs_cons (pg_name (i := 2) nd rfl (Or.inl rfl)) pgs_nil)) (by rfl) (by rfl)) (pss_one (ps_if (PW.pt (pw_or (pt_not (pt_val (pe_call (ok_is_name T) (hr.mono (by decide)) (by rfl) T.is_name.g T.is_name.F.kp T.is_name.B .nil pass0 (pa_cons (pv 1) pa_nil)))) (pw_or1 (pt_not (pt_val (pe_call (ok_is_value T) (hr.mono (by decide)) (by rfl) T.is_value.g T.is_value.F.kp T.is_value.B .nil pass0 (pa_cons (pv 2) pa_nil))))))) (pss_one (ps_ret pe_bl)) pss_nil))))
      (pss_one (ps_ret pe_bl)))), ?_⟩
  refine x_start (σ' := [some _, none, none]) rfl ?_
  try simp only [cx_n, cx_K, cx_w, cx_P]
  cases ed
  walk_at "rd"
  refine x_isiT (ty_dict hd) (by decide +kernel) ?_
  walk_at "rd"
  have hl : kvs.length = wl.length := Paired.length hk
  refine x_lenD hd ?_
  walk_at "rd"
  rw [hl]
  refine x_false (decide_eq_false (by omega)) ?_
  walk_at "rd"
  refine x_lockR hd fun od HL eL ne => ?_
  walk_at "rd"
  refine x_iti eL ?_
  have leL : Le H HL := lock_le hd eL ne
  refine for_it (walk_itemsR (KVs.le mono_I leL hk)) (fun i σ H' => SX [] HL H' ∧ ∃ a b, σ = [some (.ref d), a, b]) ⟨SX.refl _, _, _, rfl⟩ (fun _ _ _ _ h => h.1 _ _ List.not_mem_nil eL) ?_ ?_
  · rintro i x σ H0 H1 hi ⟨sx, a, b, rfl⟩ ⟨T1, p, v, hp, rfl, rfl, hT, rfl⟩
    obtain ⟨n1, n2, n3⟩ := hall p (getMem hp)
    walk_at "rd"
    refine ⟨_, rfl, nameB_size n1, ?_⟩
    rw [n1]
    walk_at "rd"
    refine ⟨p.2, rfl, n2, n3, ?_⟩
    walk_at "rd"
    exact ⟨sx.trans (SX.new hT), _, _, rfl⟩
  · rintro σ H1 ⟨sx, a, b, rfl⟩
    refine ⟨sx _ _ List.not_mem_nil eL, ?_⟩
    walk_at "rd"
    exact k _ (unlock_sx ne sx)
/-- all of a list's ints against e, as flags -/
theorem all_flags {l : List Int} {p : Int → Bool} : ((l.map p).all id) = true ↔ ∀ z ∈ l, p z = true := by
  rw [List.all_eq_true]
  constructor
  · intro h z hz
    exact h _ (List.mem_map.mpr ⟨z, hz, rfl⟩)
  · intro h b hb
    obtain ⟨z, hz, rfl⟩ := List.mem_map.mp hb
    exact h z hz
theorem x_listVals {td : TE} {σ : L2.St} {H : Hp} {Q : VK} (k : td σ H fun x H1 => ∃ d kvs, x = .ref d ∧ H1 d = some (.dK kvs) ∧ ∀ l, H1 l = none → Q (.ref l) (upd H1 l (.lst (kvs.map (·.2))))) : tListVals td σ H Q := k
theorem kvs_vals {H : Hp} : ∀ {kvs : List (Key × V)} {wl : List (Str × Int)}, KVs rI H kvs wl → kvs.map (·.2) = (wl.map (·.2)).map V.int
  | _, _, .nil => rfl
  | _, _, .cons h r => by
    rw [List.map_cons, List.map_cons, List.map_cons, kvs_vals r]
    have := h.2
    change _ = V.int _ at this
    rw [this]
def sp_Wish_init (T : Tx K mg) : Sp := fun vs H Q _ => ∃ (y dy wd : Addr) (wl : List (Str × Int)) (kvs : List (Key × V)) (e : Int), vs = [.ref y, .ref wd, .int e] ∧ H y = some (.ins T.a_Wish dy []) ∧ H wd = some (.dK kvs) ∧ KVs rI H kvs wl ∧ WishOk wl e ∧
  ∀ H' tb, SX [y] H H' → WishAt T H' y tb e (decide (∀ z ∈ wl, e ≤ z.2)) → Srt wl tb → Q .non H'
theorem ok_Wish_init (T : Tx K mg) : FnOk P w K mg base CX0 4 T.Wish_init.f T.Wish_init.fd P_Wish_init (sp_Wish_init T) := by
  refine T.Wish_init.F.ok sc_Wish_init (fun vs H Q E h => ?_) (fun cdv A outer s H vs Q E hr h => ?_)
  · obtain ⟨y, dy, wd, wl, kvs, e, rfl, hy, hwd, hk, ok, k⟩ := h
    rfl
  have hu := hu_of hr
  have nd := sc_Wish_init.nd
  obtain ⟨y, dy, wd, wl, kvs, e, rfl, hy, hwd, hk, ok, k⟩ := h
  refine ⟨_, (pss_cons (ps_if (PW.pt (pw_or (pt_not (pt_val (pe_call (ok_are_worths T) (hr.mono (by decide)) (by rfl) T.are_worths.g T.are_worths.F.kp T.are_worths.B .nil pass0 (pa_cons (pv 1) pa_nil)))) (pw_or1 (pt_not (pt_val (pe_call (ok_is_value T) (hr.mono (by decide)) (by rfl) T.is_value.g T.is_value.F.kp T.is_value.B .nil pass0 (pa_cons (pv 2) pa_nil))))))) (pss_one ps_never) pss_nil)
      (pss_cons (ps_set (i := 3) nd rfl (Or.inl rfl) (pe_callB (w_all (K := K) rfl rfl) (by rfl) T.b_all (by decide +kernel) (pa_cons (pe_lc (own := [("value", 4)]) rfl nd (w_pilist (K := K) rfl (pe_listVals rfl (by rfl) T.b_list (pv 1) rfl rfl)) (blkOk_by (own := [("value", 4)]) (N := N_Wish_init) (sc := defScope s_Wish_init) (by decide +kernel)) (fun _ _ _ _ _ => (pg_name (i := 4) nd rfl (Or.inl rfl))) (fun _ _ _ _ _ => pts_nil) (fun _ _ _ _ _ => (pe_cmpR op_le (pv 2) (pv 4) (nomark _)))) pa_nil)))
      (pss_cons (ps_set (i := 5) nd rfl (Or.inl rfl) (pe_callB (w_all (K := K) rfl rfl) (by rfl) T.b_all (by decide +kernel) (pa_cons (pe_lc (own := [("value", 4)]) rfl nd (w_pilist (K := K) rfl (pe_listVals rfl (by rfl) T.b_list (pv 1) rfl rfl)) (blkOk_by (own := [("value", 4)]) (N := N_Wish_init) (sc := defScope s_Wish_init) (by decide +kernel)) (fun _ _ _ _ _ => (pg_name (i := 4) nd rfl (Or.inl rfl))) (fun _ _ _ _ _ => pts_nil) (fun _ _ _ _ _ => (pe_cmpR op_ge (pv 2) (pv 4) (nomark _)))) pa_nil)))
      (pss_cons (ps_if (PW.pt (pw_and (pt_not (pt_val (pv 3))) (pw_and1 (pt_not (pt_val (pv 5)))))) (pss_one ps_never) pss_nil)
      (pss_cons (ps_fld (pv 0) (pe_dc (own := [("name", 6)]) rfl nd (w_pilist (K := K) rfl (pe_callB (cl_sortD rfl) (by rfl) T.b_sorted (by decide +kernel) (pa_cons (pv 1) pa_nil))) (blkOk_by (own := [("name", 6)]) (N := N_Wish_init) (sc := defScope s_Wish_init) (by decide +kernel)) (fun _ _ _ _ _ => (pg_name (i := 6) nd rfl (Or.inl rfl))) (fun _ _ _ _ _ => pts_nil) (fun _ _ _ _ _ => (pv 6)) (fun _ _ _ _ _ => (pe_dget hu (pv 1) (pv 6) (fun _ _ => rfl)))) rfl)
      (pss_cons (ps_fld (pv 0) (pv 2) rfl)
      (pss_one (ps_fld (pv 0) (pv 3) rfl)))))))), ?_⟩
  refine x_start (σ' := [some _, some _, some _, none, none, none, none]) rfl ?_
  try simp only [cx_n, cx_K, cx_w, cx_P]
  walk_at "rd"
  refine ⟨wd, wl, rfl, ⟨wd, kvs, rfl, .inl hwd, hk⟩, ok.len, ok.all, fun H1 s1 => ?_⟩
  walk_at "rd"
  refine ⟨e, rfl, ok.e0, ok.e1, ?_⟩
  walk_at "rd"
  have y1 := s1 _ _ List.not_mem_nil hy
  have w1 := s1 _ _ List.not_mem_nil hwd
  have wl' : (wl.map (·.2)).length = wl.length := List.length_map _
  have hl := ok.len
  refine x_listVals ?_
  walk_at "rd"
  refine ⟨wd, kvs, rfl, w1, fun v1 hv1 => ?_⟩
  rw [kvs_vals hk]
  have sv1 : SX [] H1 (upd H1 v1 (.lst ((wl.map (·.2)).map V.int))) := SX.new hv1
  refine x_itl (sqL upd_same) fun D hD => ?_
  have nvD : v1 ≠ D := ne_of_none upd_same hD
  have hD1 : H1 D = none := sv1.free hD List.not_mem_nil
  refine lc_it walk_list (fun n A => SX [] H1 A ∧ A v1 = some (.lst ((wl.map (·.2)).map V.int)) ∧ A D = some (.lst ((((wl.map (·.2)).take n).map fun z => decide (e ≤ z)).map V.bl))) ⟨sv1.trans (SX.new hD), by rw [upd_ne nvD]; exact upd_same, upd_same⟩ (fun n A _ h => sqL h.2.1) ?_ ?_
  · rintro n x A0 A hn ⟨sA, vA, dA⟩ ⟨rfl, hx⟩
    obtain ⟨z, hz, rfl⟩ : ∃ z, (wl.map (·.2))[n]? = some z ∧ V.int z = x := by
      rw [List.getElem?_map] at hx
      cases e1 : (wl.map (·.2))[n]? with
      | none => rw [e1] at hx; cases hx
      | some z => rw [e1] at hx; cases hx; exact ⟨z, rfl, rfl⟩
    walk_at "rd"
    refine ⟨rfl, ?_⟩
    walk_at "rd"
    refine ⟨_, dA, lt_size (by rw [List.length_map, List.length_map, List.length_take]; omega), sx_nil_of (S := [D]) ((nil_sx sA).trans (SX.mut List.mem_cons_self)) (by simp [hD1]), by rw [upd_ne nvD]; exact vA, ?_⟩
    rw [upd_same, take_succ_of hz, List.map_append, List.map_append]
    rfl
  rintro A ⟨sA, _, dA⟩
  have e0 : ((wl.map (·.2)).map V.int).length = (wl.map (·.2)).length := List.length_map _
  rw [e0, List.take_length] at dA
  refine ⟨D, _, rfl, sqL dA, ?_⟩
  walk_at "rd"
  have eb : (((wl.map (·.2)).map fun z => decide (e ≤ z)).all id) = decide (∀ z ∈ wl, e ≤ z.2) := by
    rw [Bool.eq_iff_iff, all_flags, decide_eq_true_iff]
    constructor
    · intro h z hz
      exact of_decide_eq_true (h z.2 (List.mem_map.mpr ⟨z, hz, rfl⟩))
    · intro h z hz
      obtain ⟨q, hq, rfl⟩ := List.mem_map.mp hz
      exact decide_eq_true (h q hq)
  rw [eb]
  have s2 := s1.trans sA
  have w2 := s2 _ _ List.not_mem_nil hwd
  refine x_listVals ?_
  walk_at "rd"
  refine ⟨wd, kvs, rfl, w2, fun v2 hv2 => ?_⟩
  rw [kvs_vals hk]
  have sv2 : SX [] A (upd A v2 (.lst ((wl.map (·.2)).map V.int))) := SX.new hv2
  refine x_itl (sqL upd_same) fun D2 hD2 => ?_
  have nvD2 : v2 ≠ D2 := ne_of_none upd_same hD2
  have hD2A : A D2 = none := sv2.free hD2 List.not_mem_nil
  refine lc_it walk_list (fun n B => SX [] A B ∧ B v2 = some (.lst ((wl.map (·.2)).map V.int)) ∧ B D2 = some (.lst ((((wl.map (·.2)).take n).map fun z => decide (z ≤ e)).map V.bl))) ⟨sv2.trans (SX.new hD2), by rw [upd_ne nvD2]; exact upd_same, upd_same⟩ (fun n A _ h => sqL h.2.1) ?_ ?_
  · rintro n x B0 B hn ⟨sB, vB, dB⟩ ⟨rfl, hx⟩
    obtain ⟨z, hz, rfl⟩ : ∃ z, (wl.map (·.2))[n]? = some z ∧ V.int z = x := by
      rw [List.getElem?_map] at hx
      cases e1 : (wl.map (·.2))[n]? with
      | none => rw [e1] at hx; cases hx
      | some z => rw [e1] at hx; cases hx; exact ⟨z, rfl, rfl⟩
    walk_at "rd"
    refine ⟨rfl, ?_⟩
    walk_at "rd"
    refine ⟨_, dB, lt_size (by rw [List.length_map, List.length_map, List.length_take]; omega), sx_nil_of (S := [D2]) ((nil_sx sB).trans (SX.mut List.mem_cons_self)) (by simp [hD2A]), by rw [upd_ne nvD2]; exact vB, ?_⟩
    rw [upd_same, take_succ_of hz, List.map_append, List.map_append]
    rfl
  rintro B ⟨sB, _, dB⟩
  rw [e0, List.take_length] at dB
  refine ⟨D2, _, rfl, sqL dB, ?_⟩
  walk_at "rd"
  have ea : (((wl.map (·.2)).map fun z => decide (z ≤ e)).all id) = decide (∀ z ∈ wl, z.2 ≤ e) := by
    rw [Bool.eq_iff_iff, all_flags, decide_eq_true_iff]
    constructor
    · intro h z hz
      exact of_decide_eq_true (h z.2 (List.mem_map.mpr ⟨z, hz, rfl⟩))
    · intro h z hz
      obtain ⟨q, hq, rfl⟩ := List.mem_map.mp hz
      exact decide_eq_true (h q hq)
  rw [ea]
  have s3 := s2.trans sB
  have w3 := s3 _ _ List.not_mem_nil hwd
  have y3 := s3 _ _ List.not_mem_nil hy
  generalize hcm : decide (∀ z ∈ wl, e ≤ z.2) = cm at k
  cases cm with
  | true =>
    walk_at "rd"
    refine x_dc (x_iList (x_CB (x_cons (x_var (by rfl) (x_nil ?_)))))
    refine x_sortD (.inl w3) hk.keys fun ys p hp hs np => ?_
    have ysl : ys.length = wl.length := by rw [hp.length_eq, List.length_map]
    refine x_itl (sqL upd_same) fun G hG => ?_
    have nGp : p ≠ G := ne_of_none upd_same hG
    have hGB : B G = none := by rw [upd_ne (Ne.symm nGp)] at hG; exact hG
    have nGy : y ≠ G := ne_of_none y3 hGB
    refine dc_walk (walk_listR (R := rS) (Hb := H) (paired_S' ys)) (fun n A => SX [] B A ∧ A p = some (.lst (ys.map V.str)) ∧ ∃ kv, A G = some (.dK kv) ∧ KVs rI A kv (pick wl (ys.take n))) ?_ ?_ ?_ ?_
    · exact ⟨(SX.new np).trans (SX.new hG), by rw [upd_ne nGp]; exact upd_same, [], upd_same, .nil⟩
    · exact fun n A _ h => sqL h.2.1
    · rintro n x A0 A hn ⟨sA, pA, kv, dA, kA⟩ ⟨rfl, s, hs', rfl⟩
      obtain ⟨a, ea⟩ := lookA_some (hp.mem_iff.mp (getMem hs'))
      obtain ⟨v, ev, rfl⟩ := hk.at_ ea
      walk_at "rd"
      refine ⟨rfl, ?_⟩
      walk_at "rd"
      refine x_dg' (.inl (sA _ _ List.not_mem_nil w3)) ev ?_
      have kk : kv.map (·.1) = (ys.take n).map Sum.inr := by rw [kA.keys, pick_keys]
      have kl : kv.length = (ys.take n).length := by simpa using congrArg List.length kk
      refine ⟨kv, Sum.inr s, rfl, dA, lt_size (by rw [kl, List.length_take]; omega), ?_⟩
      rw [putK_fresh _ kk (nodup_take (hp.nodup_iff.mpr ok.nd) hs')]
      refine ⟨sx_nil_of (S := [G]) ((nil_sx sA).trans (SX.mut List.mem_cons_self)) (by simp [hGB]), by rw [upd_ne nGp]; exact pA, _, upd_same, ?_⟩
      rw [pick_at hs', ea]
      exact Paired.app kA (.cons ⟨rfl, rfl⟩ .nil)
    rintro A ⟨sA, pA, kv, dA, kA⟩
    rw [List.take_length] at kA
    walk_at "rd"
    have y4 := sA _ _ List.not_mem_nil y3
    refine x_setF [] y4 T.cl_Wish T.n_Wish_table rfl (by decide) (by decide) ?_
    walk_at "rd"
    refine x_setF ["table"] upd_same T.cl_Wish T.n_Wish_endless rfl (by decide) (by decide +kernel) ?_
    rw [upd_upd]
    walk_at "rd"
    refine x_setF ["table", "endless"] upd_same T.cl_Wish T.n_Wish_coming rfl (by decide) (by decide +kernel) ?_
    rw [upd_upd]
    have sr := pick_srt ok.nd hp hs
    refine k _ (pick wl ys) ((nil_sx (s3.trans sA)).trans (SX.mut List.mem_cons_self)) ⟨⟨dy, G, kv, upd_same, by rw [upd_ne (Ne.symm nGy)]; exact dA, kA⟩, sr.srt⟩ sr
  | false =>
    walk_at "rd"
    have w5 : decide (∀ z ∈ wl, z.2 ≤ e) = true := by
      rcases ok.way with h | h
      · exact absurd h (of_decide_eq_false hcm)
      · exact decide_eq_true h
    rw [w5]
    walk_at "rd"
    refine x_dc (x_iList (x_CB (x_cons (x_var (by rfl) (x_nil ?_)))))
    refine x_sortD (.inl w3) hk.keys fun ys p hp hs np => ?_
    have ysl : ys.length = wl.length := by rw [hp.length_eq, List.length_map]
    refine x_itl (sqL upd_same) fun G hG => ?_
    have nGp : p ≠ G := ne_of_none upd_same hG
    have hGB : B G = none := by rw [upd_ne (Ne.symm nGp)] at hG; exact hG
    have nGy : y ≠ G := ne_of_none y3 hGB
    refine dc_walk (walk_listR (R := rS) (Hb := H) (paired_S' ys)) (fun n A => SX [] B A ∧ A p = some (.lst (ys.map V.str)) ∧ ∃ kv, A G = some (.dK kv) ∧ KVs rI A kv (pick wl (ys.take n))) ?_ ?_ ?_ ?_
    · exact ⟨(SX.new np).trans (SX.new hG), by rw [upd_ne nGp]; exact upd_same, [], upd_same, .nil⟩
    · exact fun n A _ h => sqL h.2.1
    · rintro n x A0 A hn ⟨sA, pA, kv, dA, kA⟩ ⟨rfl, s, hs', rfl⟩
      obtain ⟨a, ea⟩ := lookA_some (hp.mem_iff.mp (getMem hs'))
      obtain ⟨v, ev, rfl⟩ := hk.at_ ea
      walk_at "rd"
      refine ⟨rfl, ?_⟩
      walk_at "rd"
      refine x_dg' (.inl (sA _ _ List.not_mem_nil w3)) ev ?_
      have kk : kv.map (·.1) = (ys.take n).map Sum.inr := by rw [kA.keys, pick_keys]
      have kl : kv.length = (ys.take n).length := by simpa using congrArg List.length kk
      refine ⟨kv, Sum.inr s, rfl, dA, lt_size (by rw [kl, List.length_take]; omega), ?_⟩
      rw [putK_fresh _ kk (nodup_take (hp.nodup_iff.mpr ok.nd) hs')]
      refine ⟨sx_nil_of (S := [G]) ((nil_sx sA).trans (SX.mut List.mem_cons_self)) (by simp [hGB]), by rw [upd_ne nGp]; exact pA, _, upd_same, ?_⟩
      rw [pick_at hs', ea]
      exact Paired.app kA (.cons ⟨rfl, rfl⟩ .nil)
    rintro A ⟨sA, pA, kv, dA, kA⟩
    rw [List.take_length] at kA
    walk_at "rd"
    have y4 := sA _ _ List.not_mem_nil y3
    refine x_setF [] y4 T.cl_Wish T.n_Wish_table rfl (by decide) (by decide) ?_
    walk_at "rd"
    refine x_setF ["table"] upd_same T.cl_Wish T.n_Wish_endless rfl (by decide) (by decide +kernel) ?_
    rw [upd_upd]
    walk_at "rd"
    refine x_setF ["table", "endless"] upd_same T.cl_Wish T.n_Wish_coming rfl (by decide) (by decide +kernel) ?_
    rw [upd_upd]
    have sr := pick_srt ok.nd hp hs
    refine k _ (pick wl ys) ((nil_sx (s3.trans sA)).trans (SX.mut List.mem_cons_self)) ⟨⟨dy, G, kv, upd_same, by rw [upd_ne (Ne.symm nGy)]; exact dA, kA⟩, sr.srt⟩ sr
end
end M

namespace M
open PySem PySem.Spec PyProof.Rows L2
/-! ### deep comparing of lists of flat items -/
def dv : V → PyData
  | .str s => .str s
  | .int i => .int i
  | .bl b => .bool b
  | _ => .none
def okV : V → Bool
  | .str s => PyData.strOk s
  | .int _ | .bl _ | .non => true
  | _ => false
theorem dp_all {K : PySem.W.Frag} {H : Hp} : ∀ {xs : List V}, (∀ x ∈ xs, okV x = true) → DpAll K H xs (xs.map dv)
  | [], _ => .nil
  | x :: xs, h => by
    refine .cons ?_ (dp_all fun y hy => h y (List.mem_cons_of_mem _ hy))
    have := h x List.mem_cons_self
    cases x with
    | str s => exact .str s
    | int i => exact .int i
    | bl b => exact .bl b
    | non => exact .non
    | _ => cases this
theorem lay_all : ∀ {xs : List V}, (∀ x ∈ xs, okV x = true) → PyData.canLayAll0 (xs.map dv) = true ∧ PyData.depthAll (xs.map dv) = 0
  | [], _ => ⟨by simp [PyData.canLayAll0], by simp [PyData.depthAll]⟩
  | x :: xs, h => by
    obtain ⟨a, b⟩ := lay_all fun y hy => h y (List.mem_cons_of_mem _ hy)
    have := h x List.mem_cons_self
    rw [List.map_cons]
    refine ⟨?_, ?_⟩
    · rw [PyData.canLayAll0, a, Bool.and_true]
      cases x <;> first | exact this | rfl | cases this
    · rw [PyData.depthAll, b]
      cases x <;> first | rfl | cases this | simp [dv, PyData.depth]
theorem shaped_flat {xs : List V} (h : ∀ x ∈ xs, okV x = true) : SeqAt.shaped (.list (xs.map dv)) = true := by
  obtain ⟨a, b⟩ := lay_all h
  unfold SeqAt.shaped
  rw [Bool.and_eq_true]
  refine ⟨?_, decide_eq_true ?_⟩
  · rw [PyData.canLay0]
    exact a
  · rw [PyData.depth, b]
    decide
theorem eqv_flat {xs : List V} (h : ∀ x ∈ xs, okV x = true) : PyData.eqv (.list (xs.map dv)) (.list (xs.map dv)) = true := by
  refine SeqAt.eqv_refl _ ?_
  rw [PyData.canLay0]
  exact (lay_all h).1
theorem x_neSame {K : PySem.W.Frag} {H : Hp} {Q : VK} {a b : Addr} {xs : List V} (h1 : SqL K H a xs) (h2 : SqL K H b xs) (ok : ∀ x ∈ xs, okV x = true) (k : Q (.bl false) H) : rNeD K (.ref a) (.ref b) H Q :=
  ⟨_, _, .lst h1 (dp_all ok), .lst h2 (dp_all ok), shaped_flat ok, shaped_flat ok, by rw [eqv_flat ok]; exact k⟩
theorem x_eqSame {K : PySem.W.Frag} {H : Hp} {Q : VK} {a b : Addr} {xs : List V} (h1 : SqL K H a xs) (h2 : SqL K H b xs) (ok : ∀ x ∈ xs, okV x = true) (k : Q (.bl true) H) : rEqD K (.ref a) (.ref b) H Q :=
  ⟨_, _, .lst h1 (dp_all ok), .lst h2 (dp_all ok), shaped_flat ok, shaped_flat ok, by rw [eqv_flat ok]; exact k⟩
theorem nameB_strOk {s : Str} (h : nameB s = true) : PyData.strOk s = true := by
  unfold nameB nameL at h
  simp only [Bool.and_eq_true, List.all_eq_true] at h
  unfold PyData.strOk
  rw [Array.all_eq_true_iff_forall_mem]
  intro c hc
  have := h.2 c (by simpa using hc)
  simp [lowB, digB] at this
  simp
  omega
theorem shaped_flatT {xs : List V} (h : ∀ x ∈ xs, okV x = true) : SeqAt.shaped (.tuple (xs.map dv)) = true := by
  obtain ⟨a, b⟩ := lay_all h
  unfold SeqAt.shaped
  rw [Bool.and_eq_true]
  refine ⟨?_, decide_eq_true ?_⟩
  · rw [PyData.canLay0]
    exact a
  · rw [PyData.depth, b]
    decide
theorem eqv_flatT {xs : List V} (h : ∀ x ∈ xs, okV x = true) : PyData.eqv (.tuple (xs.map dv)) (.tuple (xs.map dv)) = true := by
  refine SeqAt.eqv_refl _ ?_
  rw [PyData.canLay0]
  exact (lay_all h).1
theorem x_neSameT {K : PySem.W.Frag} {H : Hp} {Q : VK} {a b : Addr} {xs : List V} (h1 : SqT K H a xs) (h2 : SqT K H b xs) (ok : ∀ x ∈ xs, okV x = true) (k : Q (.bl false) H) : rNeD K (.ref a) (.ref b) H Q :=
  ⟨_, _, .tup h1 (dp_all ok), .tup h2 (dp_all ok), shaped_flatT ok, shaped_flatT ok, by rw [eqv_flatT ok]; exact k⟩
end M

namespace M
open PySem PySem.Spec PyProof.Rows L2
section
variable {P : Program} {w : World} {K : PySem.W.Frag} {mg : Str → Option Value} {base : Heap}
def sp_Wish_worths (T : Tx K mg) : Sp := fun vs H Q _ => ∃ (y : Addr) (tb : List (Str × Int)) (e : Int) (cm : Bool), vs = [.ref y] ∧ WishAt T H y tb e cm ∧ (tb.map (·.1)).Nodup ∧ tb.length ≤ 1000 ∧
  ∀ q H' kv, H q = none → SX [] H H' → H' q = some (.dK kv) → KVs rI H' kv tb → Q (.ref q) H'
theorem ok_Wish_worths (T : Tx K mg) : FnOk P w K mg base CX0 1 T.Wish_worths.f T.Wish_worths.fd P_Wish_worths (sp_Wish_worths T) := by
  refine T.Wish_worths.F.ok sc_Wish_worths (fun vs H Q E h => ?_) (fun cdv A outer s H vs Q E hr h => ?_)
  · obtain ⟨y, tb, e, cm, rfl, wa, nd1, hlen, k⟩ := h
    rfl
  have hu := hu_of hr
  have nd := sc_Wish_worths.nd
  obtain ⟨y, tb, e, cm, rfl, wa, nd1, hlen, k⟩ := h
  refine ⟨_, (pss_one (ps_ret (pe_lockR (pe_dc (own := [("name", 1)]) rfl nd (pi_keys (w_fld (K := K) rfl (pv 0) rfl)) (blkOk_by (own := [("name", 1)]) (N := N_Wish_worths) (sc := defScope s_Wish_worths) (by decide +kernel)) (fun _ _ _ _ _ => (pg_name (i := 1) nd rfl (Or.inl rfl))) (fun _ _ _ _ _ => pts_nil) (fun _ _ _ _ _ => (pv 1)) (fun _ _ _ _ _ => (pe_dget hu (w_fld (K := K) rfl (pv 0) rfl) (pv 1) (fun _ _ => rfl))))))), ?_⟩
  refine x_start (σ' := [some _, none]) rfl ?_
  try simp only [cx_n, cx_K, cx_w, cx_P]
  obtain ⟨dy, d, kvs, hy, hd, hk⟩ := id wa.ex
  walk_at "rd"
  refine x_lockRE (.inl hd) fun od HL eL ne => ?_
  have nyd : y ≠ d := ne_of hy hd (by intro z; cases z)
  have yL : HL y = some (.ins T.a_Wish dy (wishF d e cm)) := by rw [ne _ nyd]; exact hy
  refine x_dc ?_
  walk_at "rd"
  refine x_getF yL T.cl_Wish T.n_Wish_table wish_table ?_
  refine ⟨d, od, rfl, .inl ⟨kvs, eL, fun D hD => ?_⟩⟩
  have hDd : d ≠ D := ne_of_none eL hD
  have hD0 : H D = none := by rw [← ne D (Ne.symm hDd)]; exact hD
  refine dc_walk (walk_keysR hk) (fun n A => SX [] HL A ∧ ∃ kv, A D = some (.dK kv) ∧ KVs rI A kv (tb.take n)) ⟨SX.new hD, [], upd_same, .nil⟩ (fun n A _ h => h.1 _ _ List.not_mem_nil eL) ?_ ?_
  · rintro n x A0 A hn ⟨sA, kv, dA, kA⟩ ⟨rfl, q, v0, hq, rfl, _⟩
    obtain ⟨v, ev, rv⟩ := hk.in_ nd1 (getMem hq)
    walk_at "rd"
    refine ⟨rfl, ?_⟩
    walk_at "rd"
    refine x_getF (sA _ _ List.not_mem_nil yL) T.cl_Wish T.n_Wish_table wish_table ?_
    walk_at "rd"
    refine x_dg' (.inr ⟨od, sA _ _ List.not_mem_nil eL⟩) ev ?_
    have kk : kv.map (·.1) = ((tb.map (·.1)).take n).map Sum.inr := by rw [kA.keys, List.map_take]
    have kl : kv.length = (tb.take n).length := Paired.length kA
    have hq1 : (tb.map (·.1))[n]? = some q.1 := by rw [List.getElem?_map, hq]; rfl
    refine ⟨kv, Sum.inr q.1, rfl, dA, lt_size (by rw [kl, List.length_take]; omega), ?_⟩
    rw [putK_fresh _ kk (nodup_take nd1 hq1)]
    refine ⟨sx_nil_of (S := [D]) ((nil_sx sA).trans (SX.mut List.mem_cons_self)) (by simp [hD]), _, upd_same, ?_⟩
    rw [take_succ_of hq]
    exact Paired.app kA (.cons ⟨rfl, rv⟩ .nil)
  · rintro A ⟨sA, kv, dA, kA⟩
    rw [List.take_length] at kA
    refine ⟨sA _ _ List.not_mem_nil eL, ?_⟩
    exact k D _ kv hD0 (unlock_sx ne sA) (by rw [put_ne (Ne.symm hDd)]; exact dA) kA
def sp_suited (T : Tx K mg) : Sp := fun vs H Q _ => ∃ (x y : Addr) (hands : Int) (start : Str) (tbl : List (Str × Stand)) (tb : List (Str × Int)) (e : Int) (cm : Bool), vs = [.ref x, .ref y] ∧ WorkAt T H x hands start tbl ∧ WishAt T H y tb e cm ∧ tb.map (·.1) = endsOf tbl ∧ (∀ n ∈ endsOf tbl, nameB n = true) ∧
  ∀ H', SX [] H H' → Q .non H'
theorem ok_suited (T : Tx K mg) : FnOk P w K mg base CX0 1 T.suited.f T.suited.fd P_suited (sp_suited T) := by
  refine T.suited.F.ok sc_suited (fun vs H Q E h => ?_) (fun cdv A outer s H vs Q E hr h => ?_)
  · obtain ⟨x, y, hands, start, tbl, tb, e, cm, rfl, wa, wi, he, hn, k⟩ := h
    rfl
  have hu := hu_of hr
  have nd := sc_suited.nd
  obtain ⟨x, y, hands, start, tbl, tb, e, cm, rfl, wa, wi, he, hn, k⟩ := h
  refine ⟨_, (pss_one (ps_if (pt_cmpR (w_neD (K := K) rfl hr.units) (pe_callTy (cl_tupD rfl) (by rfl) T.b_tuple (by decide +kernel) (pa_cons (w_fld (K := K) rfl (pv 1) rfl) pa_nil)) (w_fld (K := K) rfl (pv 0) rfl) (nomark _)) (pss_one ps_never) pss_nil)), ?_⟩
  refine x_start (σ' := [some _, some _]) rfl ?_
  try simp only [cx_n, cx_K, cx_w, cx_P]
  obtain ⟨dy, d, kvs, hy, hd, hk⟩ := id wi.ex
  obtain ⟨dx, d5, nm, en, hx, _, _, hen⟩ := id wa.ex
  walk_at "rd"
  refine x_getF hy T.cl_Wish T.n_Wish_table wish_table ?_
  walk_at "rd"
  refine ⟨d, kvs, rfl, hd, fun q hq => ?_⟩
  have sq : SX [] H (upd H q (.tup (kvs.map fun kv => kV kv.1))) := SX.new hq
  have ek : (kvs.map fun kv => kV kv.1) = (endsOf tbl).map V.str := by
    have h1 : kvs.map (·.1) = (tb.map (·.1)).map Sum.inr := hk.keys
    have h2 : (kvs.map fun kv => kV kv.1) = (kvs.map (·.1)).map kV := by rw [List.map_map]; rfl
    rw [h2, h1, he, List.map_map]
    rfl
  walk_at "rd"
  refine x_getF (sq _ _ List.not_mem_nil hx) T.cl_Work T.n_Work_ends (look_next (by decide +kernel) (look_next (by decide +kernel) (look_next (by decide +kernel) (look_next (by decide +kernel) look_here)))) ?_
  refine x_neSameT (sqT (by rw [upd_same, ek])) (sq.le0.t hen) (fun v hv => ?_) ?_
  · obtain ⟨n, m, rfl⟩ := List.mem_map.mp hv
    exact nameB_strOk (hn n m)
  walk_at "rd"
  exact k _ sq
def sp_suited_lot (T : Tx K mg) : Sp := fun vs H Q _ => ∃ (x y t : Addr) (hands : Int) (start : Str) (tbl : List (Str × Stand)) (tb : List (Str × Int)) (e : Int) (cm : Bool) (ns : List Int), vs = [.ref x, .ref y, .ref t] ∧ WorkAt T H x hands start tbl ∧ WishAt T H y tb e cm ∧ tb.map (·.1) = endsOf tbl ∧ (∀ n ∈ endsOf tbl, nameB n = true) ∧
  SqT K H t (ns.map V.int) ∧ LotOk hands ns ∧ ∀ H', SX [] H H' → Q .non H'
theorem ok_suited_lot (T : Tx K mg) : FnOk P w K mg base CX0 4 T.suited_lot.f T.suited_lot.fd P_suited_lot (sp_suited_lot T) := by
  refine T.suited_lot.F.ok sc_suited_lot (fun vs H Q E h => ?_) (fun cdv A outer s H vs Q E hr h => ?_)
  · obtain ⟨x, y, t, hands, start, tbl, tb, e, cm, ns, rfl, wa, wi, he, hn, ht, lo, k⟩ := h
    rfl
  have hu := hu_of hr
  have nd := sc_suited_lot.nd
  obtain ⟨x, y, t, hands, start, tbl, tb, e, cm, ns, rfl, wa, wi, he, hn, ht, lo, k⟩ := h
  refine ⟨_, (pss_cons (ps_expr (pe_call (ok_suited T) (hr.mono (by decide)) (by rfl) T.suited.g T.suited.F.kp T.suited.B .nil pass0 (pa_cons (pv 0) (pa_cons (pv 1) pa_nil))))
      (pss_one (ps_expr (pe_call (ok_checked_lot T) (hr.mono (by decide)) (by rfl) T.checked_lot.g T.checked_lot.F.kp T.checked_lot.B .nil pass0 (pa_cons (pv 0) (pa_cons (pv 2) pa_nil)))))), ?_⟩
  refine x_start (σ' := [some _, some _, some _]) rfl ?_
  try simp only [cx_n, cx_K, cx_w, cx_P]
  walk_at "rd"
  refine ⟨x, y, hands, start, tbl, tb, e, cm, rfl, wa, wi, he, hn, fun H1 s1 => ?_⟩
  walk_at "rd"
  refine ⟨x, t, hands, start, tbl, ns, rfl, wa.le s1.le0, s1.le0.t ht, lo, ?_⟩
  walk_at "rd"
  exact k _ s1
end
end M

namespace M
open PySem PySem.Spec PyProof.Rows L2
/-! ### duties -/
def moverIn (ns : List Int) : Stand → Bool
  | .hand h _ => decide (h ∈ ns)
  | _ => false
theorem inV_int {i : Int} : ∀ {ns : List Int}, inV (.int i) (ns.map V.int) = decide (i ∈ ns)
  | [] => by simp [inV]
  | n :: ns => by
    have ih := inV_int (i := i) (ns := ns)
    unfold inV at ih ⊢
    rw [List.map_cons, List.any_cons, ih]
    show ((n == i) || _) = _
    by_cases e : n = i
    · subst e
      simp
    · have : (n == i) = false := by simpa using e
      rw [this, Bool.false_or]
      have : ¬ i = n := fun z => e z.symm
      simp [this]
theorem inV_non : ∀ {ns : List Int}, inV .non (ns.map V.int) = false
  | [] => rfl
  | n :: ns => by
    have ih := inV_non (ns := ns)
    unfold inV at ih ⊢
    rw [List.map_cons, List.any_cons, ih]
    rfl
theorem inV_mover {ns : List Int} (st : Stand) : inV (moverV st) (ns.map V.int) = moverIn ns st := by
  cases st with
  | hand h ms => exact inV_int
  | fin => exact inV_non
  | chance ds => exact inV_non
theorem flat_ints (ns : List Int) : (ns.map V.int).all flatV = true := by
  rw [List.all_map]
  exact List.all_eq_true.mpr fun _ _ => rfl
theorem rows_nodupB {st : Stand} (h : st.nd) : (st.rows.map (·.1)).Nodup := by
  cases st with
  | fin => exact List.nodup_nil
  | hand a b => exact h
  | chance b => show ((b.map _).map _).Nodup; rw [List.map_map]; exact h
/-- drawn into bad by one step -/
def drawnB (ns : List Int) (bad : List Str) (st : Stand) : Bool :=
  if st.rows.length = 0 then false else if moverIn ns st = true then st.tos.all fun t => decide (t ∈ bad) else st.tos.any fun t => decide (t ∈ bad)
section
variable {P : Program} {w : World} {K : PySem.W.Frag} {mg : Str → Option Value} {base : Heap}
def sp_is_below (T : Tx K mg) : Sp := fun vs H Q _ => ∃ (v : Int) (t : Addr) (a b : Int), vs = [.int v, .ref t] ∧ SqT K H t [.int a, .int b] ∧ -99 ≤ v ∧ v ≤ 99 ∧ Q (.bl (decide (v * b < a))) H
theorem ok_is_below (T : Tx K mg) : FnOk P w K mg base CX0 1 T.is_below.f T.is_below.fd P_is_below (sp_is_below T) := by
  refine T.is_below.F.ok sc_is_below (fun vs H Q E h => ?_) (fun cdv A outer s H vs Q E hr h => ?_)
  · obtain ⟨v, t, a, b, rfl, ht, h0, h1, k⟩ := h
    rfl
  have hu := hu_of hr
  have nd := sc_is_below.nd
  obtain ⟨v, t, a, b, rfl, ht, h0, h1, k⟩ := h
  refine ⟨_, (pss_one (ps_ret (pe_cmpR op_lt (pe_op op_mul (pv 0) (pe_ix (w_ixT (K := K) rfl) (pv 1) pe_int (fun _ _ => rfl))) (pe_ix (w_ixT (K := K) rfl) (pv 1) pe_int (fun _ _ => rfl)) (nomark _)))), ?_⟩
  refine x_start (σ' := [some _, some _]) rfl ?_
  try simp only [cx_n, cx_K, cx_w, cx_P]
  walk_at "rd"
  refine x_ixT ht (v := .int b) (atI_nat (j := 1) rfl) ?_
  refine x_I (.inl ⟨by omega, by omega⟩) ?_
  walk_at "rd"
  refine x_ixT ht (v := .int a) (atI_nat (j := 0) rfl) ?_
  walk_at "rd"
  exact k
def sp_is_drawn_in (T : Tx K mg) : Sp := fun vs H Q _ => ∃ (x lt bd : Addr) (s : Str) (hands : Int) (start : Str) (tbl : List (Str × Stand)) (ns : List Int) (st : Stand) (kv : List (Key × V)) (bad : List Str), vs = [.ref x, .ref lt, .str s, .ref bd] ∧ WorkAt T H x hands start tbl ∧ SqT K H lt (ns.map V.int) ∧ lookA tbl s = some st ∧ st.nd ∧ st.size ≤ 100 ∧
  H bd = some (.dK kv) ∧ kv.map (·.1) = bad.map Sum.inr ∧ ∀ H', SX [] H H' → Q (.bl (drawnB ns bad st)) H'
theorem ok_is_drawn_in (T : Tx K mg) : FnOk P w K mg base CX0 3 T.is_drawn_in.f T.is_drawn_in.fd P_is_drawn_in (sp_is_drawn_in T) := by
  refine T.is_drawn_in.F.ok sc_is_drawn_in (fun vs H Q E h => ?_) (fun cdv A outer s H vs Q E hr h => ?_)
  · obtain ⟨x, lt, bd, s, hands, start, tbl, ns, st, kv, bad, rfl, wa, ht, hs, hnd, hsz, hb, hkv, k⟩ := h
    rfl
  have hu := hu_of hr
  have nd := sc_is_drawn_in.nd
  obtain ⟨x, lt, bd, s, hands, start, tbl, ns, st, kv, bad, rfl, wa, ht, hs, hnd, hsz, hb, hkv, k⟩ := h
  refine ⟨_, (pss_cons (ps_set (i := 4) nd rfl (Or.inl rfl) (pe_meth (pv 0) T.cl_Work T.me_Work_steps (ok_Work_steps T) (hr.mono (by decide)) T.Work_steps.B .nil pass0 (pa_cons (pv 2) pa_nil)))
      (pss_cons (ps_if (pt_cmpR op_eq (pe_callB (w_len (K := K) rfl) (by rfl) T.b_len (by decide +kernel) (pa_cons (pv 4) pa_nil)) pe_int (nomark _)) (pss_one (ps_ret pe_bl)) pss_nil)
      (pss_cons (ps_setLc (i := 5) (own := [("step", 6)]) rfl nd rfl rfl (sw_true rfl rfl rfl (by decide +kernel)) (w_pilist (K := K) rfl (pv 4)) (blkOk_by (own := [("step", 6)]) (N := N_is_drawn_in) (sc := defScope s_is_drawn_in) (by decide +kernel)) (fun _ _ _ _ _ => (pg_name (i := 6) nd rfl (Or.inl rfl))) (fun _ _ _ _ _ => pts_nil) (fun _ _ _ _ _ => (pe_cmp (pc_din hu (pe_meth (pv 0) T.cl_Work T.me_Work_to (ok_Work_to T) (hr.mono (by decide)) T.Work_to.B .nil pass0 (pa_cons (pv 2) (pa_cons (pv 6) pa_nil))) (pv 3)) rfl)))
      (pss_cons (ps_if (pt_cmpR (w_in (K := K) rfl) (pe_meth (pv 0) T.cl_Work T.me_Work_mover (ok_Work_mover T) (hr.mono (by decide)) T.Work_mover.B .nil pass0 (pa_cons (pv 2) pa_nil)) (pv 1) (by rfl)) (pss_one (ps_ret (pe_callB (w_all (K := K) rfl rfl) (by rfl) T.b_all (by decide +kernel) (pa_cons (pv 5) pa_nil)))) pss_nil)
      (pss_one (ps_ret (pe_callB (w_any (K := K) rfl rfl) (by rfl) T.b_any (by decide +kernel) (pa_cons (pv 5) pa_nil)))))))), ?_⟩
  refine x_start (σ' := [some _, some _, some _, some _, none, none, none]) rfl ?_
  try simp only [cx_n, cx_K, cx_w, cx_P]
  obtain ⟨dx, d, nm, en, hx, _⟩ := id wa.ex
  walk_at "rd"
  refine x_meth ?_
  walk_at "rd"
  refine x_me hx (work_none (by decide +kernel)) ?_
  walk_at "rd"
  refine ⟨x, hands, start, s, tbl, st, rfl, wa, hs, fun p H1 ys hp s1 ep pp sy => ?_⟩
  walk_at "rd"
  refine x_lenL' (sqL ep) ?_
  walk_at "rd"
  have rl : st.rows.length = st.size := by have := congrArg List.length (rows_tos st); rw [List.length_map, tos_len] at this; exact this
  have yl : ys.length = st.rows.length := by rw [pp.length_eq, List.length_map]
  rw [List.length_map, yl]
  refine x_cases (fun c => ?_) (fun c => ?_)
  · walk_at "rd"
    have : st.rows.length = 0 := by
      have := of_decide_eq_true c
      injection this with z
      omega
    have e : drawnB ns bad st = false := by
      unfold drawnB
      rw [if_pos this]
    rw [← e]
    exact k _ s1
  · have ne0 : ¬ st.rows.length = 0 := fun z => by
      rw [z] at c
      exact absurd c (by decide)
    walk_at "rd"
    refine x_itl (sqL ep) fun D hD => ?_
    have npD : p ≠ D := ne_of_none ep hD
    refine lc_it (walk_listR (R := rS) (Hb := H) (paired_S' ys)) (fun n A => SX [] H1 A ∧ A D = some (.lst (((ys.take n).map fun z => decide ((lookA st.rows z).getD default ∈ bad)).map V.bl))) ⟨SX.new hD, upd_same⟩ (fun n A _ h => sqL (h.1 _ _ List.not_mem_nil ep)) ?_ ?_
    · rintro n y A0 A hn ⟨sA, dA⟩ ⟨rfl, z, hz, rfl⟩
      obtain ⟨to, eto⟩ := lookA_some (pp.mem_iff.mp (getMem hz))
      have sHA := s1.trans sA
      have waA := wa.le sHA.le0
      obtain ⟨dx2, d2, nm2, en2, hx2, _⟩ := id waA.ex
      walk_at "rd"
      refine ⟨rfl, ?_⟩
      walk_at "rd"
      refine x_meth ?_
      walk_at "rd"
      refine x_me hx2 (work_none (by decide +kernel)) ?_
      walk_at "rd"
      refine ⟨x, hands, start, s, z, to, tbl, st, rfl, waA, hs, eto, ?_⟩
      walk_at "rd"
      refine x_din' (.inl (sHA _ _ List.not_mem_nil hb)) ?_
      rw [keys_val hkv]
      refine ⟨_, dA, lt_size (by rw [List.length_map, List.length_map, List.length_take]; omega), sx_nil_of (S := [D]) ((nil_sx sA).trans (SX.mut List.mem_cons_self)) (by simp [hD]), ?_⟩
      rw [upd_same, take_succ_of hz, List.map_append, List.map_append]
      show some (HO.lst (_ ++ [V.bl (decide (to ∈ bad))])) = some (HO.lst (_ ++ [V.bl (decide ((lookA st.rows z).getD default ∈ bad))]))
      rw [eto]
      rfl
    rintro A ⟨sA, dA⟩
    rw [List.take_length] at dA
    have sHA := s1.trans sA
    have waA := wa.le sHA.le0
    obtain ⟨dx2, d2, nm2, en2, hx2, _⟩ := id waA.ex
    have htA := sHA.le0.t ht
    have mem : ∀ b : Bool, (∃ z ∈ ys, decide ((lookA st.rows z).getD default ∈ bad) = b) ↔ ∃ t ∈ st.tos, decide (t ∈ bad) = b := fun b => by
      rw [← rows_tos]
      constructor
      · rintro ⟨z, hz, e⟩
        obtain ⟨to, eto⟩ := lookA_some (pp.mem_iff.mp hz)
        rw [eto] at e
        exact ⟨to, List.mem_map.mpr ⟨(z, to), lookA_mem eto, rfl⟩, e⟩
      · rintro ⟨t, ht, e⟩
        obtain ⟨q, hq, rfl⟩ := List.mem_map.mp ht
        refine ⟨q.1, pp.mem_iff.mpr (List.mem_map.mpr ⟨q, hq, rfl⟩), ?_⟩
        rw [lookA_nodup (rows_nodupB hnd) hq]
        exact e
    walk_at "rd"
    refine x_meth ?_
    walk_at "rd"
    refine x_me hx2 (work_none (by decide +kernel)) ?_
    walk_at "rd"
    refine ⟨x, hands, start, s, tbl, st, rfl, waA, hs, ?_⟩
    walk_at "rd"
    refine ⟨lt, _, rfl, .inr htA, by cases st <;> rfl, flat_ints ns, ?_⟩
    rw [inV_mover]
    walk_at "rd"
    refine x_cases (fun c2 => ?_) (fun c2 => ?_)
    · have c2 : moverIn ns st = true := by simpa using c2
      walk_at "rd"
      refine ⟨D, _, rfl, sqL dA, ?_⟩
      have e : ((ys.map fun z => decide ((lookA st.rows z).getD default ∈ bad)).all id) = drawnB ns bad st := by
        unfold drawnB
        rw [if_neg ne0, if_pos c2, ← Bool.not_inj_iff, Bool.eq_iff_iff, Bool.not_eq_true', Bool.not_eq_true', List.all_eq_false, List.all_eq_false]
        have := mem false
        simpa using this
      rw [e]
      exact k _ sHA
    · have c2 : moverIn ns st = false := by simpa using c2
      walk_at "rd"
      refine ⟨D, _, rfl, sqL dA, ?_⟩
      have e : ((ys.map fun z => decide ((lookA st.rows z).getD default ∈ bad)).any id) = drawnB ns bad st := by
        unfold drawnB
        rw [if_neg ne0, if_neg (by rw [c2]; exact Bool.false_ne_true), Bool.eq_iff_iff, List.any_eq_true, List.any_eq_true]
        have := mem true
        simpa using this
      rw [e]
      exact k _ sHA
end
end M

namespace M
open PySem PySem.Spec PyProof.Rows L2
/-- where what the lot would keep off can't be kept off -/
inductive BadP (bel : Str → Prop) (ns : List Int) (sts : List (Str × Stand)) : Str → Prop
  | base {n : Str} : lookA sts n = some .fin → bel n → BadP bel ns sts n
  | all {n : Str} {st : Stand} : lookA sts n = some st → moverIn ns st = true → st.rows.length ≠ 0 → (∀ t ∈ st.tos, BadP bel ns sts t) → BadP bel ns sts n
  | any {n t : Str} {st : Stand} : lookA sts n = some st → moverIn ns st = false → t ∈ st.tos → BadP bel ns sts t → BadP bel ns sts n
theorem rows_tos_len (st : Stand) : st.rows.length = st.tos.length := by rw [← rows_tos, List.length_map]
theorem badP_drawn {bel : Str → Prop} {ns : List Int} {sts : List (Str × Stand)} {bad : List Str} {n : Str} {st : Stand} (h : ∀ t ∈ bad, BadP bel ns sts t) (e : lookA sts n = some st) (d : drawnB ns bad st = true) : BadP bel ns sts n := by
  unfold drawnB at d
  split at d
  · cases d
  · rename_i h0
    split at d
    · rename_i m
      rw [List.all_eq_true] at d
      exact .all e m h0 fun t ht => h t (of_decide_eq_true (d t ht))
    · rename_i m
      rw [List.any_eq_true] at d
      obtain ⟨t, ht, q⟩ := d
      exact .any e (by simpa using m) ht (h t (of_decide_eq_true q))
theorem badP_in {bel : Str → Prop} {ns : List Int} {sts : List (Str × Stand)} {bad : List Str} (base : ∀ n, lookA sts n = some .fin → bel n → n ∈ bad) (cl : ∀ n st, lookA sts n = some st → drawnB ns bad st = true → n ∈ bad) {n : Str} (h : BadP bel ns sts n) : n ∈ bad := by
  induction h with
  | base e b => exact base _ e b
  | all e m h0 _ ih =>
    refine cl _ _ e ?_
    unfold drawnB
    rw [if_neg h0, if_pos m, List.all_eq_true]
    exact fun t ht => decide_eq_true (ih t ht)
  | @any n t st e m ht _ ih =>
    refine cl _ _ e ?_
    unfold drawnB
    have h0 : ¬ st.rows.length = 0 := fun z => by
      rw [rows_tos_len] at z
      rw [List.eq_nil_of_length_eq_zero z] at ht
      cases ht
    rw [if_neg h0, if_neg (by rw [m]; exact Bool.false_ne_true), List.any_eq_true]
    exact ⟨_, ht, decide_eq_true ih⟩
/-- a table's own stands lead on as the drawn ones -/
theorem badP_tbl {bel : Str → Prop} {ns : List Int} {sts tbl : List (Str × Stand)} (h : ∀ n st, lookA sts n = some st → ∃ st', lookA tbl n = some st' ∧ SrtStand st st') {n : Str} (b : BadP bel ns sts n) : BadP bel ns tbl n := by
  induction b with
  | base e b =>
    obtain ⟨st', e', ss⟩ := h _ _ e
    cases st' with
    | fin => exact .base e' b
    | hand a c => exact ss.elim
    | chance c => exact ss.elim
  | @all n st e m h0 _ ih =>
    obtain ⟨st', e', ss⟩ := h _ _ e
    have mv : moverIn ns st' = moverIn ns st := by
      cases st <;> cases st' <;> first | exact ss.elim | rfl | (have := ss.1; subst this; rfl)
    refine .all e' (by rw [mv]; exact m) (by rw [rows_tos_len, (SrtStand.tos ss).length_eq, ← rows_tos_len]; exact h0) fun t ht => ih t ((SrtStand.tos ss).mem_iff.mp ht)
  | @any n t st e m ht _ ih =>
    obtain ⟨st', e', ss⟩ := h _ _ e
    have mv : moverIn ns st' = moverIn ns st := by
      cases st <;> cases st' <;> first | exact ss.elim | rfl | (have := ss.1; subst this; rfl)
    exact .any e' (by rw [mv]; exact m) ((SrtStand.tos ss).mem_iff.mpr ht) ih
end M

namespace M
open PySem PySem.Spec PyProof.Rows L2
/-- an end worth less than the level -/
def belowP (tb : List (Str × Int)) (a b : Int) (n : Str) : Prop := ∃ v, lookA tb n = some v ∧ v * b < a
theorem key_of' {α : Type} {l : List (Str × α)} {s : Str} {a : α} (h : lookA l s = some a) : s ∈ l.map (·.1) := List.mem_map.mpr ⟨(s, a), lookA_mem h, rfl⟩
section
variable {P : Program} {w : World} {K : PySem.W.Frag} {mg : Str → Option Value} {base : Heap}
theorem x_prop {C : Addr} {sp : Sp} {dvs : List V} {E : XK} {ta : TE} {σ : L2.St} {H : Hp} {Q : VK} (k : ta σ H fun x H1 => ∃ a dx fs, x = .ref a ∧ H1 a = some (.ins C dx fs) ∧ sp (.ref a :: dvs) H1 Q E) : tProp C sp dvs E ta σ H Q := k
def sp_bad_stands (T : Tx K mg) : Sp := fun vs H Q _ => ∃ (x y lt lv : Addr) (hands : Int) (start : Str) (tbl : List (Str × Stand)) (tb : List (Str × Int)) (e : Int) (cm : Bool) (ns : List Int) (a b : Int), vs = [.ref x, .ref y, .ref lt, .ref lv] ∧ WorkAt T H x hands start tbl ∧ WishAt T H y tb e cm ∧ SqT K H lt (ns.map V.int) ∧ SqT K H lv [.int a, .int b] ∧
  (tbl.map (·.1)).Nodup ∧ tbl.length ≤ 100 ∧ (∀ q ∈ tbl, q.2.nd ∧ q.2.size ≤ 4) ∧ tb.map (·.1) = endsOf tbl ∧ (∀ q ∈ tb, -99 ≤ q.2 ∧ q.2 ≤ 99) ∧
  ∀ (q : Addr) (H' : Hp) (kv : List (Key × V)) (bad : List Str), H q = none → SX [] H H' → H' q = some (.dK kv) → kv.map (·.1) = bad.map Sum.inr → bad.Nodup → (∀ n ∈ bad, n ∈ tbl.map (·.1)) → (∀ n, n ∈ bad ↔ BadP (belowP tb a b) ns tbl n) → Q (.ref q) H'
theorem ok_bad_stands (T : Tx K mg) : FnOk P w K mg base CX0 4 T.bad_stands.f T.bad_stands.fd P_bad_stands (sp_bad_stands T) := by
  refine T.bad_stands.F.ok sc_bad_stands (fun vs H Q E h => ?_) (fun cdv A outer s H vs Q E hr h => ?_)
  · obtain ⟨x, y, lt, lv, hands, start, tbl, tb, e, cm, ns, a, b, rfl, wa, wi, hlt, hlv, hnd, hlen, hall, hke, hbd, k⟩ := h
    rfl
  have hu := hu_of hr
  have nd := sc_bad_stands.nd
  obtain ⟨x, y, lt, lv, hands, start, tbl, tb, e, cm, ns, a, b, rfl, wa, wi, hlt, hlv, hnd, hlen, hall, hke, hbd, k⟩ := h
  refine ⟨_, (pss_cons (ps_set (i := 4) nd rfl (Or.inr rfl) (pe_prop (pv 1) T.cl_Wish T.pr_Wish_worths (ok_Wish_worths T) (hr.mono (by decide)) T.Wish_worths.B .nil pass0 rfl))
      (pss_cons (ps_setDc (i := 5) (own := [("stand", 6)]) rfl nd rfl rfl (sw_dc rfl rfl rfl (by decide +kernel)) (w_pitup (K := K) rfl (w_fld (K := K) rfl (pv 0) rfl)) (blkOk_by (own := [("stand", 6)]) (N := N_bad_stands) (sc := defScope s_bad_stands) (by decide +kernel)) (fun _ _ _ _ _ => (pg_name (i := 6) nd rfl (Or.inl rfl))) (fun _ _ _ _ _ => pts_one (pt_val (pe_call (ok_is_below T) (hr.mono (by decide)) (by rfl) T.is_below.g T.is_below.F.kp T.is_below.B .nil pass0 (pa_cons (pe_dget hu (pv 4) (pv 6) (fun _ _ => rfl)) (pa_cons (pv 3) pa_nil))))) (fun _ _ _ _ _ => (pv 6)) (fun _ _ _ _ _ => pe_bl))
      (pss_cons (ps_set (i := 7) nd rfl (Or.inl rfl) pe_bl)
      (pss_cons (ps_while PassesOwn.never (pt_val (pv 7)) (pss_cons (ps_set (i := 7) nd rfl (Or.inl rfl) pe_bl)
      (pss_one (ps_for PassesOwn.never rfl (w_pitup (K := K) rfl (w_fld (K := K) rfl (pv 0) rfl)) (pg_name (i := 6) nd rfl (Or.inl rfl)) (pss_one (ps_if (PW.pt (pw_and (pt_cmp (pc_dnotin hu (pv 6) (pv 5))) (pw_and1 (pt_val (pe_call (ok_is_drawn_in T) (hr.mono (by decide)) (by rfl) T.is_drawn_in.g T.is_drawn_in.F.kp T.is_drawn_in.B .nil pass0 (pa_cons (pv 0) (pa_cons (pv 2) (pa_cons (pv 6) (pa_cons (pv 5) pa_nil))))))))) (pss_cons (ps_dput hu (pv 5) (pv 6) pe_bl rfl)
      (pss_one (ps_set (i := 7) nd rfl (Or.inl rfl) pe_bl))) pss_nil))))))
      (pss_one (ps_ret (pv 5))))))), ?_⟩
  refine x_start (σ' := [some _, some _, some _, some _, none, none, none, none]) rfl ?_
  try simp only [cx_n, cx_K, cx_w, cx_P]
  obtain ⟨dy, d, kvs, hy, hd, hk⟩ := id wi.ex
  obtain ⟨dx, d5, nm, en, hx, _, hnm, hen⟩ := id wa.ex
  have ndE : (endsOf tbl).Nodup := List.Nodup.sublist (List.filter_sublist.map _) hnd
  have el := endsOf_len tbl
  have tbl1 : tb.length = (endsOf tbl).length := by rw [← hke, List.length_map]
  walk_at "rd"
  refine x_prop ?_
  walk_at "rd"
  refine ⟨y, dy, _, rfl, hy, y, tb, e, cm, rfl, wi, by rw [hke]; exact ndE, by omega, fun wd H1 kw hwd s1 ew kwk => ?_⟩
  walk_at "rd"
  have wa1 := wa.le s1.le0
  have x1 := s1 _ _ List.not_mem_nil hx
  refine x_dc ?_
  walk_at "rd"
  refine x_getF x1 T.cl_Work T.n_Work_ends (look_next (by decide +kernel) (look_next (by decide +kernel) (look_next (by decide +kernel) (look_next (by decide +kernel) look_here)))) ?_
  refine ⟨en, rfl, ⟨_, s1.le0.t hen⟩, fun D hD => ?_⟩
  have nwD : wd ≠ D := ne_of_none ew hD
  have ndB : (tb.map (·.1)).Nodup := by rw [hke]; exact ndE
  refine dc_walk (walk_tupR (R := rS) (Hb := H) (paired_S' (endsOf tbl))) (fun n A => SX [] H1 A ∧ ∃ (kv : List (Key × V)) (bad : List Str), A D = some (.dK kv) ∧ kv.map (·.1) = bad.map Sum.inr ∧ bad = ((endsOf tbl).take n).filter (fun m => match lookA tb m with | some v => decide (v * b < a) | none => false))
    ⟨SX.new hD, [], [], upd_same, rfl, rfl⟩ (fun n A _ h => (s1.trans h.1).le0.t hen) ?_ ?_
  · rintro n z A0 A hn ⟨sA, kv, bad, dA, ek, eb⟩ ⟨rfl, m, hm, rfl⟩
    have mk : m ∈ tb.map (·.1) := by rw [hke]; exact getMem hm
    obtain ⟨v, ev⟩ := lookA_some mk
    obtain ⟨vv, e1, rfl⟩ := kwk.at_ ev
    obtain ⟨b0, b1⟩ := hbd _ (lookA_mem ev)
    walk_at "rd"
    refine ⟨rfl, ?_⟩
    walk_at "rd"
    refine x_dg' (.inl (sA _ _ List.not_mem_nil ew)) e1 ?_
    walk_at "rd"
    refine ⟨v, lv, a, b, rfl, (s1.trans sA).le0.t hlv, b0, b1, ?_⟩
    have stp : ((endsOf tbl).take (n + 1)).filter (fun m => match lookA tb m with | some v => decide (v * b < a) | none => false) = bad ++ if v * b < a then [m] else [] := by
      rw [take_succ_of hm, List.filter_append, ← eb, List.filter_cons, ev]
      by_cases c : v * b < a <;> simp [c]
    have bl : bad.length ≤ 100 := by
      rw [eb]
      exact Nat.le_trans (List.length_filter_le _ _) (by rw [List.length_take]; omega)
    have kl : kv.length = bad.length := by simpa using congrArg List.length ek
    have fr : m ∉ bad := by
      rw [eb]
      exact fun h => nodup_take ndE hm (List.mem_filter.mp h).1
    walk_at "rd"
    refine x_cases (fun c => ?_) (fun c => ?_)
    · have c : v * b < a := of_decide_eq_true c
      walk_at "rd"
      refine ⟨kv, Sum.inr m, rfl, dA, lt_size (by omega), ?_⟩
      rw [putK_fresh _ ek fr]
      exact ⟨sx_nil_of (S := [D]) ((nil_sx sA).trans (SX.mut List.mem_cons_self)) (by simp [hD]), _, bad ++ [m], upd_same, by rw [List.map_append, ek, List.map_append]; rfl, by rw [stp, if_pos c]⟩
    · have c : ¬ v * b < a := of_decide_eq_false c
      exact ⟨sA, kv, bad, dA, ek, by rw [stp, if_neg c, List.append_nil]⟩
  rintro A ⟨sA, kv, bad, dA, ek, eb⟩
  rw [List.take_length] at eb
  walk_at "rd"
  have s2 := s1.trans sA
  have hD0 : H D = none := s1.free hD List.not_mem_nil
  have bel : ∀ n, n ∈ bad ↔ lookA tbl n = some .fin ∧ belowP tb a b n := fun n => by
    rw [eb, List.mem_filter, endsOf_eq hnd, List.mem_filter]
    constructor
    · rintro ⟨⟨_, h1⟩, h2⟩
      refine ⟨?_, ?_⟩
      · cases e0 : lookA tbl n with
        | none => rw [e0] at h1; cases h1
        | some st => rw [e0] at h1; cases st <;> first | rfl | cases h1
      · cases e0 : lookA tb n with
        | none => rw [e0] at h2; cases h2
        | some v => rw [e0] at h2; exact ⟨v, e0, of_decide_eq_true h2⟩
    · rintro ⟨h1, v, h2, h3⟩
      exact ⟨⟨key_of' h1, by rw [h1]; rfl⟩, by rw [h2]; exact decide_eq_true h3⟩
  have bnd : bad.Nodup := by rw [eb]; exact List.Nodup.sublist List.filter_sublist ndE
  have keyE : ∀ n ∈ bad, n ∈ tbl.map (·.1) := fun n h => key_of' ((bel n).mp h).1
  refine x_while (fun σ B => ∃ (kv : List (Key × V)) (bad : List Str) (g : Bool) (c : Option V), SX [] H1 B ∧ B D = some (.dK kv) ∧ kv.map (·.1) = bad.map Sum.inr ∧ bad.Nodup ∧ (∀ n ∈ bad, n ∈ tbl.map (·.1)) ∧ (∀ n ∈ bad, BadP (belowP tb a b) ns tbl n) ∧
      (∀ n, lookA tbl n = some .fin → belowP tb a b n → n ∈ bad) ∧ (g = false → ∀ n st, lookA tbl n = some st → drawnB ns bad st = true → n ∈ bad) ∧
      σ = [some (.ref x), some (.ref y), some (.ref lt), some (.ref lv), some (.ref wd), some (.ref D), c, some (.bl g)])
    (fun σ B => match σ with | [_, _, _, _, _, some (.ref d), _, some (.bl true)] => (match B d with | some (.dK l) => 102 - l.length | _ => 0) | _ => 0)
    ⟨kv, bad, true, none, sA, dA, ek, bnd, keyE, fun n h => .base ((bel n).mp h).1 ((bel n).mp h).2, fun n h1 h2 => (bel n).mpr ⟨h1, h2⟩, fun h => absurd h (by decide), rfl⟩ ?_ ?_
  · rintro σ B ⟨kv, bad, g, c, sB, dB, ek, bnd, kB, pB, bB, cB, rfl⟩
    have sHB := s1.trans sB
    have waB := wa.le sHB.le0
    walk_at "rd"
    cases g with
    | false =>
      walk_at "rd"
      exact k D B kv bad hD0 sHB dB ek bnd kB fun n => ⟨pB n, badP_in bB (cB rfl)⟩
    | true =>
      walk_at "rd"
      refine x_getF (sHB _ _ List.not_mem_nil hx) T.cl_Work T.n_Work_names (look_next (by decide +kernel) (look_next (by decide +kernel) (look_next (by decide +kernel) look_here))) ?_
      refine ⟨nm, rfl, ⟨_, sHB.le0.t hnm⟩, ?_⟩
      refine for_it (walk_tupR (R := rS) (Hb := H) (paired_S' (tbl.map (·.1)))) (fun i σ A2 => ∃ (kv2 : List (Key × V)) (bad2 : List Str) (g2 : Bool) (c : Option V), SX [] H1 A2 ∧ A2 D = some (.dK kv2) ∧ kv2.map (·.1) = bad2.map Sum.inr ∧ bad2.Nodup ∧ (∀ n ∈ bad2, n ∈ tbl.map (·.1)) ∧
          (∀ n ∈ bad2, BadP (belowP tb a b) ns tbl n) ∧ (∀ n ∈ bad, n ∈ bad2) ∧ (g2 = true → bad.length < bad2.length) ∧ (g2 = false → bad2 = bad ∧ ∀ n ∈ (tbl.map (·.1)).take i, ∀ st, lookA tbl n = some st → drawnB ns bad st = true → n ∈ bad) ∧
          σ = [some (.ref x), some (.ref y), some (.ref lt), some (.ref lv), some (.ref wd), some (.ref D), c, some (.bl g2)])
        ⟨kv, bad, false, c, sB, dB, ek, bnd, kB, pB, fun _ h => h, fun h => absurd h (by decide), fun _ => ⟨rfl, fun _ h => nomatch h⟩, rfl⟩ (fun i σ A2 _ h => by obtain ⟨_, _, _, _, s, _⟩ := h; exact (s1.trans s).le0.t hnm) ?_ ?_
      · rintro i z σ A0 A2 hi ⟨kv2, bad2, g2, c2, sA2, dA2, ek2, nd2, kB2, pB2, sub, g2t, g2f, rfl⟩ ⟨rfl, n, hn, rfl⟩
        have sH2 := s1.trans sA2
        obtain ⟨st, est⟩ := lookA_some (getMem hn)
        obtain ⟨st1, st4⟩ := hall _ (lookA_mem est)
        have next : ∀ m ∈ (tbl.map (·.1)).take (i + 1), m ∈ (tbl.map (·.1)).take i ∨ m = n := fun m hm => by
          rw [take_succ_of hn] at hm
          rcases List.mem_append.mp hm with h | h
          · exact .inl h
          · exact .inr (List.mem_singleton.mp h)
        have kl2 : kv2.length = bad2.length := by simpa using congrArg List.length ek2
        have bl2 : bad2.length ≤ 100 := by
          have := nodup_sub nd2 kB2
          rw [List.length_map] at this
          omega
        walk_at "rd"
        refine x_dni' (.inl dA2) ?_
        rw [keys_val ek2]
        walk_at "rd"
        refine x_cases (fun c3 => ?_) (fun c3 => ?_)
        · have nb : n ∉ bad2 := by simpa using c3
          walk_at "rd"
          refine ⟨x, lt, D, n, hands, start, tbl, ns, st, kv2, bad2, rfl, wa.le sH2.le0, sH2.le0.t hlt, est, st1, Nat.le_trans st4 (by decide), dA2, ek2, fun A3 s3 => ?_⟩
          walk_at "rd"
          have dA3 := s3 _ _ List.not_mem_nil dA2
          refine x_cases (fun c4 => ?_) (fun c4 => ?_)
          · walk_at "rd"
            refine ⟨D, _, rfl, DPut.k (k := Sum.inr n) dA3 (lt_size (by omega)), ?_⟩
            walk_at "rd"
            rw [putK_fresh _ ek2 nb]
            refine ⟨_, bad2 ++ [n], true, _, sx_nil_of (S := [D]) ((nil_sx (sA2.trans s3)).trans (SX.mut List.mem_cons_self)) (by simp [hD]), upd_same, by rw [List.map_append, ek2, List.map_append]; rfl, nd_snoc nd2 nb, fun m hm => ?_, fun m hm => ?_, fun m hm => List.mem_append_left _ (sub m hm), fun _ => ?_, fun h => absurd h (by decide), rfl⟩
            · rcases List.mem_append.mp hm with h | h
              · exact kB2 m h
              · cases List.mem_singleton.mp h
                exact getMem hn
            · rcases List.mem_append.mp hm with h | h
              · exact pB2 m h
              · cases List.mem_singleton.mp h
                exact badP_drawn pB2 est c4
            · rw [List.length_append]
              have := nodup_sub bnd sub
              exact Nat.lt_succ_of_le this
          · walk_at "rd"
            refine ⟨kv2, bad2, g2, _, sA2.trans s3, dA3, ek2, nd2, kB2, pB2, sub, g2t, fun h => ⟨(g2f h).1, fun m hm st' e' d' => ?_⟩, rfl⟩
            rcases next m hm with h' | rfl
            · exact (g2f h).2 m h' st' e' d'
            · rw [est] at e'
              cases e'
              rw [(g2f h).1, d'] at c4
              cases c4
        · have nb : n ∈ bad2 := by simpa using c3
          walk_at "rd"
          refine ⟨kv2, bad2, g2, _, sA2, dA2, ek2, nd2, kB2, pB2, sub, g2t, fun h => ⟨(g2f h).1, fun m hm st' e' d' => ?_⟩, rfl⟩
          rcases next m hm with h' | rfl
          · exact (g2f h).2 m h' st' e' d'
          · rw [← (g2f h).1]
            exact nb
      · rintro σ A2 ⟨kv2, bad2, g2, c2, sA2, dA2, ek2, nd2, kB2, pB2, sub, g2t, g2f, rfl⟩
        refine ⟨⟨kv2, bad2, g2, c2, sA2, dA2, ek2, nd2, kB2, pB2, fun n h1 h2 => sub n (bB n h1 h2), fun h n st e d => ?_, rfl⟩, ?_⟩
        · rw [(g2f h).1] at d ⊢
          exact (g2f h).2 n (by rw [List.take_length]; exact key_of' e) st e d
        · have kl : kv.length = bad.length := by simpa using congrArg List.length ek
          have kl2 : kv2.length = bad2.length := by simpa using congrArg List.length ek2
          have b1 := nodup_sub bnd kB
          rw [List.length_map] at b1
          cases g2 with
          | true =>
            have := g2t rfl
            show (match A2 D with | some (.dK l) => 102 - l.length | _ => 0) < (match B D with | some (.dK l) => 102 - l.length | _ => 0)
            rw [dA2, dB]
            show 102 - kv2.length < 102 - kv.length
            omega
          | false =>
            show 0 < (match B D with | some (.dK l) => 102 - l.length | _ => 0)
            rw [dB]
            show 0 < 102 - kv.length
            omega
  · rintro σ A Q1 Q2 hm ⟨v, hv, c, hc, q⟩
    exact ⟨v, hv, c, hc, hm _ _ q⟩
end
end M

namespace M
open PySem PySem.Spec PyProof.Rows L2
/-- what is known of a work's table -/
structure TbOk (start : Str) (tbl : List (Str × Stand)) : Prop where
  nd : (tbl.map (·.1)).Nodup
  len : tbl.length ≤ 100
  all : ∀ q ∈ tbl, q.2.nd ∧ q.2.size ≤ 4 ∧ (∀ t ∈ q.2.tos, t ∈ tbl.map (·.1)) ∧ (isEnd q.2 = false → 1 ≤ q.2.size)
  nm : ∀ n ∈ tbl.map (·.1), nameB n = true
  st : start ∈ tbl.map (·.1)
  srt : sortedS (tbl.map (·.1)) = true
theorem TbOk.of {hands : Int} {start : Str} {sts tbl : List (Str × Stand)} (o : WorkOk hands start sts) (t : Tbl sts tbl) : TbOk start tbl := by
  have C := o.closed
  have km : ∀ n, n ∈ tbl.map (·.1) ↔ n ∈ sts.map (·.1) := fun n => t.perm.mem_iff
  refine ⟨t.perm.nodup_iff.mpr o.nd, ?_, fun q hq => ?_, fun n hn => ?_, (km _).mpr o.st, t.srt⟩
  · have h1 := t.perm.length_eq
    rw [List.length_map, List.length_map] at h1
    have := o.len.2
    omega
  · obtain ⟨st, e, s⟩ := t.all q hq
    obtain ⟨c1, c2, c3⟩ := C.all _ (lookA_mem e)
    refine ⟨s.nd c1, by rw [s.size]; exact c2, fun x hx => (km x).mpr (c3 x ((SrtStand.tos s).mem_iff.mp hx)), fun hm => ?_⟩
    have so := (o.all _ (lookA_mem e)).2
    generalize q.2 = b at s hm
    rw [s.size]
    cases st with
    | fin => cases b <;> first | exact s.elim | (exact absurd hm (by decide))
    | hand a c => exact so.2.2.1
    | chance c => exact so.1
  · obtain ⟨z, hz, rfl⟩ := List.mem_map.mp ((km n).mp hn)
    exact (o.all z hz).1
theorem TbOk.ends {start : Str} {tbl : List (Str × Stand)} (t : TbOk start tbl) : ∀ n ∈ endsOf tbl, nameB n = true := fun n h => t.nm n (endsOf_sub h)
theorem TbOk.look {start : Str} {tbl : List (Str × Stand)} (t : TbOk start tbl) {n : Str} {st : Stand} (e : lookA tbl n = some st) : st.nd ∧ st.size ≤ 4 ∧ (∀ t ∈ st.tos, t ∈ tbl.map (·.1)) ∧ (isEnd st = false → 1 ≤ st.size) := t.all _ (lookA_mem e)
/-- a wish for a table -/
structure TwOk (tbl : List (Str × Stand)) (tb : List (Str × Int)) : Prop where
  key : tb.map (·.1) = endsOf tbl
  bd : ∀ q ∈ tb, -99 ≤ q.2 ∧ q.2 ≤ 99
theorem inV_strD {s : Str} : ∀ {l : List Str}, inV (.str s) (l.map V.str) = decide (s ∈ l)
  | [] => by simp [inV]
  | n :: ns => by
    have ih := inV_strD (s := s) (l := ns)
    unfold inV at ih ⊢
    rw [List.map_cons, List.any_cons, ih]
    show ((n == s) || _) = _
    by_cases e : n = s
    · subst e
      simp
    · have : (n == s) = false := by simpa using e
      rw [this, Bool.false_or]
      have : ¬ s = n := fun z => e z.symm
      simp [this]
/-- texts in a tuple that lies in the heap -/
def rTS : RR (List Str) := fun H v l => ∃ t, v = .ref t ∧ H t = some (.tup (l.map V.str))
theorem mono_TS : Mono rTS := fun _ _ _ _ e ⟨t, h1, h2⟩ => ⟨t, h1, e.tup _ _ h2⟩
def ltS (a b : Str) : Prop := a.cps.toList < b.cps.toList
theorem strict_of : ∀ {l : List Str}, l.Pairwise leS → l.Nodup → l.Pairwise ltS
  | [], _, _ => .nil
  | a :: l, h, n => by
    obtain ⟨h1, h2⟩ := List.pairwise_cons.mp h
    obtain ⟨n1, n2⟩ := List.nodup_cons.mp n
    refine List.pairwise_cons.mpr ⟨fun b hb => ?_, strict_of h2 n2⟩
    refine Classical.byContradiction fun c => ?_
    have e : a = b := leS_antisymm (h1 b hb) (List.not_lt.mp c)
    exact n1 (e ▸ hb)
/-- a book of moves between safe stands -/
structure BookOk (bel : Str → Prop) (ns : List Int) (tbl : List (Str × Stand)) (bk : List (Str × List Str)) : Prop where
  nd : (bk.map (·.1)).Nodup
  each : ∀ q ∈ bk, ∃ st, lookA tbl q.1 = some st ∧ moverIn ns st = true ∧ ¬ BadP bel ns tbl q.1 ∧ q.2 ≠ [] ∧ q.2.length ≤ 4 ∧ q.2.Pairwise ltS ∧ ∀ z, z ∈ q.2 ↔ ∃ to, lookA st.rows z = some to ∧ ¬ BadP bel ns tbl to
  all : ∀ n st, lookA tbl n = some st → moverIn ns st = true → ¬ BadP bel ns tbl n → n ∈ bk.map (·.1)
theorem safe_move {bel : Str → Prop} {ns : List Int} {tbl : List (Str × Stand)} {n : Str} {st : Stand} (hnd : st.nd) (e : lookA tbl n = some st) (m : moverIn ns st = true) (h1 : 1 ≤ st.size) (nb : ¬ BadP bel ns tbl n) : ∃ z t, lookA st.rows z = some t ∧ ¬ BadP bel ns tbl t := by
  refine Classical.byContradiction fun c => nb (.all e m (by rw [rows_tos_len, tos_len]; omega) fun t ht => ?_)
  rw [← rows_tos] at ht
  obtain ⟨q, hq, rfl⟩ := List.mem_map.mp ht
  exact Classical.byContradiction fun z => c ⟨q.1, q.2, lookA_nodup (rows_nodupB hnd) hq, z⟩
theorem moverIn_end {ns : List Int} {st : Stand} (m : moverIn ns st = true) : isEnd st = false := by cases st <;> first | rfl | cases m
section
variable {P : Program} {w : World} {K : PySem.W.Frag} {mg : Str → Option Value} {base : Heap}
def sp_safe_stands (T : Tx K mg) : Sp := fun vs H Q _ => ∃ (x y lt lv : Addr) (hands : Int) (start : Str) (tbl : List (Str × Stand)) (tb : List (Str × Int)) (e : Int) (cm : Bool) (ns : List Int) (a b : Int), vs = [.ref x, .ref y, .ref lt, .ref lv] ∧ WorkAt T H x hands start tbl ∧ WishAt T H y tb e cm ∧ SqT K H lt (ns.map V.int) ∧ SqT K H lv [.int a, .int b] ∧
  TbOk start tbl ∧ TwOk tbl tb ∧ LotOk hands ns ∧ FracOk a b ∧
  ∀ (q : Addr) (H' : Hp) (sf : List Str), H q = none → SX [] H H' → H' q = some (.lst (sf.map V.str)) → sf.Nodup → sf.Pairwise leS → (∀ n, n ∈ sf ↔ n ∈ tbl.map (·.1) ∧ ¬ BadP (belowP tb a b) ns tbl n) → Q (.ref q) H'
theorem ok_safe_stands (T : Tx K mg) : FnOk P w K mg base CX0 5 T.safe_stands.f T.safe_stands.fd P_safe_stands (sp_safe_stands T) := by
  refine T.safe_stands.F.ok sc_safe_stands (fun vs H Q E h => ?_) (fun cdv A outer s H vs Q E hr h => ?_)
  · obtain ⟨x, y, lt, lv, hands, start, tbl, tb, e, cm, ns, a, b, rfl, wa, wi, hlt, hlv, to, tw, lo, fr, k⟩ := h
    rfl
  have hu := hu_of hr
  have nd := sc_safe_stands.nd
  obtain ⟨x, y, lt, lv, hands, start, tbl, tb, e, cm, ns, a, b, rfl, wa, wi, hlt, hlv, to, tw, lo, fr, k⟩ := h
  refine ⟨_, (pss_cons (ps_expr (pe_call (ok_suited_lot T) (hr.mono (by decide)) (by rfl) T.suited_lot.g T.suited_lot.F.kp T.suited_lot.B .nil pass0 (pa_cons (pv 0) (pa_cons (pv 1) (pa_cons (pv 2) pa_nil)))))
      (pss_cons (ps_if (pt_not (pt_val (pe_call (ok_is_fraction T) (hr.mono (by decide)) (by rfl) T.is_fraction.g T.is_fraction.F.kp T.is_fraction.B .nil pass0 (pa_cons (pv 3) pa_nil)))) (pss_one ps_never) pss_nil)
      (pss_cons (ps_set (i := 4) nd rfl (Or.inr rfl) (pe_call (ok_bad_stands T) (hr.mono (by decide)) (by rfl) T.bad_stands.g T.bad_stands.F.kp T.bad_stands.B .nil pass0 (pa_cons (pv 0) (pa_cons (pv 1) (pa_cons (pv 2) (pa_cons (pv 3) pa_nil))))))
      (pss_one (ps_ret (pe_lc (own := [("stand", 5)]) rfl nd (w_pitup (K := K) rfl (w_fld (K := K) rfl (pv 0) rfl)) (blkOk_by (own := [("stand", 5)]) (N := N_safe_stands) (sc := defScope s_safe_stands) (by decide +kernel)) (fun _ _ _ _ _ => (pg_name (i := 5) nd rfl (Or.inl rfl))) (fun _ _ _ _ _ => pts_one (pt_cmp (pc_dnotin hu (pv 5) (pv 4)))) (fun _ _ _ _ _ => (pv 5)))))))), ?_⟩
  refine x_start (σ' := [some _, some _, some _, some _, none, none]) rfl ?_
  try simp only [cx_n, cx_K, cx_w, cx_P]
  walk_at "rd"
  refine ⟨x, y, lt, hands, start, tbl, tb, e, cm, ns, rfl, wa, wi, tw.key, to.ends, hlt, lo, fun H1 s1 => ?_⟩
  walk_at "rd"
  refine ⟨lv, a, b, rfl, s1.le0.t hlv, fr, fun H2 s2 => ?_⟩
  walk_at "rd"
  have s12 := s1.trans s2
  refine ⟨x, y, lt, lv, hands, start, tbl, tb, e, cm, ns, a, b, rfl, wa.le s12.le0, wi.sx s12, s12.le0.t hlt, s12.le0.t hlv, to.nd, to.len, fun q hq => ⟨(to.all q hq).1, (to.all q hq).2.1⟩, tw.key, tw.bd, fun bd H3 kv bad hbd s3 ebd ek bnd kB iff => ?_⟩
  walk_at "rd"
  have s13 := s12.trans s3
  obtain ⟨dx, d, nm, en, hx, _, hnm, _⟩ := id (wa.le s13.le0).ex
  refine x_getF hx T.cl_Work T.n_Work_names (look_next (by decide +kernel) (look_next (by decide +kernel) (look_next (by decide +kernel) look_here))) ?_
  refine x_itt hnm fun D hD => ?_
  refine lc_it (walk_tupR (R := rS) (Hb := H) (paired_S' (tbl.map (·.1)))) (fun n A => SX [] H3 A ∧ A D = some (.lst ((((tbl.map (·.1)).take n).filter fun m => !decide (m ∈ bad)).map V.str))) ⟨SX.new hD, upd_same⟩ (fun n A _ h => h.1.le0.t hnm) ?_ ?_
  · rintro n z A0 A hn ⟨sA, dA⟩ ⟨rfl, m, hm, rfl⟩
    walk_at "rd"
    refine ⟨rfl, ?_⟩
    walk_at "rd"
    refine x_dni' (.inl (sA _ _ List.not_mem_nil ebd)) ?_
    rw [keys_val ek]
    have stp : ((tbl.map (·.1)).take (n + 1)).filter (fun m => !decide (m ∈ bad)) = ((tbl.map (·.1)).take n).filter (fun m => !decide (m ∈ bad)) ++ if m ∈ bad then [] else [m] := by
      rw [take_succ_of hm, List.filter_append, List.filter_cons]
      by_cases c : m ∈ bad <;> simp [c]
    walk_at "rd"
    refine x_cases (fun c => ?_) (fun c => ?_)
    · have c : m ∉ bad := by simpa using c
      walk_at "rd"
      refine ⟨_, dA, lt_size ?_, sx_nil_of (S := [D]) ((nil_sx sA).trans (SX.mut List.mem_cons_self)) (by simp [hD]), ?_⟩
      · rw [List.length_map]
        refine Nat.le_trans (List.length_filter_le _ _) ?_
        rw [List.length_take, List.length_map]
        have := to.len
        omega
      · rw [upd_same, stp, if_neg c, List.map_append]
        rfl
    · have c : m ∈ bad := by simpa using c
      exact ⟨sA, by rw [dA, stp, if_pos c, List.append_nil]⟩
  · rintro A ⟨sA, dA⟩
    rw [List.take_length] at dA
    refine k D A _ (s13.free hD List.not_mem_nil) (s13.trans sA) dA (List.Nodup.sublist List.filter_sublist to.nd) ((sortedS_pw to.srt).sublist List.filter_sublist) fun n => ?_
    rw [List.mem_filter, ← iff n]
    simp
def sp_freest (T : Tx K mg) : Sp := fun vs H Q _ => ∃ (x y lt lv : Addr) (hands : Int) (start : Str) (tbl : List (Str × Stand)) (tb : List (Str × Int)) (e : Int) (cm : Bool) (ns : List Int) (a b : Int), vs = [.ref x, .ref y, .ref lt, .ref lv] ∧ WorkAt T H x hands start tbl ∧ WishAt T H y tb e cm ∧ SqT K H lt (ns.map V.int) ∧ SqT K H lv [.int a, .int b] ∧
  TbOk start tbl ∧ TwOk tbl tb ∧ LotOk hands ns ∧ FracOk a b ∧
  (BadP (belowP tb a b) ns tbl start → ∀ H', SX [] H H' → Q .non H') ∧
  (¬ BadP (belowP tb a b) ns tbl start → ∀ (q : Addr) (H' : Hp) (kv : List (Key × V)) (bk : List (Str × List Str)), H q = none → SX [] H H' → H' q = some (.dK kv) → KVs rTS H' kv bk → BookOk (belowP tb a b) ns tbl bk → Q (.ref q) H')
theorem ok_freest (T : Tx K mg) : FnOk P w K mg base CX0 6 T.freest.f T.freest.fd P_freest (sp_freest T) := by
  refine T.freest.F.ok sc_freest (fun vs H Q E h => ?_) (fun cdv A outer s H vs Q E hr h => ?_)
  · obtain ⟨x, y, lt, lv, hands, start, tbl, tb, e, cm, ns, a, b, rfl, wa, wi, hlt, hlv, to, tw, lo, fr, kb, k⟩ := h
    rfl
  have hu := hu_of hr
  have nd := sc_freest.nd
  obtain ⟨x, y, lt, lv, hands, start, tbl, tb, e, cm, ns, a, b, rfl, wa, wi, hlt, hlv, to, tw, lo, fr, kb, k⟩ := h
  refine ⟨_, (pss_cons (ps_set (i := 4) nd rfl (Or.inr rfl) (pe_call (ok_safe_stands T) (hr.mono (by decide)) (by rfl) T.safe_stands.g T.safe_stands.F.kp T.safe_stands.B .nil pass0 (pa_cons (pv 0) (pa_cons (pv 1) (pa_cons (pv 2) (pa_cons (pv 3) pa_nil))))))
      (pss_cons (ps_if (pt_cmpR (w_nin (K := K) rfl) (w_fld (K := K) rfl (pv 0) rfl) (pv 4) (by rfl)) (pss_one (ps_ret pe_non)) pss_nil)
      (pss_cons (ps_set (i := 5) nd rfl (Or.inl rfl) pe_dnewK)
      (pss_cons (ps_for PassesOwn.never rfl (w_pilist (K := K) rfl (pv 4)) (pg_name (i := 6) nd rfl (Or.inr rfl)) (pss_one (ps_if (pt_cmpR (w_in (K := K) rfl) (pe_meth (pv 0) T.cl_Work T.me_Work_mover (ok_Work_mover T) (hr.mono (by decide)) T.Work_mover.B .nil pass0 (pa_cons (pv 6) pa_nil)) (pv 2) (by rfl)) (pss_one (ps_dput hu (pv 5) (pv 6) (pe_callTy (w_tup (K := K) rfl) (by rfl) T.b_tuple (by decide +kernel) (pa_cons (pe_lc (own := [("move", 7)]) rfl nd (w_pilist (K := K) rfl (pe_meth (pv 0) T.cl_Work T.me_Work_steps (ok_Work_steps T) (hr.mono (by decide)) T.Work_steps.B .nil pass0 (pa_cons (pv 6) pa_nil))) (blkOk_by (own := [("move", 7)]) (N := N_freest) (sc := defScope s_freest) (by decide +kernel)) (fun _ _ _ _ _ => (pg_name (i := 7) nd rfl (Or.inl rfl))) (fun _ _ _ _ _ => pts_one (pt_cmpR (w_in (K := K) rfl) (pe_meth (pv 0) T.cl_Work T.me_Work_to (ok_Work_to T) (hr.mono (by decide)) T.Work_to.B .nil pass0 (pa_cons (pv 6) (pa_cons (pv 7) pa_nil))) (pv 4) (by rfl))) (fun _ _ _ _ _ => (pv 7))) pa_nil)) rfl)) pss_nil)))
      (pss_one (ps_ret (pv 5))))))), ?_⟩
  refine x_start (σ' := [some _, some _, some _, some _, none, none, none, none]) rfl ?_
  try simp only [cx_n, cx_K, cx_w, cx_P]
  walk_at "rd"
  refine ⟨x, y, lt, lv, hands, start, tbl, tb, e, cm, ns, a, b, rfl, wa, wi, hlt, hlv, to, tw, lo, fr, fun sq H1 sf hsq s1 esq snd _ sif => ?_⟩
  walk_at "rd"
  obtain ⟨dx, d, nm, en, hx, _⟩ := id (wa.le s1.le0).ex
  refine x_getF hx T.cl_Work T.n_Work_start work_start ?_
  walk_at "rd"
  refine ⟨sq, _, rfl, .inl (sqL esq), rfl, flat_strs sf, ?_⟩
  rw [inV_strD]
  walk_at "rd"
  by_cases hs : start ∈ sf
  rotate_left
  · rw [decide_eq_false hs]
    walk_at "rd"
    refine iteT ?_
    walk_at "rd"
    exact kb (Classical.byContradiction fun c => hs ((sif _).mpr ⟨to.st, c⟩)) H1 s1
  rw [decide_eq_true hs]
  refine iteF ?_
  walk_at "rd"
  have k := k ((sif _).mp hs).2
  intro bd hbd
  walk_at "rd"
  have s2 : SX [] H1 (upd H1 bd (.dK [])) := SX.new hbd
  have nsb : sq ≠ bd := ne_of_none esq hbd
  have sfl : sf.length ≤ 100 := by
    have := nodup_sub snd fun n hn => ((sif n).mp hn).1
    rw [List.length_map] at this
    exact Nat.le_trans this to.len
  refine x_itl (sqL (s2 _ _ List.not_mem_nil esq)) ?_
  refine for_it (walk_listR (R := rS) (Hb := H) (paired_S' sf)) (fun i σ A => ∃ (kv : List (Key × V)) (bk : List (Str × List Str)) (c : Option V), SX [] H1 A ∧ A bd = some (.dK kv) ∧ KVs rTS (hid [bd] A) kv bk ∧
      (∀ n ∈ bk.map (·.1), n ∈ sf.take i) ∧ (bk.map (·.1)).Nodup ∧ (∀ n ∈ sf.take i, ∀ st, lookA tbl n = some st → moverIn ns st = true → n ∈ bk.map (·.1)) ∧
      (∀ q ∈ bk, ∃ st, lookA tbl q.1 = some st ∧ moverIn ns st = true ∧ ¬ BadP (belowP tb a b) ns tbl q.1 ∧ q.2 ≠ [] ∧ q.2.length ≤ 4 ∧ q.2.Pairwise ltS ∧ ∀ z, z ∈ q.2 ↔ ∃ to, lookA st.rows z = some to ∧ ¬ BadP (belowP tb a b) ns tbl to) ∧
      σ = [some (.ref x), some (.ref y), some (.ref lt), some (.ref lv), some (.ref sq), some (.ref bd), c, none])
    ⟨[], [], none, s2, upd_same, .nil, (fun _ h => nomatch h), List.nodup_nil, (fun _ h => nomatch h), (fun _ h => nomatch h), rfl⟩ (fun i σ A _ h => by obtain ⟨_, _, _, s, _⟩ := h; exact sqL (s _ _ List.not_mem_nil esq)) ?_ ?_
  · rintro i z σ A0 A hi ⟨kv, bk, c, sA, dA, kA, kI, nA, aA, eA, rfl⟩ ⟨rfl, n, hn, rfl⟩
    have nsf := getMem hn
    obtain ⟨nk, nnb⟩ := (sif n).mp nsf
    obtain ⟨st, est⟩ := lookA_some nk
    obtain ⟨st1, st4, stt, ste⟩ := to.look est
    have sHA := s1.trans sA
    have waA := wa.le sHA.le0
    obtain ⟨dx2, d2, nm2, en2, hx2, _⟩ := id waA.ex
    have nextI : ∀ m ∈ sf.take i, m ∈ sf.take (i + 1) := fun m hm => by rw [take_succ_of hn]; exact List.mem_append_left _ hm
    have next : ∀ m ∈ sf.take (i + 1), m ∈ sf.take i ∨ m = n := fun m hm => by
      rw [take_succ_of hn] at hm
      rcases List.mem_append.mp hm with h | h
      · exact .inl h
      · exact .inr (List.mem_singleton.mp h)
    walk_at "rd"
    refine x_meth ?_
    walk_at "rd"
    refine x_me hx2 (work_none (by decide +kernel)) ?_
    walk_at "rd"
    refine ⟨x, hands, start, n, tbl, st, rfl, waA, est, ?_⟩
    walk_at "rd"
    refine ⟨lt, _, rfl, .inr (sHA.le0.t hlt), by cases st <;> rfl, flat_ints ns, ?_⟩
    rw [inV_mover]
    walk_at "rd"
    refine x_cases (fun c2 => ?_) (fun c2 => ?_)
    · have c2 : moverIn ns st = true := by simpa using c2
      walk_at "rd"
      refine x_meth ?_
      walk_at "rd"
      refine x_me hx2 (work_none (by decide +kernel)) ?_
      walk_at "rd"
      refine ⟨x, hands, start, n, tbl, st, rfl, waA, est, fun p B ys hp sB ep pp sy => ?_⟩
      refine x_itl (sqL ep) fun D hD => ?_
      have sHB := sHA.trans sB
      have waB := wa.le sHB.le0
      have esB : B sq = some (.lst (sf.map V.str)) := (sA.trans sB) _ _ List.not_mem_nil esq
      have yl : ys.length = st.size := by rw [pp.length_eq, List.length_map, rows_tos_len, tos_len]
      refine lc_it (walk_listR (R := rS) (Hb := H) (paired_S' ys)) (fun n A => SX [] B A ∧ A D = some (.lst (((ys.take n).filter fun z => decide ((lookA st.rows z).getD default ∈ sf)).map V.str))) ⟨SX.new hD, upd_same⟩ (fun n A _ h => sqL (h.1 _ _ List.not_mem_nil ep)) ?_ ?_
      · rintro j z2 C0 C hj ⟨sC, dC⟩ ⟨rfl, z, hz, rfl⟩
        obtain ⟨t, et⟩ := lookA_some (pp.mem_iff.mp (getMem hz))
        have waC := waB.le sC.le0
        obtain ⟨dx3, d3, nm3, en3, hx3, _⟩ := id waC.ex
        walk_at "rd"
        refine ⟨rfl, ?_⟩
        walk_at "rd"
        refine x_meth ?_
        walk_at "rd"
        refine x_me hx3 (work_none (by decide +kernel)) ?_
        walk_at "rd"
        refine ⟨x, hands, start, n, z, t, tbl, st, rfl, waC, est, et, ?_⟩
        walk_at "rd"
        refine ⟨sq, _, rfl, .inl (sqL (sC _ _ List.not_mem_nil esB)), rfl, flat_strs sf, ?_⟩
        rw [inV_strD]
        walk_at "rd"
        have stp : (ys.take (j + 1)).filter (fun z => decide ((lookA st.rows z).getD default ∈ sf)) = (ys.take j).filter (fun z => decide ((lookA st.rows z).getD default ∈ sf)) ++ if t ∈ sf then [z] else [] := by
          rw [take_succ_of hz, List.filter_append, List.filter_cons, et]
          by_cases c : t ∈ sf <;> simp [c]
        refine x_cases (fun c3 => ?_) (fun c3 => ?_)
        · have c3 : t ∈ sf := by simpa using c3
          walk_at "rd"
          refine ⟨_, dC, lt_size ?_, sx_nil_of (S := [D]) ((nil_sx sC).trans (SX.mut List.mem_cons_self)) (by simp [hD]), ?_⟩
          · rw [List.length_map]
            refine Nat.le_trans (List.length_filter_le _ _) ?_
            rw [List.length_take]
            omega
          · rw [upd_same, stp, if_pos c3, List.map_append]
            rfl
        · have c3 : t ∉ sf := by simpa using c3
          exact ⟨sC, by rw [dC, stp, if_neg c3, List.append_nil]⟩
      rintro C ⟨sC, dC⟩
      rw [List.take_length] at dC
      generalize hl : ys.filter (fun z => decide ((lookA st.rows z).getD default ∈ sf)) = l at dC
      walk_at "rd"
      refine x_ctup (sqL dC) fun t ht => ?_
      walk_at "rd"
      have sAC : SX [] A (upd C t (.tup (l.map V.str))) := (sB.trans sC).trans (SX.new ht)
      have dT := sAC _ _ List.not_mem_nil dA
      have kl : kv.length = bk.length := Paired.length kA
      have bl : bk.length ≤ 100 := by
        have := nodup_sub nA fun n hn => List.mem_of_mem_take (kI n hn)
        rw [List.length_map] at this
        omega
      refine ⟨bd, _, rfl, DPut.k (k := Sum.inr n) dT (lt_size (by omega)), ?_⟩
      have ntb : t ≠ bd := fun e => by
        have hC := (sB.trans sC) _ _ List.not_mem_nil dA
        rw [e, hC] at ht
        cases ht
      have fr2 : n ∉ bk.map (·.1) := fun h => nodup_take snd hn (kI n h)
      rw [putK_fresh _ kA.keys fr2]
      have le1 : Le (hid [bd] A) (hid [bd] (upd (upd C t (.tup (l.map V.str))) bd (.dK (kv ++ [(Sum.inr n, V.ref t)])))) := ((nil_sx sAC).trans (SX.mut List.mem_cons_self)).le
      have ynd : ys.Nodup := pp.nodup_iff.mpr (rows_nodupB st1)
      have ml : ∀ z, z ∈ l ↔ ∃ u, lookA st.rows z = some u ∧ ¬ BadP (belowP tb a b) ns tbl u := fun z => by
        rw [← hl, List.mem_filter, pp.mem_iff]
        constructor
        · rintro ⟨h1, h2⟩
          obtain ⟨u, eu⟩ := lookA_some h1
          rw [eu] at h2
          exact ⟨u, eu, ((sif u).mp (of_decide_eq_true h2)).2⟩
        · rintro ⟨u, eu, h⟩
          refine ⟨key_of' eu, ?_⟩
          rw [eu]
          refine decide_eq_true ((sif u).mpr ⟨stt u ?_, h⟩)
          rw [← rows_tos]
          exact List.mem_map.mpr ⟨(z, u), lookA_mem eu, rfl⟩
      refine ⟨_, bk ++ [(n, l)], _, sx_nil_of (S := [bd]) ((nil_sx (sA.trans sAC)).trans (SX.mut List.mem_cons_self)) (by simp [hbd]), upd_same, Paired.app (KVs.le mono_TS le1 kA) (.cons ⟨rfl, t, rfl, ?_⟩ .nil), fun m hm => ?_, ?_, fun m hm st' e' m' => ?_, fun q hq => ?_, rfl⟩
      · rw [hid_of (by simpa using ntb), upd_ne ntb, upd_same]
      · rw [List.map_append] at hm
        rcases List.mem_append.mp hm with h | h
        · exact nextI m (kI m h)
        · cases List.mem_singleton.mp h
          rw [take_succ_of hn]
          exact List.mem_append_right _ List.mem_cons_self
      · rw [List.map_append]
        exact nd_snoc nA fr2
      · rw [List.map_append]
        rcases next m hm with h | rfl
        · exact List.mem_append_left _ (aA m h st' e' m')
        · exact List.mem_append_right _ List.mem_cons_self
      · rcases List.mem_append.mp hq with h | h
        · exact eA q h
        · cases List.mem_singleton.mp h
          obtain ⟨z, u, e1, e2⟩ := safe_move st1 est c2 (ste (moverIn_end c2)) nnb
          refine ⟨st, est, c2, nnb, fun e3 => ?_, ?_, ?_, ml⟩
          · have := (ml z).mpr ⟨u, e1, e2⟩
            change l = [] at e3
            rw [e3] at this
            cases this
          · show l.length ≤ 4
            rw [← hl]
            exact Nat.le_trans (List.length_filter_le _ _) (by omega)
          · show l.Pairwise ltS
            rw [← hl]
            exact (strict_of (sortedS_pw sy) ynd).sublist List.filter_sublist
    · have c2 : moverIn ns st = false := by simpa using c2
      walk_at "rd"
      refine ⟨kv, bk, _, sA, dA, kA, fun m hm => nextI m (kI m hm), nA, fun m hm st' e' m' => ?_, eA, rfl⟩
      rcases next m hm with h | rfl
      · exact aA m h st' e' m'
      · rw [est] at e'
        cases e'
        rw [c2] at m'
        cases m'
  · rintro σ A ⟨kv, bk, c, sA, dA, kA, kI, nA, aA, eA, rfl⟩
    walk_at "rd"
    rw [List.take_length] at aA
    exact k bd A kv bk (s1.free hbd List.not_mem_nil) (s1.trans sA) dA (KVs.le mono_TS le_hid kA) ⟨nA, eA, fun n st e m nb => aA n ((sif n).mpr ⟨key_of' e, nb⟩) st e m⟩
end
end M

namespace M
open PySem PySem.Spec PyProof.Rows L2
theorem le_into {A B : Hp} {S : List Addr} (e : Le A B) (h : ∀ b ∈ S, A b = none) : Le A (hid S B) := by
  have n1 : ∀ {b : Addr}, A b ≠ none → b ∉ S := fun q m => q (h _ m)
  refine ⟨fun x u p q => ?_, fun x C dx fs q => ?_, fun x xs q => ?_⟩
  · have n := n1 (rd_there q)
    have := e.rd x u p q
    unfold Rd
    rw [hid_of n]
    exact this
  · rw [hid_of (n1 (by rw [q]; exact fun z => nomatch z))]
    exact e.ins _ _ _ _ q
  · rw [hid_of (n1 (by rw [q]; exact fun z => nomatch z))]
    exact e.tup _ _ q
theorem putK_len_in {kvs : List (Key × V)} {k : Key} {x v : V} (h : valV kvs k = some x) : (putK kvs k v).length = kvs.length := by
  unfold putK
  rw [valV_any, h, if_pos (show (some x).isSome = true from rfl), List.length_map]
theorem drawn_all {st : Stand} {ns : List Int} {bad ys : List Str} (hnd : st.nd) (pp : ys.Perm (st.rows.map (·.1))) (ne0 : ¬ st.rows.length = 0) (m : moverIn ns st = true) :
    ((ys.map fun z => decide ((lookA st.rows z).getD default ∈ bad)).all id) = drawnB ns bad st := by
  unfold drawnB
  rw [if_neg ne0, if_pos m, Bool.eq_iff_iff, List.all_eq_true, List.all_eq_true, ← rows_tos]
  constructor
  · intro h t ht
    obtain ⟨q, hq, rfl⟩ := List.mem_map.mp ht
    have e := lookA_nodup (rows_nodupB hnd) hq
    have := h _ (List.mem_map.mpr ⟨q.1, pp.mem_iff.mpr (List.mem_map.mpr ⟨q, hq, rfl⟩), rfl⟩)
    rw [e] at this
    exact this
  · intro h t ht
    obtain ⟨z, hz, rfl⟩ := List.mem_map.mp ht
    obtain ⟨to, eto⟩ := lookA_some (pp.mem_iff.mp hz)
    rw [eto]
    exact h to (List.mem_map.mpr ⟨(z, to), lookA_mem eto, rfl⟩)
theorem drawn_any {st : Stand} {ns : List Int} {bad ys : List Str} (hnd : st.nd) (pp : ys.Perm (st.rows.map (·.1))) (ne0 : ¬ st.rows.length = 0) (m : moverIn ns st = false) :
    ((ys.map fun z => decide ((lookA st.rows z).getD default ∈ bad)).any id) = drawnB ns bad st := by
  unfold drawnB
  rw [if_neg ne0, if_neg (by rw [m]; exact Bool.false_ne_true), Bool.eq_iff_iff, List.any_eq_true, List.any_eq_true, ← rows_tos]
  constructor
  · rintro ⟨t, ht, h⟩
    obtain ⟨z, hz, rfl⟩ := List.mem_map.mp ht
    obtain ⟨to, eto⟩ := lookA_some (pp.mem_iff.mp hz)
    rw [eto] at h
    exact ⟨to, List.mem_map.mpr ⟨(z, to), lookA_mem eto, rfl⟩, h⟩
  · rintro ⟨t, ht, h⟩
    obtain ⟨q, hq, rfl⟩ := List.mem_map.mp ht
    have e := lookA_nodup (rows_nodupB hnd) hq
    refine ⟨_, List.mem_map.mpr ⟨q.1, pp.mem_iff.mpr (List.mem_map.mpr ⟨q, hq, rfl⟩), rfl⟩, ?_⟩
    rw [e]
    exact h
/-- an end below, by flag -/
def lowB0 (sts : List (Str × Stand)) (wl : List (Str × Int)) (a b : Int) (m : Str) : Bool := match lookA sts m with
  | some st => if isEnd st = true then (match lookA wl m with | some v => decide (v * b < a) | none => false) else false
  | none => false
theorem lowB0_iff {sts : List (Str × Stand)} {wl : List (Str × Int)} {a b : Int} {m : Str} : lowB0 sts wl a b m = true ↔ lookA sts m = some .fin ∧ belowP wl a b m := by
  unfold lowB0 belowP
  cases e : lookA sts m with
  | none => simp
  | some st =>
    cases st with
    | hand h ms => simp [isEnd]
    | chance ds => simp [isEnd]
    | fin =>
      cases e2 : lookA wl m with
      | none => simp [isEnd]
      | some v => simp [isEnd]
def closedB (sts : List (Str × Stand)) (ns : List Int) (bd : List Str) : Prop := ∀ n st, lookA sts n = some st → drawnB ns bd st = true → n ∈ bd
section
variable {P : Program} {w : World} {K : PySem.W.Frag} {mg : Str → Option Value} {base : Heap}
def sp_law_bad (T : Tx K mg) : Sp := fun vs H Q _ => ∃ (d wd lt lv : Addr) (sts : List (Str × Stand)) (wl : List (Str × Int)) (ns : List Int) (a b : Int), vs = [.ref d, .ref wd, .ref lt, .ref lv] ∧ rD (rStand K) H (.ref d) sts ∧ Closed sts ∧ sts.length ≤ 100 ∧ rD rI H (.ref wd) wl ∧
  (∀ n, n ∈ wl.map (·.1) ↔ n ∈ endsOf sts) ∧ (∀ q ∈ wl, -99 ≤ q.2 ∧ q.2 ≤ 99) ∧ SqT K H lt (ns.map V.int) ∧ SqT K H lv [.int a, .int b] ∧
  ∀ (q : Addr) (H' : Hp) (kv : List (Key × V)), H q = none → SX [] H H' → H' q = some (.dK kv) → (∀ n ∈ sts.map (·.1), ∃ f : Bool, valV kv (Sum.inr n) = some (.bl f) ∧ (f = true ↔ BadP (belowP wl a b) ns sts n)) → Q (.ref q) H'
theorem ok_law_bad (T : Tx K mg) : FnOk P w K mg base CX0 2 T.law_bad.f T.law_bad.fd P_law_bad (sp_law_bad T) := by
  refine T.law_bad.F.ok sc_law_bad (fun vs H Q E h => ?_) (fun cdv A outer s H vs Q E hr h => ?_)
  · obtain ⟨d, wd, lt, lv, sts, wl, ns, a, b, rfl, hd, C, hl, hw, wk, wb, hlt, hlv, k⟩ := h
    rfl
  have hu := hu_of hr
  have nd := sc_law_bad.nd
  obtain ⟨d, wd, lt, lv, sts, wl, ns, a, b, rfl, hd, C, hl, hw, wk, wb, hlt, hlv, k⟩ := h
  refine ⟨_, (pss_cons (ps_set (i := 4) nd rfl (Or.inr rfl) pe_dnewK)
      (pss_cons (ps_lockR (ps_for PassesOwn.never rfl (pi_keys (pv 0)) (pg_name (i := 5) nd rfl (Or.inr rfl)) (pss_one (ps_dput hu (pv 4) (pv 5) (pe_and (pe_cmpR op_eq (pe_ix (w_ixT (K := K) rfl) (pe_dget hu (pv 0) (pv 5) (fun _ _ => rfl)) pe_int (fun _ _ => rfl)) pe_str (nomark _)) (pe_one (pe_cmpR op_lt (pe_op op_mul (pe_dget hu (pv 1) (pv 5) (fun _ _ => rfl)) (pe_ix (w_ixT (K := K) rfl) (pv 3) pe_int (fun _ _ => rfl))) (pe_ix (w_ixT (K := K) rfl) (pv 3) pe_int (fun _ _ => rfl)) (nomark _)))) rfl))))
      (pss_cons (ps_for PassesOwn.never rfl (pi_range1 (by rfl) T.b_range (pa_cons (pe_callB cl_lenD (by rfl) T.b_len (by decide +kernel) (pa_cons (pv 0) pa_nil)) pa_nil)) (pg_name (i := 6) nd rfl (Or.inl rfl)) (pss_one (ps_lockR (ps_for PassesOwn.never rfl (pi_keys (pv 0)) (pg_name (i := 5) nd rfl (Or.inr rfl)) (pss_cons (ps_setLc (i := 7) (own := [("step", 8)]) rfl nd rfl rfl (sw_true rfl rfl rfl (by decide +kernel)) (w_pilist (K := K) rfl (pe_call (ok_law_steps T) (hr.mono (by decide)) (by rfl) T.law_steps.g T.law_steps.F.kp T.law_steps.B .nil pass0 (pa_cons (pv 0) (pa_cons (pv 5) pa_nil)))) (blkOk_by (own := [("step", 8)]) (N := N_law_bad) (sc := defScope s_law_bad) (by decide +kernel)) (fun _ _ _ _ _ => (pg_name (i := 8) nd rfl (Or.inl rfl))) (fun _ _ _ _ _ => pts_nil) (fun _ _ _ _ _ => (pe_dget hu (pv 4) (pe_call (ok_law_to T) (hr.mono (by decide)) (by rfl) T.law_to.g T.law_to.F.kp T.law_to.B .nil pass0 (pa_cons (pv 0) (pa_cons (pv 5) (pa_cons (pv 8) pa_nil)))) (fun _ _ => rfl))))
      (pss_one (ps_if (PW.pt (pw_and (pt_cmpR op_gt (pe_callB (w_len (K := K) rfl) (by rfl) T.b_len (by decide +kernel) (pa_cons (pv 7) pa_nil)) pe_int (nomark _)) (pw_and1 (pt_not (pt_val (pe_dget hu (pv 4) (pv 5) (fun _ _ => rfl))))))) (pss_one (ps_if (pt_cmpR (w_in (K := K) rfl) (pe_call (ok_law_mover T) (hr.mono (by decide)) (by rfl) T.law_mover.g T.law_mover.F.kp T.law_mover.B .nil pass0 (pa_cons (pv 0) (pa_cons (pv 5) pa_nil))) (pv 2) (by rfl)) (pss_one (ps_dput hu (pv 4) (pv 5) (pe_callB (w_all (K := K) rfl rfl) (by rfl) T.b_all (by decide +kernel) (pa_cons (pv 7) pa_nil)) rfl)) (pss_one (ps_dput hu (pv 4) (pv 5) (pe_callB (w_any (K := K) rfl rfl) (by rfl) T.b_any (by decide +kernel) (pa_cons (pv 7) pa_nil)) rfl)))) pss_nil)))))))
      (pss_one (ps_ret (pv 4)))))), ?_⟩
  refine x_start (σ' := [some _, some _, some _, some _, none, none, none, none, none]) rfl ?_
  try simp only [cx_n, cx_K, cx_w, cx_P]
  obtain ⟨d', kvs, ed, hrd, hk⟩ := id hd
  cases ed
  obtain ⟨wd', kw, ew, hwr, hwk⟩ := id hw
  cases ew
  have hkl : kvs.length = sts.length := Paired.length hk
  have klen : (sts.map (·.1)).length = sts.length := List.length_map _
  have fulltake : (sts.map (·.1)).take sts.length = sts.map (·.1) := by rw [← klen, List.take_length]
  walk_at "rd"
  intro F hF
  walk_at "rd"
  have s1 : SX [] H (upd H F (.dK [])) := SX.new hF
  have F1 : (upd H F (.dK [])) F = some (.dK []) := upd_same
  generalize upd H F (.dK []) = H1 at s1 F1
  have nFd : F ≠ d := fun e => rd_there hrd (e ▸ hF)
  have hF' : ∀ b ∈ [F], H b = none := fun b hb => by cases List.mem_singleton.mp hb; exact hF
  have rd1 : Rd H1 d (.dK kvs) := s1.le0.rd _ _ trivial hrd
  refine x_lockR rd1 fun od HL eL ne => ?_
  have leL : Le H HL := s1.le0.trans (lock_le rd1 eL ne)
  have lF : Le H (hid [F] HL) := le_into leL hF'
  walk_at "rd"
  refine x_itk eL ?_
  refine for_it (walk_keysR hk) (fun n σ B => SX [F] HL B ∧ ∃ (kv : List (Key × V)) (c : Option V), B F = some (.dK kv) ∧ kv.length ≤ n ∧ (∀ m ∈ (sts.map (·.1)).take n, valV kv (Sum.inr m) = some (.bl (lowB0 sts wl a b m))) ∧
      σ = [some (.ref d), some (.ref wd), some (.ref lt), some (.ref lv), some (.ref F), c, none, none, none])
    ⟨SX.refl _, [], none, by rw [ne _ nFd]; exact F1, Nat.le_refl _, (fun _ h => nomatch h), rfl⟩ (fun _ _ _ _ h => h.1 _ _ (by simpa using Ne.symm nFd) eL) ?_ ?_
  · rintro i z σ B0 B hi ⟨sB, kv, c, FB, lk, vk, rfl⟩ ⟨rfl, q, v0, hq, rfl, _⟩
    have hq1 : (sts.map (·.1))[i]? = some q.1 := by rw [List.getElem?_map, hq]; rfl
    have est : lookA sts q.1 = some q.2 := lookA_nodup C.nd (getMem hq)
    obtain ⟨v, ev, rv⟩ := hk.at_ est
    have lB : Le H B := (lF.trans sB.le).trans le_hid
    have rdB : Rd B d (.dK kvs) := .inr ⟨od, sB _ _ (by simpa using Ne.symm nFd) eL⟩
    obtain ⟨tp, xs, rfl, htp, h0⟩ := rStand.kind (mono_stand K _ _ _ _ lB rv)
    have fin : ∀ f : Bool, f = lowB0 sts wl a b q.1 → SX [F] HL (upd B F (.dK (putK kv (Sum.inr q.1) (.bl f)))) ∧ ∃ (kv' : List (Key × V)) (c : Option V), (upd B F (.dK (putK kv (Sum.inr q.1) (.bl f)))) F = some (.dK kv') ∧ kv'.length ≤ i + 1 ∧ (∀ m ∈ (sts.map (·.1)).take (i + 1), valV kv' (Sum.inr m) = some (.bl (lowB0 sts wl a b m))) ∧
        [some (.ref d), some (.ref wd), some (.ref lt), some (.ref lv), some (.ref F), some (.str q.1), none, none, none] = [some (.ref d), some (.ref wd), some (.ref lt), some (.ref lv), some (.ref F), c, none, none, none] := by
      rintro f rfl
      refine ⟨sB.trans (SX.mut List.mem_cons_self), _, _, upd_same, ?_, fun m hm => ?_, rfl⟩
      · have := length_putK kv (Sum.inr q.1) (.bl (lowB0 sts wl a b q.1))
        omega
      · rw [valV_put]
        by_cases e : m = q.1
        · subst e
          rw [if_pos rfl]
        · rw [if_neg fun z => e (Sum.inr.inj z)]
          rw [take_succ_of hq1] at hm
          rcases List.mem_append.mp hm with h | h
          · exact vk m h
          · exact absurd (List.mem_singleton.mp h) e
    walk_at "rd"
    refine x_dg' rdB ev ?_
    walk_at "rd"
    refine x_ixT htp h0 ?_
    walk_at "rd"
    rw [kind_end]
    refine x_cases (fun c1 => ?_) (fun c1 => ?_)
    · have mw : q.1 ∈ wl.map (·.1) := (wk _).mpr (by
        rw [endsOf_eq C.nd, List.mem_filter]
        exact ⟨List.mem_map.mpr ⟨q, getMem hq, rfl⟩, by rw [est]; exact c1⟩)
      obtain ⟨x, ex⟩ := lookA_some mw
      obtain ⟨vv, e1, rfl⟩ := hwk.at_ ex
      obtain ⟨b0, b1⟩ := wb _ (lookA_mem ex)
      walk_at "rd"
      refine x_dg' (lB.rd _ _ trivial hwr) e1 ?_
      walk_at "rd"
      refine x_ixT (lB.t hlv) (v := .int b) (atI_nat (j := 1) rfl) ?_
      refine x_I (.inl ⟨by omega, by omega⟩) ?_
      walk_at "rd"
      refine x_ixT (lB.t hlv) (v := .int a) (atI_nat (j := 0) rfl) ?_
      walk_at "rd"
      refine ⟨F, _, rfl, DPut.k (k := Sum.inr q.1) FB (lt_size (by omega)), ?_⟩
      exact fin _ (by unfold lowB0; rw [est]; show _ = if isEnd q.2 = true then _ else _; rw [if_pos c1, ex])
    · walk_at "rd"
      refine ⟨F, _, rfl, DPut.k (k := Sum.inr q.1) FB (lt_size (by omega)), ?_⟩
      exact fin _ (by unfold lowB0; rw [est]; show _ = if isEnd q.2 = true then _ else _; rw [if_neg (by rw [c1]; exact Bool.false_ne_true)])
  rintro σ B ⟨sB, kv, c, FB, lk, vk, rfl⟩
  rw [fulltake] at vk
  have eLB := sB _ _ (by simpa using Ne.symm nFd) eL
  refine ⟨eLB, ?_⟩
  have sA1 : SX [] H (put B d (H1 d)) := sx_nil_of (S := [F]) ((nil_sx s1).trans (unlock_sx ne sB)) (by simp [hF])
  have FA1 : (put B d (H1 d)) F = some (.dK kv) := by rw [put_ne nFd]; exact FB
  generalize put B d (H1 d) = A1 at sA1 FA1
  walk_at "rd"
  refine x_lenD (sA1.le0.rd _ _ trivial hrd) ?_
  walk_at "rd"
  rw [hkl]
  refine x_rng1 (by omega) (by omega) ?_
  have e0 : (sts.length : Int).toNat = sts.length := by omega
  rw [e0]
  clear sB eLB FB
  refine for_it walk_rng (fun i σ A => ∃ (kv : List (Key × V)) (bd : List Str) (c1 c2 c3 : Option V), SX [] H A ∧ A F = some (.dK kv) ∧ kv.length ≤ 1000 ∧ (∀ m ∈ sts.map (·.1), valV kv (Sum.inr m) = some (.bl (decide (m ∈ bd)))) ∧ bd.Nodup ∧ (∀ m ∈ bd, m ∈ sts.map (·.1)) ∧
      (∀ m ∈ bd, BadP (belowP wl a b) ns sts m) ∧ (∀ m ∈ sts.map (·.1), lowB0 sts wl a b m = true → m ∈ bd) ∧ (i ≤ bd.length ∨ closedB sts ns bd) ∧
      σ = [some (.ref d), some (.ref wd), some (.ref lt), some (.ref lv), some (.ref F), c1, c2, c3, none])
    ⟨kv, (sts.map (·.1)).filter (lowB0 sts wl a b), c, none, none, sA1, FA1, by omega, fun m hm => ?_, List.Nodup.sublist List.filter_sublist C.nd, fun m hm => (List.mem_filter.mp hm).1, fun m hm => ?_, fun m hm h => List.mem_filter.mpr ⟨hm, h⟩, .inl (Nat.zero_le _), rfl⟩ (fun _ _ _ _ _ => trivial) ?_ ?_
  · rw [vk m hm]
    congr 2
    rw [Bool.eq_iff_iff, decide_eq_true_iff, List.mem_filter]
    exact ⟨fun h => ⟨hm, h⟩, fun h => h.2⟩
  · obtain ⟨h1, h2⟩ := lowB0_iff.mp (List.mem_filter.mp hm).2
    exact .base h1 h2
  · rintro i z σ A0 A hi ⟨kv, bd, c1, c2, c3, sA, FA, lk, vk, nB, kB, pB, bB, gB, rfl⟩ ⟨rfl, rfl⟩
    have rdA : Rd A d (.dK kvs) := sA.le0.rd _ _ trivial hrd
    walk_at "rd"
    refine x_lockR rdA fun od2 HL2 eL2 ne2 => ?_
    have leL2 : Le H HL2 := sA.le0.trans (lock_le rdA eL2 ne2)
    have lF2 : Le H (hid [F] HL2) := le_into leL2 hF'
    walk_at "rd"
    refine x_itk eL2 ?_
    refine for_it (walk_keysR hk) (fun n σ B => ∃ (kv2 : List (Key × V)) (bd2 : List Str) (c1 c3 : Option V), SX [F] HL2 B ∧ B F = some (.dK kv2) ∧ kv2.length ≤ 1000 ∧ (∀ m ∈ sts.map (·.1), valV kv2 (Sum.inr m) = some (.bl (decide (m ∈ bd2)))) ∧ bd2.Nodup ∧ (∀ m ∈ bd2, m ∈ sts.map (·.1)) ∧
        (∀ m ∈ bd2, BadP (belowP wl a b) ns sts m) ∧ (∀ m ∈ bd, m ∈ bd2) ∧ ((bd2 = bd ∧ ∀ m ∈ (sts.map (·.1)).take n, ∀ st, lookA sts m = some st → drawnB ns bd st = true → m ∈ bd) ∨ (bd.length < bd2.length ∧ ¬ closedB sts ns bd)) ∧
        σ = [some (.ref d), some (.ref wd), some (.ref lt), some (.ref lv), some (.ref F), c1, some (.int (i : Int)), c3, none])
      ⟨kv, bd, c1, c3, SX.refl _, by rw [ne2 _ nFd]; exact FA, lk, vk, nB, kB, pB, fun _ h => h, .inl ⟨rfl, fun _ h => nomatch h⟩, rfl⟩ (fun _ _ _ _ h => by obtain ⟨_, _, _, _, h, _⟩ := h; exact h _ _ (by simpa using Ne.symm nFd) eL2) ?_ ?_
    · rintro j z σ B0 B hj ⟨kv2, bd2, c4, c5, sB, FB, lk2, vk2, nB2, kB2, pB2, sub, alt, rfl⟩ ⟨rfl, q, v0, hq, rfl, _⟩
      obtain ⟨n, st⟩ := q
      have hq1 : (sts.map (·.1))[j]? = some n := by rw [List.getElem?_map, hq]; rfl
      have est : lookA sts n = some st := lookA_nodup C.nd (getMem hq)
      obtain ⟨cnd, csz, cto⟩ := C.all _ (getMem hq)
      have lB : Le H B := (lF2.trans sB.le).trans le_hid
      have vn := vk2 n (key_of' est)
      have next : ∀ m ∈ (sts.map (·.1)).take (j + 1), m ∈ (sts.map (·.1)).take j ∨ m = n := fun m hm => by
        rw [take_succ_of hq1] at hm
        rcases List.mem_append.mp hm with h | h
        · exact .inl h
        · exact .inr (List.mem_singleton.mp h)
      -- nothing new
      have same : ∀ (B' : Hp) (kv' : List (Key × V)) (c3 : Option V), SX [F] HL2 B' → B' F = some (.dK kv') → kv'.length ≤ 1000 → (∀ m ∈ sts.map (·.1), valV kv' (Sum.inr m) = some (.bl (decide (m ∈ bd2)))) → (drawnB ns bd2 st = true → n ∈ bd2) →
          ∃ (kv2 : List (Key × V)) (bd2 : List Str) (c1 c3' : Option V), SX [F] HL2 B' ∧ B' F = some (.dK kv2) ∧ kv2.length ≤ 1000 ∧ (∀ m ∈ sts.map (·.1), valV kv2 (Sum.inr m) = some (.bl (decide (m ∈ bd2)))) ∧ bd2.Nodup ∧ (∀ m ∈ bd2, m ∈ sts.map (·.1)) ∧
            (∀ m ∈ bd2, BadP (belowP wl a b) ns sts m) ∧ (∀ m ∈ bd, m ∈ bd2) ∧ ((bd2 = bd ∧ ∀ m ∈ (sts.map (·.1)).take (j + 1), ∀ st, lookA sts m = some st → drawnB ns bd st = true → m ∈ bd) ∨ (bd.length < bd2.length ∧ ¬ closedB sts ns bd)) ∧
            [some (.ref d), some (.ref wd), some (.ref lt), some (.ref lv), some (.ref F), some (.str n), some (.int (i : Int)), c3, none] = [some (.ref d), some (.ref wd), some (.ref lt), some (.ref lv), some (.ref F), c1, some (.int (i : Int)), c3', none] := by
        intro B' kv' c3 h1 h2 h3 h4 h5
        refine ⟨kv', bd2, _, _, h1, h2, h3, h4, nB2, kB2, pB2, sub, alt.imp (fun h => ⟨h.1, fun m hm st' e' d' => ?_⟩) id, rfl⟩
        rcases next m hm with h' | rfl
        · exact h.2 m h' st' e' d'
        · rw [est] at e'
          cases e'
          rw [h.1] at h5
          exact h5 d'
      have grow : drawnB ns bd2 st = true → n ∉ bd2 → ∀ (B' : Hp) (kv' : List (Key × V)) (c3 : Option V), SX [F] HL2 B' → B' F = some (.dK kv') → kv'.length ≤ 1000 → (∀ m ∈ sts.map (·.1), valV kv' (Sum.inr m) = some (.bl (decide (m ∈ bd2 ++ [n])))) →
          ∃ (kv2 : List (Key × V)) (bd2 : List Str) (c1 c3' : Option V), SX [F] HL2 B' ∧ B' F = some (.dK kv2) ∧ kv2.length ≤ 1000 ∧ (∀ m ∈ sts.map (·.1), valV kv2 (Sum.inr m) = some (.bl (decide (m ∈ bd2)))) ∧ bd2.Nodup ∧ (∀ m ∈ bd2, m ∈ sts.map (·.1)) ∧
            (∀ m ∈ bd2, BadP (belowP wl a b) ns sts m) ∧ (∀ m ∈ bd, m ∈ bd2) ∧ ((bd2 = bd ∧ ∀ m ∈ (sts.map (·.1)).take (j + 1), ∀ st, lookA sts m = some st → drawnB ns bd st = true → m ∈ bd) ∨ (bd.length < bd2.length ∧ ¬ closedB sts ns bd)) ∧
            [some (.ref d), some (.ref wd), some (.ref lt), some (.ref lv), some (.ref F), some (.str n), some (.int (i : Int)), c3, none] = [some (.ref d), some (.ref wd), some (.ref lt), some (.ref lv), some (.ref F), c1, some (.int (i : Int)), c3', none] := by
        intro dr nn B' kv' c3 h1 h2 h3 h4
        refine ⟨kv', bd2 ++ [n], _, _, h1, h2, h3, h4, nd_snoc nB2 nn, fun m hm => ?_, fun m hm => ?_, fun m hm => List.mem_append_left _ (sub m hm), .inr ⟨?_, fun cl => ?_⟩, rfl⟩
        · rcases List.mem_append.mp hm with h | h
          · exact kB2 m h
          · cases List.mem_singleton.mp h
            exact key_of' est
        · rcases List.mem_append.mp hm with h | h
          · exact pB2 m h
          · cases List.mem_singleton.mp h
            exact badP_drawn pB2 est dr
        · rw [List.length_append]
          have := nodup_sub nB sub
          exact Nat.lt_succ_of_le this
        · rcases alt with h | h
          · rw [h.1] at dr nn
            exact nn (cl n st est dr)
          · exact h.2 cl
      have wr : n ∉ bd2 → ∀ f : Bool, f = drawnB ns bd2 st → ∀ (B' : Hp) (c3 : Option V), SX [F] HL2 B' → B' F = some (.dK kv2) →
          ∃ (kv2' : List (Key × V)) (bd2 : List Str) (c1 c3' : Option V), SX [F] HL2 (upd B' F (.dK (putK kv2 (Sum.inr n) (.bl f)))) ∧ (upd B' F (.dK (putK kv2 (Sum.inr n) (.bl f)))) F = some (.dK kv2') ∧ kv2'.length ≤ 1000 ∧ (∀ m ∈ sts.map (·.1), valV kv2' (Sum.inr m) = some (.bl (decide (m ∈ bd2)))) ∧ bd2.Nodup ∧ (∀ m ∈ bd2, m ∈ sts.map (·.1)) ∧
            (∀ m ∈ bd2, BadP (belowP wl a b) ns sts m) ∧ (∀ m ∈ bd, m ∈ bd2) ∧ ((bd2 = bd ∧ ∀ m ∈ (sts.map (·.1)).take (j + 1), ∀ st, lookA sts m = some st → drawnB ns bd st = true → m ∈ bd) ∨ (bd.length < bd2.length ∧ ¬ closedB sts ns bd)) ∧
            [some (.ref d), some (.ref wd), some (.ref lt), some (.ref lv), some (.ref F), some (.str n), some (.int (i : Int)), c3, none] = [some (.ref d), some (.ref wd), some (.ref lt), some (.ref lv), some (.ref F), c1, some (.int (i : Int)), c3', none] := by
        intro nn f ef B' c3 h1 h2
        have lp : (putK kv2 (Sum.inr n) (.bl f)).length ≤ 1000 := by rw [putK_len_in vn]; exact lk2
        cases f with
        | false =>
          refine same _ _ c3 (h1.trans (SX.mut List.mem_cons_self)) upd_same lp (fun m hm => ?_) (fun h => by rw [h] at ef; cases ef)
          rw [valV_put]
          by_cases e : m = n
          · subst e
            rw [if_pos rfl, decide_eq_false nn]
          · rw [if_neg fun z => e (Sum.inr.inj z)]
            exact vk2 m hm
        | true =>
          refine grow ef.symm nn _ _ c3 (h1.trans (SX.mut List.mem_cons_self)) upd_same lp fun m hm => ?_
          rw [valV_put]
          by_cases e : m = n
          · subst e
            rw [if_pos rfl, decide_eq_true (List.mem_append_right _ List.mem_cons_self)]
          · rw [if_neg fun z => e (Sum.inr.inj z), vk2 m hm]
            congr 2
            rw [Bool.eq_iff_iff, decide_eq_true_iff, decide_eq_true_iff, List.mem_append, List.mem_singleton]
            exact ⟨.inl, fun h => h.resolve_right e⟩
      have rdB : rD (rStand K) B (.ref d) sts := mono_D (mono_stand K) _ _ _ _ lB hd
      walk_at "rd"
      refine ⟨d, n, sts, st, rfl, rdB, est, fun p B1 ys hp t1 ep pp sy => ?_⟩
      refine x_itl (sqL ep) fun D hD => ?_
      have FB1 := t1 _ _ List.not_mem_nil FB
      have rl : st.rows.length = st.size := by rw [rows_tos_len, tos_len]
      have yl : ys.length = st.rows.length := by rw [pp.length_eq, List.length_map]
      have stt : ∀ t ∈ st.tos, t ∈ sts.map (·.1) := cto
      refine lc_it (walk_listR (R := rS) (Hb := H) (paired_S' ys)) (fun m A => SX [] B1 A ∧ A D = some (.lst (((ys.take m).map fun z => decide ((lookA st.rows z).getD default ∈ bd2)).map V.bl))) ⟨SX.new hD, upd_same⟩ (fun m A _ h => sqL (h.1 _ _ List.not_mem_nil ep)) ?_ ?_
      · rintro m y C0 C1 hm ⟨u1, u2⟩ ⟨rfl, z, hz, rfl⟩
        obtain ⟨to, eto⟩ := lookA_some (pp.mem_iff.mp (getMem hz))
        have mto : to ∈ sts.map (·.1) := stt to (by rw [← rows_tos]; exact List.mem_map.mpr ⟨(z, to), lookA_mem eto, rfl⟩)
        walk_at "rd"
        refine ⟨rfl, ?_⟩
        walk_at "rd"
        refine ⟨d, n, z, to, sts, st, rfl, mono_D (mono_stand K) _ _ _ _ (lB.trans (t1.trans u1).le0) hd, est, eto, ?_⟩
        refine x_dg' (.inl (u1 _ _ List.not_mem_nil FB1)) (vk2 to mto) ?_
        refine ⟨_, u2, lt_size (by rw [List.length_map, List.length_map, List.length_take]; change st.size ≤ 4 at csz; omega), sx_nil_of (S := [D]) ((nil_sx u1).trans (SX.mut List.mem_cons_self)) (by simp [hD]), ?_⟩
        rw [upd_same, take_succ_of hz, List.map_append, List.map_append]
        show some (HO.lst (_ ++ [V.bl (decide (to ∈ bd2))])) = some (HO.lst (_ ++ [V.bl (decide ((lookA st.rows z).getD default ∈ bd2))]))
        rw [eto]
        rfl
      · rintro C1 ⟨u1, u2⟩
        rw [List.take_length] at u2
        have FC := u1 _ _ List.not_mem_nil FB1
        have sC : SX [F] HL2 C1 := sB.trans (nil_sx (t1.trans u1))
        have lC : Le H C1 := lB.trans (t1.trans u1).le0
        walk_at "rd"
        refine x_lenL' (sqL u2) ?_
        walk_at "rd"
        rw [List.length_map, List.length_map, yl]
        by_cases ne0 : st.rows.length = 0
        · refine x_false (decide_eq_false (by omega)) ?_
          walk_at "rd"
          exact same _ _ _ sC FC lk2 vk2 fun h => by unfold drawnB at h; rw [if_pos ne0] at h; cases h
        · refine x_true (decide_eq_true (by omega)) ?_
          walk_at "rd"
          refine x_dg' (.inl FC) vn ?_
          walk_at "rd"
          by_cases nb : n ∈ bd2
          · rw [decide_eq_true nb]
            walk_at "rd"
            exact same _ _ _ sC FC lk2 vk2 fun _ => nb
          · rw [decide_eq_false nb]
            walk_at "rd"
            refine ⟨d, n, sts, st, rfl, mono_D (mono_stand K) _ _ _ _ lC hd, est, ?_⟩
            walk_at "rd"
            refine ⟨lt, _, rfl, .inr (lC.t hlt), by cases st <;> rfl, flat_ints ns, ?_⟩
            rw [inV_mover]
            walk_at "rd"
            refine x_cases (fun c6 => ?_) (fun c6 => ?_)
            · have c6 : moverIn ns st = true := by simpa using c6
              walk_at "rd"
              refine ⟨D, _, rfl, sqL u2, ?_⟩
              walk_at "rd"
              refine ⟨F, _, rfl, DPut.k (k := Sum.inr n) FC (lt_size (by omega)), ?_⟩
              exact wr nb _ (drawn_all cnd pp ne0 c6) _ _ sC FC
            · have c6 : moverIn ns st = false := by simpa using c6
              walk_at "rd"
              refine ⟨D, _, rfl, sqL u2, ?_⟩
              walk_at "rd"
              refine ⟨F, _, rfl, DPut.k (k := Sum.inr n) FC (lt_size (by omega)), ?_⟩
              exact wr nb _ (drawn_any cnd pp ne0 c6) _ _ sC FC
    · rintro σ B ⟨kv2, bd2, c4, c5, sB, FB, lk2, vk2, nB2, kB2, pB2, sub, alt, rfl⟩
      rw [fulltake] at alt
      refine ⟨sB _ _ (by simpa using Ne.symm nFd) eL2, kv2, bd2, _, _, _, sx_nil_of (S := [F]) ((nil_sx sA).trans (unlock_sx ne2 sB)) (by simp [hF]), by rw [put_ne nFd]; exact FB, lk2, vk2, nB2, kB2, pB2, fun m hm h => sub m (bB m hm h), ?_, rfl⟩
      rcases alt with ⟨rfl, h⟩ | ⟨h1, h2⟩
      · exact .inr fun n st e d' => h n (key_of' e) st e d'
      · rcases gB with g | g
        · exact .inl (by omega)
        · exact absurd g h2
  · rintro σ A ⟨kv, bd, c1, c2, c3, sA, FA, lk, vk, nB, kB, pB, bB, gB, rfl⟩
    walk_at "rd"
    have cl : closedB sts ns bd := by
      rcases gB with g | g
      · intro n st e _
        refine Classical.byContradiction fun nn => ?_
        have := nodup_sub (nd_snoc nB nn) (m := sts.map (·.1)) fun m hm => by
          rcases List.mem_append.mp hm with h | h
          · exact kB m h
          · cases List.mem_singleton.mp h
            exact key_of' e
        rw [List.length_append, List.length_map] at this
        change bd.length + 1 ≤ _ at this
        omega
      · exact g
    exact k F A kv hF sA FA fun n hn => ⟨_, vk n hn, by
      rw [decide_eq_true_iff]
      exact ⟨pB n, badP_in (fun m e h => bB m (key_of' e) (lowB0_iff.mpr ⟨e, h⟩)) cl⟩⟩
end
end M

namespace M
open PySem PySem.Spec PyProof.Rows L2
theorem lookA_perm {α : Type} {l m : List (Str × α)} (p : l.Perm m) (hn : (m.map (·.1)).Nodup) (n : Str) : lookA l n = lookA m n := by
  cases e : lookA l n with
  | some a => exact (lookA_nodup hn (p.mem_iff.mp (lookA_mem e))).symm
  | none =>
    have : n ∉ m.map (·.1) := fun h => by
      obtain ⟨a, ea⟩ := lookA_some ((p.map (·.1)).mem_iff.mpr h)
      rw [e] at ea
      cases ea
    exact (lookA_none this).symm
theorem srt_mover {ns : List Int} {st st' : Stand} (ss : SrtStand st st') : moverIn ns st' = moverIn ns st := by
  cases st <;> cases st' <;> first | exact ss.elim | rfl | (have := ss.1; subst this; rfl)
theorem srt_end {st st' : Stand} (ss : SrtStand st st') : isEnd st' = isEnd st := by
  cases st <;> cases st' <;> first | exact ss.elim | rfl
theorem badP_back {bel : Str → Prop} {ns : List Int} {sts tbl : List (Str × Stand)} (h : ∀ n st, lookA tbl n = some st → ∃ st', lookA sts n = some st' ∧ SrtStand st' st) {n : Str} (b : BadP bel ns tbl n) : BadP bel ns sts n := by
  induction b with
  | base e b =>
    obtain ⟨st', e', ss⟩ := h _ _ e
    cases st' with
    | fin => exact .base e' b
    | hand a c => exact ss.elim
    | chance c => exact ss.elim
  | @all n st e m h0 _ ih =>
    obtain ⟨st', e', ss⟩ := h _ _ e
    refine .all e' (by rw [← srt_mover ss]; exact m) (by rw [rows_tos_len, ← (SrtStand.tos ss).length_eq, ← rows_tos_len]; exact h0) fun t ht => ih t ((SrtStand.tos ss).mem_iff.mpr ht)
  | @any n t st e m ht _ ih =>
    obtain ⟨st', e', ss⟩ := h _ _ e
    exact .any e' (by rw [← srt_mover ss]; exact m) ((SrtStand.tos ss).mem_iff.mp ht) ih
section
variable {hands : Int} {start : Str} {sts tbl : List (Str × Stand)} {wl tb : List (Str × Int)}
theorem Tbl.back (t : Tbl sts tbl) (n : Str) (st : Stand) (e : lookA tbl n = some st) : ∃ st', lookA sts n = some st' ∧ SrtStand st' st := t.all _ (lookA_mem e)
theorem Tbl.on (t : Tbl sts tbl) (n : Str) (st : Stand) (e : lookA sts n = some st) : ∃ st', lookA tbl n = some st' ∧ SrtStand st st' := by
  obtain ⟨st', e'⟩ := lookA_some (t.perm.mem_iff.mpr (key_of' e))
  obtain ⟨st2, e2, ss⟩ := t.back n st' e'
  rw [e] at e2
  cases e2
  exact ⟨st', e', ss⟩
theorem ends_tbl (o : WorkOk hands start sts) (t : Tbl sts tbl) (h : (wl.map (·.1)).Perm (endsOf sts)) (s : Srt wl tb) : tb.map (·.1) = endsOf tbl := by
  have tnd : (tbl.map (·.1)).Nodup := t.perm.nodup_iff.mpr o.nd
  refine List.Perm.eq_of_pairwise (fun a b _ _ h1 h2 => leS_antisymm h1 h2) (sortedS_pw s.srt) ((sortedS_pw t.srt).sublist (List.filter_sublist.map _)) ((s.perm.map _).trans (h.trans ?_))
  rw [endsOf_eq o.nd, endsOf_eq tnd]
  have e : (sts.map (·.1)).filter (fun n => match lookA sts n with | some st => isEnd st | none => false) = (sts.map (·.1)).filter (fun n => match lookA tbl n with | some st => isEnd st | none => false) := by
    refine List.filter_congr fun n hn => ?_
    obtain ⟨st, e1⟩ := lookA_some hn
    obtain ⟨st', e2, ss⟩ := t.on n st e1
    rw [e1, e2]
    exact (srt_end ss).symm
  exact (List.Perm.of_eq e).trans (t.perm.symm.filter _)
theorem bad_iff (o : WorkOk hands start sts) (t : Tbl sts tbl) (hn : (wl.map (·.1)).Nodup) (s : Srt wl tb) {a b : Int} {ns : List Int} {n : Str} : BadP (belowP tb a b) ns tbl n ↔ BadP (belowP wl a b) ns sts n := by
  have e : belowP tb a b = belowP wl a b := by
    funext m
    unfold belowP
    rw [lookA_perm s.perm hn m]
  rw [e]
  exact ⟨badP_back t.back, badP_tbl t.on⟩
theorem rg_full {n : Int} (h : 0 ≤ n) : rgV 0 n = ((List.range n.toNat).map fun i => ((i : Nat) : Int)).map V.int := by
  unfold rgV
  rw [List.map_map, Int.sub_zero]
  refine List.map_congr_left fun i _ => ?_
  show V.int (0 + (i : Int)) = V.int (i : Int)
  rw [Int.zero_add]
end
end M

namespace M
open PySem PySem.Spec PyProof.Rows L2
/-- the steps that a book lets -/
def letS (bk : List (Str × List Str)) (s : Str) (st : Stand) : List Str := match lookA bk s with
  | some l => l
  | none => st.rows.map (·.1)
theorem kvs_unit {H : Hp} : ∀ {kq : List (Key × V)} {ks : List Str}, kq.map (·.1) = ks.map Sum.inr → KVs (fun _ _ (_ : Unit) => True) H kq (ks.map fun s => (s, ()))
  | [], [], _ => .nil
  | [], _ :: _, h => by cases h
  | _ :: _, [], h => by cases h
  | a :: kq, s :: ks, h => by
    rw [List.map_cons, List.map_cons] at h
    injection h with h1 h2
    exact .cons ⟨h1, trivial⟩ (kvs_unit (H := H) h2)
theorem merge1' {a : Str} {u : V} : mergeK [] [((Sum.inr a : Key), u)] = [(Sum.inr a, u)] := rfl
/-- a book -/
structure BookG (tbl : List (Str × Stand)) (bk : List (Str × List Str)) : Prop where
  nd : (bk.map (·.1)).Nodup
  each : ∀ q ∈ bk, ∃ h ms, lookA tbl q.1 = some (.hand h ms) ∧ q.2 ≠ [] ∧ q.2.length ≤ 4 ∧ q.2.Pairwise ltS ∧ ∀ z ∈ q.2, z ∈ (Stand.hand h ms).rows.map (·.1)
theorem BookOk.g {bel : Str → Prop} {ns : List Int} {tbl : List (Str × Stand)} {bk : List (Str × List Str)} (b : BookOk bel ns tbl bk) : BookG tbl bk := ⟨b.nd, fun q hq => by
  obtain ⟨st, e, m, _, h1, h2, h3, h4⟩ := b.each q hq
  cases st with
  | fin => cases m
  | chance ds => cases m
  | hand h ms => exact ⟨h, ms, e, h1, h2, h3, fun z hz => by
      obtain ⟨u, eu, _⟩ := (h4 z).mp hz
      exact key_of' eu⟩⟩
theorem BookG.let_rows {tbl : List (Str × Stand)} {bk : List (Str × List Str)} (b : BookG tbl bk) {n : Str} {st : Stand} (e : lookA tbl n = some st) {z : Str} (hz : z ∈ letS bk n st) : ∃ to, lookA st.rows z = some to := by
  unfold letS at hz
  cases el : lookA bk n with
  | none =>
    rw [el] at hz
    exact lookA_some hz
  | some l =>
    rw [el] at hz
    obtain ⟨h, ms, e2, _, _, _, h4⟩ := b.each _ (lookA_mem el)
    rw [e] at e2
    cases e2
    exact lookA_some (h4 z hz)
theorem book_goes {bel : Str → Prop} {ns : List Int} {start : Str} {tbl : List (Str × Stand)} {bk : List (Str × List Str)} (to : TbOk start tbl) (bo : BookOk bel ns tbl bk) {n : Str} {st : Stand} (e : lookA tbl n = some st) (nb : ¬ BadP bel ns tbl n) {z : Str} (hz : z ∈ letS bk n st) :
    ∃ u, lookA st.rows z = some u ∧ u ∈ tbl.map (·.1) ∧ ¬ BadP bel ns tbl u := by
  have cl : ∀ u, lookA st.rows z = some u → u ∈ st.tos := fun u eu => by
    rw [← rows_tos]
    exact List.mem_map.mpr ⟨(z, u), lookA_mem eu, rfl⟩
  unfold letS at hz
  cases el : lookA bk n with
  | some l =>
    rw [el] at hz
    obtain ⟨st', e', _, _, _, _, _, h⟩ := bo.each _ (lookA_mem el)
    rw [e] at e'
    cases e'
    obtain ⟨u, eu, nu⟩ := (h z).mp hz
    exact ⟨u, eu, (to.look e).2.2.1 u (cl u eu), nu⟩
  | none =>
    rw [el] at hz
    obtain ⟨u, eu⟩ := lookA_some hz
    refine ⟨u, eu, (to.look e).2.2.1 u (cl u eu), fun bu => ?_⟩
    have m : moverIn ns st = false := by
      rw [← Bool.not_eq_true]
      intro m
      obtain ⟨l, e2⟩ := lookA_some (bo.all n st e m nb)
      rw [el] at e2
      cases e2
    exact nb (.any e m (cl u eu) bu)
/-- what comes by let steps -/
inductive LetR (tbl : List (Str × Stand)) (bk : List (Str × List Str)) (start : Str) : Str → Prop
  | base : LetR tbl bk start start
  | step {n z to : Str} {st : Stand} : LetR tbl bk start n → lookA tbl n = some st → z ∈ letS bk n st → lookA st.rows z = some to → LetR tbl bk start to
theorem LetR.key {start : Str} {tbl : List (Str × Stand)} {bk : List (Str × List Str)} (to : TbOk start tbl) {n : Str} (r : LetR tbl bk start n) : n ∈ tbl.map (·.1) := by
  induction r with
  | base => exact to.st
  | @step n z u st _ e _ eu _ =>
    refine (to.look e).2.2.1 u ?_
    rw [← rows_tos]
    exact List.mem_map.mpr ⟨(z, u), lookA_mem eu, rfl⟩
/-- no let run ends below -/
def keepsP (bel : Str → Prop) (tbl : List (Str × Stand)) (bk : List (Str × List Str)) (start : Str) : Prop := ∀ n, LetR tbl bk start n → lookA tbl n = some .fin → ¬ bel n
/-- where a way began -/
def WayOk (A : Hp) (kw : List (Key × V)) (ks : List Str) (i : Nat) (n : Str) : Prop := (i = 0 ∧ valV kw (Sum.inr n) = some .non) ∨ ∃ j s z t, j < i ∧ ks[j]? = some s ∧ valV kw (Sum.inr n) = some (.ref t) ∧ A t = some (.tup [.str s, .str z])
theorem WayOk.on {A B : Hp} {kw : List (Key × V)} {ks more : List Str} {i : Nat} {n u : Str} {v : V} (h : WayOk A kw ks i n) (hn : n ≠ u) (s : ∀ t xs, A t = some (.tup xs) → B t = some (.tup xs)) : WayOk B (putK kw (Sum.inr u) v) (ks ++ more) i n := by
  have e : valV (putK kw (Sum.inr u) v) (Sum.inr n) = valV kw (Sum.inr n) := by
    rw [valV_put, if_neg fun z => hn (Sum.inr.inj z)]
  rcases h with ⟨a, b⟩ | ⟨j, s', z, t, h1, h2, h3, h4⟩
  · exact .inl ⟨a, by rw [e]; exact b⟩
  · refine .inr ⟨j, s', z, t, h1, ?_, by rw [e]; exact h3, s _ _ h4⟩
    rw [List.getElem?_append_left (List.getElem?_eq_some_iff.mp h2).1]
    exact h2
theorem WayOk.sx {A B : Hp} {kw : List (Key × V)} {ks : List Str} {i : Nat} {n : Str} (h : WayOk A kw ks i n) (s : SX [] A B) : WayOk B kw ks i n := by
  rcases h with h | ⟨j, s', z, t, h1, h2, h3, h4⟩
  · exact .inl h
  · exact .inr ⟨j, s', z, t, h1, h2, h3, s _ _ List.not_mem_nil h4⟩
section
variable {P : Program} {w : World} {K : PySem.W.Frag} {mg : Str → Option Value} {base : Heap}
theorem x_pcons' {tk tv : TE} {r : List (TE × TE)} {σ : L2.St} {H : Hp} {Q : List (V × V) → Hp → Prop} (k : tk σ H fun x H1 => tv σ H1 fun y H2 => tPairs r σ H2 fun ps H3 => Q ((x, y) :: ps) H3) : tPairs ((tk, tv) :: r) σ H Q := k
theorem x_pnil' {σ : L2.St} {H : Hp} {Q : List (V × V) → Hp → Prop} (k : Q [] H) : tPairs [] σ H Q := k
def sp_is_entry (T : Tx K mg) : Sp := fun vs H Q _ => ∃ (sl rt : Addr) (ys l : List Str), vs = [.ref sl, .ref rt] ∧ SqL K H sl (ys.map V.str) ∧ H rt = some (.tup (l.map V.str)) ∧ l ≠ [] ∧ l.length ≤ 4 ∧ (∀ z ∈ l, z ∈ ys) ∧ l.Pairwise ltS ∧
  ∀ H', SX [] H H' → Q (.bl true) H'
theorem ok_is_entry (T : Tx K mg) : FnOk P w K mg base CX0 1 T.is_entry.f T.is_entry.fd P_is_entry (sp_is_entry T) := by
  refine T.is_entry.F.ok sc_is_entry (fun vs H Q E h => ?_) (fun cdv A outer s H vs Q E hr h => ?_)
  · obtain ⟨sl, rt, ys, l, rfl, hs, ht, hne, hl, hall, hpw, k⟩ := h
    rfl
  have hu := hu_of hr
  have nd := sc_is_entry.nd
  obtain ⟨sl, rt, ys, l, rfl, hs, ht, hne, hl, hall, hpw, k⟩ := h
  refine ⟨_, (pss_cons (ps_if (PW.pt (pw_or (pt_not (pt_val (pe_callB (w_isi (K := K) rfl) (by rfl) T.b_isinstance (by decide +kernel) (pa_cons (pv 1) (pa_cons (pe_bltn (v := .ty "tuple") (by rfl) T.b_tuple (by decide +kernel) rfl) pa_nil))))) (pw_or1 (pt_cmpR op_eq (pe_callB (w_len (K := K) rfl) (by rfl) T.b_len (by decide +kernel) (pa_cons (pv 1) pa_nil)) pe_int (nomark _))))) (pss_one (ps_ret pe_bl)) pss_nil)
      (pss_cons (ps_for PassesOwn.never rfl (w_enumA (K := K) rfl (by rfl) T.b_enumerate (pa_cons (pv 1) pa_nil)) (w_pgtup (K := K) (n := 2) rfl (by rfl) (pgs_cons (pg_name (i := 2) nd rfl (Or.inl rfl)) (pgs_cons (pg_name (i := 3) nd rfl (Or.inl rfl)) pgs_nil)) (by rfl) (by rfl)) (pss_cons (ps_if (PW.pt (pw_or (pt_not (pt_val (pe_callB (w_isi (K := K) rfl) (by rfl) T.b_isinstance (by decide +kernel) (pa_cons (pv 3) (pa_cons (pe_bltn (v := .ty "str") (by rfl) T.b_str (by decide +kernel) rfl) pa_nil))))) (pw_or1 (pt_cmpR (w_nin (K := K) rfl) (pv 3) (pv 0) (by rfl))))) (pss_one (ps_ret pe_bl)) pss_nil)
      (pss_one (ps_if (PW.pt (pw_and (pt_cmpR op_gt (pv 2) pe_int (nomark _)) (pw_and1 (pt_cmpR op_ge_str (pe_ix (w_ixT (K := K) rfl) (pv 1) (pe_op op_sub (pv 2) pe_int) (fun _ _ => rfl)) (pv 3) (nomark _))))) (pss_one (ps_ret pe_bl)) pss_nil))))
      (pss_one (ps_ret pe_bl)))), ?_⟩
  refine x_start (σ' := [some _, some _, none, none]) rfl ?_
  try simp only [cx_n, cx_K, cx_w, cx_P]
  have l0 : l.length ≠ 0 := fun z => hne (List.eq_nil_of_length_eq_zero z)
  walk_at "rd"
  refine x_isiT (ty_tup (sqT ht)) (by decide +kernel) ?_
  walk_at "rd"
  refine x_lenT' (sqT ht) ?_
  walk_at "rd"
  rw [List.length_map]
  refine x_false (decide_eq_false fun z => by injection z with z; omega) ?_
  walk_at "rd"
  refine x_iEnumA ?_
  walk_at "rd"
  refine ⟨rt, l.map V.str, rfl, .inr ht, fun J wk => ?_⟩
  rw [List.length_map] at wk
  refine for_it wk (fun i σ A => ∃ (c e : Option V), SX [] H A ∧ σ = [some (.ref sl), some (.ref rt), c, e]) ⟨none, none, SX.refl _, rfl⟩ (fun i σ A _ h => by obtain ⟨_, _, s, _⟩ := h; rw [ht]; exact s _ _ List.not_mem_nil ht) ?_ ?_
  · rintro i y σ A A' hi ⟨c, e, sA, rfl⟩ ⟨t, y1, hy, rfl, htn, rfl⟩
    obtain ⟨s, hs', rfl⟩ : ∃ s, l[i]? = some s ∧ V.str s = y1 := by
      rw [List.getElem?_map] at hy
      cases e1 : l[i]? with
      | none => rw [e1] at hy; cases hy
      | some s => rw [e1] at hy; cases hy; exact ⟨s, rfl, rfl⟩
    have sT : SX [] A (upd A t (.tup [.int (i : Int), .str s])) := SX.new htn
    have sAT := sA.trans sT
    walk_at "rd"
    refine x_isiT (.base (.str _)) (by decide +kernel) ?_
    walk_at "rd"
    refine ⟨sl, _, rfl, .inl (sAT.le0.l hs), rfl, flat_strs ys, ?_⟩
    rw [inV_strD, decide_eq_true (hall s (getMem hs'))]
    walk_at "rd"
    refine x_false (by rfl) ?_
    walk_at "rd"
    refine x_cases (fun c1 => ?_) (fun c1 => ?_)
    · have i1 : 1 ≤ i := by
        have := of_decide_eq_true c1
        omega
      have ib : i - 1 < l.length := by have := getLt hs'; omega
      have ei : (i : Int) - 1 = ((i - 1 : Nat) : Int) := by omega
      walk_at "rd"
      rw [ei]
      refine x_ixT (sAT.le0.t (sqT ht)) (atI_nat (j := i - 1) (by rw [List.getElem?_map, List.getElem?_eq_getElem ib]; rfl)) ?_
      walk_at "rd"
      refine ⟨_, _, rfl, rfl, ?_⟩
      have lt : (l[i - 1]'ib).cps.toList < s.cps.toList := by
        have ij := getLt hs'
        have := List.pairwise_iff_getElem.mp hpw (i - 1) i ib ij (by omega)
        rw [List.getElem?_eq_getElem ij] at hs'
        injection hs' with hs'
        rw [hs'] at this
        exact this
      rw [decide_eq_true lt]
      walk_at "rd"
      exact ⟨_, _, sAT, rfl⟩
    · walk_at "rd"
      exact ⟨_, _, sAT, rfl⟩
  · rintro σ A ⟨c, e, sA, rfl⟩
    walk_at "rd"
    exact k A sA
def sp_is_book (T : Tx K mg) : Sp := fun vs H Q _ => ∃ (x b : Addr) (hands : Int) (start : Str) (tbl : List (Str × Stand)) (kv : List (Key × V)) (bk : List (Str × List Str)), vs = [.ref x, .ref b] ∧ WorkAt T H x hands start tbl ∧ H b = some (.dK kv) ∧ KVs rTS H kv bk ∧ BookG tbl bk ∧
  ∀ H', SX [] H H' → Q (.bl true) H'
theorem ok_is_book (T : Tx K mg) : FnOk P w K mg base CX0 3 T.is_book.f T.is_book.fd P_is_book (sp_is_book T) := by
  refine T.is_book.F.ok sc_is_book (fun vs H Q E h => ?_) (fun cdv A outer s H vs Q E hr h => ?_)
  · obtain ⟨x, b, hands, start, tbl, kv, bk, rfl, wa, hb, hkv, bo, k⟩ := h
    rfl
  have hu := hu_of hr
  have nd := sc_is_book.nd
  obtain ⟨x, b, hands, start, tbl, kv, bk, rfl, wa, hb, hkv, bo, k⟩ := h
  refine ⟨_, (pss_cons (ps_if (pt_not (pt_val (pe_callB (w_isi (K := K) rfl) (by rfl) T.b_isinstance (by decide +kernel) (pa_cons (pv 1) (pa_cons (pe_bltn (v := .ty "dict") (by rfl) T.b_dict (by decide +kernel) rfl) pa_nil))))) (pss_one (ps_ret pe_bl)) pss_nil)
      (pss_cons (ps_lockR (ps_for PassesOwn.never rfl (pi_keys (pv 1)) (pg_name (i := 2) nd rfl (Or.inl rfl)) (pss_cons (ps_if (PW.pt (pw_or (pt_not (pt_val (pe_callB (w_isi (K := K) rfl) (by rfl) T.b_isinstance (by decide +kernel) (pa_cons (pv 2) (pa_cons (pe_bltn (v := .ty "str") (by rfl) T.b_str (by decide +kernel) rfl) pa_nil))))) (pw_or (pt_cmpR (w_nin (K := K) rfl) (pv 2) (w_fld (K := K) rfl (pv 0) rfl) (by rfl)) (pw_or1 (pt_cmpR op_ne (pe_meth (pv 0) T.cl_Work T.me_Work_kind (ok_Work_kind T) (hr.mono (by decide)) T.Work_kind.B .nil pass0 (pa_cons (pv 2) pa_nil)) pe_str (nomark _)))))) (pss_one (ps_ret pe_bl)) pss_nil)
      (pss_one (ps_if (pt_not (pt_val (pe_call (ok_is_entry T) (hr.mono (by decide)) (by rfl) T.is_entry.g T.is_entry.F.kp T.is_entry.B .nil pass0 (pa_cons (pe_meth (pv 0) T.cl_Work T.me_Work_steps (ok_Work_steps T) (hr.mono (by decide)) T.Work_steps.B .nil pass0 (pa_cons (pv 2) pa_nil)) (pa_cons (pe_dget hu (pv 1) (pv 2) (fun _ _ => rfl)) pa_nil))))) (pss_one (ps_ret pe_bl)) pss_nil)))))
      (pss_one (ps_ret pe_bl)))), ?_⟩
  refine x_start (σ' := [some _, some _, none]) rfl ?_
  try simp only [cx_n, cx_K, cx_w, cx_P]
  walk_at "rd"
  refine x_isiT (ty_dict (.inl hb)) (by decide +kernel) ?_
  walk_at "rd"
  refine x_lockR (.inl hb) fun od HL eL ne => ?_
  have leL : Le H HL := lock_le (.inl hb) eL ne
  have hkL := KVs.le mono_TS leL hkv
  walk_at "rd"
  refine x_itk eL ?_
  refine for_it (walk_keysR hkL) (fun i σ A => SX [] HL A ∧ ∃ c, σ = [some (.ref x), some (.ref b), c]) ⟨SX.refl _, _, rfl⟩ (fun _ _ _ _ h => h.1 _ _ List.not_mem_nil eL) ?_ ?_
  · rintro i z σ A0 A hi ⟨sA, c, rfl⟩ ⟨rfl, q, v, hq, rfl, _⟩
    obtain ⟨h, ms, est, lne, l4, pw, eac⟩ := bo.each q (getMem hq)
    have waA := (wa.le leL).le sA.le0
    obtain ⟨dx, d, nm, en, hx, _, hnm, _⟩ := id waA.ex
    walk_at "rd"
    refine x_isiT (.base (.str _)) (by decide +kernel) ?_
    walk_at "rd"
    refine x_getF hx T.cl_Work T.n_Work_names (look_next (by decide +kernel) (look_next (by decide +kernel) (look_next (by decide +kernel) look_here))) ?_
    refine ⟨nm, _, rfl, .inr hnm, rfl, flat_strs _, ?_⟩
    rw [inV_strD, decide_eq_true (key_of' est)]
    walk_at "rd"
    refine x_false (by rfl) ?_
    walk_at "rd"
    refine x_meth ?_
    walk_at "rd"
    refine x_me hx (work_none (by decide +kernel)) ?_
    walk_at "rd"
    refine ⟨x, hands, start, q.1, tbl, _, rfl, waA, est, ?_⟩
    walk_at "rd"
    walk_at "if!"
    walk_at "rd"
    refine x_meth ?_
    walk_at "rd"
    refine x_me hx (work_none (by decide +kernel)) ?_
    walk_at "rd"
    refine ⟨x, hands, start, q.1, tbl, _, rfl, waA, est, fun p B ys hp sB ep pp sy => ?_⟩
    walk_at "rd"
    obtain ⟨v', ev, t', rfl, ht'⟩ := hkL.in_ bo.nd (getMem hq)
    refine x_dg' (.inr ⟨od, (sA.trans sB) _ _ List.not_mem_nil eL⟩) ev ?_
    walk_at "rd"
    refine ⟨p, t', ys, q.2, rfl, sqL ep, (sA.trans sB) _ _ List.not_mem_nil ht', lne, l4, fun z hz => ?_, pw, fun H' s' => ?_⟩
    · exact pp.mem_iff.mpr (eac z hz)
    · walk_at "rd"
      exact ⟨(sA.trans sB).trans s', _, rfl⟩
  · rintro σ A ⟨sA, c, rfl⟩
    refine ⟨sA _ _ List.not_mem_nil eL, ?_⟩
    walk_at "rd"
    exact k _ (unlock_sx ne sA)
def sp_let_steps (T : Tx K mg) : Sp := fun vs H Q _ => ∃ (x b : Addr) (hands : Int) (start s : Str) (tbl : List (Str × Stand)) (st : Stand) (kv : List (Key × V)) (bk : List (Str × List Str)), vs = [.ref x, .ref b, .str s] ∧ WorkAt T H x hands start tbl ∧ lookA tbl s = some st ∧ H b = some (.dK kv) ∧ KVs rTS H kv bk ∧
  ∀ (p : Addr) (H' : Hp) (ys : List Str), H p = none → SX [] H H' → H' p = some (.lst (ys.map V.str)) → (∀ z, z ∈ ys ↔ z ∈ letS bk s st) → Q (.ref p) H'
theorem ok_let_steps (T : Tx K mg) : FnOk P w K mg base CX0 3 T.let_steps.f T.let_steps.fd P_let_steps (sp_let_steps T) := by
  refine T.let_steps.F.ok sc_let_steps (fun vs H Q E h => ?_) (fun cdv A outer s H vs Q E hr h => ?_)
  · obtain ⟨x, b, hands, start, s, tbl, st, kv, bk, rfl, wa, est, hb, hkv, k⟩ := h
    rfl
  have hu := hu_of hr
  have nd := sc_let_steps.nd
  obtain ⟨x, b, hands, start, s, tbl, st, kv, bk, rfl, wa, est, hb, hkv, k⟩ := h
  refine ⟨_, (pss_cons (ps_if (pt_cmp (pc_din hu (pv 2) (pv 1))) (pss_one (ps_ret (pe_callTy (w_list (K := K) rfl) (by rfl) T.b_list (by decide +kernel) (pa_cons (pe_dget hu (pv 1) (pv 2) (fun _ _ => rfl)) pa_nil)))) pss_nil)
      (pss_one (ps_ret (pe_meth (pv 0) T.cl_Work T.me_Work_steps (ok_Work_steps T) (hr.mono (by decide)) T.Work_steps.B .nil pass0 (pa_cons (pv 2) pa_nil))))), ?_⟩
  refine x_start (σ' := [some _, some _, some _]) rfl ?_
  try simp only [cx_n, cx_K, cx_w, cx_P]
  obtain ⟨dx, d, nm, en, hx, _⟩ := id wa.ex
  walk_at "rd"
  refine x_din' (.inl hb) ?_
  rcases hkv.look s with ⟨v, l, ev, el, t, rfl, ht⟩ | ⟨ev, el⟩
  · rw [ev]
    walk_at "rd"
    refine x_true (by rfl) ?_
    walk_at "rd"
    refine x_dg' (.inl hb) ev ?_
    walk_at "rd"
    refine x_clistT (sqT ht) fun p hp => ?_
    refine k p _ l hp (SX.new hp) upd_same fun z => ?_
    unfold letS
    rw [el]
  · rw [ev]
    walk_at "rd"
    refine x_false (by rfl) ?_
    walk_at "rd"
    refine x_meth ?_
    walk_at "rd"
    refine x_me hx (work_none (by decide +kernel)) ?_
    walk_at "rd"
    refine ⟨x, hands, start, s, tbl, st, rfl, wa, est, fun p H1 ys hp s1 ep pp sy => ?_⟩
    refine k p H1 ys hp s1 ep fun z => ?_
    unfold letS
    rw [el]
    exact pp.mem_iff
def sp_let_ways (T : Tx K mg) : Sp := fun vs H Q _ => ∃ (x b : Addr) (hands : Int) (start : Str) (tbl : List (Str × Stand)) (kv : List (Key × V)) (bk : List (Str × List Str)), vs = [.ref x, .ref b] ∧ WorkAt T H x hands start tbl ∧ TbOk start tbl ∧ H b = some (.dK kv) ∧ KVs rTS H kv bk ∧ BookG tbl bk ∧
  ∀ (q : Addr) (H' : Hp) (kw : List (Key × V)) (ks : List Str), H q = none → SX [] H H' → H' q = some (.dK kw) → kw.map (·.1) = ks.map Sum.inr → ks.Nodup → (∀ n, n ∈ ks ↔ LetR tbl bk start n) → (∀ i n, ks[i]? = some n → WayOk H' kw ks i n) → Q (.ref q) H'
theorem ok_let_ways (T : Tx K mg) : FnOk P w K mg base CX0 4 T.let_ways.f T.let_ways.fd P_let_ways (sp_let_ways T) := by
  refine T.let_ways.F.ok sc_let_ways (fun vs H Q E h => ?_) (fun cdv A outer s H vs Q E hr h => ?_)
  · obtain ⟨x, b, hands, start, tbl, kv, bk, rfl, wa, tok, hb, hkv, bo, k⟩ := h
    rfl
  have hu := hu_of hr
  have nd := sc_let_ways.nd
  obtain ⟨x, b, hands, start, tbl, kv, bk, rfl, wa, tok, hb, hkv, bo, k⟩ := h
  refine ⟨_, (pss_cons (ps_set (i := 2) nd rfl (Or.inl rfl) (pe_disp (pps_cons (w_fld (K := K) rfl (pv 0) rfl) pe_non pps_nil) (by rfl) (by rfl) (fun z => by cases z) (by decide)))
      (pss_cons (ps_set (i := 3) nd rfl (Or.inl rfl) (pe_lst (pa_cons (w_fld (K := K) rfl (pv 0) rfl) pa_nil)))
      (pss_cons (ps_set (i := 4) nd rfl (Or.inl rfl) pe_int)
      (pss_cons (ps_while PassesOwn.never (pt_cmpR op_lt (pv 4) (pe_callB (w_len (K := K) rfl) (by rfl) T.b_len (by decide +kernel) (pa_cons (pv 3) pa_nil)) (nomark _)) (pss_cons (ps_set (i := 5) nd rfl (Or.inl rfl) (pe_ix (w_ixL (K := K) rfl) (pv 3) (pv 4) (fun _ _ => rfl)))
      (pss_cons (ps_for PassesOwn.never rfl (w_pilist (K := K) rfl (pe_call (ok_let_steps T) (hr.mono (by decide)) (by rfl) T.let_steps.g T.let_steps.F.kp T.let_steps.B .nil pass0 (pa_cons (pv 0) (pa_cons (pv 1) (pa_cons (pv 5) pa_nil))))) (pg_name (i := 6) nd rfl (Or.inl rfl)) (pss_cons (ps_set (i := 7) nd rfl (Or.inl rfl) (pe_meth (pv 0) T.cl_Work T.me_Work_to (ok_Work_to T) (hr.mono (by decide)) T.Work_to.B .nil pass0 (pa_cons (pv 5) (pa_cons (pv 6) pa_nil))))
      (pss_one (ps_if (pt_cmp (pc_dnotin hu (pv 7) (pv 2))) (pss_cons (ps_dput hu (pv 2) (pv 7) (pe_tup (pa_cons (pv 5) (pa_cons (pv 6) pa_nil))) rfl)
      (pss_one (ps_expr (pe_bm PySem.F.plainAttrs_list PySem.F.slot_list_append PySem.F.type_list_append mt_append (pv 3) (pa_cons (pv 7) pa_nil))))) pss_nil))))
      (pss_one (ps_aug (i := 4) nd rfl (Or.inl rfl) pe_int ip_add)))))
      (pss_one (ps_ret (pv 2))))))), ?_⟩
  refine x_start (σ' := [some _, some _, none, none, none, none, none, none]) rfl ?_
  try simp only [cx_n, cx_K, cx_w, cx_P]
  obtain ⟨dx, d, nm, en, hx, _⟩ := id wa.ex
  walk_at "rd"
  intro wy hwy
  have sw : SX [] H (upd H wy (.dK [])) := SX.new hwy
  refine x_pcons' ?_
  walk_at "rd"
  refine x_getF (sw _ _ List.not_mem_nil hx) T.cl_Work T.n_Work_start work_start ?_
  walk_at "rd"
  refine x_pnil' ?_
  refine ⟨upd_same, [(Sum.inr start, .non)], rfl, Nat.le_of_ble_eq_true rfl, ?_⟩
  rw [merge1', upd_upd]
  have s0 : SX [] H (upd H wy (.dK [(Sum.inr start, .non)])) := SX.new hwy
  have w0 : (upd H wy (.dK [(Sum.inr start, .non)])) wy = some (.dK [(Sum.inr start, .non)]) := upd_same
  generalize upd H wy (.dK [(Sum.inr start, V.non)]) = H1 at s0 w0
  walk_at "rd"
  refine x_getF (s0 _ _ List.not_mem_nil hx) T.cl_Work T.n_Work_start work_start ?_
  walk_at "rd"
  refine ⟨Nat.le_of_ble_eq_true rfl, fun wt hwt => ?_⟩
  walk_at "rd"
  have nwt : wy ≠ wt := ne_of_none w0 hwt
  have hwt0 : H wt = none := s0.free hwt List.not_mem_nil
  have s1 : SX [] H (upd H1 wt (.lst [.str start])) := s0.trans (SX.new hwt)
  refine x_while (fun σ A => ∃ (kw : List (Key × V)) (ks : List Str) (j : Nat) (c1 c2 c3 : Option V), SX [] H A ∧ A wy = some (.dK kw) ∧ kw.map (·.1) = ks.map Sum.inr ∧ A wt = some (.lst (ks.map V.str)) ∧ ks.Nodup ∧ (∀ n ∈ ks, LetR tbl bk start n) ∧ j ≤ ks.length ∧
      (∀ i n, ks[i]? = some n → WayOk A kw ks i n) ∧ start ∈ ks ∧ (∀ i n, i < j → ks[i]? = some n → ∀ st, lookA tbl n = some st → ∀ z ∈ letS bk n st, ∀ to, lookA st.rows z = some to → to ∈ ks) ∧
      σ = [some (.ref x), some (.ref b), some (.ref wy), some (.ref wt), some (.int (j : Int)), c1, c2, c3])
    (fun σ _ => match σ with | [_, _, _, _, some (.int j), _, _, _] => 101 - j.toNat | _ => 0)
    ⟨[(Sum.inr start, .non)], [start], 0, none, none, none, s1, by rw [upd_ne nwt]; exact w0, rfl, upd_same, List.nodup_cons.mpr ⟨List.not_mem_nil, List.nodup_nil⟩, (fun n hn => by cases List.mem_singleton.mp hn; exact .base), Nat.zero_le _, (fun i n hn => by
      cases i with
      | zero =>
        injection hn with hn
        subst hn
        exact .inl ⟨rfl, valV_pos rfl⟩
      | succ i => cases hn), List.mem_cons_self, (fun i n hi => absurd hi (Nat.not_lt_zero _)), rfl⟩ ?_ ?_
  · rintro σ A ⟨kw, ks, j, c1, c2, c3, sA, wA, ek, tA, nA, gA, jA, yA, stA, clA, rfl⟩
    have ksl : ks.length ≤ 100 := by
      have := nodup_sub nA fun n h => (gA n h).key tok
      rw [List.length_map] at this
      have := tok.len
      omega
    walk_at "rd"
    refine x_lenL' (sqL tA) ?_
    walk_at "rd"
    rw [List.length_map]
    refine x_cases (fun c => ?_) (fun c => ?_)
    · have c : j < ks.length := by
        have := of_decide_eq_true c
        omega
      obtain ⟨n, hn⟩ : ∃ n, ks[j]? = some n := ⟨ks[j], by simp [c]⟩
      obtain ⟨st, est⟩ := lookA_some ((gA n (getMem hn)).key tok)
      walk_at "rd"
      refine x_ixL (sqL tA) (atI_nat (by rw [List.getElem?_map, hn]; rfl)) ?_
      walk_at "rd"
      refine ⟨x, b, hands, start, n, tbl, st, kv, bk, rfl, wa.le sA.le0, est, sA _ _ List.not_mem_nil hb, KVs.le mono_TS sA.le0 hkv, fun p B ys hp sB ep my => ?_⟩
      refine x_itl (sqL ep) ?_
      have nwp : wy ≠ p := ne_of_none wA hp
      have ntp : wt ≠ p := ne_of_none tA hp
      refine for_it (walk_listR (R := rS) (Hb := H) (paired_S' ys)) (fun i σ C => ∃ (kw : List (Key × V)) (ks2 : List Str) (c2 c3 : Option V), SX [] H C ∧ C p = some (.lst (ys.map V.str)) ∧ C wy = some (.dK kw) ∧ kw.map (·.1) = ks2.map Sum.inr ∧ C wt = some (.lst (ks2.map V.str)) ∧ ks2.Nodup ∧ (∀ n ∈ ks2, LetR tbl bk start n) ∧ (∃ more, ks2 = ks ++ more) ∧
          (∀ i n, ks2[i]? = some n → WayOk C kw ks2 i n) ∧ (∀ z ∈ ys.take i, ∀ to, lookA st.rows z = some to → to ∈ ks2) ∧
          σ = [some (.ref x), some (.ref b), some (.ref wy), some (.ref wt), some (.int (j : Int)), some (.str n), c2, c3])
        ⟨kw, ks, c2, c3, sA.trans sB, ep, sB _ _ List.not_mem_nil wA, ek, sB _ _ List.not_mem_nil tA, nA, gA, ⟨[], (List.append_nil _).symm⟩, (fun i n hi => (yA i n hi).sx sB), (fun _ h => nomatch h), rfl⟩ (fun i σ C _ h => by obtain ⟨_, _, _, _, _, h, _⟩ := h; exact sqL h) ?_ ?_
      · rintro i z0 σ C0 C hi ⟨kw2, ks2, c4, c5, sC, pC, wC, ek2, tC, n2, g2, ⟨more, em⟩, y2, d2, rfl⟩ ⟨rfl, z, hz, rfl⟩
        have zl := (my z).mp (getMem hz)
        obtain ⟨u, eu⟩ := bo.let_rows est zl
        have gu : LetR tbl bk start u := .step (gA n (getMem hn)) est zl eu
        have waC := wa.le sC.le0
        obtain ⟨dx3, d3, nm3, en3, hx3, _⟩ := id waC.ex
        have next : ∀ m ∈ ys.take (i + 1), m ∈ ys.take i ∨ m = z := fun m hm => by
          rw [take_succ_of hz] at hm
          rcases List.mem_append.mp hm with h | h
          · exact .inl h
          · exact .inr (List.mem_singleton.mp h)
        walk_at "rd"
        refine x_meth ?_
        walk_at "rd"
        refine x_me hx3 (work_none (by decide +kernel)) ?_
        walk_at "rd"
        refine ⟨x, hands, start, n, z, u, tbl, st, rfl, waC, est, eu, ?_⟩
        walk_at "rd"
        refine x_dni' (.inl wC) ?_
        rw [keys_val ek2]
        walk_at "rd"
        refine x_cases (fun c => ?_) (fun c => ?_)
        · have nu : u ∉ ks2 := by simpa using c
          have ks2l : ks2.length ≤ 100 := by
            have := nodup_sub n2 fun n h => (g2 n h).key tok
            rw [List.length_map] at this
            have := tok.len
            omega
          have kw2l : kw2.length = ks2.length := by simpa using congrArg List.length ek2
          walk_at "rd"
          refine ⟨Nat.le_of_ble_eq_true rfl, fun t ht => ?_⟩
          have sT : SX [] C (upd C t (.tup [.str n, .str z])) := SX.new ht
          walk_at "rd"
          refine ⟨wy, _, rfl, DPut.k (k := Sum.inr u) (sT _ _ List.not_mem_nil wC) (lt_size (by omega)), ?_⟩
          walk_at "rd"
          have epk := putK_fresh (V.ref t) ek2 nu
          have tC3 : (upd (upd C t (.tup [.str n, .str z])) wy (.dK (putK kw2 (Sum.inr u) (V.ref t)))) wt = some (.lst (ks2.map V.str)) := by
            rw [upd_ne (Ne.symm nwt)]
            exact sT _ _ List.not_mem_nil tC
          refine ⟨.inl ⟨rfl, _, sqL tC3⟩, ?_⟩
          walk_at "rd"
          refine ⟨wt, _, _, rfl, rfl, tC3, lt_size (by rw [List.length_map]; omega), ?_⟩
          have keep : ∀ t' xs, C t' = some (.tup xs) → (upd (upd (upd C t (.tup [.str n, .str z])) wy (.dK (putK kw2 (Sum.inr u) (V.ref t)))) wt (.lst (ks2.map V.str ++ [V.str u]))) t' = some (.tup xs) := fun t' xs h => by
            have h1 : t' ≠ wt := ne_of h tC (by intro z; cases z)
            have h2 : t' ≠ wy := ne_of h wC (by intro z; cases z)
            rw [upd_ne h1, upd_ne h2]
            exact sT _ _ List.not_mem_nil h
          have htw : t ≠ wt := fun e => by rw [e, tC] at ht; cases ht
          have hty : t ≠ wy := fun e => by rw [e, wC] at ht; cases ht
          refine ⟨putK kw2 (Sum.inr u) (V.ref t), ks2 ++ [u], _, _, sx_nil_of (S := [wy, wt]) ((nil_sx (sC.trans sT)).trans ((SX.mut (by simp)).trans (SX.mut (by simp)))) (by simp [hwy, hwt0]), ?_, ?_, ?_, ?_, nd_snoc n2 nu, fun m hm => ?_, ⟨more ++ [u], by rw [em, List.append_assoc]⟩, fun i' m hm => ?_, fun m hm to eto => ?_, rfl⟩
          · rw [upd_ne (Ne.symm ntp), upd_ne (Ne.symm nwp)]
            exact sT _ _ List.not_mem_nil pC
          · rw [upd_ne nwt, upd_same]
          · rw [epk, List.map_append, ek2, List.map_append]
            rfl
          · rw [upd_same, List.map_append]
            rfl
          · rcases List.mem_append.mp hm with h | h
            · exact g2 m h
            · cases List.mem_singleton.mp h
              exact gu
          · by_cases hi' : i' < ks2.length
            · rw [List.getElem?_append_left hi'] at hm
              exact (y2 i' m hm).on (fun e => nu (e ▸ getMem hm)) keep
            · have : i' = ks2.length := by
                have := (List.getElem?_eq_some_iff.mp hm).1
                rw [List.length_append] at this
                change i' < ks2.length + 1 at this
                omega
              subst this
              rw [List.getElem?_append_right (Nat.le_refl _), Nat.sub_self] at hm
              injection hm with hm
              subst hm
              refine .inr ⟨j, n, z, t, by rw [em, List.length_append]; omega, ?_, by rw [valV_put, if_pos rfl], by rw [upd_ne htw, upd_ne hty, upd_same]⟩
              rw [em, List.append_assoc, List.getElem?_append_left (getLt hn)]
              exact hn
          · rcases next m hm with h | rfl
            · exact List.mem_append_left _ (d2 m h to eto)
            · rw [eu] at eto
              cases eto
              exact List.mem_append_right _ List.mem_cons_self
        · have nu : u ∈ ks2 := by simpa using c
          walk_at "rd"
          refine ⟨kw2, ks2, _, _, sC, pC, wC, ek2, tC, n2, g2, ⟨more, em⟩, y2, fun m hm to eto => ?_, rfl⟩
          rcases next m hm with h | rfl
          · exact d2 m h to eto
          · rw [eu] at eto
            cases eto
            exact nu
      · rintro σ C ⟨kw2, ks2, c4, c5, sC, pC, wC, ek2, tC, n2, g2, ⟨more, em⟩, y2, d2, rfl⟩
        rw [List.take_length] at d2
        walk_at "rd"
        refine ⟨⟨kw2, ks2, j + 1, _, _, _, sC, wC, ek2, tC, n2, g2, by rw [em, List.length_append]; omega, y2, by rw [em]; exact List.mem_append_left _ stA, fun i' m hi' hm st' e' z hz to eto => ?_, rfl⟩, ?_⟩
        · have hm' : ks[i']? = some m := by
            rw [em, List.getElem?_append_left (by omega)] at hm
            exact hm
          by_cases hj : i' < j
          · rw [em]
            exact List.mem_append_left _ (clA i' m hj hm' st' e' z hz to eto)
          · have : i' = j := by omega
            subst this
            rw [hn] at hm'
            cases hm'
            rw [est] at e'
            cases e'
            exact d2 z ((my z).mpr hz) to eto
        · show 101 - ((j : Int) + 1).toNat < 101 - ((j : Int)).toNat
          omega
    · have jl : j = ks.length := by
        have := of_decide_eq_false c
        omega
      walk_at "rd"
      refine k wy A kw ks hwy sA wA ek nA (fun n => ⟨gA n, fun r => ?_⟩) yA
      induction r with
      | base => exact stA
      | @step m z to st' _ e' hz eto ih =>
        obtain ⟨i', hi'⟩ := List.getElem?_of_mem ih
        exact clA i' m (by rw [jl]; exact (List.getElem?_eq_some_iff.mp hi').1) hi' st' e' z hz to eto
  · rintro σ A Q1 Q2 hm ⟨v, hv, w, hw, x5, n5, e5, l5, i, j, e1, e2, c, hc, q⟩
    exact ⟨v, hv, w, hw, x5, n5, e5, l5, i, j, e1, e2, c, hc, hm _ _ q⟩
theorem x_revL {te : TE} {σ : L2.St} {H : Hp} {Q : VK} (k : te σ H fun x H1 => ∃ a xs, x = .ref a ∧ SqL K H1 a xs ∧ ∀ p, H1 p = none → Q (.ref p) (upd H1 p (.lst xs.reverse))) : tRevL K te σ H Q := k
def sp_way_to (T : Tx K mg) : Sp := fun vs H Q _ => ∃ (q : Addr) (n0 : Str) (kw : List (Key × V)) (ks : List Str), vs = [.ref q, .str n0] ∧ Rd H q (.dK kw) ∧ (∀ i n, ks[i]? = some n → WayOk H kw ks i n) ∧ ks.length ≤ 100 ∧ n0 ∈ ks ∧
  ∀ p H', H p = none → SX [] H H' → Q (.ref p) H'
theorem ok_way_to (T : Tx K mg) : FnOk P w K mg base CX0 1 T.way_to.f T.way_to.fd P_way_to (sp_way_to T) := by
  refine T.way_to.F.ok sc_way_to (fun vs H Q E h => ?_) (fun cdv A outer s H vs Q E hr h => ?_)
  · obtain ⟨q, n0, kw, ks, rfl, hq, hy, hl, hn0, k⟩ := h
    rfl
  have hu := hu_of hr
  have nd := sc_way_to.nd
  obtain ⟨q, n0, kw, ks, rfl, hq, hy, hl, hn0, k⟩ := h
  refine ⟨_, (pss_cons (ps_set (i := 2) nd rfl (Or.inl rfl) (pe_lst pa_nil))
      (pss_cons (ps_set (i := 3) nd rfl (Or.inl rfl) (pv 1))
      (pss_cons (ps_while PassesOwn.never (pt_cmpR op_notNo (pe_dget hu (pv 0) (pv 3) (fun _ _ => rfl)) pe_non (nomark _)) (pss_cons (ps_asg (pe_dget hu (pv 0) (pv 3) (fun _ _ => rfl)) (w_pgtup (K := K) (n := 2) rfl (by rfl) (pgs_cons (pg_name (i := 3) nd rfl (Or.inl rfl)) (pgs_cons (pg_name (i := 4) nd rfl (Or.inl rfl)) pgs_nil)) (by rfl) (by rfl)))
      (pss_one (ps_expr (pe_bm PySem.F.plainAttrs_list PySem.F.slot_list_append PySem.F.type_list_append mt_append (pv 2) (pa_cons (pv 4) pa_nil))))))
      (pss_one (ps_ret (w_revL (K := K) rfl (pv 2))))))), ?_⟩
  refine x_start (σ' := [some _, some _, none, none, none]) rfl ?_
  try simp only [cx_n, cx_K, cx_w, cx_P]
  walk_at "rd"
  refine ⟨Nat.le_of_ble_eq_true rfl, fun wl hwl => ?_⟩
  walk_at "rd"
  have s1 : SX [] H (upd H wl (.lst [])) := SX.new hwl
  obtain ⟨i0, hi0⟩ := List.getElem?_of_mem hn0
  refine x_while (fun σ A => ∃ (i : Nat) (n : Str) (xs : List Str) (c : Option V), SX [] H A ∧ A wl = some (.lst (xs.map V.str)) ∧ ks[i]? = some n ∧ xs.length + i ≤ 100 ∧ σ = [some (.ref q), some (.str n0), some (.ref wl), some (.str n), c])
    (fun _ A => match A wl with | some (.lst l) => 101 - l.length | _ => 0)
    ⟨i0, n0, [], none, s1, upd_same, hi0, by have := (List.getElem?_eq_some_iff.mp hi0).1; show 0 + i0 ≤ 100; omega, rfl⟩ ?_ ?_
  · rintro σ A ⟨i, n, xs, c, sA, wA, hi, li, rfl⟩
    have rA : Rd A q (.dK kw) := sA.le0.rd _ _ trivial hq
    walk_at "rd"
    rcases (hy i n hi).sx sA with ⟨_, ev⟩ | ⟨j, s, z, t, hji, hj, ev, et⟩
    · refine x_dg' rA ev ?_
      walk_at "rd"
      refine x_false (by rfl) ?_
      walk_at "rd"
      refine x_revL ?_
      walk_at "rd"
      exact ⟨wl, _, rfl, sqL wA, fun p hp => k p _ (sA.free hp List.not_mem_nil) (sA.trans (SX.new hp))⟩
    · refine x_dg' rA ev ?_
      walk_at "rd"
      refine x_true (by rfl) ?_
      walk_at "rd"
      refine x_dg' rA ev ?_
      refine x_gtup (sqT et) rfl ?_
      walk_at "rd"
      refine ⟨.inl ⟨rfl, _, sqL wA⟩, ?_⟩
      walk_at "rd"
      refine ⟨wl, _, _, rfl, rfl, wA, lt_size (by rw [List.length_map]; omega), ?_⟩
      refine ⟨⟨j, s, xs ++ [z], _, sx_nil_of (S := [wl]) ((nil_sx sA).trans (SX.mut List.mem_cons_self)) (by simp [hwl]), by rw [upd_same, List.map_append]; rfl, hj, by rw [List.length_append]; show xs.length + 1 + j ≤ 100; omega, rfl⟩, ?_⟩
      show (match (upd A wl (.lst (xs.map V.str ++ [V.str z]))) wl with | some (.lst l) => 101 - l.length | _ => 0) < (match A wl with | some (.lst l) => 101 - l.length | _ => 0)
      rw [upd_same, wA]
      show 101 - (xs.map V.str ++ [V.str z]).length < 101 - (xs.map V.str).length
      rw [List.length_append, List.length_map]
      show 101 - (xs.length + 1) < 101 - xs.length
      omega
  · rintro σ A Q1 Q2 hm ⟨v, hv, w, hw, a5, v5, e5, d5, e6, c, hc, q⟩
    exact ⟨v, hv, w, hw, a5, v5, e5, d5, e6, c, hc, hm _ _ q⟩
def sp_checked_book (T : Tx K mg) : Sp := fun vs H Q _ => ∃ (x y lv bd : Addr) (hands : Int) (start : Str) (tbl : List (Str × Stand)) (tb : List (Str × Int)) (e : Int) (cm : Bool) (a b : Int) (kv : List (Key × V)) (bk : List (Str × List Str)), vs = [.ref x, .ref y, .ref lv, .ref bd] ∧
  WorkAt T H x hands start tbl ∧ WishAt T H y tb e cm ∧ SqT K H lv [.int a, .int b] ∧ TbOk start tbl ∧ TwOk tbl tb ∧ FracOk a b ∧ H bd = some (.dK kv) ∧ KVs rTS H kv bk ∧ BookG tbl bk ∧
  ∀ H', SX [] H H' → Q .non H'
theorem ok_checked_book (T : Tx K mg) : FnOk P w K mg base CX0 4 T.checked_book.f T.checked_book.fd P_checked_book (sp_checked_book T) := by
  refine T.checked_book.F.ok sc_checked_book (fun vs H Q E h => ?_) (fun cdv A outer s H vs Q E hr h => ?_)
  · obtain ⟨x, y, lv, bd, hands, start, tbl, tb, e, cm, a, b, kv, bk, rfl, wa, wi, hlv, to, tw, fr, hb, hkv, bo, k⟩ := h
    rfl
  have hu := hu_of hr
  have nd := sc_checked_book.nd
  obtain ⟨x, y, lv, bd, hands, start, tbl, tb, e, cm, a, b, kv, bk, rfl, wa, wi, hlv, to, tw, fr, hb, hkv, bo, k⟩ := h
  refine ⟨_, (pss_cons (ps_expr (pe_call (ok_suited T) (hr.mono (by decide)) (by rfl) T.suited.g T.suited.F.kp T.suited.B .nil pass0 (pa_cons (pv 0) (pa_cons (pv 1) pa_nil))))
      (pss_cons (ps_if (pt_not (pt_val (pe_call (ok_is_fraction T) (hr.mono (by decide)) (by rfl) T.is_fraction.g T.is_fraction.F.kp T.is_fraction.B .nil pass0 (pa_cons (pv 2) pa_nil)))) (pss_one ps_never) pss_nil)
      (pss_one (ps_if (pt_not (pt_val (pe_call (ok_is_book T) (hr.mono (by decide)) (by rfl) T.is_book.g T.is_book.F.kp T.is_book.B .nil pass0 (pa_cons (pv 0) (pa_cons (pv 3) pa_nil))))) (pss_one ps_never) pss_nil)))), ?_⟩
  refine x_start (σ' := [some _, some _, some _, some _]) rfl ?_
  try simp only [cx_n, cx_K, cx_w, cx_P]
  walk_at "rd"
  refine ⟨x, y, hands, start, tbl, tb, e, cm, rfl, wa, wi, tw.key, to.ends, fun H1 s1 => ?_⟩
  walk_at "rd"
  refine ⟨lv, a, b, rfl, s1.le0.t hlv, fr, fun H2 s2 => ?_⟩
  walk_at "rd"
  have s12 := s1.trans s2
  refine ⟨x, bd, hands, start, tbl, kv, bk, rfl, wa.le s12.le0, s12 _ _ List.not_mem_nil hb, KVs.le mono_TS s12.le0 hkv, bo, fun H3 s3 => ?_⟩
  walk_at "rd"
  exact k _ (s12.trans s3)
def sp_breaking (T : Tx K mg) : Sp := fun vs H Q _ => ∃ (x y lv bd : Addr) (hands : Int) (start : Str) (tbl : List (Str × Stand)) (tb : List (Str × Int)) (e : Int) (cm : Bool) (a b : Int) (kv : List (Key × V)) (bk : List (Str × List Str)), vs = [.ref x, .ref y, .ref lv, .ref bd] ∧
  WorkAt T H x hands start tbl ∧ WishAt T H y tb e cm ∧ SqT K H lv [.int a, .int b] ∧ TbOk start tbl ∧ TwOk tbl tb ∧ FracOk a b ∧ H bd = some (.dK kv) ∧ KVs rTS H kv bk ∧ BookG tbl bk ∧
  (keepsP (belowP tb a b) tbl bk start → ∀ H', SX [] H H' → Q .non H') ∧ (¬ keepsP (belowP tb a b) tbl bk start → ∀ p H', SX [] H H' → Q (.ref p) H')
theorem ok_breaking (T : Tx K mg) : FnOk P w K mg base CX0 5 T.breaking.f T.breaking.fd P_breaking (sp_breaking T) := by
  refine T.breaking.F.ok sc_breaking (fun vs H Q E h => ?_) (fun cdv A outer s H vs Q E hr h => ?_)
  · obtain ⟨x, y, lv, bd, hands, start, tbl, tb, e, cm, a, b, kv, bk, rfl, wa, wi, hlv, to, tw, fr, hb, hkv, bo, k1, k2⟩ := h
    rfl
  have hu := hu_of hr
  have nd := sc_breaking.nd
  obtain ⟨x, y, lv, bd, hands, start, tbl, tb, e, cm, a, b, kv, bk, rfl, wa, wi, hlv, to, tw, fr, hb, hkv, bo, k1, k2⟩ := h
  refine ⟨_, (pss_cons (ps_expr (pe_call (ok_checked_book T) (hr.mono (by decide)) (by rfl) T.checked_book.g T.checked_book.F.kp T.checked_book.B .nil pass0 (pa_cons (pv 0) (pa_cons (pv 1) (pa_cons (pv 2) (pa_cons (pv 3) pa_nil))))))
      (pss_cons (ps_set (i := 4) nd rfl (Or.inl rfl) (pe_prop (pv 1) T.cl_Wish T.pr_Wish_worths (ok_Wish_worths T) (hr.mono (by decide)) T.Wish_worths.B .nil pass0 rfl))
      (pss_cons (ps_set (i := 5) nd rfl (Or.inl rfl) (pe_call (ok_let_ways T) (hr.mono (by decide)) (by rfl) T.let_ways.g T.let_ways.F.kp T.let_ways.B .nil pass0 (pa_cons (pv 0) (pa_cons (pv 3) pa_nil))))
      (pss_cons (ps_lockR (ps_for PassesOwn.never rfl (pi_keys (pv 5)) (pg_name (i := 6) nd rfl (Or.inl rfl)) (pss_one (ps_if (PW.pt (pw_and (pt_cmp (pc_din hu (pv 6) (pv 4))) (pw_and1 (pt_val (pe_call (ok_is_below T) (hr.mono (by decide)) (by rfl) T.is_below.g T.is_below.F.kp T.is_below.B .nil pass0 (pa_cons (pe_dget hu (pv 4) (pv 6) (fun _ _ => rfl)) (pa_cons (pv 2) pa_nil))))))) (pss_one (ps_ret (pe_call (ok_way_to T) (hr.mono (by decide)) (by rfl) T.way_to.g T.way_to.F.kp T.way_to.B .nil pass0 (pa_cons (pv 5) (pa_cons (pv 6) pa_nil))))) pss_nil))))
      (pss_one (ps_ret pe_non)))))), ?_⟩
  refine x_start (σ' := [some _, some _, some _, some _, none, none, none]) rfl ?_
  try simp only [cx_n, cx_K, cx_w, cx_P]
  walk_at "rd"
  refine ⟨x, y, lv, bd, hands, start, tbl, tb, e, cm, a, b, kv, bk, rfl, wa, wi, hlv, to, tw, fr, hb, hkv, bo, fun H1 s1 => ?_⟩
  walk_at "rd"
  have wi1 := wi.sx s1
  obtain ⟨dy, d, kvs, hy, hd, hk⟩ := id wi1.ex
  have ndB : (tb.map (·.1)).Nodup := by
    rw [tw.key]
    exact List.Nodup.sublist (List.filter_sublist.map _) to.nd
  have tbl1 : tb.length ≤ 100 := by
    have h1 := congrArg List.length tw.key
    rw [List.length_map] at h1
    have h2 := endsOf_len tbl
    have := to.len
    omega
  have tbe : ∀ n, n ∈ tb.map (·.1) ↔ lookA tbl n = some .fin := fun n => by
    rw [tw.key, endsOf_eq to.nd, List.mem_filter]
    constructor
    · rintro ⟨_, m⟩
      cases e0 : lookA tbl n with
      | none => rw [e0] at m; cases m
      | some st => rw [e0] at m; cases st <;> first | rfl | cases m
    · intro e0
      exact ⟨key_of' e0, by rw [e0]; rfl⟩
  refine x_prop ?_
  walk_at "rd"
  refine ⟨y, dy, _, rfl, hy, y, tb, e, cm, rfl, wi1, ndB, by omega, fun wd H2 kw hwd s2 ew kwk => ?_⟩
  walk_at "rd"
  have s12 := s1.trans s2
  refine ⟨x, bd, hands, start, tbl, kv, bk, rfl, wa.le s12.le0, to, s12 _ _ List.not_mem_nil hb, KVs.le mono_TS s12.le0 hkv, bo, fun q H3 kq ks hq s3 eq ekq nks gq yq => ?_⟩
  walk_at "rd"
  refine x_lockR (.inl eq) fun od HL eL ne => ?_
  have leL : Le H3 HL := lock_le (.inl eq) eL ne
  walk_at "rd"
  refine x_itk eL ?_
  have nqw : wd ≠ q := ne_of_none ew hq
  have ewL : HL wd = some (.dK kw) := by rw [ne _ nqw]; exact s3 _ _ List.not_mem_nil ew
  have s13 := s12.trans s3
  have hlvL := leL.t (s13.le0.t hlv)
  have ksl : ks.length ≤ 100 := by
    have := nodup_sub nks fun n h => ((gq n).mp h).key to
    rw [List.length_map] at this
    have := to.len
    omega
  have yqL : ∀ i n, ks[i]? = some n → WayOk HL kq ks i n := fun i n hn => by
    rcases yq i n hn with h | ⟨j, s', z, t, h1, h2, h3, h4⟩
    · exact .inl h
    · exact .inr ⟨j, s', z, t, h1, h2, h3, leL.tup _ _ h4⟩
  have lks : (ks.map fun s => (s, ())).length = ks.length := List.length_map _
  refine for_it (walk_keysR (kvs_unit (H := H3) ekq)) (fun i σ A => SX [] HL A ∧ (∀ n ∈ ks.take i, lookA tbl n = some .fin → ¬ belowP tb a b n) ∧ ∃ c, σ = [some (.ref x), some (.ref y), some (.ref lv), some (.ref bd), some (.ref wd), some (.ref q), c]) ⟨SX.refl _, (fun _ h => nomatch h), _, rfl⟩ (fun _ _ _ _ h => h.1 _ _ List.not_mem_nil eL) ?_ ?_
  · rintro i z σ A0 A hi ⟨sA, okA, c, rfl⟩ ⟨rfl, p, _, hp, rfl, _⟩
    obtain ⟨n, hn, rfl⟩ : ∃ n, ks[i]? = some n ∧ (n, ()) = p := by
      rw [List.getElem?_map] at hp
      cases e1 : ks[i]? with
      | none => rw [e1] at hp; cases hp
      | some s => rw [e1] at hp; cases hp; exact ⟨s, rfl, rfl⟩
    have next : ∀ m ∈ ks.take (i + 1), m ∈ ks.take i ∨ m = n := fun m hm => by
      rw [take_succ_of hn] at hm
      rcases List.mem_append.mp hm with h | h
      · exact .inl h
      · exact .inr (List.mem_singleton.mp h)
    have rn := (gq n).mp (getMem hn)
    walk_at "rd"
    refine x_din' (.inl (sA _ _ List.not_mem_nil ewL)) ?_
    rw [keys_val kwk.keys]
    walk_at "rd"
    refine x_cases (fun c1 => ?_) (fun c1 => ?_)
    · have c1 : n ∈ tb.map (·.1) := by simpa using c1
      obtain ⟨v, ev⟩ := lookA_some c1
      obtain ⟨vv, e1, rfl⟩ := kwk.at_ ev
      obtain ⟨b0, b1⟩ := tw.bd _ (lookA_mem ev)
      walk_at "rd"
      refine x_dg' (.inl (sA _ _ List.not_mem_nil ewL)) e1 ?_
      walk_at "rd"
      refine ⟨v, lv, a, b, rfl, sA.le0.t hlvL, b0, b1, ?_⟩
      by_cases nv : v * b < a
      · rw [decide_eq_true nv]
        walk_at "rd"
        refine ⟨q, n, kq, ks, rfl, .inr ⟨od, sA _ _ List.not_mem_nil eL⟩, (fun i n hn => (yqL i n hn).sx sA), ksl, getMem hn, fun p A2 hp s4 => ?_⟩
        refine ⟨s4 _ _ List.not_mem_nil (sA _ _ List.not_mem_nil eL), ?_⟩
        exact k2 (fun kp => kp n rn ((tbe n).mp c1) ⟨v, ev, nv⟩) p _ (s13.trans (unlock_sx ne (sA.trans s4)))
      · rw [decide_eq_false nv]
        walk_at "rd"
        refine ⟨sA, fun m hm hf => ?_, _, rfl⟩
        rcases next m hm with h | rfl
        · exact okA m h hf
        · rintro ⟨v', ev', h'⟩
          rw [ev] at ev'
          cases ev'
          exact nv h'
    · have c1 : n ∉ tb.map (·.1) := by simpa using c1
      walk_at "rd"
      refine ⟨sA, fun m hm hf => ?_, _, rfl⟩
      rcases next m hm with h | rfl
      · exact okA m h hf
      · exact absurd ((tbe m).mpr hf) c1
  · rintro σ A ⟨sA, okA, c, rfl⟩
    rw [lks, List.take_length] at okA
    refine ⟨sA _ _ List.not_mem_nil eL, ?_⟩
    walk_at "rd"
    exact k1 (fun n r hf => okA n ((gq n).mpr r) hf) _ (s13.trans (unlock_sx ne sA))
def sp_keeps (T : Tx K mg) : Sp := fun vs H Q _ => ∃ (x y lv bd : Addr) (hands : Int) (start : Str) (tbl : List (Str × Stand)) (tb : List (Str × Int)) (e : Int) (cm : Bool) (a b : Int) (kv : List (Key × V)) (bk : List (Str × List Str)), vs = [.ref x, .ref y, .ref lv, .ref bd] ∧
  WorkAt T H x hands start tbl ∧ WishAt T H y tb e cm ∧ SqT K H lv [.int a, .int b] ∧ TbOk start tbl ∧ TwOk tbl tb ∧ FracOk a b ∧ H bd = some (.dK kv) ∧ KVs rTS H kv bk ∧ BookG tbl bk ∧
  ∀ r : Bool, (r = true ↔ keepsP (belowP tb a b) tbl bk start) → ∀ H', SX [] H H' → Q (.bl r) H'
theorem ok_keeps (T : Tx K mg) : FnOk P w K mg base CX0 6 T.keeps.f T.keeps.fd P_keeps (sp_keeps T) := by
  refine T.keeps.F.ok sc_keeps (fun vs H Q E h => ?_) (fun cdv A outer s H vs Q E hr h => ?_)
  · obtain ⟨x, y, lv, bd, hands, start, tbl, tb, e, cm, a, b, kv, bk, rfl, wa, wi, hlv, to, tw, fr, hb, hkv, bo, k⟩ := h
    rfl
  have hu := hu_of hr
  have nd := sc_keeps.nd
  obtain ⟨x, y, lv, bd, hands, start, tbl, tb, e, cm, a, b, kv, bk, rfl, wa, wi, hlv, to, tw, fr, hb, hkv, bo, k⟩ := h
  refine ⟨_, (pss_one (ps_ret (pe_cmpR op_isNo (pe_call (ok_breaking T) (hr.mono (by decide)) (by rfl) T.breaking.g T.breaking.F.kp T.breaking.B .nil pass0 (pa_cons (pv 0) (pa_cons (pv 1) (pa_cons (pv 2) (pa_cons (pv 3) pa_nil))))) pe_non (nomark _)))), ?_⟩
  refine x_start (σ' := [some _, some _, some _, some _]) rfl ?_
  try simp only [cx_n, cx_K, cx_w, cx_P]
  walk_at "rd"
  refine ⟨x, y, lv, bd, hands, start, tbl, tb, e, cm, a, b, kv, bk, rfl, wa, wi, hlv, to, tw, fr, hb, hkv, bo, fun kp H1 s1 => ?_, fun np p H1 s1 => ?_⟩
  · walk_at "rd"
    exact k true ⟨fun _ => kp, fun _ => rfl⟩ _ s1
  · walk_at "rd"
    exact k false ⟨(fun z => by cases z), fun z => absurd z np⟩ _ s1
def sp_kept_stands (T : Tx K mg) : Sp := fun vs H Q _ => ∃ (x y lv bd : Addr) (hands : Int) (start : Str) (tbl : List (Str × Stand)) (tb : List (Str × Int)) (e : Int) (cm : Bool) (a b : Int) (kv : List (Key × V)) (bk : List (Str × List Str)), vs = [.ref x, .ref y, .ref lv, .ref bd] ∧
  WorkAt T H x hands start tbl ∧ WishAt T H y tb e cm ∧ SqT K H lv [.int a, .int b] ∧ TbOk start tbl ∧ TwOk tbl tb ∧ FracOk a b ∧ H bd = some (.dK kv) ∧ KVs rTS H kv bk ∧ BookG tbl bk ∧
  (keepsP (belowP tb a b) tbl bk start → ∀ p H' ys, H p = none → SX [] H H' → H' p = some (.lst (ys.map V.str)) → ys.Nodup → sortedS ys = true → (∀ n, n ∈ ys ↔ LetR tbl bk start n) → Q (.ref p) H') ∧
  (¬ keepsP (belowP tb a b) tbl bk start → ∀ H', SX [] H H' → Q .non H')
theorem ok_kept_stands (T : Tx K mg) : FnOk P w K mg base CX0 7 T.kept_stands.f T.kept_stands.fd P_kept_stands (sp_kept_stands T) := by
  refine T.kept_stands.F.ok sc_kept_stands (fun vs H Q E h => ?_) (fun cdv A outer s H vs Q E hr h => ?_)
  · obtain ⟨x, y, lv, bd, hands, start, tbl, tb, e, cm, a, b, kv, bk, rfl, wa, wi, hlv, to, tw, fr, hb, hkv, bo, k1, k2⟩ := h
    rfl
  have hu := hu_of hr
  have nd := sc_kept_stands.nd
  obtain ⟨x, y, lv, bd, hands, start, tbl, tb, e, cm, a, b, kv, bk, rfl, wa, wi, hlv, to, tw, fr, hb, hkv, bo, k1, k2⟩ := h
  refine ⟨_, (pss_cons (ps_if (pt_not (pt_val (pe_call (ok_keeps T) (hr.mono (by decide)) (by rfl) T.keeps.g T.keeps.F.kp T.keeps.B .nil pass0 (pa_cons (pv 0) (pa_cons (pv 1) (pa_cons (pv 2) (pa_cons (pv 3) pa_nil))))))) (pss_one (ps_ret pe_non)) pss_nil)
      (pss_one (ps_ret (pe_callB (cl_sortD rfl) (by rfl) T.b_sorted (by decide +kernel) (pa_cons (pe_call (ok_let_ways T) (hr.mono (by decide)) (by rfl) T.let_ways.g T.let_ways.F.kp T.let_ways.B .nil pass0 (pa_cons (pv 0) (pa_cons (pv 3) pa_nil))) pa_nil))))), ?_⟩
  refine x_start (σ' := [some _, some _, some _, some _]) rfl ?_
  try simp only [cx_n, cx_K, cx_w, cx_P]
  walk_at "rd"
  refine ⟨x, y, lv, bd, hands, start, tbl, tb, e, cm, a, b, kv, bk, rfl, wa, wi, hlv, to, tw, fr, hb, hkv, bo, fun r hr2 H1 s1 => ?_⟩
  walk_at "rd"
  cases r with
  | false =>
    walk_at "rd"
    exact k2 (fun kp => by have := hr2.mpr kp; cases this) _ s1
  | true =>
    walk_at "rd"
    refine ⟨x, bd, hands, start, tbl, kv, bk, rfl, wa.le s1.le0, to, s1 _ _ List.not_mem_nil hb, KVs.le mono_TS s1.le0 hkv, bo, fun q H3 kq ks hq s3 eq ekq nks gq yq => ?_⟩
    walk_at "rd"
    refine x_sortD (.inl eq) ekq fun ys p hp hs np => ?_
    exact k1 (hr2.mp rfl) p _ ys ((s1.trans s3).free np List.not_mem_nil) ((s1.trans s3).trans (SX.new np)) upd_same (hp.nodup_iff.mpr nks) hs fun n => (hp.mem_iff).trans (gq n)
end
end M

namespace M
open PySem PySem.Spec PyProof.Rows L2
/-! ### books, in plain -/
theorem bad_reach {bel : Str → Prop} {ns : List Int} {start : Str} {tbl : List (Str × Stand)} {bk : List (Str × List Str)} (bo : BookG tbl bk) (own : ∀ m ∈ bk.map (·.1), ∀ st, lookA tbl m = some st → moverIn ns st = true)
    (nds : ∀ n st, lookA tbl n = some st → st.nd) {n : Str} (b : BadP bel ns tbl n) : LetR tbl bk start n → ∃ m, LetR tbl bk start m ∧ lookA tbl m = some .fin ∧ bel m := by
  induction b with
  | @base n e b => exact fun r => ⟨n, r, e, b⟩
  | @all n st e m h0 _ ih =>
    intro r
    obtain ⟨z, hz⟩ : ∃ z, z ∈ letS bk n st := by
      unfold letS
      cases el : lookA bk n with
      | some l =>
        obtain ⟨_, _, _, h1, _⟩ := bo.each _ (lookA_mem el)
        cases l with
        | nil => exact absurd rfl h1
        | cons z l => exact ⟨z, List.mem_cons_self⟩
      | none =>
        cases hr' : st.rows with
        | nil => rw [hr'] at h0; exact absurd rfl h0
        | cons q l => exact ⟨q.1, List.mem_cons_self⟩
    obtain ⟨u, eu⟩ := bo.let_rows e hz
    refine ih u ?_ (.step r e hz eu)
    rw [← rows_tos]
    exact List.mem_map.mpr ⟨(z, u), lookA_mem eu, rfl⟩
  | @any n t st e m ht _ ih =>
    intro r
    have nk : lookA bk n = none := by
      refine lookA_none fun h => ?_
      have := own n h st e
      rw [m] at this
      cases this
    rw [← rows_tos] at ht
    obtain ⟨q, hq, rfl⟩ := List.mem_map.mp ht
    refine ih (.step (z := q.1) r e ?_ (lookA_nodup (rows_nodupB (nds n st e)) hq))
    unfold letS
    rw [nk]
    exact List.mem_map.mpr ⟨q, hq, rfl⟩
theorem free_keeps {bel : Str → Prop} {ns : List Int} {start : Str} {tbl : List (Str × Stand)} {bk : List (Str × List Str)} (to : TbOk start tbl) (bo : BookOk bel ns tbl bk) (nb : ¬ BadP bel ns tbl start) : keepsP bel tbl bk start := by
  intro n r hf hb
  have : ¬ BadP bel ns tbl n := by
    clear hf hb
    induction r with
    | base => exact nb
    | @step n z u st _ e hz eu ih =>
      obtain ⟨u', eu', _, h⟩ := book_goes to bo e ih hz
      rw [eu] at eu'
      cases eu'
      exact h
  exact this (.base hf hb)
theorem SrtStand.rows {a b : Stand} (s : SrtStand a b) : b.rows.Perm a.rows := by
  cases a <;> cases b <;> first | exact s.elim | exact .refl _ | exact s.2.perm | exact ((Srt.perm s).map _)
theorem srt_look {a b : Stand} (s : SrtStand a b) (n : a.nd) (z : Str) : lookA b.rows z = lookA a.rows z := lookA_perm s.rows (rows_nodupB n) z
theorem BookG.srt {sts tbl : List (Str × Stand)} {bk : List (Str × List Str)} (b : BookG sts bk) (h : ∀ n st, lookA sts n = some st → ∃ st', lookA tbl n = some st' ∧ SrtStand st st') : BookG tbl bk := ⟨b.nd, fun q hq => by
  obtain ⟨hd, ms, e, h1, h2, h3, h4⟩ := b.each q hq
  obtain ⟨st', e', ss⟩ := h _ _ e
  cases st' with
  | fin => exact ss.elim
  | chance ds => exact ss.elim
  | hand hd' ms' => exact ⟨hd', ms', e', h1, h2, h3, fun z hz => ((SrtStand.rows ss).map (·.1)).mem_iff.mpr (h4 z hz)⟩⟩
/-- the law's own freest book -/
structure DueOk (P : Str → Prop) (ns : List Int) (sts : List (Str × Stand)) (bk : List (Str × List Str)) : Prop where
  nd : (bk.map (·.1)).Nodup
  each : ∀ q ∈ bk, ∃ st, lookA sts q.1 = some st ∧ moverIn ns st = true ∧ ¬ P q.1 ∧ q.2.length ≤ 4 ∧ q.2.Pairwise ltS ∧ ∀ z, z ∈ q.2 ↔ ∃ to, lookA st.rows z = some to ∧ ¬ P to
  all : ∀ n st, lookA sts n = some st → moverIn ns st = true → ¬ P n → n ∈ bk.map (·.1)
theorem lt_asc {p q : List Str} (hp : p.Pairwise ltS) (hq : q.Pairwise ltS) (h : ∀ x, x ∈ p ↔ x ∈ q) : p = q := by
  have np : ∀ {l : List Str}, l.Pairwise ltS → l.Nodup := fun h => h.imp fun {a b} z e => by subst e; exact List.lt_irrefl _ z
  exact List.Perm.eq_of_pairwise (fun a b _ _ h1 h2 => absurd h2 (List.lt_asymm h1)) hp hq ((List.perm_ext_iff_of_nodup (np hp) (np hq)).mpr h)
theorem dp_strs {K : PySem.W.Frag} {H : Hp} {l : List Str} : DpAll K H (l.map V.str) ((l.map V.str).map dv) := by
  induction l with
  | nil => exact .nil
  | cons s l ih => exact .cons (.str s) ih
theorem okS_of {l : List Str} (h : ∀ s ∈ l, nameB s = true) : ∀ x ∈ l.map V.str, okV x = true := fun x hx => by
  obtain ⟨s, hs, rfl⟩ := List.mem_map.mp hx
  exact nameB_strOk (h s hs)
theorem book_eq {K : PySem.W.Frag} {H : Hp} {bel P : Str → Prop} {ns : List Int} {sts tbl : List (Str × Stand)} {b1 b2 : List (Str × List Str)} {k1 k2 : List (Key × V)} {f d : Addr} (bo : BookOk bel ns tbl b1) (du : DueOk P ns sts b2)
    (back : ∀ n st, lookA tbl n = some st → ∃ st', lookA sts n = some st' ∧ SrtStand st' st) (on : ∀ n st, lookA sts n = some st → ∃ st', lookA tbl n = some st' ∧ SrtStand st st') (nds : ∀ n st, lookA sts n = some st → st.nd)
    (hP : ∀ n, P n ↔ BadP bel ns tbl n) (nm : ∀ n st, lookA sts n = some st → ∀ s ∈ st.rows.map (·.1), nameB s = true) (hf : H f = some (.dK k1)) (v1 : KVs rTS H k1 b1) (hd : H d = some (.dK k2)) (v2 : KVs rTS H k2 b2) : DKeq K H f d k1 k2 := by
  have key12 : ∀ n ∈ b1.map (·.1), n ∈ b2.map (·.1) := fun n hn => by
    obtain ⟨q, hq, rfl⟩ := List.mem_map.mp hn
    obtain ⟨st, e, m, nb, _⟩ := bo.each q hq
    obtain ⟨st', e', ss⟩ := back _ _ e
    exact du.all _ st' e' (by rw [← srt_mover ss]; exact m) fun h => nb ((hP _).mp h)
  have key21 : ∀ n ∈ b2.map (·.1), n ∈ b1.map (·.1) := fun n hn => by
    obtain ⟨q, hq, rfl⟩ := List.mem_map.mp hn
    obtain ⟨st, e, m, nb, _⟩ := du.each q hq
    obtain ⟨st', e', ss⟩ := on _ _ e
    exact bo.all _ st' e' (by rw [srt_mover ss]; exact m) fun h => nb ((hP _).mpr h)
  have l1 := nodup_sub bo.nd key12
  have l2 := nodup_sub du.nd key21
  refine ⟨hf, hd, ?_, fun p hp => ?_⟩
  · rw [Paired.length v1, Paired.length v2]
    rw [List.length_map, List.length_map] at l1 l2
    omega
  · obtain ⟨i, hi⟩ := List.getElem?_of_mem hp
    obtain ⟨q, hq, e1, t1, r1, ht1⟩ := Paired.getL v1 hi
    obtain ⟨l, el⟩ := lookA_some (key12 q.1 (List.mem_map.mpr ⟨q, getMem hq, rfl⟩))
    obtain ⟨u, eu, t2, rfl, ht2⟩ := v2.at_ el
    obtain ⟨st, e, m, _, _, _, pw, mm⟩ := bo.each q (getMem hq)
    obtain ⟨st2, e2, _, _, _, pw2, mm2⟩ := du.each _ (lookA_mem el)
    obtain ⟨st', e', ss⟩ := back _ _ e
    rw [e2] at e'
    cases e'
    have elq : l = q.2 := lt_asc pw2 pw fun z => by
      rw [mm2, mm]
      rw [srt_look ss (nds _ _ e2) z]
      constructor
      · rintro ⟨to, h1, h2⟩
        exact ⟨to, h1, fun h => h2 ((hP _).mpr h)⟩
      · rintro ⟨to, h1, h2⟩
        exact ⟨to, h1, fun h => h2 ((hP _).mp h)⟩
    subst elq
    have okl : ∀ x ∈ q.2.map V.str, okV x = true := okS_of fun s hs => by
      obtain ⟨to, h1, _⟩ := (mm2 s).mp hs
      exact nm _ _ e2 s (key_of' h1)
    obtain ⟨c1, c2⟩ := lay_all okl
    refine ⟨.ref t2, .tuple ((q.2.map V.str).map dv), .tuple ((q.2.map V.str).map dv), by rw [e1]; exact eu, ?_, .tup (sqT ht2) dp_strs, by rw [PyData.canLay0]; exact c1, by rw [PyData.canLay0]; exact c1, by rw [PyData.depth, c2]; decide, eqv_flatT okl⟩
    rw [r1]
    exact .tup (sqT ht1) dp_strs
section
variable {P : Program} {w : World} {K : PySem.W.Frag} {mg : Str → Option Value} {base : Heap}
def sp_law_due_book (T : Tx K mg) : Sp := fun vs H Q _ => ∃ (d lt bd : Addr) (sts : List (Str × Stand)) (ns : List Int) (kb : List (Key × V)) (B : Str → Prop), vs = [.ref d, .ref lt, .ref bd] ∧ rD (rStand K) H (.ref d) sts ∧ Closed sts ∧ sts.length ≤ 100 ∧ SqT K H lt (ns.map V.int) ∧ H bd = some (.dK kb) ∧
  (∀ n ∈ sts.map (·.1), ∃ f : Bool, valV kb (Sum.inr n) = some (.bl f) ∧ (f = true ↔ B n)) ∧
  ∀ (q : Addr) (H' : Hp) (kv : List (Key × V)) (bk : List (Str × List Str)), H q = none → SX [] H H' → H' q = some (.dK kv) → KVs rTS H' kv bk → DueOk B ns sts bk → Q (.ref q) H'
theorem ok_law_due_book (T : Tx K mg) : FnOk P w K mg base CX0 2 T.law_due_book.f T.law_due_book.fd P_law_due_book (sp_law_due_book T) := by
  refine T.law_due_book.F.ok sc_law_due_book (fun vs H Q E h => ?_) (fun cdv A outer s H vs Q E hr h => ?_)
  · obtain ⟨d, lt, bd, sts, ns, kb, B, rfl, hd, CS, hlen, hlt, hbd, hB, k⟩ := h
    rfl
  have hu := hu_of hr
  have nd := sc_law_due_book.nd
  obtain ⟨d, lt, bd, sts, ns, kb, B, rfl, hd, CS, hlen, hlt, hbd, hB, k⟩ := h
  refine ⟨_, (pss_cons (ps_set (i := 3) nd rfl (Or.inl rfl) pe_dnewK)
      (pss_cons (ps_lockR (ps_for PassesOwn.never rfl (pi_keys (pv 0)) (pg_name (i := 4) nd rfl (Or.inr rfl)) (pss_one (ps_if (PW.pt (pw_and (pt_cmpR (w_in (K := K) rfl) (pe_call (ok_law_mover T) (hr.mono (by decide)) (by rfl) T.law_mover.g T.law_mover.F.kp T.law_mover.B .nil pass0 (pa_cons (pv 0) (pa_cons (pv 4) pa_nil))) (pv 1) (by rfl)) (pw_and1 (pt_not (pt_val (pe_dget hu (pv 2) (pv 4) (fun _ _ => rfl))))))) (pss_cons (ps_setLc (i := 5) (own := [("move", 6)]) rfl nd rfl rfl (sw_true rfl rfl rfl (by decide +kernel)) (w_pilist (K := K) rfl (pe_call (ok_law_steps T) (hr.mono (by decide)) (by rfl) T.law_steps.g T.law_steps.F.kp T.law_steps.B .nil pass0 (pa_cons (pv 0) (pa_cons (pv 4) pa_nil)))) (blkOk_by (own := [("move", 6)]) (N := N_law_due_book) (sc := defScope s_law_due_book) (by decide +kernel)) (fun _ _ _ _ _ => (pg_name (i := 6) nd rfl (Or.inl rfl))) (fun _ _ _ _ _ => pts_one (pt_not (pt_val (pe_dget hu (pv 2) (pe_call (ok_law_to T) (hr.mono (by decide)) (by rfl) T.law_to.g T.law_to.F.kp T.law_to.B .nil pass0 (pa_cons (pv 0) (pa_cons (pv 4) (pa_cons (pv 6) pa_nil)))) (fun _ _ => rfl))))) (fun _ _ _ _ _ => (pv 6)))
      (pss_one (ps_dput hu (pv 3) (pv 4) (pe_callTy (w_tup (K := K) rfl) (by rfl) T.b_tuple (by decide +kernel) (pa_cons (pv 5) pa_nil)) rfl))) pss_nil))))
      (pss_one (ps_ret (pv 3))))), ?_⟩
  refine x_start (σ' := [some _, some _, some _, none, none, none, none]) rfl ?_
  try simp only [cx_n, cx_K, cx_w, cx_P]
  obtain ⟨d', kvs, ed, hrd, hk⟩ := id hd
  cases ed
  walk_at "rd"
  intro F hF
  walk_at "rd"
  have s1 : SX [] H (upd H F (.dK [])) := SX.new hF
  have F1 : (upd H F (.dK [])) F = some (.dK []) := upd_same
  generalize upd H F (.dK []) = H1 at s1 F1
  have nFd : F ≠ d := fun e => rd_there hrd (e ▸ hF)
  have nFb : F ≠ bd := fun e => by rw [← e, hF] at hbd; cases hbd
  have hF' : ∀ b ∈ [F], H b = none := fun b hb => by cases List.mem_singleton.mp hb; exact hF
  have rd1 : Rd H1 d (.dK kvs) := s1.le0.rd _ _ trivial hrd
  refine x_lockR rd1 fun od HL eL ne => ?_
  have leL : Le H HL := s1.le0.trans (lock_le rd1 eL ne)
  have lF : Le H (hid [F] HL) := le_into leL hF'
  walk_at "rd"
  refine x_itk eL ?_
  have hbL : Rd HL bd (.dK kb) := leL.rd _ _ trivial (.inl hbd)
  refine for_it (walk_keysR hk) (fun i σ A => ∃ (kv : List (Key × V)) (bk : List (Str × List Str)) (c1 c2 : Option V), SX [F] HL A ∧ A F = some (.dK kv) ∧ KVs rTS (hid [F] A) kv bk ∧
      (∀ n ∈ bk.map (·.1), n ∈ (sts.map (·.1)).take i) ∧ (bk.map (·.1)).Nodup ∧ (∀ n ∈ (sts.map (·.1)).take i, ∀ st, lookA sts n = some st → moverIn ns st = true → ¬ B n → n ∈ bk.map (·.1)) ∧
      (∀ q ∈ bk, ∃ st, lookA sts q.1 = some st ∧ moverIn ns st = true ∧ ¬ B q.1 ∧ q.2.length ≤ 4 ∧ q.2.Pairwise ltS ∧ ∀ z, z ∈ q.2 ↔ ∃ to, lookA st.rows z = some to ∧ ¬ B to) ∧
      σ = [some (.ref d), some (.ref lt), some (.ref bd), some (.ref F), c1, c2, none])
    ⟨[], [], none, none, SX.refl _, by rw [ne _ nFd]; exact F1, .nil, (fun _ h => nomatch h), List.nodup_nil, (fun _ h => nomatch h), (fun _ h => nomatch h), rfl⟩ (fun _ _ _ _ h => by obtain ⟨_, _, _, _, h, _⟩ := h; exact h _ _ (by simpa using Ne.symm nFd) eL) ?_ ?_
  · rintro i z σ A0 A hi ⟨kv, bk, c1, c2, sA, dA, kA, kI, nA, aA, eA, rfl⟩ ⟨rfl, q, v0, hq, rfl, _⟩
    obtain ⟨n, st⟩ := q
    have hq1 : (sts.map (·.1))[i]? = some n := by rw [List.getElem?_map, hq]; rfl
    have est : lookA sts n = some st := lookA_nodup CS.nd (getMem hq)
    obtain ⟨cnd, csz, cto⟩ := CS.all _ (getMem hq)
    have csz : st.size ≤ 4 := csz
    have lA : Le H A := (lF.trans sA.le).trans le_hid
    have nextI : ∀ m ∈ (sts.map (·.1)).take i, m ∈ (sts.map (·.1)).take (i + 1) := fun m hm => by rw [take_succ_of hq1]; exact List.mem_append_left _ hm
    have next : ∀ m ∈ (sts.map (·.1)).take (i + 1), m ∈ (sts.map (·.1)).take i ∨ m = n := fun m hm => by
      rw [take_succ_of hq1] at hm
      rcases List.mem_append.mp hm with h | h
      · exact .inl h
      · exact .inr (List.mem_singleton.mp h)
    have skip : (moverIn ns st = true → ¬ B n → False) → ∃ (kv' : List (Key × V)) (bk' : List (Str × List Str)) (c1' c2' : Option V), SX [F] HL A ∧ A F = some (.dK kv') ∧ KVs rTS (hid [F] A) kv' bk' ∧
        (∀ n ∈ bk'.map (·.1), n ∈ (sts.map (·.1)).take (i + 1)) ∧ (bk'.map (·.1)).Nodup ∧ (∀ n ∈ (sts.map (·.1)).take (i + 1), ∀ st, lookA sts n = some st → moverIn ns st = true → ¬ B n → n ∈ bk'.map (·.1)) ∧
        (∀ q ∈ bk', ∃ st, lookA sts q.1 = some st ∧ moverIn ns st = true ∧ ¬ B q.1 ∧ q.2.length ≤ 4 ∧ q.2.Pairwise ltS ∧ ∀ z, z ∈ q.2 ↔ ∃ to, lookA st.rows z = some to ∧ ¬ B to) ∧
        [some (.ref d), some (.ref lt), some (.ref bd), some (.ref F), some (.str n), c2, none] = [some (.ref d), some (.ref lt), some (.ref bd), some (.ref F), c1', c2', none] := fun no =>
      ⟨kv, bk, _, _, sA, dA, kA, fun m hm => nextI m (kI m hm), nA, fun m hm st' e' m' b' => by
        rcases next m hm with h | rfl
        · exact aA m h st' e' m' b'
        · rw [est] at e'
          cases e'
          exact (no m' b').elim, eA, rfl⟩
    obtain ⟨f, ef, hf⟩ := hB n (key_of' est)
    walk_at "rd"
    refine ⟨d, n, sts, st, rfl, mono_D (mono_stand K) _ _ _ _ lA hd, est, ?_⟩
    walk_at "rd"
    refine ⟨lt, _, rfl, .inr (lA.t hlt), by cases st <;> rfl, flat_ints ns, ?_⟩
    rw [inV_mover]
    walk_at "rd"
    refine x_cases (fun c3 => ?_) (fun c3 => ?_)
    · have c3 : moverIn ns st = true := by simpa using c3
      walk_at "rd"
      refine x_dg' (lA.rd _ _ trivial (.inl hbd)) ef ?_
      walk_at "rd"
      cases f with
      | true =>
        walk_at "rd"
        exact skip fun _ nb => nb (hf.mp rfl)
      | false =>
        have nb : ¬ B n := fun h => by have := hf.mpr h; cases this
        walk_at "rd"
        refine ⟨d, n, sts, st, rfl, mono_D (mono_stand K) _ _ _ _ lA hd, est, fun p A1 ys hp t1 ep pp sy => ?_⟩
        refine x_itl (sqL ep) fun D hD => ?_
        have dA1 := t1 _ _ List.not_mem_nil dA
        have yl : ys.length = st.size := by rw [pp.length_eq, List.length_map, rows_tos_len, tos_len]
        refine lc_it (walk_listR (R := rS) (Hb := H) (paired_S' ys)) (fun m C => SX [] A1 C ∧ ∃ zs : List Str, C D = some (.lst (zs.map V.str)) ∧ zs.Sublist (ys.take m) ∧ ∀ z ∈ ys.take m, z ∈ zs ↔ ∃ to, lookA st.rows z = some to ∧ ¬ B to) ⟨SX.new hD, [], upd_same, .slnil, (fun _ h => nomatch h)⟩ (fun m C _ h => sqL (h.1 _ _ List.not_mem_nil ep)) ?_ ?_
        · rintro m y C0 C hm ⟨u1, zs, u2, sub, mem⟩ ⟨rfl, z, hz, rfl⟩
          obtain ⟨to, eto⟩ := lookA_some (pp.mem_iff.mp (getMem hz))
          have mto : to ∈ sts.map (·.1) := cto to (by rw [← rows_tos]; exact List.mem_map.mpr ⟨(z, to), lookA_mem eto, rfl⟩)
          obtain ⟨g, eg, hg⟩ := hB to mto
          have lC : Le H C := lA.trans (t1.trans u1).le0
          have nys : ys.Nodup := pp.nodup_iff.mpr (rows_nodupB cnd)
          have fz : z ∉ ys.take m := nodup_take nys hz
          have zl : zs.length ≤ 4 := by
            have := sub.length_le
            rw [List.length_take] at this
            omega
          walk_at "rd"
          refine ⟨rfl, ?_⟩
          walk_at "rd"
          refine ⟨d, n, z, to, sts, st, rfl, mono_D (mono_stand K) _ _ _ _ lC hd, est, eto, ?_⟩
          refine x_dg' (lC.rd _ _ trivial (.inl hbd)) eg ?_
          walk_at "rd"
          cases g with
          | true =>
            walk_at "rd"
            refine ⟨u1, zs, u2, by rw [take_succ_of hz]; exact sub.trans (List.sublist_append_left _ _), fun z' hz' => ?_⟩
            rw [take_succ_of hz] at hz'
            rcases List.mem_append.mp hz' with h | h
            · exact mem z' h
            · cases List.mem_singleton.mp h
              refine ⟨fun h2 => absurd (sub.mem h2) fz, ?_⟩
              rintro ⟨to', e', h'⟩
              rw [eto] at e'
              cases e'
              exact absurd (hg.mp rfl) h'
          | false =>
            walk_at "rd"
            refine ⟨_, u2, lt_size (by rw [List.length_map]; omega), sx_nil_of (S := [D]) ((nil_sx u1).trans (SX.mut List.mem_cons_self)) (by simp [hD]), zs ++ [z], by rw [upd_same, List.map_append]; rfl, by rw [take_succ_of hz]; exact sub.append (.refl _), fun z' hz' => ?_⟩
            rw [take_succ_of hz] at hz'
            rcases List.mem_append.mp hz' with h | h
            · rw [List.mem_append, ← mem z' h]
              refine ⟨fun h2 => h2.resolve_right fun h3 => ?_, .inl⟩
              rw [List.mem_singleton.mp h3] at h
              exact fz h
            · cases List.mem_singleton.mp h
              exact ⟨fun _ => ⟨to, eto, fun h => by have := hg.mpr h; cases this⟩, fun _ => List.mem_append_right _ List.mem_cons_self⟩
        rintro C ⟨u1, zs, u2, sub, mem⟩
        rw [List.take_length] at sub mem
        walk_at "rd"
        refine x_ctup (sqL u2) fun t ht => ?_
        walk_at "rd"
        have sAC : SX [] A (upd C t (.tup (zs.map V.str))) := (t1.trans u1).trans (SX.new ht)
        have dT := sAC _ _ List.not_mem_nil dA
        have kl : kv.length = bk.length := Paired.length kA
        have bl : bk.length ≤ 100 := by
          have := nodup_sub nA fun n hn => List.mem_of_mem_take (kI n hn)
          rw [List.length_map, List.length_map] at this
          omega
        refine ⟨F, _, rfl, DPut.k (k := Sum.inr n) dT (lt_size (by omega)), ?_⟩
        have ntb : t ≠ F := fun e => by
          have hC := (t1.trans u1) _ _ List.not_mem_nil dA
          rw [e, hC] at ht
          cases ht
        have fr2 : n ∉ bk.map (·.1) := fun h => nodup_take CS.nd hq1 (kI n h)
        rw [putK_fresh _ kA.keys fr2]
        have le1 : Le (hid [F] A) (hid [F] (upd (upd C t (.tup (zs.map V.str))) F (.dK (kv ++ [(Sum.inr n, V.ref t)])))) := ((nil_sx sAC).trans (SX.mut List.mem_cons_self)).le
        have ynd : ys.Nodup := pp.nodup_iff.mpr (rows_nodupB cnd)
        refine ⟨_, bk ++ [(n, zs)], _, _, sA.trans ((nil_sx sAC).trans (SX.mut List.mem_cons_self)), upd_same, Paired.app (KVs.le mono_TS le1 kA) (.cons ⟨rfl, t, rfl, ?_⟩ .nil), fun m hm => ?_, ?_, fun m hm st' e' m' b' => ?_, fun q hq => ?_, rfl⟩
        · rw [hid_of (by simpa using ntb), upd_ne ntb, upd_same]
        · rw [List.map_append] at hm
          rcases List.mem_append.mp hm with h | h
          · exact nextI m (kI m h)
          · cases List.mem_singleton.mp h
            rw [take_succ_of hq1]
            exact List.mem_append_right _ List.mem_cons_self
        · rw [List.map_append]
          exact nd_snoc nA fr2
        · rw [List.map_append]
          rcases next m hm with h | rfl
          · exact List.mem_append_left _ (aA m h st' e' m' b')
          · exact List.mem_append_right _ List.mem_cons_self
        · rcases List.mem_append.mp hq with h | h
          · exact eA q h
          · cases List.mem_singleton.mp h
            refine ⟨st, est, c3, nb, ?_, (strict_of (sortedS_pw sy) ynd).sublist sub, fun z => ?_⟩
            · have := sub.length_le
              show zs.length ≤ 4
              omega
            · constructor
              · intro h
                exact (mem z (sub.mem h)).mp h
              · rintro ⟨to, e', h'⟩
                exact (mem z (pp.mem_iff.mpr (key_of' e'))).mpr ⟨to, e', h'⟩
    · have c3 : moverIn ns st = false := by simpa using c3
      walk_at "rd"
      exact skip fun h => by rw [c3] at h; cases h
  · rintro σ A ⟨kv, bk, c1, c2, sA, dA, kA, kI, nA, aA, eA, rfl⟩
    have fulltake : (sts.map (·.1)).take sts.length = sts.map (·.1) := by
      have h : sts.length = (sts.map (·.1)).length := (List.length_map _).symm
      rw [h, List.take_length]
    rw [fulltake] at aA
    have eLA := sA _ _ (by simpa using Ne.symm nFd) eL
    refine ⟨eLA, ?_⟩
    have sF : SX [] H (put A d (H1 d)) := sx_nil_of (S := [F]) ((nil_sx s1).trans (unlock_sx ne sA)) (by simp [hF])
    walk_at "rd"
    exact k F _ kv bk hF sF (by rw [put_ne nFd]; exact dA) (KVs.le mono_TS (le_hid.trans (unlock_le rd1 eLA)) kA) ⟨nA, eA, fun n st e m nb => aA n (key_of' e) st e m nb⟩
end
end M

namespace M
open PySem PySem.Spec PyProof.Rows L2
theorem pows_at : ∀ i, i < 4 → ∃ m, ([1, 2, 4, 8] : List Int)[i]? = some m ∧ 0 < m ∧ m ≤ 8 := by
  intro i hi
  match i, hi with
  | 0, _ => exact ⟨1, rfl, by decide, by decide⟩
  | 1, _ => exact ⟨2, rfl, by decide, by decide⟩
  | 2, _ => exact ⟨4, rfl, by decide, by decide⟩
  | 3, _ => exact ⟨8, rfl, by decide, by decide⟩
theorem int_log {i : Int} (h0 : 0 ≤ i) (h1 : i < 1000000) : i.natAbs.log2 < 1920 := by
  obtain ⟨j, rfl⟩ : ∃ j : Nat, i = (j : Int) := ⟨i.toNat, by omega⟩
  exact small_log (by omega)
theorem cut_to' {xs : List V} {n : Nat} (h : n ≤ xs.length) : cutV xs none (some (n : Int)) = xs.take n := by
  unfold cutV
  rw [HT.sIx_nat, HT.sIx_none, List.drop_zero, Nat.sub_zero, Nat.min_eq_left h]
section
variable {P : Program} {w : World} {K : PySem.W.Frag} {mg : Str → Option Value} {base : Heap}
theorem x_ckw {r : List V → List V → Hp → VK → Prop} {t tk : TA} {σ : L2.St} {H : Hp} {Q : VK} (k : t σ H fun vs H1 => tk σ H1 fun zs H2 => r vs zs H2 Q) : tCKw r t tk σ H Q := k
def sp_law_lot (T : Tx K mg) : Sp := fun vs H Q _ => ∃ (p : Addr) (hands : Int), vs = [.ref p, .int hands] ∧ Drw H p ∧ 0 ≤ hands ∧ hands ≤ 4 ∧
  ∀ (q : Addr) (H' : Hp) (ns : List Int), H q = none → SX [p] H H' → Drw H' p → H' q = some (.tup (ns.map V.int)) → LotOk hands ns → Q (.ref q) H'
theorem ok_law_lot (T : Tx K mg) : FnOk P w K mg base CX0 2 T.law_lot.f T.law_lot.fd P_law_lot (sp_law_lot T) := by
  refine T.law_lot.F.ok sc_law_lot (fun vs H Q E h => ?_) (fun cdv A outer s H vs Q E hr h => ?_)
  · obtain ⟨p, hands, rfl, hp, h0, h4, k⟩ := h
    rfl
  have hu := hu_of hr
  have nd := sc_law_lot.nd
  obtain ⟨p, hands, rfl, hp, h0, h4, k⟩ := h
  refine ⟨_, (pss_cons (ps_set (i := 2) nd rfl (Or.inr rfl) (pe_call (ok_law_draw T) (hr.mono (by decide)) (by rfl) T.law_draw.g T.law_draw.F.kp T.law_draw.B .nil pass0 (pa_cons (pv 0) (pa_cons (pe_op op_powB pe_int pe_int) pa_nil))))
      (pss_one (ps_ret (pe_callTy (w_tup (K := K) rfl) (by rfl) T.b_tuple (by decide +kernel) (pa_cons (pe_lc (own := [("hand", 3)]) rfl nd (pi_range1 (by rfl) T.b_range (pa_cons (pv 1) pa_nil)) (blkOk_by (own := [("hand", 3)]) (N := N_law_lot) (sc := defScope s_law_lot) (by decide +kernel)) (fun _ _ _ _ _ => (pg_name (i := 3) nd rfl (Or.inl rfl))) (fun _ _ _ _ _ => pts_one (pt_cmpR op_eq (pe_op op_mod (pe_op op_fdivW (pv 2) (pe_ix (w_ixL (K := K) rfl) (pe_lst (pa_cons pe_int (pa_cons pe_int (pa_cons pe_int (pa_cons pe_int pa_nil))))) (pv 3) (fun _ _ => rfl))) pe_int) pe_int (nomark _))) (fun _ _ _ _ _ => (pv 3))) pa_nil))))), ?_⟩
  refine x_start (σ' := [some _, some _, none, none]) rfl ?_
  try simp only [cx_n, cx_K, cx_w, cx_P]
  walk_at "rd"
  refine x_I ⟨by decide, by decide +kernel⟩ ?_
  walk_at "rd"
  refine ⟨p, _, rfl, hp, by decide, by decide, fun bits H1 b0 b1 s1 p1 => ?_⟩
  have b1 : bits < 16 := b1
  walk_at "rd"
  refine x_rng1 (by omega) (by omega) ?_
  intro D hD
  refine lc_it walk_rng (fun n A => SX [] H1 A ∧ ∃ zs : List Int, A D = some (.lst (zs.map V.int)) ∧ zs.length ≤ n ∧ zs.Pairwise (· < ·) ∧ ∀ z ∈ zs, 0 ≤ z ∧ z < (n : Int)) ⟨SX.new hD, [], upd_same, Nat.le_refl _, .nil, (fun _ h => nomatch h)⟩ (fun _ _ _ _ => trivial) ?_ ?_
  · rintro i y A0 A hi ⟨sA, zs, eA, lz, pz, bz⟩ ⟨rfl, rfl⟩
    obtain ⟨m, em, m0, m8⟩ := pows_at i (by omega)
    walk_at "rd"
    refine ⟨rfl, ?_⟩
    walk_at "rd"
    refine ⟨Nat.le_of_ble_eq_true rfl, fun l hl => ?_⟩
    have sl : SX [] A (upd A l (.lst [.int 1, .int 2, .int 4, .int 8])) := SX.new hl
    walk_at "rd"
    refine x_ixL (xs := ([1, 2, 4, 8] : List Int).map V.int) (sqL upd_same) (at_map em) ?_
    refine x_I ⟨m0, Nat.lt_trans (int_log (i := m) (by omega) (by omega)) (by decide)⟩ ?_
    walk_at "rd"
    refine x_I (by decide) ?_
    walk_at "rd"
    refine x_cases (fun c => ?_) (fun c => ?_)
    · walk_at "rd"
      refine ⟨_, sl _ _ List.not_mem_nil eA, lt_size (by rw [List.length_map]; omega), sx_nil_of (S := [D]) ((nil_sx (sA.trans sl)).trans (SX.mut List.mem_cons_self)) (by simp [hD]), zs ++ [(i : Int)], by rw [upd_same, List.map_append]; rfl, by rw [List.length_append]; exact Nat.succ_le_succ lz, ?_, fun z hz => ?_⟩
      · exact List.pairwise_append.mpr ⟨pz, List.pairwise_singleton _ _, fun x hx y hy => by
          cases List.mem_singleton.mp hy
          exact (bz x hx).2⟩
      · rcases List.mem_append.mp hz with h | h
        · have := bz z h
          omega
        · cases List.mem_singleton.mp h
          omega
    · exact ⟨sA.trans sl, zs, sl _ _ List.not_mem_nil eA, by omega, pz, fun z hz => by have := bz z hz; omega⟩
  rintro A ⟨sA, zs, eA, lz, pz, bz⟩
  walk_at "rd"
  refine x_ctup (sqL eA) fun q hq => ?_
  have sq : SX [] A (upd A q (.tup (zs.map V.int))) := SX.new hq
  have sAll : SX [p] H (upd A q (.tup (zs.map V.int))) := s1.trans (nil_sx (sA.trans sq))
  have nqp : q ≠ p := fun e => (p1.sx sA List.not_mem_nil).there (e ▸ hq)
  exact k q _ zs ((s1.trans (nil_sx sA)).free hq (by simpa using nqp)) sAll (p1.sx (sA.trans sq) List.not_mem_nil) upd_same ⟨pz, fun z hz => by have := bz z hz; omega⟩
def sp_law_book (T : Tx K mg) : Sp := fun vs H Q _ => ∃ (p d : Addr) (sts : List (Str × Stand)), vs = [.ref p, .ref d] ∧ Drw H p ∧ rD (rStand K) (hid [p] H) (.ref d) sts ∧ Closed sts ∧ sts.length ≤ 100 ∧ (∀ q ∈ sts, isEnd q.2 = false → 1 ≤ q.2.size) ∧
  ∀ (q : Addr) (H' : Hp) (kv : List (Key × V)) (bk : List (Str × List Str)), H q = none → SX [p] H H' → Drw H' p → H' q = some (.dK kv) → KVs rTS H' kv bk → BookG sts bk → Q (.ref q) H'
theorem ok_law_book (T : Tx K mg) : FnOk P w K mg base CX0 2 T.law_book.f T.law_book.fd P_law_book (sp_law_book T) := by
  refine T.law_book.F.ok sc_law_book (fun vs H Q E h => ?_) (fun cdv A outer s H vs Q E hr h => ?_)
  · obtain ⟨p, d, sts, rfl, hp, hd, CS, hlen, hne, k⟩ := h
    rfl
  have hu := hu_of hr
  have nd := sc_law_book.nd
  obtain ⟨p, d, sts, rfl, hp, hd, CS, hlen, hne, k⟩ := h
  refine ⟨_, (pss_cons (ps_set (i := 2) nd rfl (Or.inl rfl) pe_dnewK)
      (pss_cons (ps_for PassesOwn.never rfl (w_pilist (K := K) rfl (pe_callBK (cl_sortDR rfl) (by rfl) T.b_sorted (by decide +kernel) (pa_cons (pv 1) pa_nil) (pk_cons pe_bl pk_nil))) (pg_name (i := 3) nd rfl (Or.inl rfl)) (pss_one (ps_if (PW.pt (pw_and (pt_cmpR op_eq (pe_ix (w_ixT (K := K) rfl) (pe_dget hu (pv 1) (pv 3) (fun _ _ => rfl)) pe_int (fun _ _ => rfl)) pe_str (nomark _)) (pw_and1 (pt_cmpR op_eq (pe_call (ok_law_draw T) (hr.mono (by decide)) (by rfl) T.law_draw.g T.law_draw.F.kp T.law_draw.B .nil pass0 (pa_cons (pv 0) (pa_cons pe_int pa_nil))) pe_int (nomark _))))) (pss_cons (ps_set (i := 4) nd rfl (Or.inr rfl) (pe_call (ok_law_steps T) (hr.mono (by decide)) (by rfl) T.law_steps.g T.law_steps.F.kp T.law_steps.B .nil pass0 (pa_cons (pv 1) (pa_cons (pv 3) pa_nil))))
      (pss_cons (ps_set (i := 5) nd rfl (Or.inr rfl) (pe_op op_add pe_int (pe_call (ok_law_draw T) (hr.mono (by decide)) (by rfl) T.law_draw.g T.law_draw.F.kp T.law_draw.B .nil pass0 (pa_cons (pv 0) (pa_cons pe_int pa_nil)))))
      (pss_cons (ps_setLc (i := 6) (own := [("at", 7)]) rfl nd rfl rfl (sw_true rfl rfl rfl (by decide +kernel)) (pi_range1 (by rfl) T.b_range (pa_cons (pe_callB (w_len (K := K) rfl) (by rfl) T.b_len (by decide +kernel) (pa_cons (pv 4) pa_nil)) pa_nil)) (blkOk_by (own := [("at", 7)]) (N := N_law_book) (sc := defScope s_law_book) (by decide +kernel)) (fun _ _ _ _ _ => (pg_name (i := 7) nd rfl (Or.inl rfl))) (fun _ _ _ _ _ => pts_one (pt_cmpR op_eq (pe_op op_mod (pe_op op_fdivW (pv 5) (pe_ix (w_ixL (K := K) rfl) (pe_lst (pa_cons pe_int (pa_cons pe_int (pa_cons pe_int (pa_cons pe_int pa_nil))))) (pv 7) (fun _ _ => rfl))) pe_int) pe_int (nomark _))) (fun _ _ _ _ _ => (pe_ix (w_ixL (K := K) rfl) (pv 4) (pv 7) (fun _ _ => rfl))))
      (pss_cons (ps_if (pt_cmpR op_eq (pe_callB (w_len (K := K) rfl) (by rfl) T.b_len (by decide +kernel) (pa_cons (pv 6) pa_nil)) pe_int (nomark _)) (pss_one (ps_set (i := 6) nd rfl (Or.inl rfl) (pe_slice (w_slL (K := K) rfl) (pv 4) po_none (po_some pe_int)))) pss_nil)
      (pss_one (ps_dput hu (pv 2) (pv 3) (pe_callTy (w_tup (K := K) rfl) (by rfl) T.b_tuple (by decide +kernel) (pa_cons (pv 6) pa_nil)) rfl)))))) pss_nil)))
      (pss_one (ps_ret (pv 2))))), ?_⟩
  refine x_start (σ' := [some _, some _, none, none, none, none, none, none]) rfl ?_
  try simp only [cx_n, cx_K, cx_w, cx_P]
  obtain ⟨d', kvs, ed, hrd, hk⟩ := id hd
  cases ed
  walk_at "rd"
  intro F hF
  walk_at "rd"
  have s1 : SX [] H (upd H F (.dK [])) := SX.new hF
  have F1 : (upd H F (.dK [])) F = some (.dK []) := upd_same
  generalize upd H F (.dK []) = H1 at s1 F1
  have nFp : F ≠ p := fun e => hp.there (e ▸ hF)
  refine x_ckw ?_
  walk_at "rd"
  refine ⟨d, kvs, sts.map (·.1), rfl, rfl, s1.le0.rd _ _ trivial (le_hid.rd _ _ trivial hrd), hk.keys, fun ys py hpy np => ?_⟩
  have nFy : F ≠ py := ne_of_none F1 np
  have s2 : SX [] H1 (upd H1 py (.lst (ys.map V.str))) := SX.new np
  have y2 : (upd H1 py (.lst (ys.map V.str))) py = some (.lst (ys.map V.str)) := upd_same
  generalize upd H1 py (.lst (ys.map V.str)) = H2 at s2 y2
  have sH2 : SX [p] H H2 := nil_sx (s1.trans s2)
  have p2 := hp.sx (s1.trans s2) List.not_mem_nil
  have nyp : py ≠ p := fun e => (hp.sx s1 List.not_mem_nil).there (e ▸ np)
  have ynd0 : ys.Nodup := hpy.nodup_iff.mpr CS.nd
  have ysl : ys.length = sts.length := by rw [hpy.length_eq, List.length_map]
  refine x_itl (sqL y2) ?_
  refine for_it (walk_listR (R := rS) (Hb := H) (paired_S' ys)) (fun i σ A => SX [p] H A ∧ Drw A p ∧ A py = some (.lst (ys.map V.str)) ∧ ∃ (kv : List (Key × V)) (bk : List (Str × List Str)) (c1 c2 c3 c4 : Option V), A F = some (.dK kv) ∧ KVs rTS (hid [F, p] A) kv bk ∧
      (∀ n ∈ bk.map (·.1), n ∈ ys.take i) ∧ (bk.map (·.1)).Nodup ∧
      (∀ q ∈ bk, ∃ h ms, lookA sts q.1 = some (.hand h ms) ∧ q.2 ≠ [] ∧ q.2.length ≤ 4 ∧ q.2.Pairwise ltS ∧ ∀ z ∈ q.2, z ∈ (Stand.hand h ms).rows.map (·.1)) ∧
      σ = [some (.ref p), some (.ref d), some (.ref F), c1, c2, c3, c4, none])
    ⟨sH2, p2, y2, [], [], none, none, none, none, s2 _ _ List.not_mem_nil F1, .nil, (fun _ h => nomatch h), List.nodup_nil, (fun _ h => nomatch h), rfl⟩ (fun _ _ _ _ h => sqL h.2.2.1) ?_ ?_
  · rintro i z σ A0 A hi ⟨sA, pA, yA, kv, bk, c1, c2, c3, c4, dA, kA, kI, nA, eA, rfl⟩ ⟨rfl, n, hn, rfl⟩
    obtain ⟨st, est⟩ := lookA_some (hpy.mem_iff.mp (getMem hn))
    obtain ⟨v, ev, rv⟩ := hk.at_ est
    obtain ⟨cnd, csz, cto⟩ := CS.all _ (lookA_mem est)
    have csz : st.size ≤ 4 := csz
    obtain ⟨tp, xs, rfl, htp, h0⟩ := rStand.kind rv
    have nextI : ∀ m ∈ ys.take i, m ∈ ys.take (i + 1) := fun m hm => by rw [take_succ_of hn]; exact List.mem_append_left _ hm
    have skip : ∀ (B : Hp) (c2 c3 c4 : Option V), SX [p] A B → Drw B p → SX [p] H B ∧ Drw B p ∧ B py = some (.lst (ys.map V.str)) ∧ ∃ (kv' : List (Key × V)) (bk' : List (Str × List Str)) (c1' c2' c3' c4' : Option V), B F = some (.dK kv') ∧ KVs rTS (hid [F, p] B) kv' bk' ∧
        (∀ n ∈ bk'.map (·.1), n ∈ ys.take (i + 1)) ∧ (bk'.map (·.1)).Nodup ∧
        (∀ q ∈ bk', ∃ h ms, lookA sts q.1 = some (.hand h ms) ∧ q.2 ≠ [] ∧ q.2.length ≤ 4 ∧ q.2.Pairwise ltS ∧ ∀ z ∈ q.2, z ∈ (Stand.hand h ms).rows.map (·.1)) ∧
        [some (.ref p), some (.ref d), some (.ref F), some (.str n), c2, c3, c4, none] = [some (.ref p), some (.ref d), some (.ref F), c1', c2', c3', c4', none] := fun B c2 c3 c4 sB pB =>
      ⟨sA.trans sB, pB, sB _ _ (by simpa using nyp) yA, kv, bk, _, _, _, _, sB _ _ (by simpa using nFp) dA, KVs.le mono_TS ((sB.sub (by simp)).le) kA, fun m hm => nextI m (kI m hm), nA, eA, rfl⟩
    walk_at "rd"
    refine x_dg' (sA.leH.rd _ _ trivial hrd) ev ?_
    walk_at "rd"
    refine x_ixT (sA.leH.t htp) h0 ?_
    walk_at "rd"
    refine x_cases (fun c => ?_) (fun c => ?_)
    · cases st with
      | fin => exact absurd c (by show ¬ decide (V.str "end" = V.str "hand") = true; decide +kernel)
      | chance ds => exact absurd c (by show ¬ decide (V.str "chance" = V.str "hand") = true; decide +kernel)
      | hand hd0 ms =>
      have h1 : 1 ≤ (Stand.hand hd0 ms).size := hne _ (lookA_mem est) rfl
      walk_at "rd"
      refine ⟨p, 2, rfl, pA, by decide, by decide, fun r B1 r0 r1 t1 q1 => ?_⟩
      walk_at "rd"
      refine x_cases (fun c => ?_) (fun c => ?_)
      · walk_at "rd"
        have sB1 := sA.trans t1
        refine ⟨d, n, sts, _, rfl, mono_D (mono_stand K) _ _ _ _ sB1.leH hd, est, fun l B2 ys2 hl t2 el pp sy => ?_⟩
        walk_at "rd"
        have ynd : ys2.Nodup := pp.nodup_iff.mpr (rows_nodupB cnd)
        have yl : ys2.length = (Stand.hand hd0 ms).size := by rw [pp.length_eq, List.length_map, rows_tos_len, tos_len]
        have nlp : l ≠ p := fun e => q1.there (e ▸ hl)
        refine ⟨p, 15, rfl, q1.sx t2 List.not_mem_nil, by decide, by decide, fun bits B3 b0 b1 t3 q3 => ?_⟩
        walk_at "rd"
        have el3 := t3 _ _ (by simpa using nlp) el
        have sAB3 : SX [p] A B3 := (t1.trans (nil_sx t2)).trans t3
        refine x_lenL' (sqL el3) ?_
        walk_at "rd"
        rw [List.length_map]
        refine x_rng1 (by omega) (by omega) ?_
        rw [Int.toNat_natCast]
        intro D hD
        refine lc_it walk_rng (fun m C => SX [] B3 C ∧ ∃ zs : List Str, C D = some (.lst (zs.map V.str)) ∧ zs.Sublist (ys2.take m)) ⟨SX.new hD, [], upd_same, .slnil⟩ (fun _ _ _ _ => trivial) ?_ ?_
        · rintro j y C0 C hj ⟨u1, zs, u2, sub⟩ ⟨rfl, rfl⟩
          obtain ⟨m, em, m0, m8⟩ := pows_at j (by omega)
          obtain ⟨z, hz⟩ : ∃ z, ys2[j]? = some z := ⟨ys2[j], by simp [hj]⟩
          have zl : zs.length ≤ 4 := by
            have := sub.length_le
            rw [List.length_take] at this
            omega
          walk_at "rd"
          refine ⟨rfl, ?_⟩
          walk_at "rd"
          refine ⟨Nat.le_of_ble_eq_true rfl, fun l2 hl2 => ?_⟩
          have sl : SX [] C (upd C l2 (.lst [.int 1, .int 2, .int 4, .int 8])) := SX.new hl2
          walk_at "rd"
          refine x_ixL (xs := ([1, 2, 4, 8] : List Int).map V.int) (sqL upd_same) (at_map em) ?_
          refine x_I ⟨m0, Nat.lt_trans (int_log (i := m) (by omega) (by omega)) (by decide)⟩ ?_
          walk_at "rd"
          refine x_I (by decide) ?_
          walk_at "rd"
          refine x_cases (fun c => ?_) (fun c => ?_)
          · walk_at "rd"
            refine x_ixL (sqL (sl _ _ List.not_mem_nil (u1 _ _ List.not_mem_nil el3))) (atI_nat (by rw [List.getElem?_map, hz]; rfl)) ?_
            refine ⟨_, sl _ _ List.not_mem_nil u2, lt_size (by rw [List.length_map]; omega), sx_nil_of (S := [D]) ((nil_sx (u1.trans sl)).trans (SX.mut List.mem_cons_self)) (by simp [hD]), zs ++ [z], by rw [upd_same, List.map_append]; rfl, ?_⟩
            rw [take_succ_of hz]
            exact sub.append (.refl _)
          · refine ⟨u1.trans sl, zs, sl _ _ List.not_mem_nil u2, ?_⟩
            rw [take_succ_of hz]
            exact sub.trans (List.sublist_append_left _ _)
        rintro B4 ⟨u1, zs, u2, sub⟩
        rw [List.take_length] at sub
        have q4 := q3.sx u1 List.not_mem_nil
        have sAB4 : SX [p] A B4 := sAB3.trans (nil_sx u1)
        walk_at "rd"
        refine x_lenL' (sqL u2) ?_
        walk_at "rd"
        rw [List.length_map]
        by_cases z0 : zs = []
        · refine x_true (decide_eq_true (by rw [z0]; rfl)) ?_
          walk_at "rd"
          refine ⟨l, _, rfl, sqL (u1 _ _ List.not_mem_nil el3), fun rr hrr => ?_⟩
          have ect : cutV (ys2.map V.str) none (some 1) = (ys2.take 1).map V.str := by
            rw [List.map_take]
            exact cut_to' (n := 1) (by rw [List.length_map]; omega)
          rw [ect]
          have srr : SX [] B4 (upd B4 rr (.lst ((ys2.take 1).map V.str))) := SX.new hrr
          have err : (upd B4 rr (.lst ((ys2.take 1).map V.str))) rr = some (.lst ((ys2.take 1).map V.str)) := upd_same
          generalize upd B4 rr (.lst ((ys2.take 1).map V.str)) = B5 at srr err
          have q5 := q4.sx srr List.not_mem_nil
          walk_at "rd"
          have sAB : SX [p] A B5 := sAB4.trans (nil_sx srr)
          refine x_ctup (sqL err) fun t ht => ?_
          walk_at "rd"
          have ntp : t ≠ p := fun e => q5.there (e ▸ ht)
          have sAT : SX [p] A (upd B5 t (.tup ((ys2.take 1).map V.str))) := sAB.trans (SX.new ht)
          have dT := sAT _ _ (by simpa using nFp) dA
          have kl : kv.length = bk.length := Paired.length kA
          have bl : bk.length ≤ 100 := by
            have := nodup_sub nA fun n hn => List.mem_of_mem_take (kI n hn)
            rw [List.length_map, ysl] at this
            omega
          refine ⟨F, _, rfl, DPut.k (k := Sum.inr n) dT (lt_size (by omega)), ?_⟩
          have ntF : t ≠ F := fun e => by
            have hC := sAB _ _ (by simpa using nFp) dA
            rw [e, hC] at ht
            cases ht
          have fr2 : n ∉ bk.map (·.1) := fun h => nodup_take ynd0 hn (kI n h)
          rw [putK_fresh _ kA.keys fr2]
          have le1 : Le (hid [F, p] A) (hid [F, p] (upd (upd B5 t (.tup ((ys2.take 1).map V.str))) F (.dK (kv ++ [(Sum.inr n, V.ref t)])))) := ((sAT.sub (by simp)).trans (SX.mut (by simp))).le
          have ntpy : py ≠ t := ne_of_none (sAB _ _ (by simpa using nyp) yA) ht
          refine ⟨fun b o nb hb => ?_, (q5.sx (SX.new (S := []) ht) List.not_mem_nil).sx (SX.mut (S := [F]) List.mem_cons_self) (by simpa using Ne.symm nFp), by rw [upd_ne (Ne.symm nFy), upd_ne ntpy]; exact sAB _ _ (by simpa using nyp) yA, _, bk ++ [(n, (ys2.take 1))], _, _, _, _, upd_same, Paired.app (KVs.le mono_TS le1 kA) (.cons ⟨rfl, t, rfl, ?_⟩ .nil), fun m hm => ?_, ?_, fun q hq => ?_, rfl⟩
          · have hbF : b ≠ F := fun e => by rw [e, hF] at hb; cases hb
            rw [upd_ne hbF]
            exact (sA.trans sAT) b o nb hb
          · rw [hid_of (by simp [ntF, ntp]), upd_ne ntF, upd_same]
          · rw [List.map_append] at hm
            rcases List.mem_append.mp hm with h | h
            · exact nextI m (kI m h)
            · cases List.mem_singleton.mp h
              rw [take_succ_of hn]
              exact List.mem_append_right _ List.mem_cons_self
          · rw [List.map_append]
            exact nd_snoc nA fr2
          · rcases List.mem_append.mp hq with h | h
            · exact eA q h
            · cases List.mem_singleton.mp h
              have sb : (ys2.take 1).Sublist ys2 := List.take_sublist _ _
              refine ⟨hd0, ms, est, fun e => by have := congrArg List.length e; change (ys2.take 1).length = 0 at this; rw [List.length_take] at this; omega, ?_, (strict_of (sortedS_pw sy) ynd).sublist sb, fun z hz => pp.mem_iff.mp (sb.mem hz)⟩
              have := sb.length_le
              show (ys2.take 1).length ≤ 4
              omega

        · refine x_false (decide_eq_false fun e => by injection e with e; exact z0 (List.eq_nil_of_length_eq_zero (by omega))) ?_
          walk_at "rd"
          generalize hB5 : B4 = B5 at u1 u2 q4 sAB4
          subst hB5
          have sAB : SX [p] A B4 := sAB4
          refine x_ctup (sqL u2) fun t ht => ?_
          walk_at "rd"
          have ntp : t ≠ p := fun e => q4.there (e ▸ ht)
          have sAT : SX [p] A (upd B4 t (.tup (zs.map V.str))) := sAB.trans (SX.new ht)
          have dT := sAT _ _ (by simpa using nFp) dA
          have kl : kv.length = bk.length := Paired.length kA
          have bl : bk.length ≤ 100 := by
            have := nodup_sub nA fun n hn => List.mem_of_mem_take (kI n hn)
            rw [List.length_map, ysl] at this
            omega
          refine ⟨F, _, rfl, DPut.k (k := Sum.inr n) dT (lt_size (by omega)), ?_⟩
          have ntF : t ≠ F := fun e => by
            have hC := sAB _ _ (by simpa using nFp) dA
            rw [e, hC] at ht
            cases ht
          have fr2 : n ∉ bk.map (·.1) := fun h => nodup_take ynd0 hn (kI n h)
          rw [putK_fresh _ kA.keys fr2]
          have le1 : Le (hid [F, p] A) (hid [F, p] (upd (upd B4 t (.tup (zs.map V.str))) F (.dK (kv ++ [(Sum.inr n, V.ref t)])))) := ((sAT.sub (by simp)).trans (SX.mut (by simp))).le
          have ntpy : py ≠ t := ne_of_none (sAB _ _ (by simpa using nyp) yA) ht
          refine ⟨fun b o nb hb => ?_, (q4.sx (SX.new (S := []) ht) List.not_mem_nil).sx (SX.mut (S := [F]) List.mem_cons_self) (by simpa using Ne.symm nFp), by rw [upd_ne (Ne.symm nFy), upd_ne ntpy]; exact sAB _ _ (by simpa using nyp) yA, _, bk ++ [(n, zs)], _, _, _, _, upd_same, Paired.app (KVs.le mono_TS le1 kA) (.cons ⟨rfl, t, rfl, ?_⟩ .nil), fun m hm => ?_, ?_, fun q hq => ?_, rfl⟩
          · have hbF : b ≠ F := fun e => by rw [e, hF] at hb; cases hb
            rw [upd_ne hbF]
            exact (sA.trans sAT) b o nb hb
          · rw [hid_of (by simp [ntF, ntp]), upd_ne ntF, upd_same]
          · rw [List.map_append] at hm
            rcases List.mem_append.mp hm with h | h
            · exact nextI m (kI m h)
            · cases List.mem_singleton.mp h
              rw [take_succ_of hn]
              exact List.mem_append_right _ List.mem_cons_self
          · rw [List.map_append]
            exact nd_snoc nA fr2
          · rcases List.mem_append.mp hq with h | h
            · exact eA q h
            · cases List.mem_singleton.mp h
              have sb : zs.Sublist ys2 := sub
              refine ⟨hd0, ms, est, z0, ?_, (strict_of (sortedS_pw sy) ynd).sublist sb, fun z hz => pp.mem_iff.mp (sb.mem hz)⟩
              have := sb.length_le
              show zs.length ≤ 4
              omega

      · exact skip _ _ _ _ t1 q1
    · exact skip _ _ _ _ (SX.refl _) pA
  · rintro σ A ⟨sA, pA, yA, kv, bk, c1, c2, c3, c4, dA, kA, kI, nA, eA, rfl⟩
    walk_at "rd"
    exact k F A kv bk hF sA pA dA (KVs.le mono_TS le_hid kA) ⟨nA, eA⟩
end
end M

namespace M
open PySem PySem.Spec PyProof.Rows L2
theorem putA_last {α : Type} {n : Str} {a b : α} : ∀ {l : List (Str × α)}, n ∉ l.map (·.1) → putA (l ++ [(n, a)]) n b = l ++ [(n, b)]
  | [], _ => by show (if n = n then _ else _) = _; rw [if_pos rfl]; rfl
  | (k, c) :: l, h => by
    have h1 : ¬ k = n := fun e => h (by rw [e]; exact List.mem_cons_self)
    show (if k = n then _ else (k, c) :: putA (l ++ [(n, a)]) n b) = _
    rw [if_neg h1, putA_last fun q => h (List.mem_cons_of_mem _ q)]
    rfl
def noE (start : Str) (l : List (Str × Stand)) : List (Str × Stand) := l.map fun q => (q.1, if isEnd q.2 = true then Stand.hand 0 [("go", start), ("on", q.1)] else q.2)
theorem noE_keys (start : Str) (l : List (Str × Stand)) : (noE start l).map (·.1) = l.map (·.1) := by
  unfold noE
  rw [List.map_map]
  rfl
theorem noE_ok {hands : Int} {start : Str} {sts : List (Str × Stand)} (o : WorkOk hands start sts) : WorkOk hands start (noE start sts) := by
  refine ⟨o.h, by unfold noE; rw [List.length_map]; exact o.len, by rw [noE_keys]; exact o.nd, fun p hp => ?_, by rw [noE_keys]; exact o.st⟩
  obtain ⟨q, hq, rfl⟩ := List.mem_map.mp hp
  obtain ⟨h1, h2⟩ := o.all q hq
  refine ⟨h1, ?_⟩
  rw [noE_keys]
  show StandOk _ _ (if isEnd q.2 = true then _ else _)
  have sn : nameB start = true := by
    obtain ⟨z, hz, e⟩ := List.mem_map.mp o.st
    rw [← e]
    exact (o.all z hz).1
  by_cases c : isEnd q.2 = true
  · rw [if_pos c]
    have hh := o.h
    refine ⟨by decide, by omega, Nat.le_of_ble_eq_true rfl, Nat.le_of_ble_eq_true rfl, (by decide +kernel : [("go" : Str), "on"].Nodup), fun p hp => ?_⟩
    rcases List.mem_cons.mp hp with rfl | hp
    · exact ⟨(by decide +kernel : nameB "go" = true), sn, o.st⟩
    · cases List.mem_singleton.mp hp
      exact ⟨(by decide +kernel : nameB "on" = true), h1, List.mem_map.mpr ⟨q, hq, rfl⟩⟩
  · rw [if_neg c]
    exact h2
theorem noE_ends (start : Str) (l : List (Str × Stand)) : endsOf (noE start l) = [] := by
  unfold endsOf
  rw [List.map_eq_nil_iff, List.filter_eq_nil_iff]
  intro p hp
  obtain ⟨⟨n, st⟩, _, rfl⟩ := List.mem_map.mp hp
  cases st <;> simp [isEnd]
theorem merge2' {a b : Str} {u v : V} (h : b ≠ a) : mergeK [] [((Sum.inr a : Key), u), (Sum.inr b, v)] = [(Sum.inr a, u), (Sum.inr b, v)] := by
  show putK [(Sum.inr a, u)] (Sum.inr b) v = _
  exact putK_fresh (l := [a]) v rfl (by simpa using h)
section
variable {P : Program} {w : World} {K : PySem.W.Frag} {mg : Str → Option Value} {base : Heap}
def sp_law_no_ends (T : Tx K mg) : Sp := fun vs H Q _ => ∃ (d : Addr) (start : Str) (hands : Int) (sts : List (Str × Stand)), vs = [.ref d, .str start] ∧ rD (rStand K) H (.ref d) sts ∧ WorkOk hands start sts ∧
  ∀ (q : Addr) (H' : Hp), H q = none → SX [] H H' → rD (rStand K) H' (.ref q) (noE start sts) → Q (.ref q) H'
theorem ok_law_no_ends (T : Tx K mg) : FnOk P w K mg base CX0 1 T.law_no_ends.f T.law_no_ends.fd P_law_no_ends (sp_law_no_ends T) := by
  refine T.law_no_ends.F.ok sc_law_no_ends (fun vs H Q E h => ?_) (fun cdv A outer s H vs Q E hr h => ?_)
  · obtain ⟨d, start, hands, sts, rfl, hd, ok, k⟩ := h
    rfl
  have hu := hu_of hr
  have nd := sc_law_no_ends.nd
  obtain ⟨d, start, hands, sts, rfl, hd, ok, k⟩ := h
  refine ⟨_, (pss_cons (ps_set (i := 2) nd rfl (Or.inl rfl) pe_dnewK)
      (pss_cons (ps_lockR (ps_for PassesOwn.never rfl (pi_keys (pv 0)) (pg_name (i := 3) nd rfl (Or.inl rfl)) (pss_cons (ps_dput hu (pv 2) (pv 3) (pe_dget hu (pv 0) (pv 3) (fun _ _ => rfl)) rfl)
      (pss_one (ps_if (pt_cmpR op_eq (pe_ix (w_ixT (K := K) rfl) (pe_dget hu (pv 0) (pv 3) (fun _ _ => rfl)) pe_int (fun _ _ => rfl)) pe_str (nomark _)) (pss_one (ps_dput hu (pv 2) (pv 3) (pe_tup (pa_cons pe_str (pa_cons pe_int (pa_cons (pe_disp (pps_cons pe_str (pv 1) (pps_cons pe_str (pv 3) pps_nil)) (by rfl) (by rfl) (fun z => by cases z) (by decide)) pa_nil)))) rfl)) pss_nil)))))
      (pss_one (ps_ret (pv 2))))), ?_⟩
  refine x_start (σ' := [some _, some _, none, none]) rfl ?_
  try simp only [cx_n, cx_K, cx_w, cx_P]
  obtain ⟨d', kvs, ed, hrd, hk⟩ := id hd
  cases ed
  walk_at "rd"
  intro F hF
  walk_at "rd"
  have s1 : SX [] H (upd H F (.dK [])) := SX.new hF
  have F1 : (upd H F (.dK [])) F = some (.dK []) := upd_same
  generalize upd H F (.dK []) = H1 at s1 F1
  have nFd : F ≠ d := fun e => rd_there hrd (e ▸ hF)
  have hF' : ∀ b ∈ [F], H b = none := fun b hb => by cases List.mem_singleton.mp hb; exact hF
  have rd1 : Rd H1 d (.dK kvs) := s1.le0.rd _ _ trivial hrd
  refine x_lockR rd1 fun od HL eL ne => ?_
  have leL : Le H HL := s1.le0.trans (lock_le rd1 eL ne)
  have lF : Le H (hid [F] HL) := le_into leL hF'
  walk_at "rd"
  refine x_itk eL ?_
  have hlen := ok.len.2
  refine for_it (walk_keysR hk) (fun i σ A => ∃ (kv : List (Key × V)) (c : Option V), SX [F] HL A ∧ A F = some (.dK kv) ∧ KVs (rStand K) (hid [F] A) kv (noE start (sts.take i)) ∧
      σ = [some (.ref d), some (.str start), some (.ref F), c])
    ⟨[], none, SX.refl _, by rw [ne _ nFd]; exact F1, .nil, rfl⟩ (fun _ _ _ _ h => by obtain ⟨_, _, h, _⟩ := h; exact h _ _ (by simpa using Ne.symm nFd) eL) ?_ ?_
  · rintro i z σ A0 A hi ⟨kv, c, sA, dA, kA, rfl⟩ ⟨rfl, q, v0, hq, rfl, _⟩
    obtain ⟨n, st⟩ := q
    have hq1 : (sts.map (·.1))[i]? = some n := by rw [List.getElem?_map, hq]; rfl
    have est : lookA sts n = some st := lookA_nodup ok.nd (getMem hq)
    obtain ⟨v, ev, rv⟩ := hk.at_ est
    have lA : Le H (hid [F] A) := lF.trans sA.le
    have rdA : Rd A d (.dK kvs) := .inr ⟨od, sA _ _ (by simpa using Ne.symm nFd) eL⟩
    have kk : kv.map (·.1) = ((sts.map (·.1)).take i).map Sum.inr := by rw [kA.keys, noE_keys, List.map_take]
    have kl : kv.length = (sts.take i).length := by rw [Paired.length kA]; unfold noE; rw [List.length_map]
    have fr : n ∉ (sts.map (·.1)).take i := nodup_take ok.nd hq1
    have stp : noE start (sts.take (i + 1)) = noE start (sts.take i) ++ [(n, if isEnd st = true then Stand.hand 0 [("go", start), ("on", n)] else st)] := by
      unfold noE
      rw [take_succ_of hq, List.map_append]
      rfl
    have fr2 : n ∉ (noE start (sts.take i)).map (·.1) := by rw [noE_keys, List.map_take]; exact fr
    walk_at "rd"
    refine x_dg' rdA ev ?_
    walk_at "rd"
    refine ⟨F, _, rfl, DPut.k (k := Sum.inr n) dA (lt_size (by rw [kl, List.length_take]; omega)), ?_⟩
    rw [putK_fresh _ kk fr]
    have sB : SX [F] A (upd A F (.dK (kv ++ [(Sum.inr n, v)]))) := SX.mut List.mem_cons_self
    have dB : (upd A F (.dK (kv ++ [(Sum.inr n, v)]))) F = some (.dK (kv ++ [(Sum.inr n, v)])) := upd_same
    generalize upd A F (.dK (kv ++ [(Sum.inr n, v)])) = B at sB dB
    have kB : KVs (rStand K) (hid [F] B) (kv ++ [(Sum.inr n, v)]) (noE start (sts.take i) ++ [(n, st)]) := Paired.app (KVs.le (mono_stand K) sB.le kA) (.cons ⟨rfl, mono_stand K _ _ _ _ (lA.trans sB.le) rv⟩ .nil)
    have rdB : Rd B d (.dK kvs) := .inr ⟨od, (sA.trans sB) _ _ (by simpa using Ne.symm nFd) eL⟩
    obtain ⟨tp, xs, rfl, htp, h0⟩ := rStand.kind (mono_stand K _ _ _ _ ((lA.trans sB.le).trans le_hid) rv)
    walk_at "rd"
    refine x_dg' rdB ev ?_
    walk_at "rd"
    refine x_ixT htp h0 ?_
    walk_at "rd"
    rw [kind_end]
    refine x_cases (fun c1 => ?_) (fun c1 => ?_)
    · walk_at "rd"
      intro dd hdd
      refine x_pcons' ?_
      walk_at "rd"
      refine x_pcons' ?_
      walk_at "rd"
      refine x_pnil' ?_
      refine ⟨upd_same, [(Sum.inr "go", .str start), (Sum.inr "on", .str n)], rfl, Nat.le_of_ble_eq_true rfl, ?_⟩
      rw [merge2' (by decide +kernel), upd_upd]
      have s3 : SX [] B (upd B dd (.dK [(Sum.inr "go", .str start), (Sum.inr "on", .str n)])) := SX.new hdd
      have e3 : (upd B dd (.dK [(Sum.inr "go", .str start), (Sum.inr "on", .str n)])) dd = some (.dK [(Sum.inr "go", .str start), (Sum.inr "on", .str n)]) := upd_same
      generalize upd B dd (.dK [(Sum.inr "go", .str start), (Sum.inr "on", .str n)]) = C at s3 e3
      refine ⟨Nat.le_of_ble_eq_true rfl, fun t ht => ?_⟩
      have s4 : SX [] C (upd C t (.tup [.str "hand", .int 0, .ref dd])) := SX.new ht
      have e4 : (upd C t (.tup [.str "hand", .int 0, .ref dd])) t = some (.tup [.str "hand", .int 0, .ref dd]) := upd_same
      generalize upd C t (.tup [.str "hand", .int 0, .ref dd]) = C2 at s4 e4
      have s34 := s3.trans s4
      have d4 := s34 _ _ List.not_mem_nil dB
      walk_at "rd"
      refine ⟨F, _, rfl, DPut.k (k := Sum.inr n) d4 (lt_size (by rw [List.length_append, kl, List.length_take]; show min i sts.length + 1 ≤ 10000; omega)), ?_⟩
      have ndF : dd ≠ F := fun e => by rw [e, dB] at hdd; cases hdd
      have ntF : t ≠ F := fun e => by rw [e, s3 _ _ List.not_mem_nil dB] at ht; cases ht
      refine ⟨_, _, (sA.trans sB).trans ((nil_sx s34).trans (SX.mut List.mem_cons_self)), upd_same, ?_, rfl⟩
      have le2 : Le (hid [F] B) (hid [F] (upd C2 F (.dK (putK (kv ++ [(Sum.inr n, V.ref tp)]) (Sum.inr n) (.ref t))))) := ((nil_sx s34).trans (SX.mut List.mem_cons_self)).le
      have kC := KVs.put (R := rStand K) (H := hid [F] (upd C2 F (.dK (putK (kv ++ [(Sum.inr n, V.ref tp)]) (Sum.inr n) (.ref t))))) (s := n) (v := .ref t) (a := Stand.hand 0 [("go", start), ("on", n)]) ⟨t, .ref dd, rfl, sqT (by rw [hid_of (by simpa using ntF), upd_ne ntF]; exact e4), dd, [(Sum.inr "go", .str start), (Sum.inr "on", .str n)], rfl, .inl (by rw [hid_of (by simpa using ndF), upd_ne ndF]; exact s4 _ _ List.not_mem_nil e3), .cons ⟨rfl, rfl⟩ (.cons ⟨rfl, rfl⟩ .nil)⟩ (KVs.le (mono_stand K) le2 kB) (by
        rw [List.map_append]
        exact nd_snoc (by rw [noE_keys]; exact List.Nodup.sublist ((List.take_sublist _ _).map _) ok.nd) fr2)
      rw [putA_last fr2] at kC
      rw [stp, if_pos c1]
      exact kC
    · walk_at "rd"
      refine ⟨_, _, sA.trans sB, dB, ?_, rfl⟩
      rw [stp, if_neg (by rw [c1]; exact Bool.false_ne_true)]
      exact kB
  · rintro σ A ⟨kv, c, sA, dA, kA, rfl⟩
    rw [List.take_length] at kA
    have eLA := sA _ _ (by simpa using Ne.symm nFd) eL
    refine ⟨eLA, ?_⟩
    walk_at "rd"
    exact k F _ hF (sx_nil_of (S := [F]) ((nil_sx s1).trans (unlock_sx ne sA)) (by simp [hF])) ⟨F, kv, rfl, .inl (by rw [put_ne nFd]; exact dA), KVs.le (mono_stand K) (le_hid.trans (unlock_le rd1 eLA)) kA⟩
def sp_law_within (T : Tx K mg) : Sp := fun vs H Q _ => ∃ (d lt bd fd rl : Addr) (sts : List (Str × Stand)) (ns : List Int) (kvb kvf : List (Key × V)) (bk bf : List (Str × List Str)) (ys : List Str), vs = [.ref d, .ref lt, .ref bd, .ref fd, .ref rl] ∧ rD (rStand K) H (.ref d) sts ∧ SqT K H lt (ns.map V.int) ∧
  H bd = some (.dK kvb) ∧ KVs rTS H kvb bk ∧ H fd = some (.dK kvf) ∧ KVs rTS H kvf bf ∧ H rl = some (.lst (ys.map V.str)) ∧
  (∀ n ∈ ys, ∃ st, lookA sts n = some st ∧ (letS bk n st).length ≤ 100 ∧ (moverIn ns st = true → ∃ l, lookA bf n = some l ∧ ∀ z ∈ letS bk n st, z ∈ l)) ∧
  ∀ H', SX [] H H' → Q (.bl true) H'
theorem ok_law_within (T : Tx K mg) : FnOk P w K mg base CX0 2 T.law_within.f T.law_within.fd P_law_within (sp_law_within T) := by
  refine T.law_within.F.ok sc_law_within (fun vs H Q E h => ?_) (fun cdv A outer s H vs Q E hr h => ?_)
  · obtain ⟨d, lt, bd, fd, rl, sts, ns, kvb, kvf, bk, bf, ys, rfl, hd, hlt, hb, hvb, hf, hvf, hrl, good, k⟩ := h
    rfl
  have hu := hu_of hr
  have nd := sc_law_within.nd
  obtain ⟨d, lt, bd, fd, rl, sts, ns, kvb, kvf, bk, bf, ys, rfl, hd, hlt, hb, hvb, hf, hvf, hrl, good, k⟩ := h
  refine ⟨_, (pss_cons (ps_for PassesOwn.never rfl (w_pilist (K := K) rfl (pv 4)) (pg_name (i := 5) nd rfl (Or.inr rfl)) (pss_one (ps_if (pt_cmpR (w_in (K := K) rfl) (pe_call (ok_law_mover T) (hr.mono (by decide)) (by rfl) T.law_mover.g T.law_mover.F.kp T.law_mover.B .nil pass0 (pa_cons (pv 0) (pa_cons (pv 5) pa_nil))) (pv 1) (by rfl)) (pss_cons (ps_set (i := 6) nd rfl (Or.inl rfl) (pe_call (ok_law_steps T) (hr.mono (by decide)) (by rfl) T.law_steps.g T.law_steps.F.kp T.law_steps.B .nil pass0 (pa_cons (pv 0) (pa_cons (pv 5) pa_nil))))
      (pss_cons (ps_if (pt_cmp (pc_din hu (pv 5) (pv 2))) (pss_one (ps_set (i := 6) nd rfl (Or.inl rfl) (pe_dget hu (pv 2) (pv 5) (fun _ _ => rfl)))) pss_nil)
      (pss_one (ps_if (PW.pt (pw_or (pt_cmp (pc_dnotin hu (pv 5) (pv 3))) (pw_or1 (pt_not (pt_val (pe_callB (w_all (K := K) rfl rfl) (by rfl) T.b_all (by decide +kernel) (pa_cons (pe_lc (own := [("move", 7)]) rfl nd (w_piany (K := K) (i := 6) rfl (pv 6)) (blkOk_by (own := [("move", 7)]) (N := N_law_within) (sc := defScope s_law_within) (by decide +kernel)) (fun _ _ _ _ _ => (pg_name (i := 7) nd rfl (Or.inl rfl))) (fun _ _ _ _ _ => pts_nil) (fun _ _ _ _ _ => (pe_cmpR (w_in (K := K) rfl) (pv 7) (pe_dget hu (pv 3) (pv 5) (fun _ _ => rfl)) (by rfl)))) pa_nil))))))) (pss_one (ps_ret pe_bl)) pss_nil)))) pss_nil)))
      (pss_one (ps_ret pe_bl))), ?_⟩
  refine x_start (σ' := [some _, some _, some _, some _, some _, none, none, none]) rfl ?_
  try simp only [cx_n, cx_K, cx_w, cx_P]
  walk_at "rd"
  refine x_itl (sqL hrl) ?_
  refine for_it (walk_listR (R := rS) (Hb := H) (paired_S' ys)) (fun i σ A => ∃ (c1 c2 : Option V), SX [] H A ∧ σ = [some (.ref d), some (.ref lt), some (.ref bd), some (.ref fd), some (.ref rl), c1, c2, none]) ⟨none, none, SX.refl _, rfl⟩ (fun i σ A _ h => by obtain ⟨_, _, s, _⟩ := h; exact sqL (s _ _ List.not_mem_nil hrl)) ?_ ?_
  · rintro i z σ A0 A hi ⟨c1, c2, sA, rfl⟩ ⟨rfl, n, hn, rfl⟩
    obtain ⟨st, est, ll, imp⟩ := good n (getMem hn)
    walk_at "rd"
    refine ⟨d, n, sts, st, rfl, mono_D (mono_stand K) _ _ _ _ sA.le0 hd, est, ?_⟩
    walk_at "rd"
    refine ⟨lt, _, rfl, .inr (sA.le0.t hlt), by cases st <;> rfl, flat_ints ns, ?_⟩
    rw [inV_mover]
    walk_at "rd"
    refine x_cases (fun c3 => ?_) (fun c3 => ?_)
    · have c3 : moverIn ns st = true := by simpa using c3
      obtain ⟨l, el, sub⟩ := imp c3
      obtain ⟨v2, ev2, t2, rfl, ht2⟩ := hvf.at_ el
      walk_at "rd"
      refine ⟨d, n, sts, st, rfl, mono_D (mono_stand K) _ _ _ _ sA.le0 hd, est, fun p B ys2 hp t1 ep pp sy => ?_⟩
      walk_at "rd"
      have sB := sA.trans t1
      refine x_din' (.inl (sB _ _ List.not_mem_nil hb)) ?_
      have fl : ∀ (C D : Hp) (a : Addr) (zs : List Str), (∀ z ∈ zs, z ∈ l) → ((zs.map fun z => decide (z ∈ l)).all id) = true := fun _ _ _ zs h => by
        rw [List.all_eq_true]
        intro b hb
        obtain ⟨z, hz, rfl⟩ := List.mem_map.mp hb
        exact decide_eq_true (h z hz)
      rcases hvb.look n with ⟨v, l1, ev, el1, t, rfl, ht⟩ | ⟨ev, el1⟩
      · have eS : letS bk n st = l1 := by unfold letS; rw [el1]
        rw [eS] at sub ll
        rw [ev]
        walk_at "rd"
        refine x_true (by rfl) ?_
        walk_at "rd"
        refine x_dg' (.inl (sB _ _ List.not_mem_nil hb)) ev ?_
        walk_at "rd"
        refine x_dni' (.inl (sB _ _ List.not_mem_nil hf)) ?_
        rw [ev2]
        walk_at "rd"
        refine x_false (by rfl) ?_
        walk_at "rd"
        refine x_iAnyT ?_
        walk_at "rd"
        have htB := sB _ _ List.not_mem_nil ht
        refine x_itt (sqT htB) fun D hD => ?_
        refine lc_it (walk_tupR (R := rS) (Hb := H) (paired_S' l1)) (fun m C => SX [] B C ∧ C D = some (.lst (((l1.take m).map fun z => decide (z ∈ l)).map V.bl))) ⟨SX.new hD, upd_same⟩ (fun m C _ h => sqT (h.1 _ _ List.not_mem_nil htB)) ?_ ?_
        · rintro m y C0 C hm ⟨u1, u2⟩ ⟨rfl, z, hz, rfl⟩
          walk_at "rd"
          refine ⟨rfl, ?_⟩
          walk_at "rd"
          refine x_dg' (.inl ((sB.trans u1) _ _ List.not_mem_nil hf)) ev2 ?_
          refine ⟨t2, _, rfl, .inr (sqT ((sB.trans u1) _ _ List.not_mem_nil ht2)), rfl, flat_strs l, ?_⟩
          rw [inV_strD]
          refine ⟨_, u2, lt_size (by rw [List.length_map, List.length_map, List.length_take]; omega), sx_nil_of (S := [D]) ((nil_sx u1).trans (SX.mut List.mem_cons_self)) (by simp [hD]), ?_⟩
          rw [upd_same, take_succ_of hz, List.map_append, List.map_append]
          rfl
        · rintro C ⟨u1, u2⟩
          rw [List.take_length] at u2
          walk_at "rd"
          refine ⟨D, _, rfl, sqL u2, ?_⟩
          rw [fl C C D l1 sub]
          walk_at "rd"
          exact ⟨_, _, sB.trans u1, rfl⟩
      · have eS : letS bk n st = st.rows.map (·.1) := by unfold letS; rw [el1]
        rw [eS] at sub ll
        rw [ev]
        walk_at "rd"
        refine x_false (by rfl) ?_
        walk_at "rd"
        refine x_dni' (.inl (sB _ _ List.not_mem_nil hf)) ?_
        rw [ev2]
        walk_at "rd"
        refine x_false (by rfl) ?_
        walk_at "rd"
        refine x_iAnyL ?_
        walk_at "rd"
        have yl := pp.length_eq
        refine x_itl (sqL ep) fun D hD => ?_
        refine lc_it (walk_listR (R := rS) (Hb := H) (paired_S' ys2)) (fun m C => SX [] B C ∧ C D = some (.lst (((ys2.take m).map fun z => decide (z ∈ l)).map V.bl))) ⟨SX.new hD, upd_same⟩ (fun m C _ h => sqL (h.1 _ _ List.not_mem_nil ep)) ?_ ?_
        · rintro m y C0 C hm ⟨u1, u2⟩ ⟨rfl, z, hz, rfl⟩
          walk_at "rd"
          refine ⟨rfl, ?_⟩
          walk_at "rd"
          refine x_dg' (.inl ((sB.trans u1) _ _ List.not_mem_nil hf)) ev2 ?_
          refine ⟨t2, _, rfl, .inr (sqT ((sB.trans u1) _ _ List.not_mem_nil ht2)), rfl, flat_strs l, ?_⟩
          rw [inV_strD]
          refine ⟨_, u2, lt_size (by rw [List.length_map, List.length_map, List.length_take]; omega), sx_nil_of (S := [D]) ((nil_sx u1).trans (SX.mut List.mem_cons_self)) (by simp [hD]), ?_⟩
          rw [upd_same, take_succ_of hz, List.map_append, List.map_append]
          rfl
        · rintro C ⟨u1, u2⟩
          rw [List.take_length] at u2
          walk_at "rd"
          refine ⟨D, _, rfl, sqL u2, ?_⟩
          rw [fl C C D ys2 fun z hz => sub z (pp.mem_iff.mp hz)]
          walk_at "rd"
          exact ⟨_, _, sB.trans u1, rfl⟩
    · have c3 : moverIn ns st = false := by simpa using c3
      walk_at "rd"
      exact ⟨_, _, sA, rfl⟩
  · rintro σ A ⟨c1, c2, sA, rfl⟩
    walk_at "rd"
    exact k A sA
end
end M

namespace M
open PySem PySem.Spec PyProof.Rows L2
def turnL (l : List (Str × Int)) : List (Str × Int) := l.map fun q => (q.1, -q.2)
theorem turn_keys (l : List (Str × Int)) : (turnL l).map (·.1) = l.map (·.1) := by
  unfold turnL
  rw [List.map_map]
  rfl
theorem turn_ok {l : List (Str × Int)} {e : Int} (o : WishOk l e) : WishOk (turnL l) (-e) := by
  have m : ∀ z ∈ turnL l, ∃ q ∈ l, z = (q.1, -q.2) := fun z hz => by
    obtain ⟨q, hq, rfl⟩ := List.mem_map.mp hz
    exact ⟨q, hq, rfl⟩
  refine ⟨by rw [turn_keys]; exact o.nd, by unfold turnL; rw [List.length_map]; exact o.len, fun z hz => ?_, by have := o.e1; omega, by have := o.e0; omega, ?_⟩
  · obtain ⟨q, hq, rfl⟩ := m z hz
    obtain ⟨a, b, c⟩ := o.all q hq
    exact ⟨a, by show -99 ≤ -q.2; omega, by show -q.2 ≤ 99; omega⟩
  · rcases o.way with h | h
    · refine .inr fun z hz => ?_
      obtain ⟨q, hq, rfl⟩ := m z hz
      have := h q hq
      show -q.2 ≤ -e
      omega
    · refine .inl fun z hz => ?_
      obtain ⟨q, hq, rfl⟩ := m z hz
      have := h q hq
      show -e ≤ -q.2
      omega
theorem less_frac {a b : Int} (f : FracOk a b) : FracOk (a - 2 * b) b := ⟨f.1, by
  have : a - 2 * b = a + b * (-2) := by omega
  rw [this, Int.gcd_add_mul_left_left]
  exact f.2⟩
theorem rows_name2 {h : Int} {ns : List Str} {st : Stand} (o : StandOk h ns st) {s : Str} (m : s ∈ st.rows.map (·.1)) : nameB s = true := by
  cases st with
  | fin => cases m
  | hand a b =>
    obtain ⟨z, hz, rfl⟩ := List.mem_map.mp m
    exact (o.2.2.2.2.2 z hz).1
  | chance b =>
    change s ∈ (b.map _).map _ at m
    rw [List.map_map] at m
    obtain ⟨z, hz, rfl⟩ := List.mem_map.mp m
    exact (o.2.2.2 z hz).1
section
variable {P : Program} {w : World} {K : PySem.W.Frag} {mg : Str → Option Value} {base : Heap}
def sp_law_again (T : Tx K mg) : Sp := fun vs H Q _ => ∃ (x d : Addr) (hands : Int) (start : Str) (lt wd : Addr) (e : Int) (lv : Addr) (sts tbl : List (Str × Stand)) (l : List (Str × Int)) (kw : List (Key × V)) (ns : List Int) (a b : Int), vs = [.ref x, .ref d, .str start, .ref lt, .ref wd, .int e, .ref lv] ∧
  WorkAt T H x hands start tbl ∧ Tbl sts tbl ∧ WorkOk hands start sts ∧ rD (rStand K) H (.ref d) sts ∧ SqT K H lt (ns.map V.int) ∧ LotOk hands ns ∧ H wd = some (.dK kw) ∧ KVs rI H kw l ∧ WishOk l e ∧ (l.map (·.1)).Perm (endsOf sts) ∧ H lv = some (.tup [.int a, .int b]) ∧ FracOk a b ∧
  ∀ H', SX [] H H' → Q (.bl true) H'
/-- a row of what is asked -/
def RowQ (sts : List (Str × Stand)) (H : Hp) (r : Addr) : Prop := ∃ (wd : Addr) (e : Int) (lv : Addr) (l : List (Str × Int)) (kw : List (Key × V)) (a b : Int), H r = some (.tup [.ref wd, .int e, .ref lv]) ∧ H wd = some (.dK kw) ∧ KVs rI H kw l ∧ WishOk l e ∧ (l.map (·.1)).Perm (endsOf sts) ∧ H lv = some (.tup [.int a, .int b]) ∧ FracOk a b
theorem RowQ.sx {sts : List (Str × Stand)} {A B : Hp} {r : Addr} (h : RowQ sts A r) (s : SX [] A B) : RowQ sts B r := by
  obtain ⟨wd, e, lv, l, kw, a, b, h1, h2, h3, h4, h5, h6, h7⟩ := h
  exact ⟨wd, e, lv, l, kw, a, b, s _ _ List.not_mem_nil h1, s _ _ List.not_mem_nil h2, h3, h4, h5, s _ _ List.not_mem_nil h6, h7⟩
theorem ok_law_again (T : Tx K mg) : FnOk P w K mg base CX0 7 T.law_again.f T.law_again.fd P_law_again (sp_law_again T) := by
  refine T.law_again.F.ok sc_law_again (fun vs H Q E h => ?_) (fun cdv A outer s H vs Q E hr h => ?_)
  · obtain ⟨x, d, hands, start, lt, wd, e, lv, sts, tbl, l, kw, ns, a, b, rfl, wa, tb0, ok, hd, hlt, lok, hwd, kwk, wok, perm, hlv, fr0, k⟩ := h
    rfl
  have hu := hu_of hr
  have nd := sc_law_again.nd
  obtain ⟨x, d, hands, start, lt, wd, e, lv, sts, tbl, l, kw, ns, a, b, rfl, wa, tb0, ok, hd, hlt, lok, hwd, kwk, wok, perm, hlv, fr0, k⟩ := h
  refine ⟨_, (pss_cons (ps_set (i := 7) nd rfl (Or.inl rfl) pe_dnewK)
      (pss_cons (ps_lockR (ps_for PassesOwn.never rfl (pi_keys (pv 4)) (pg_name (i := 8) nd rfl (Or.inl rfl)) (pss_one (ps_dput hu (pv 7) (pv 8) (pe_un un_neg (pe_dget hu (pv 4) (pv 8) (fun _ _ => rfl))) rfl))))
      (pss_cons (ps_set (i := 9) nd rfl (Or.inl rfl) (pe_tup (pa_cons (pe_op op_sub (pe_ix (w_ixT (K := K) rfl) (pv 6) pe_int (fun _ _ => rfl)) (pe_op op_mul pe_int (pe_ix (w_ixT (K := K) rfl) (pv 6) pe_int (fun _ _ => rfl)))) (pa_cons (pe_ix (w_ixT (K := K) rfl) (pv 6) pe_int (fun _ _ => rfl)) pa_nil))))
      (pss_cons (ps_set (i := 10) nd rfl (Or.inl rfl) (pe_lst (pa_cons (pe_tup (pa_cons (pv 4) (pa_cons (pv 5) (pa_cons (pv 9) pa_nil)))) (pa_cons (pe_tup (pa_cons (pv 7) (pa_cons (pe_un un_neg (pv 5)) (pa_cons (pv 6) pa_nil)))) (pa_cons (pe_tup (pa_cons (pv 4) (pa_cons (pv 5) (pa_cons (pv 6) pa_nil)))) pa_nil)))))
      (pss_cons (ps_for PassesOwn.never rfl (w_pilist (K := K) rfl (pv 10)) (w_pgtup (K := K) (n := 3) rfl (by rfl) (pgs_cons (pg_name (i := 11) nd rfl (Or.inl rfl)) (pgs_cons (pg_name (i := 12) nd rfl (Or.inl rfl)) (pgs_cons (pg_name (i := 13) nd rfl (Or.inl rfl)) pgs_nil))) (by rfl) (by rfl)) (pss_cons (ps_set (i := 14) nd rfl (Or.inl rfl) (pe_make T.m_Wish (ok_Wish_init T) (hr.mono (by decide)) (by rfl) T.g_Wish T.Wish_init.B .nil pass0 (pa_cons (pv 11) (pa_cons (pv 12) pa_nil))))
      (pss_cons (ps_set (i := 15) nd rfl (Or.inr rfl) (pe_call (ok_law_bad T) (hr.mono (by decide)) (by rfl) T.law_bad.g T.law_bad.F.kp T.law_bad.B .nil pass0 (pa_cons (pv 1) (pa_cons (pv 11) (pa_cons (pv 3) (pa_cons (pv 13) pa_nil))))))
      (pss_cons (ps_if (pt_cmpR (w_neD (K := K) rfl hr.units) (pe_call (ok_safe_stands T) (hr.mono (by decide)) (by rfl) T.safe_stands.g T.safe_stands.F.kp T.safe_stands.B .nil pass0 (pa_cons (pv 0) (pa_cons (pv 14) (pa_cons (pv 3) (pa_cons (pv 13) pa_nil))))) (pe_lc (own := [("stand", 16)]) rfl nd (w_pilist (K := K) rfl (pe_callB (cl_sortD rfl) (by rfl) T.b_sorted (by decide +kernel) (pa_cons (pv 1) pa_nil))) (blkOk_by (own := [("stand", 16)]) (N := N_law_again) (sc := defScope s_law_again) (by decide +kernel)) (fun _ _ _ _ _ => (pg_name (i := 16) nd rfl (Or.inl rfl))) (fun _ _ _ _ _ => pts_one (pt_not (pt_val (pe_dget hu (pv 15) (pv 16) (fun _ _ => rfl))))) (fun _ _ _ _ _ => (pv 16))) (nomark _)) (pss_one (ps_ret pe_bl)) pss_nil)
      (pss_cons (ps_set (i := 17) nd rfl (Or.inl rfl) pe_non)
      (pss_cons (ps_if (pt_not (pt_val (pe_dget hu (pv 15) (pv 2) (fun _ _ => rfl)))) (pss_one (ps_set (i := 17) nd rfl (Or.inl rfl) (pe_call (ok_law_due_book T) (hr.mono (by decide)) (by rfl) T.law_due_book.g T.law_due_book.F.kp T.law_due_book.B .nil pass0 (pa_cons (pv 1) (pa_cons (pv 3) (pa_cons (pv 15) pa_nil)))))) pss_nil)
      (pss_one (ps_if (pt_cmpR (w_dNe (K := K) rfl hr.units) (pe_call (ok_freest T) (hr.mono (by decide)) (by rfl) T.freest.g T.freest.F.kp T.freest.B .nil pass0 (pa_cons (pv 0) (pa_cons (pv 14) (pa_cons (pv 3) (pa_cons (pv 13) pa_nil))))) (pv 17) (nomark _)) (pss_one (ps_ret pe_bl)) pss_nil))))))))
      (pss_one (ps_ret pe_bl))))))), ?_⟩
  refine x_start (σ' := [some _, some _, some _, some _, some _, some _, some _, none, none, none, none, none, none, none, none, none, none, none]) rfl ?_
  try simp only [cx_n, cx_K, cx_w, cx_P]
  have C0 := ok.closed
  obtain ⟨d', kvs0, ed0, hrd, hk⟩ := id hd
  cases ed0
  have slen := ok.len.2
  have to : TbOk start tbl := TbOk.of ok tb0
  have ll := wok.len
  walk_at "rd"
  intro td htd
  walk_at "rd"
  have s7 : SX [] H (upd H td (.dK [])) := SX.new htd
  have td7 : (upd H td (.dK [])) td = some (.dK []) := upd_same
  generalize upd H td (.dK []) = H7 at s7 td7
  have ewd7 := s7 _ _ List.not_mem_nil hwd
  have nwt : td ≠ wd := fun e => by rw [← e, htd] at hwd; cases hwd
  refine x_lockR (.inl ewd7) fun od HL eL ne => ?_
  walk_at "rd"
  refine x_itk eL ?_
  refine for_it (walk_keysR kwk) (fun i σ A => SX [td] HL A ∧ ∃ (kv : List (Key × V)) (c : Option V), A td = some (.dK kv) ∧ KVs rI A kv (turnL (l.take i)) ∧
      σ = [some (.ref x), some (.ref d), some (.str start), some (.ref lt), some (.ref wd), some (.int e), some (.ref lv), some (.ref td), c, none, none, none, none, none, none, none, none, none])
    ⟨SX.refl _, [], none, by rw [ne _ nwt]; exact td7, .nil, rfl⟩ (fun _ _ _ _ h => h.1 _ _ (by simpa using Ne.symm nwt) eL) ?_ ?_
  · rintro i z σ A0 A hi ⟨sA, kv, c, dA, kA, rfl⟩ ⟨rfl, z, v0, hz, rfl, _⟩
    obtain ⟨vv, e2, rfl⟩ := kwk.in_ wok.nd (getMem hz)
    walk_at "rd"
    refine x_dg' (.inr ⟨od, sA _ _ (by simpa using Ne.symm nwt) eL⟩) e2 ?_
    walk_at "rd"
    have kl : kv.length = (turnL (l.take i)).length := Paired.length kA
    refine ⟨td, _, rfl, DPut.k (k := Sum.inr z.1) dA (lt_size ?_), ?_⟩
    · rw [kl]
      unfold turnL
      rw [List.length_map, List.length_take]
      omega
    rw [putK_fresh _ kA.keys (by rw [turn_keys]; exact key_fresh wok.nd hz)]
    refine ⟨sA.trans (SX.mut List.mem_cons_self), _, _, upd_same, ?_, rfl⟩
    have e3 : turnL (l.take (i + 1)) = turnL (l.take i) ++ [(z.1, -z.2)] := by
      unfold turnL
      rw [take_succ_of hz, List.map_append]
      rfl
    rw [e3]
    exact Paired.app kA (.cons ⟨rfl, rfl⟩ .nil)
  rintro σ A ⟨sA, kv, c, dA, kA, rfl⟩
  rw [List.take_length] at kA
  refine ⟨sA _ _ (by simpa using Ne.symm nwt) eL, ?_⟩
  have s6A : SX [] H (put A wd (H7 wd)) := sx_nil_of (S := [td]) ((nil_sx s7).trans (unlock_sx ne sA)) (by simp [htd])
  have tdA : (put A wd (H7 wd)) td = some (.dK kv) := by rw [put_ne nwt]; exact dA
  generalize put A wd (H7 wd) = B at s6A tdA
  have tok := turn_ok wok
  have tperm : ((turnL l).map (·.1)).Perm (endsOf sts) := by rw [turn_keys]; exact perm
  clear sA dA ewd7 s7 td7 eL ne
  have lvB := s6A _ _ List.not_mem_nil hlv
  walk_at "rd"
  refine x_ixT (sqT lvB) (v := .int a) (atI_nat (j := 0) rfl) ?_
  walk_at "rd"
  refine x_ixT (sqT lvB) (v := .int b) (atI_nat (j := 1) rfl) ?_
  refine x_I (.inl ⟨by decide, by decide⟩) ?_
  walk_at "rd"
  refine x_ixT (sqT lvB) (v := .int b) (atI_nat (j := 1) rfl) ?_
  walk_at "rd"
  refine ⟨Nat.le_of_ble_eq_true rfl, fun ls hls => ?_⟩
  have t2 : SX [] B (upd B ls (.tup [.int (a - 2 * b), .int b])) := SX.new hls
  have els : (upd B ls (.tup [.int (a - 2 * b), .int b])) ls = some (.tup [.int (a - 2 * b), .int b]) := upd_same
  generalize upd B ls (.tup [.int (a - 2 * b), .int b]) = B2 at t2 els
  walk_at "rd"
  refine ⟨Nat.le_of_ble_eq_true rfl, fun r1 hr1 => ?_⟩
  have t3 : SX [] B2 (upd B2 r1 (.tup [.ref wd, .int e, .ref ls])) := SX.new hr1
  have q1 : (upd B2 r1 (.tup [.ref wd, .int e, .ref ls])) r1 = some (.tup [.ref wd, .int e, .ref ls]) := upd_same
  generalize upd B2 r1 (.tup [.ref wd, .int e, .ref ls]) = B3 at t3 q1
  walk_at "rd"
  refine ⟨Nat.le_of_ble_eq_true rfl, fun r2 hr2 => ?_⟩
  have t4 : SX [] B3 (upd B3 r2 (.tup [.ref td, .int (-e), .ref lv])) := SX.new hr2
  have q2 : (upd B3 r2 (.tup [.ref td, .int (-e), .ref lv])) r2 = some (.tup [.ref td, .int (-e), .ref lv]) := upd_same
  generalize upd B3 r2 (.tup [.ref td, .int (-e), .ref lv]) = B4 at t4 q2
  walk_at "rd"
  refine ⟨Nat.le_of_ble_eq_true rfl, fun r3 hr3 => ?_⟩
  have t5 : SX [] B4 (upd B4 r3 (.tup [.ref wd, .int e, .ref lv])) := SX.new hr3
  have q3 : (upd B4 r3 (.tup [.ref wd, .int e, .ref lv])) r3 = some (.tup [.ref wd, .int e, .ref lv]) := upd_same
  generalize upd B4 r3 (.tup [.ref wd, .int e, .ref lv]) = B5 at t5 q3
  walk_at "rd"
  refine ⟨Nat.le_of_ble_eq_true rfl, fun rs hrs => ?_⟩
  have t6 : SX [] B5 (upd B5 rs (.lst [.ref r1, .ref r2, .ref r3])) := SX.new hrs
  have q0 : (upd B5 rs (.lst [.ref r1, .ref r2, .ref r3])) rs = some (.lst [.ref r1, .ref r2, .ref r3]) := upd_same
  generalize upd B5 rs (.lst [.ref r1, .ref r2, .ref r3]) = B6 at t6 q0
  have sB26 : SX [] B2 B6 := ((t3.trans t4).trans t5).trans t6
  have sB6 : SX [] B B6 := t2.trans sB26
  have sH6 : SX [] H B6 := s6A.trans sB6
  have rows : ∀ v ∈ [V.ref r1, V.ref r2, V.ref r3], ∃ r, v = .ref r ∧ RowQ sts B6 r := fun v hv => by
    have w6 := sH6 _ _ List.not_mem_nil hwd
    have l6 := sH6 _ _ List.not_mem_nil hlv
    rcases List.mem_cons.mp hv with rfl | hv
    · exact ⟨r1, rfl, wd, e, ls, l, kw, _, _, ((t4.trans t5).trans t6) _ _ List.not_mem_nil q1, w6, kwk, wok, perm, sB26 _ _ List.not_mem_nil els, less_frac fr0⟩
    · rcases List.mem_cons.mp hv with rfl | hv
      · exact ⟨r2, rfl, td, -e, lv, turnL l, kv, _, _, (t5.trans t6) _ _ List.not_mem_nil q2, sB6 _ _ List.not_mem_nil tdA, kA, tok, tperm, l6, fr0⟩
      · cases List.mem_singleton.mp hv
        exact ⟨r3, rfl, wd, e, lv, l, kw, _, _, t6 _ _ List.not_mem_nil q3, w6, kwk, wok, perm, l6, fr0⟩
  walk_at "rd"
  refine x_itl (sqL q0) ?_
  refine for_it walk_list (fun i σ A => SX [] B6 A ∧ ∃ (c1 c2 c3 c4 c5 c6 c8 c9 : Option V),
      σ = [some (.ref x), some (.ref d), some (.str start), some (.ref lt), some (.ref wd), some (.int e), some (.ref lv), some (.ref td), c8, some (.ref ls), some (.ref rs), c1, c2, c3, c4, c5, none, c6])
    ⟨SX.refl _, _, _, _, _, _, _, _, none, rfl⟩ (fun i σ A _ h => sqL (h.1 _ _ List.not_mem_nil q0)) ?_ ?_
  · rintro i v σ A0 A6 hi ⟨sA6, c1, c2, c3, c4, c5, c6, c8, c9, rfl⟩ ⟨rfl, hv⟩
    obtain ⟨r, rfl, rq⟩ := rows v (List.mem_of_getElem? hv)
    obtain ⟨wd, e, lv, l, kw, a, b, h1, hwd, kwk, wok, perm, hlv, fr⟩ := rq.sx sA6
    clear tok tperm
    have sH : SX [] H A6 := sH6.trans sA6
    refine x_gtup (sqT h1) rfl ?_
    walk_at "rd"
    show tCons _ _ _ _ _
    walk_at "rd"
    intro y dy hy hdy ndy
    have s1 : SX [] A6 (upd (upd A6 dy (.own y)) y (.ins T.a_Wish dy [])) := (SX.new hdy).trans (SX.new (by rw [upd_ne (Ne.symm ndy)]; exact hy))
    refine ⟨y, dy, wd, l, kw, e, rfl, upd_same, s1 _ _ List.not_mem_nil hwd, kwk, wok, fun H1 tb sy wi srt => ⟨rfl, ?_⟩⟩
    have sH1 : SX [] A6 H1 := sx_nil_of (S := [y]) ((nil_sx s1).trans sy) (by simp [hy])
    have tw : TwOk tbl tb := ⟨ends_tbl ok tb0 perm srt, fun q hq => (wok.all q (srt.perm.mem_iff.mp hq)).2⟩
    have bq : ∀ n : Str, BadP (belowP tb a b) ns tbl n ↔ BadP (belowP l a b) ns sts n := fun n => bad_iff ok tb0 wok.nd srt
    generalize decide (∀ z ∈ l, e ≤ z.2) = cm at wi
    have sH := sH.trans sH1
    have hlvH := sH1 _ _ List.not_mem_nil hlv
    walk_at "rd"
    refine ⟨d, wd, lt, lv, sts, l, ns, a, b, rfl, mono_D (mono_stand K) _ _ _ _ sH.le0 hd, C0, slen, ⟨wd, kw, rfl, .inl (sH1 _ _ List.not_mem_nil hwd), kwk⟩, fun n => perm.mem_iff, fun q hq => (wok.all q hq).2, sH.le0.t hlt, sqT hlvH, fun bd A kb hbd sA ebd vals => ?_⟩
    walk_at "rd"
    refine ⟨x, y, lt, lv, hands, start, tbl, tb, e, cm, ns, a, b, rfl, wa.le (sH.trans sA).le0, wi.sx sA, (sH.trans sA).le0.t hlt, (sqT (sA _ _ List.not_mem_nil hlvH)), to, tw, lok, fr, fun sq A1 sf hsq t1 esq snd spw sif => ?_⟩
    walk_at "rd"
    refine x_sortD (((sH.trans sA).trans t1).le0.rd _ _ trivial hrd) hk.keys fun ys py hpy hsy np => ?_
    have ty : SX [] A1 (upd A1 py (.lst (ys.map V.str))) := SX.new np
    refine x_itl (sqL upd_same) fun D hD => ?_
    have y1 : (upd A1 py (.lst (ys.map V.str))) py = some (.lst (ys.map V.str)) := upd_same
    generalize upd A1 py (.lst (ys.map V.str)) = A2 at ty y1 hD
    have ysl : ys.length ≤ 100 := by
      rw [hpy.length_eq, List.length_map]
      exact slen
    refine lc_it (walk_listR (R := rS) (Hb := H) (paired_S' ys)) (fun m C => SX [] A2 C ∧ ∃ zs : List Str, C D = some (.lst (zs.map V.str)) ∧ zs.Sublist (ys.take m) ∧ ∀ z ∈ ys.take m, z ∈ zs ↔ ¬ BadP (belowP tb a b) ns tbl z) ⟨SX.new hD, [], upd_same, .slnil, (fun _ h => nomatch h)⟩ (fun m C _ h => sqL (h.1 _ _ List.not_mem_nil y1)) ?_ ?_
    · rintro m w0 C0 C hm ⟨u1, zs, u2, sub, mem⟩ ⟨rfl, z, hz, rfl⟩
      obtain ⟨g, eg, hg⟩ := vals z (hpy.mem_iff.mp (getMem hz))
      rw [← bq] at hg
      have fz : z ∉ ys.take m := nodup_take (hpy.nodup_iff.mpr ok.nd) hz
      have zl : zs.length ≤ 100 := by
        have := sub.length_le
        rw [List.length_take] at this
        omega
      walk_at "rd"
      refine ⟨rfl, ?_⟩
      walk_at "rd"
      refine x_dg' (.inl (((t1.trans ty).trans u1) _ _ List.not_mem_nil ebd)) eg ?_
      walk_at "rd"
      cases g with
      | true =>
        walk_at "rd"
        refine ⟨u1, zs, u2, by rw [take_succ_of hz]; exact sub.trans (List.sublist_append_left _ _), fun z' hz' => ?_⟩
        rw [take_succ_of hz] at hz'
        rcases List.mem_append.mp hz' with h | h
        · exact mem z' h
        · cases List.mem_singleton.mp h
          exact ⟨fun h2 => absurd (sub.mem h2) fz, fun h2 => absurd (hg.mp rfl) h2⟩
      | false =>
        walk_at "rd"
        refine ⟨_, u2, lt_size (by rw [List.length_map]; omega), sx_nil_of (S := [D]) ((nil_sx u1).trans (SX.mut List.mem_cons_self)) (by simp [hD]), zs ++ [z], by rw [upd_same, List.map_append]; rfl, by rw [take_succ_of hz]; exact sub.append (.refl _), fun z' hz' => ?_⟩
        rw [take_succ_of hz] at hz'
        rcases List.mem_append.mp hz' with h | h
        · rw [List.mem_append, ← mem z' h]
          refine ⟨fun h2 => h2.resolve_right fun h3 => ?_, .inl⟩
          rw [List.mem_singleton.mp h3] at h
          exact fz h
        · cases List.mem_singleton.mp h
          exact ⟨(fun _ h2 => by have := hg.mpr h2; cases this), fun _ => List.mem_append_right _ List.mem_cons_self⟩
    rintro C ⟨u1, zs, u2, sub, mem⟩
    rw [List.take_length] at sub mem
    have ezs : sf = zs := by
      refine List.Perm.eq_of_pairwise (fun a b _ _ h1 h2 => leS_antisymm h1 h2) spw ((sortedS_pw hsy).sublist sub) ((List.perm_ext_iff_of_nodup snd (List.Nodup.sublist sub (hpy.nodup_iff.mpr ok.nd))).mpr fun z => ?_)
      rw [sif]
      constructor
      · rintro ⟨h1, h2⟩
        exact (mem z (hpy.mem_iff.mpr (tb0.perm.mem_iff.mp h1))).mpr h2
      · intro h
        have h1 := sub.mem h
        exact ⟨tb0.perm.mem_iff.mpr (hpy.mem_iff.mp h1), (mem z h1).mp h⟩
    subst ezs
    have tC : SX [] A1 C := ty.trans u1
    have oksf : ∀ v ∈ sf.map V.str, okV v = true := okS_of fun s hs => to.nm s ((sif s).mp hs).1
    refine x_neSame (sqL (tC _ _ List.not_mem_nil esq)) (sqL u2) oksf ?_
    have sC : SX [] H1 C := (sA.trans t1).trans tC
    walk_at "rd"
    have ebdC := (t1.trans tC) _ _ List.not_mem_nil ebd
    obtain ⟨g, eg, hg⟩ := vals start ok.st
    rw [← bq] at hg
    refine x_dg' (.inl ebdC) eg ?_
    walk_at "rd"
    cases g with
    | true =>
      walk_at "rd"
      refine ⟨x, y, lt, lv, hands, start, tbl, tb, e, cm, ns, a, b, rfl, wa.le (sH.trans sC).le0, wi.sx sC, (sH.trans sC).le0.t hlt, sqT (sC _ _ List.not_mem_nil hlvH), to, tw, lok, fr, fun _ C2 sC2 => ?_, fun nb => absurd (hg.mp rfl) nb⟩
      walk_at "rd"
      refine .inl ⟨rfl, rfl, ?_⟩
      walk_at "rd"
      exact ⟨((sA6.trans sH1).trans sC).trans sC2, _, _, _, _, _, _, _, none, rfl⟩
    | false =>
      have nbs : ¬ BadP (belowP tb a b) ns tbl start := fun h => by have := hg.mpr h; cases this
      walk_at "rd"
      refine ⟨d, lt, bd, sts, ns, kb, fun n => BadP (belowP l a b) ns sts n, rfl, mono_D (mono_stand K) _ _ _ _ (sH.trans sC).le0 hd, C0, slen, (sH.trans sC).le0.t hlt, ebdC, vals, fun q2 C2 kv2 bk2 hq2 sC2 eq2 kvq2 du => ?_⟩
      walk_at "rd"
      have sHC2 := (sH.trans sC).trans sC2
      refine ⟨x, y, lt, lv, hands, start, tbl, tb, e, cm, ns, a, b, rfl, wa.le sHC2.le0, wi.sx (sC.trans sC2), sHC2.le0.t hlt, sqT ((sC.trans sC2) _ _ List.not_mem_nil hlvH), to, tw, lok, fr, fun bb => absurd bb nbs, fun _ q3 C3 kv3 bk3 hq3 sC3 eq3 kvq3 bo => ?_⟩
      walk_at "rd"
      refine .inr ⟨q3, q2, kv3, kv2, rfl, rfl, book_eq bo du tb0.back tb0.on (fun n st e => ((ok.all _ (lookA_mem e)).2).nd) (fun n => (bq n).symm) (fun n st e s hs => rows_name2 (ok.all _ (lookA_mem e)).2 hs) eq3 kvq3 (sC3 _ _ List.not_mem_nil eq2) (KVs.le mono_TS sC3.le0 kvq2), ?_⟩
      walk_at "rd"
      exact ⟨(((sA6.trans sH1).trans sC).trans sC2).trans sC3, _, _, _, _, _, _, _, none, rfl⟩
  · rintro σ A ⟨sA, c1, c2, c3, c4, c5, c6, c8, c9, rfl⟩
    walk_at "rd"
    exact k A (sH6.trans sA)
end
end M

namespace M
open PySem PySem.Spec PyProof.Rows L2
theorem sqT_hid {K : PySem.W.Frag} {H : Hp} {p a : Addr} {xs zs : List V} (hp : H p = some (.lst zs)) (h : SqT K H a xs) : SqT K (hid [p] H) a xs := by
  rcases h with (h | ⟨o, h⟩) | h
  · exact .inl (.inl (by rw [hid_of (by simpa using ne_of h hp (by intro z; cases z))]; exact h))
  · exact .inl (.inr ⟨o, by rw [hid_of (by simpa using ne_of h hp (by intro z; cases z))]; exact h⟩)
  · exact .inr h
theorem rd_hid {H : Hp} {p a : Addr} {kvs : List (Key × V)} {zs : List V} (hp : H p = some (.lst zs)) (h : Rd H a (.dK kvs)) : Rd (hid [p] H) a (.dK kvs) := by
  rcases h with h | ⟨o, h⟩
  · exact .inl (by rw [hid_of (by simpa using ne_of h hp (by intro z; cases z))]; exact h)
  · exact .inr ⟨o, by rw [hid_of (by simpa using ne_of h hp (by intro z; cases z))]; exact h⟩
theorem kvs_imp {α : Type} {R : RR α} {A B : Hp} (h : ∀ v a, R A v a → R B v a) : ∀ {kvs : List (Key × V)} {l : List (Str × α)}, KVs R A kvs l → KVs R B kvs l
  | _, _, .nil => .nil
  | _, _, .cons q t => .cons ⟨q.1, h _ _ q.2⟩ (kvs_imp h t)
theorem stands_hid {K : PySem.W.Frag} {H : Hp} {p : Addr} {zs : List V} (hp : H p = some (.lst zs)) {v : V} {sts : List (Str × Stand)} (h : rD (rStand K) H v sts) : rD (rStand K) (hid [p] H) v sts := by
  obtain ⟨a, kvs, e, r, k⟩ := h
  refine ⟨a, kvs, e, rd_hid hp r, kvs_imp (fun v st s => ?_) k⟩
  cases st with
  | fin =>
    obtain ⟨q, e, t⟩ := s
    exact ⟨q, e, sqT_hid hp t⟩
  | hand h ms =>
    obtain ⟨q, x, e, t, d, kv, e2, r2, k2⟩ := s
    exact ⟨q, x, e, sqT_hid hp t, d, kv, e2, rd_hid hp r2, kvs_imp (fun _ _ z => z) k2⟩
  | chance ds =>
    obtain ⟨q, x, e, t, d, kv, e2, r2, k2⟩ := s
    refine ⟨q, x, e, sqT_hid hp t, d, kv, e2, rd_hid hp r2, kvs_imp (fun v p z => ?_) k2⟩
    obtain ⟨a2, x2, y2, e3, t3, r3, r4⟩ := z
    exact ⟨a2, x2, y2, e3, sqT_hid hp t3, r3, r4⟩
section
variable {P : Program} {w : World} {K : PySem.W.Frag} {mg : Str → Option Value} {base : Heap}
def sp_law (T : Tx K mg) : Sp := fun vs H Q _ => ∃ (a : Addr) (ns : List Int), vs = [.ref a] ∧ SqL K H a (ns.map V.int) ∧ ns.length ≤ 10000 ∧ ∀ H', Q (.bl true) H'
theorem ok_law (T : Tx K mg) : FnOk P w K mg base CX0 8 T.law.f T.law.fd P_law (sp_law T) := by
  refine T.law.F.ok sc_law (fun vs H Q E h => ?_) (fun cdv A outer s H vs Q E hr h => ?_)
  · obtain ⟨a, ns0, rfl, ha, hlen, k⟩ := h
    rfl
  have hu := hu_of hr
  have nd := sc_law.nd
  obtain ⟨a, ns0, rfl, ha, hlen, k⟩ := h
  refine ⟨_, (pss_cons (ps_asg (pe_call (ok_law_build T) (hr.mono (by decide)) (by rfl) T.law_build.g T.law_build.F.kp T.law_build.B .nil pass0 (pa_cons (pv 0) pa_nil)) (w_pglst (K := K) (n := 3) rfl (by rfl) (pgs_cons (pg_name (i := 1) nd rfl (Or.inl rfl)) (pgs_cons (pg_name (i := 2) nd rfl (Or.inl rfl)) (pgs_cons (pg_name (i := 3) nd rfl (Or.inl rfl)) pgs_nil))) (by rfl) (by rfl)))
      (pss_cons (ps_set (i := 4) nd rfl (Or.inl rfl) (pe_call (ok_law_open T) (hr.mono (by decide)) (by rfl) T.law_open.g T.law_open.F.kp T.law_open.B .nil pass0 (pa_cons (pv 0) (pa_cons pe_int pa_nil))))
      (pss_cons (ps_set (i := 5) nd rfl (Or.inl rfl) (pe_call (ok_law_lot T) (hr.mono (by decide)) (by rfl) T.law_lot.g T.law_lot.F.kp T.law_lot.B .nil pass0 (pa_cons (pv 4) (pa_cons (pv 1) pa_nil))))
      (pss_cons (ps_if (pt_cmpR op_eq (pe_call (ok_law_draw T) (hr.mono (by decide)) (by rfl) T.law_draw.g T.law_draw.F.kp T.law_draw.B .nil pass0 (pa_cons (pe_call (ok_law_open T) (hr.mono (by decide)) (by rfl) T.law_open.g T.law_open.F.kp T.law_open.B .nil pass0 (pa_cons (pv 0) (pa_cons pe_int pa_nil))) (pa_cons pe_int pa_nil))) pe_int (nomark _)) (pss_one (ps_set (i := 3) nd rfl (Or.inl rfl) (pe_call (ok_law_no_ends T) (hr.mono (by decide)) (by rfl) T.law_no_ends.g T.law_no_ends.F.kp T.law_no_ends.B .nil pass0 (pa_cons (pv 3) (pa_cons (pe_ix (w_ixL (K := K) rfl) (pv 2) pe_int (fun _ _ => rfl)) pa_nil))))) pss_nil)
      (pss_cons (ps_set (i := 6) nd rfl (Or.inl rfl) (pe_call (ok_law_worths T) (hr.mono (by decide)) (by rfl) T.law_worths.g T.law_worths.F.kp T.law_worths.B .nil pass0 (pa_cons (pv 4) (pa_cons (pv 3) pa_nil))))
      (pss_cons (ps_set (i := 7) nd rfl (Or.inl rfl) pe_int)
      (pss_cons (ps_if (pt_cmpR op_gt (pe_callB cl_lenD (by rfl) T.b_len (by decide +kernel) (pa_cons (pv 6) pa_nil)) pe_int (nomark _)) (pss_one (ps_set (i := 7) nd rfl (Or.inl rfl) (pe_call (ok_law_endless T) (hr.mono (by decide)) (by rfl) T.law_endless.g T.law_endless.F.kp T.law_endless.B .nil pass0 (pa_cons (pv 4) (pa_cons (pv 6) pa_nil))))) pss_nil)
      (pss_cons (ps_set (i := 8) nd rfl (Or.inl rfl) (pe_call (ok_law_level T) (hr.mono (by decide)) (by rfl) T.law_level.g T.law_level.F.kp T.law_level.B .nil pass0 (pa_cons (pv 4) (pa_cons (pv 6) (pa_cons (pv 7) pa_nil)))))
      (pss_cons (ps_set (i := 9) nd rfl (Or.inl rfl) (pe_call (ok_law_book T) (hr.mono (by decide)) (by rfl) T.law_book.g T.law_book.F.kp T.law_book.B .nil pass0 (pa_cons (pe_call (ok_law_open T) (hr.mono (by decide)) (by rfl) T.law_open.g T.law_open.F.kp T.law_open.B .nil pass0 (pa_cons (pv 0) (pa_cons pe_int pa_nil))) (pa_cons (pv 3) pa_nil))))
      (pss_cons (ps_set (i := 10) nd rfl (Or.inl rfl) pe_dnewK)
      (pss_cons (ps_lockR (ps_for PassesOwn.never rfl (pi_keys (pv 9)) (pg_name (i := 11) nd rfl (Or.inl rfl)) (pss_one (ps_if (pt_cmpR (w_in (K := K) rfl) (pe_call (ok_law_mover T) (hr.mono (by decide)) (by rfl) T.law_mover.g T.law_mover.F.kp T.law_mover.B .nil pass0 (pa_cons (pv 3) (pa_cons (pv 11) pa_nil))) (pv 5) (by rfl)) (pss_one (ps_dput hu (pv 10) (pv 11) (pe_dget hu (pv 9) (pv 11) (fun _ _ => rfl)) rfl)) pss_nil))))
      (pss_cons (ps_set (i := 12) nd rfl (Or.inl rfl) (pe_make T.m_Work (ok_Work_init T) (hr.mono (by decide)) (by rfl) T.g_Work T.Work_init.B .nil pass0 (pa_cons (pv 1) (pa_cons (pe_ix (w_ixL (K := K) rfl) (pv 2) pe_int (fun _ _ => rfl)) (pa_cons (pv 3) pa_nil)))))
      (pss_cons (ps_set (i := 13) nd rfl (Or.inl rfl) (pe_make T.m_Wish (ok_Wish_init T) (hr.mono (by decide)) (by rfl) T.g_Wish T.Wish_init.B .nil pass0 (pa_cons (pv 6) (pa_cons (pv 7) pa_nil))))
      (pss_cons (ps_set (i := 14) nd rfl (Or.inr rfl) (pe_call (ok_law_bad T) (hr.mono (by decide)) (by rfl) T.law_bad.g T.law_bad.F.kp T.law_bad.B .nil pass0 (pa_cons (pv 3) (pa_cons (pv 6) (pa_cons (pv 5) (pa_cons (pv 8) pa_nil))))))
      (pss_cons (ps_set (i := 15) nd rfl (Or.inl rfl) (pe_call (ok_safe_stands T) (hr.mono (by decide)) (by rfl) T.safe_stands.g T.safe_stands.F.kp T.safe_stands.B .nil pass0 (pa_cons (pv 12) (pa_cons (pv 13) (pa_cons (pv 5) (pa_cons (pv 8) pa_nil))))))
      (pss_cons (ps_if (PW.pt (pw_or (pt_not (pt_val (pe_callB (w_isi (K := K) rfl) (by rfl) T.b_isinstance (by decide +kernel) (pa_cons (pv 15) (pa_cons (pe_bltn (v := .ty "list") (by rfl) T.b_list (by decide +kernel) rfl) pa_nil))))) (pw_or1 (pt_cmpR (w_neD (K := K) rfl hr.units) (pv 15) (pe_lc (own := [("stand", 11)]) rfl nd (w_pilist (K := K) rfl (pe_callB (cl_sortD rfl) (by rfl) T.b_sorted (by decide +kernel) (pa_cons (pv 3) pa_nil))) (blkOk_by (own := [("stand", 11)]) (N := N_law) (sc := defScope s_law) (by decide +kernel)) (fun _ _ _ _ _ => (pg_name (i := 11) nd rfl (Or.inl rfl))) (fun _ _ _ _ _ => pts_one (pt_not (pt_val (pe_dget hu (pv 14) (pv 11) (fun _ _ => rfl))))) (fun _ _ _ _ _ => (pv 11))) (nomark _))))) (pss_one (ps_ret pe_bl)) pss_nil)
      (pss_cons (ps_expr (pe_bm PySem.F.plainAttrs_list PySem.F.slot_list_append PySem.F.type_list_append mt_append (pv 15) (pa_cons pe_str pa_nil)))
      (pss_cons (ps_if (pt_not (pt_val (pe_call (ok_law_again T) (hr.mono (by decide)) (by rfl) T.law_again.g T.law_again.F.kp T.law_again.B .nil pass0 (pa_cons (pv 12) (pa_cons (pv 3) (pa_cons (pe_ix (w_ixL (K := K) rfl) (pv 2) pe_int (fun _ _ => rfl)) (pa_cons (pv 5) (pa_cons (pv 6) (pa_cons (pv 7) (pa_cons (pv 8) pa_nil)))))))))) (pss_one (ps_ret pe_bl)) pss_nil)
      (pss_cons (ps_set (i := 16) nd rfl (Or.inl rfl) (pe_call (ok_freest T) (hr.mono (by decide)) (by rfl) T.freest.g T.freest.F.kp T.freest.B .nil pass0 (pa_cons (pv 12) (pa_cons (pv 13) (pa_cons (pv 5) (pa_cons (pv 8) pa_nil))))))
      (pss_cons (ps_if (pt_val (pe_dget hu (pv 14) (pe_ix (w_ixL (K := K) rfl) (pv 2) pe_int (fun _ _ => rfl)) (fun _ _ => rfl))) (pss_one (ps_ret (pe_and (pe_cmpR op_isNo (pv 16) pe_non (nomark _)) (pe_one (pe_cmpR op_is_bl (pe_call (ok_keeps T) (hr.mono (by decide)) (by rfl) T.keeps.g T.keeps.F.kp T.keeps.B .nil pass0 (pa_cons (pv 12) (pa_cons (pv 13) (pa_cons (pv 8) (pa_cons (pv 10) pa_nil))))) pe_bl (nomark _)))))) pss_nil)
      (pss_cons (ps_if (PW.pt (pw_or (pt_not (pt_val (pe_callB (w_isi (K := K) rfl) (by rfl) T.b_isinstance (by decide +kernel) (pa_cons (pv 16) (pa_cons (pe_bltn (v := .ty "dict") (by rfl) T.b_dict (by decide +kernel) rfl) pa_nil))))) (pw_or1 (pt_cmpR (w_dNe (K := K) rfl hr.units) (pv 16) (pe_call (ok_law_due_book T) (hr.mono (by decide)) (by rfl) T.law_due_book.g T.law_due_book.F.kp T.law_due_book.B .nil pass0 (pa_cons (pv 3) (pa_cons (pv 5) (pa_cons (pv 14) pa_nil)))) (nomark _))))) (pss_one (ps_ret pe_bl)) pss_nil)
      (pss_cons (ps_if (PW.pt (pw_or (pt_cmpR op_isnot_bl (pe_call (ok_is_book T) (hr.mono (by decide)) (by rfl) T.is_book.g T.is_book.F.kp T.is_book.B .nil pass0 (pa_cons (pv 12) (pa_cons (pv 16) pa_nil))) pe_bl (nomark _)) (pw_or1 (pt_cmpR op_isnot_bl (pe_call (ok_keeps T) (hr.mono (by decide)) (by rfl) T.keeps.g T.keeps.F.kp T.keeps.B .nil pass0 (pa_cons (pv 12) (pa_cons (pv 13) (pa_cons (pv 8) (pa_cons (pv 16) pa_nil))))) pe_bl (nomark _))))) (pss_one (ps_ret pe_bl)) pss_nil)
      (pss_cons (ps_set (i := 17) nd rfl (Or.inl rfl) (pe_call (ok_kept_stands T) (hr.mono (by decide)) (by rfl) T.kept_stands.g T.kept_stands.F.kp T.kept_stands.B .nil pass0 (pa_cons (pv 12) (pa_cons (pv 13) (pa_cons (pv 8) (pa_cons (pv 10) pa_nil))))))
      (pss_cons (ps_if (PW.pt (pw_and (pt_cmpR op_notNo (pv 17) pe_non (nomark _)) (pw_and1 (pt_not (pt_val (pe_call (ok_law_within T) (hr.mono (by decide)) (by rfl) T.law_within.g T.law_within.F.kp T.law_within.B .nil pass0 (pa_cons (pv 3) (pa_cons (pv 5) (pa_cons (pv 10) (pa_cons (pv 16) (pa_cons (pv 17) pa_nil))))))))))) (pss_one (ps_ret pe_bl)) pss_nil)
      (pss_cons (ps_expr (w_dclear (K := K) rfl (pv 16)))
      (pss_one (ps_ret (pe_cmpR (w_dEq (K := K) rfl hr.units) (pe_call (ok_freest T) (hr.mono (by decide)) (by rfl) T.freest.g T.freest.F.kp T.freest.B .nil pass0 (pa_cons (pv 12) (pa_cons (pv 13) (pa_cons (pv 5) (pa_cons (pv 8) pa_nil))))) (pe_call (ok_law_due_book T) (hr.mono (by decide)) (by rfl) T.law_due_book.g T.law_due_book.F.kp T.law_due_book.B .nil pass0 (pa_cons (pv 3) (pa_cons (pv 5) (pa_cons (pv 14) pa_nil)))) (nomark _))))))))))))))))))))))))))))), ?_⟩
  refine x_start (σ' := [some _, none, none, none, none, none, none, none, none, none, none, none, none, none, none, none, none, none]) rfl ?_
  try simp only [cx_n, cx_K, cx_w, cx_P]
  walk_at "rd"
  refine ⟨a, ns0, rfl, ha, hlen, fun q H1 hands nl names d sts n0 hq s1 eq enl hnl rd ok hn0 nlen keys fin => ?_⟩
  refine ⟨q, _, rfl, sqL eq, rfl, ?_⟩
  walk_at "rd"
  refine ⟨a, ns0, 2, rfl, s1.le0.l ha, hlen, by decide, by decide, fun p H2 hp s2 p2 => ?_⟩
  walk_at "rd"
  have hh := ok.h
  have hpn : ∀ b ∈ [p], H1 b = none := fun b hb => by cases List.mem_singleton.mp hb; exact hp
  refine ⟨p, hands, rfl, p2, by omega, by omega, fun lt H3 ns hlt s3 p3 elt lok => ?_⟩
  walk_at "rd"
  have nlp : lt ≠ p := fun e => p2.there (e ▸ hlt)
  have z13 : SX [p] H1 H3 := (nil_sx s2).trans s3
  have x13 : SX [] H1 H3 := sx_nil_of (S := [p]) z13 hpn
  refine ⟨a, ns0, 0, rfl, (s1.trans x13).le0.l ha, hlen, by decide, by decide, fun p' H4 hp' s4 p4 => ?_⟩
  refine ⟨p', 12, rfl, p4, by decide, by decide, fun r H5 r0 r1 s5 p5' => ?_⟩
  have s45 : SX [] H3 H5 := sx_nil_of (S := [p']) ((nil_sx s4).trans s5) (by simp [hp'])
  have p5 := p3.sx s45 List.not_mem_nil
  have z15 : SX [p] H1 H5 := z13.trans (nil_sx s45)
  have x15 : SX [] H1 H5 := x13.trans s45
  walk_at "rd"
  refine x_cases (fun c => ?_) (fun c => ?_)
  · walk_at "rd"
    refine x_ixL (sqL (x15 _ _ List.not_mem_nil enl)) (atI_nat (j := 0) (by rw [List.getElem?_map, hn0]; rfl)) ?_
    walk_at "rd"
    refine ⟨d, n0, hands, sts, rfl, mono_D (mono_stand K) _ _ _ _ x15.le0 rd, ok, fun d2 H6 hd2 s6 rd2 => ?_⟩
    have ok2 := noE_ok ok
    generalize noE n0 sts = st2 at rd2 ok2
    have p6 := p5.sx s6 List.not_mem_nil
    have z16 : SX [p] H1 H6 := z15.trans (nil_sx s6)
    have z36 : SX [p] H3 H6 := nil_sx (s45.trans s6)
    have rdp6 : rD (rStand K) (hid [p] H6) (.ref d2) st2 := by
      obtain ⟨_, _, _, _, e, _⟩ := id p6
      exact stands_hid e rd2
    walk_at "rd"
    have C0 := ok2.closed
    have slen := ok2.len.2
    have hnempty : ∀ q ∈ st2, isEnd q.2 = false → 1 ≤ q.2.size := fun q hq he => by
      have so := (ok2.all q hq).2
      generalize q.2 = st at so he
      cases st with
      | fin => cases he
      | hand h ms => exact so.2.2.1
      | chance ds => exact so.1
    refine ⟨p, d2, st2, rfl, p6, rdp6, ok2.nd, by omega, fun wd H7 l hwd s7 p7 ⟨kw, ewd, kwk⟩ _ perm lnd lb => ?_⟩
    walk_at "rd"
    have nwp : wd ≠ p := fun e => p6.there (e ▸ hwd)
    have nwp' : wd ∉ [p] := by simpa using nwp
    have kl : kw.length = l.length := Paired.length kwk
    have z17 := z16.trans s7
    have ll : l.length ≤ 100 := by
      have h1 := perm.length_eq
      rw [List.length_map] at h1
      have h2 := endsOf_len st2
      omega
    refine x_lenD (.inl ewd) ?_
    walk_at "rd"
    rw [kl]
    by_cases l1 : 0 < l.length
    · refine x_true (decide_eq_true (by omega)) ?_
      walk_at "rd"
      refine ⟨p, wd, l, rfl, p7, nwp, ⟨wd, kw, rfl, .inl ewd, kwk⟩, lnd, l1, by omega, lb, fun e H8 s8 p8 e0 e1 way => ?_⟩
      have ewd8 := s8 _ _ nwp' ewd
      have z18 := z17.trans s8
      have s78 := s8
      walk_at "rd"
      refine ⟨p, wd, l, e, rfl, p8, nwp, ⟨wd, kw, rfl, .inl ewd8, kwk⟩, lnd, by omega, (fun z hz => by have := lb z hz; omega), by omega, by omega, fun lv H9 fa fb hlv s9 p9 elv fr a0 a1 b1 => ?_⟩
      walk_at "rd"
      have z19 := z18.trans s9
      have x19 : SX [] H1 H9 := sx_nil_of (S := [p]) z19 hpn
      have elt9 : H9 lt = some (.tup (ns.map V.int)) := (((z36.trans s7).trans s8).trans s9) _ _ (by simpa using nlp) elt
      have rd9 : rD (rStand K) H9 (.ref d2) st2 := mono_D (mono_stand K) _ _ _ _ ((((s7.trans s78).trans s9)).leH) rdp6
      refine ⟨a, ns0, 3, rfl, (s1.trans x19).le0.l ha, hlen, by decide, by decide, fun px H10 hpx s10 p10 => ?_⟩
      have hpx' : ∀ b ∈ [px], H9 b = none := fun b hb => by cases List.mem_singleton.mp hb; exact hpx
      walk_at "rd"
      refine ⟨px, d2, st2, rfl, p10, mono_D (mono_stand K) _ _ _ _ (le_into s10.le0 hpx') rd9, C0, slen, hnempty, fun dr H11 kvd bkd hdr s11 _ edr kvdr bgd => ?_⟩
      walk_at "rd"
      have z911 : SX [] H9 H11 := sx_nil_of (S := [px]) ((nil_sx s10).trans s11) hpx'
      intro bd hbd
      walk_at "rd"
      have s12 : SX [] H11 (upd H11 bd (.dK [])) := SX.new hbd
      have bd12 : (upd H11 bd (.dK [])) bd = some (.dK []) := upd_same
      generalize upd H11 bd (.dK []) = H12 at s12 bd12
      have edr12 := s12 _ _ List.not_mem_nil edr
      have nbd : bd ≠ dr := fun e => by rw [← e, hbd] at edr; cases edr
      refine x_lockR (.inl edr12) fun od HL eL ne => ?_
      have leL : Le H9 HL := (z911.trans s12).le0.trans (lock_le (.inl edr12) eL ne)
      have hbd' : ∀ b ∈ [bd], H9 b = none := fun b hb => by cases List.mem_singleton.mp hb; exact z911.free hbd List.not_mem_nil
      have kvdL : KVs rTS HL kvd bkd := KVs.le mono_TS (s12.le0.trans (lock_le (.inl edr12) eL ne)) kvdr
      walk_at "rd"
      refine x_itk eL ?_
      refine for_it (walk_keysR kvdr) (fun i σ A => SX [bd] HL A ∧ ∃ (kv : List (Key × V)) (bk : List (Str × List Str)) (c : Option V), A bd = some (.dK kv) ∧ KVs rTS (hid [bd] A) kv bk ∧ (∀ n ∈ bk.map (·.1), n ∈ (bkd.map (·.1)).take i) ∧ (bk.map (·.1)).Nodup ∧ (∀ q ∈ bk, q ∈ bkd ∧ ∀ st, lookA st2 q.1 = some st → moverIn ns st = true) ∧
          σ = [some (.ref a), some (.int hands), some (.ref nl), some (.ref d2), some (.ref p), some (.ref lt), some (.ref wd), some (.int e), some (.ref lv), some (.ref dr), some (.ref bd), c, none, none, none, none, none, none])
        ⟨SX.refl _, [], [], none, by rw [ne _ nbd]; exact bd12, .nil, (fun _ h => nomatch h), List.nodup_nil, (fun _ h => nomatch h), rfl⟩ (fun _ _ _ _ h => h.1 _ _ (by simpa using Ne.symm nbd) eL) ?_ ?_
      · rintro i z σ A0 A hi ⟨sA, kv, bk, c, dA, kA, kI, nA, eA, rfl⟩ ⟨rfl, z, v0, hz, rfl, _⟩
        have hz1 : (bkd.map (·.1))[i]? = some z.1 := by rw [List.getElem?_map, hz]; rfl
        obtain ⟨vv, e2, t, rfl, ht⟩ := kvdL.in_ bgd.nd (getMem hz)
        obtain ⟨h0', ms0, est0, _⟩ := bgd.each z (getMem hz)
        have lA : Le H9 A := ((le_into leL hbd').trans sA.le).trans le_hid
        have rdA : Rd A dr (.dK kvd) := .inr ⟨od, sA _ _ (by simpa using Ne.symm nbd) eL⟩
        have nextI : ∀ m ∈ (bkd.map (·.1)).take i, m ∈ (bkd.map (·.1)).take (i + 1) := fun m hm => by rw [take_succ_of hz1]; exact List.mem_append_left _ hm
        have bkl : bkd.length ≤ 100 := by
          have := nodup_sub bgd.nd (m := st2.map (·.1)) fun n hn => by
            obtain ⟨q, hq, rfl⟩ := List.mem_map.mp hn
            obtain ⟨_, _, e, _⟩ := bgd.each q hq
            exact key_of' e
          rw [List.length_map, List.length_map] at this
          omega
        walk_at "rd"
        refine ⟨d2, z.1, st2, _, rfl, mono_D (mono_stand K) _ _ _ _ lA rd9, est0, ?_⟩
        walk_at "rd"
        refine ⟨lt, _, rfl, .inr (lA.t (sqT elt9)), rfl, flat_ints ns, ?_⟩
        rw [inV_mover]
        walk_at "rd"
        refine x_cases (fun c5 => ?_) (fun c5 => ?_)
        · walk_at "rd"
          refine x_dg' rdA e2 ?_
          walk_at "rd"
          have kl : kv.length = bk.length := Paired.length kA
          have bl : bk.length ≤ 100 := by
            have := nodup_sub nA fun n hn => List.mem_of_mem_take (kI n hn)
            rw [List.length_map, List.length_map] at this
            omega
          refine ⟨bd, _, rfl, DPut.k (k := Sum.inr z.1) dA (lt_size (by omega)), ?_⟩
          have fr2 : z.1 ∉ bk.map (·.1) := fun h => nodup_take bgd.nd hz1 (kI _ h)
          rw [putK_fresh _ kA.keys fr2]
          have le1 : Le (hid [bd] A) (hid [bd] (upd A bd (.dK (kv ++ [(Sum.inr z.1, V.ref t)])))) := (SX.mut List.mem_cons_self).le
          have htA : A t = some (.tup (z.2.map V.str)) := sA _ _ (by
            intro m
            have := List.mem_singleton.mp m
            rw [this, ne _ nbd, bd12] at ht
            cases ht) ht
          have ntb : t ≠ bd := ne_of htA dA (by intro z; cases z)
          refine ⟨sA.trans (SX.mut List.mem_cons_self), _, bk ++ [z], _, upd_same, Paired.app (KVs.le mono_TS le1 kA) (.cons ⟨rfl, t, rfl, ?_⟩ .nil), fun m hm => ?_, ?_, fun q hq => ?_, rfl⟩
          · rw [hid_of (by simpa using ntb), upd_ne ntb]
            exact htA
          · rw [List.map_append] at hm
            rcases List.mem_append.mp hm with h | h
            · exact nextI m (kI m h)
            · cases List.mem_singleton.mp h
              rw [take_succ_of hz1]
              exact List.mem_append_right _ List.mem_cons_self
          · rw [List.map_append]
            exact nd_snoc nA fr2
          · rcases List.mem_append.mp hq with h | h
            · exact eA q h
            · cases List.mem_singleton.mp h
              refine ⟨getMem hz, fun st e => ?_⟩
              rw [est0] at e
              cases e
              simpa using c5
        · walk_at "rd"
          exact ⟨sA, kv, bk, _, dA, kA, fun m hm => nextI m (kI m hm), nA, eA, rfl⟩
      rintro σ A ⟨sA, kvb, bk, c, dA, kA, _, nA, eA, rfl⟩
      have eLA := sA _ _ (by simpa using Ne.symm nbd) eL
      refine ⟨eLA, ?_⟩
      have sWB : SX [] H9 (put A dr (H12 dr)) := z911.trans (sx_nil_of (S := [bd]) ((nil_sx s12).trans (unlock_sx ne sA)) (by simp [hbd]))
      have bdB : (put A dr (H12 dr)) bd = some (.dK kvb) := by rw [put_ne nbd]; exact dA
      have kvbB : KVs rTS (put A dr (H12 dr)) kvb bk := KVs.le mono_TS (le_hid.trans (unlock_le (.inl edr12) eLA)) kA
      generalize put A dr (H12 dr) = B at sWB bdB kvbB
      have bgS : BookG st2 bk := ⟨nA, fun q hq => bgd.each q (eA q hq).1⟩
      have ownS : ∀ m ∈ bk.map (·.1), ∀ st, lookA st2 m = some st → moverIn ns st = true := fun m hm st e => by
        obtain ⟨q, hq, rfl⟩ := List.mem_map.mp hm
        exact (eA q hq).2 st e
      clear sA dA kA eL ne leL eLA kvdL edr12 s12 bd12
      have an0 : atI (names.map V.str) 0 = some (.str n0) := atI_nat (j := 0) (by rw [List.getElem?_map, hn0]; rfl)
      have xB : SX [] H1 B := x19.trans sWB
      have wok : WishOk l e := ⟨lnd, ll, (fun z hz => by
        have m := endsOf_sub (perm.mem_iff.mp (List.mem_map.mpr ⟨z, hz, rfl⟩))
        obtain ⟨y, hy, ey⟩ := List.mem_map.mp m
        have := (ok2.all y hy).1
        rw [ey] at this
        have b := lb z hz
        exact ⟨this, by omega, by omega⟩), by omega, by omega, way⟩
      walk_at "rd"
      show tCons _ _ _ _ _
      walk_at "rd"
      refine x_ixL (sqL (xB _ _ List.not_mem_nil enl)) an0 ?_
      walk_at "rd"
      intro x dx hx hdx ndx
      have t6 : SX [] B (upd (upd B dx (.own x)) x (.ins T.a_Work dx [])) := (SX.new hdx).trans (SX.new (by rw [upd_ne (Ne.symm ndx)]; exact hx))
      have hx' : ∀ b ∈ [x], B b = none := fun b hb => by cases List.mem_singleton.mp hb; exact hx
      have rdB := mono_D (mono_stand K) _ _ _ _ sWB.le0 rd9
      refine ⟨x, dx, .ref d2, hands, n0, st2, rfl, upd_same, mono_D (mono_stand K) _ _ _ _ (le_into t6.le0 hx') rdB, ok2, fun B1 tbl sx wa0 tb0 => ⟨rfl, ?_⟩⟩
      have tB1 : SX [] B B1 := sx_nil_of (S := [x]) ((nil_sx t6).trans sx) hx'
      have to : TbOk n0 tbl := TbOk.of ok2 tb0
      walk_at "rd"
      show tCons _ _ _ _ _
      walk_at "rd"
      intro y dy hy hdy ndy
      have t7 : SX [] B1 (upd (upd B1 dy (.own y)) y (.ins T.a_Wish dy [])) := (SX.new hdy).trans (SX.new (by rw [upd_ne (Ne.symm ndy)]; exact hy))
      have ewdB1 := (sWB.trans tB1) _ _ List.not_mem_nil (s9 _ _ nwp' ewd8)
      refine ⟨y, dy, wd, l, kw, e, rfl, upd_same, t7 _ _ List.not_mem_nil ewdB1, kwk, wok, fun G tb sy wi srt => ⟨rfl, ?_⟩⟩
      have tG1 : SX [] B1 G := sx_nil_of (S := [y]) ((nil_sx t7).trans sy) (by simp [hy])
      have tw : TwOk tbl tb := ⟨ends_tbl ok2 tb0 perm srt, fun q hq => (wok.all q (srt.perm.mem_iff.mp hq)).2⟩
      have bq : ∀ n : Str, BadP (belowP tb fa fb) ns tbl n ↔ BadP (belowP l fa fb) ns st2 n := fun n => bad_iff ok2 tb0 wok.nd srt
      generalize decide (∀ z ∈ l, e ≤ z.2) = cm at wi
      have sBG : SX [] B G := tB1.trans tG1
      have sWG : SX [] H9 G := sWB.trans sBG
      have x1G : SX [] H1 G := x19.trans sWG
      have wa := wa0.le tG1.le0
      have hd := mono_D (mono_stand K) _ _ _ _ sWG.le0 rd9
      have hlt := sWG.le0.t (sqT (K := K) elt9)
      have elv := sWG _ _ List.not_mem_nil elv
      have ewdG := tG1 _ _ List.not_mem_nil ewdB1
      have bdG := sBG _ _ List.not_mem_nil bdB
      have kvbG := KVs.le mono_TS sBG.le0 kvbB
      have enlG := x1G _ _ List.not_mem_nil enl
      obtain ⟨d', kvs0, ed0, hrd, hk⟩ := id hd
      cases ed0
      have bgT : BookG tbl bk := bgS.srt tb0.on
      have nds : ∀ n st, lookA st2 n = some st → st.nd := fun n st e => ((ok2.all _ (lookA_mem e)).2).nd
      have nms : ∀ n st, lookA st2 n = some st → ∀ s ∈ st.rows.map (·.1), nameB s = true := fun n st e s hs => rows_name2 (ok2.all _ (lookA_mem e)).2 hs
      have ndt : ∀ n st, lookA tbl n = some st → st.nd := fun n st e => (to.look e).1
      have ownT : ∀ m ∈ bk.map (·.1), ∀ st, lookA tbl m = some st → moverIn ns st = true := fun m hm st e => by
        obtain ⟨st', e', ss⟩ := tb0.back m st e
        rw [srt_mover ss]
        exact ownS m hm st' e'
      walk_at "rd"
      refine ⟨d2, wd, lt, lv, st2, l, ns, fa, fb, rfl, hd, C0, slen, ⟨wd, kw, rfl, .inl ewdG, kwk⟩, fun n => perm.mem_iff, fun q hq => (wok.all q hq).2, hlt, sqT elv, fun bdd A kb hbdd sA ebd vals => ?_⟩
      walk_at "rd"
      have sH : SX [] G G := SX.refl _
      refine ⟨x, y, lt, lv, hands, n0, tbl, tb, e, cm, ns, fa, fb, rfl, wa.le (sH.trans sA).le0, wi.sx sA, (sH.trans sA).le0.t hlt, (sqT (sA _ _ List.not_mem_nil elv)), to, tw, lok, fr, fun sq A1 sf hsq t1 esq snd spw sif => ?_⟩
      walk_at "rd"
      refine x_isiT (.base (.lst esq)) (by decide +kernel) ?_
      walk_at "rd"
      refine x_sortD (((sH.trans sA).trans t1).le0.rd _ _ trivial hrd) hk.keys fun ys py hpy hsy np => ?_
      have ty : SX [] A1 (upd A1 py (.lst (ys.map V.str))) := SX.new np
      refine x_itl (sqL upd_same) fun D hD => ?_
      have y1 : (upd A1 py (.lst (ys.map V.str))) py = some (.lst (ys.map V.str)) := upd_same
      generalize upd A1 py (.lst (ys.map V.str)) = A2 at ty y1 hD
      have ysl : ys.length ≤ 100 := by
        rw [hpy.length_eq, List.length_map]
        exact slen
      refine lc_it (walk_listR (R := rS) (Hb := H) (paired_S' ys)) (fun m C => SX [] A2 C ∧ ∃ zs : List Str, C D = some (.lst (zs.map V.str)) ∧ zs.Sublist (ys.take m) ∧ ∀ z ∈ ys.take m, z ∈ zs ↔ ¬ BadP (belowP tb fa fb) ns tbl z) ⟨SX.new hD, [], upd_same, .slnil, (fun _ h => nomatch h)⟩ (fun m C _ h => sqL (h.1 _ _ List.not_mem_nil y1)) ?_ ?_
      · rintro m w0 C0 C hm ⟨u1, zs, u2, sub, mem⟩ ⟨rfl, z, hz, rfl⟩
        obtain ⟨g, eg, hg⟩ := vals z (hpy.mem_iff.mp (getMem hz))
        rw [← bq] at hg
        have fz : z ∉ ys.take m := nodup_take (hpy.nodup_iff.mpr ok2.nd) hz
        have zl : zs.length ≤ 100 := by
          have := sub.length_le
          rw [List.length_take] at this
          omega
        walk_at "rd"
        refine ⟨rfl, ?_⟩
        walk_at "rd"
        refine x_dg' (.inl (((t1.trans ty).trans u1) _ _ List.not_mem_nil ebd)) eg ?_
        walk_at "rd"
        cases g with
        | true =>
          walk_at "rd"
          refine ⟨u1, zs, u2, by rw [take_succ_of hz]; exact sub.trans (List.sublist_append_left _ _), fun z' hz' => ?_⟩
          rw [take_succ_of hz] at hz'
          rcases List.mem_append.mp hz' with h | h
          · exact mem z' h
          · cases List.mem_singleton.mp h
            exact ⟨fun h2 => absurd (sub.mem h2) fz, fun h2 => absurd (hg.mp rfl) h2⟩
        | false =>
          walk_at "rd"
          refine ⟨_, u2, lt_size (by rw [List.length_map]; omega), sx_nil_of (S := [D]) ((nil_sx u1).trans (SX.mut List.mem_cons_self)) (by simp [hD]), zs ++ [z], by rw [upd_same, List.map_append]; rfl, by rw [take_succ_of hz]; exact sub.append (.refl _), fun z' hz' => ?_⟩
          rw [take_succ_of hz] at hz'
          rcases List.mem_append.mp hz' with h | h
          · rw [List.mem_append, ← mem z' h]
            refine ⟨fun h2 => h2.resolve_right fun h3 => ?_, .inl⟩
            rw [List.mem_singleton.mp h3] at h
            exact fz h
          · cases List.mem_singleton.mp h
            exact ⟨(fun _ h2 => by have := hg.mpr h2; cases this), fun _ => List.mem_append_right _ List.mem_cons_self⟩
      rintro C ⟨u1, zs, u2, sub, mem⟩
      rw [List.take_length] at sub mem
      have ezs : sf = zs := by
        refine List.Perm.eq_of_pairwise (fun a b _ _ h1 h2 => leS_antisymm h1 h2) spw ((sortedS_pw hsy).sublist sub) ((List.perm_ext_iff_of_nodup snd (List.Nodup.sublist sub (hpy.nodup_iff.mpr ok2.nd))).mpr fun z => ?_)
        rw [sif]
        constructor
        · rintro ⟨h1, h2⟩
          exact (mem z (hpy.mem_iff.mpr (tb0.perm.mem_iff.mp h1))).mpr h2
        · intro h
          have h1 := sub.mem h
          exact ⟨tb0.perm.mem_iff.mpr (hpy.mem_iff.mp h1), (mem z h1).mp h⟩
      subst ezs
      have tC : SX [] A1 C := ty.trans u1
      have oksf : ∀ v ∈ sf.map V.str, okV v = true := okS_of fun s hs => to.nm s ((sif s).mp hs).1
      refine x_neSame (sqL (tC _ _ List.not_mem_nil esq)) (sqL u2) oksf ?_
      have sC : SX [] G C := (sA.trans t1).trans tC
      walk_at "rd"
      have esC := tC _ _ List.not_mem_nil esq
      refine ⟨.inl ⟨rfl, _, sqL esC⟩, ?_⟩
      walk_at "rd"
      refine ⟨sq, _, _, rfl, rfl, esC, lt_size ?_, ?_⟩
      · have := nodup_sub snd fun n hn => ((sif n).mp hn).1
        rw [List.length_map] at this
        rw [List.length_map]
        have := to.len
        omega
      have sAC2 : SX [] A (upd C sq (.lst (sf.map V.str ++ [.str "zz"]))) := sx_nil_of (S := [sq]) (((nil_sx t1).trans (nil_sx tC)).trans (SX.mut List.mem_cons_self)) (by simp [hsq])
      generalize upd C sq (.lst (sf.map V.str ++ [.str "zz"])) = C2 at sAC2
      have sGC2 := sA.trans sAC2
      walk_at "rd"
      refine x_ixL (sqL (sGC2 _ _ List.not_mem_nil enlG)) an0 ?_
      walk_at "rd"
      refine ⟨x, d2, hands, n0, lt, wd, e, lv, st2, tbl, l, kw, ns, fa, fb, rfl, wa.le sGC2.le0, tb0, ok2, mono_D (mono_stand K) _ _ _ _ sGC2.le0 hd, sGC2.le0.t hlt, lok, sGC2 _ _ List.not_mem_nil ewdG, kwk, wok, perm, sGC2 _ _ List.not_mem_nil elv, fr, fun C3 s3' => ?_⟩
      walk_at "rd"
      have s13 := sGC2.trans s3'
      have sAC3 := sAC2.trans s3'
      obtain ⟨g, eg, hg⟩ := vals n0 ok2.st
      rw [← bq] at hg
      by_cases hs : BadP (belowP tb fa fb) ns tbl n0
      · refine ⟨x, y, lt, lv, hands, n0, tbl, tb, e, cm, ns, fa, fb, rfl, wa.le s13.le0, wi.sx s13, s13.le0.t hlt, sqT (s13 _ _ List.not_mem_nil elv), to, tw, lok, fr, fun _ C4 s4' => ?_, fun nb => absurd hs nb⟩
        walk_at "rd"
        have s14 := s13.trans s4'
        refine x_ixL (sqL (s14 _ _ List.not_mem_nil enlG)) an0 ?_
        refine x_dg' (.inl ((sAC3.trans s4') _ _ List.not_mem_nil ebd)) eg ?_
        have : g = true := hg.mpr hs
        subst this
        walk_at "rd"
        refine x_true (by rfl) ?_
        walk_at "rd"
        refine ⟨x, y, lv, bd, hands, n0, tbl, tb, e, cm, fa, fb, kvb, bk, rfl, wa.le s14.le0, wi.sx s14, sqT (s14 _ _ List.not_mem_nil elv), to, tw, fr, s14 _ _ List.not_mem_nil bdG, KVs.le mono_TS s14.le0 kvbG, bgT, fun r hr2 C5 s5' => ?_⟩
        walk_at "rd"
        have : r = false := by
          rw [← Bool.not_eq_true]
          intro h
          obtain ⟨m, r1, hf, hb⟩ := bad_reach bgT ownT ndt hs .base
          exact hr2.mp h m r1 hf hb
        subst this
        refine ⟨false, false, rfl, rfl, ?_⟩
        exact k _
      · refine ⟨x, y, lt, lv, hands, n0, tbl, tb, e, cm, ns, fa, fb, rfl, wa.le s13.le0, wi.sx s13, s13.le0.t hlt, sqT (s13 _ _ List.not_mem_nil elv), to, tw, lok, fr, fun bb => absurd bb hs, fun _ fq C4 kvf bf hfq s4' efq kvq bo => ?_⟩
        walk_at "rd"
        have s14 := s13.trans s4'
        refine x_ixL (sqL (s14 _ _ List.not_mem_nil enlG)) an0 ?_
        refine x_dg' (.inl ((sAC3.trans s4') _ _ List.not_mem_nil ebd)) eg ?_
        have : g = false := by
          rw [← Bool.not_eq_true]
          intro h
          exact hs (hg.mp h)
        subst this
        walk_at "rd"
        refine x_isiT (ty_dict (.inl efq)) (by decide +kernel) ?_
        walk_at "rd"
        refine ⟨d2, lt, bdd, st2, ns, kb, fun n => BadP (belowP l fa fb) ns st2 n, rfl, mono_D (mono_stand K) _ _ _ _ s14.le0 hd, C0, slen, s14.le0.t hlt, (sAC3.trans s4') _ _ List.not_mem_nil ebd, vals, fun q2 C5 kv2 bk2 hq2 s5' eq2 kvq2 du => ?_⟩
        refine .inr ⟨fq, q2, kvf, kv2, rfl, rfl, book_eq bo du tb0.back tb0.on nds (fun n => (bq n).symm) nms (s5' _ _ List.not_mem_nil efq) (KVs.le mono_TS s5'.le0 kvq) eq2 kvq2, ?_⟩
        walk_at "rd"
        have s15 := s14.trans s5'
        have s45' := s4'.trans s5'
        have efq5 := s5' _ _ List.not_mem_nil efq
        have kvq5 := KVs.le mono_TS s5'.le0 kvq
        refine ⟨x, fq, hands, n0, tbl, kvf, bf, rfl, wa.le s15.le0, efq5, kvq5, bo.g, fun C6 s6' => ?_⟩
        walk_at "rd"
        refine ⟨true, true, rfl, rfl, ?_⟩
        walk_at "rd"
        refine x_false (by rfl) ?_
        walk_at "rd"
        have s16 := s15.trans s6'
        refine ⟨x, y, lv, fq, hands, n0, tbl, tb, e, cm, fa, fb, kvf, bf, rfl, wa.le s16.le0, wi.sx s16, sqT (s16 _ _ List.not_mem_nil elv), to, tw, fr, s6' _ _ List.not_mem_nil efq5, KVs.le mono_TS s6'.le0 kvq5, bo.g, fun r hr2 C7 s7' => ?_⟩
        walk_at "rd"
        have : r = true := hr2.mpr (free_keeps to bo hs)
        subst this
        refine ⟨true, true, rfl, rfl, ?_⟩
        walk_at "rd"
        refine x_false (by rfl) ?_
        walk_at "rd"
        have s17 := s16.trans s7'
        have s67 := s6'.trans s7'
        have efq7 := s67 _ _ List.not_mem_nil efq5
        have kvq7 := KVs.le mono_TS s67.le0 kvq5
        have s37 := s45'.trans s67
        refine ⟨x, y, lv, bd, hands, n0, tbl, tb, e, cm, fa, fb, kvb, bk, rfl, wa.le s17.le0, wi.sx s17, sqT (s17 _ _ List.not_mem_nil elv), to, tw, fr, s17 _ _ List.not_mem_nil bdG, KVs.le mono_TS s17.le0 kvbG, bgT, fun kp rp C8 ys' hrp s8' erp ynd ysrt yR => ?_, fun np C8 s8' => ?_⟩
        · walk_at "rd"
          refine x_true (by rfl) ?_
          have s18 := s17.trans s8'
          have nbR : ∀ n, LetR tbl bk n0 n → ¬ BadP (belowP tb fa fb) ns tbl n := fun n r b => by
            obtain ⟨m, r1, hf, hb⟩ := bad_reach bgT ownT ndt b r
            exact kp m r1 hf hb
          have good : ∀ n ∈ ys', ∃ st, lookA st2 n = some st ∧ (letS bk n st).length ≤ 100 ∧ (moverIn ns st = true → ∃ l, lookA bf n = some l ∧ ∀ z ∈ letS bk n st, z ∈ l) := fun n hn => by
            have r := (yR n).mp hn
            obtain ⟨st', e'⟩ := lookA_some (r.key to)
            obtain ⟨st, e, ss⟩ := tb0.back n st' e'
            obtain ⟨_, csz, _⟩ := C0.all _ (lookA_mem e)
            have csz : st.size ≤ 4 := csz
            have lets : ∀ z ∈ letS bk n st, z ∈ letS bk n st' := fun z hz => by
              unfold letS at hz ⊢
              cases el : lookA bk n with
              | some l' =>
                rw [el] at hz
                exact hz
              | none =>
                rw [el] at hz
                exact ((SrtStand.rows ss).map (·.1)).mem_iff.mpr hz
            refine ⟨st, e, ?_, fun m => ?_⟩
            · unfold letS
              cases el : lookA bk n with
              | some l' =>
                obtain ⟨_, _, _, _, h4, _⟩ := bgS.each _ (lookA_mem el)
                have h4 : l'.length ≤ 4 := h4
                show l'.length ≤ 100
                omega
              | none =>
                show (st.rows.map (·.1)).length ≤ 100
                rw [List.length_map, rows_tos_len, tos_len]
                omega
            · obtain ⟨l', el'⟩ := lookA_some (bo.all n st' e' (by rw [srt_mover ss]; exact m) (nbR n r))
              refine ⟨l', el', fun z hz => ?_⟩
              obtain ⟨st2, e2, _, _, _, _, _, mm⟩ := bo.each _ (lookA_mem el')
              rw [e'] at e2
              cases e2
              obtain ⟨u, eu⟩ := bgT.let_rows e' (lets z hz)
              exact (mm z).mpr ⟨u, eu, nbR u (.step r e' (lets z hz) eu)⟩
          have efq8 := s8' _ _ List.not_mem_nil efq7
          walk_at "rd"
          refine ⟨d2, lt, bd, fq, rp, st2, ns, kvb, kvf, bk, bf, ys', rfl, mono_D (mono_stand K) _ _ _ _ s18.le0 hd, s18.le0.t hlt, s18 _ _ List.not_mem_nil bdG, KVs.le mono_TS s18.le0 kvbG, efq8, KVs.le mono_TS s8'.le0 kvq7, erp, good, fun C9 s9' => ?_⟩
          walk_at "rd"
          refine ⟨.inr (.inr (.inl ⟨rfl, .inl ⟨kvf, (s9' _ _ List.not_mem_nil efq8)⟩⟩)), ?_⟩
          walk_at "rd"
          refine ⟨fq, kvf, rfl, rfl, (s9' _ _ List.not_mem_nil efq8), ?_⟩
          have sE : SX [] C3 (upd C9 fq (.dK [])) := sx_nil_of (S := [fq]) ((nil_sx ((s37.trans s8').trans s9')).trans (SX.mut List.mem_cons_self)) (by simp [hfq])
          generalize upd C9 fq (.dK []) = E0 at sE
          have s13E := s13.trans sE
          walk_at "rd"
          refine ⟨x, y, lt, lv, hands, n0, tbl, tb, e, cm, ns, fa, fb, rfl, wa.le s13E.le0, wi.sx s13E, s13E.le0.t hlt, sqT (s13E _ _ List.not_mem_nil elv), to, tw, lok, fr, fun bb => absurd bb hs, fun _ fq2 E1 kvf2 bf2 hfq2 s14 efq2 kvq2' bo2 => ?_⟩
          walk_at "rd"
          have s15 := s13E.trans s14
          refine ⟨d2, lt, bdd, st2, ns, kb, fun n => BadP (belowP l fa fb) ns st2 n, rfl, mono_D (mono_stand K) _ _ _ _ s15.le0 hd, C0, slen, s15.le0.t hlt, ((sAC3.trans sE).trans s14) _ _ List.not_mem_nil ebd, vals, fun q3 E2 kv3 bk3 hq3 s16 eq3 kvq3 du3 => ?_⟩
          refine .inr ⟨fq2, q3, kvf2, kv3, rfl, rfl, book_eq bo2 du3 tb0.back tb0.on nds (fun n => (bq n).symm) nms (s16 _ _ List.not_mem_nil efq2) (KVs.le mono_TS s16.le0 kvq2') eq3 kvq3, ?_⟩
          exact k _
        · walk_at "rd"
          refine x_false (by rfl) ?_
          walk_at "rd"
          refine ⟨.inr (.inr (.inl ⟨rfl, .inl ⟨kvf, (s8' _ _ List.not_mem_nil efq7)⟩⟩)), ?_⟩
          walk_at "rd"
          refine ⟨fq, kvf, rfl, rfl, (s8' _ _ List.not_mem_nil efq7), ?_⟩
          have sE : SX [] C3 (upd C8 fq (.dK [])) := sx_nil_of (S := [fq]) ((nil_sx (s37.trans s8')).trans (SX.mut List.mem_cons_self)) (by simp [hfq])
          generalize upd C8 fq (.dK []) = E0 at sE
          have s13E := s13.trans sE
          walk_at "rd"
          refine ⟨x, y, lt, lv, hands, n0, tbl, tb, e, cm, ns, fa, fb, rfl, wa.le s13E.le0, wi.sx s13E, s13E.le0.t hlt, sqT (s13E _ _ List.not_mem_nil elv), to, tw, lok, fr, fun bb => absurd bb hs, fun _ fq2 E1 kvf2 bf2 hfq2 s14 efq2 kvq2' bo2 => ?_⟩
          walk_at "rd"
          have s15 := s13E.trans s14
          refine ⟨d2, lt, bdd, st2, ns, kb, fun n => BadP (belowP l fa fb) ns st2 n, rfl, mono_D (mono_stand K) _ _ _ _ s15.le0 hd, C0, slen, s15.le0.t hlt, ((sAC3.trans sE).trans s14) _ _ List.not_mem_nil ebd, vals, fun q3 E2 kv3 bk3 hq3 s16 eq3 kvq3 du3 => ?_⟩
          refine .inr ⟨fq2, q3, kvf2, kv3, rfl, rfl, book_eq bo2 du3 tb0.back tb0.on nds (fun n => (bq n).symm) nms (s16 _ _ List.not_mem_nil efq2) (KVs.le mono_TS s16.le0 kvq2') eq3 kvq3, ?_⟩
          exact k _
    · refine x_false (decide_eq_false (by omega)) ?_
      have ewd8 := ewd
      have z18 := z17
      have p8 := p7
      have s78 : SX [p] H7 H7 := SX.refl _
      have way : (∀ q ∈ l, (3 : Int) ≤ q.2) ∨ (∀ q ∈ l, q.2 ≤ (3 : Int)) := .inl fun q hq => by
        have hl0 : l = [] := List.eq_nil_of_length_eq_zero (by omega)
        rw [hl0] at hq
        cases hq
      walk_at "rd"
      refine ⟨p, wd, l, (3 : Int), rfl, p8, nwp, ⟨wd, kw, rfl, .inl ewd8, kwk⟩, lnd, by omega, (fun z hz => by have := lb z hz; omega), by omega, by omega, fun lv H9 fa fb hlv s9 p9 elv fr a0 a1 b1 => ?_⟩
      walk_at "rd"
      have z19 := z18.trans s9
      have x19 : SX [] H1 H9 := sx_nil_of (S := [p]) z19 hpn
      have elt9 : H9 lt = some (.tup (ns.map V.int)) := ((z36.trans s7).trans s9) _ _ (by simpa using nlp) elt
      have rd9 : rD (rStand K) H9 (.ref d2) st2 := mono_D (mono_stand K) _ _ _ _ ((((s7.trans s78).trans s9)).leH) rdp6
      refine ⟨a, ns0, 3, rfl, (s1.trans x19).le0.l ha, hlen, by decide, by decide, fun px H10 hpx s10 p10 => ?_⟩
      have hpx' : ∀ b ∈ [px], H9 b = none := fun b hb => by cases List.mem_singleton.mp hb; exact hpx
      walk_at "rd"
      refine ⟨px, d2, st2, rfl, p10, mono_D (mono_stand K) _ _ _ _ (le_into s10.le0 hpx') rd9, C0, slen, hnempty, fun dr H11 kvd bkd hdr s11 _ edr kvdr bgd => ?_⟩
      walk_at "rd"
      have z911 : SX [] H9 H11 := sx_nil_of (S := [px]) ((nil_sx s10).trans s11) hpx'
      intro bd hbd
      walk_at "rd"
      have s12 : SX [] H11 (upd H11 bd (.dK [])) := SX.new hbd
      have bd12 : (upd H11 bd (.dK [])) bd = some (.dK []) := upd_same
      generalize upd H11 bd (.dK []) = H12 at s12 bd12
      have edr12 := s12 _ _ List.not_mem_nil edr
      have nbd : bd ≠ dr := fun e => by rw [← e, hbd] at edr; cases edr
      refine x_lockR (.inl edr12) fun od HL eL ne => ?_
      have leL : Le H9 HL := (z911.trans s12).le0.trans (lock_le (.inl edr12) eL ne)
      have hbd' : ∀ b ∈ [bd], H9 b = none := fun b hb => by cases List.mem_singleton.mp hb; exact z911.free hbd List.not_mem_nil
      have kvdL : KVs rTS HL kvd bkd := KVs.le mono_TS (s12.le0.trans (lock_le (.inl edr12) eL ne)) kvdr
      walk_at "rd"
      refine x_itk eL ?_
      refine for_it (walk_keysR kvdr) (fun i σ A => SX [bd] HL A ∧ ∃ (kv : List (Key × V)) (bk : List (Str × List Str)) (c : Option V), A bd = some (.dK kv) ∧ KVs rTS (hid [bd] A) kv bk ∧ (∀ n ∈ bk.map (·.1), n ∈ (bkd.map (·.1)).take i) ∧ (bk.map (·.1)).Nodup ∧ (∀ q ∈ bk, q ∈ bkd ∧ ∀ st, lookA st2 q.1 = some st → moverIn ns st = true) ∧
          σ = [some (.ref a), some (.int hands), some (.ref nl), some (.ref d2), some (.ref p), some (.ref lt), some (.ref wd), some (.int (3 : Int)), some (.ref lv), some (.ref dr), some (.ref bd), c, none, none, none, none, none, none])
        ⟨SX.refl _, [], [], none, by rw [ne _ nbd]; exact bd12, .nil, (fun _ h => nomatch h), List.nodup_nil, (fun _ h => nomatch h), rfl⟩ (fun _ _ _ _ h => h.1 _ _ (by simpa using Ne.symm nbd) eL) ?_ ?_
      · rintro i z σ A0 A hi ⟨sA, kv, bk, c, dA, kA, kI, nA, eA, rfl⟩ ⟨rfl, z, v0, hz, rfl, _⟩
        have hz1 : (bkd.map (·.1))[i]? = some z.1 := by rw [List.getElem?_map, hz]; rfl
        obtain ⟨vv, e2, t, rfl, ht⟩ := kvdL.in_ bgd.nd (getMem hz)
        obtain ⟨h0', ms0, est0, _⟩ := bgd.each z (getMem hz)
        have lA : Le H9 A := ((le_into leL hbd').trans sA.le).trans le_hid
        have rdA : Rd A dr (.dK kvd) := .inr ⟨od, sA _ _ (by simpa using Ne.symm nbd) eL⟩
        have nextI : ∀ m ∈ (bkd.map (·.1)).take i, m ∈ (bkd.map (·.1)).take (i + 1) := fun m hm => by rw [take_succ_of hz1]; exact List.mem_append_left _ hm
        have bkl : bkd.length ≤ 100 := by
          have := nodup_sub bgd.nd (m := st2.map (·.1)) fun n hn => by
            obtain ⟨q, hq, rfl⟩ := List.mem_map.mp hn
            obtain ⟨_, _, e, _⟩ := bgd.each q hq
            exact key_of' e
          rw [List.length_map, List.length_map] at this
          omega
        walk_at "rd"
        refine ⟨d2, z.1, st2, _, rfl, mono_D (mono_stand K) _ _ _ _ lA rd9, est0, ?_⟩
        walk_at "rd"
        refine ⟨lt, _, rfl, .inr (lA.t (sqT elt9)), rfl, flat_ints ns, ?_⟩
        rw [inV_mover]
        walk_at "rd"
        refine x_cases (fun c5 => ?_) (fun c5 => ?_)
        · walk_at "rd"
          refine x_dg' rdA e2 ?_
          walk_at "rd"
          have kl : kv.length = bk.length := Paired.length kA
          have bl : bk.length ≤ 100 := by
            have := nodup_sub nA fun n hn => List.mem_of_mem_take (kI n hn)
            rw [List.length_map, List.length_map] at this
            omega
          refine ⟨bd, _, rfl, DPut.k (k := Sum.inr z.1) dA (lt_size (by omega)), ?_⟩
          have fr2 : z.1 ∉ bk.map (·.1) := fun h => nodup_take bgd.nd hz1 (kI _ h)
          rw [putK_fresh _ kA.keys fr2]
          have le1 : Le (hid [bd] A) (hid [bd] (upd A bd (.dK (kv ++ [(Sum.inr z.1, V.ref t)])))) := (SX.mut List.mem_cons_self).le
          have htA : A t = some (.tup (z.2.map V.str)) := sA _ _ (by
            intro m
            have := List.mem_singleton.mp m
            rw [this, ne _ nbd, bd12] at ht
            cases ht) ht
          have ntb : t ≠ bd := ne_of htA dA (by intro z; cases z)
          refine ⟨sA.trans (SX.mut List.mem_cons_self), _, bk ++ [z], _, upd_same, Paired.app (KVs.le mono_TS le1 kA) (.cons ⟨rfl, t, rfl, ?_⟩ .nil), fun m hm => ?_, ?_, fun q hq => ?_, rfl⟩
          · rw [hid_of (by simpa using ntb), upd_ne ntb]
            exact htA
          · rw [List.map_append] at hm
            rcases List.mem_append.mp hm with h | h
            · exact nextI m (kI m h)
            · cases List.mem_singleton.mp h
              rw [take_succ_of hz1]
              exact List.mem_append_right _ List.mem_cons_self
          · rw [List.map_append]
            exact nd_snoc nA fr2
          · rcases List.mem_append.mp hq with h | h
            · exact eA q h
            · cases List.mem_singleton.mp h
              refine ⟨getMem hz, fun st e => ?_⟩
              rw [est0] at e
              cases e
              simpa using c5
        · walk_at "rd"
          exact ⟨sA, kv, bk, _, dA, kA, fun m hm => nextI m (kI m hm), nA, eA, rfl⟩
      rintro σ A ⟨sA, kvb, bk, c, dA, kA, _, nA, eA, rfl⟩
      have eLA := sA _ _ (by simpa using Ne.symm nbd) eL
      refine ⟨eLA, ?_⟩
      have sWB : SX [] H9 (put A dr (H12 dr)) := z911.trans (sx_nil_of (S := [bd]) ((nil_sx s12).trans (unlock_sx ne sA)) (by simp [hbd]))
      have bdB : (put A dr (H12 dr)) bd = some (.dK kvb) := by rw [put_ne nbd]; exact dA
      have kvbB : KVs rTS (put A dr (H12 dr)) kvb bk := KVs.le mono_TS (le_hid.trans (unlock_le (.inl edr12) eLA)) kA
      generalize put A dr (H12 dr) = B at sWB bdB kvbB
      have bgS : BookG st2 bk := ⟨nA, fun q hq => bgd.each q (eA q hq).1⟩
      have ownS : ∀ m ∈ bk.map (·.1), ∀ st, lookA st2 m = some st → moverIn ns st = true := fun m hm st e => by
        obtain ⟨q, hq, rfl⟩ := List.mem_map.mp hm
        exact (eA q hq).2 st e
      clear sA dA kA eL ne leL eLA kvdL edr12 s12 bd12
      have an0 : atI (names.map V.str) 0 = some (.str n0) := atI_nat (j := 0) (by rw [List.getElem?_map, hn0]; rfl)
      have xB : SX [] H1 B := x19.trans sWB
      have wok : WishOk l (3 : Int) := ⟨lnd, ll, (fun z hz => by
        have m := endsOf_sub (perm.mem_iff.mp (List.mem_map.mpr ⟨z, hz, rfl⟩))
        obtain ⟨y, hy, ey⟩ := List.mem_map.mp m
        have := (ok2.all y hy).1
        rw [ey] at this
        have b := lb z hz
        exact ⟨this, by omega, by omega⟩), by omega, by omega, way⟩
      walk_at "rd"
      show tCons _ _ _ _ _
      walk_at "rd"
      refine x_ixL (sqL (xB _ _ List.not_mem_nil enl)) an0 ?_
      walk_at "rd"
      intro x dx hx hdx ndx
      have t6 : SX [] B (upd (upd B dx (.own x)) x (.ins T.a_Work dx [])) := (SX.new hdx).trans (SX.new (by rw [upd_ne (Ne.symm ndx)]; exact hx))
      have hx' : ∀ b ∈ [x], B b = none := fun b hb => by cases List.mem_singleton.mp hb; exact hx
      have rdB := mono_D (mono_stand K) _ _ _ _ sWB.le0 rd9
      refine ⟨x, dx, .ref d2, hands, n0, st2, rfl, upd_same, mono_D (mono_stand K) _ _ _ _ (le_into t6.le0 hx') rdB, ok2, fun B1 tbl sx wa0 tb0 => ⟨rfl, ?_⟩⟩
      have tB1 : SX [] B B1 := sx_nil_of (S := [x]) ((nil_sx t6).trans sx) hx'
      have to : TbOk n0 tbl := TbOk.of ok2 tb0
      walk_at "rd"
      show tCons _ _ _ _ _
      walk_at "rd"
      intro y dy hy hdy ndy
      have t7 : SX [] B1 (upd (upd B1 dy (.own y)) y (.ins T.a_Wish dy [])) := (SX.new hdy).trans (SX.new (by rw [upd_ne (Ne.symm ndy)]; exact hy))
      have ewdB1 := (sWB.trans tB1) _ _ List.not_mem_nil (s9 _ _ nwp' ewd8)
      refine ⟨y, dy, wd, l, kw, (3 : Int), rfl, upd_same, t7 _ _ List.not_mem_nil ewdB1, kwk, wok, fun G tb sy wi srt => ⟨rfl, ?_⟩⟩
      have tG1 : SX [] B1 G := sx_nil_of (S := [y]) ((nil_sx t7).trans sy) (by simp [hy])
      have tw : TwOk tbl tb := ⟨ends_tbl ok2 tb0 perm srt, fun q hq => (wok.all q (srt.perm.mem_iff.mp hq)).2⟩
      have bq : ∀ n : Str, BadP (belowP tb fa fb) ns tbl n ↔ BadP (belowP l fa fb) ns st2 n := fun n => bad_iff ok2 tb0 wok.nd srt
      generalize decide (∀ z ∈ l, (3 : Int) ≤ z.2) = cm at wi
      have sBG : SX [] B G := tB1.trans tG1
      have sWG : SX [] H9 G := sWB.trans sBG
      have x1G : SX [] H1 G := x19.trans sWG
      have wa := wa0.le tG1.le0
      have hd := mono_D (mono_stand K) _ _ _ _ sWG.le0 rd9
      have hlt := sWG.le0.t (sqT (K := K) elt9)
      have elv := sWG _ _ List.not_mem_nil elv
      have ewdG := tG1 _ _ List.not_mem_nil ewdB1
      have bdG := sBG _ _ List.not_mem_nil bdB
      have kvbG := KVs.le mono_TS sBG.le0 kvbB
      have enlG := x1G _ _ List.not_mem_nil enl
      obtain ⟨d', kvs0, ed0, hrd, hk⟩ := id hd
      cases ed0
      have bgT : BookG tbl bk := bgS.srt tb0.on
      have nds : ∀ n st, lookA st2 n = some st → st.nd := fun n st e => ((ok2.all _ (lookA_mem e)).2).nd
      have nms : ∀ n st, lookA st2 n = some st → ∀ s ∈ st.rows.map (·.1), nameB s = true := fun n st e s hs => rows_name2 (ok2.all _ (lookA_mem e)).2 hs
      have ndt : ∀ n st, lookA tbl n = some st → st.nd := fun n st e => (to.look e).1
      have ownT : ∀ m ∈ bk.map (·.1), ∀ st, lookA tbl m = some st → moverIn ns st = true := fun m hm st e => by
        obtain ⟨st', e', ss⟩ := tb0.back m st e
        rw [srt_mover ss]
        exact ownS m hm st' e'
      walk_at "rd"
      refine ⟨d2, wd, lt, lv, st2, l, ns, fa, fb, rfl, hd, C0, slen, ⟨wd, kw, rfl, .inl ewdG, kwk⟩, fun n => perm.mem_iff, fun q hq => (wok.all q hq).2, hlt, sqT elv, fun bdd A kb hbdd sA ebd vals => ?_⟩
      walk_at "rd"
      have sH : SX [] G G := SX.refl _
      refine ⟨x, y, lt, lv, hands, n0, tbl, tb, (3 : Int), cm, ns, fa, fb, rfl, wa.le (sH.trans sA).le0, wi.sx sA, (sH.trans sA).le0.t hlt, (sqT (sA _ _ List.not_mem_nil elv)), to, tw, lok, fr, fun sq A1 sf hsq t1 esq snd spw sif => ?_⟩
      walk_at "rd"
      refine x_isiT (.base (.lst esq)) (by decide +kernel) ?_
      walk_at "rd"
      refine x_sortD (((sH.trans sA).trans t1).le0.rd _ _ trivial hrd) hk.keys fun ys py hpy hsy np => ?_
      have ty : SX [] A1 (upd A1 py (.lst (ys.map V.str))) := SX.new np
      refine x_itl (sqL upd_same) fun D hD => ?_
      have y1 : (upd A1 py (.lst (ys.map V.str))) py = some (.lst (ys.map V.str)) := upd_same
      generalize upd A1 py (.lst (ys.map V.str)) = A2 at ty y1 hD
      have ysl : ys.length ≤ 100 := by
        rw [hpy.length_eq, List.length_map]
        exact slen
      refine lc_it (walk_listR (R := rS) (Hb := H) (paired_S' ys)) (fun m C => SX [] A2 C ∧ ∃ zs : List Str, C D = some (.lst (zs.map V.str)) ∧ zs.Sublist (ys.take m) ∧ ∀ z ∈ ys.take m, z ∈ zs ↔ ¬ BadP (belowP tb fa fb) ns tbl z) ⟨SX.new hD, [], upd_same, .slnil, (fun _ h => nomatch h)⟩ (fun m C _ h => sqL (h.1 _ _ List.not_mem_nil y1)) ?_ ?_
      · rintro m w0 C0 C hm ⟨u1, zs, u2, sub, mem⟩ ⟨rfl, z, hz, rfl⟩
        obtain ⟨g, eg, hg⟩ := vals z (hpy.mem_iff.mp (getMem hz))
        rw [← bq] at hg
        have fz : z ∉ ys.take m := nodup_take (hpy.nodup_iff.mpr ok2.nd) hz
        have zl : zs.length ≤ 100 := by
          have := sub.length_le
          rw [List.length_take] at this
          omega
        walk_at "rd"
        refine ⟨rfl, ?_⟩
        walk_at "rd"
        refine x_dg' (.inl (((t1.trans ty).trans u1) _ _ List.not_mem_nil ebd)) eg ?_
        walk_at "rd"
        cases g with
        | true =>
          walk_at "rd"
          refine ⟨u1, zs, u2, by rw [take_succ_of hz]; exact sub.trans (List.sublist_append_left _ _), fun z' hz' => ?_⟩
          rw [take_succ_of hz] at hz'
          rcases List.mem_append.mp hz' with h | h
          · exact mem z' h
          · cases List.mem_singleton.mp h
            exact ⟨fun h2 => absurd (sub.mem h2) fz, fun h2 => absurd (hg.mp rfl) h2⟩
        | false =>
          walk_at "rd"
          refine ⟨_, u2, lt_size (by rw [List.length_map]; omega), sx_nil_of (S := [D]) ((nil_sx u1).trans (SX.mut List.mem_cons_self)) (by simp [hD]), zs ++ [z], by rw [upd_same, List.map_append]; rfl, by rw [take_succ_of hz]; exact sub.append (.refl _), fun z' hz' => ?_⟩
          rw [take_succ_of hz] at hz'
          rcases List.mem_append.mp hz' with h | h
          · rw [List.mem_append, ← mem z' h]
            refine ⟨fun h2 => h2.resolve_right fun h3 => ?_, .inl⟩
            rw [List.mem_singleton.mp h3] at h
            exact fz h
          · cases List.mem_singleton.mp h
            exact ⟨(fun _ h2 => by have := hg.mpr h2; cases this), fun _ => List.mem_append_right _ List.mem_cons_self⟩
      rintro C ⟨u1, zs, u2, sub, mem⟩
      rw [List.take_length] at sub mem
      have ezs : sf = zs := by
        refine List.Perm.eq_of_pairwise (fun a b _ _ h1 h2 => leS_antisymm h1 h2) spw ((sortedS_pw hsy).sublist sub) ((List.perm_ext_iff_of_nodup snd (List.Nodup.sublist sub (hpy.nodup_iff.mpr ok2.nd))).mpr fun z => ?_)
        rw [sif]
        constructor
        · rintro ⟨h1, h2⟩
          exact (mem z (hpy.mem_iff.mpr (tb0.perm.mem_iff.mp h1))).mpr h2
        · intro h
          have h1 := sub.mem h
          exact ⟨tb0.perm.mem_iff.mpr (hpy.mem_iff.mp h1), (mem z h1).mp h⟩
      subst ezs
      have tC : SX [] A1 C := ty.trans u1
      have oksf : ∀ v ∈ sf.map V.str, okV v = true := okS_of fun s hs => to.nm s ((sif s).mp hs).1
      refine x_neSame (sqL (tC _ _ List.not_mem_nil esq)) (sqL u2) oksf ?_
      have sC : SX [] G C := (sA.trans t1).trans tC
      walk_at "rd"
      have esC := tC _ _ List.not_mem_nil esq
      refine ⟨.inl ⟨rfl, _, sqL esC⟩, ?_⟩
      walk_at "rd"
      refine ⟨sq, _, _, rfl, rfl, esC, lt_size ?_, ?_⟩
      · have := nodup_sub snd fun n hn => ((sif n).mp hn).1
        rw [List.length_map] at this
        rw [List.length_map]
        have := to.len
        omega
      have sAC2 : SX [] A (upd C sq (.lst (sf.map V.str ++ [.str "zz"]))) := sx_nil_of (S := [sq]) (((nil_sx t1).trans (nil_sx tC)).trans (SX.mut List.mem_cons_self)) (by simp [hsq])
      generalize upd C sq (.lst (sf.map V.str ++ [.str "zz"])) = C2 at sAC2
      have sGC2 := sA.trans sAC2
      walk_at "rd"
      refine x_ixL (sqL (sGC2 _ _ List.not_mem_nil enlG)) an0 ?_
      walk_at "rd"
      refine ⟨x, d2, hands, n0, lt, wd, (3 : Int), lv, st2, tbl, l, kw, ns, fa, fb, rfl, wa.le sGC2.le0, tb0, ok2, mono_D (mono_stand K) _ _ _ _ sGC2.le0 hd, sGC2.le0.t hlt, lok, sGC2 _ _ List.not_mem_nil ewdG, kwk, wok, perm, sGC2 _ _ List.not_mem_nil elv, fr, fun C3 s3' => ?_⟩
      walk_at "rd"
      have s13 := sGC2.trans s3'
      have sAC3 := sAC2.trans s3'
      obtain ⟨g, eg, hg⟩ := vals n0 ok2.st
      rw [← bq] at hg
      by_cases hs : BadP (belowP tb fa fb) ns tbl n0
      · refine ⟨x, y, lt, lv, hands, n0, tbl, tb, (3 : Int), cm, ns, fa, fb, rfl, wa.le s13.le0, wi.sx s13, s13.le0.t hlt, sqT (s13 _ _ List.not_mem_nil elv), to, tw, lok, fr, fun _ C4 s4' => ?_, fun nb => absurd hs nb⟩
        walk_at "rd"
        have s14 := s13.trans s4'
        refine x_ixL (sqL (s14 _ _ List.not_mem_nil enlG)) an0 ?_
        refine x_dg' (.inl ((sAC3.trans s4') _ _ List.not_mem_nil ebd)) eg ?_
        have : g = true := hg.mpr hs
        subst this
        walk_at "rd"
        refine x_true (by rfl) ?_
        walk_at "rd"
        refine ⟨x, y, lv, bd, hands, n0, tbl, tb, (3 : Int), cm, fa, fb, kvb, bk, rfl, wa.le s14.le0, wi.sx s14, sqT (s14 _ _ List.not_mem_nil elv), to, tw, fr, s14 _ _ List.not_mem_nil bdG, KVs.le mono_TS s14.le0 kvbG, bgT, fun r hr2 C5 s5' => ?_⟩
        walk_at "rd"
        have : r = false := by
          rw [← Bool.not_eq_true]
          intro h
          obtain ⟨m, r1, hf, hb⟩ := bad_reach bgT ownT ndt hs .base
          exact hr2.mp h m r1 hf hb
        subst this
        refine ⟨false, false, rfl, rfl, ?_⟩
        exact k _
      · refine ⟨x, y, lt, lv, hands, n0, tbl, tb, (3 : Int), cm, ns, fa, fb, rfl, wa.le s13.le0, wi.sx s13, s13.le0.t hlt, sqT (s13 _ _ List.not_mem_nil elv), to, tw, lok, fr, fun bb => absurd bb hs, fun _ fq C4 kvf bf hfq s4' efq kvq bo => ?_⟩
        walk_at "rd"
        have s14 := s13.trans s4'
        refine x_ixL (sqL (s14 _ _ List.not_mem_nil enlG)) an0 ?_
        refine x_dg' (.inl ((sAC3.trans s4') _ _ List.not_mem_nil ebd)) eg ?_
        have : g = false := by
          rw [← Bool.not_eq_true]
          intro h
          exact hs (hg.mp h)
        subst this
        walk_at "rd"
        refine x_isiT (ty_dict (.inl efq)) (by decide +kernel) ?_
        walk_at "rd"
        refine ⟨d2, lt, bdd, st2, ns, kb, fun n => BadP (belowP l fa fb) ns st2 n, rfl, mono_D (mono_stand K) _ _ _ _ s14.le0 hd, C0, slen, s14.le0.t hlt, (sAC3.trans s4') _ _ List.not_mem_nil ebd, vals, fun q2 C5 kv2 bk2 hq2 s5' eq2 kvq2 du => ?_⟩
        refine .inr ⟨fq, q2, kvf, kv2, rfl, rfl, book_eq bo du tb0.back tb0.on nds (fun n => (bq n).symm) nms (s5' _ _ List.not_mem_nil efq) (KVs.le mono_TS s5'.le0 kvq) eq2 kvq2, ?_⟩
        walk_at "rd"
        have s15 := s14.trans s5'
        have s45' := s4'.trans s5'
        have efq5 := s5' _ _ List.not_mem_nil efq
        have kvq5 := KVs.le mono_TS s5'.le0 kvq
        refine ⟨x, fq, hands, n0, tbl, kvf, bf, rfl, wa.le s15.le0, efq5, kvq5, bo.g, fun C6 s6' => ?_⟩
        walk_at "rd"
        refine ⟨true, true, rfl, rfl, ?_⟩
        walk_at "rd"
        refine x_false (by rfl) ?_
        walk_at "rd"
        have s16 := s15.trans s6'
        refine ⟨x, y, lv, fq, hands, n0, tbl, tb, (3 : Int), cm, fa, fb, kvf, bf, rfl, wa.le s16.le0, wi.sx s16, sqT (s16 _ _ List.not_mem_nil elv), to, tw, fr, s6' _ _ List.not_mem_nil efq5, KVs.le mono_TS s6'.le0 kvq5, bo.g, fun r hr2 C7 s7' => ?_⟩
        walk_at "rd"
        have : r = true := hr2.mpr (free_keeps to bo hs)
        subst this
        refine ⟨true, true, rfl, rfl, ?_⟩
        walk_at "rd"
        refine x_false (by rfl) ?_
        walk_at "rd"
        have s17 := s16.trans s7'
        have s67 := s6'.trans s7'
        have efq7 := s67 _ _ List.not_mem_nil efq5
        have kvq7 := KVs.le mono_TS s67.le0 kvq5
        have s37 := s45'.trans s67
        refine ⟨x, y, lv, bd, hands, n0, tbl, tb, (3 : Int), cm, fa, fb, kvb, bk, rfl, wa.le s17.le0, wi.sx s17, sqT (s17 _ _ List.not_mem_nil elv), to, tw, fr, s17 _ _ List.not_mem_nil bdG, KVs.le mono_TS s17.le0 kvbG, bgT, fun kp rp C8 ys' hrp s8' erp ynd ysrt yR => ?_, fun np C8 s8' => ?_⟩
        · walk_at "rd"
          refine x_true (by rfl) ?_
          have s18 := s17.trans s8'
          have nbR : ∀ n, LetR tbl bk n0 n → ¬ BadP (belowP tb fa fb) ns tbl n := fun n r b => by
            obtain ⟨m, r1, hf, hb⟩ := bad_reach bgT ownT ndt b r
            exact kp m r1 hf hb
          have good : ∀ n ∈ ys', ∃ st, lookA st2 n = some st ∧ (letS bk n st).length ≤ 100 ∧ (moverIn ns st = true → ∃ l, lookA bf n = some l ∧ ∀ z ∈ letS bk n st, z ∈ l) := fun n hn => by
            have r := (yR n).mp hn
            obtain ⟨st', e'⟩ := lookA_some (r.key to)
            obtain ⟨st, e, ss⟩ := tb0.back n st' e'
            obtain ⟨_, csz, _⟩ := C0.all _ (lookA_mem e)
            have csz : st.size ≤ 4 := csz
            have lets : ∀ z ∈ letS bk n st, z ∈ letS bk n st' := fun z hz => by
              unfold letS at hz ⊢
              cases el : lookA bk n with
              | some l' =>
                rw [el] at hz
                exact hz
              | none =>
                rw [el] at hz
                exact ((SrtStand.rows ss).map (·.1)).mem_iff.mpr hz
            refine ⟨st, e, ?_, fun m => ?_⟩
            · unfold letS
              cases el : lookA bk n with
              | some l' =>
                obtain ⟨_, _, _, _, h4, _⟩ := bgS.each _ (lookA_mem el)
                have h4 : l'.length ≤ 4 := h4
                show l'.length ≤ 100
                omega
              | none =>
                show (st.rows.map (·.1)).length ≤ 100
                rw [List.length_map, rows_tos_len, tos_len]
                omega
            · obtain ⟨l', el'⟩ := lookA_some (bo.all n st' e' (by rw [srt_mover ss]; exact m) (nbR n r))
              refine ⟨l', el', fun z hz => ?_⟩
              obtain ⟨st2, e2, _, _, _, _, _, mm⟩ := bo.each _ (lookA_mem el')
              rw [e'] at e2
              cases e2
              obtain ⟨u, eu⟩ := bgT.let_rows e' (lets z hz)
              exact (mm z).mpr ⟨u, eu, nbR u (.step r e' (lets z hz) eu)⟩
          have efq8 := s8' _ _ List.not_mem_nil efq7
          walk_at "rd"
          refine ⟨d2, lt, bd, fq, rp, st2, ns, kvb, kvf, bk, bf, ys', rfl, mono_D (mono_stand K) _ _ _ _ s18.le0 hd, s18.le0.t hlt, s18 _ _ List.not_mem_nil bdG, KVs.le mono_TS s18.le0 kvbG, efq8, KVs.le mono_TS s8'.le0 kvq7, erp, good, fun C9 s9' => ?_⟩
          walk_at "rd"
          refine ⟨.inr (.inr (.inl ⟨rfl, .inl ⟨kvf, (s9' _ _ List.not_mem_nil efq8)⟩⟩)), ?_⟩
          walk_at "rd"
          refine ⟨fq, kvf, rfl, rfl, (s9' _ _ List.not_mem_nil efq8), ?_⟩
          have sE : SX [] C3 (upd C9 fq (.dK [])) := sx_nil_of (S := [fq]) ((nil_sx ((s37.trans s8').trans s9')).trans (SX.mut List.mem_cons_self)) (by simp [hfq])
          generalize upd C9 fq (.dK []) = E0 at sE
          have s13E := s13.trans sE
          walk_at "rd"
          refine ⟨x, y, lt, lv, hands, n0, tbl, tb, (3 : Int), cm, ns, fa, fb, rfl, wa.le s13E.le0, wi.sx s13E, s13E.le0.t hlt, sqT (s13E _ _ List.not_mem_nil elv), to, tw, lok, fr, fun bb => absurd bb hs, fun _ fq2 E1 kvf2 bf2 hfq2 s14 efq2 kvq2' bo2 => ?_⟩
          walk_at "rd"
          have s15 := s13E.trans s14
          refine ⟨d2, lt, bdd, st2, ns, kb, fun n => BadP (belowP l fa fb) ns st2 n, rfl, mono_D (mono_stand K) _ _ _ _ s15.le0 hd, C0, slen, s15.le0.t hlt, ((sAC3.trans sE).trans s14) _ _ List.not_mem_nil ebd, vals, fun q3 E2 kv3 bk3 hq3 s16 eq3 kvq3 du3 => ?_⟩
          refine .inr ⟨fq2, q3, kvf2, kv3, rfl, rfl, book_eq bo2 du3 tb0.back tb0.on nds (fun n => (bq n).symm) nms (s16 _ _ List.not_mem_nil efq2) (KVs.le mono_TS s16.le0 kvq2') eq3 kvq3, ?_⟩
          exact k _
        · walk_at "rd"
          refine x_false (by rfl) ?_
          walk_at "rd"
          refine ⟨.inr (.inr (.inl ⟨rfl, .inl ⟨kvf, (s8' _ _ List.not_mem_nil efq7)⟩⟩)), ?_⟩
          walk_at "rd"
          refine ⟨fq, kvf, rfl, rfl, (s8' _ _ List.not_mem_nil efq7), ?_⟩
          have sE : SX [] C3 (upd C8 fq (.dK [])) := sx_nil_of (S := [fq]) ((nil_sx (s37.trans s8')).trans (SX.mut List.mem_cons_self)) (by simp [hfq])
          generalize upd C8 fq (.dK []) = E0 at sE
          have s13E := s13.trans sE
          walk_at "rd"
          refine ⟨x, y, lt, lv, hands, n0, tbl, tb, (3 : Int), cm, ns, fa, fb, rfl, wa.le s13E.le0, wi.sx s13E, s13E.le0.t hlt, sqT (s13E _ _ List.not_mem_nil elv), to, tw, lok, fr, fun bb => absurd bb hs, fun _ fq2 E1 kvf2 bf2 hfq2 s14 efq2 kvq2' bo2 => ?_⟩
          walk_at "rd"
          have s15 := s13E.trans s14
          refine ⟨d2, lt, bdd, st2, ns, kb, fun n => BadP (belowP l fa fb) ns st2 n, rfl, mono_D (mono_stand K) _ _ _ _ s15.le0 hd, C0, slen, s15.le0.t hlt, ((sAC3.trans sE).trans s14) _ _ List.not_mem_nil ebd, vals, fun q3 E2 kv3 bk3 hq3 s16 eq3 kvq3 du3 => ?_⟩
          refine .inr ⟨fq2, q3, kvf2, kv3, rfl, rfl, book_eq bo2 du3 tb0.back tb0.on nds (fun n => (bq n).symm) nms (s16 _ _ List.not_mem_nil efq2) (KVs.le mono_TS s16.le0 kvq2') eq3 kvq3, ?_⟩
          exact k _
  · have ok2 := ok
    have p6 := p5
    have z16 := z15
    have z36 : SX [p] H3 H5 := nil_sx s45
    have rdp6 : rD (rStand K) (hid [p] H5) (.ref d) sts := by
      obtain ⟨_, _, _, _, e, _⟩ := id p6
      exact stands_hid e (mono_D (mono_stand K) _ _ _ _ x15.le0 rd)
    walk_at "rd"
    have C0 := ok2.closed
    have slen := ok2.len.2
    have hnempty : ∀ q ∈ sts, isEnd q.2 = false → 1 ≤ q.2.size := fun q hq he => by
      have so := (ok2.all q hq).2
      generalize q.2 = st at so he
      cases st with
      | fin => cases he
      | hand h ms => exact so.2.2.1
      | chance ds => exact so.1
    refine ⟨p, d, sts, rfl, p6, rdp6, ok2.nd, by omega, fun wd H7 l hwd s7 p7 ⟨kw, ewd, kwk⟩ _ perm lnd lb => ?_⟩
    walk_at "rd"
    have nwp : wd ≠ p := fun e => p6.there (e ▸ hwd)
    have nwp' : wd ∉ [p] := by simpa using nwp
    have kl : kw.length = l.length := Paired.length kwk
    have z17 := z16.trans s7
    have ll : l.length ≤ 100 := by
      have h1 := perm.length_eq
      rw [List.length_map] at h1
      have h2 := endsOf_len sts
      omega
    refine x_lenD (.inl ewd) ?_
    walk_at "rd"
    rw [kl]
    by_cases l1 : 0 < l.length
    · refine x_true (decide_eq_true (by omega)) ?_
      walk_at "rd"
      refine ⟨p, wd, l, rfl, p7, nwp, ⟨wd, kw, rfl, .inl ewd, kwk⟩, lnd, l1, by omega, lb, fun e H8 s8 p8 e0 e1 way => ?_⟩
      have ewd8 := s8 _ _ nwp' ewd
      have z18 := z17.trans s8
      have s78 := s8
      walk_at "rd"
      refine ⟨p, wd, l, e, rfl, p8, nwp, ⟨wd, kw, rfl, .inl ewd8, kwk⟩, lnd, by omega, (fun z hz => by have := lb z hz; omega), by omega, by omega, fun lv H9 fa fb hlv s9 p9 elv fr a0 a1 b1 => ?_⟩
      walk_at "rd"
      have z19 := z18.trans s9
      have x19 : SX [] H1 H9 := sx_nil_of (S := [p]) z19 hpn
      have elt9 : H9 lt = some (.tup (ns.map V.int)) := (((z36.trans s7).trans s8).trans s9) _ _ (by simpa using nlp) elt
      have rd9 : rD (rStand K) H9 (.ref d) sts := mono_D (mono_stand K) _ _ _ _ ((((s7.trans s78).trans s9)).leH) rdp6
      refine ⟨a, ns0, 3, rfl, (s1.trans x19).le0.l ha, hlen, by decide, by decide, fun px H10 hpx s10 p10 => ?_⟩
      have hpx' : ∀ b ∈ [px], H9 b = none := fun b hb => by cases List.mem_singleton.mp hb; exact hpx
      walk_at "rd"
      refine ⟨px, d, sts, rfl, p10, mono_D (mono_stand K) _ _ _ _ (le_into s10.le0 hpx') rd9, C0, slen, hnempty, fun dr H11 kvd bkd hdr s11 _ edr kvdr bgd => ?_⟩
      walk_at "rd"
      have z911 : SX [] H9 H11 := sx_nil_of (S := [px]) ((nil_sx s10).trans s11) hpx'
      intro bd hbd
      walk_at "rd"
      have s12 : SX [] H11 (upd H11 bd (.dK [])) := SX.new hbd
      have bd12 : (upd H11 bd (.dK [])) bd = some (.dK []) := upd_same
      generalize upd H11 bd (.dK []) = H12 at s12 bd12
      have edr12 := s12 _ _ List.not_mem_nil edr
      have nbd : bd ≠ dr := fun e => by rw [← e, hbd] at edr; cases edr
      refine x_lockR (.inl edr12) fun od HL eL ne => ?_
      have leL : Le H9 HL := (z911.trans s12).le0.trans (lock_le (.inl edr12) eL ne)
      have hbd' : ∀ b ∈ [bd], H9 b = none := fun b hb => by cases List.mem_singleton.mp hb; exact z911.free hbd List.not_mem_nil
      have kvdL : KVs rTS HL kvd bkd := KVs.le mono_TS (s12.le0.trans (lock_le (.inl edr12) eL ne)) kvdr
      walk_at "rd"
      refine x_itk eL ?_
      refine for_it (walk_keysR kvdr) (fun i σ A => SX [bd] HL A ∧ ∃ (kv : List (Key × V)) (bk : List (Str × List Str)) (c : Option V), A bd = some (.dK kv) ∧ KVs rTS (hid [bd] A) kv bk ∧ (∀ n ∈ bk.map (·.1), n ∈ (bkd.map (·.1)).take i) ∧ (bk.map (·.1)).Nodup ∧ (∀ q ∈ bk, q ∈ bkd ∧ ∀ st, lookA sts q.1 = some st → moverIn ns st = true) ∧
          σ = [some (.ref a), some (.int hands), some (.ref nl), some (.ref d), some (.ref p), some (.ref lt), some (.ref wd), some (.int e), some (.ref lv), some (.ref dr), some (.ref bd), c, none, none, none, none, none, none])
        ⟨SX.refl _, [], [], none, by rw [ne _ nbd]; exact bd12, .nil, (fun _ h => nomatch h), List.nodup_nil, (fun _ h => nomatch h), rfl⟩ (fun _ _ _ _ h => h.1 _ _ (by simpa using Ne.symm nbd) eL) ?_ ?_
      · rintro i z σ A0 A hi ⟨sA, kv, bk, c, dA, kA, kI, nA, eA, rfl⟩ ⟨rfl, z, v0, hz, rfl, _⟩
        have hz1 : (bkd.map (·.1))[i]? = some z.1 := by rw [List.getElem?_map, hz]; rfl
        obtain ⟨vv, e2, t, rfl, ht⟩ := kvdL.in_ bgd.nd (getMem hz)
        obtain ⟨h0', ms0, est0, _⟩ := bgd.each z (getMem hz)
        have lA : Le H9 A := ((le_into leL hbd').trans sA.le).trans le_hid
        have rdA : Rd A dr (.dK kvd) := .inr ⟨od, sA _ _ (by simpa using Ne.symm nbd) eL⟩
        have nextI : ∀ m ∈ (bkd.map (·.1)).take i, m ∈ (bkd.map (·.1)).take (i + 1) := fun m hm => by rw [take_succ_of hz1]; exact List.mem_append_left _ hm
        have bkl : bkd.length ≤ 100 := by
          have := nodup_sub bgd.nd (m := sts.map (·.1)) fun n hn => by
            obtain ⟨q, hq, rfl⟩ := List.mem_map.mp hn
            obtain ⟨_, _, e, _⟩ := bgd.each q hq
            exact key_of' e
          rw [List.length_map, List.length_map] at this
          omega
        walk_at "rd"
        refine ⟨d, z.1, sts, _, rfl, mono_D (mono_stand K) _ _ _ _ lA rd9, est0, ?_⟩
        walk_at "rd"
        refine ⟨lt, _, rfl, .inr (lA.t (sqT elt9)), rfl, flat_ints ns, ?_⟩
        rw [inV_mover]
        walk_at "rd"
        refine x_cases (fun c5 => ?_) (fun c5 => ?_)
        · walk_at "rd"
          refine x_dg' rdA e2 ?_
          walk_at "rd"
          have kl : kv.length = bk.length := Paired.length kA
          have bl : bk.length ≤ 100 := by
            have := nodup_sub nA fun n hn => List.mem_of_mem_take (kI n hn)
            rw [List.length_map, List.length_map] at this
            omega
          refine ⟨bd, _, rfl, DPut.k (k := Sum.inr z.1) dA (lt_size (by omega)), ?_⟩
          have fr2 : z.1 ∉ bk.map (·.1) := fun h => nodup_take bgd.nd hz1 (kI _ h)
          rw [putK_fresh _ kA.keys fr2]
          have le1 : Le (hid [bd] A) (hid [bd] (upd A bd (.dK (kv ++ [(Sum.inr z.1, V.ref t)])))) := (SX.mut List.mem_cons_self).le
          have htA : A t = some (.tup (z.2.map V.str)) := sA _ _ (by
            intro m
            have := List.mem_singleton.mp m
            rw [this, ne _ nbd, bd12] at ht
            cases ht) ht
          have ntb : t ≠ bd := ne_of htA dA (by intro z; cases z)
          refine ⟨sA.trans (SX.mut List.mem_cons_self), _, bk ++ [z], _, upd_same, Paired.app (KVs.le mono_TS le1 kA) (.cons ⟨rfl, t, rfl, ?_⟩ .nil), fun m hm => ?_, ?_, fun q hq => ?_, rfl⟩
          · rw [hid_of (by simpa using ntb), upd_ne ntb]
            exact htA
          · rw [List.map_append] at hm
            rcases List.mem_append.mp hm with h | h
            · exact nextI m (kI m h)
            · cases List.mem_singleton.mp h
              rw [take_succ_of hz1]
              exact List.mem_append_right _ List.mem_cons_self
          · rw [List.map_append]
            exact nd_snoc nA fr2
          · rcases List.mem_append.mp hq with h | h
            · exact eA q h
            · cases List.mem_singleton.mp h
              refine ⟨getMem hz, fun st e => ?_⟩
              rw [est0] at e
              cases e
              simpa using c5
        · walk_at "rd"
          exact ⟨sA, kv, bk, _, dA, kA, fun m hm => nextI m (kI m hm), nA, eA, rfl⟩
      rintro σ A ⟨sA, kvb, bk, c, dA, kA, _, nA, eA, rfl⟩
      have eLA := sA _ _ (by simpa using Ne.symm nbd) eL
      refine ⟨eLA, ?_⟩
      have sWB : SX [] H9 (put A dr (H12 dr)) := z911.trans (sx_nil_of (S := [bd]) ((nil_sx s12).trans (unlock_sx ne sA)) (by simp [hbd]))
      have bdB : (put A dr (H12 dr)) bd = some (.dK kvb) := by rw [put_ne nbd]; exact dA
      have kvbB : KVs rTS (put A dr (H12 dr)) kvb bk := KVs.le mono_TS (le_hid.trans (unlock_le (.inl edr12) eLA)) kA
      generalize put A dr (H12 dr) = B at sWB bdB kvbB
      have bgS : BookG sts bk := ⟨nA, fun q hq => bgd.each q (eA q hq).1⟩
      have ownS : ∀ m ∈ bk.map (·.1), ∀ st, lookA sts m = some st → moverIn ns st = true := fun m hm st e => by
        obtain ⟨q, hq, rfl⟩ := List.mem_map.mp hm
        exact (eA q hq).2 st e
      clear sA dA kA eL ne leL eLA kvdL edr12 s12 bd12
      have an0 : atI (names.map V.str) 0 = some (.str n0) := atI_nat (j := 0) (by rw [List.getElem?_map, hn0]; rfl)
      have xB : SX [] H1 B := x19.trans sWB
      have wok : WishOk l e := ⟨lnd, ll, (fun z hz => by
        have m := endsOf_sub (perm.mem_iff.mp (List.mem_map.mpr ⟨z, hz, rfl⟩))
        obtain ⟨y, hy, ey⟩ := List.mem_map.mp m
        have := (ok2.all y hy).1
        rw [ey] at this
        have b := lb z hz
        exact ⟨this, by omega, by omega⟩), by omega, by omega, way⟩
      walk_at "rd"
      show tCons _ _ _ _ _
      walk_at "rd"
      refine x_ixL (sqL (xB _ _ List.not_mem_nil enl)) an0 ?_
      walk_at "rd"
      intro x dx hx hdx ndx
      have t6 : SX [] B (upd (upd B dx (.own x)) x (.ins T.a_Work dx [])) := (SX.new hdx).trans (SX.new (by rw [upd_ne (Ne.symm ndx)]; exact hx))
      have hx' : ∀ b ∈ [x], B b = none := fun b hb => by cases List.mem_singleton.mp hb; exact hx
      have rdB := mono_D (mono_stand K) _ _ _ _ sWB.le0 rd9
      refine ⟨x, dx, .ref d, hands, n0, sts, rfl, upd_same, mono_D (mono_stand K) _ _ _ _ (le_into t6.le0 hx') rdB, ok2, fun B1 tbl sx wa0 tb0 => ⟨rfl, ?_⟩⟩
      have tB1 : SX [] B B1 := sx_nil_of (S := [x]) ((nil_sx t6).trans sx) hx'
      have to : TbOk n0 tbl := TbOk.of ok2 tb0
      walk_at "rd"
      show tCons _ _ _ _ _
      walk_at "rd"
      intro y dy hy hdy ndy
      have t7 : SX [] B1 (upd (upd B1 dy (.own y)) y (.ins T.a_Wish dy [])) := (SX.new hdy).trans (SX.new (by rw [upd_ne (Ne.symm ndy)]; exact hy))
      have ewdB1 := (sWB.trans tB1) _ _ List.not_mem_nil (s9 _ _ nwp' ewd8)
      refine ⟨y, dy, wd, l, kw, e, rfl, upd_same, t7 _ _ List.not_mem_nil ewdB1, kwk, wok, fun G tb sy wi srt => ⟨rfl, ?_⟩⟩
      have tG1 : SX [] B1 G := sx_nil_of (S := [y]) ((nil_sx t7).trans sy) (by simp [hy])
      have tw : TwOk tbl tb := ⟨ends_tbl ok2 tb0 perm srt, fun q hq => (wok.all q (srt.perm.mem_iff.mp hq)).2⟩
      have bq : ∀ n : Str, BadP (belowP tb fa fb) ns tbl n ↔ BadP (belowP l fa fb) ns sts n := fun n => bad_iff ok2 tb0 wok.nd srt
      generalize decide (∀ z ∈ l, e ≤ z.2) = cm at wi
      have sBG : SX [] B G := tB1.trans tG1
      have sWG : SX [] H9 G := sWB.trans sBG
      have x1G : SX [] H1 G := x19.trans sWG
      have wa := wa0.le tG1.le0
      have hd := mono_D (mono_stand K) _ _ _ _ sWG.le0 rd9
      have hlt := sWG.le0.t (sqT (K := K) elt9)
      have elv := sWG _ _ List.not_mem_nil elv
      have ewdG := tG1 _ _ List.not_mem_nil ewdB1
      have bdG := sBG _ _ List.not_mem_nil bdB
      have kvbG := KVs.le mono_TS sBG.le0 kvbB
      have enlG := x1G _ _ List.not_mem_nil enl
      obtain ⟨d', kvs0, ed0, hrd, hk⟩ := id hd
      cases ed0
      have bgT : BookG tbl bk := bgS.srt tb0.on
      have nds : ∀ n st, lookA sts n = some st → st.nd := fun n st e => ((ok2.all _ (lookA_mem e)).2).nd
      have nms : ∀ n st, lookA sts n = some st → ∀ s ∈ st.rows.map (·.1), nameB s = true := fun n st e s hs => rows_name2 (ok2.all _ (lookA_mem e)).2 hs
      have ndt : ∀ n st, lookA tbl n = some st → st.nd := fun n st e => (to.look e).1
      have ownT : ∀ m ∈ bk.map (·.1), ∀ st, lookA tbl m = some st → moverIn ns st = true := fun m hm st e => by
        obtain ⟨st', e', ss⟩ := tb0.back m st e
        rw [srt_mover ss]
        exact ownS m hm st' e'
      walk_at "rd"
      refine ⟨d, wd, lt, lv, sts, l, ns, fa, fb, rfl, hd, C0, slen, ⟨wd, kw, rfl, .inl ewdG, kwk⟩, fun n => perm.mem_iff, fun q hq => (wok.all q hq).2, hlt, sqT elv, fun bdd A kb hbdd sA ebd vals => ?_⟩
      walk_at "rd"
      have sH : SX [] G G := SX.refl _
      refine ⟨x, y, lt, lv, hands, n0, tbl, tb, e, cm, ns, fa, fb, rfl, wa.le (sH.trans sA).le0, wi.sx sA, (sH.trans sA).le0.t hlt, (sqT (sA _ _ List.not_mem_nil elv)), to, tw, lok, fr, fun sq A1 sf hsq t1 esq snd spw sif => ?_⟩
      walk_at "rd"
      refine x_isiT (.base (.lst esq)) (by decide +kernel) ?_
      walk_at "rd"
      refine x_sortD (((sH.trans sA).trans t1).le0.rd _ _ trivial hrd) hk.keys fun ys py hpy hsy np => ?_
      have ty : SX [] A1 (upd A1 py (.lst (ys.map V.str))) := SX.new np
      refine x_itl (sqL upd_same) fun D hD => ?_
      have y1 : (upd A1 py (.lst (ys.map V.str))) py = some (.lst (ys.map V.str)) := upd_same
      generalize upd A1 py (.lst (ys.map V.str)) = A2 at ty y1 hD
      have ysl : ys.length ≤ 100 := by
        rw [hpy.length_eq, List.length_map]
        exact slen
      refine lc_it (walk_listR (R := rS) (Hb := H) (paired_S' ys)) (fun m C => SX [] A2 C ∧ ∃ zs : List Str, C D = some (.lst (zs.map V.str)) ∧ zs.Sublist (ys.take m) ∧ ∀ z ∈ ys.take m, z ∈ zs ↔ ¬ BadP (belowP tb fa fb) ns tbl z) ⟨SX.new hD, [], upd_same, .slnil, (fun _ h => nomatch h)⟩ (fun m C _ h => sqL (h.1 _ _ List.not_mem_nil y1)) ?_ ?_
      · rintro m w0 C0 C hm ⟨u1, zs, u2, sub, mem⟩ ⟨rfl, z, hz, rfl⟩
        obtain ⟨g, eg, hg⟩ := vals z (hpy.mem_iff.mp (getMem hz))
        rw [← bq] at hg
        have fz : z ∉ ys.take m := nodup_take (hpy.nodup_iff.mpr ok2.nd) hz
        have zl : zs.length ≤ 100 := by
          have := sub.length_le
          rw [List.length_take] at this
          omega
        walk_at "rd"
        refine ⟨rfl, ?_⟩
        walk_at "rd"
        refine x_dg' (.inl (((t1.trans ty).trans u1) _ _ List.not_mem_nil ebd)) eg ?_
        walk_at "rd"
        cases g with
        | true =>
          walk_at "rd"
          refine ⟨u1, zs, u2, by rw [take_succ_of hz]; exact sub.trans (List.sublist_append_left _ _), fun z' hz' => ?_⟩
          rw [take_succ_of hz] at hz'
          rcases List.mem_append.mp hz' with h | h
          · exact mem z' h
          · cases List.mem_singleton.mp h
            exact ⟨fun h2 => absurd (sub.mem h2) fz, fun h2 => absurd (hg.mp rfl) h2⟩
        | false =>
          walk_at "rd"
          refine ⟨_, u2, lt_size (by rw [List.length_map]; omega), sx_nil_of (S := [D]) ((nil_sx u1).trans (SX.mut List.mem_cons_self)) (by simp [hD]), zs ++ [z], by rw [upd_same, List.map_append]; rfl, by rw [take_succ_of hz]; exact sub.append (.refl _), fun z' hz' => ?_⟩
          rw [take_succ_of hz] at hz'
          rcases List.mem_append.mp hz' with h | h
          · rw [List.mem_append, ← mem z' h]
            refine ⟨fun h2 => h2.resolve_right fun h3 => ?_, .inl⟩
            rw [List.mem_singleton.mp h3] at h
            exact fz h
          · cases List.mem_singleton.mp h
            exact ⟨(fun _ h2 => by have := hg.mpr h2; cases this), fun _ => List.mem_append_right _ List.mem_cons_self⟩
      rintro C ⟨u1, zs, u2, sub, mem⟩
      rw [List.take_length] at sub mem
      have ezs : sf = zs := by
        refine List.Perm.eq_of_pairwise (fun a b _ _ h1 h2 => leS_antisymm h1 h2) spw ((sortedS_pw hsy).sublist sub) ((List.perm_ext_iff_of_nodup snd (List.Nodup.sublist sub (hpy.nodup_iff.mpr ok2.nd))).mpr fun z => ?_)
        rw [sif]
        constructor
        · rintro ⟨h1, h2⟩
          exact (mem z (hpy.mem_iff.mpr (tb0.perm.mem_iff.mp h1))).mpr h2
        · intro h
          have h1 := sub.mem h
          exact ⟨tb0.perm.mem_iff.mpr (hpy.mem_iff.mp h1), (mem z h1).mp h⟩
      subst ezs
      have tC : SX [] A1 C := ty.trans u1
      have oksf : ∀ v ∈ sf.map V.str, okV v = true := okS_of fun s hs => to.nm s ((sif s).mp hs).1
      refine x_neSame (sqL (tC _ _ List.not_mem_nil esq)) (sqL u2) oksf ?_
      have sC : SX [] G C := (sA.trans t1).trans tC
      walk_at "rd"
      have esC := tC _ _ List.not_mem_nil esq
      refine ⟨.inl ⟨rfl, _, sqL esC⟩, ?_⟩
      walk_at "rd"
      refine ⟨sq, _, _, rfl, rfl, esC, lt_size ?_, ?_⟩
      · have := nodup_sub snd fun n hn => ((sif n).mp hn).1
        rw [List.length_map] at this
        rw [List.length_map]
        have := to.len
        omega
      have sAC2 : SX [] A (upd C sq (.lst (sf.map V.str ++ [.str "zz"]))) := sx_nil_of (S := [sq]) (((nil_sx t1).trans (nil_sx tC)).trans (SX.mut List.mem_cons_self)) (by simp [hsq])
      generalize upd C sq (.lst (sf.map V.str ++ [.str "zz"])) = C2 at sAC2
      have sGC2 := sA.trans sAC2
      walk_at "rd"
      refine x_ixL (sqL (sGC2 _ _ List.not_mem_nil enlG)) an0 ?_
      walk_at "rd"
      refine ⟨x, d, hands, n0, lt, wd, e, lv, sts, tbl, l, kw, ns, fa, fb, rfl, wa.le sGC2.le0, tb0, ok2, mono_D (mono_stand K) _ _ _ _ sGC2.le0 hd, sGC2.le0.t hlt, lok, sGC2 _ _ List.not_mem_nil ewdG, kwk, wok, perm, sGC2 _ _ List.not_mem_nil elv, fr, fun C3 s3' => ?_⟩
      walk_at "rd"
      have s13 := sGC2.trans s3'
      have sAC3 := sAC2.trans s3'
      obtain ⟨g, eg, hg⟩ := vals n0 ok2.st
      rw [← bq] at hg
      by_cases hs : BadP (belowP tb fa fb) ns tbl n0
      · refine ⟨x, y, lt, lv, hands, n0, tbl, tb, e, cm, ns, fa, fb, rfl, wa.le s13.le0, wi.sx s13, s13.le0.t hlt, sqT (s13 _ _ List.not_mem_nil elv), to, tw, lok, fr, fun _ C4 s4' => ?_, fun nb => absurd hs nb⟩
        walk_at "rd"
        have s14 := s13.trans s4'
        refine x_ixL (sqL (s14 _ _ List.not_mem_nil enlG)) an0 ?_
        refine x_dg' (.inl ((sAC3.trans s4') _ _ List.not_mem_nil ebd)) eg ?_
        have : g = true := hg.mpr hs
        subst this
        walk_at "rd"
        refine x_true (by rfl) ?_
        walk_at "rd"
        refine ⟨x, y, lv, bd, hands, n0, tbl, tb, e, cm, fa, fb, kvb, bk, rfl, wa.le s14.le0, wi.sx s14, sqT (s14 _ _ List.not_mem_nil elv), to, tw, fr, s14 _ _ List.not_mem_nil bdG, KVs.le mono_TS s14.le0 kvbG, bgT, fun r hr2 C5 s5' => ?_⟩
        walk_at "rd"
        have : r = false := by
          rw [← Bool.not_eq_true]
          intro h
          obtain ⟨m, r1, hf, hb⟩ := bad_reach bgT ownT ndt hs .base
          exact hr2.mp h m r1 hf hb
        subst this
        refine ⟨false, false, rfl, rfl, ?_⟩
        exact k _
      · refine ⟨x, y, lt, lv, hands, n0, tbl, tb, e, cm, ns, fa, fb, rfl, wa.le s13.le0, wi.sx s13, s13.le0.t hlt, sqT (s13 _ _ List.not_mem_nil elv), to, tw, lok, fr, fun bb => absurd bb hs, fun _ fq C4 kvf bf hfq s4' efq kvq bo => ?_⟩
        walk_at "rd"
        have s14 := s13.trans s4'
        refine x_ixL (sqL (s14 _ _ List.not_mem_nil enlG)) an0 ?_
        refine x_dg' (.inl ((sAC3.trans s4') _ _ List.not_mem_nil ebd)) eg ?_
        have : g = false := by
          rw [← Bool.not_eq_true]
          intro h
          exact hs (hg.mp h)
        subst this
        walk_at "rd"
        refine x_isiT (ty_dict (.inl efq)) (by decide +kernel) ?_
        walk_at "rd"
        refine ⟨d, lt, bdd, sts, ns, kb, fun n => BadP (belowP l fa fb) ns sts n, rfl, mono_D (mono_stand K) _ _ _ _ s14.le0 hd, C0, slen, s14.le0.t hlt, (sAC3.trans s4') _ _ List.not_mem_nil ebd, vals, fun q2 C5 kv2 bk2 hq2 s5' eq2 kvq2 du => ?_⟩
        refine .inr ⟨fq, q2, kvf, kv2, rfl, rfl, book_eq bo du tb0.back tb0.on nds (fun n => (bq n).symm) nms (s5' _ _ List.not_mem_nil efq) (KVs.le mono_TS s5'.le0 kvq) eq2 kvq2, ?_⟩
        walk_at "rd"
        have s15 := s14.trans s5'
        have s45' := s4'.trans s5'
        have efq5 := s5' _ _ List.not_mem_nil efq
        have kvq5 := KVs.le mono_TS s5'.le0 kvq
        refine ⟨x, fq, hands, n0, tbl, kvf, bf, rfl, wa.le s15.le0, efq5, kvq5, bo.g, fun C6 s6' => ?_⟩
        walk_at "rd"
        refine ⟨true, true, rfl, rfl, ?_⟩
        walk_at "rd"
        refine x_false (by rfl) ?_
        walk_at "rd"
        have s16 := s15.trans s6'
        refine ⟨x, y, lv, fq, hands, n0, tbl, tb, e, cm, fa, fb, kvf, bf, rfl, wa.le s16.le0, wi.sx s16, sqT (s16 _ _ List.not_mem_nil elv), to, tw, fr, s6' _ _ List.not_mem_nil efq5, KVs.le mono_TS s6'.le0 kvq5, bo.g, fun r hr2 C7 s7' => ?_⟩
        walk_at "rd"
        have : r = true := hr2.mpr (free_keeps to bo hs)
        subst this
        refine ⟨true, true, rfl, rfl, ?_⟩
        walk_at "rd"
        refine x_false (by rfl) ?_
        walk_at "rd"
        have s17 := s16.trans s7'
        have s67 := s6'.trans s7'
        have efq7 := s67 _ _ List.not_mem_nil efq5
        have kvq7 := KVs.le mono_TS s67.le0 kvq5
        have s37 := s45'.trans s67
        refine ⟨x, y, lv, bd, hands, n0, tbl, tb, e, cm, fa, fb, kvb, bk, rfl, wa.le s17.le0, wi.sx s17, sqT (s17 _ _ List.not_mem_nil elv), to, tw, fr, s17 _ _ List.not_mem_nil bdG, KVs.le mono_TS s17.le0 kvbG, bgT, fun kp rp C8 ys' hrp s8' erp ynd ysrt yR => ?_, fun np C8 s8' => ?_⟩
        · walk_at "rd"
          refine x_true (by rfl) ?_
          have s18 := s17.trans s8'
          have nbR : ∀ n, LetR tbl bk n0 n → ¬ BadP (belowP tb fa fb) ns tbl n := fun n r b => by
            obtain ⟨m, r1, hf, hb⟩ := bad_reach bgT ownT ndt b r
            exact kp m r1 hf hb
          have good : ∀ n ∈ ys', ∃ st, lookA sts n = some st ∧ (letS bk n st).length ≤ 100 ∧ (moverIn ns st = true → ∃ l, lookA bf n = some l ∧ ∀ z ∈ letS bk n st, z ∈ l) := fun n hn => by
            have r := (yR n).mp hn
            obtain ⟨st', e'⟩ := lookA_some (r.key to)
            obtain ⟨st, e, ss⟩ := tb0.back n st' e'
            obtain ⟨_, csz, _⟩ := C0.all _ (lookA_mem e)
            have csz : st.size ≤ 4 := csz
            have lets : ∀ z ∈ letS bk n st, z ∈ letS bk n st' := fun z hz => by
              unfold letS at hz ⊢
              cases el : lookA bk n with
              | some l' =>
                rw [el] at hz
                exact hz
              | none =>
                rw [el] at hz
                exact ((SrtStand.rows ss).map (·.1)).mem_iff.mpr hz
            refine ⟨st, e, ?_, fun m => ?_⟩
            · unfold letS
              cases el : lookA bk n with
              | some l' =>
                obtain ⟨_, _, _, _, h4, _⟩ := bgS.each _ (lookA_mem el)
                have h4 : l'.length ≤ 4 := h4
                show l'.length ≤ 100
                omega
              | none =>
                show (st.rows.map (·.1)).length ≤ 100
                rw [List.length_map, rows_tos_len, tos_len]
                omega
            · obtain ⟨l', el'⟩ := lookA_some (bo.all n st' e' (by rw [srt_mover ss]; exact m) (nbR n r))
              refine ⟨l', el', fun z hz => ?_⟩
              obtain ⟨st2, e2, _, _, _, _, _, mm⟩ := bo.each _ (lookA_mem el')
              rw [e'] at e2
              cases e2
              obtain ⟨u, eu⟩ := bgT.let_rows e' (lets z hz)
              exact (mm z).mpr ⟨u, eu, nbR u (.step r e' (lets z hz) eu)⟩
          have efq8 := s8' _ _ List.not_mem_nil efq7
          walk_at "rd"
          refine ⟨d, lt, bd, fq, rp, sts, ns, kvb, kvf, bk, bf, ys', rfl, mono_D (mono_stand K) _ _ _ _ s18.le0 hd, s18.le0.t hlt, s18 _ _ List.not_mem_nil bdG, KVs.le mono_TS s18.le0 kvbG, efq8, KVs.le mono_TS s8'.le0 kvq7, erp, good, fun C9 s9' => ?_⟩
          walk_at "rd"
          refine ⟨.inr (.inr (.inl ⟨rfl, .inl ⟨kvf, (s9' _ _ List.not_mem_nil efq8)⟩⟩)), ?_⟩
          walk_at "rd"
          refine ⟨fq, kvf, rfl, rfl, (s9' _ _ List.not_mem_nil efq8), ?_⟩
          have sE : SX [] C3 (upd C9 fq (.dK [])) := sx_nil_of (S := [fq]) ((nil_sx ((s37.trans s8').trans s9')).trans (SX.mut List.mem_cons_self)) (by simp [hfq])
          generalize upd C9 fq (.dK []) = E0 at sE
          have s13E := s13.trans sE
          walk_at "rd"
          refine ⟨x, y, lt, lv, hands, n0, tbl, tb, e, cm, ns, fa, fb, rfl, wa.le s13E.le0, wi.sx s13E, s13E.le0.t hlt, sqT (s13E _ _ List.not_mem_nil elv), to, tw, lok, fr, fun bb => absurd bb hs, fun _ fq2 E1 kvf2 bf2 hfq2 s14 efq2 kvq2' bo2 => ?_⟩
          walk_at "rd"
          have s15 := s13E.trans s14
          refine ⟨d, lt, bdd, sts, ns, kb, fun n => BadP (belowP l fa fb) ns sts n, rfl, mono_D (mono_stand K) _ _ _ _ s15.le0 hd, C0, slen, s15.le0.t hlt, ((sAC3.trans sE).trans s14) _ _ List.not_mem_nil ebd, vals, fun q3 E2 kv3 bk3 hq3 s16 eq3 kvq3 du3 => ?_⟩
          refine .inr ⟨fq2, q3, kvf2, kv3, rfl, rfl, book_eq bo2 du3 tb0.back tb0.on nds (fun n => (bq n).symm) nms (s16 _ _ List.not_mem_nil efq2) (KVs.le mono_TS s16.le0 kvq2') eq3 kvq3, ?_⟩
          exact k _
        · walk_at "rd"
          refine x_false (by rfl) ?_
          walk_at "rd"
          refine ⟨.inr (.inr (.inl ⟨rfl, .inl ⟨kvf, (s8' _ _ List.not_mem_nil efq7)⟩⟩)), ?_⟩
          walk_at "rd"
          refine ⟨fq, kvf, rfl, rfl, (s8' _ _ List.not_mem_nil efq7), ?_⟩
          have sE : SX [] C3 (upd C8 fq (.dK [])) := sx_nil_of (S := [fq]) ((nil_sx (s37.trans s8')).trans (SX.mut List.mem_cons_self)) (by simp [hfq])
          generalize upd C8 fq (.dK []) = E0 at sE
          have s13E := s13.trans sE
          walk_at "rd"
          refine ⟨x, y, lt, lv, hands, n0, tbl, tb, e, cm, ns, fa, fb, rfl, wa.le s13E.le0, wi.sx s13E, s13E.le0.t hlt, sqT (s13E _ _ List.not_mem_nil elv), to, tw, lok, fr, fun bb => absurd bb hs, fun _ fq2 E1 kvf2 bf2 hfq2 s14 efq2 kvq2' bo2 => ?_⟩
          walk_at "rd"
          have s15 := s13E.trans s14
          refine ⟨d, lt, bdd, sts, ns, kb, fun n => BadP (belowP l fa fb) ns sts n, rfl, mono_D (mono_stand K) _ _ _ _ s15.le0 hd, C0, slen, s15.le0.t hlt, ((sAC3.trans sE).trans s14) _ _ List.not_mem_nil ebd, vals, fun q3 E2 kv3 bk3 hq3 s16 eq3 kvq3 du3 => ?_⟩
          refine .inr ⟨fq2, q3, kvf2, kv3, rfl, rfl, book_eq bo2 du3 tb0.back tb0.on nds (fun n => (bq n).symm) nms (s16 _ _ List.not_mem_nil efq2) (KVs.le mono_TS s16.le0 kvq2') eq3 kvq3, ?_⟩
          exact k _
    · refine x_false (decide_eq_false (by omega)) ?_
      have ewd8 := ewd
      have z18 := z17
      have p8 := p7
      have s78 : SX [p] H7 H7 := SX.refl _
      have way : (∀ q ∈ l, (3 : Int) ≤ q.2) ∨ (∀ q ∈ l, q.2 ≤ (3 : Int)) := .inl fun q hq => by
        have hl0 : l = [] := List.eq_nil_of_length_eq_zero (by omega)
        rw [hl0] at hq
        cases hq
      walk_at "rd"
      refine ⟨p, wd, l, (3 : Int), rfl, p8, nwp, ⟨wd, kw, rfl, .inl ewd8, kwk⟩, lnd, by omega, (fun z hz => by have := lb z hz; omega), by omega, by omega, fun lv H9 fa fb hlv s9 p9 elv fr a0 a1 b1 => ?_⟩
      walk_at "rd"
      have z19 := z18.trans s9
      have x19 : SX [] H1 H9 := sx_nil_of (S := [p]) z19 hpn
      have elt9 : H9 lt = some (.tup (ns.map V.int)) := ((z36.trans s7).trans s9) _ _ (by simpa using nlp) elt
      have rd9 : rD (rStand K) H9 (.ref d) sts := mono_D (mono_stand K) _ _ _ _ ((((s7.trans s78).trans s9)).leH) rdp6
      refine ⟨a, ns0, 3, rfl, (s1.trans x19).le0.l ha, hlen, by decide, by decide, fun px H10 hpx s10 p10 => ?_⟩
      have hpx' : ∀ b ∈ [px], H9 b = none := fun b hb => by cases List.mem_singleton.mp hb; exact hpx
      walk_at "rd"
      refine ⟨px, d, sts, rfl, p10, mono_D (mono_stand K) _ _ _ _ (le_into s10.le0 hpx') rd9, C0, slen, hnempty, fun dr H11 kvd bkd hdr s11 _ edr kvdr bgd => ?_⟩
      walk_at "rd"
      have z911 : SX [] H9 H11 := sx_nil_of (S := [px]) ((nil_sx s10).trans s11) hpx'
      intro bd hbd
      walk_at "rd"
      have s12 : SX [] H11 (upd H11 bd (.dK [])) := SX.new hbd
      have bd12 : (upd H11 bd (.dK [])) bd = some (.dK []) := upd_same
      generalize upd H11 bd (.dK []) = H12 at s12 bd12
      have edr12 := s12 _ _ List.not_mem_nil edr
      have nbd : bd ≠ dr := fun e => by rw [← e, hbd] at edr; cases edr
      refine x_lockR (.inl edr12) fun od HL eL ne => ?_
      have leL : Le H9 HL := (z911.trans s12).le0.trans (lock_le (.inl edr12) eL ne)
      have hbd' : ∀ b ∈ [bd], H9 b = none := fun b hb => by cases List.mem_singleton.mp hb; exact z911.free hbd List.not_mem_nil
      have kvdL : KVs rTS HL kvd bkd := KVs.le mono_TS (s12.le0.trans (lock_le (.inl edr12) eL ne)) kvdr
      walk_at "rd"
      refine x_itk eL ?_
      refine for_it (walk_keysR kvdr) (fun i σ A => SX [bd] HL A ∧ ∃ (kv : List (Key × V)) (bk : List (Str × List Str)) (c : Option V), A bd = some (.dK kv) ∧ KVs rTS (hid [bd] A) kv bk ∧ (∀ n ∈ bk.map (·.1), n ∈ (bkd.map (·.1)).take i) ∧ (bk.map (·.1)).Nodup ∧ (∀ q ∈ bk, q ∈ bkd ∧ ∀ st, lookA sts q.1 = some st → moverIn ns st = true) ∧
          σ = [some (.ref a), some (.int hands), some (.ref nl), some (.ref d), some (.ref p), some (.ref lt), some (.ref wd), some (.int (3 : Int)), some (.ref lv), some (.ref dr), some (.ref bd), c, none, none, none, none, none, none])
        ⟨SX.refl _, [], [], none, by rw [ne _ nbd]; exact bd12, .nil, (fun _ h => nomatch h), List.nodup_nil, (fun _ h => nomatch h), rfl⟩ (fun _ _ _ _ h => h.1 _ _ (by simpa using Ne.symm nbd) eL) ?_ ?_
      · rintro i z σ A0 A hi ⟨sA, kv, bk, c, dA, kA, kI, nA, eA, rfl⟩ ⟨rfl, z, v0, hz, rfl, _⟩
        have hz1 : (bkd.map (·.1))[i]? = some z.1 := by rw [List.getElem?_map, hz]; rfl
        obtain ⟨vv, e2, t, rfl, ht⟩ := kvdL.in_ bgd.nd (getMem hz)
        obtain ⟨h0', ms0, est0, _⟩ := bgd.each z (getMem hz)
        have lA : Le H9 A := ((le_into leL hbd').trans sA.le).trans le_hid
        have rdA : Rd A dr (.dK kvd) := .inr ⟨od, sA _ _ (by simpa using Ne.symm nbd) eL⟩
        have nextI : ∀ m ∈ (bkd.map (·.1)).take i, m ∈ (bkd.map (·.1)).take (i + 1) := fun m hm => by rw [take_succ_of hz1]; exact List.mem_append_left _ hm
        have bkl : bkd.length ≤ 100 := by
          have := nodup_sub bgd.nd (m := sts.map (·.1)) fun n hn => by
            obtain ⟨q, hq, rfl⟩ := List.mem_map.mp hn
            obtain ⟨_, _, e, _⟩ := bgd.each q hq
            exact key_of' e
          rw [List.length_map, List.length_map] at this
          omega
        walk_at "rd"
        refine ⟨d, z.1, sts, _, rfl, mono_D (mono_stand K) _ _ _ _ lA rd9, est0, ?_⟩
        walk_at "rd"
        refine ⟨lt, _, rfl, .inr (lA.t (sqT elt9)), rfl, flat_ints ns, ?_⟩
        rw [inV_mover]
        walk_at "rd"
        refine x_cases (fun c5 => ?_) (fun c5 => ?_)
        · walk_at "rd"
          refine x_dg' rdA e2 ?_
          walk_at "rd"
          have kl : kv.length = bk.length := Paired.length kA
          have bl : bk.length ≤ 100 := by
            have := nodup_sub nA fun n hn => List.mem_of_mem_take (kI n hn)
            rw [List.length_map, List.length_map] at this
            omega
          refine ⟨bd, _, rfl, DPut.k (k := Sum.inr z.1) dA (lt_size (by omega)), ?_⟩
          have fr2 : z.1 ∉ bk.map (·.1) := fun h => nodup_take bgd.nd hz1 (kI _ h)
          rw [putK_fresh _ kA.keys fr2]
          have le1 : Le (hid [bd] A) (hid [bd] (upd A bd (.dK (kv ++ [(Sum.inr z.1, V.ref t)])))) := (SX.mut List.mem_cons_self).le
          have htA : A t = some (.tup (z.2.map V.str)) := sA _ _ (by
            intro m
            have := List.mem_singleton.mp m
            rw [this, ne _ nbd, bd12] at ht
            cases ht) ht
          have ntb : t ≠ bd := ne_of htA dA (by intro z; cases z)
          refine ⟨sA.trans (SX.mut List.mem_cons_self), _, bk ++ [z], _, upd_same, Paired.app (KVs.le mono_TS le1 kA) (.cons ⟨rfl, t, rfl, ?_⟩ .nil), fun m hm => ?_, ?_, fun q hq => ?_, rfl⟩
          · rw [hid_of (by simpa using ntb), upd_ne ntb]
            exact htA
          · rw [List.map_append] at hm
            rcases List.mem_append.mp hm with h | h
            · exact nextI m (kI m h)
            · cases List.mem_singleton.mp h
              rw [take_succ_of hz1]
              exact List.mem_append_right _ List.mem_cons_self
          · rw [List.map_append]
            exact nd_snoc nA fr2
          · rcases List.mem_append.mp hq with h | h
            · exact eA q h
            · cases List.mem_singleton.mp h
              refine ⟨getMem hz, fun st e => ?_⟩
              rw [est0] at e
              cases e
              simpa using c5
        · walk_at "rd"
          exact ⟨sA, kv, bk, _, dA, kA, fun m hm => nextI m (kI m hm), nA, eA, rfl⟩
      rintro σ A ⟨sA, kvb, bk, c, dA, kA, _, nA, eA, rfl⟩
      have eLA := sA _ _ (by simpa using Ne.symm nbd) eL
      refine ⟨eLA, ?_⟩
      have sWB : SX [] H9 (put A dr (H12 dr)) := z911.trans (sx_nil_of (S := [bd]) ((nil_sx s12).trans (unlock_sx ne sA)) (by simp [hbd]))
      have bdB : (put A dr (H12 dr)) bd = some (.dK kvb) := by rw [put_ne nbd]; exact dA
      have kvbB : KVs rTS (put A dr (H12 dr)) kvb bk := KVs.le mono_TS (le_hid.trans (unlock_le (.inl edr12) eLA)) kA
      generalize put A dr (H12 dr) = B at sWB bdB kvbB
      have bgS : BookG sts bk := ⟨nA, fun q hq => bgd.each q (eA q hq).1⟩
      have ownS : ∀ m ∈ bk.map (·.1), ∀ st, lookA sts m = some st → moverIn ns st = true := fun m hm st e => by
        obtain ⟨q, hq, rfl⟩ := List.mem_map.mp hm
        exact (eA q hq).2 st e
      clear sA dA kA eL ne leL eLA kvdL edr12 s12 bd12
      have an0 : atI (names.map V.str) 0 = some (.str n0) := atI_nat (j := 0) (by rw [List.getElem?_map, hn0]; rfl)
      have xB : SX [] H1 B := x19.trans sWB
      have wok : WishOk l (3 : Int) := ⟨lnd, ll, (fun z hz => by
        have m := endsOf_sub (perm.mem_iff.mp (List.mem_map.mpr ⟨z, hz, rfl⟩))
        obtain ⟨y, hy, ey⟩ := List.mem_map.mp m
        have := (ok2.all y hy).1
        rw [ey] at this
        have b := lb z hz
        exact ⟨this, by omega, by omega⟩), by omega, by omega, way⟩
      walk_at "rd"
      show tCons _ _ _ _ _
      walk_at "rd"
      refine x_ixL (sqL (xB _ _ List.not_mem_nil enl)) an0 ?_
      walk_at "rd"
      intro x dx hx hdx ndx
      have t6 : SX [] B (upd (upd B dx (.own x)) x (.ins T.a_Work dx [])) := (SX.new hdx).trans (SX.new (by rw [upd_ne (Ne.symm ndx)]; exact hx))
      have hx' : ∀ b ∈ [x], B b = none := fun b hb => by cases List.mem_singleton.mp hb; exact hx
      have rdB := mono_D (mono_stand K) _ _ _ _ sWB.le0 rd9
      refine ⟨x, dx, .ref d, hands, n0, sts, rfl, upd_same, mono_D (mono_stand K) _ _ _ _ (le_into t6.le0 hx') rdB, ok2, fun B1 tbl sx wa0 tb0 => ⟨rfl, ?_⟩⟩
      have tB1 : SX [] B B1 := sx_nil_of (S := [x]) ((nil_sx t6).trans sx) hx'
      have to : TbOk n0 tbl := TbOk.of ok2 tb0
      walk_at "rd"
      show tCons _ _ _ _ _
      walk_at "rd"
      intro y dy hy hdy ndy
      have t7 : SX [] B1 (upd (upd B1 dy (.own y)) y (.ins T.a_Wish dy [])) := (SX.new hdy).trans (SX.new (by rw [upd_ne (Ne.symm ndy)]; exact hy))
      have ewdB1 := (sWB.trans tB1) _ _ List.not_mem_nil (s9 _ _ nwp' ewd8)
      refine ⟨y, dy, wd, l, kw, (3 : Int), rfl, upd_same, t7 _ _ List.not_mem_nil ewdB1, kwk, wok, fun G tb sy wi srt => ⟨rfl, ?_⟩⟩
      have tG1 : SX [] B1 G := sx_nil_of (S := [y]) ((nil_sx t7).trans sy) (by simp [hy])
      have tw : TwOk tbl tb := ⟨ends_tbl ok2 tb0 perm srt, fun q hq => (wok.all q (srt.perm.mem_iff.mp hq)).2⟩
      have bq : ∀ n : Str, BadP (belowP tb fa fb) ns tbl n ↔ BadP (belowP l fa fb) ns sts n := fun n => bad_iff ok2 tb0 wok.nd srt
      generalize decide (∀ z ∈ l, (3 : Int) ≤ z.2) = cm at wi
      have sBG : SX [] B G := tB1.trans tG1
      have sWG : SX [] H9 G := sWB.trans sBG
      have x1G : SX [] H1 G := x19.trans sWG
      have wa := wa0.le tG1.le0
      have hd := mono_D (mono_stand K) _ _ _ _ sWG.le0 rd9
      have hlt := sWG.le0.t (sqT (K := K) elt9)
      have elv := sWG _ _ List.not_mem_nil elv
      have ewdG := tG1 _ _ List.not_mem_nil ewdB1
      have bdG := sBG _ _ List.not_mem_nil bdB
      have kvbG := KVs.le mono_TS sBG.le0 kvbB
      have enlG := x1G _ _ List.not_mem_nil enl
      obtain ⟨d', kvs0, ed0, hrd, hk⟩ := id hd
      cases ed0
      have bgT : BookG tbl bk := bgS.srt tb0.on
      have nds : ∀ n st, lookA sts n = some st → st.nd := fun n st e => ((ok2.all _ (lookA_mem e)).2).nd
      have nms : ∀ n st, lookA sts n = some st → ∀ s ∈ st.rows.map (·.1), nameB s = true := fun n st e s hs => rows_name2 (ok2.all _ (lookA_mem e)).2 hs
      have ndt : ∀ n st, lookA tbl n = some st → st.nd := fun n st e => (to.look e).1
      have ownT : ∀ m ∈ bk.map (·.1), ∀ st, lookA tbl m = some st → moverIn ns st = true := fun m hm st e => by
        obtain ⟨st', e', ss⟩ := tb0.back m st e
        rw [srt_mover ss]
        exact ownS m hm st' e'
      walk_at "rd"
      refine ⟨d, wd, lt, lv, sts, l, ns, fa, fb, rfl, hd, C0, slen, ⟨wd, kw, rfl, .inl ewdG, kwk⟩, fun n => perm.mem_iff, fun q hq => (wok.all q hq).2, hlt, sqT elv, fun bdd A kb hbdd sA ebd vals => ?_⟩
      walk_at "rd"
      have sH : SX [] G G := SX.refl _
      refine ⟨x, y, lt, lv, hands, n0, tbl, tb, (3 : Int), cm, ns, fa, fb, rfl, wa.le (sH.trans sA).le0, wi.sx sA, (sH.trans sA).le0.t hlt, (sqT (sA _ _ List.not_mem_nil elv)), to, tw, lok, fr, fun sq A1 sf hsq t1 esq snd spw sif => ?_⟩
      walk_at "rd"
      refine x_isiT (.base (.lst esq)) (by decide +kernel) ?_
      walk_at "rd"
      refine x_sortD (((sH.trans sA).trans t1).le0.rd _ _ trivial hrd) hk.keys fun ys py hpy hsy np => ?_
      have ty : SX [] A1 (upd A1 py (.lst (ys.map V.str))) := SX.new np
      refine x_itl (sqL upd_same) fun D hD => ?_
      have y1 : (upd A1 py (.lst (ys.map V.str))) py = some (.lst (ys.map V.str)) := upd_same
      generalize upd A1 py (.lst (ys.map V.str)) = A2 at ty y1 hD
      have ysl : ys.length ≤ 100 := by
        rw [hpy.length_eq, List.length_map]
        exact slen
      refine lc_it (walk_listR (R := rS) (Hb := H) (paired_S' ys)) (fun m C => SX [] A2 C ∧ ∃ zs : List Str, C D = some (.lst (zs.map V.str)) ∧ zs.Sublist (ys.take m) ∧ ∀ z ∈ ys.take m, z ∈ zs ↔ ¬ BadP (belowP tb fa fb) ns tbl z) ⟨SX.new hD, [], upd_same, .slnil, (fun _ h => nomatch h)⟩ (fun m C _ h => sqL (h.1 _ _ List.not_mem_nil y1)) ?_ ?_
      · rintro m w0 C0 C hm ⟨u1, zs, u2, sub, mem⟩ ⟨rfl, z, hz, rfl⟩
        obtain ⟨g, eg, hg⟩ := vals z (hpy.mem_iff.mp (getMem hz))
        rw [← bq] at hg
        have fz : z ∉ ys.take m := nodup_take (hpy.nodup_iff.mpr ok2.nd) hz
        have zl : zs.length ≤ 100 := by
          have := sub.length_le
          rw [List.length_take] at this
          omega
        walk_at "rd"
        refine ⟨rfl, ?_⟩
        walk_at "rd"
        refine x_dg' (.inl (((t1.trans ty).trans u1) _ _ List.not_mem_nil ebd)) eg ?_
        walk_at "rd"
        cases g with
        | true =>
          walk_at "rd"
          refine ⟨u1, zs, u2, by rw [take_succ_of hz]; exact sub.trans (List.sublist_append_left _ _), fun z' hz' => ?_⟩
          rw [take_succ_of hz] at hz'
          rcases List.mem_append.mp hz' with h | h
          · exact mem z' h
          · cases List.mem_singleton.mp h
            exact ⟨fun h2 => absurd (sub.mem h2) fz, fun h2 => absurd (hg.mp rfl) h2⟩
        | false =>
          walk_at "rd"
          refine ⟨_, u2, lt_size (by rw [List.length_map]; omega), sx_nil_of (S := [D]) ((nil_sx u1).trans (SX.mut List.mem_cons_self)) (by simp [hD]), zs ++ [z], by rw [upd_same, List.map_append]; rfl, by rw [take_succ_of hz]; exact sub.append (.refl _), fun z' hz' => ?_⟩
          rw [take_succ_of hz] at hz'
          rcases List.mem_append.mp hz' with h | h
          · rw [List.mem_append, ← mem z' h]
            refine ⟨fun h2 => h2.resolve_right fun h3 => ?_, .inl⟩
            rw [List.mem_singleton.mp h3] at h
            exact fz h
          · cases List.mem_singleton.mp h
            exact ⟨(fun _ h2 => by have := hg.mpr h2; cases this), fun _ => List.mem_append_right _ List.mem_cons_self⟩
      rintro C ⟨u1, zs, u2, sub, mem⟩
      rw [List.take_length] at sub mem
      have ezs : sf = zs := by
        refine List.Perm.eq_of_pairwise (fun a b _ _ h1 h2 => leS_antisymm h1 h2) spw ((sortedS_pw hsy).sublist sub) ((List.perm_ext_iff_of_nodup snd (List.Nodup.sublist sub (hpy.nodup_iff.mpr ok2.nd))).mpr fun z => ?_)
        rw [sif]
        constructor
        · rintro ⟨h1, h2⟩
          exact (mem z (hpy.mem_iff.mpr (tb0.perm.mem_iff.mp h1))).mpr h2
        · intro h
          have h1 := sub.mem h
          exact ⟨tb0.perm.mem_iff.mpr (hpy.mem_iff.mp h1), (mem z h1).mp h⟩
      subst ezs
      have tC : SX [] A1 C := ty.trans u1
      have oksf : ∀ v ∈ sf.map V.str, okV v = true := okS_of fun s hs => to.nm s ((sif s).mp hs).1
      refine x_neSame (sqL (tC _ _ List.not_mem_nil esq)) (sqL u2) oksf ?_
      have sC : SX [] G C := (sA.trans t1).trans tC
      walk_at "rd"
      have esC := tC _ _ List.not_mem_nil esq
      refine ⟨.inl ⟨rfl, _, sqL esC⟩, ?_⟩
      walk_at "rd"
      refine ⟨sq, _, _, rfl, rfl, esC, lt_size ?_, ?_⟩
      · have := nodup_sub snd fun n hn => ((sif n).mp hn).1
        rw [List.length_map] at this
        rw [List.length_map]
        have := to.len
        omega
      have sAC2 : SX [] A (upd C sq (.lst (sf.map V.str ++ [.str "zz"]))) := sx_nil_of (S := [sq]) (((nil_sx t1).trans (nil_sx tC)).trans (SX.mut List.mem_cons_self)) (by simp [hsq])
      generalize upd C sq (.lst (sf.map V.str ++ [.str "zz"])) = C2 at sAC2
      have sGC2 := sA.trans sAC2
      walk_at "rd"
      refine x_ixL (sqL (sGC2 _ _ List.not_mem_nil enlG)) an0 ?_
      walk_at "rd"
      refine ⟨x, d, hands, n0, lt, wd, (3 : Int), lv, sts, tbl, l, kw, ns, fa, fb, rfl, wa.le sGC2.le0, tb0, ok2, mono_D (mono_stand K) _ _ _ _ sGC2.le0 hd, sGC2.le0.t hlt, lok, sGC2 _ _ List.not_mem_nil ewdG, kwk, wok, perm, sGC2 _ _ List.not_mem_nil elv, fr, fun C3 s3' => ?_⟩
      walk_at "rd"
      have s13 := sGC2.trans s3'
      have sAC3 := sAC2.trans s3'
      obtain ⟨g, eg, hg⟩ := vals n0 ok2.st
      rw [← bq] at hg
      by_cases hs : BadP (belowP tb fa fb) ns tbl n0
      · refine ⟨x, y, lt, lv, hands, n0, tbl, tb, (3 : Int), cm, ns, fa, fb, rfl, wa.le s13.le0, wi.sx s13, s13.le0.t hlt, sqT (s13 _ _ List.not_mem_nil elv), to, tw, lok, fr, fun _ C4 s4' => ?_, fun nb => absurd hs nb⟩
        walk_at "rd"
        have s14 := s13.trans s4'
        refine x_ixL (sqL (s14 _ _ List.not_mem_nil enlG)) an0 ?_
        refine x_dg' (.inl ((sAC3.trans s4') _ _ List.not_mem_nil ebd)) eg ?_
        have : g = true := hg.mpr hs
        subst this
        walk_at "rd"
        refine x_true (by rfl) ?_
        walk_at "rd"
        refine ⟨x, y, lv, bd, hands, n0, tbl, tb, (3 : Int), cm, fa, fb, kvb, bk, rfl, wa.le s14.le0, wi.sx s14, sqT (s14 _ _ List.not_mem_nil elv), to, tw, fr, s14 _ _ List.not_mem_nil bdG, KVs.le mono_TS s14.le0 kvbG, bgT, fun r hr2 C5 s5' => ?_⟩
        walk_at "rd"
        have : r = false := by
          rw [← Bool.not_eq_true]
          intro h
          obtain ⟨m, r1, hf, hb⟩ := bad_reach bgT ownT ndt hs .base
          exact hr2.mp h m r1 hf hb
        subst this
        refine ⟨false, false, rfl, rfl, ?_⟩
        exact k _
      · refine ⟨x, y, lt, lv, hands, n0, tbl, tb, (3 : Int), cm, ns, fa, fb, rfl, wa.le s13.le0, wi.sx s13, s13.le0.t hlt, sqT (s13 _ _ List.not_mem_nil elv), to, tw, lok, fr, fun bb => absurd bb hs, fun _ fq C4 kvf bf hfq s4' efq kvq bo => ?_⟩
        walk_at "rd"
        have s14 := s13.trans s4'
        refine x_ixL (sqL (s14 _ _ List.not_mem_nil enlG)) an0 ?_
        refine x_dg' (.inl ((sAC3.trans s4') _ _ List.not_mem_nil ebd)) eg ?_
        have : g = false := by
          rw [← Bool.not_eq_true]
          intro h
          exact hs (hg.mp h)
        subst this
        walk_at "rd"
        refine x_isiT (ty_dict (.inl efq)) (by decide +kernel) ?_
        walk_at "rd"
        refine ⟨d, lt, bdd, sts, ns, kb, fun n => BadP (belowP l fa fb) ns sts n, rfl, mono_D (mono_stand K) _ _ _ _ s14.le0 hd, C0, slen, s14.le0.t hlt, (sAC3.trans s4') _ _ List.not_mem_nil ebd, vals, fun q2 C5 kv2 bk2 hq2 s5' eq2 kvq2 du => ?_⟩
        refine .inr ⟨fq, q2, kvf, kv2, rfl, rfl, book_eq bo du tb0.back tb0.on nds (fun n => (bq n).symm) nms (s5' _ _ List.not_mem_nil efq) (KVs.le mono_TS s5'.le0 kvq) eq2 kvq2, ?_⟩
        walk_at "rd"
        have s15 := s14.trans s5'
        have s45' := s4'.trans s5'
        have efq5 := s5' _ _ List.not_mem_nil efq
        have kvq5 := KVs.le mono_TS s5'.le0 kvq
        refine ⟨x, fq, hands, n0, tbl, kvf, bf, rfl, wa.le s15.le0, efq5, kvq5, bo.g, fun C6 s6' => ?_⟩
        walk_at "rd"
        refine ⟨true, true, rfl, rfl, ?_⟩
        walk_at "rd"
        refine x_false (by rfl) ?_
        walk_at "rd"
        have s16 := s15.trans s6'
        refine ⟨x, y, lv, fq, hands, n0, tbl, tb, (3 : Int), cm, fa, fb, kvf, bf, rfl, wa.le s16.le0, wi.sx s16, sqT (s16 _ _ List.not_mem_nil elv), to, tw, fr, s6' _ _ List.not_mem_nil efq5, KVs.le mono_TS s6'.le0 kvq5, bo.g, fun r hr2 C7 s7' => ?_⟩
        walk_at "rd"
        have : r = true := hr2.mpr (free_keeps to bo hs)
        subst this
        refine ⟨true, true, rfl, rfl, ?_⟩
        walk_at "rd"
        refine x_false (by rfl) ?_
        walk_at "rd"
        have s17 := s16.trans s7'
        have s67 := s6'.trans s7'
        have efq7 := s67 _ _ List.not_mem_nil efq5
        have kvq7 := KVs.le mono_TS s67.le0 kvq5
        have s37 := s45'.trans s67
        refine ⟨x, y, lv, bd, hands, n0, tbl, tb, (3 : Int), cm, fa, fb, kvb, bk, rfl, wa.le s17.le0, wi.sx s17, sqT (s17 _ _ List.not_mem_nil elv), to, tw, fr, s17 _ _ List.not_mem_nil bdG, KVs.le mono_TS s17.le0 kvbG, bgT, fun kp rp C8 ys' hrp s8' erp ynd ysrt yR => ?_, fun np C8 s8' => ?_⟩
        · walk_at "rd"
          refine x_true (by rfl) ?_
          have s18 := s17.trans s8'
          have nbR : ∀ n, LetR tbl bk n0 n → ¬ BadP (belowP tb fa fb) ns tbl n := fun n r b => by
            obtain ⟨m, r1, hf, hb⟩ := bad_reach bgT ownT ndt b r
            exact kp m r1 hf hb
          have good : ∀ n ∈ ys', ∃ st, lookA sts n = some st ∧ (letS bk n st).length ≤ 100 ∧ (moverIn ns st = true → ∃ l, lookA bf n = some l ∧ ∀ z ∈ letS bk n st, z ∈ l) := fun n hn => by
            have r := (yR n).mp hn
            obtain ⟨st', e'⟩ := lookA_some (r.key to)
            obtain ⟨st, e, ss⟩ := tb0.back n st' e'
            obtain ⟨_, csz, _⟩ := C0.all _ (lookA_mem e)
            have csz : st.size ≤ 4 := csz
            have lets : ∀ z ∈ letS bk n st, z ∈ letS bk n st' := fun z hz => by
              unfold letS at hz ⊢
              cases el : lookA bk n with
              | some l' =>
                rw [el] at hz
                exact hz
              | none =>
                rw [el] at hz
                exact ((SrtStand.rows ss).map (·.1)).mem_iff.mpr hz
            refine ⟨st, e, ?_, fun m => ?_⟩
            · unfold letS
              cases el : lookA bk n with
              | some l' =>
                obtain ⟨_, _, _, _, h4, _⟩ := bgS.each _ (lookA_mem el)
                have h4 : l'.length ≤ 4 := h4
                show l'.length ≤ 100
                omega
              | none =>
                show (st.rows.map (·.1)).length ≤ 100
                rw [List.length_map, rows_tos_len, tos_len]
                omega
            · obtain ⟨l', el'⟩ := lookA_some (bo.all n st' e' (by rw [srt_mover ss]; exact m) (nbR n r))
              refine ⟨l', el', fun z hz => ?_⟩
              obtain ⟨st2, e2, _, _, _, _, _, mm⟩ := bo.each _ (lookA_mem el')
              rw [e'] at e2
              cases e2
              obtain ⟨u, eu⟩ := bgT.let_rows e' (lets z hz)
              exact (mm z).mpr ⟨u, eu, nbR u (.step r e' (lets z hz) eu)⟩
          have efq8 := s8' _ _ List.not_mem_nil efq7
          walk_at "rd"
          refine ⟨d, lt, bd, fq, rp, sts, ns, kvb, kvf, bk, bf, ys', rfl, mono_D (mono_stand K) _ _ _ _ s18.le0 hd, s18.le0.t hlt, s18 _ _ List.not_mem_nil bdG, KVs.le mono_TS s18.le0 kvbG, efq8, KVs.le mono_TS s8'.le0 kvq7, erp, good, fun C9 s9' => ?_⟩
          walk_at "rd"
          refine ⟨.inr (.inr (.inl ⟨rfl, .inl ⟨kvf, (s9' _ _ List.not_mem_nil efq8)⟩⟩)), ?_⟩
          walk_at "rd"
          refine ⟨fq, kvf, rfl, rfl, (s9' _ _ List.not_mem_nil efq8), ?_⟩
          have sE : SX [] C3 (upd C9 fq (.dK [])) := sx_nil_of (S := [fq]) ((nil_sx ((s37.trans s8').trans s9')).trans (SX.mut List.mem_cons_self)) (by simp [hfq])
          generalize upd C9 fq (.dK []) = E0 at sE
          have s13E := s13.trans sE
          walk_at "rd"
          refine ⟨x, y, lt, lv, hands, n0, tbl, tb, (3 : Int), cm, ns, fa, fb, rfl, wa.le s13E.le0, wi.sx s13E, s13E.le0.t hlt, sqT (s13E _ _ List.not_mem_nil elv), to, tw, lok, fr, fun bb => absurd bb hs, fun _ fq2 E1 kvf2 bf2 hfq2 s14 efq2 kvq2' bo2 => ?_⟩
          walk_at "rd"
          have s15 := s13E.trans s14
          refine ⟨d, lt, bdd, sts, ns, kb, fun n => BadP (belowP l fa fb) ns sts n, rfl, mono_D (mono_stand K) _ _ _ _ s15.le0 hd, C0, slen, s15.le0.t hlt, ((sAC3.trans sE).trans s14) _ _ List.not_mem_nil ebd, vals, fun q3 E2 kv3 bk3 hq3 s16 eq3 kvq3 du3 => ?_⟩
          refine .inr ⟨fq2, q3, kvf2, kv3, rfl, rfl, book_eq bo2 du3 tb0.back tb0.on nds (fun n => (bq n).symm) nms (s16 _ _ List.not_mem_nil efq2) (KVs.le mono_TS s16.le0 kvq2') eq3 kvq3, ?_⟩
          exact k _
        · walk_at "rd"
          refine x_false (by rfl) ?_
          walk_at "rd"
          refine ⟨.inr (.inr (.inl ⟨rfl, .inl ⟨kvf, (s8' _ _ List.not_mem_nil efq7)⟩⟩)), ?_⟩
          walk_at "rd"
          refine ⟨fq, kvf, rfl, rfl, (s8' _ _ List.not_mem_nil efq7), ?_⟩
          have sE : SX [] C3 (upd C8 fq (.dK [])) := sx_nil_of (S := [fq]) ((nil_sx (s37.trans s8')).trans (SX.mut List.mem_cons_self)) (by simp [hfq])
          generalize upd C8 fq (.dK []) = E0 at sE
          have s13E := s13.trans sE
          walk_at "rd"
          refine ⟨x, y, lt, lv, hands, n0, tbl, tb, (3 : Int), cm, ns, fa, fb, rfl, wa.le s13E.le0, wi.sx s13E, s13E.le0.t hlt, sqT (s13E _ _ List.not_mem_nil elv), to, tw, lok, fr, fun bb => absurd bb hs, fun _ fq2 E1 kvf2 bf2 hfq2 s14 efq2 kvq2' bo2 => ?_⟩
          walk_at "rd"
          have s15 := s13E.trans s14
          refine ⟨d, lt, bdd, sts, ns, kb, fun n => BadP (belowP l fa fb) ns sts n, rfl, mono_D (mono_stand K) _ _ _ _ s15.le0 hd, C0, slen, s15.le0.t hlt, ((sAC3.trans sE).trans s14) _ _ List.not_mem_nil ebd, vals, fun q3 E2 kv3 bk3 hq3 s16 eq3 kvq3 du3 => ?_⟩
          refine .inr ⟨fq2, q3, kvf2, kv3, rfl, rfl, book_eq bo2 du3 tb0.back tb0.on nds (fun n => (bq n).symm) nms (s16 _ _ List.not_mem_nil efq2) (KVs.le mono_TS s16.le0 kvq2') eq3 kvq3, ?_⟩
          exact k _
end
end M

namespace M
open PySem L2
def spLaw (K : PySem.W.Frag) : Sp := fun vs H Q _ => ∃ (a : Addr) (ns : List Int), vs = [.ref a] ∧ SqL K H a (ns.map V.int) ∧ ns.length ≤ 10000 ∧ ∀ H', Q (.bl true) H'
theorem all_mk {l : PySem.W.OpenLaw} {w : World} {K : PySem.W.Frag} {h : Heap} {mg : Str → Option Value} {fa : Addr} (X : K.In h) (G : h.Ns mainGlobals mg) (hfa : mg "law" = some (.ref fa))
    {f_is_integer f_is_name f_is_pair f_is_moves f_is_draws f_is_stand f_are_stands f_copied f_leads f_is_ringless f_Work_init f_Work_row f_Work_kind f_Work_mover f_Work_steps f_Work_to f_law_open f_law_draw f_law_names f_law_target f_law_menu f_law_stand f_law_stands f_law_build f_law_steps f_law_to f_law_mover f_law_worths f_law_endless f_law_level f_common_divisor f_is_fraction f_is_lot f_checked_lot f_is_value f_are_worths f_Wish_init f_Wish_worths f_suited f_suited_lot f_is_entry f_is_book f_let_steps f_let_ways f_way_to f_is_below f_checked_book f_breaking f_keeps f_kept_stands f_is_drawn_in f_bad_stands f_safe_stands f_freest f_law_lot f_law_book f_law_bad f_law_due_book f_law_within f_law_no_ends f_law_again f_law q_Work q_Wish : Addr}
    {od_is_integer an_is_integer od_is_name an_is_name od_is_pair an_is_pair od_is_moves an_is_moves od_is_draws an_is_draws od_is_stand an_is_stand od_are_stands an_are_stands od_copied an_copied od_leads an_leads od_is_ringless an_is_ringless od_Work_init an_Work_init od_Work_row an_Work_row od_Work_kind an_Work_kind od_Work_mover an_Work_mover od_Work_steps an_Work_steps od_Work_to an_Work_to od_law_open an_law_open od_law_draw an_law_draw od_law_names an_law_names od_law_target an_law_target od_law_menu an_law_menu od_law_stand an_law_stand od_law_stands an_law_stands od_law_build an_law_build od_law_steps an_law_steps od_law_to an_law_to od_law_mover an_law_mover od_law_worths an_law_worths od_law_endless an_law_endless od_law_level an_law_level od_common_divisor an_common_divisor od_is_fraction an_is_fraction od_is_lot an_is_lot od_checked_lot an_checked_lot od_is_value an_is_value od_are_worths an_are_worths od_Wish_init an_Wish_init od_Wish_worths an_Wish_worths od_suited an_suited od_suited_lot an_suited_lot od_is_entry an_is_entry od_is_book an_is_book od_let_steps an_let_steps od_let_ways an_let_ways od_way_to an_way_to od_is_below an_is_below od_checked_book an_checked_book od_breaking an_breaking od_keeps an_keeps od_kept_stands an_kept_stands od_is_drawn_in an_is_drawn_in od_bad_stands an_bad_stands od_safe_stands an_safe_stands od_freest an_freest od_law_lot an_law_lot od_law_book an_law_book od_law_bad an_law_bad od_law_due_book an_law_due_book od_law_within an_law_within od_law_no_ends an_law_no_ends od_law_again an_law_again od_law an_law : Option Addr} {sl_is_integer sl_is_name sl_is_pair sl_is_moves sl_is_draws sl_is_stand sl_are_stands sl_copied sl_leads sl_is_ringless sl_Work_init sl_Work_row sl_Work_kind sl_Work_mover sl_Work_steps sl_Work_to sl_law_open sl_law_draw sl_law_names sl_law_target sl_law_menu sl_law_stand sl_law_stands sl_law_build sl_law_steps sl_law_to sl_law_mover sl_law_worths sl_law_endless sl_law_level sl_common_divisor sl_is_fraction sl_is_lot sl_checked_lot sl_is_value sl_are_worths sl_Wish_init sl_Wish_worths sl_suited sl_suited_lot sl_is_entry sl_is_book sl_let_steps sl_let_ways sl_way_to sl_is_below sl_checked_book sl_breaking sl_keeps sl_kept_stands sl_is_drawn_in sl_bad_stands sl_safe_stands sl_freest sl_law_lot sl_law_book sl_law_bad sl_law_due_book sl_law_within sl_law_no_ends sl_law_again sl_law : Array (Option Value)}
    {oc_is_integer kV_is_integer dc_is_integer pm_is_integer cd_is_integer ct_is_integer oc_is_name kV_is_name dc_is_name pm_is_name cd_is_name ct_is_name oc_is_pair kV_is_pair dc_is_pair pm_is_pair cd_is_pair ct_is_pair oc_is_moves kV_is_moves dc_is_moves pm_is_moves cd_is_moves ct_is_moves oc_is_draws kV_is_draws dc_is_draws pm_is_draws cd_is_draws ct_is_draws oc_is_stand kV_is_stand dc_is_stand pm_is_stand cd_is_stand ct_is_stand oc_are_stands kV_are_stands dc_are_stands pm_are_stands cd_are_stands ct_are_stands oc_copied kV_copied dc_copied pm_copied cd_copied ct_copied oc_leads kV_leads dc_leads pm_leads cd_leads ct_leads oc_is_ringless kV_is_ringless dc_is_ringless pm_is_ringless cd_is_ringless ct_is_ringless oc_Work_init kV_Work_init dc_Work_init pm_Work_init cd_Work_init ct_Work_init oc_Work_row kV_Work_row dc_Work_row pm_Work_row cd_Work_row ct_Work_row oc_Work_kind kV_Work_kind dc_Work_kind pm_Work_kind cd_Work_kind ct_Work_kind oc_Work_mover kV_Work_mover dc_Work_mover pm_Work_mover cd_Work_mover ct_Work_mover oc_Work_steps kV_Work_steps dc_Work_steps pm_Work_steps cd_Work_steps ct_Work_steps oc_Work_to kV_Work_to dc_Work_to pm_Work_to cd_Work_to ct_Work_to oc_law_open kV_law_open dc_law_open pm_law_open cd_law_open ct_law_open oc_law_draw kV_law_draw dc_law_draw pm_law_draw cd_law_draw ct_law_draw oc_law_names kV_law_names dc_law_names pm_law_names cd_law_names ct_law_names oc_law_target kV_law_target dc_law_target pm_law_target cd_law_target ct_law_target oc_law_menu kV_law_menu dc_law_menu pm_law_menu cd_law_menu ct_law_menu oc_law_stand kV_law_stand dc_law_stand pm_law_stand cd_law_stand ct_law_stand oc_law_stands kV_law_stands dc_law_stands pm_law_stands cd_law_stands ct_law_stands oc_law_build kV_law_build dc_law_build pm_law_build cd_law_build ct_law_build oc_law_steps kV_law_steps dc_law_steps pm_law_steps cd_law_steps ct_law_steps oc_law_to kV_law_to dc_law_to pm_law_to cd_law_to ct_law_to oc_law_mover kV_law_mover dc_law_mover pm_law_mover cd_law_mover ct_law_mover oc_law_worths kV_law_worths dc_law_worths pm_law_worths cd_law_worths ct_law_worths oc_law_endless kV_law_endless dc_law_endless pm_law_endless cd_law_endless ct_law_endless oc_law_level kV_law_level dc_law_level pm_law_level cd_law_level ct_law_level oc_common_divisor kV_common_divisor dc_common_divisor pm_common_divisor cd_common_divisor ct_common_divisor oc_is_fraction kV_is_fraction dc_is_fraction pm_is_fraction cd_is_fraction ct_is_fraction oc_is_lot kV_is_lot dc_is_lot pm_is_lot cd_is_lot ct_is_lot oc_checked_lot kV_checked_lot dc_checked_lot pm_checked_lot cd_checked_lot ct_checked_lot oc_is_value kV_is_value dc_is_value pm_is_value cd_is_value ct_is_value oc_are_worths kV_are_worths dc_are_worths pm_are_worths cd_are_worths ct_are_worths oc_Wish_init kV_Wish_init dc_Wish_init pm_Wish_init cd_Wish_init ct_Wish_init oc_Wish_worths kV_Wish_worths dc_Wish_worths pm_Wish_worths cd_Wish_worths ct_Wish_worths oc_suited kV_suited dc_suited pm_suited cd_suited ct_suited oc_suited_lot kV_suited_lot dc_suited_lot pm_suited_lot cd_suited_lot ct_suited_lot oc_is_entry kV_is_entry dc_is_entry pm_is_entry cd_is_entry ct_is_entry oc_is_book kV_is_book dc_is_book pm_is_book cd_is_book ct_is_book oc_let_steps kV_let_steps dc_let_steps pm_let_steps cd_let_steps ct_let_steps oc_let_ways kV_let_ways dc_let_ways pm_let_ways cd_let_ways ct_let_ways oc_way_to kV_way_to dc_way_to pm_way_to cd_way_to ct_way_to oc_is_below kV_is_below dc_is_below pm_is_below cd_is_below ct_is_below oc_checked_book kV_checked_book dc_checked_book pm_checked_book cd_checked_book ct_checked_book oc_breaking kV_breaking dc_breaking pm_breaking cd_breaking ct_breaking oc_keeps kV_keeps dc_keeps pm_keeps cd_keeps ct_keeps oc_kept_stands kV_kept_stands dc_kept_stands pm_kept_stands cd_kept_stands ct_kept_stands oc_is_drawn_in kV_is_drawn_in dc_is_drawn_in pm_is_drawn_in cd_is_drawn_in ct_is_drawn_in oc_bad_stands kV_bad_stands dc_bad_stands pm_bad_stands cd_bad_stands ct_bad_stands oc_safe_stands kV_safe_stands dc_safe_stands pm_safe_stands cd_safe_stands ct_safe_stands oc_freest kV_freest dc_freest pm_freest cd_freest ct_freest oc_law_lot kV_law_lot dc_law_lot pm_law_lot cd_law_lot ct_law_lot oc_law_book kV_law_book dc_law_book pm_law_book cd_law_book ct_law_book oc_law_bad kV_law_bad dc_law_bad pm_law_bad cd_law_bad ct_law_bad oc_law_due_book kV_law_due_book dc_law_due_book pm_law_due_book cd_law_due_book ct_law_due_book oc_law_within kV_law_within dc_law_within pm_law_within cd_law_within ct_law_within oc_law_no_ends kV_law_no_ends dc_law_no_ends pm_law_no_ends cd_law_no_ends ct_law_no_ends oc_law_again kV_law_again dc_law_again pm_law_again cd_law_again ct_law_again oc_law kV_law dc_law pm_law cd_law ct_law : Value}
    {p_Wish_worths : Addr} {r_Wish_worths : List Value}
    (a_Work : PySem.W.nsIn K mainGlobals "Work" = some (some (.ref q_Work)))
    (a_Wish : PySem.W.nsIn K mainGlobals "Wish" = some (some (.ref q_Wish)))
    (a_is_integer : PySem.W.nsIn K mainGlobals "is_integer" = some (some (.ref f_is_integer)))
    (l_is_integer : K.lookup f_is_integer = some ⟨oc_is_integer, od_is_integer, .func (PySem.W.fnOf "is_integer" "is_integer" (defArgs s_is_integer) (defBody s_is_integer) (defScope s_is_integer) .none kV_is_integer dc_is_integer pm_is_integer an_is_integer cd_is_integer ct_is_integer), sl_is_integer⟩) (c_is_integer : PySem.W.codeIn K cd_is_integer "is_integer" = true) (k_is_integer : PySem.W.keepIn K (.ref f_is_integer) = true)
    (a_is_name : PySem.W.nsIn K mainGlobals "is_name" = some (some (.ref f_is_name)))
    (l_is_name : K.lookup f_is_name = some ⟨oc_is_name, od_is_name, .func (PySem.W.fnOf "is_name" "is_name" (defArgs s_is_name) (defBody s_is_name) (defScope s_is_name) .none kV_is_name dc_is_name pm_is_name an_is_name cd_is_name ct_is_name), sl_is_name⟩) (c_is_name : PySem.W.codeIn K cd_is_name "is_name" = true) (k_is_name : PySem.W.keepIn K (.ref f_is_name) = true)
    (a_is_pair : PySem.W.nsIn K mainGlobals "is_pair" = some (some (.ref f_is_pair)))
    (l_is_pair : K.lookup f_is_pair = some ⟨oc_is_pair, od_is_pair, .func (PySem.W.fnOf "is_pair" "is_pair" (defArgs s_is_pair) (defBody s_is_pair) (defScope s_is_pair) .none kV_is_pair dc_is_pair pm_is_pair an_is_pair cd_is_pair ct_is_pair), sl_is_pair⟩) (c_is_pair : PySem.W.codeIn K cd_is_pair "is_pair" = true) (k_is_pair : PySem.W.keepIn K (.ref f_is_pair) = true)
    (a_is_moves : PySem.W.nsIn K mainGlobals "is_moves" = some (some (.ref f_is_moves)))
    (l_is_moves : K.lookup f_is_moves = some ⟨oc_is_moves, od_is_moves, .func (PySem.W.fnOf "is_moves" "is_moves" (defArgs s_is_moves) (defBody s_is_moves) (defScope s_is_moves) .none kV_is_moves dc_is_moves pm_is_moves an_is_moves cd_is_moves ct_is_moves), sl_is_moves⟩) (c_is_moves : PySem.W.codeIn K cd_is_moves "is_moves" = true) (k_is_moves : PySem.W.keepIn K (.ref f_is_moves) = true)
    (a_is_draws : PySem.W.nsIn K mainGlobals "is_draws" = some (some (.ref f_is_draws)))
    (l_is_draws : K.lookup f_is_draws = some ⟨oc_is_draws, od_is_draws, .func (PySem.W.fnOf "is_draws" "is_draws" (defArgs s_is_draws) (defBody s_is_draws) (defScope s_is_draws) .none kV_is_draws dc_is_draws pm_is_draws an_is_draws cd_is_draws ct_is_draws), sl_is_draws⟩) (c_is_draws : PySem.W.codeIn K cd_is_draws "is_draws" = true) (k_is_draws : PySem.W.keepIn K (.ref f_is_draws) = true)
    (a_is_stand : PySem.W.nsIn K mainGlobals "is_stand" = some (some (.ref f_is_stand)))
    (l_is_stand : K.lookup f_is_stand = some ⟨oc_is_stand, od_is_stand, .func (PySem.W.fnOf "is_stand" "is_stand" (defArgs s_is_stand) (defBody s_is_stand) (defScope s_is_stand) .none kV_is_stand dc_is_stand pm_is_stand an_is_stand cd_is_stand ct_is_stand), sl_is_stand⟩) (c_is_stand : PySem.W.codeIn K cd_is_stand "is_stand" = true) (k_is_stand : PySem.W.keepIn K (.ref f_is_stand) = true)
    (a_are_stands : PySem.W.nsIn K mainGlobals "are_stands" = some (some (.ref f_are_stands)))
    (l_are_stands : K.lookup f_are_stands = some ⟨oc_are_stands, od_are_stands, .func (PySem.W.fnOf "are_stands" "are_stands" (defArgs s_are_stands) (defBody s_are_stands) (defScope s_are_stands) .none kV_are_stands dc_are_stands pm_are_stands an_are_stands cd_are_stands ct_are_stands), sl_are_stands⟩) (c_are_stands : PySem.W.codeIn K cd_are_stands "are_stands" = true) (k_are_stands : PySem.W.keepIn K (.ref f_are_stands) = true)
    (a_copied : PySem.W.nsIn K mainGlobals "copied" = some (some (.ref f_copied)))
    (l_copied : K.lookup f_copied = some ⟨oc_copied, od_copied, .func (PySem.W.fnOf "copied" "copied" (defArgs s_copied) (defBody s_copied) (defScope s_copied) .none kV_copied dc_copied pm_copied an_copied cd_copied ct_copied), sl_copied⟩) (c_copied : PySem.W.codeIn K cd_copied "copied" = true) (k_copied : PySem.W.keepIn K (.ref f_copied) = true)
    (a_leads : PySem.W.nsIn K mainGlobals "leads" = some (some (.ref f_leads)))
    (l_leads : K.lookup f_leads = some ⟨oc_leads, od_leads, .func (PySem.W.fnOf "leads" "leads" (defArgs s_leads) (defBody s_leads) (defScope s_leads) .none kV_leads dc_leads pm_leads an_leads cd_leads ct_leads), sl_leads⟩) (c_leads : PySem.W.codeIn K cd_leads "leads" = true) (k_leads : PySem.W.keepIn K (.ref f_leads) = true)
    (a_is_ringless : PySem.W.nsIn K mainGlobals "is_ringless" = some (some (.ref f_is_ringless)))
    (l_is_ringless : K.lookup f_is_ringless = some ⟨oc_is_ringless, od_is_ringless, .func (PySem.W.fnOf "is_ringless" "is_ringless" (defArgs s_is_ringless) (defBody s_is_ringless) (defScope s_is_ringless) .none kV_is_ringless dc_is_ringless pm_is_ringless an_is_ringless cd_is_ringless ct_is_ringless), sl_is_ringless⟩) (c_is_ringless : PySem.W.codeIn K cd_is_ringless "is_ringless" = true) (k_is_ringless : PySem.W.keepIn K (.ref f_is_ringless) = true)
    (a_Work_init : PySem.W.findIn K (.ref q_Work) "__init__" = some (some (.ref f_Work_init))) (i_Work_init : PySem.W.isFn K (.ref f_Work_init) = true)
    (l_Work_init : K.lookup f_Work_init = some ⟨oc_Work_init, od_Work_init, .func (PySem.W.fnOf "__init__" "Work.__init__" (defArgs s_Work_init) (defBody s_Work_init) (defScope s_Work_init) .none kV_Work_init dc_Work_init pm_Work_init an_Work_init cd_Work_init ct_Work_init), sl_Work_init⟩) (c_Work_init : PySem.W.codeIn K cd_Work_init "Work.__init__" = true) (k_Work_init : PySem.W.keepIn K (.ref f_Work_init) = true)
    (a_Work_row : PySem.W.findIn K (.ref q_Work) "row" = some (some (.ref f_Work_row))) (i_Work_row : PySem.W.isFn K (.ref f_Work_row) = true)
    (l_Work_row : K.lookup f_Work_row = some ⟨oc_Work_row, od_Work_row, .func (PySem.W.fnOf "row" "Work.row" (defArgs s_Work_row) (defBody s_Work_row) (defScope s_Work_row) .none kV_Work_row dc_Work_row pm_Work_row an_Work_row cd_Work_row ct_Work_row), sl_Work_row⟩) (c_Work_row : PySem.W.codeIn K cd_Work_row "Work.row" = true) (k_Work_row : PySem.W.keepIn K (.ref f_Work_row) = true)
    (a_Work_kind : PySem.W.findIn K (.ref q_Work) "kind" = some (some (.ref f_Work_kind))) (i_Work_kind : PySem.W.isFn K (.ref f_Work_kind) = true)
    (l_Work_kind : K.lookup f_Work_kind = some ⟨oc_Work_kind, od_Work_kind, .func (PySem.W.fnOf "kind" "Work.kind" (defArgs s_Work_kind) (defBody s_Work_kind) (defScope s_Work_kind) .none kV_Work_kind dc_Work_kind pm_Work_kind an_Work_kind cd_Work_kind ct_Work_kind), sl_Work_kind⟩) (c_Work_kind : PySem.W.codeIn K cd_Work_kind "Work.kind" = true) (k_Work_kind : PySem.W.keepIn K (.ref f_Work_kind) = true)
    (a_Work_mover : PySem.W.findIn K (.ref q_Work) "mover" = some (some (.ref f_Work_mover))) (i_Work_mover : PySem.W.isFn K (.ref f_Work_mover) = true)
    (l_Work_mover : K.lookup f_Work_mover = some ⟨oc_Work_mover, od_Work_mover, .func (PySem.W.fnOf "mover" "Work.mover" (defArgs s_Work_mover) (defBody s_Work_mover) (defScope s_Work_mover) .none kV_Work_mover dc_Work_mover pm_Work_mover an_Work_mover cd_Work_mover ct_Work_mover), sl_Work_mover⟩) (c_Work_mover : PySem.W.codeIn K cd_Work_mover "Work.mover" = true) (k_Work_mover : PySem.W.keepIn K (.ref f_Work_mover) = true)
    (a_Work_steps : PySem.W.findIn K (.ref q_Work) "steps" = some (some (.ref f_Work_steps))) (i_Work_steps : PySem.W.isFn K (.ref f_Work_steps) = true)
    (l_Work_steps : K.lookup f_Work_steps = some ⟨oc_Work_steps, od_Work_steps, .func (PySem.W.fnOf "steps" "Work.steps" (defArgs s_Work_steps) (defBody s_Work_steps) (defScope s_Work_steps) .none kV_Work_steps dc_Work_steps pm_Work_steps an_Work_steps cd_Work_steps ct_Work_steps), sl_Work_steps⟩) (c_Work_steps : PySem.W.codeIn K cd_Work_steps "Work.steps" = true) (k_Work_steps : PySem.W.keepIn K (.ref f_Work_steps) = true)
    (a_Work_to : PySem.W.findIn K (.ref q_Work) "to" = some (some (.ref f_Work_to))) (i_Work_to : PySem.W.isFn K (.ref f_Work_to) = true)
    (l_Work_to : K.lookup f_Work_to = some ⟨oc_Work_to, od_Work_to, .func (PySem.W.fnOf "to" "Work.to" (defArgs s_Work_to) (defBody s_Work_to) (defScope s_Work_to) .none kV_Work_to dc_Work_to pm_Work_to an_Work_to cd_Work_to ct_Work_to), sl_Work_to⟩) (c_Work_to : PySem.W.codeIn K cd_Work_to "Work.to" = true) (k_Work_to : PySem.W.keepIn K (.ref f_Work_to) = true)
    (a_law_open : PySem.W.nsIn K mainGlobals "_law_open" = some (some (.ref f_law_open)))
    (l_law_open : K.lookup f_law_open = some ⟨oc_law_open, od_law_open, .func (PySem.W.fnOf "_law_open" "_law_open" (defArgs s_law_open) (defBody s_law_open) (defScope s_law_open) .none kV_law_open dc_law_open pm_law_open an_law_open cd_law_open ct_law_open), sl_law_open⟩) (c_law_open : PySem.W.codeIn K cd_law_open "_law_open" = true) (k_law_open : PySem.W.keepIn K (.ref f_law_open) = true)
    (a_law_draw : PySem.W.nsIn K mainGlobals "_law_draw" = some (some (.ref f_law_draw)))
    (l_law_draw : K.lookup f_law_draw = some ⟨oc_law_draw, od_law_draw, .func (PySem.W.fnOf "_law_draw" "_law_draw" (defArgs s_law_draw) (defBody s_law_draw) (defScope s_law_draw) .none kV_law_draw dc_law_draw pm_law_draw an_law_draw cd_law_draw ct_law_draw), sl_law_draw⟩) (c_law_draw : PySem.W.codeIn K cd_law_draw "_law_draw" = true) (k_law_draw : PySem.W.keepIn K (.ref f_law_draw) = true)
    (a_law_names : PySem.W.nsIn K mainGlobals "_law_names" = some (some (.ref f_law_names)))
    (l_law_names : K.lookup f_law_names = some ⟨oc_law_names, od_law_names, .func (PySem.W.fnOf "_law_names" "_law_names" (defArgs s_law_names) (defBody s_law_names) (defScope s_law_names) .none kV_law_names dc_law_names pm_law_names an_law_names cd_law_names ct_law_names), sl_law_names⟩) (c_law_names : PySem.W.codeIn K cd_law_names "_law_names" = true) (k_law_names : PySem.W.keepIn K (.ref f_law_names) = true)
    (a_law_target : PySem.W.nsIn K mainGlobals "_law_target" = some (some (.ref f_law_target)))
    (l_law_target : K.lookup f_law_target = some ⟨oc_law_target, od_law_target, .func (PySem.W.fnOf "_law_target" "_law_target" (defArgs s_law_target) (defBody s_law_target) (defScope s_law_target) .none kV_law_target dc_law_target pm_law_target an_law_target cd_law_target ct_law_target), sl_law_target⟩) (c_law_target : PySem.W.codeIn K cd_law_target "_law_target" = true) (k_law_target : PySem.W.keepIn K (.ref f_law_target) = true)
    (a_law_menu : PySem.W.nsIn K mainGlobals "_law_menu" = some (some (.ref f_law_menu)))
    (l_law_menu : K.lookup f_law_menu = some ⟨oc_law_menu, od_law_menu, .func (PySem.W.fnOf "_law_menu" "_law_menu" (defArgs s_law_menu) (defBody s_law_menu) (defScope s_law_menu) .none kV_law_menu dc_law_menu pm_law_menu an_law_menu cd_law_menu ct_law_menu), sl_law_menu⟩) (c_law_menu : PySem.W.codeIn K cd_law_menu "_law_menu" = true) (k_law_menu : PySem.W.keepIn K (.ref f_law_menu) = true)
    (a_law_stand : PySem.W.nsIn K mainGlobals "_law_stand" = some (some (.ref f_law_stand)))
    (l_law_stand : K.lookup f_law_stand = some ⟨oc_law_stand, od_law_stand, .func (PySem.W.fnOf "_law_stand" "_law_stand" (defArgs s_law_stand) (defBody s_law_stand) (defScope s_law_stand) .none kV_law_stand dc_law_stand pm_law_stand an_law_stand cd_law_stand ct_law_stand), sl_law_stand⟩) (c_law_stand : PySem.W.codeIn K cd_law_stand "_law_stand" = true) (k_law_stand : PySem.W.keepIn K (.ref f_law_stand) = true)
    (a_law_stands : PySem.W.nsIn K mainGlobals "_law_stands" = some (some (.ref f_law_stands)))
    (l_law_stands : K.lookup f_law_stands = some ⟨oc_law_stands, od_law_stands, .func (PySem.W.fnOf "_law_stands" "_law_stands" (defArgs s_law_stands) (defBody s_law_stands) (defScope s_law_stands) .none kV_law_stands dc_law_stands pm_law_stands an_law_stands cd_law_stands ct_law_stands), sl_law_stands⟩) (c_law_stands : PySem.W.codeIn K cd_law_stands "_law_stands" = true) (k_law_stands : PySem.W.keepIn K (.ref f_law_stands) = true)
    (a_law_build : PySem.W.nsIn K mainGlobals "_law_build" = some (some (.ref f_law_build)))
    (l_law_build : K.lookup f_law_build = some ⟨oc_law_build, od_law_build, .func (PySem.W.fnOf "_law_build" "_law_build" (defArgs s_law_build) (defBody s_law_build) (defScope s_law_build) .none kV_law_build dc_law_build pm_law_build an_law_build cd_law_build ct_law_build), sl_law_build⟩) (c_law_build : PySem.W.codeIn K cd_law_build "_law_build" = true) (k_law_build : PySem.W.keepIn K (.ref f_law_build) = true)
    (a_law_steps : PySem.W.nsIn K mainGlobals "_law_steps" = some (some (.ref f_law_steps)))
    (l_law_steps : K.lookup f_law_steps = some ⟨oc_law_steps, od_law_steps, .func (PySem.W.fnOf "_law_steps" "_law_steps" (defArgs s_law_steps) (defBody s_law_steps) (defScope s_law_steps) .none kV_law_steps dc_law_steps pm_law_steps an_law_steps cd_law_steps ct_law_steps), sl_law_steps⟩) (c_law_steps : PySem.W.codeIn K cd_law_steps "_law_steps" = true) (k_law_steps : PySem.W.keepIn K (.ref f_law_steps) = true)
    (a_law_to : PySem.W.nsIn K mainGlobals "_law_to" = some (some (.ref f_law_to)))
    (l_law_to : K.lookup f_law_to = some ⟨oc_law_to, od_law_to, .func (PySem.W.fnOf "_law_to" "_law_to" (defArgs s_law_to) (defBody s_law_to) (defScope s_law_to) .none kV_law_to dc_law_to pm_law_to an_law_to cd_law_to ct_law_to), sl_law_to⟩) (c_law_to : PySem.W.codeIn K cd_law_to "_law_to" = true) (k_law_to : PySem.W.keepIn K (.ref f_law_to) = true)
    (a_law_mover : PySem.W.nsIn K mainGlobals "_law_mover" = some (some (.ref f_law_mover)))
    (l_law_mover : K.lookup f_law_mover = some ⟨oc_law_mover, od_law_mover, .func (PySem.W.fnOf "_law_mover" "_law_mover" (defArgs s_law_mover) (defBody s_law_mover) (defScope s_law_mover) .none kV_law_mover dc_law_mover pm_law_mover an_law_mover cd_law_mover ct_law_mover), sl_law_mover⟩) (c_law_mover : PySem.W.codeIn K cd_law_mover "_law_mover" = true) (k_law_mover : PySem.W.keepIn K (.ref f_law_mover) = true)
    (a_law_worths : PySem.W.nsIn K mainGlobals "_law_worths" = some (some (.ref f_law_worths)))
    (l_law_worths : K.lookup f_law_worths = some ⟨oc_law_worths, od_law_worths, .func (PySem.W.fnOf "_law_worths" "_law_worths" (defArgs s_law_worths) (defBody s_law_worths) (defScope s_law_worths) .none kV_law_worths dc_law_worths pm_law_worths an_law_worths cd_law_worths ct_law_worths), sl_law_worths⟩) (c_law_worths : PySem.W.codeIn K cd_law_worths "_law_worths" = true) (k_law_worths : PySem.W.keepIn K (.ref f_law_worths) = true)
    (a_law_endless : PySem.W.nsIn K mainGlobals "_law_endless" = some (some (.ref f_law_endless)))
    (l_law_endless : K.lookup f_law_endless = some ⟨oc_law_endless, od_law_endless, .func (PySem.W.fnOf "_law_endless" "_law_endless" (defArgs s_law_endless) (defBody s_law_endless) (defScope s_law_endless) .none kV_law_endless dc_law_endless pm_law_endless an_law_endless cd_law_endless ct_law_endless), sl_law_endless⟩) (c_law_endless : PySem.W.codeIn K cd_law_endless "_law_endless" = true) (k_law_endless : PySem.W.keepIn K (.ref f_law_endless) = true)
    (a_law_level : PySem.W.nsIn K mainGlobals "_law_level" = some (some (.ref f_law_level)))
    (l_law_level : K.lookup f_law_level = some ⟨oc_law_level, od_law_level, .func (PySem.W.fnOf "_law_level" "_law_level" (defArgs s_law_level) (defBody s_law_level) (defScope s_law_level) .none kV_law_level dc_law_level pm_law_level an_law_level cd_law_level ct_law_level), sl_law_level⟩) (c_law_level : PySem.W.codeIn K cd_law_level "_law_level" = true) (k_law_level : PySem.W.keepIn K (.ref f_law_level) = true)
    (a_common_divisor : PySem.W.nsIn K mainGlobals "common_divisor" = some (some (.ref f_common_divisor)))
    (l_common_divisor : K.lookup f_common_divisor = some ⟨oc_common_divisor, od_common_divisor, .func (PySem.W.fnOf "common_divisor" "common_divisor" (defArgs s_common_divisor) (defBody s_common_divisor) (defScope s_common_divisor) .none kV_common_divisor dc_common_divisor pm_common_divisor an_common_divisor cd_common_divisor ct_common_divisor), sl_common_divisor⟩) (c_common_divisor : PySem.W.codeIn K cd_common_divisor "common_divisor" = true) (k_common_divisor : PySem.W.keepIn K (.ref f_common_divisor) = true)
    (a_is_fraction : PySem.W.nsIn K mainGlobals "is_fraction" = some (some (.ref f_is_fraction)))
    (l_is_fraction : K.lookup f_is_fraction = some ⟨oc_is_fraction, od_is_fraction, .func (PySem.W.fnOf "is_fraction" "is_fraction" (defArgs s_is_fraction) (defBody s_is_fraction) (defScope s_is_fraction) .none kV_is_fraction dc_is_fraction pm_is_fraction an_is_fraction cd_is_fraction ct_is_fraction), sl_is_fraction⟩) (c_is_fraction : PySem.W.codeIn K cd_is_fraction "is_fraction" = true) (k_is_fraction : PySem.W.keepIn K (.ref f_is_fraction) = true)
    (a_is_lot : PySem.W.nsIn K mainGlobals "is_lot" = some (some (.ref f_is_lot)))
    (l_is_lot : K.lookup f_is_lot = some ⟨oc_is_lot, od_is_lot, .func (PySem.W.fnOf "is_lot" "is_lot" (defArgs s_is_lot) (defBody s_is_lot) (defScope s_is_lot) .none kV_is_lot dc_is_lot pm_is_lot an_is_lot cd_is_lot ct_is_lot), sl_is_lot⟩) (c_is_lot : PySem.W.codeIn K cd_is_lot "is_lot" = true) (k_is_lot : PySem.W.keepIn K (.ref f_is_lot) = true)
    (a_checked_lot : PySem.W.nsIn K mainGlobals "checked_lot" = some (some (.ref f_checked_lot)))
    (l_checked_lot : K.lookup f_checked_lot = some ⟨oc_checked_lot, od_checked_lot, .func (PySem.W.fnOf "checked_lot" "checked_lot" (defArgs s_checked_lot) (defBody s_checked_lot) (defScope s_checked_lot) .none kV_checked_lot dc_checked_lot pm_checked_lot an_checked_lot cd_checked_lot ct_checked_lot), sl_checked_lot⟩) (c_checked_lot : PySem.W.codeIn K cd_checked_lot "checked_lot" = true) (k_checked_lot : PySem.W.keepIn K (.ref f_checked_lot) = true)
    (a_is_value : PySem.W.nsIn K mainGlobals "is_value" = some (some (.ref f_is_value)))
    (l_is_value : K.lookup f_is_value = some ⟨oc_is_value, od_is_value, .func (PySem.W.fnOf "is_value" "is_value" (defArgs s_is_value) (defBody s_is_value) (defScope s_is_value) .none kV_is_value dc_is_value pm_is_value an_is_value cd_is_value ct_is_value), sl_is_value⟩) (c_is_value : PySem.W.codeIn K cd_is_value "is_value" = true) (k_is_value : PySem.W.keepIn K (.ref f_is_value) = true)
    (a_are_worths : PySem.W.nsIn K mainGlobals "are_worths" = some (some (.ref f_are_worths)))
    (l_are_worths : K.lookup f_are_worths = some ⟨oc_are_worths, od_are_worths, .func (PySem.W.fnOf "are_worths" "are_worths" (defArgs s_are_worths) (defBody s_are_worths) (defScope s_are_worths) .none kV_are_worths dc_are_worths pm_are_worths an_are_worths cd_are_worths ct_are_worths), sl_are_worths⟩) (c_are_worths : PySem.W.codeIn K cd_are_worths "are_worths" = true) (k_are_worths : PySem.W.keepIn K (.ref f_are_worths) = true)
    (a_Wish_init : PySem.W.findIn K (.ref q_Wish) "__init__" = some (some (.ref f_Wish_init))) (i_Wish_init : PySem.W.isFn K (.ref f_Wish_init) = true)
    (l_Wish_init : K.lookup f_Wish_init = some ⟨oc_Wish_init, od_Wish_init, .func (PySem.W.fnOf "__init__" "Wish.__init__" (defArgs s_Wish_init) (defBody s_Wish_init) (defScope s_Wish_init) .none kV_Wish_init dc_Wish_init pm_Wish_init an_Wish_init cd_Wish_init ct_Wish_init), sl_Wish_init⟩) (c_Wish_init : PySem.W.codeIn K cd_Wish_init "Wish.__init__" = true) (k_Wish_init : PySem.W.keepIn K (.ref f_Wish_init) = true)
    (a_Wish_worths : PySem.W.findIn K (.ref q_Wish) "worths" = some (some (.ref p_Wish_worths))) (g_Wish_worths : PySem.W.specialIn K (.ref p_Wish_worths) "__get__" = some (some (.builtin "property.__get__"))) (t_Wish_worths : PySem.W.takesIn K (.ref p_Wish_worths) = some true) (rc_Wish_worths : PySem.W.recIn K p_Wish_worths "property" = some (.ref f_Wish_worths :: r_Wish_worths))
    (l_Wish_worths : K.lookup f_Wish_worths = some ⟨oc_Wish_worths, od_Wish_worths, .func (PySem.W.fnOf "worths" "Wish.worths" (defArgs s_Wish_worths) (defBody s_Wish_worths) (defScope s_Wish_worths) .none kV_Wish_worths dc_Wish_worths pm_Wish_worths an_Wish_worths cd_Wish_worths ct_Wish_worths), sl_Wish_worths⟩) (c_Wish_worths : PySem.W.codeIn K cd_Wish_worths "Wish.worths" = true) (k_Wish_worths : PySem.W.keepIn K (.ref f_Wish_worths) = true)
    (a_suited : PySem.W.nsIn K mainGlobals "suited" = some (some (.ref f_suited)))
    (l_suited : K.lookup f_suited = some ⟨oc_suited, od_suited, .func (PySem.W.fnOf "suited" "suited" (defArgs s_suited) (defBody s_suited) (defScope s_suited) .none kV_suited dc_suited pm_suited an_suited cd_suited ct_suited), sl_suited⟩) (c_suited : PySem.W.codeIn K cd_suited "suited" = true) (k_suited : PySem.W.keepIn K (.ref f_suited) = true)
    (a_suited_lot : PySem.W.nsIn K mainGlobals "suited_lot" = some (some (.ref f_suited_lot)))
    (l_suited_lot : K.lookup f_suited_lot = some ⟨oc_suited_lot, od_suited_lot, .func (PySem.W.fnOf "suited_lot" "suited_lot" (defArgs s_suited_lot) (defBody s_suited_lot) (defScope s_suited_lot) .none kV_suited_lot dc_suited_lot pm_suited_lot an_suited_lot cd_suited_lot ct_suited_lot), sl_suited_lot⟩) (c_suited_lot : PySem.W.codeIn K cd_suited_lot "suited_lot" = true) (k_suited_lot : PySem.W.keepIn K (.ref f_suited_lot) = true)
    (a_is_entry : PySem.W.nsIn K mainGlobals "is_entry" = some (some (.ref f_is_entry)))
    (l_is_entry : K.lookup f_is_entry = some ⟨oc_is_entry, od_is_entry, .func (PySem.W.fnOf "is_entry" "is_entry" (defArgs s_is_entry) (defBody s_is_entry) (defScope s_is_entry) .none kV_is_entry dc_is_entry pm_is_entry an_is_entry cd_is_entry ct_is_entry), sl_is_entry⟩) (c_is_entry : PySem.W.codeIn K cd_is_entry "is_entry" = true) (k_is_entry : PySem.W.keepIn K (.ref f_is_entry) = true)
    (a_is_book : PySem.W.nsIn K mainGlobals "is_book" = some (some (.ref f_is_book)))
    (l_is_book : K.lookup f_is_book = some ⟨oc_is_book, od_is_book, .func (PySem.W.fnOf "is_book" "is_book" (defArgs s_is_book) (defBody s_is_book) (defScope s_is_book) .none kV_is_book dc_is_book pm_is_book an_is_book cd_is_book ct_is_book), sl_is_book⟩) (c_is_book : PySem.W.codeIn K cd_is_book "is_book" = true) (k_is_book : PySem.W.keepIn K (.ref f_is_book) = true)
    (a_let_steps : PySem.W.nsIn K mainGlobals "let_steps" = some (some (.ref f_let_steps)))
    (l_let_steps : K.lookup f_let_steps = some ⟨oc_let_steps, od_let_steps, .func (PySem.W.fnOf "let_steps" "let_steps" (defArgs s_let_steps) (defBody s_let_steps) (defScope s_let_steps) .none kV_let_steps dc_let_steps pm_let_steps an_let_steps cd_let_steps ct_let_steps), sl_let_steps⟩) (c_let_steps : PySem.W.codeIn K cd_let_steps "let_steps" = true) (k_let_steps : PySem.W.keepIn K (.ref f_let_steps) = true)
    (a_let_ways : PySem.W.nsIn K mainGlobals "let_ways" = some (some (.ref f_let_ways)))
    (l_let_ways : K.lookup f_let_ways = some ⟨oc_let_ways, od_let_ways, .func (PySem.W.fnOf "let_ways" "let_ways" (defArgs s_let_ways) (defBody s_let_ways) (defScope s_let_ways) .none kV_let_ways dc_let_ways pm_let_ways an_let_ways cd_let_ways ct_let_ways), sl_let_ways⟩) (c_let_ways : PySem.W.codeIn K cd_let_ways "let_ways" = true) (k_let_ways : PySem.W.keepIn K (.ref f_let_ways) = true)
    (a_way_to : PySem.W.nsIn K mainGlobals "way_to" = some (some (.ref f_way_to)))
    (l_way_to : K.lookup f_way_to = some ⟨oc_way_to, od_way_to, .func (PySem.W.fnOf "way_to" "way_to" (defArgs s_way_to) (defBody s_way_to) (defScope s_way_to) .none kV_way_to dc_way_to pm_way_to an_way_to cd_way_to ct_way_to), sl_way_to⟩) (c_way_to : PySem.W.codeIn K cd_way_to "way_to" = true) (k_way_to : PySem.W.keepIn K (.ref f_way_to) = true)
    (a_is_below : PySem.W.nsIn K mainGlobals "is_below" = some (some (.ref f_is_below)))
    (l_is_below : K.lookup f_is_below = some ⟨oc_is_below, od_is_below, .func (PySem.W.fnOf "is_below" "is_below" (defArgs s_is_below) (defBody s_is_below) (defScope s_is_below) .none kV_is_below dc_is_below pm_is_below an_is_below cd_is_below ct_is_below), sl_is_below⟩) (c_is_below : PySem.W.codeIn K cd_is_below "is_below" = true) (k_is_below : PySem.W.keepIn K (.ref f_is_below) = true)
    (a_checked_book : PySem.W.nsIn K mainGlobals "checked_book" = some (some (.ref f_checked_book)))
    (l_checked_book : K.lookup f_checked_book = some ⟨oc_checked_book, od_checked_book, .func (PySem.W.fnOf "checked_book" "checked_book" (defArgs s_checked_book) (defBody s_checked_book) (defScope s_checked_book) .none kV_checked_book dc_checked_book pm_checked_book an_checked_book cd_checked_book ct_checked_book), sl_checked_book⟩) (c_checked_book : PySem.W.codeIn K cd_checked_book "checked_book" = true) (k_checked_book : PySem.W.keepIn K (.ref f_checked_book) = true)
    (a_breaking : PySem.W.nsIn K mainGlobals "breaking" = some (some (.ref f_breaking)))
    (l_breaking : K.lookup f_breaking = some ⟨oc_breaking, od_breaking, .func (PySem.W.fnOf "breaking" "breaking" (defArgs s_breaking) (defBody s_breaking) (defScope s_breaking) .none kV_breaking dc_breaking pm_breaking an_breaking cd_breaking ct_breaking), sl_breaking⟩) (c_breaking : PySem.W.codeIn K cd_breaking "breaking" = true) (k_breaking : PySem.W.keepIn K (.ref f_breaking) = true)
    (a_keeps : PySem.W.nsIn K mainGlobals "keeps" = some (some (.ref f_keeps)))
    (l_keeps : K.lookup f_keeps = some ⟨oc_keeps, od_keeps, .func (PySem.W.fnOf "keeps" "keeps" (defArgs s_keeps) (defBody s_keeps) (defScope s_keeps) .none kV_keeps dc_keeps pm_keeps an_keeps cd_keeps ct_keeps), sl_keeps⟩) (c_keeps : PySem.W.codeIn K cd_keeps "keeps" = true) (k_keeps : PySem.W.keepIn K (.ref f_keeps) = true)
    (a_kept_stands : PySem.W.nsIn K mainGlobals "kept_stands" = some (some (.ref f_kept_stands)))
    (l_kept_stands : K.lookup f_kept_stands = some ⟨oc_kept_stands, od_kept_stands, .func (PySem.W.fnOf "kept_stands" "kept_stands" (defArgs s_kept_stands) (defBody s_kept_stands) (defScope s_kept_stands) .none kV_kept_stands dc_kept_stands pm_kept_stands an_kept_stands cd_kept_stands ct_kept_stands), sl_kept_stands⟩) (c_kept_stands : PySem.W.codeIn K cd_kept_stands "kept_stands" = true) (k_kept_stands : PySem.W.keepIn K (.ref f_kept_stands) = true)
    (a_is_drawn_in : PySem.W.nsIn K mainGlobals "is_drawn_in" = some (some (.ref f_is_drawn_in)))
    (l_is_drawn_in : K.lookup f_is_drawn_in = some ⟨oc_is_drawn_in, od_is_drawn_in, .func (PySem.W.fnOf "is_drawn_in" "is_drawn_in" (defArgs s_is_drawn_in) (defBody s_is_drawn_in) (defScope s_is_drawn_in) .none kV_is_drawn_in dc_is_drawn_in pm_is_drawn_in an_is_drawn_in cd_is_drawn_in ct_is_drawn_in), sl_is_drawn_in⟩) (c_is_drawn_in : PySem.W.codeIn K cd_is_drawn_in "is_drawn_in" = true) (k_is_drawn_in : PySem.W.keepIn K (.ref f_is_drawn_in) = true)
    (a_bad_stands : PySem.W.nsIn K mainGlobals "bad_stands" = some (some (.ref f_bad_stands)))
    (l_bad_stands : K.lookup f_bad_stands = some ⟨oc_bad_stands, od_bad_stands, .func (PySem.W.fnOf "bad_stands" "bad_stands" (defArgs s_bad_stands) (defBody s_bad_stands) (defScope s_bad_stands) .none kV_bad_stands dc_bad_stands pm_bad_stands an_bad_stands cd_bad_stands ct_bad_stands), sl_bad_stands⟩) (c_bad_stands : PySem.W.codeIn K cd_bad_stands "bad_stands" = true) (k_bad_stands : PySem.W.keepIn K (.ref f_bad_stands) = true)
    (a_safe_stands : PySem.W.nsIn K mainGlobals "safe_stands" = some (some (.ref f_safe_stands)))
    (l_safe_stands : K.lookup f_safe_stands = some ⟨oc_safe_stands, od_safe_stands, .func (PySem.W.fnOf "safe_stands" "safe_stands" (defArgs s_safe_stands) (defBody s_safe_stands) (defScope s_safe_stands) .none kV_safe_stands dc_safe_stands pm_safe_stands an_safe_stands cd_safe_stands ct_safe_stands), sl_safe_stands⟩) (c_safe_stands : PySem.W.codeIn K cd_safe_stands "safe_stands" = true) (k_safe_stands : PySem.W.keepIn K (.ref f_safe_stands) = true)
    (a_freest : PySem.W.nsIn K mainGlobals "freest" = some (some (.ref f_freest)))
    (l_freest : K.lookup f_freest = some ⟨oc_freest, od_freest, .func (PySem.W.fnOf "freest" "freest" (defArgs s_freest) (defBody s_freest) (defScope s_freest) .none kV_freest dc_freest pm_freest an_freest cd_freest ct_freest), sl_freest⟩) (c_freest : PySem.W.codeIn K cd_freest "freest" = true) (k_freest : PySem.W.keepIn K (.ref f_freest) = true)
    (a_law_lot : PySem.W.nsIn K mainGlobals "_law_lot" = some (some (.ref f_law_lot)))
    (l_law_lot : K.lookup f_law_lot = some ⟨oc_law_lot, od_law_lot, .func (PySem.W.fnOf "_law_lot" "_law_lot" (defArgs s_law_lot) (defBody s_law_lot) (defScope s_law_lot) .none kV_law_lot dc_law_lot pm_law_lot an_law_lot cd_law_lot ct_law_lot), sl_law_lot⟩) (c_law_lot : PySem.W.codeIn K cd_law_lot "_law_lot" = true) (k_law_lot : PySem.W.keepIn K (.ref f_law_lot) = true)
    (a_law_book : PySem.W.nsIn K mainGlobals "_law_book" = some (some (.ref f_law_book)))
    (l_law_book : K.lookup f_law_book = some ⟨oc_law_book, od_law_book, .func (PySem.W.fnOf "_law_book" "_law_book" (defArgs s_law_book) (defBody s_law_book) (defScope s_law_book) .none kV_law_book dc_law_book pm_law_book an_law_book cd_law_book ct_law_book), sl_law_book⟩) (c_law_book : PySem.W.codeIn K cd_law_book "_law_book" = true) (k_law_book : PySem.W.keepIn K (.ref f_law_book) = true)
    (a_law_bad : PySem.W.nsIn K mainGlobals "_law_bad" = some (some (.ref f_law_bad)))
    (l_law_bad : K.lookup f_law_bad = some ⟨oc_law_bad, od_law_bad, .func (PySem.W.fnOf "_law_bad" "_law_bad" (defArgs s_law_bad) (defBody s_law_bad) (defScope s_law_bad) .none kV_law_bad dc_law_bad pm_law_bad an_law_bad cd_law_bad ct_law_bad), sl_law_bad⟩) (c_law_bad : PySem.W.codeIn K cd_law_bad "_law_bad" = true) (k_law_bad : PySem.W.keepIn K (.ref f_law_bad) = true)
    (a_law_due_book : PySem.W.nsIn K mainGlobals "_law_due_book" = some (some (.ref f_law_due_book)))
    (l_law_due_book : K.lookup f_law_due_book = some ⟨oc_law_due_book, od_law_due_book, .func (PySem.W.fnOf "_law_due_book" "_law_due_book" (defArgs s_law_due_book) (defBody s_law_due_book) (defScope s_law_due_book) .none kV_law_due_book dc_law_due_book pm_law_due_book an_law_due_book cd_law_due_book ct_law_due_book), sl_law_due_book⟩) (c_law_due_book : PySem.W.codeIn K cd_law_due_book "_law_due_book" = true) (k_law_due_book : PySem.W.keepIn K (.ref f_law_due_book) = true)
    (a_law_within : PySem.W.nsIn K mainGlobals "_law_within" = some (some (.ref f_law_within)))
    (l_law_within : K.lookup f_law_within = some ⟨oc_law_within, od_law_within, .func (PySem.W.fnOf "_law_within" "_law_within" (defArgs s_law_within) (defBody s_law_within) (defScope s_law_within) .none kV_law_within dc_law_within pm_law_within an_law_within cd_law_within ct_law_within), sl_law_within⟩) (c_law_within : PySem.W.codeIn K cd_law_within "_law_within" = true) (k_law_within : PySem.W.keepIn K (.ref f_law_within) = true)
    (a_law_no_ends : PySem.W.nsIn K mainGlobals "_law_no_ends" = some (some (.ref f_law_no_ends)))
    (l_law_no_ends : K.lookup f_law_no_ends = some ⟨oc_law_no_ends, od_law_no_ends, .func (PySem.W.fnOf "_law_no_ends" "_law_no_ends" (defArgs s_law_no_ends) (defBody s_law_no_ends) (defScope s_law_no_ends) .none kV_law_no_ends dc_law_no_ends pm_law_no_ends an_law_no_ends cd_law_no_ends ct_law_no_ends), sl_law_no_ends⟩) (c_law_no_ends : PySem.W.codeIn K cd_law_no_ends "_law_no_ends" = true) (k_law_no_ends : PySem.W.keepIn K (.ref f_law_no_ends) = true)
    (a_law_again : PySem.W.nsIn K mainGlobals "_law_again" = some (some (.ref f_law_again)))
    (l_law_again : K.lookup f_law_again = some ⟨oc_law_again, od_law_again, .func (PySem.W.fnOf "_law_again" "_law_again" (defArgs s_law_again) (defBody s_law_again) (defScope s_law_again) .none kV_law_again dc_law_again pm_law_again an_law_again cd_law_again ct_law_again), sl_law_again⟩) (c_law_again : PySem.W.codeIn K cd_law_again "_law_again" = true) (k_law_again : PySem.W.keepIn K (.ref f_law_again) = true)
    (a_law : PySem.W.nsIn K mainGlobals "law" = some (some (.ref f_law)))
    (l_law : K.lookup f_law = some ⟨oc_law, od_law, .func (PySem.W.fnOf "law" "law" (defArgs s_law) (defBody s_law) (defScope s_law) .none kV_law dc_law pm_law an_law cd_law ct_law), sl_law⟩) (c_law : PySem.W.codeIn K cd_law "law" = true) (k_law : PySem.W.keepIn K (.ref f_law) = true)
    (pg_Work : PySem.W.plainGet K q_Work Str.empty = true) (hd_Work : PySem.W.hasDictIn K q_Work = true) (po_Work : PySem.W.plainOver K q_Work = true) (sa_Work : PySem.W.findIn K (.ref q_Work) "__setattr__" = some (some (.builtin "object.__setattr__"))) (mk_Work : PySem.W.makesIn K q_Work = true) (kc_Work : PySem.W.keepIn K (.ref q_Work) = true)
    (n_Work_hands : PySem.W.findIn K (.ref q_Work) "hands" = some none)
    (n_Work_start : PySem.W.findIn K (.ref q_Work) "start" = some none)
    (n_Work_table : PySem.W.findIn K (.ref q_Work) "table" = some none)
    (n_Work_names : PySem.W.findIn K (.ref q_Work) "names" = some none)
    (n_Work_ends : PySem.W.findIn K (.ref q_Work) "ends" = some none)
    (n_Work_ringless : PySem.W.findIn K (.ref q_Work) "ringless" = some none)
    (pg_Wish : PySem.W.plainGet K q_Wish Str.empty = true) (hd_Wish : PySem.W.hasDictIn K q_Wish = true) (po_Wish : PySem.W.plainOver K q_Wish = true) (sa_Wish : PySem.W.findIn K (.ref q_Wish) "__setattr__" = some (some (.builtin "object.__setattr__"))) (mk_Wish : PySem.W.makesIn K q_Wish = true) (kc_Wish : PySem.W.keepIn K (.ref q_Wish) = true)
    (n_Wish_table : PySem.W.findIn K (.ref q_Wish) "table" = some none)
    (n_Wish_endless : PySem.W.findIn K (.ref q_Wish) "endless" = some none)
    (n_Wish_coming : PySem.W.findIn K (.ref q_Wish) "coming" = some none)
    (z_abs : PySem.W.nsIn K mainGlobals "abs" = some none)
    (z_all : PySem.W.nsIn K mainGlobals "all" = some none)
    (z_any : PySem.W.nsIn K mainGlobals "any" = some none)
    (z_bool : PySem.W.nsIn K mainGlobals "bool" = some none)
    (z_dict : PySem.W.nsIn K mainGlobals "dict" = some none)
    (z_enumerate : PySem.W.nsIn K mainGlobals "enumerate" = some none)
    (z_int : PySem.W.nsIn K mainGlobals "int" = some none)
    (z_isinstance : PySem.W.nsIn K mainGlobals "isinstance" = some none)
    (z_len : PySem.W.nsIn K mainGlobals "len" = some none)
    (z_list : PySem.W.nsIn K mainGlobals "list" = some none)
    (z_max : PySem.W.nsIn K mainGlobals "max" = some none)
    (z_min : PySem.W.nsIn K mainGlobals "min" = some none)
    (z_range : PySem.W.nsIn K mainGlobals "range" = some none)
    (z_sorted : PySem.W.nsIn K mainGlobals "sorted" = some none)
    (z_str : PySem.W.nsIn K mainGlobals "str" = some none)
    (z_tuple : PySem.W.nsIn K mainGlobals "tuple" = some none)
    : ∃ fd : FuncData, (∀ (s : Shared) (v : Value), BindsTo s fd ⟨[v], []⟩ [("script", v)]) ∧ ∀ base : Heap, K.In base → base.Ns mainGlobals mg → FnOk l.prog w K mg base CX0 8 fa fd ["script"] (spLaw K) := by
  have e := hfa.symm.trans (PySem.W.mg_of X G a_law)
  cases e
  have F_is_integer := fun_mk (st := s_is_integer) l_is_integer c_is_integer k_is_integer
  have b_is_integer := F_is_integer.binds (ps := P_is_integer) fun _ _ _ _ _ _ us hl => match us, hl with | [_], _ => rfl
  have F_is_name := fun_mk (st := s_is_name) l_is_name c_is_name k_is_name
  have b_is_name := F_is_name.binds (ps := P_is_name) fun _ _ _ _ _ _ us hl => match us, hl with | [_], _ => rfl
  have F_is_pair := fun_mk (st := s_is_pair) l_is_pair c_is_pair k_is_pair
  have b_is_pair := F_is_pair.binds (ps := P_is_pair) fun _ _ _ _ _ _ us hl => match us, hl with | [_], _ => rfl
  have F_is_moves := fun_mk (st := s_is_moves) l_is_moves c_is_moves k_is_moves
  have b_is_moves := F_is_moves.binds (ps := P_is_moves) fun _ _ _ _ _ _ us hl => match us, hl with | [_, _], _ => rfl
  have F_is_draws := fun_mk (st := s_is_draws) l_is_draws c_is_draws k_is_draws
  have b_is_draws := F_is_draws.binds (ps := P_is_draws) fun _ _ _ _ _ _ us hl => match us, hl with | [_, _], _ => rfl
  have F_is_stand := fun_mk (st := s_is_stand) l_is_stand c_is_stand k_is_stand
  have b_is_stand := F_is_stand.binds (ps := P_is_stand) fun _ _ _ _ _ _ us hl => match us, hl with | [_, _, _], _ => rfl
  have F_are_stands := fun_mk (st := s_are_stands) l_are_stands c_are_stands k_are_stands
  have b_are_stands := F_are_stands.binds (ps := P_are_stands) fun _ _ _ _ _ _ us hl => match us, hl with | [_, _], _ => rfl
  have F_copied := fun_mk (st := s_copied) l_copied c_copied k_copied
  have b_copied := F_copied.binds (ps := P_copied) fun _ _ _ _ _ _ us hl => match us, hl with | [_], _ => rfl
  have F_leads := fun_mk (st := s_leads) l_leads c_leads k_leads
  have b_leads := F_leads.binds (ps := P_leads) fun _ _ _ _ _ _ us hl => match us, hl with | [_, _], _ => rfl
  have F_is_ringless := fun_mk (st := s_is_ringless) l_is_ringless c_is_ringless k_is_ringless
  have b_is_ringless := F_is_ringless.binds (ps := P_is_ringless) fun _ _ _ _ _ _ us hl => match us, hl with | [_], _ => rfl
  have F_Work_init := fun_mk (st := s_Work_init) l_Work_init c_Work_init k_Work_init
  have b_Work_init := F_Work_init.binds (ps := P_Work_init) fun _ _ _ _ _ _ us hl => match us, hl with | [_, _, _, _], _ => rfl
  have F_Work_row := fun_mk (st := s_Work_row) l_Work_row c_Work_row k_Work_row
  have b_Work_row := F_Work_row.binds (ps := P_Work_row) fun _ _ _ _ _ _ us hl => match us, hl with | [_, _], _ => rfl
  have F_Work_kind := fun_mk (st := s_Work_kind) l_Work_kind c_Work_kind k_Work_kind
  have b_Work_kind := F_Work_kind.binds (ps := P_Work_kind) fun _ _ _ _ _ _ us hl => match us, hl with | [_, _], _ => rfl
  have F_Work_mover := fun_mk (st := s_Work_mover) l_Work_mover c_Work_mover k_Work_mover
  have b_Work_mover := F_Work_mover.binds (ps := P_Work_mover) fun _ _ _ _ _ _ us hl => match us, hl with | [_, _], _ => rfl
  have F_Work_steps := fun_mk (st := s_Work_steps) l_Work_steps c_Work_steps k_Work_steps
  have b_Work_steps := F_Work_steps.binds (ps := P_Work_steps) fun _ _ _ _ _ _ us hl => match us, hl with | [_, _], _ => rfl
  have F_Work_to := fun_mk (st := s_Work_to) l_Work_to c_Work_to k_Work_to
  have b_Work_to := F_Work_to.binds (ps := P_Work_to) fun _ _ _ _ _ _ us hl => match us, hl with | [_, _, _], _ => rfl
  have F_law_open := fun_mk (st := s_law_open) l_law_open c_law_open k_law_open
  have b_law_open := F_law_open.binds (ps := P_law_open) fun _ _ _ _ _ _ us hl => match us, hl with | [_, _], _ => rfl
  have F_law_draw := fun_mk (st := s_law_draw) l_law_draw c_law_draw k_law_draw
  have b_law_draw := F_law_draw.binds (ps := P_law_draw) fun _ _ _ _ _ _ us hl => match us, hl with | [_, _], _ => rfl
  have F_law_names := fun_mk (st := s_law_names) l_law_names c_law_names k_law_names
  have b_law_names := F_law_names.binds (ps := P_law_names) fun _ _ _ _ _ _ us hl => match us, hl with | [_, _], _ => rfl
  have F_law_target := fun_mk (st := s_law_target) l_law_target c_law_target k_law_target
  have b_law_target := F_law_target.binds (ps := P_law_target) fun _ _ _ _ _ _ us hl => match us, hl with | [_, _, _, _], _ => rfl
  have F_law_menu := fun_mk (st := s_law_menu) l_law_menu c_law_menu k_law_menu
  have b_law_menu := F_law_menu.binds (ps := P_law_menu) fun _ _ _ _ _ _ us hl => match us, hl with | [_], _ => rfl
  have F_law_stand := fun_mk (st := s_law_stand) l_law_stand c_law_stand k_law_stand
  have b_law_stand := F_law_stand.binds (ps := P_law_stand) fun _ _ _ _ _ _ us hl => match us, hl with | [_, _, _, _, _, _], _ => rfl
  have F_law_stands := fun_mk (st := s_law_stands) l_law_stands c_law_stands k_law_stands
  have b_law_stands := F_law_stands.binds (ps := P_law_stands) fun _ _ _ _ _ _ us hl => match us, hl with | [_, _, _, _], _ => rfl
  have F_law_build := fun_mk (st := s_law_build) l_law_build c_law_build k_law_build
  have b_law_build := F_law_build.binds (ps := P_law_build) fun _ _ _ _ _ _ us hl => match us, hl with | [_], _ => rfl
  have F_law_steps := fun_mk (st := s_law_steps) l_law_steps c_law_steps k_law_steps
  have b_law_steps := F_law_steps.binds (ps := P_law_steps) fun _ _ _ _ _ _ us hl => match us, hl with | [_, _], _ => rfl
  have F_law_to := fun_mk (st := s_law_to) l_law_to c_law_to k_law_to
  have b_law_to := F_law_to.binds (ps := P_law_to) fun _ _ _ _ _ _ us hl => match us, hl with | [_, _, _], _ => rfl
  have F_law_mover := fun_mk (st := s_law_mover) l_law_mover c_law_mover k_law_mover
  have b_law_mover := F_law_mover.binds (ps := P_law_mover) fun _ _ _ _ _ _ us hl => match us, hl with | [_, _], _ => rfl
  have F_law_worths := fun_mk (st := s_law_worths) l_law_worths c_law_worths k_law_worths
  have b_law_worths := F_law_worths.binds (ps := P_law_worths) fun _ _ _ _ _ _ us hl => match us, hl with | [_, _], _ => rfl
  have F_law_endless := fun_mk (st := s_law_endless) l_law_endless c_law_endless k_law_endless
  have b_law_endless := F_law_endless.binds (ps := P_law_endless) fun _ _ _ _ _ _ us hl => match us, hl with | [_, _], _ => rfl
  have F_law_level := fun_mk (st := s_law_level) l_law_level c_law_level k_law_level
  have b_law_level := F_law_level.binds (ps := P_law_level) fun _ _ _ _ _ _ us hl => match us, hl with | [_, _, _], _ => rfl
  have F_common_divisor := fun_mk (st := s_common_divisor) l_common_divisor c_common_divisor k_common_divisor
  have b_common_divisor := F_common_divisor.binds (ps := P_common_divisor) fun _ _ _ _ _ _ us hl => match us, hl with | [_, _], _ => rfl
  have F_is_fraction := fun_mk (st := s_is_fraction) l_is_fraction c_is_fraction k_is_fraction
  have b_is_fraction := F_is_fraction.binds (ps := P_is_fraction) fun _ _ _ _ _ _ us hl => match us, hl with | [_], _ => rfl
  have F_is_lot := fun_mk (st := s_is_lot) l_is_lot c_is_lot k_is_lot
  have b_is_lot := F_is_lot.binds (ps := P_is_lot) fun _ _ _ _ _ _ us hl => match us, hl with | [_, _], _ => rfl
  have F_checked_lot := fun_mk (st := s_checked_lot) l_checked_lot c_checked_lot k_checked_lot
  have b_checked_lot := F_checked_lot.binds (ps := P_checked_lot) fun _ _ _ _ _ _ us hl => match us, hl with | [_, _], _ => rfl
  have F_is_value := fun_mk (st := s_is_value) l_is_value c_is_value k_is_value
  have b_is_value := F_is_value.binds (ps := P_is_value) fun _ _ _ _ _ _ us hl => match us, hl with | [_], _ => rfl
  have F_are_worths := fun_mk (st := s_are_worths) l_are_worths c_are_worths k_are_worths
  have b_are_worths := F_are_worths.binds (ps := P_are_worths) fun _ _ _ _ _ _ us hl => match us, hl with | [_], _ => rfl
  have F_Wish_init := fun_mk (st := s_Wish_init) l_Wish_init c_Wish_init k_Wish_init
  have b_Wish_init := F_Wish_init.binds (ps := P_Wish_init) fun _ _ _ _ _ _ us hl => match us, hl with | [_, _, _], _ => rfl
  have F_Wish_worths := fun_mk (st := s_Wish_worths) l_Wish_worths c_Wish_worths k_Wish_worths
  have b_Wish_worths := F_Wish_worths.binds (ps := P_Wish_worths) fun _ _ _ _ _ _ us hl => match us, hl with | [_], _ => rfl
  have F_suited := fun_mk (st := s_suited) l_suited c_suited k_suited
  have b_suited := F_suited.binds (ps := P_suited) fun _ _ _ _ _ _ us hl => match us, hl with | [_, _], _ => rfl
  have F_suited_lot := fun_mk (st := s_suited_lot) l_suited_lot c_suited_lot k_suited_lot
  have b_suited_lot := F_suited_lot.binds (ps := P_suited_lot) fun _ _ _ _ _ _ us hl => match us, hl with | [_, _, _], _ => rfl
  have F_is_entry := fun_mk (st := s_is_entry) l_is_entry c_is_entry k_is_entry
  have b_is_entry := F_is_entry.binds (ps := P_is_entry) fun _ _ _ _ _ _ us hl => match us, hl with | [_, _], _ => rfl
  have F_is_book := fun_mk (st := s_is_book) l_is_book c_is_book k_is_book
  have b_is_book := F_is_book.binds (ps := P_is_book) fun _ _ _ _ _ _ us hl => match us, hl with | [_, _], _ => rfl
  have F_let_steps := fun_mk (st := s_let_steps) l_let_steps c_let_steps k_let_steps
  have b_let_steps := F_let_steps.binds (ps := P_let_steps) fun _ _ _ _ _ _ us hl => match us, hl with | [_, _, _], _ => rfl
  have F_let_ways := fun_mk (st := s_let_ways) l_let_ways c_let_ways k_let_ways
  have b_let_ways := F_let_ways.binds (ps := P_let_ways) fun _ _ _ _ _ _ us hl => match us, hl with | [_, _], _ => rfl
  have F_way_to := fun_mk (st := s_way_to) l_way_to c_way_to k_way_to
  have b_way_to := F_way_to.binds (ps := P_way_to) fun _ _ _ _ _ _ us hl => match us, hl with | [_, _], _ => rfl
  have F_is_below := fun_mk (st := s_is_below) l_is_below c_is_below k_is_below
  have b_is_below := F_is_below.binds (ps := P_is_below) fun _ _ _ _ _ _ us hl => match us, hl with | [_, _], _ => rfl
  have F_checked_book := fun_mk (st := s_checked_book) l_checked_book c_checked_book k_checked_book
  have b_checked_book := F_checked_book.binds (ps := P_checked_book) fun _ _ _ _ _ _ us hl => match us, hl with | [_, _, _, _], _ => rfl
  have F_breaking := fun_mk (st := s_breaking) l_breaking c_breaking k_breaking
  have b_breaking := F_breaking.binds (ps := P_breaking) fun _ _ _ _ _ _ us hl => match us, hl with | [_, _, _, _], _ => rfl
  have F_keeps := fun_mk (st := s_keeps) l_keeps c_keeps k_keeps
  have b_keeps := F_keeps.binds (ps := P_keeps) fun _ _ _ _ _ _ us hl => match us, hl with | [_, _, _, _], _ => rfl
  have F_kept_stands := fun_mk (st := s_kept_stands) l_kept_stands c_kept_stands k_kept_stands
  have b_kept_stands := F_kept_stands.binds (ps := P_kept_stands) fun _ _ _ _ _ _ us hl => match us, hl with | [_, _, _, _], _ => rfl
  have F_is_drawn_in := fun_mk (st := s_is_drawn_in) l_is_drawn_in c_is_drawn_in k_is_drawn_in
  have b_is_drawn_in := F_is_drawn_in.binds (ps := P_is_drawn_in) fun _ _ _ _ _ _ us hl => match us, hl with | [_, _, _, _], _ => rfl
  have F_bad_stands := fun_mk (st := s_bad_stands) l_bad_stands c_bad_stands k_bad_stands
  have b_bad_stands := F_bad_stands.binds (ps := P_bad_stands) fun _ _ _ _ _ _ us hl => match us, hl with | [_, _, _, _], _ => rfl
  have F_safe_stands := fun_mk (st := s_safe_stands) l_safe_stands c_safe_stands k_safe_stands
  have b_safe_stands := F_safe_stands.binds (ps := P_safe_stands) fun _ _ _ _ _ _ us hl => match us, hl with | [_, _, _, _], _ => rfl
  have F_freest := fun_mk (st := s_freest) l_freest c_freest k_freest
  have b_freest := F_freest.binds (ps := P_freest) fun _ _ _ _ _ _ us hl => match us, hl with | [_, _, _, _], _ => rfl
  have F_law_lot := fun_mk (st := s_law_lot) l_law_lot c_law_lot k_law_lot
  have b_law_lot := F_law_lot.binds (ps := P_law_lot) fun _ _ _ _ _ _ us hl => match us, hl with | [_, _], _ => rfl
  have F_law_book := fun_mk (st := s_law_book) l_law_book c_law_book k_law_book
  have b_law_book := F_law_book.binds (ps := P_law_book) fun _ _ _ _ _ _ us hl => match us, hl with | [_, _], _ => rfl
  have F_law_bad := fun_mk (st := s_law_bad) l_law_bad c_law_bad k_law_bad
  have b_law_bad := F_law_bad.binds (ps := P_law_bad) fun _ _ _ _ _ _ us hl => match us, hl with | [_, _, _, _], _ => rfl
  have F_law_due_book := fun_mk (st := s_law_due_book) l_law_due_book c_law_due_book k_law_due_book
  have b_law_due_book := F_law_due_book.binds (ps := P_law_due_book) fun _ _ _ _ _ _ us hl => match us, hl with | [_, _, _], _ => rfl
  have F_law_within := fun_mk (st := s_law_within) l_law_within c_law_within k_law_within
  have b_law_within := F_law_within.binds (ps := P_law_within) fun _ _ _ _ _ _ us hl => match us, hl with | [_, _, _, _, _], _ => rfl
  have F_law_no_ends := fun_mk (st := s_law_no_ends) l_law_no_ends c_law_no_ends k_law_no_ends
  have b_law_no_ends := F_law_no_ends.binds (ps := P_law_no_ends) fun _ _ _ _ _ _ us hl => match us, hl with | [_, _], _ => rfl
  have F_law_again := fun_mk (st := s_law_again) l_law_again c_law_again k_law_again
  have b_law_again := F_law_again.binds (ps := P_law_again) fun _ _ _ _ _ _ us hl => match us, hl with | [_, _, _, _, _, _, _], _ => rfl
  have F_law := fun_mk (st := s_law) l_law c_law k_law
  have b_law := F_law.binds (ps := P_law) fun _ _ _ _ _ _ us hl => match us, hl with | [_], _ => rfl
  let T : Tx K mg := {
    is_integer := ⟨f_is_integer, _, F_is_integer, PySem.W.mg_of X G a_is_integer, b_is_integer⟩
    is_name := ⟨f_is_name, _, F_is_name, PySem.W.mg_of X G a_is_name, b_is_name⟩
    is_pair := ⟨f_is_pair, _, F_is_pair, PySem.W.mg_of X G a_is_pair, b_is_pair⟩
    is_moves := ⟨f_is_moves, _, F_is_moves, PySem.W.mg_of X G a_is_moves, b_is_moves⟩
    is_draws := ⟨f_is_draws, _, F_is_draws, PySem.W.mg_of X G a_is_draws, b_is_draws⟩
    is_stand := ⟨f_is_stand, _, F_is_stand, PySem.W.mg_of X G a_is_stand, b_is_stand⟩
    are_stands := ⟨f_are_stands, _, F_are_stands, PySem.W.mg_of X G a_are_stands, b_are_stands⟩
    copied := ⟨f_copied, _, F_copied, PySem.W.mg_of X G a_copied, b_copied⟩
    leads := ⟨f_leads, _, F_leads, PySem.W.mg_of X G a_leads, b_leads⟩
    is_ringless := ⟨f_is_ringless, _, F_is_ringless, PySem.W.mg_of X G a_is_ringless, b_is_ringless⟩
    Work_init := ⟨f_Work_init, _, F_Work_init, b_Work_init⟩
    Work_row := ⟨f_Work_row, _, F_Work_row, b_Work_row⟩
    Work_kind := ⟨f_Work_kind, _, F_Work_kind, b_Work_kind⟩
    Work_mover := ⟨f_Work_mover, _, F_Work_mover, b_Work_mover⟩
    Work_steps := ⟨f_Work_steps, _, F_Work_steps, b_Work_steps⟩
    Work_to := ⟨f_Work_to, _, F_Work_to, b_Work_to⟩
    law_open := ⟨f_law_open, _, F_law_open, PySem.W.mg_of X G a_law_open, b_law_open⟩
    law_draw := ⟨f_law_draw, _, F_law_draw, PySem.W.mg_of X G a_law_draw, b_law_draw⟩
    law_names := ⟨f_law_names, _, F_law_names, PySem.W.mg_of X G a_law_names, b_law_names⟩
    law_target := ⟨f_law_target, _, F_law_target, PySem.W.mg_of X G a_law_target, b_law_target⟩
    law_menu := ⟨f_law_menu, _, F_law_menu, PySem.W.mg_of X G a_law_menu, b_law_menu⟩
    law_stand := ⟨f_law_stand, _, F_law_stand, PySem.W.mg_of X G a_law_stand, b_law_stand⟩
    law_stands := ⟨f_law_stands, _, F_law_stands, PySem.W.mg_of X G a_law_stands, b_law_stands⟩
    law_build := ⟨f_law_build, _, F_law_build, PySem.W.mg_of X G a_law_build, b_law_build⟩
    law_steps := ⟨f_law_steps, _, F_law_steps, PySem.W.mg_of X G a_law_steps, b_law_steps⟩
    law_to := ⟨f_law_to, _, F_law_to, PySem.W.mg_of X G a_law_to, b_law_to⟩
    law_mover := ⟨f_law_mover, _, F_law_mover, PySem.W.mg_of X G a_law_mover, b_law_mover⟩
    law_worths := ⟨f_law_worths, _, F_law_worths, PySem.W.mg_of X G a_law_worths, b_law_worths⟩
    law_endless := ⟨f_law_endless, _, F_law_endless, PySem.W.mg_of X G a_law_endless, b_law_endless⟩
    law_level := ⟨f_law_level, _, F_law_level, PySem.W.mg_of X G a_law_level, b_law_level⟩
    common_divisor := ⟨f_common_divisor, _, F_common_divisor, PySem.W.mg_of X G a_common_divisor, b_common_divisor⟩
    is_fraction := ⟨f_is_fraction, _, F_is_fraction, PySem.W.mg_of X G a_is_fraction, b_is_fraction⟩
    is_lot := ⟨f_is_lot, _, F_is_lot, PySem.W.mg_of X G a_is_lot, b_is_lot⟩
    checked_lot := ⟨f_checked_lot, _, F_checked_lot, PySem.W.mg_of X G a_checked_lot, b_checked_lot⟩
    is_value := ⟨f_is_value, _, F_is_value, PySem.W.mg_of X G a_is_value, b_is_value⟩
    are_worths := ⟨f_are_worths, _, F_are_worths, PySem.W.mg_of X G a_are_worths, b_are_worths⟩
    Wish_init := ⟨f_Wish_init, _, F_Wish_init, b_Wish_init⟩
    Wish_worths := ⟨f_Wish_worths, _, F_Wish_worths, b_Wish_worths⟩
    suited := ⟨f_suited, _, F_suited, PySem.W.mg_of X G a_suited, b_suited⟩
    suited_lot := ⟨f_suited_lot, _, F_suited_lot, PySem.W.mg_of X G a_suited_lot, b_suited_lot⟩
    is_entry := ⟨f_is_entry, _, F_is_entry, PySem.W.mg_of X G a_is_entry, b_is_entry⟩
    is_book := ⟨f_is_book, _, F_is_book, PySem.W.mg_of X G a_is_book, b_is_book⟩
    let_steps := ⟨f_let_steps, _, F_let_steps, PySem.W.mg_of X G a_let_steps, b_let_steps⟩
    let_ways := ⟨f_let_ways, _, F_let_ways, PySem.W.mg_of X G a_let_ways, b_let_ways⟩
    way_to := ⟨f_way_to, _, F_way_to, PySem.W.mg_of X G a_way_to, b_way_to⟩
    is_below := ⟨f_is_below, _, F_is_below, PySem.W.mg_of X G a_is_below, b_is_below⟩
    checked_book := ⟨f_checked_book, _, F_checked_book, PySem.W.mg_of X G a_checked_book, b_checked_book⟩
    breaking := ⟨f_breaking, _, F_breaking, PySem.W.mg_of X G a_breaking, b_breaking⟩
    keeps := ⟨f_keeps, _, F_keeps, PySem.W.mg_of X G a_keeps, b_keeps⟩
    kept_stands := ⟨f_kept_stands, _, F_kept_stands, PySem.W.mg_of X G a_kept_stands, b_kept_stands⟩
    is_drawn_in := ⟨f_is_drawn_in, _, F_is_drawn_in, PySem.W.mg_of X G a_is_drawn_in, b_is_drawn_in⟩
    bad_stands := ⟨f_bad_stands, _, F_bad_stands, PySem.W.mg_of X G a_bad_stands, b_bad_stands⟩
    safe_stands := ⟨f_safe_stands, _, F_safe_stands, PySem.W.mg_of X G a_safe_stands, b_safe_stands⟩
    freest := ⟨f_freest, _, F_freest, PySem.W.mg_of X G a_freest, b_freest⟩
    law_lot := ⟨f_law_lot, _, F_law_lot, PySem.W.mg_of X G a_law_lot, b_law_lot⟩
    law_book := ⟨f_law_book, _, F_law_book, PySem.W.mg_of X G a_law_book, b_law_book⟩
    law_bad := ⟨f_law_bad, _, F_law_bad, PySem.W.mg_of X G a_law_bad, b_law_bad⟩
    law_due_book := ⟨f_law_due_book, _, F_law_due_book, PySem.W.mg_of X G a_law_due_book, b_law_due_book⟩
    law_within := ⟨f_law_within, _, F_law_within, PySem.W.mg_of X G a_law_within, b_law_within⟩
    law_no_ends := ⟨f_law_no_ends, _, F_law_no_ends, PySem.W.mg_of X G a_law_no_ends, b_law_no_ends⟩
    law_again := ⟨f_law_again, _, F_law_again, PySem.W.mg_of X G a_law_again, b_law_again⟩
    law := ⟨fa, _, F_law, PySem.W.mg_of X G a_law, b_law⟩
    b_abs := PySem.W.mg_none_of X G z_abs
    b_all := PySem.W.mg_none_of X G z_all
    b_any := PySem.W.mg_none_of X G z_any
    b_bool := PySem.W.mg_none_of X G z_bool
    b_dict := PySem.W.mg_none_of X G z_dict
    b_enumerate := PySem.W.mg_none_of X G z_enumerate
    b_int := PySem.W.mg_none_of X G z_int
    b_isinstance := PySem.W.mg_none_of X G z_isinstance
    b_len := PySem.W.mg_none_of X G z_len
    b_list := PySem.W.mg_none_of X G z_list
    b_max := PySem.W.mg_none_of X G z_max
    b_min := PySem.W.mg_none_of X G z_min
    b_range := PySem.W.mg_none_of X G z_range
    b_sorted := PySem.W.mg_none_of X G z_sorted
    b_str := PySem.W.mg_none_of X G z_str
    b_tuple := PySem.W.mg_none_of X G z_tuple
    a_Work := q_Work
    g_Work := PySem.W.mg_of X G a_Work
    cl_Work := ⟨pg_Work, hd_Work, po_Work, sa_Work⟩
    m_Work := ⟨mk_Work, a_Work_init, i_Work_init, kc_Work⟩
    n_Work_hands := n_Work_hands
    n_Work_start := n_Work_start
    n_Work_table := n_Work_table
    n_Work_names := n_Work_names
    n_Work_ends := n_Work_ends
    n_Work_ringless := n_Work_ringless
    a_Wish := q_Wish
    g_Wish := PySem.W.mg_of X G a_Wish
    cl_Wish := ⟨pg_Wish, hd_Wish, po_Wish, sa_Wish⟩
    m_Wish := ⟨mk_Wish, a_Wish_init, i_Wish_init, kc_Wish⟩
    n_Wish_table := n_Wish_table
    n_Wish_endless := n_Wish_endless
    n_Wish_coming := n_Wish_coming
    me_Work_row := ⟨a_Work_row, i_Work_row, k_Work_row⟩
    me_Work_kind := ⟨a_Work_kind, i_Work_kind, k_Work_kind⟩
    me_Work_mover := ⟨a_Work_mover, i_Work_mover, k_Work_mover⟩
    me_Work_steps := ⟨a_Work_steps, i_Work_steps, k_Work_steps⟩
    me_Work_to := ⟨a_Work_to, i_Work_to, k_Work_to⟩
    p_Wish_worths := p_Wish_worths
    pr_Wish_worths := ⟨a_Wish_worths, g_Wish_worths, t_Wish_worths, r_Wish_worths, rc_Wish_worths⟩
  }
  exact ⟨PySem.W.fnOf "law" "law" (defArgs s_law) (defBody s_law) (defScope s_law) .none kV_law dc_law pm_law an_law cd_law ct_law, fun s v => .of_eq rfl, fun base _ _ => ok_law T⟩
theorem walk {l : PySem.W.OpenLaw} {q : Program} {loose : List Str} {XP : (Str → Option Value) → Heap → Prop} {YP : World → Heap → Prop} {d : DefRec} {K : Params → PySem.W.Frag} (hn : l.most = some 63) (hdf : d.params.defaults = [])
    (hY : ∀ (w : World) (h : Heap), YP w h → (K w.params).In h)
    (F : ∀ (w : World) (mg : Str → Option Value) (fa : Addr) (h : Heap), (K w.params).In h → h.Ns mainGlobals mg → mg d.name = some (.ref fa) →
      ∃ fd : FuncData, (∀ (s : Shared) (u : Value), BindsTo s fd ⟨[u], []⟩ [("script", u)]) ∧ ∀ base : Heap, (K w.params).In base → base.Ns mainGlobals mg → FnOk l.prog w (K w.params) mg base CX0 8 fa fd ["script"] (spLaw (K w.params))) :
    PySem.W.WalkO q loose XP YP l.row.toRowW d [] (fun f vs => PySem.call f vs) :=
  L2.walk_of (n := 63) (k := 8) (x := "script") (CX := fun w => CX0) (sp := fun w => spLaw (K w.params)) hn (by decide) hdf ⟨rfl, by decide, by decide⟩ hY F (fun _ _ a ns hl _ hS => ⟨a, ns, rfl, hS, Nat.le_trans hl (by decide), fun _ => rfl⟩) fun _ _ _ _ _ z => z
end M
open PySem PySem.W PyProof.Rows
set_option maxRecDepth 100000 in
set_option maxHeartbeats 0 in
theorem PySem.Challenge.cw_ownshares_k71_whole_freest_book_lets_all_holds : PySem.Challenge.rw_ownshares_k71_whole_freest_book_lets_all.Holds := by
  w_on; o_law; k_head; (case hw => w_witness2)
  k_fill
  refine M.walk (l := PySem.Challenge.rw_ownshares_k71_whole_freest_book_lets_all) rfl rfl (fun w h Y => PySem.W.kIn_of Y) ?F
  case F =>
    intro w mg fa h KX G hmg
    refine' M.all_mk KX G hmg ?a_Work ?a_Wish ?a_is_integer ?l_is_integer ?c_is_integer ?k_is_integer ?a_is_name ?l_is_name ?c_is_name ?k_is_name ?a_is_pair ?l_is_pair ?c_is_pair ?k_is_pair ?a_is_moves ?l_is_moves ?c_is_moves ?k_is_moves ?a_is_draws ?l_is_draws ?c_is_draws ?k_is_draws ?a_is_stand ?l_is_stand ?c_is_stand ?k_is_stand ?a_are_stands ?l_are_stands ?c_are_stands ?k_are_stands ?a_copied ?l_copied ?c_copied ?k_copied ?a_leads ?l_leads ?c_leads ?k_leads ?a_is_ringless ?l_is_ringless ?c_is_ringless ?k_is_ringless ?a_Work_init ?i_Work_init ?l_Work_init ?c_Work_init ?k_Work_init ?a_Work_row ?i_Work_row ?l_Work_row ?c_Work_row ?k_Work_row ?a_Work_kind ?i_Work_kind ?l_Work_kind ?c_Work_kind ?k_Work_kind ?a_Work_mover ?i_Work_mover ?l_Work_mover ?c_Work_mover ?k_Work_mover ?a_Work_steps ?i_Work_steps ?l_Work_steps ?c_Work_steps ?k_Work_steps ?a_Work_to ?i_Work_to ?l_Work_to ?c_Work_to ?k_Work_to ?a_law_open ?l_law_open ?c_law_open ?k_law_open ?a_law_draw ?l_law_draw ?c_law_draw ?k_law_draw ?a_law_names ?l_law_names ?c_law_names ?k_law_names ?a_law_target ?l_law_target ?c_law_target ?k_law_target ?a_law_menu ?l_law_menu ?c_law_menu ?k_law_menu ?a_law_stand ?l_law_stand ?c_law_stand ?k_law_stand ?a_law_stands ?l_law_stands ?c_law_stands ?k_law_stands ?a_law_build ?l_law_build ?c_law_build ?k_law_build ?a_law_steps ?l_law_steps ?c_law_steps ?k_law_steps ?a_law_to ?l_law_to ?c_law_to ?k_law_to ?a_law_mover ?l_law_mover ?c_law_mover ?k_law_mover ?a_law_worths ?l_law_worths ?c_law_worths ?k_law_worths ?a_law_endless ?l_law_endless ?c_law_endless ?k_law_endless ?a_law_level ?l_law_level ?c_law_level ?k_law_level ?a_common_divisor ?l_common_divisor ?c_common_divisor ?k_common_divisor ?a_is_fraction ?l_is_fraction ?c_is_fraction ?k_is_fraction ?a_is_lot ?l_is_lot ?c_is_lot ?k_is_lot ?a_checked_lot ?l_checked_lot ?c_checked_lot ?k_checked_lot ?a_is_value ?l_is_value ?c_is_value ?k_is_value ?a_are_worths ?l_are_worths ?c_are_worths ?k_are_worths ?a_Wish_init ?i_Wish_init ?l_Wish_init ?c_Wish_init ?k_Wish_init ?a_Wish_worths ?g_Wish_worths ?t_Wish_worths ?rc_Wish_worths ?l_Wish_worths ?c_Wish_worths ?k_Wish_worths ?a_suited ?l_suited ?c_suited ?k_suited ?a_suited_lot ?l_suited_lot ?c_suited_lot ?k_suited_lot ?a_is_entry ?l_is_entry ?c_is_entry ?k_is_entry ?a_is_book ?l_is_book ?c_is_book ?k_is_book ?a_let_steps ?l_let_steps ?c_let_steps ?k_let_steps ?a_let_ways ?l_let_ways ?c_let_ways ?k_let_ways ?a_way_to ?l_way_to ?c_way_to ?k_way_to ?a_is_below ?l_is_below ?c_is_below ?k_is_below ?a_checked_book ?l_checked_book ?c_checked_book ?k_checked_book ?a_breaking ?l_breaking ?c_breaking ?k_breaking ?a_keeps ?l_keeps ?c_keeps ?k_keeps ?a_kept_stands ?l_kept_stands ?c_kept_stands ?k_kept_stands ?a_is_drawn_in ?l_is_drawn_in ?c_is_drawn_in ?k_is_drawn_in ?a_bad_stands ?l_bad_stands ?c_bad_stands ?k_bad_stands ?a_safe_stands ?l_safe_stands ?c_safe_stands ?k_safe_stands ?a_freest ?l_freest ?c_freest ?k_freest ?a_law_lot ?l_law_lot ?c_law_lot ?k_law_lot ?a_law_book ?l_law_book ?c_law_book ?k_law_book ?a_law_bad ?l_law_bad ?c_law_bad ?k_law_bad ?a_law_due_book ?l_law_due_book ?c_law_due_book ?k_law_due_book ?a_law_within ?l_law_within ?c_law_within ?k_law_within ?a_law_no_ends ?l_law_no_ends ?c_law_no_ends ?k_law_no_ends ?a_law_again ?l_law_again ?c_law_again ?k_law_again ?a_law ?l_law ?c_law ?k_law ?pg_Work ?hd_Work ?po_Work ?sa_Work ?mk_Work ?kc_Work ?n_Work_hands ?n_Work_start ?n_Work_table ?n_Work_names ?n_Work_ends ?n_Work_ringless ?pg_Wish ?hd_Wish ?po_Wish ?sa_Wish ?mk_Wish ?kc_Wish ?n_Wish_table ?n_Wish_endless ?n_Wish_coming ?z_abs ?z_all ?z_any ?z_bool ?z_dict ?z_enumerate ?z_int ?z_isinstance ?z_len ?z_list ?z_max ?z_min ?z_range ?z_sorted ?z_str ?z_tuple
    (case a_Work => k_is)
    (case a_Wish => k_is)
    (case a_is_integer => k_is)
    (case l_is_integer => k_is)
    (case c_is_integer => k_is)
    (case k_is_integer => k_is)
    (case a_is_name => k_is)
    (case l_is_name => k_is)
    (case c_is_name => k_is)
    (case k_is_name => k_is)
    (case a_is_pair => k_is)
    (case l_is_pair => k_is)
    (case c_is_pair => k_is)
    (case k_is_pair => k_is)
    (case a_is_moves => k_is)
    (case l_is_moves => k_is)
    (case c_is_moves => k_is)
    (case k_is_moves => k_is)
    (case a_is_draws => k_is)
    (case l_is_draws => k_is)
    (case c_is_draws => k_is)
    (case k_is_draws => k_is)
    (case a_is_stand => k_is)
    (case l_is_stand => k_is)
    (case c_is_stand => k_is)
    (case k_is_stand => k_is)
    (case a_are_stands => k_is)
    (case l_are_stands => k_is)
    (case c_are_stands => k_is)
    (case k_are_stands => k_is)
    (case a_copied => k_is)
    (case l_copied => k_is)
    (case c_copied => k_is)
    (case k_copied => k_is)
    (case a_leads => k_is)
    (case l_leads => k_is)
    (case c_leads => k_is)
    (case k_leads => k_is)
    (case a_is_ringless => k_is)
    (case l_is_ringless => k_is)
    (case c_is_ringless => k_is)
    (case k_is_ringless => k_is)
    (case a_Work_init => k_is)
    (case i_Work_init => k_is)
    (case l_Work_init => k_is)
    (case c_Work_init => k_is)
    (case k_Work_init => k_is)
    (case a_Work_row => k_is)
    (case i_Work_row => k_is)
    (case l_Work_row => k_is)
    (case c_Work_row => k_is)
    (case k_Work_row => k_is)
    (case a_Work_kind => k_is)
    (case i_Work_kind => k_is)
    (case l_Work_kind => k_is)
    (case c_Work_kind => k_is)
    (case k_Work_kind => k_is)
    (case a_Work_mover => k_is)
    (case i_Work_mover => k_is)
    (case l_Work_mover => k_is)
    (case c_Work_mover => k_is)
    (case k_Work_mover => k_is)
    (case a_Work_steps => k_is)
    (case i_Work_steps => k_is)
    (case l_Work_steps => k_is)
    (case c_Work_steps => k_is)
    (case k_Work_steps => k_is)
    (case a_Work_to => k_is)
    (case i_Work_to => k_is)
    (case l_Work_to => k_is)
    (case c_Work_to => k_is)
    (case k_Work_to => k_is)
    (case a_law_open => k_is)
    (case l_law_open => k_is)
    (case c_law_open => k_is)
    (case k_law_open => k_is)
    (case a_law_draw => k_is)
    (case l_law_draw => k_is)
    (case c_law_draw => k_is)
    (case k_law_draw => k_is)
    (case a_law_names => k_is)
    (case l_law_names => k_is)
    (case c_law_names => k_is)
    (case k_law_names => k_is)
    (case a_law_target => k_is)
    (case l_law_target => k_is)
    (case c_law_target => k_is)
    (case k_law_target => k_is)
    (case a_law_menu => k_is)
    (case l_law_menu => k_is)
    (case c_law_menu => k_is)
    (case k_law_menu => k_is)
    (case a_law_stand => k_is)
    (case l_law_stand => k_is)
    (case c_law_stand => k_is)
    (case k_law_stand => k_is)
    (case a_law_stands => k_is)
    (case l_law_stands => k_is)
    (case c_law_stands => k_is)
    (case k_law_stands => k_is)
    (case a_law_build => k_is)
    (case l_law_build => k_is)
    (case c_law_build => k_is)
    (case k_law_build => k_is)
    (case a_law_steps => k_is)
    (case l_law_steps => k_is)
    (case c_law_steps => k_is)
    (case k_law_steps => k_is)
    (case a_law_to => k_is)
    (case l_law_to => k_is)
    (case c_law_to => k_is)
    (case k_law_to => k_is)
    (case a_law_mover => k_is)
    (case l_law_mover => k_is)
    (case c_law_mover => k_is)
    (case k_law_mover => k_is)
    (case a_law_worths => k_is)
    (case l_law_worths => k_is)
    (case c_law_worths => k_is)
    (case k_law_worths => k_is)
    (case a_law_endless => k_is)
    (case l_law_endless => k_is)
    (case c_law_endless => k_is)
    (case k_law_endless => k_is)
    (case a_law_level => k_is)
    (case l_law_level => k_is)
    (case c_law_level => k_is)
    (case k_law_level => k_is)
    (case a_common_divisor => k_is)
    (case l_common_divisor => k_is)
    (case c_common_divisor => k_is)
    (case k_common_divisor => k_is)
    (case a_is_fraction => k_is)
    (case l_is_fraction => k_is)
    (case c_is_fraction => k_is)
    (case k_is_fraction => k_is)
    (case a_is_lot => k_is)
    (case l_is_lot => k_is)
    (case c_is_lot => k_is)
    (case k_is_lot => k_is)
    (case a_checked_lot => k_is)
    (case l_checked_lot => k_is)
    (case c_checked_lot => k_is)
    (case k_checked_lot => k_is)
    (case a_is_value => k_is)
    (case l_is_value => k_is)
    (case c_is_value => k_is)
    (case k_is_value => k_is)
    (case a_are_worths => k_is)
    (case l_are_worths => k_is)
    (case c_are_worths => k_is)
    (case k_are_worths => k_is)
    (case a_Wish_init => k_is)
    (case i_Wish_init => k_is)
    (case l_Wish_init => k_is)
    (case c_Wish_init => k_is)
    (case k_Wish_init => k_is)
    (case a_Wish_worths => k_is)
    (case g_Wish_worths => k_is)
    (case t_Wish_worths => k_is)
    (case rc_Wish_worths => k_is)
    (case l_Wish_worths => k_is)
    (case c_Wish_worths => k_is)
    (case k_Wish_worths => k_is)
    (case a_suited => k_is)
    (case l_suited => k_is)
    (case c_suited => k_is)
    (case k_suited => k_is)
    (case a_suited_lot => k_is)
    (case l_suited_lot => k_is)
    (case c_suited_lot => k_is)
    (case k_suited_lot => k_is)
    (case a_is_entry => k_is)
    (case l_is_entry => k_is)
    (case c_is_entry => k_is)
    (case k_is_entry => k_is)
    (case a_is_book => k_is)
    (case l_is_book => k_is)
    (case c_is_book => k_is)
    (case k_is_book => k_is)
    (case a_let_steps => k_is)
    (case l_let_steps => k_is)
    (case c_let_steps => k_is)
    (case k_let_steps => k_is)
    (case a_let_ways => k_is)
    (case l_let_ways => k_is)
    (case c_let_ways => k_is)
    (case k_let_ways => k_is)
    (case a_way_to => k_is)
    (case l_way_to => k_is)
    (case c_way_to => k_is)
    (case k_way_to => k_is)
    (case a_is_below => k_is)
    (case l_is_below => k_is)
    (case c_is_below => k_is)
    (case k_is_below => k_is)
    (case a_checked_book => k_is)
    (case l_checked_book => k_is)
    (case c_checked_book => k_is)
    (case k_checked_book => k_is)
    (case a_breaking => k_is)
    (case l_breaking => k_is)
    (case c_breaking => k_is)
    (case k_breaking => k_is)
    (case a_keeps => k_is)
    (case l_keeps => k_is)
    (case c_keeps => k_is)
    (case k_keeps => k_is)
    (case a_kept_stands => k_is)
    (case l_kept_stands => k_is)
    (case c_kept_stands => k_is)
    (case k_kept_stands => k_is)
    (case a_is_drawn_in => k_is)
    (case l_is_drawn_in => k_is)
    (case c_is_drawn_in => k_is)
    (case k_is_drawn_in => k_is)
    (case a_bad_stands => k_is)
    (case l_bad_stands => k_is)
    (case c_bad_stands => k_is)
    (case k_bad_stands => k_is)
    (case a_safe_stands => k_is)
    (case l_safe_stands => k_is)
    (case c_safe_stands => k_is)
    (case k_safe_stands => k_is)
    (case a_freest => k_is)
    (case l_freest => k_is)
    (case c_freest => k_is)
    (case k_freest => k_is)
    (case a_law_lot => k_is)
    (case l_law_lot => k_is)
    (case c_law_lot => k_is)
    (case k_law_lot => k_is)
    (case a_law_book => k_is)
    (case l_law_book => k_is)
    (case c_law_book => k_is)
    (case k_law_book => k_is)
    (case a_law_bad => k_is)
    (case l_law_bad => k_is)
    (case c_law_bad => k_is)
    (case k_law_bad => k_is)
    (case a_law_due_book => k_is)
    (case l_law_due_book => k_is)
    (case c_law_due_book => k_is)
    (case k_law_due_book => k_is)
    (case a_law_within => k_is)
    (case l_law_within => k_is)
    (case c_law_within => k_is)
    (case k_law_within => k_is)
    (case a_law_no_ends => k_is)
    (case l_law_no_ends => k_is)
    (case c_law_no_ends => k_is)
    (case k_law_no_ends => k_is)
    (case a_law_again => k_is)
    (case l_law_again => k_is)
    (case c_law_again => k_is)
    (case k_law_again => k_is)
    (case a_law => k_is)
    (case l_law => k_is)
    (case c_law => k_is)
    (case k_law => k_is)
    (case pg_Work => k_is)
    (case hd_Work => k_is)
    (case po_Work => k_is)
    (case sa_Work => k_is)
    (case mk_Work => k_is)
    (case kc_Work => k_is)
    (case n_Work_hands => k_is)
    (case n_Work_start => k_is)
    (case n_Work_table => k_is)
    (case n_Work_names => k_is)
    (case n_Work_ends => k_is)
    (case n_Work_ringless => k_is)
    (case pg_Wish => k_is)
    (case hd_Wish => k_is)
    (case po_Wish => k_is)
    (case sa_Wish => k_is)
    (case mk_Wish => k_is)
    (case kc_Wish => k_is)
    (case n_Wish_table => k_is)
    (case n_Wish_endless => k_is)
    (case n_Wish_coming => k_is)
    (case z_abs => k_is)
    (case z_all => k_is)
    (case z_any => k_is)
    (case z_bool => k_is)
    (case z_dict => k_is)
    (case z_enumerate => k_is)
    (case z_int => k_is)
    (case z_isinstance => k_is)
    (case z_len => k_is)
    (case z_list => k_is)
    (case z_max => k_is)
    (case z_min => k_is)
    (case z_range => k_is)
    (case z_sorted => k_is)
    (case z_str => k_is)
    (case z_tuple => k_is)
#print axioms PySem.Challenge.cw_ownshares_k71_whole_freest_book_lets_all_holds
