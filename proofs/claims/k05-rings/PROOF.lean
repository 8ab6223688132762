import PyProof.Rows.All
import Wide.All
import OpenK.AllK
import Wide.FinOn
import HandS.ForMost
import HandS.ForExc
import HandS.More
import HandS.Wide
import HandS.DictComp
import HandS.TupAny
import HandS.IsInst
import HandS.Walk
import HandS.Style
import HandS.SetKeys
import HandS.Steps
import PyProof.Rows.SortShellAny
import PyProof.Rows.RuleB_pow
import KE.GoesEnum
import HandS.Conv
import HandS.Property
import HandS.TryOnly
import KE.KDictSum
import HandS.SortRule
import HandS.NamedTupSort
import HandS.TupLe
import HandS.SortKw
import HandS.Finally
import KE.KEqDict
import HandS.SetKeys
import HandS.TupLen
import HandS.Text
import KE.KDictDisplayH
import KE.KExcSuper
import HandS.Nested
import HandS.ExcInit
import HandS.ExcField
import HandS.TryMany
import PyProof.ReprRoads
import PyProof.ReprBulk
import PyProof.NoPylong
import PySem.Challenge.RW_ownshares_k05_rings_judged
set_option Elab.async false
set_option linter.all false
set_option maxRecDepth 100000
set_option maxHeartbeats 4000000
set_option pp.maxSteps 1200
set_option Elab.async false
set_option linter.all false
set_option maxRecDepth 100000
set_option maxHeartbeats 2000000
/-! The heap's order, readings of plain data, steps of readings: shared by all laws. -/
namespace M
open PySem PySem.Spec PyProof.Rows L2

/-! ### the heap's orders -/
/-- the heap without the addresses of S -/
def hid (S : List Addr) (H : Hp) : Hp := fun b => if b ∈ S then none else H b
/-- all but the addresses of S is as it was -/
def SX (S : List Addr) (A B : Hp) : Prop := ∀ b o, b ∉ S → A b = some o → B b = some o
/-- what is plain to be read -/
def Pl : HO → Prop
  | .lst _ | .tup _ | .dK _ | .dT _ => True
  | _ => False
/-- what may be read stays to be read -/
structure Le (A B : Hp) : Prop where
  rd : ∀ b u, Pl u → Rd A b u → Rd B b u
  ins : ∀ b C dx fs, A b = some (.ins C dx fs) → B b = some (.ins C dx fs)
  tup : ∀ b xs, A b = some (.tup xs) → B b = some (.tup xs)
theorem Le.refl (A : Hp) : Le A A := ⟨fun _ _ _ h => h, fun _ _ _ _ h => h, fun _ _ h => h⟩
theorem Le.trans {A B C : Hp} (a : Le A B) (b : Le B C) : Le A C := ⟨fun x u p h => b.rd x u p (a.rd x u p h), fun x c d f h => b.ins x c d f (a.ins x c d f h), fun x u h => b.tup x u (a.tup x u h)⟩
theorem le_of {A B : Hp} (h : ∀ b o, A b = some o → B b = some o) : Le A B :=
  ⟨fun b u _ q => by rcases q with q | ⟨o, q⟩
                     · exact .inl (h _ _ q)
                     · exact .inr ⟨o, h _ _ q⟩, fun b C dx fs q => h _ _ q, fun b xs q => h _ _ q⟩
theorem Le.l {K : PySem.W.Frag} {A B : Hp} {a : Addr} {xs : List V} (e : Le A B) (h : SqL K A a xs) : SqL K B a xs := by
  rcases h with h | h
  · exact .inl (e.rd _ _ trivial h)
  · exact .inr h
theorem Le.t {K : PySem.W.Frag} {A B : Hp} {a : Addr} {xs : List V} (e : Le A B) (h : SqT K A a xs) : SqT K B a xs := by
  rcases h with h | h
  · exact .inl (e.rd _ _ trivial h)
  · exact .inr h
theorem sqL {K : PySem.W.Frag} {H : Hp} {a : Addr} {xs : List V} (h : H a = some (.lst xs)) : SqL K H a xs := .inl (.inl h)
theorem sqT {K : PySem.W.Frag} {H : Hp} {a : Addr} {xs : List V} (h : H a = some (.tup xs)) : SqT K H a xs := .inl (.inl h)
theorem hid_at {S : List Addr} {H : Hp} {b : Addr} {o : HO} (h : hid S H b = some o) : b ∉ S ∧ H b = some o := by
  unfold hid at h
  split at h
  · cases h
  · exact ⟨by assumption, h⟩
theorem hid_of {S : List Addr} {H : Hp} {b : Addr} (h : b ∉ S) : hid S H b = H b := by
  unfold hid
  rw [if_neg h]
theorem hid_in {S : List Addr} {H : Hp} {b : Addr} (h : b ∈ S) : hid S H b = none := by
  unfold hid
  rw [if_pos h]
theorem hid_nil {H : Hp} : hid [] H = H := by
  funext b
  exact hid_of List.not_mem_nil
theorem le_hid {S : List Addr} {H : Hp} : Le (hid S H) H := le_of fun _ _ q => (hid_at q).2
theorem le_hid2 {S S' : List Addr} {H : Hp} (h : ∀ b ∈ S, b ∈ S') : Le (hid S' H) (hid S H) := le_of fun b o q => by
  obtain ⟨n, q⟩ := hid_at q
  rw [hid_of fun m => n (h b m)]
  exact q
theorem SX.refl {S : List Addr} (A : Hp) : SX S A A := fun _ _ _ h => h
theorem SX.trans {S : List Addr} {A B C : Hp} (a : SX S A B) (b : SX S B C) : SX S A C := fun x o n h => b x o n (a x o n h)
theorem SX.sub {S S' : List Addr} {A B : Hp} (h : ∀ b ∈ S, b ∈ S') (a : SX S A B) : SX S' A B := fun x o n q => a x o (fun m => n (h x m)) q
theorem SX.le {S : List Addr} {A B : Hp} (a : SX S A B) : Le (hid S A) (hid S B) := le_of fun b o q => by
  obtain ⟨n, q⟩ := hid_at q
  rw [hid_of n]
  exact a b o n q
theorem SX.le0 {A B : Hp} (a : SX [] A B) : Le A B := le_of fun b o q => a b o List.not_mem_nil q
theorem SX.leH {S : List Addr} {A B : Hp} (a : SX S A B) : Le (hid S A) B := a.le.trans le_hid
theorem SX.new {S : List Addr} {A : Hp} {p : Addr} {o : HO} (h : A p = none) : SX S A (upd A p o) := fun b u _ q => by
  rw [upd_ne (ne_of_none q h)]
  exact q
theorem SX.mut {S : List Addr} {A : Hp} {p : Addr} {o : HO} (h : p ∈ S) : SX S A (upd A p o) := fun b u n q => by
  rw [upd_ne (by rintro rfl; exact n h)]
  exact q
theorem SX.same {A B : Hp} (h : ∀ b o, A b = some o → B b = some o) {S : List Addr} : SX S A B := fun b o _ q => h b o q
theorem SX.at_ {S : List Addr} {A B : Hp} {b : Addr} {o : HO} (a : SX S A B) (q : A b = some o) (n : b ∉ S) : B b = some o := a b o n q
/-- fresh behind is fresh ahead -/
theorem SX.free {S : List Addr} {A B : Hp} {b : Addr} (a : SX S A B) (q : B b = none) (n : b ∉ S) : A b = none := by
  cases e : A b with
  | none => rfl
  | some o =>
    rw [a b o n e] at q
    cases q
theorem not_in_of_none {H : Hp} {p : Addr} {S : List Addr} (h : H p = none) (hs : ∀ b ∈ S, H b ≠ none) : p ∉ S := fun m => hs p m h
/-- locks -/
theorem le_lock {A : Hp} {d : Addr} {u : HO} {od : Obj} (h : A d = some u) (hm : Mut (some u)) (hi : ∀ C dx fs, u ≠ .ins C dx fs) : Le A (upd A d (.frz od u)) := by
  refine ⟨fun b v p q => ?_, fun b C dx fs q => ?_, fun b xs q => ?_⟩
  · by_cases e : b = d
    · subst e
      rcases q with q | ⟨o, q⟩
      · rw [h] at q
        cases q
        exact .inr ⟨od, upd_same⟩
      · rw [h] at q
        cases q
        exact hm.elim
    · unfold Rd
      rw [upd_ne e]
      exact q
  · rw [upd_ne]
    · exact q
    · rintro rfl
      rw [h] at q
      cases q
      exact hi _ _ _ rfl
  · rw [upd_ne]
    · exact q
    · rintro rfl
      rw [h] at q
      cases q
      exact hm
theorem le_unlock {A : Hp} {d : Addr} {u : HO} {od : Obj} (h : A d = some (.frz od u)) : Le A (upd A d u) := by
  refine ⟨fun b v p q => ?_, fun b C dx fs q => ?_, fun b xs q => ?_⟩
  · by_cases e : b = d
    · subst e
      rcases q with q | ⟨o, q⟩
      · rw [h] at q
        cases q
        exact p.elim
      · rw [h] at q
        cases q
        exact .inl upd_same
    · unfold Rd
      rw [upd_ne e]
      exact q
  · rw [upd_ne]
    · exact q
    · rintro rfl
      rw [h] at q
      cases q
  · rw [upd_ne]
    · exact q
    · rintro rfl
      rw [h] at q
      cases q

/-! ### steps of readings -/
section
variable {K : PySem.W.Frag} {σ σ' : L2.St} {H H' : Hp} {ta tb tc te : TE} {t u : TT} {x y z v : V} {r : R2} {Q : VK} {D : Ends} {t1 t2 : TS} {ag : TA} {QA : List V → Hp → Prop} {QB : Bool → Hp → Prop} {i j : Int}
theorem x_var {n : Nat} (h : σ[n]? = some (some v)) (k : Q v H) : tVar n σ H Q := ⟨v, h, k⟩
theorem x_c (k : Q v H) : tC v σ H Q := k
theorem x_op (k : ta σ H fun x H1 => tb σ H1 fun y H2 => r x y H2 Q) : tOp r ta tb σ H Q := k
theorem x_un {r : V → Hp → VK → Prop} (k : ta σ H fun x H1 => r x H1 Q) : tUn r ta σ H Q := k
theorem x_I0 {g : Int → Int → V} (k : Q (g i j) H) : rI0 g (.int i) (.int j) H Q := ⟨i, j, rfl, rfl, k⟩
theorem x_I {C : Int → Int → Prop} {g : Int → Int → V} (c : C i j) (k : Q (g i j) H) : rI C g (.int i) (.int j) H Q := ⟨i, j, rfl, rfl, c, k⟩
theorem x_U {g : Int → V} (k : Q (g i) H) : rU g (.int i) H Q := ⟨i, rfl, k⟩
theorem x_eq (h : scal x y = true) (k : Q (.bl (decide (x = y))) H) : rEq x y H Q := ⟨h, k⟩
theorem x_ne (h : scal x y = true) (k : Q (.bl (!decide (x = y))) H) : rNe x y H Q := ⟨h, k⟩
theorem x_test {te : TE} (k : te σ H fun x H' => ∃ c, x = .bl c ∧ QB c H') : tTest te σ H QB := k
theorem x_B {te : TE} (k : te σ H fun x H' => ∃ c, x = .bl c ∧ QB c H') : tB te σ H QB := k
theorem x_bl {b : Bool} {R : Bool → Prop} (k : R b) : ∃ c, V.bl b = .bl c ∧ R c := ⟨b, rfl, k⟩
theorem x_and (k : t σ H fun c H1 => if c = true then u σ H1 QB else QB false H1) : tAnd t u σ H QB := k
theorem x_or (k : t σ H fun c H1 => if c = true then QB true H1 else u σ H1 QB) : tOr t u σ H QB := k
theorem x_not (k : t σ H fun c H1 => QB (!c) H1) : tNot t σ H QB := k
theorem x_andV (k : ta σ H fun x H1 => ∃ c, x = .bl c ∧ if c = true then tb σ H1 Q else Q (.bl false) H1) : tAndV ta tb σ H Q := k
theorem x_orV (k : ta σ H fun x H1 => ∃ c, x = .bl c ∧ if c = true then Q (.bl true) H1 else tb σ H1 Q) : tOrV ta tb σ H Q := k
theorem x_notV (k : ta σ H fun x H1 => ∃ c, x = .bl c ∧ Q (.bl (!c)) H1) : tNotV ta σ H Q := k
theorem x_if (k : t σ H fun c H1 => if c = true then ta σ H1 Q else tb σ H1 Q) : tIf t ta tb σ H Q := k
theorem x_chain {r' : R2} (k : ta σ H fun x H1 => tb σ H1 fun y H2 => r x y H2 fun z H3 => ∃ k, z = .bl k ∧ (if k = true then tc σ H3 fun w' H4 => r' y w' H4 Q else Q (.bl false) H3)) : tChain r r' ta tb tc σ H Q := k
theorem x_CB {r : List V → Hp → VK → Prop} (k : ag σ H fun vs H1 => r vs H1 Q) : tCB r ag σ H Q := k
theorem x_nil (k : QA [] H) : tNil σ H QA := k
theorem x_cons {ar : TA} (k : ta σ H fun x H1 => ar σ H1 fun xs H2 => QA (x :: xs) H2) : tCons ta ar σ H QA := k
theorem x_tup (k : ag σ H fun xs H1 => xs.length ≤ sizeLine ∧ ∀ p, H1 p = none → Q (.ref p) (upd H1 p (.tup xs))) : tTup ag σ H Q := k
theorem x_lst (k : ag σ H fun xs H1 => xs.length ≤ sizeLine ∧ ∀ p, H1 p = none → Q (.ref p) (upd H1 p (.lst xs))) : tLst ag σ H Q := k
theorem x_call {sp : Sp} {dvs : List V} {E : XK} (k : ag σ H fun vs H1 => sp (vs ++ dvs) H1 Q E) : tCall sp dvs E ag σ H Q := k
theorem x_dnew (k : ∀ p, H p = none → Q (.ref p) (upd H p (.dK []))) : tDNewK σ H Q := k
theorem x_seq (k : t1 { D with nx := t2 D } σ H) : tSeq t1 t2 D σ H := k
theorem x_next (k : D.nx σ H) : tNext D σ H := k
theorem x_break (k : D.bk σ H) : tBreak D σ H := k
theorem x_cont (k : D.ct σ H) : tCont D σ H := k
theorem x_ret (k : te σ H D.rt) : tRet te D σ H := k
theorem x_retN (k : D.rt .non H) : tRetN D σ H := k
theorem x_drop (k : te σ H fun _ H1 => D.nx σ H1) : tDrop te D σ H := k
theorem x_ifS (k : t σ H fun b H1 => if b = true then t1 D σ H1 else t2 D σ H1) : tIfS t t1 t2 D σ H := k
theorem x_asg {g : TG} (k : te σ H fun x H1 => g x σ H1 D.nx) : tAsg te g D σ H := k
theorem x_name {n : Nat} {Q : L2.St → Hp → Prop} (e : σ.set n (some v) = σ') (k : Q σ' H) : gName n v σ H Q := by
  subst e
  exact k
theorem x_sub {to ti : TE} {st : TSet} {Q : L2.St → Hp → Prop} (k : to σ H fun o H1 => ti σ H1 fun i H2 => st o i v H2 fun H3 => Q σ H3) : gSub to ti st v σ H Q := k
theorem x_gnil {Q : L2.St → Hp → Prop} (k : Q σ H) : gNil [] σ H Q := ⟨rfl, k⟩
theorem x_gcons {g : TG} {gs : TGs} {vs : List V} {Q : L2.St → Hp → Prop} (k : g v σ H fun σ' H' => gs vs σ' H' Q) : gCons g gs (v :: vs) σ H Q := ⟨v, vs, rfl, k⟩
theorem x_gtup {n : Nat} {gs : TGs} {a : Addr} {xs : List V} {Q : L2.St → Hp → Prop} (h : SqT K H a xs) (hl : xs.length = n) (k : gs xs σ H Q) : gTup K n gs (.ref a) σ H Q := ⟨a, xs, rfl, h, hl, k⟩
theorem x_par {n m : Nat} (k : ag σ H fun vs H1 => ∃ v w, vs = [v, w] ∧ D.nx ((σ.set n (some v)).set m (some w)) H1) : tPar n m ag D σ H := k
theorem x_par2 {v w : V} {R : V → V → Prop} (k : R v w) : ∃ v' w', [v, w] = [v', w'] ∧ R v' w' := ⟨v, w, rfl, k⟩
theorem x_aug {n : Nat} {ti : TIp} (h : σ[n]? = some (some x)) (k : te σ H fun y H1 => ti x y H1 fun z H2 => D.nx (σ.set n (some z)) H2) : tAug n te ti D σ H := ⟨x, h, k⟩
theorem x_ipI {f : Int → Int → Int} (k : Q (.int (f i j)) H) : ipI f (.int i) (.int j) H Q := ⟨i, j, rfl, rfl, k⟩
theorem x_dput {td ty tv : TE} (k : tv σ H fun v H1 => td σ H1 fun x H2 => ty σ H2 fun y H3 => ∃ a H4, x = .ref a ∧ DPut H3 a y v H4 ∧ D.nx σ H4) : sDPut td ty tv D σ H := k
theorem x_dget {td ty : TE} (k : td σ H fun x H1 => ty σ H1 fun y H2 => ∃ a v, x = .ref a ∧ DGet H2 a y (some v) ∧ Q v H2) : tDGet td ty σ H Q := k
theorem x_din {td ty : TE} (k : ty σ H fun y H1 => td σ H1 fun x H2 => ∃ a o, x = .ref a ∧ DGet H2 a y o ∧ Q (.bl o.isSome) H2) : tDIn ty td σ H Q := k
theorem x_dnotin {td ty : TE} (k : ty σ H fun y H1 => td σ H1 fun x H2 => ∃ a o, x = .ref a ∧ DGet H2 a y o ∧ Q (.bl (!o.isSome)) H2) : tDNotIn ty td σ H Q := k
theorem x_bm {T : String} {r : V → List V → Hp → VK → Prop} (k : ta σ H fun x H1 => tyV K T x H1 ∧ ag σ H1 fun xs H2 => r x xs H2 Q) : tBM K T r ta ag σ H Q := k
theorem x_bm0 {T : String} {r : V → List V → Hp → VK → Prop} (k : ta σ H fun x H1 => tyV K T x H1 ∧ r x [] H1 Q) : tBM0 K T r ta σ H Q := k
theorem x_sl {r : V → Option Int → Option Int → Hp → VK → Prop} {tl th : TO} (k : te σ H fun x H1 => tl σ H1 fun l H2 => th σ H2 fun u H3 => r x l u H3 Q) : tSl r te tl th σ H Q := k
theorem x_nopart {Q : Option Int → Hp → Prop} (k : Q none H) : tNoPart σ H Q := k
theorem x_part {Q : Option Int → Hp → Prop} (k : te σ H fun x H1 => ∃ i, x = .int i ∧ Q (some i) H1) : tPart te σ H Q := k
theorem x_int {Q : Int → Prop} (k : Q i) : ∃ j, V.int i = .int j ∧ Q j := ⟨i, rfl, k⟩
theorem x_fld {f : Str} (k : te σ H fun x H1 => ∃ a C dx fs v, x = .ref a ∧ H1 a = some (.ins C dx fs) ∧ Cls K C ∧ NoAttr K C f ∧ fs.lookup f = some v ∧ Q v H1) : tFld K te f σ H Q := k
theorem x_start {t : TS} (e : σ = σ') (k : t D σ' H) : t D σ H := by
  rw [e]
  exact k
theorem x_for {wi : TI} {g : TG} {tb : TS} (k : wi σ H fun J H1 => ∃ W : Nat → Nat → L2.St → Hp → Prop, (∃ m, W 0 m σ H1) ∧ ∀ i m σ H, W i m σ H →
  (J.stop i H ∧ D.nx σ H) ∨ (J.go i H ∧ ∃ N : L2.St → Hp → Prop, (∀ σ' H', N σ' H' → ∃ m', m' < m ∧ W (i + 1) m' σ' H') ∧ ∀ x H', J.yld i H x H' → g x σ H' fun σ2 H2 => tb { D with nx := N, ct := N, bk := D.nx } σ2 H2)) : tFor wi g tb D σ H := k
theorem x_iStr {R : It → Hp → Prop} (k : te σ H fun v H1 => ∃ x, v = .str x ∧ R (Its x) H1) : iStr te σ H R := k
theorem x_str {s : Str} {R : Str → Prop} (k : R s) : ∃ x, V.str s = .str x ∧ R x := ⟨s, rfl, k⟩
theorem x_iRng1 {R : It → Hp → Prop} (k : ag σ H fun vs H1 => ∃ j : Int, vs = [.int j] ∧ -(2 ^ 62) ≤ j ∧ j < 2 ^ 62 ∧ R (Itr 0 j.toNat) H1) : iRng1 ag σ H R := k
theorem x_rng1 {R : Int → Prop} (h1 : -(2 ^ 62) ≤ i) (h2 : i < 2 ^ 62) (k : R i) : ∃ j : Int, [V.int i] = [.int j] ∧ -(2 ^ 62) ≤ j ∧ j < 2 ^ 62 ∧ R j := ⟨i, rfl, h1, h2, k⟩
theorem x_iRng2 {R : It → Hp → Prop} (k : ag σ H fun vs H1 => ∃ i j : Int, vs = [.int i, .int j] ∧ (-(2 ^ 62) ≤ i ∧ i < 2 ^ 62 ∧ -(2 ^ 62) ≤ j ∧ j < 2 ^ 62) ∧ R (Itr i (j - i).toNat) H1) : iRng2 ag σ H R := k
theorem x_rng2 {R : Int → Int → Prop} (h : -(2 ^ 62) ≤ i ∧ i < 2 ^ 62 ∧ -(2 ^ 62) ≤ j ∧ j < 2 ^ 62) (k : R i j) : ∃ i' j' : Int, [V.int i, V.int j] = [.int i', .int j'] ∧ (-(2 ^ 62) ≤ i' ∧ i' < 2 ^ 62 ∧ -(2 ^ 62) ≤ j' ∧ j' < 2 ^ 62) ∧ R i' j' := ⟨i, j, rfl, h, k⟩
theorem x_iList {R : It → Hp → Prop} (k : te σ H fun x H1 => ∃ a, x = .ref a ∧ (∃ xs, SqL K H1 a xs) ∧ R (Itl K a) H1) : iList K te σ H R := k
theorem x_itl {a : Addr} {xs : List V} {R : Addr → Prop} (h : SqL K H a xs) (k : R a) : ∃ a', V.ref a = .ref a' ∧ (∃ xs, SqL K H a' xs) ∧ R a' := ⟨a, rfl, ⟨xs, h⟩, k⟩
theorem x_iTup {R : It → Hp → Prop} (k : te σ H fun x H1 => ∃ a, x = .ref a ∧ (∃ xs, SqT K H1 a xs) ∧ R (Itt K a) H1) : iTup K te σ H R := k
theorem x_itt {a : Addr} {xs : List V} {R : Addr → Prop} (h : SqT K H a xs) (k : R a) : ∃ a', V.ref a = .ref a' ∧ (∃ xs, SqT K H a' xs) ∧ R a' := ⟨a, rfl, ⟨xs, h⟩, k⟩
theorem x_iKeys {R : It → Hp → Prop} (k : te σ H fun x H1 => ∃ d o, x = .ref d ∧ ((∃ kvs, H1 d = some (.frz o (.dK kvs)) ∧ R (Itk d o kvs) H1) ∨ ∃ kvs, H1 d = some (.frz o (.dT kvs)) ∧ R (Itkt d o kvs) H1)) : iKeys te σ H R := k
theorem x_itk {d : Addr} {o : Obj} {kvs : List (Key × V)} {R : Addr → Obj → List (Key × V) → Prop} {R' : Addr → Obj → Prop} (h : H d = some (.frz o (.dK kvs))) (k : R d o kvs) : ∃ d' o', V.ref d = .ref d' ∧ ((∃ kvs, H d' = some (.frz o' (.dK kvs)) ∧ R d' o' kvs) ∨ R' d' o') := ⟨d, o, rfl, .inl ⟨kvs, h, k⟩⟩
theorem x_iVals {R : It → Hp → Prop} (k : te σ H fun x H1 => ∃ d o kvs, x = .ref d ∧ H1 d = some (.frz o (.dK kvs)) ∧ R (Itd d o kvs) H1) : iVals te σ H R := k
theorem x_itd {d : Addr} {o : Obj} {kvs : List (Key × V)} {R : Addr → Obj → List (Key × V) → Prop} (h : H d = some (.frz o (.dK kvs))) (k : R d o kvs) : ∃ d' o' kvs', V.ref d = .ref d' ∧ H d' = some (.frz o' (.dK kvs')) ∧ R d' o' kvs' := ⟨d, o, kvs, rfl, h, k⟩
theorem x_iItems {R : It → Hp → Prop} (k : te σ H fun x H1 => ∃ d o kvs, x = .ref d ∧ H1 d = some (.frz o (.dK kvs)) ∧ R (Iti d o kvs) H1) : iItems te σ H R := k
theorem x_iti {d : Addr} {o : Obj} {kvs : List (Key × V)} {R : Addr → Obj → List (Key × V) → Prop} (h : H d = some (.frz o (.dK kvs))) (k : R d o kvs) : ∃ d' o' kvs', V.ref d = .ref d' ∧ H d' = some (.frz o' (.dK kvs')) ∧ R d' o' kvs' := ⟨d, o, kvs, rfl, h, k⟩
theorem x_nt {A B : Prop} (k : B) : if (!true) = true then A else B := iteF k
theorem x_nf {A B : Prop} (k : A) : if (!false) = true then A else B := iteT k
theorem x_true {c : Bool} {A B : Prop} (h : c = true) (k : A) : if c = true then A else B := by
  rw [if_pos h]
  exact k
theorem x_false {c : Bool} {A B : Prop} (h : c = false) (k : B) : if c = true then A else B := by
  rw [h]
  exact iteF k
theorem x_cases {c : Bool} {A B : Prop} (h1 : c = true → A) (h2 : c = false → B) : if c = true then A else B := by
  cases c
  · exact iteF (h2 rfl)
  · exact iteT (h1 rfl)
end

theorem cx_K {CX : CXT} {P : Program} {w : World} {K : PySem.W.Frag} {mg : Str → Option Value} {base : Heap} {N : List Str} {qual : Str} {scope : Scope} {f : Addr} {cd : Value} {A : Around} {outer : List Env} {s : Shared} {H : Hp} {E : XK} :
    (cxOf CX P w K mg base N qual scope f cd A outer s H E).K = K := rfl
theorem cx_w {CX : CXT} {P : Program} {w : World} {K : PySem.W.Frag} {mg : Str → Option Value} {base : Heap} {N : List Str} {qual : Str} {scope : Scope} {f : Addr} {cd : Value} {A : Around} {outer : List Env} {s : Shared} {H : Hp} {E : XK} :
    (cxOf CX P w K mg base N qual scope f cd A outer s H E).w = w := rfl
theorem cx_P {CX : CXT} {P : Program} {w : World} {K : PySem.W.Frag} {mg : Str → Option Value} {base : Heap} {N : List Str} {qual : Str} {scope : Scope} {f : Addr} {cd : Value} {A : Around} {outer : List Env} {s : Shared} {H : Hp} {E : XK} :
    (cxOf CX P w K mg base N qual scope f cd A outer s H E).prog = P := rfl
theorem cx_n {X : Cx} {E : Value → Shared → Prop} : (X.wish E).K = X.K := rfl
/-! ### defs of the top -/
structure FX (K : PySem.W.Frag) (mg : Str → Option Value) (x qual : Str) (st : Stmt) (ps : List Str) where
  f : Addr
  fd : FuncData
  F : Fun K x qual st f fd
  g : mg x = some (.ref f)
  B : Binds K fd ps []
structure MX (K : PySem.W.Frag) (x qual : Str) (st : Stmt) (ps : List Str) where
  f : Addr
  fd : FuncData
  F : Fun K x qual st f fd
  B : Binds K fd ps []

/-! ### readings of plain data -/
abbrev RR (α : Type) := Hp → V → α → Prop
/-- a reading that stays as the heap grows -/
def Mono {α : Type} (R : RR α) : Prop := ∀ A B v x, Le A B → R A v x → R B v x
def rI : RR Int := fun _ v i => v = .int i
def rS : RR Str := fun _ v s => v = .str s
def rB : RR Bool := fun _ v b => v = .bl b
theorem mono_I : Mono rI := fun _ _ _ _ _ h => h
theorem mono_S : Mono rS := fun _ _ _ _ _ h => h
theorem mono_B : Mono rB := fun _ _ _ _ _ h => h
/-- a list, a tuple of alike things -/
def rL (K : PySem.W.Frag) {α : Type} (R : RR α) : RR (List α) := fun H v l => ∃ a xs, v = .ref a ∧ SqL K H a xs ∧ Paired (R H) xs l
def rTL (K : PySem.W.Frag) {α : Type} (R : RR α) : RR (List α) := fun H v l => ∃ a xs, v = .ref a ∧ SqT K H a xs ∧ Paired (R H) xs l
def rP (K : PySem.W.Frag) {α β : Type} (R : RR α) (S : RR β) : RR (α × β) := fun H v p => ∃ a x y, v = .ref a ∧ SqT K H a [x, y] ∧ R H x p.1 ∧ S H y p.2
/-- a dict whose keys are texts -/
def KVs {α : Type} (R : RR α) (H : Hp) : List (Key × V) → List (Str × α) → Prop := Paired fun kv p => kv.1 = Sum.inr p.1 ∧ R H kv.2 p.2
def rD {α : Type} (R : RR α) : RR (List (Str × α)) := fun H v l => ∃ a kvs, v = .ref a ∧ Rd H a (.dK kvs) ∧ KVs R H kvs l
section
variable {K : PySem.W.Frag} {α β : Type} {R : RR α} {S : RR β}
theorem paired_le {A B : Hp} (m : Mono R) (e : Le A B) : ∀ {xs : List V} {l : List α}, Paired (R A) xs l → Paired (R B) xs l
  | _, _, .nil => .nil
  | _, _, .cons h t => .cons (m _ _ _ _ e h) (paired_le m e t)
theorem KVs.le {A B : Hp} (m : Mono R) (e : Le A B) : ∀ {xs : List (Key × V)} {l : List (Str × α)}, KVs R A xs l → KVs R B xs l
  | _, _, .nil => .nil
  | _, _, .cons h t => .cons ⟨h.1, m _ _ _ _ e h.2⟩ (KVs.le m e t)
theorem mono_L (m : Mono R) : Mono (rL K R) := fun A B v l e ⟨a, xs, h1, h2, h3⟩ => ⟨a, xs, h1, e.l h2, paired_le m e h3⟩
theorem mono_TL (m : Mono R) : Mono (rTL K R) := fun A B v l e ⟨a, xs, h1, h2, h3⟩ => ⟨a, xs, h1, e.t h2, paired_le m e h3⟩
theorem mono_P (m : Mono R) (n : Mono S) : Mono (rP K R S) := fun A B v p e ⟨a, x, y, h1, h2, h3, h4⟩ => ⟨a, x, y, h1, e.t h2, m _ _ _ _ e h3, n _ _ _ _ e h4⟩
theorem mono_D (m : Mono R) : Mono (rD R) := fun A B v l e ⟨a, kvs, h1, h2, h3⟩ => ⟨a, kvs, h1, e.rd _ _ trivial h2, KVs.le m e h3⟩
end

/-! ### paired lists -/
section
variable {α β : Type} {F : α → β → Prop}
theorem Paired.get : ∀ {xs : List α} {l : List β} {i : Nat} {y : β}, Paired F xs l → l[i]? = some y → ∃ x, xs[i]? = some x ∧ F x y
  | _, _, _, _, .nil, e => by simp at e
  | _, _, 0, y, .cons h _, e => by simp at e; subst e; exact ⟨_, rfl, h⟩
  | _, _, i + 1, y, .cons _ t, e => by
    obtain ⟨x, h1, h2⟩ := Paired.get (i := i) (y := y) t (by simpa using e)
    exact ⟨x, by simpa using h1, h2⟩
theorem Paired.getL : ∀ {xs : List α} {l : List β} {i : Nat} {x : α}, Paired F xs l → xs[i]? = some x → ∃ y, l[i]? = some y ∧ F x y
  | _, _, _, _, .nil, e => by simp at e
  | _, _, 0, y, .cons h _, e => by simp at e; subst e; exact ⟨_, rfl, h⟩
  | _, _, i + 1, y, .cons _ t, e => by
    obtain ⟨x, h1, h2⟩ := Paired.getL (i := i) (x := y) t (by simpa using e)
    exact ⟨x, by simpa using h1, h2⟩
theorem Paired.app : ∀ {xs xs' : List α} {l l' : List β}, Paired F xs l → Paired F xs' l' → Paired F (xs ++ xs') (l ++ l')
  | _, _, _, _, .nil, h => h
  | _, _, _, _, .cons a t, h => .cons a (Paired.app t h)
theorem Paired.map_right {γ : Type} {g : γ → β} : ∀ {xs : List α} {l : List γ}, Paired (fun x y => F x (g y)) xs l → Paired F xs (l.map g)
  | _, _, .nil => .nil
  | _, _, .cons a t => .cons a (Paired.map_right t)
end
/-- ints, texts in a list are told by what they are -/
theorem paired_I {H : Hp} : ∀ {xs : List V} {l : List Int}, Paired (rI H) xs l → xs = l.map V.int
  | _, _, .nil => rfl
  | _, _, .cons h t => by rw [h, paired_I t]; rfl
theorem paired_S {H : Hp} : ∀ {xs : List V} {l : List Str}, Paired (rS H) xs l → xs = l.map V.str
  | _, _, .nil => rfl
  | _, _, .cons h t => by rw [h, paired_S t]; rfl
theorem paired_B {H : Hp} : ∀ {xs : List V} {l : List Bool}, Paired (rB H) xs l → xs = l.map V.bl
  | _, _, .nil => rfl
  | _, _, .cons h t => by rw [h, paired_B t]; rfl
theorem paired_I' {H : Hp} : ∀ (l : List Int), Paired (rI H) (l.map V.int) l
  | [] => .nil
  | a :: t => .cons rfl (paired_I' t)
theorem paired_S' {H : Hp} : ∀ (l : List Str), Paired (rS H) (l.map V.str) l
  | [] => .nil
  | a :: t => .cons rfl (paired_S' t)
theorem KVs.keys {α : Type} {R : RR α} {H : Hp} : ∀ {kvs : List (Key × V)} {l : List (Str × α)}, KVs R H kvs l → kvs.map (·.1) = (l.map (·.1)).map Sum.inr
  | _, _, .nil => rfl
  | _, _, .cons h t => by
    rw [List.map_cons, List.map_cons, List.map_cons, h.1, KVs.keys t]

/-! ### a dict's look-up by what it holds -/
def lookA {α : Type} : List (Str × α) → Str → Option α
  | [], _ => none
  | (k, a) :: r, x => if k = x then some a else lookA r x
theorem KVs.look {α : Type} {R : RR α} {H : Hp} : ∀ {kvs : List (Key × V)} {l : List (Str × α)} (x : Str), KVs R H kvs l → (∃ v a, valV kvs (Sum.inr x) = some v ∧ lookA l x = some a ∧ R H v a) ∨ (valV kvs (Sum.inr x) = none ∧ lookA l x = none)
  | _, _, x, .nil => .inr ⟨rfl, rfl⟩
  | kv :: kvs, (y, a) :: l, x, .cons h t => by
    by_cases e : y = x
    · left
      refine ⟨kv.2, a, valV_pos (by rw [h.1, e]), ?_, h.2⟩
      unfold lookA
      rw [if_pos e]
    · have n : ¬ kv.1 = (Sum.inr x : Key) := by
        rw [h.1]
        intro q
        exact e (Sum.inr.inj q)
      rw [valV_neg n]
      unfold lookA
      rw [if_neg e]
      exact KVs.look x t
theorem lookA_mem {α : Type} : ∀ {l : List (Str × α)} {x : Str} {a : α}, lookA l x = some a → (x, a) ∈ l
  | (k, b) :: r, x, a, h => by
    unfold lookA at h
    split at h
    · rename_i e
      cases h
      subst e
      exact List.mem_cons_self
    · exact List.mem_cons_of_mem _ (lookA_mem h)
theorem lookA_some {α : Type} : ∀ {l : List (Str × α)} {x : Str}, x ∈ l.map (·.1) → ∃ a, lookA l x = some a
  | (k, b) :: r, x, h => by
    unfold lookA
    by_cases e : k = x
    · exact ⟨b, if_pos e⟩
    · rw [if_neg e]
      rcases List.mem_cons.mp h with h | h
      · exact absurd h.symm e
      · exact lookA_some h
theorem lookA_none {α : Type} : ∀ {l : List (Str × α)} {x : Str}, x ∉ l.map (·.1) → lookA l x = none
  | [], _, _ => rfl
  | (k, b) :: r, x, h => by
    unfold lookA
    rw [if_neg fun e => h (List.mem_cons.mpr (.inl e.symm)), lookA_none fun m => h (List.mem_cons_of_mem _ m)]
theorem lookA_isSome {α : Type} {l : List (Str × α)} {x : Str} : (lookA l x).isSome = true ↔ x ∈ l.map (·.1) := by
  constructor
  · intro h
    by_cases m : x ∈ l.map (·.1)
    · exact m
    · rw [lookA_none m] at h
      cases h
  · intro h
    obtain ⟨a, e⟩ := lookA_some h
    rw [e]
    rfl
theorem lookA_nodup {α : Type} : ∀ {l : List (Str × α)} {x : Str} {a : α}, (l.map (·.1)).Nodup → (x, a) ∈ l → lookA l x = some a
  | (k, b) :: r, x, a, hn, h => by
    have hn : (k :: r.map (·.1)).Nodup := hn
    obtain ⟨h1, h2⟩ := List.nodup_cons.mp hn
    unfold lookA
    rcases List.mem_cons.mp h with h | h
    · cases h
      exact if_pos rfl
    · rw [if_neg]
      · exact lookA_nodup h2 h
      · rintro rfl
        exact h1 (List.mem_map.mpr ⟨_, h, rfl⟩)
/-- d[x] = a -/
def putA {α : Type} : List (Str × α) → Str → α → List (Str × α)
  | [], x, a => [(x, a)]
  | (k, b) :: r, x, a => if k = x then (k, a) :: r else (k, b) :: putA r x a

/-! ### more steps -/
section
variable {K : PySem.W.Frag} {σ σ' : L2.St} {H H' : Hp} {x y z v : V} {Q : VK} {D : Ends} {i : Int}
theorem ty_tup {a : Addr} {xs : List V} (h : SqT K H a xs) : TyX K H (.ref a) (.type "tuple") := by
  rcases h with (h | ⟨o, h⟩) | ⟨o, its, n, h1, h2, _⟩
  · exact .base (.tup h)
  · exact .fTuple h
  · exact .kTuple h1 h2
theorem ty_dict {a : Addr} {kvs : List (Key × V)} (h : Rd H a (.dK kvs)) : TyX K H (.ref a) (.type "dict") := by
  rcases h with h | ⟨o, h⟩
  · exact .base (.dK h)
  · exact .fDict h
theorem ty_list {a : Addr} {xs : List V} (h : SqL K H a xs) : TyX K H (.ref a) (.type "list") := by
  rcases h with (h | ⟨o, h⟩) | ⟨o, its, n, h1, h2, _⟩
  · exact .base (.lst h)
  · exact .base (.frz h)
  · exact .kList h1 h2
theorem x_isi {a b : String} {r : Bool} (ty : TyX K H x (.type a)) (h : kitB a b = some r) (k : Q (.bl r) H) : rIsi K [x, .ty b] H Q := ⟨x, .ty b, _, _, r, rfl, .ty b, ty, kit_ty h, k⟩
theorem x_isiT {a b : String} (ty : TyX K H x (.type a)) (h : kitB a b = some true) (k : Q (.bl true) H) : rIsi K [x, .ty b] H Q := x_isi ty h k
theorem x_isiF {a b : String} (ty : TyX K H x (.type a)) (h : kitB a b = some false) (k : Q (.bl false) H) : rIsi K [x, .ty b] H Q := x_isi ty h k
theorem x_lenS {s : Str} (h : s.length ≤ sizeLine) (k : Q (.int s.length) H) : ∃ x n, [V.str s] = [x] ∧ LenV K x H n ∧ Q (.int n) H := ⟨_, _, rfl, ⟨h, rfl⟩, k⟩
theorem x_lenL {a : Addr} {xs : List V} (h : SqL K H a xs) (k : Q (.int xs.length) H) : ∃ x n, [V.ref a] = [x] ∧ LenV K x H n ∧ Q (.int n) H := ⟨_, _, rfl, .inl ⟨xs, h, rfl⟩, k⟩
theorem x_lenT {a : Addr} {xs : List V} (h : SqT K H a xs) (k : Q (.int xs.length) H) : ∃ x n, [V.ref a] = [x] ∧ LenV K x H n ∧ Q (.int n) H := ⟨_, _, rfl, .inr ⟨xs, h, rfl⟩, k⟩
theorem x_ixT {a : Addr} {xs : List V} (h : SqT K H a xs) (e : atI xs i = some v) (k : Q v H) : rIxT K (.ref a) (.int i) H Q := ⟨a, xs, i, v, rfl, rfl, h, e, k⟩
theorem x_ixL {a : Addr} {xs : List V} (h : SqL K H a xs) (e : atI xs i = some v) (k : Q v H) : rIxL K (.ref a) (.int i) H Q := ⟨a, xs, i, v, rfl, rfl, h, e, k⟩
theorem x_ixS {s : Str} {c : Nat} (h : s.length ≤ sizeLine) (e : atI s.cps.toList i = some c) (k : Q (.str ⟨#[c]⟩) H) : rIxS (.str s) (.int i) H Q := ⟨s, i, c, rfl, rfl, h, e, k⟩
/-- what a dict of texts holds at a text -/
theorem dget_rd {a : Addr} {kvs : List (Key × V)} {s : Str} (h : Rd H a (.dK kvs)) : DGet H a (.str s) (valV kvs (Sum.inr s)) := .inl ⟨kvs, Sum.inr s, h, rfl, rfl⟩
end
/-- len of a dict that may be locked -/
theorem call_lenR {X : Cx} : CallR X (.builtin "len") (fun xs H Q => ∃ a kvs, xs = [V.ref a] ∧ Rd H a (.dK kvs) ∧ Q (.int kvs.length) H) := by
  intro pins s σ H xs us Q I r h
  obtain ⟨a, kvs, rfl, ha, q⟩ := h
  obtain ⟨u, rfl, ru⟩ := vals1 r
  cases ru
  exact d_len I ha fun t s' I' => ⟨.int kvs.length, H, I', ⟨t, rfl⟩, q⟩
/-- H with o (or nothing) at d -/
def put (H : Hp) (d : Addr) (o : Option HO) : Hp := fun b => if b = d then o else H b
theorem put_ne {H : Hp} {d b : Addr} {o : Option HO} (h : b ≠ d) : put H d o b = H b := by
  unfold put
  rw [if_neg h]
theorem put_same {H : Hp} {d : Addr} {o : Option HO} : put H d o d = o := by
  unfold put
  rw [if_pos rfl]
theorem put_upd {H : Hp} {d : Addr} {u : HO} : put H d (some u) = upd H d u := rfl
theorem put_self {H : Hp} {d : Addr} {o : Option HO} (h : H d = o) : put H d o = H := by
  funext b
  unfold put
  split
  · rename_i e
    rw [e, h]
  · rfl
/-- a thing is locked, or it was locked before -/
def tLockR (t : TS) : TS := fun D σ H => ∃ d u, Rd H d u ∧ Mut (some u) ∧ ∀ od HL, HL d = some (.frz od u) → (∀ b, b ≠ d → HL b = H b) →
  t ⟨fun σ' H' => H' d = some (.frz od u) ∧ D.nx σ' (put H' d (H d)), fun v H' => H' d = some (.frz od u) ∧ D.rt v (put H' d (H d)), fun σ' H' => H' d = some (.frz od u) ∧ D.bk σ' (put H' d (H d)), fun σ' H' => H' d = some (.frz od u) ∧ D.ct σ' (put H' d (H d))⟩ σ HL
def tLockRE (t : TE) : TE := fun σ H Q => ∃ d u, Rd H d u ∧ Mut (some u) ∧ ∀ od HL, HL d = some (.frz od u) → (∀ b, b ≠ d → HL b = H b) → t σ HL fun v H' => H' d = some (.frz od u) ∧ Q v (put H' d (H d))
theorem ps_lockR {X : Cx} {st : Stmt} {t : TS} (h : PS X st t) : PS X st (tLockR t) := by
  refine ⟨fun pins s σ H D I hw => ?_⟩
  obtain ⟨d, u, hd, mu, hw⟩ := hw
  rcases hd with hd | ⟨o, hd⟩
  · refine (ps_lock h).run pins s σ H D I ⟨d, u, hd, mu, fun od => ?_⟩
    have q := hw od (upd H d (.frz od u)) upd_same fun b hb => upd_ne hb
    rw [hd] at q
    exact q
  · refine thn (h.run pins s σ _ _ I (hw o H hd fun _ _ => rfl)) fun f s1 q => ?_
    cases f with
    | next => obtain ⟨σ', H', I2, e, q⟩ := q; rw [put_self (e.trans hd.symm)] at q; exact ⟨σ', _, I2, q⟩
    | brk => obtain ⟨σ', H', I2, e, q⟩ := q; rw [put_self (e.trans hd.symm)] at q; exact ⟨σ', _, I2, q⟩
    | cont => obtain ⟨σ', H', I2, e, q⟩ := q; rw [put_self (e.trans hd.symm)] at q; exact ⟨σ', _, I2, q⟩
    | ret v => obtain ⟨x, σ', H', I2, r, e, q⟩ := q; rw [put_self (e.trans hd.symm)] at q; exact ⟨x, σ', _, I2, r, q⟩
theorem pe_lockR {X : Cx} {e : Expr} {t : TE} (h : PE X e t) : PE X e (tLockRE t) := by
  refine ⟨fun pins s σ H Q I hw => ?_⟩
  obtain ⟨d, u, hd, mu, hw⟩ := hw
  rcases hd with hd | ⟨o, hd⟩
  · refine (pe_lock h).run pins s σ H Q I ⟨d, u, hd, mu, fun od => ?_⟩
    have q := hw od (upd H d (.frz od u)) upd_same fun b hb => upd_ne hb
    rw [hd] at q
    exact q
  · refine thn (h.run pins s σ _ _ I (hw o H hd fun _ _ => rfl)) fun v s1 ⟨x, H1, I2, r, e2, q⟩ => ?_
    rw [put_self (e2.trans hd.symm)] at q
    exact ⟨x, _, I2, r, q⟩
section
variable {H HL H' : Hp} {d : Addr} {kvs : List (Key × V)} {od : Obj} {S : List Addr}
theorem lock_le (h : Rd H d (.dK kvs)) (e : HL d = some (.frz od (.dK kvs))) (ne : ∀ b, b ≠ d → HL b = H b) : Le H HL := by
  refine ⟨fun b v p q => ?_, fun b C dx fs q => ?_, fun b xs q => ?_⟩
  · by_cases hb : b = d
    · subst hb
      have z : v = .dK kvs := by
        rcases q with q | ⟨o, q⟩ <;> rcases h with h | ⟨o', h⟩ <;> rw [h] at q <;> cases q
        · rfl
        · exact p.elim
        · rfl
      exact .inr ⟨od, by rw [e, z]⟩
    · unfold Rd
      rw [ne b hb]
      exact q
  · rw [ne]
    · exact q
    · rintro rfl
      rcases h with h | ⟨o', h⟩ <;> rw [h] at q <;> cases q
  · rw [ne]
    · exact q
    · rintro rfl
      rcases h with h | ⟨o', h⟩ <;> rw [h] at q <;> cases q
theorem unlock_sx (ne : ∀ b, b ≠ d → HL b = H b) (a : SX S HL H') : SX S H (put H' d (H d)) := fun b o n q => by
  by_cases hb : b = d
  · subst hb
    rw [put_same]
    exact q
  · rw [put_ne hb]
    exact a b o n (by rw [ne b hb]; exact q)
theorem unlock_le (h : Rd H d (.dK kvs)) (e : H' d = some (.frz od (.dK kvs))) : Le H' (put H' d (H d)) := by
  rcases h with h | ⟨o, h⟩
  · rw [h, put_upd]
    exact le_unlock e
  · refine ⟨fun b v p q => ?_, fun b C dx fs q => ?_, fun b xs q => ?_⟩
    · by_cases hb : b = d
      · subst hb
        have z : v = .dK kvs := by
          rcases q with q | ⟨o, q⟩ <;> rw [e] at q <;> cases q
          · exact p.elim
          · rfl
        refine .inr ⟨o, ?_⟩
        rw [put_same, h, z]
      · unfold Rd
        rw [put_ne hb]
        exact q
    · rw [put_ne]
      · exact q
      · rintro rfl
        rw [e] at q
        cases q
    · rw [put_ne]
      · exact q
      · rintro rfl
        rw [e] at q
        cases q
end

/-! ### names for the readings of operators and calls -/
def rLeS : R2 := fun x y H Q => ∃ i j, x = .str i ∧ y = .str j ∧ Q (.bl (!decide (j.cps.toList < i.cps.toList))) H
def rCatS : R2 := fun x y H Q => ∃ i j, x = .str i ∧ y = .str j ∧ i.length + j.length ≤ sizeLine ∧ Q (.str (i ++ j)) H
def rIsNo : R2 := fun x y H Q => y = .non ∧ Q (.bl (decide (x = .non))) H
def rNotNo : R2 := fun x y H Q => y = .non ∧ Q (.bl (!decide (x = .non))) H
def rInSg (neg : Bool) : R2 := fun x y H Q => ∃ (c : Nat) (z : Str), x = .str ⟨#[c]⟩ ∧ y = .str z ∧ Q (.bl (if neg then !decide (c ∈ z.cps.toList) else decide (c ∈ z.cps.toList))) H
def cLen (K : PySem.W.Frag) : List V → Hp → VK → Prop := fun xs H Q => ∃ x n, xs = [x] ∧ LenV K x H n ∧ Q (.int n) H
def cLenD : List V → Hp → VK → Prop := fun xs H Q => ∃ a kvs, xs = [V.ref a] ∧ Rd H a (.dK kvs) ∧ Q (.int kvs.length) H
def cMin2 : List V → Hp → VK → Prop := fun xs H Q => ∃ i j, xs = [.int i, .int j] ∧ Q (.int (if j < i then j else i)) H
def cMax2 : List V → Hp → VK → Prop := fun xs H Q => ∃ i j, xs = [.int i, .int j] ∧ Q (.int (if j > i then j else i)) H
def cAbs : List V → Hp → VK → Prop := fun xs H Q => ∃ i, xs = [.int i] ∧ Q (.int (if i < 0 then -i else i)) H
def cInt : List V → Hp → VK → Prop := fun xs H Q => (∃ i, xs = [.int i] ∧ Q (.int i) H) ∨ ∃ k, xs = [.bl k] ∧ Q (.int (if k then 1 else 0)) H
def cStr : List V → Hp → VK → Prop := fun xs H Q => ∃ i, xs = [.int i] ∧ i.natAbs.log2 < 1920 ∧ Q (.str (toString i)) H
def cList (K : PySem.W.Frag) : List V → Hp → VK → Prop := fun xs H Q => ∃ p ys, xs = [.ref p] ∧ (SqL K H p ys ∨ SqT K H p ys) ∧ ∀ l, H l = none → Q (.ref l) (upd H l (.lst ys))
def cTup (K : PySem.W.Frag) : List V → Hp → VK → Prop := fun xs H Q => ∃ p ys, xs = [.ref p] ∧ SqL K H p ys ∧ ∀ l, H l = none → Q (.ref l) (upd H l (.tup ys))
def cDict : List V → Hp → VK → Prop := fun xs H Q => ∃ (a : Addr) (kvs : List (Key × V)), xs = [.ref a] ∧ Rd H a (.dK kvs) ∧ ∀ p, H p = none → Q (.ref p) (upd H p (.dK kvs))
def cListD : List V → Hp → VK → Prop := fun xs H Q => ∃ (a : Addr) (kvs : List (Key × V)), xs = [.ref a] ∧ Rd H a (.dK kvs) ∧ ∀ p, H p = none → Q (.ref p) (upd H p (.lst (kvs.map fun kv => kV kv.1)))
section
variable {X : Cx}
theorem op_leS : OpR X (compareOp .LtE) rLeS := op_le_str
theorem op_catS : OpR X (binaryOp .Add) rCatS := op_add_str
theorem op_isNo : OpR X (compareOp .Is) rIsNo := op_isN
theorem op_notNo : OpR X (compareOp .IsNot) rNotNo := op_notN
theorem op_inSg : OpR X (compareOp .In) (rInSg false) := op_in_sign
theorem op_notInSg : OpR X (compareOp .NotIn) (rInSg true) := op_notIn_sign
theorem cl_len : CallR X (.builtin "len") (cLen X.K) := call_len
theorem cl_lenD : CallR X (.builtin "len") cLenD := call_lenR
theorem cl_min2 (hc : X.calm = true) : CallR X (.builtin "min") cMin2 := call_min2 hc
theorem cl_max2 (hc : X.calm = true) : CallR X (.builtin "max") cMax2 := call_max2 hc
theorem cl_abs : CallR X (.builtin "abs") cAbs := call_abs
theorem cl_int : CallR X (.type "int") cInt := call_int1
theorem cl_str : CallR X (.type "str") cStr := call_str_int
theorem cl_list : CallR X (.type "list") (cList X.K) := call_list_of
theorem cl_tup : CallR X (.type "tuple") (cTup X.K) := by
  intro pins s σ H xs us Q I r h
  obtain ⟨p, ys, e, hs, q⟩ := h
  exact call_tuple_of pins s σ H xs us Q I r ⟨p, ys, e, .inl ⟨hs, q⟩⟩
theorem cl_dict : CallR X (.type "dict") cDict := call_dictD
theorem cl_listD (hc : X.calm = true) : CallR X (.type "list") cListD := call_listD hc
end
section
variable {K : PySem.W.Frag} {H : Hp} {Q : VK} {i j : Int} {a : Addr}
theorem x_leS {s t : Str} (k : Q (.bl (!decide (t.cps.toList < s.cps.toList))) H) : rLeS (.str s) (.str t) H Q := ⟨s, t, rfl, rfl, k⟩
theorem x_catS {s t : Str} (h : s.length + t.length ≤ sizeLine) (k : Q (.str (s ++ t)) H) : rCatS (.str s) (.str t) H Q := ⟨s, t, rfl, rfl, h, k⟩
theorem x_isNo {x : V} (k : Q (.bl (decide (x = .non))) H) : rIsNo x .non H Q := ⟨rfl, k⟩
theorem x_notNo {x : V} (k : Q (.bl (!decide (x = .non))) H) : rNotNo x .non H Q := ⟨rfl, k⟩
theorem x_len {x : V} {n : Nat} (h : LenV K x H n) (k : Q (.int n) H) : cLen K [x] H Q := ⟨x, n, rfl, h, k⟩
theorem x_lenL' {xs : List V} (h : SqL K H a xs) (k : Q (.int xs.length) H) : cLen K [.ref a] H Q := ⟨_, _, rfl, .inl ⟨xs, h, rfl⟩, k⟩
theorem x_lenT' {xs : List V} (h : SqT K H a xs) (k : Q (.int xs.length) H) : cLen K [.ref a] H Q := ⟨_, _, rfl, .inr ⟨xs, h, rfl⟩, k⟩
theorem x_lenS' {s : Str} (h : s.length ≤ sizeLine) (k : Q (.int s.length) H) : cLen K [.str s] H Q := ⟨_, _, rfl, ⟨h, rfl⟩, k⟩
theorem x_lenD {kvs : List (Key × V)} (h : Rd H a (.dK kvs)) (k : Q (.int kvs.length) H) : cLenD [.ref a] H Q := ⟨a, kvs, rfl, h, k⟩
theorem x_min2 (k : Q (.int (if j < i then j else i)) H) : cMin2 [.int i, .int j] H Q := ⟨i, j, rfl, k⟩
theorem x_max2 (k : Q (.int (if j > i then j else i)) H) : cMax2 [.int i, .int j] H Q := ⟨i, j, rfl, k⟩
theorem x_abs (k : Q (.int (if i < 0 then -i else i)) H) : cAbs [.int i] H Q := ⟨i, rfl, k⟩
theorem x_cint (k : Q (.int i) H) : cInt [.int i] H Q := .inl ⟨i, rfl, k⟩
theorem x_cintB {b : Bool} (k : Q (.int (if b then 1 else 0)) H) : cInt [.bl b] H Q := .inr ⟨b, rfl, k⟩
theorem x_cstr (h : i.natAbs.log2 < 1920) (k : Q (.str (toString i)) H) : cStr [.int i] H Q := ⟨i, rfl, h, k⟩
theorem x_clist {ys : List V} (h : SqL K H a ys) (k : ∀ l, H l = none → Q (.ref l) (upd H l (.lst ys))) : cList K [.ref a] H Q := ⟨a, ys, rfl, .inl h, k⟩
theorem x_clistT {ys : List V} (h : SqT K H a ys) (k : ∀ l, H l = none → Q (.ref l) (upd H l (.lst ys))) : cList K [.ref a] H Q := ⟨a, ys, rfl, .inr h, k⟩
theorem x_ctup {ys : List V} (h : SqL K H a ys) (k : ∀ l, H l = none → Q (.ref l) (upd H l (.tup ys))) : cTup K [.ref a] H Q := ⟨a, ys, rfl, h, k⟩
theorem x_cdict {kvs : List (Key × V)} (h : Rd H a (.dK kvs)) (k : ∀ p, H p = none → Q (.ref p) (upd H p (.dK kvs))) : cDict [.ref a] H Q := ⟨a, kvs, rfl, h, k⟩
theorem x_clistD {kvs : List (Key × V)} (h : Rd H a (.dK kvs)) (k : ∀ p, H p = none → Q (.ref p) (upd H p (.lst (kvs.map fun kv => kV kv.1)))) : cListD [.ref a] H Q := ⟨a, kvs, rfl, h, k⟩
end

/-! ### walks over what is read -/
section
variable {K : PySem.W.Frag} {α β : Type} {R : RR α} {Hb : Hp} {a d : Addr} {o : Obj}
theorem x_lockR {t : TS} {D : Ends} {σ : L2.St} {H : Hp} {kvs : List (Key × V)} (h : Rd H d (.dK kvs)) (k : ∀ od HL, HL d = some (.frz od (.dK kvs)) → (∀ b, b ≠ d → HL b = H b) →
  t ⟨fun σ' H' => H' d = some (.frz od (.dK kvs)) ∧ D.nx σ' (put H' d (H d)), fun v H' => H' d = some (.frz od (.dK kvs)) ∧ D.rt v (put H' d (H d)), fun σ' H' => H' d = some (.frz od (.dK kvs)) ∧ D.bk σ' (put H' d (H d)), fun σ' H' => H' d = some (.frz od (.dK kvs)) ∧ D.ct σ' (put H' d (H d))⟩ σ HL) : tLockR t D σ H := ⟨d, _, h, trivial, k⟩
theorem x_lockRE {t : TE} {σ : L2.St} {H : Hp} {Q : VK} {kvs : List (Key × V)} (h : Rd H d (.dK kvs)) (k : ∀ od HL, HL d = some (.frz od (.dK kvs)) → (∀ b, b ≠ d → HL b = H b) →
  t σ HL fun v H' => H' d = some (.frz od (.dK kvs)) ∧ Q v (put H' d (H d))) : tLockRE t σ H Q := ⟨d, _, h, trivial, k⟩
theorem walk_itemsR {kvs : List (Key × V)} {l : List (Str × α)} (h : KVs R Hb kvs l) : Walk (Iti d o kvs) l.length (fun H => H d = some (.frz o (.dK kvs)))
    (fun i H x H' => ∃ T p v, l[i]? = some p ∧ R Hb v p.2 ∧ x = .ref T ∧ H T = none ∧ H' = upd H T (.tup [.str p.1, v])) := by
  rw [← Paired.length h]
  refine walk_items.mono (fun _ h => h) fun i H x H' hi _ y => ?_
  obtain ⟨T, k, v, rfl, h2, rfl, h4, h5⟩ := y
  obtain ⟨kv, ekv⟩ : ∃ kv, kvs[i]? = some kv := ⟨kvs[i], by simp [hi]⟩
  obtain ⟨p, ep, e1, r⟩ := Paired.getL h ekv
  dsimp only at h4 h5
  rw [ekv] at h4 h5
  cases h4
  cases h5
  exact ⟨T, p, _, ep, r, rfl, h2, by dsimp only; rw [e1]; rfl⟩
theorem walk_keysR {kvs : List (Key × V)} {l : List (Str × α)} (h : KVs R Hb kvs l) : Walk (Itk d o kvs) l.length (fun H => H d = some (.frz o (.dK kvs)))
    (fun i H x H' => H' = H ∧ ∃ p v, l[i]? = some p ∧ x = .str p.1 ∧ R Hb v p.2) := by
  rw [← Paired.length h]
  refine walk_keys.mono (fun _ h => h) fun i H x H' hi _ y => ?_
  obtain ⟨rfl, k, v, h1, rfl⟩ := y
  obtain ⟨p, ep, e1, r⟩ := Paired.getL h h1
  exact ⟨rfl, p, v, ep, by rw [show k = Sum.inr p.1 from e1]; rfl, r⟩
theorem walk_valsR {kvs : List (Key × V)} {l : List (Str × α)} (h : KVs R Hb kvs l) : Walk (Itd d o kvs) l.length (fun H => H d = some (.frz o (.dK kvs)))
    (fun i H x H' => H' = H ∧ ∃ p, l[i]? = some p ∧ R Hb x p.2) := by
  rw [← Paired.length h]
  refine walk_values.mono (fun _ h => h) fun i H x H' hi _ y => ?_
  obtain ⟨rfl, k, h1⟩ := y
  obtain ⟨p, ep, e1, r⟩ := Paired.getL h h1
  exact ⟨rfl, p, ep, r⟩
theorem walk_listR {xs : List V} {l : List α} (h : Paired (R Hb) xs l) : Walk (Itl K a) l.length (fun H => SqL K H a xs) (fun i H x H' => H' = H ∧ ∃ y, l[i]? = some y ∧ R Hb x y) := by
  rw [← Paired.length h]
  refine walk_list.mono (fun _ h => h) fun i H x H' hi _ y => ?_
  obtain ⟨rfl, h1⟩ := y
  exact ⟨rfl, Paired.getL h h1⟩
theorem walk_tupR {xs : List V} {l : List α} (h : Paired (R Hb) xs l) : Walk (Itt K a) l.length (fun H => SqT K H a xs) (fun i H x H' => H' = H ∧ ∃ y, l[i]? = some y ∧ R Hb x y) := by
  rw [← Paired.length h]
  refine walk_tup.mono (fun _ h => h) fun i H x H' hi _ y => ?_
  obtain ⟨rfl, h1⟩ := y
  exact ⟨rfl, Paired.getL h h1⟩
end
/-! ### the names that a dict has -/
def rK : RR (List Str) := fun H v l => ∃ a kvs, v = .ref a ∧ Rd H a (.dK kvs) ∧ kvs.map (·.1) = l.map Sum.inr
theorem mono_K : Mono rK := fun _ _ _ _ e ⟨a, kvs, h1, h2, h3⟩ => ⟨a, kvs, h1, e.rd _ _ trivial h2, h3⟩
theorem rD.toK {α : Type} {R : RR α} {H : Hp} {v : V} {l : List (Str × α)} (h : rD R H v l) : rK H v (l.map (·.1)) := by
  obtain ⟨a, kvs, h1, h2, h3⟩ := h
  exact ⟨a, kvs, h1, h2, h3.keys⟩
theorem keys_val {kvs : List (Key × V)} {l : List Str} (h : kvs.map (·.1) = l.map Sum.inr) (s : Str) : (valV kvs (Sum.inr s)).isSome = decide (s ∈ l) := by
  rw [← valV_any]
  by_cases m : s ∈ l
  · rw [decide_eq_true m, List.any_eq_true]
    have : (Sum.inr s : Key) ∈ kvs.map (·.1) := by
      rw [h]
      exact List.mem_map.mpr ⟨s, m, rfl⟩
    obtain ⟨kv, h1, h2⟩ := List.mem_map.mp this
    exact ⟨kv, h1, decide_eq_true h2⟩
  · rw [decide_eq_false m, List.any_eq_false]
    intro kv hkv q
    have q := of_decide_eq_true q
    have : (Sum.inr s : Key) ∈ l.map Sum.inr := by
      rw [← h]
      exact List.mem_map.mpr ⟨kv, hkv, q⟩
    obtain ⟨t, h1, h2⟩ := List.mem_map.mp this
    cases h2
    exact m h1
theorem x_din' {H : Hp} {a : Addr} {s : Str} {kvs : List (Key × V)} {R : Option V → Prop} (h : Rd H a (.dK kvs)) (k : R (valV kvs (Sum.inr s))) : ∃ a' o, V.ref a = .ref a' ∧ DGet H a' (.str s) o ∧ R o := ⟨a, _, rfl, dget_rd h, k⟩
theorem x_dni' {H : Hp} {a : Addr} {s : Str} {kvs : List (Key × V)} {R : Option V → Prop} (h : Rd H a (.dK kvs)) (k : R (valV kvs (Sum.inr s))) : ∃ a' o, V.ref a = .ref a' ∧ DGet H a' (.str s) o ∧ R o := ⟨a, _, rfl, dget_rd h, k⟩
theorem x_dg' {H : Hp} {a : Addr} {s : Str} {kvs : List (Key × V)} {v : V} {R : V → Prop} (h : Rd H a (.dK kvs)) (e : valV kvs (Sum.inr s) = some v) (k : R v) : ∃ a' v', V.ref a = .ref a' ∧ DGet H a' (.str s) (some v') ∧ R v' := ⟨a, v, rfl, by rw [← e]; exact dget_rd h, k⟩
theorem Rd.le {A B : Hp} {a : Addr} {kvs : List (Key × V)} (e : Le A B) (h : Rd A a (.dK kvs)) : Rd B a (.dK kvs) := e.rd _ _ trivial h
theorem SX.rd {A B : Hp} {a : Addr} {kvs : List (Key × V)} (e : SX [] A B) (h : Rd A a (.dK kvs)) : Rd B a (.dK kvs) := e.le0.rd _ _ trivial h
theorem nil_sx {S : List Addr} {A B : Hp} (a : SX [] A B) : SX S A B := a.sub fun _ h => absurd h List.not_mem_nil
theorem getLt {α : Type} {l : List α} {i : Nat} {x : α} (h : l[i]? = some x) : i < l.length := (List.getElem?_eq_some_iff.mp h).1
theorem getMem {α : Type} {l : List α} {i : Nat} {x : α} (h : l[i]? = some x) : x ∈ l := List.mem_of_getElem? h
/-! ### works -/
inductive Stand where
  | fin
  | hand (h : Int) (ms : List (Str × Str))
  | chance (ds : List (Str × (Str × Int)))
def rStand (K : PySem.W.Frag) : RR Stand := fun H v s => match s with
  | .fin => ∃ p, v = .ref p ∧ SqT K H p [.str "end"]
  | .hand h ms => ∃ p d, v = .ref p ∧ SqT K H p [.str "hand", .int h, d] ∧ rD rS H d ms
  | .chance ds => ∃ p d, v = .ref p ∧ SqT K H p [.str "chance", d] ∧ rD (rP K rS rI) H d ds
theorem mono_stand (K : PySem.W.Frag) : Mono (rStand K) := fun A B v s e h => by
  cases s with
  | fin => obtain ⟨p, h1, h2⟩ := h; exact ⟨p, h1, e.t h2⟩
  | hand h ms => obtain ⟨p, d, h1, h2, h3⟩ := h; exact ⟨p, d, h1, e.t h2, mono_D mono_S _ _ _ _ e h3⟩
  | chance ds => obtain ⟨p, d, h1, h2, h3⟩ := h; exact ⟨p, d, h1, e.t h2, mono_D (mono_P mono_S mono_I) _ _ _ _ e h3⟩

/-! ### sorted of a dict of texts, of a list of texts, whatever their number -/
def cSortD : List V → Hp → VK → Prop := fun xs H Q => ∃ (a : Addr) (kvs : List (Key × V)) (ks : List Str), xs = [.ref a] ∧ Rd H a (.dK kvs) ∧ kvs.map (·.1) = ks.map Sum.inr ∧
  ∀ ys p, ys.Perm ks → sortedS ys = true → H p = none → Q (.ref p) (upd H p (.lst (ys.map V.str)))
def cSortL (K : PySem.W.Frag) : List V → Hp → VK → Prop := fun xs H Q => ∃ (a : Addr) (ks : List Str), xs = [.ref a] ∧ SqL K H a (ks.map V.str) ∧
  ∀ ys p, ys.Perm ks → sortedS ys = true → H p = none → Q (.ref p) (upd H p (.lst (ys.map V.str)))
section
variable {X : Cx}
theorem cl_sortL : CallR X (.builtin "sorted") (cSortL X.K) := by
  intro pi s0 st Hp0 args us Qk In rel hh
  obtain ⟨lx, ks, rfl, hq, kk⟩ := hh
  obtain ⟨its, rv, hl, hsz⟩ := In.list hq
  rw [Vals.ref1 rel]
  have n0 : ks.length = its.length := by simpa using rv.length
  have nl : its.length ≤ sizeLine := by rw [← n0]; simpa using hsz
  refine PyProof.Rows.sorted_strsAny hl.isList rv.strs nl fun ot ys p1 p2 p3 => ?_
  obtain ⟨ep, at1⟩ := PyProof.Rows.sortedAll_at s0.heap its ot
  have fit : (ys.map V.str).length ≤ sizeLine := by rw [List.length_map, p2.length_eq, n0]; exact nl
  refine ⟨.ref _, upd Hp0 (s0.heap.objs.size + 1) (.lst (ys.map V.str)), ?_, rfl, kk ys _ p2 p3 (In.hok.fresh (Nat.le_succ _))⟩
  exact In.laid (t' := s0.toks) (fun _ _ => PyProof.Rows.sortedAll_old) (Nat.le_succ _) ⟨fit, ot.toList, ep, vals_of_strs p1, at1⟩
theorem cl_sortD (calmly : X.calm = true) : CallR X (.builtin "sorted") cSortD := by
  intro pi s0 st Hp0 args us Qk In rel hh
  obtain ⟨ad, kv0, ks, exs, rd0, names, kk⟩ := hh
  subst exs
  obtain ⟨u0, eu0, r0⟩ := vals1 rel
  subst eu0
  cases r0
  obtain ⟨zd, od0, vv, prs, dof⟩ := dk_rd In.hok rd0
  obtain ⟨epo, dAt⟩ := dof.dictAt
  have nm : vv.map (·.1) = ks.map Sum.inr := by rw [← names, prs.keys]
  have nl : vv.length = ks.length := by simpa using congrArg List.length nm
  have fit0 : vv.length ≤ sizeLine := by rw [← prs.length]; exact zd
  refine Calls.call_function_entry PyProof.Rows.kind_sorted PyProof.Rows.plain_sorted PyProof.Rows.entry_sorted (by exact PyProof.Rows.args_sorted1 _) ?_
  unfold Builtin.«sorted»
  refine wpAny_bind (m := checkCount "sorted" 1 1 _) ?_; refine wpAny_pure ?_
  refine wpAny_bind (PySem.W.kdu_collect (A := X.A.in1) (PySem.W.kdl_dict (knd := mixKind X.prog X.w) (kvs := vv) (ep := epo) od0) (In.ok.hd calmly) dAt fit0 fun hp1 tk1 got keep1 ⟨gsz, gat⟩ => ?_)
  have al : got.toList.length = ks.length := by rw [Array.length_toList, gsz, nl]
  have txt : StrsAre got.toList ks := strs_at al fun n v ev => by
    obtain ⟨kq, xq, f1, f2⟩ := gat n v (by rw [← Array.getElem?_toList]; exact ev)
    have f3 : (ks.map Sum.inr : List Key)[n]? = some kq := by rw [← nm, List.getElem?_map, f1]; rfl
    rw [List.getElem?_map] at f3
    match q4 : ks[n]? with
    | none =>
      rw [q4] at f3
      cases f3
    | some y =>
      rw [q4] at f3
      have f5 : Sum.inr y = kq := Option.some.inj f3
      subst f5
      obtain ⟨tt, f6⟩ := Value.isStrOf_shape (x := y) (v := v) f2
      exact ⟨y, tt, rfl, f6⟩
  have sml : got.toList.length ≤ sizeLine := by rw [al, ← nl]; exact fit0
  have In1 : Inv X pi st Hp0 { s0 with heap := hp1, toks := tk1 } := In.kept keep1
  refine wpAny_bind (wpAny_newList ?_ (by simpa using sml))
  have at0 : (hp1.push (seqObj "list" got.toList.toArray 0)).get? hp1.objs.size = some (seqObj "list" got.toList.toArray 0) := by exact Heap.get?_push_size _ rfl
  show wpAny _ _ _ _ _ { s0 with heap := hp1.push (seqObj "list" got.toList.toArray 0), toks := tk1 }
  refine wpAny_bind (wpAny_holding (wpAny_call_entry PyProof.Rows.slot_list_sort ⟨_, at0, rfl⟩ PyProof.Rows.entry_list_sort
    (PyProof.Rows.list_sort_treeKAny strKind_oneLt (s := { s0 with heap := hp1.push (seqObj "list" got.toList.toArray 0), toks := tk1 }) at0 txt.keysOf (fun _ _ _ e => keyKind_strs (by rw [← e]; exact txt)) sml fun sst p1 p2 => ⟨_, rfl, ?_⟩)
    (by exact PyProof.Rows.args_list_sort _)))
  obtain ⟨ys, g1, g2, g3⟩ := sorted_out_str txt p1 p2
  obtain ⟨ep2, at2⟩ := PyProof.Rows.sortedHeap_at (vs := got.toList) (out := (arrOf sst).map (·.2)) at0
  have fit : (ys.map V.str).length ≤ sizeLine := by rw [List.length_map, g2.length_eq, ← al]; exact sml
  refine wpAny_pure ⟨_, rfl, .ref hp1.objs.size, upd Hp0 hp1.objs.size (.lst (ys.map V.str)), ?_, rfl, kk ys _ g2 g3 (In1.hok.fresh (Nat.le_refl _))⟩
  refine In1.laid (t' := tk1) (fun b u e => ?_) (Nat.le_refl _) (show ObjOk X.prog X.w _ _ _ (.lst (ys.map V.str)) from ⟨fit, ((arrOf sst).map (·.2)).toList, ep2, vals_of_strs g1, ?_⟩)
  · have lt : b < hp1.objs.size := Heap.lt_size e
    rw [PyProof.Rows.sortedHeap_old (Nat.ne_of_lt lt) (Nat.lt_of_lt_of_eq (Nat.lt_succ_of_lt lt) (size_push' _ _).symm)]
    exact Heap.get?_push_of_some _ e
  · rw [Array.toArray_toList]
    exact at2
end
section
variable {K : PySem.W.Frag} {H : Hp} {Q : VK} {a : Addr}
theorem x_sortD {kvs : List (Key × V)} {ks : List Str} (h : Rd H a (.dK kvs)) (e : kvs.map (·.1) = ks.map Sum.inr) (k : ∀ ys p, ys.Perm ks → sortedS ys = true → H p = none → Q (.ref p) (upd H p (.lst (ys.map V.str)))) : cSortD [.ref a] H Q := ⟨a, kvs, ks, rfl, h, e, k⟩
theorem x_sortL {ks : List Str} (h : SqL K H a (ks.map V.str)) (k : ∀ ys p, ys.Perm ks → sortedS ys = true → H p = none → Q (.ref p) (upd H p (.lst (ys.map V.str)))) : cSortL K [.ref a] H Q := ⟨a, ks, rfl, h, k⟩
end

/-- a dict comprehension over a walk: Iv by the turn and the heap (the new dict at D within) -/
theorem dc_walk {J : It} {n : Nat} {G : Hp → Prop} {Y : Nat → Hp → V → Hp → Prop} (wk : Walk J n G Y) {g : TG} {tt : TT} {tk tv : TE} {own : List Nat} {σ : L2.St} {H1 : Hp} {D : Addr} {fin : Hp → Prop} (Iv : Nat → Hp → Prop)
    (ini : Iv 0 (upd H1 D (.dK []))) (std : ∀ i A, i ≤ n → Iv i A → G A)
    (one : ∀ i x A B, i < n → Iv i A → Y i A x B → g x (wipe σ own) B fun σ2 B2 => wipe σ2 own = wipe σ own ∧ tt σ2 B2 fun b B3 =>
      if b = true then tk σ2 B3 fun y B4 => tv σ2 B4 fun z B5 => ∃ kvs k, y = kV k ∧ B5 D = some (.dK kvs) ∧ kvs.length < sizeLine ∧ Iv (i + 1) (upd B5 D (.dK (putK kvs k z))) else Iv (i + 1) B3)
    (all : ∀ A, Iv n A → fin A) :
    ∃ W : Nat → Nat → Hp → Prop, (∃ m, W 0 m (upd H1 D (.dK []))) ∧ ∀ i m A, W i m A →
      (J.stop i A ∧ fin A) ∨ (J.go i A ∧ ∃ Nx : Hp → Prop, (∀ B, Nx B → ∃ m', m' < m ∧ W (i + 1) m' B) ∧ ∀ x B, J.yld i A x B → g x (wipe σ own) B fun σ2 B2 => wipe σ2 own = wipe σ own ∧ tt σ2 B2 fun b B3 =>
        if b = true then tk σ2 B3 fun y B4 => tv σ2 B4 fun z B5 => ∃ kvs k, y = kV k ∧ B5 D = some (.dK kvs) ∧ kvs.length < sizeLine ∧ Nx (upd B5 D (.dK (putK kvs k z))) else Nx B3) := by
  refine ⟨fun i m A => m + i = n ∧ Iv i A, ⟨n, rfl, ini⟩, fun i m A ⟨e, v⟩ => ?_⟩
  have gi := std i A (by omega) v
  rcases Nat.lt_or_ge i n with l | l
  · exact .inr ⟨wk.goes i A l gi, Iv (i + 1), fun B vB => ⟨m - 1, by omega, by omega, vB⟩, fun x B yl => one i x A B l v (wk.yields i A x B l gi yl)⟩
  · obtain rfl : i = n := by omega
    exact .inl ⟨wk.stops A gi, all A v⟩
section
variable {K : PySem.W.Frag} {σ : L2.St} {H : Hp} {Q : VK}
theorem x_lc {wi : TI} {g : TG} {tt : TT} {te : TE} {vs : List Nat} (k : wi σ H fun J H1 => ∀ D, H1 D = none → ∃ W : Nat → Nat → Hp → Prop, (∃ m, W 0 m (upd H1 D (.lst []))) ∧ ∀ i m H, W i m H →
  (J.stop i H ∧ Q (.ref D) H) ∨ (J.go i H ∧ ∃ Nx : Hp → Prop, (∀ H', Nx H' → ∃ m', m' < m ∧ W (i + 1) m' H') ∧ ∀ x H', J.yld i H x H' → g x (wipe σ vs) H' fun σ2 H2 => wipe σ2 vs = wipe σ vs ∧ tt σ2 H2 fun b H3 =>
    if b = true then te σ2 H3 fun y H4 => ∃ acc, H4 D = some (.lst acc) ∧ acc.length < sizeLine ∧ Nx (upd H4 D (.lst (acc ++ [y]))) else Nx H3)) : tLc wi g tt te vs σ H Q := k
theorem x_dc {wi : TI} {g : TG} {tt : TT} {tk tv : TE} {vs : List Nat} (k : wi σ H fun J H1 => ∀ D, H1 D = none → ∃ W : Nat → Nat → Hp → Prop, (∃ m, W 0 m (upd H1 D (.dK []))) ∧ ∀ i m H, W i m H →
  (J.stop i H ∧ Q (.ref D) H) ∨ (J.go i H ∧ ∃ Nx : Hp → Prop, (∀ H', Nx H' → ∃ m', m' < m ∧ W (i + 1) m' H') ∧ ∀ x H', J.yld i H x H' → g x (wipe σ vs) H' fun σ2 H2 => wipe σ2 vs = wipe σ vs ∧ tt σ2 H2 fun b H3 =>
    if b = true then tk σ2 H3 fun y H4 => tv σ2 H4 fun z H5 => ∃ kvs k, y = kV k ∧ H5 D = some (.dK kvs) ∧ kvs.length < sizeLine ∧ Nx (upd H5 D (.dK (putK kvs k z))) else Nx H3)) : tDc wi g tt tk tv vs σ H Q := k
theorem x_yes {QB : Bool → Hp → Prop} (k : QB true H) : tYes σ H QB := k
theorem x_wipe {n : Nat} {r : List Nat} {A : L2.St} {B C : Prop} (e : A = σ) (k : C) : A = σ ∧ C := ⟨e, k⟩
theorem x_sfld {ta tv : TE} {f : Str} {D : Ends} (k : tv σ H fun y H1 => ta σ H1 fun x H2 => ∃ a C dx fs, x = .ref a ∧ H2 a = some (.ins C dx fs) ∧ Cls K C ∧ NoAttr K C f ∧ fs.length < 1000 ∧ D.nx σ (upd H2 a (.ins C dx (putF f y fs)))) : sFld K ta tv f D σ H := k
theorem x_while {c : TT} {tb : TS} {D : Ends} (Pv : L2.St → Hp → Prop) (μ : L2.St → Hp → Nat) (h0 : Pv σ H)
    (hs : ∀ σ H, Pv σ H → c σ H fun b H1 => if b = true then tb { D with nx := fun σ' H' => Pv σ' H' ∧ μ σ' H' < μ σ H, ct := fun σ' H' => Pv σ' H' ∧ μ σ' H' < μ σ H, bk := D.nx } σ H1 else D.nx σ H1)
    (mono : ∀ σ H Q Q', (∀ b H1, Q b H1 → Q' b H1) → c σ H Q → c σ H Q') : tWhile c tb D σ H := while_by Pv μ h0 hs mono
end
/-- sorted by the keys, the same pairs -/
structure Srt {α : Type} (l l' : List (Str × α)) : Prop where
  perm : l'.Perm l
  srt : sortedS (l'.map (·.1)) = true
/-- the pairs of l in the order of ys -/
def pick {α : Type} [Inhabited α] (l : List (Str × α)) (ys : List Str) : List (Str × α) := ys.map fun k => (k, (lookA l k).getD default)
theorem pick_keys {α : Type} [Inhabited α] (l : List (Str × α)) (ys : List Str) : (pick l ys).map (·.1) = ys := by
  unfold pick
  rw [List.map_map]
  exact List.map_id' ys
theorem pick_perm {α : Type} [Inhabited α] {l : List (Str × α)} {ys : List Str} (hn : (l.map (·.1)).Nodup) (h : ys.Perm (l.map (·.1))) : (pick l ys).Perm l := by
  have h1 : (pick l ys).Perm (pick l (l.map (·.1))) := h.map _
  have h2 : pick l (l.map (·.1)) = l := by
    unfold pick
    rw [List.map_map]
    have : ∀ p ∈ l, ((fun k => (k, (lookA l k).getD default)) ∘ fun x => x.1) p = p := fun p hp => by
      show (p.1, (lookA l p.1).getD default) = p
      rw [lookA_nodup hn (show (p.1, p.2) ∈ l from hp)]
      rfl
    exact (List.map_congr_left this).trans (List.map_id' l)
  rw [h2] at h1
  exact h1
theorem pick_srt {α : Type} [Inhabited α] {l : List (Str × α)} {ys : List Str} (hn : (l.map (·.1)).Nodup) (h : ys.Perm (l.map (·.1))) (hs : sortedS ys = true) : Srt l (pick l ys) := ⟨pick_perm hn h, by rw [pick_keys]; exact hs⟩
/-- a new key goes to the end -/
theorem putK_fresh {kvs : List (Key × V)} {l : List Str} {s : Str} (v : V) (e : kvs.map (·.1) = l.map Sum.inr) (n : s ∉ l) : putK kvs (Sum.inr s) v = kvs ++ [(Sum.inr s, v)] := by
  refine putK_new v ?_
  have := keys_val e s
  rw [decide_eq_false n] at this
  cases h : valV kvs (Sum.inr s) with
  | none => rfl
  | some x =>
    rw [h] at this
    cases this
theorem take_succ_of {α : Type} {l : List α} {i : Nat} {x : α} (h : l[i]? = some x) : l.take (i + 1) = l.take i ++ [x] := by
  rw [List.take_add_one, h]
  rfl
theorem nodup_take {α : Type} {l : List α} (hn : l.Nodup) {i : Nat} {x : α} (h : l[i]? = some x) : x ∉ l.take i := by
  intro m
  obtain ⟨j, hj⟩ := List.getElem?_of_mem m
  have hj' := getLt hj
  rw [List.length_take] at hj'
  rw [List.getElem?_take] at hj
  split at hj
  · rename_i hlt
    have := nd_ix hn h hj
    omega
  · cases hj
instance : Inhabited Stand := ⟨.fin⟩

/-! ### {k: d[k] for k in sorted(d)} -/
theorem wipe1 (σ : L2.St) (j : Nat) : wipe σ [j] = σ.set j none := rfl
theorem wipe_set (σ : L2.St) (j : Nat) (v : Option V) : wipe ((wipe σ [j]).set j v) [j] = wipe σ [j] := by
  rw [wipe1, wipe1, List.set_set, List.set_set]
theorem wiped_other {σ : L2.St} {i j : Nat} {x : Option V} {v : Option (Option V)} (h : σ[i]? = v) (n : i ≠ j) : ((wipe σ [j]).set j x)[i]? = v := by
  rw [wipe1, List.set_set, List.getElem?_set_ne (Ne.symm n)]
  exact h
theorem wiped_self {σ : L2.St} {j : Nat} {x : V} (h : j < σ.length) : ((wipe σ [j]).set j (some x))[j]? = some (some x) := by
  rw [wipe1, List.set_set, List.getElem?_set_self h]
theorem lt_size {n : Nat} (h : n ≤ 10000) : n < sizeLine := Nat.lt_of_le_of_lt h (by decide)
theorem sx_nil_of {S : List Addr} {A B : Hp} (a : SX S A B) (h : ∀ b ∈ S, A b = none) : SX [] A B := fun b o _ q => a b o (fun m => by rw [h b m] at q; cases q) q
theorem x_copyD {α : Type} [Inhabited α] {R : RR α} (mR : Mono R) {K : PySem.W.Frag} {σ : L2.St} {H : Hp} {Q : VK} {i j : Nat} {d : Addr} {l : List (Str × α)} {S : List Addr} (hS : ∀ b ∈ S, H b ≠ none) (hi : σ[i]? = some (some (.ref d))) (hj : j < σ.length) (hij : i ≠ j)
    (h : rD R (hid S H) (.ref d) l) (hn : (l.map (·.1)).Nodup) (hl : l.length ≤ 10000) (k : ∀ D H' l', SX [] H H' → H D = none → rD R (hid S H') (.ref D) l' → H' D ≠ none → Srt l l' → Q (.ref D) H') :
    tDc (iList K (tCB cSortD (tCons (tVar i) tNil))) (gName j) tYes (tVar j) (tDGet (tVar i) (tVar j)) [j] σ H Q := by
  obtain ⟨d', kvs, hd, hr0, hk⟩ := h
  cases hd
  have hr : Rd H d (.dK kvs) := le_hid.rd _ _ trivial hr0
  refine x_dc (x_iList (x_CB (x_cons (x_var hi (x_nil ?_)))))
  refine x_sortD hr hk.keys fun ys p hp hs np => ?_
  refine x_itl (sqL upd_same) fun D hD => ?_
  have hDp : D ≠ p := by
    rintro rfl
    rw [upd_same] at hD
    cases hD
  have hD0 : H D = none := by rw [upd_ne hDp] at hD; exact hD
  have ysn : ys.Nodup := hp.nodup_iff.mpr hn
  have hyl : ys.length = l.length := by rw [hp.length_eq, List.length_map]
  refine dc_walk (walk_list (xs := ys.map V.str)) (fun n A => SX [] H A ∧ A p = some (.lst (ys.map V.str)) ∧ ∃ kv, A D = some (.dK kv) ∧ KVs R (hid S H) kv (pick l (ys.take n))) ?_ ?_ ?_ ?_
  · exact ⟨(SX.new np).trans (SX.new hD), by rw [upd_ne (Ne.symm hDp)]; exact upd_same, [], upd_same, .nil⟩
  · exact fun n A _ ⟨_, h2, _⟩ => sqL h2
  · rintro n x A B hn' ⟨s1, s2, kv, s3, s4⟩ ⟨rfl, hx⟩
    rw [List.getElem?_map] at hx
    cases ey : ys[n]? with
    | none => rw [ey] at hx; cases hx
    | some y =>
      rw [ey] at hx
      cases hx
      have ym : y ∈ l.map (·.1) := hp.mem_iff.mp (getMem ey)
      obtain ⟨v, a, e1, e2, r⟩ : ∃ v a, valV kvs (Sum.inr y) = some v ∧ lookA l y = some a ∧ R (hid S H) v a := by
        rcases KVs.look y hk with q | ⟨_, q⟩
        · exact q
        · obtain ⟨a, e⟩ := lookA_some ym
          rw [e] at q
          cases q
      refine x_name rfl ⟨wipe_set σ j _, x_yes (iteT (x_var (wiped_self hj) (x_dget (x_var (wiped_other hi hij) (x_var (wiped_self hj) ?_)))))⟩
      refine x_dg' (s1.rd hr) e1 ⟨kv, Sum.inr y, rfl, s3, ?_, ?_⟩
      · rw [Paired.length s4]
        unfold pick
        rw [List.length_map, List.length_take]
        exact lt_size (by omega)
      have kk : kv.map (·.1) = (ys.take n).map Sum.inr := by rw [s4.keys, pick_keys]
      rw [putK_fresh v kk (nodup_take ysn ey)]
      have nD : p ≠ D := Ne.symm hDp
      refine ⟨sx_nil_of (S := [D]) ((nil_sx s1).trans (SX.mut List.mem_cons_self)) (by simp [hD0]), by rw [upd_ne nD]; exact s2, _, upd_same, ?_⟩
      have : pick l (ys.take (n + 1)) = pick l (ys.take n) ++ [(y, a)] := by
        rw [take_succ_of ey]
        unfold pick
        rw [List.map_append]
        show _ ++ [(y, (lookA l y).getD default)] = _
        rw [e2]
        rfl
      rw [this]
      exact Paired.app s4 (.cons ⟨rfl, r⟩ .nil)
  · rintro A ⟨s1, s2, kv, s3, s4⟩
    rw [List.length_map, List.take_length] at s4
    have nDS : D ∉ S := fun m => hS D m hD0
    exact k D A _ s1 hD0 ⟨D, kv, rfl, .inl (by rw [hid_of nDS]; exact s3), KVs.le mR (nil_sx s1).le s4⟩ (by rw [s3]; exact fun z => nomatch z) (pick_srt hn hp hs)
/-! ### fields -/
theorem putF_fresh : ∀ {fs : List (Str × V)} {f : Str} {v : V}, f ∉ fs.map (·.1) → putF f v fs = fs ++ [(f, v)]
  | [], f, v, _ => rfl
  | (g, w) :: r, f, v, h => by
    have n : ¬ g = f := fun e => h (List.mem_cons.mpr (.inl e.symm))
    show (if g = f then (g, v) :: r else (g, w) :: putF f v r) = _
    rw [if_neg n, putF_fresh fun m => h (List.mem_cons_of_mem _ m)]
    rfl
theorem look_here {f : Str} {v : V} {r : List (Str × V)} : List.lookup f ((f, v) :: r) = some v := by simp [List.lookup]
theorem look_next {f g : Str} {v w : V} {r : List (Str × V)} (n : (f == g) = false) (h : List.lookup f r = some w) : List.lookup f ((g, v) :: r) = some w := by
  simp only [List.lookup, n]
  exact h

/-! ### y = {k: v for ..}, y a local name -/
section
variable {X : Cx}
theorem sw_dc {ke ve : Expr} {gs : List Comprehension} {sco : Scope} {po pn : Pos} {y : Str} {ln : Nat} {en : Env} (f1 : en.scope.kind = .function) (f2 : en.scope.names.lookup y = some .local) (f3 : (pn.line == po.line) = true)
    (f4 : (sco.names.any fun (n, k) => n == y && (k == .local || k == .cell)) = false) : swapsWith (.DictComp ke ve gs sco po) (some (.Name y pn)) ln en = pure true := by
  have g1 : en.kindOf y = some .local := f2
  have g2 : en.blockKind = .function := by unfold Env.blockKind; rw [f1] <;> rfl
  unfold swapsWith
  simp only [g2, g1, f4, Expr.pos, f3]
  rfl
theorem ps_setDc {i : Nat} {y : Str} {py : Pos} {ke ve tgt itr : Expr} {cnd : List Expr} {sco : Scope} {own : List (Str × Nat)} {po sp : Pos} {wi : TI} {g : TG} {tt : TT} {tk tv : TE} (hc : X.calm = true) (hN : X.N.Nodup) (hy : X.N[i]? = some y) (hyl : X.env.scope.names.lookup y = some .local)
    (hsw : swapsWith (.DictComp ke ve [⟨tgt, itr, cnd, 0⟩] sco po) (some (.Name y py)) sp.line X.env = pure true) (hi : PI X tgt itr wi) (ok : BlkOk X.N X.env.scope sco own)
    (hg : ∀ (s : Shared) (H : Hp) (C : Addr) (cl : List (Str × Addr)) (fp : List Addr), PG (X.blk s H sco (compEnvC sco cl C X.env) fp) tgt g) (ht : ∀ (s : Shared) (H : Hp) (C : Addr) (cl : List (Str × Addr)) (fp : List Addr), PTs (X.blk s H sco (compEnvC sco cl C X.env) fp) cnd tt)
    (hk : ∀ (s : Shared) (H : Hp) (C : Addr) (cl : List (Str × Addr)) (fp : List Addr), PE (X.blk s H sco (compEnvC sco cl C X.env) fp) ke tk) (hv : ∀ (s : Shared) (H : Hp) (C : Addr) (cl : List (Str × Addr)) (fp : List Addr), PE (X.blk s H sco (compEnvC sco cl C X.env) fp) ve tv)
    (hs : ∀ x, foldedSetIterable itr X.env x = pure x := by intro _; rfl) :
    PS X (.Assign [.Name y py] (.DictComp ke ve [⟨tgt, itr, cnd, 0⟩] sco po) sp) (tAsg (tDc wi g tt tk tv (own.map (·.2))) (gName i)) := by
  refine ⟨fun pi s0 st A D In hh => ?_⟩
  rw [exec_Assign_Name_used _ _ _ _ hsw]
  refine wpAny_bind (wpAny_standAt ?_)
  refine wpAny_bind ?_
  show wpAny _ X.A (do let _ ← comprehension (.DictComp ke ve [⟨tgt, itr, cnd, 0⟩] sco po) sco X.env (firstIterPos [⟨tgt, itr, cnd, 0⟩] po) newDict false (eval itr X.env) (some (assign (.Name y py) X.env))) _ _ s0
  have h2 : tDc wi g tt tk tv (own.map (·.2)) st A (fun x B => gName i x st B D.nx) := hh
  refine wpAny_bind (thn (dc_core (Qf := fun _ s' => SP X pi D .next s') hc hN In hi ok hg ht hk hv hs h2 fun Ld C s1 m B In1 q hn fr => ?_) fun _ s1 hq => ?_)
  · show wpAny _ _ (assign (.Name y py) X.env (.ref Ld)) _ _ _
    obtain ⟨f0, f1, f2, f3, f4, f5⟩ := fr
    refine wpAny_assign_Name (store_ok2 (v := V.ref Ld) In1 hN hy (.inl hyl) rfl (fun s2 In2 ⟨a, sb, ha⟩ => ?_) (.inr hyl))
    have ne : C ≠ a := by
      rcases ha with z | z
      · exact fun e => f1 (e.trans z)
      · exact fun e => f4 y a z e.symm
    exact ⟨m, hn.sameBut sb ne, fun h3 sb3 => ⟨_, B, In2.turned (t' := s2.toks) (fun b o hb e => (sb3.2 b hb).trans e) f0 f1 f3 f4 f5, q⟩⟩
  · exact wpAny_pure (wpAny_pure hq)
end

theorem KVs.at_ {α : Type} {R : RR α} {H : Hp} {kvs : List (Key × V)} {l : List (Str × α)} {x : Str} {a : α} (h : KVs R H kvs l) (e : lookA l x = some a) : ∃ v, valV kvs (Sum.inr x) = some v ∧ R H v a := by
  rcases KVs.look x h with ⟨v, b, e1, e2, r⟩ | ⟨_, q⟩
  · rw [e] at e2
    cases e2
    exact ⟨v, e1, r⟩
  · rw [e] at q
    cases q
theorem KVs.in_ {α : Type} {R : RR α} {H : Hp} {kvs : List (Key × V)} {l : List (Str × α)} {p : Str × α} (h : KVs R H kvs l) (hn : (l.map (·.1)).Nodup) (m : p ∈ l) : ∃ v, valV kvs (Sum.inr p.1) = some v ∧ R H v p.2 := h.at_ (lookA_nodup hn m)

/-! ### the rules that speak of the written part, by its name -/
section
variable {X : Cx} {K : PySem.W.Frag}
theorem w_ixT (h : X.K = K) : IxR X (rIxT K) := by subst h; exact ix_tup
theorem w_ixL (h : X.K = K) : IxR X (rIxL K) := by subst h; exact ix_list
theorem w_slL (h : X.K = K) : SlR X (rSlL K) := by subst h; exact sl_list
theorem w_slT (h : X.K = K) : SlR X (rSlA K) := by subst h; exact sl_tupA
theorem w_in (h : X.K = K) : OpR X (compareOp .In) (rIn K false) := by subst h; exact op_in_seq
theorem w_nin (h : X.K = K) : OpR X (compareOp .NotIn) (rIn K true) := by subst h; exact op_notIn_seq
theorem w_catT (h : X.K = K) : OpR X (binaryOp .Add) (rCatA K) := by subst h; exact op_catA
theorem w_eqD (h : X.K = K) (hu : X.A.units + 64 < cLine) : OpR X (compareOp .Eq) (rEqD K) := by subst h; exact op_eqD hu
theorem w_neD (h : X.K = K) (hu : X.A.units + 64 < cLine) : OpR X (compareOp .NotEq) (rNeD K) := by subst h; exact op_neD hu
theorem w_ltT (h : X.K = K) (hu : X.A.units < cLine) : OpR X (compareOp .Lt) (rLtT K) := by subst h; exact op_ltT hu
theorem w_len (h : X.K = K) : CallR X (.builtin "len") (cLen K) := by subst h; exact cl_len
theorem w_list (h : X.K = K) : CallR X (.type "list") (cList K) := by subst h; exact cl_list
theorem w_tup (h : X.K = K) : CallR X (.type "tuple") (cTup K) := by subst h; exact cl_tup
theorem w_sortL (h : X.K = K) : CallR X (.builtin "sorted") (cSortL K) := by subst h; exact cl_sortL
theorem w_max (h : X.K = K) (hc : X.calm = true) : CallR X (.builtin "max") (rMax K) := by subst h; exact cr_max hc
theorem w_min (h : X.K = K) (hc : X.calm = true) : CallR X (.builtin "min") (rMin K) := by subst h; exact cr_min hc
theorem w_sum (h : X.K = K) (hc : X.calm = true) : CallR X (.builtin "sum") (rSum K) := by subst h; exact cr_sum hc
theorem w_all (h : X.K = K) (hc : X.calm = true) : CallR X (.builtin "all") (rAll K) := by subst h; exact cr_all hc
theorem w_any (h : X.K = K) (hc : X.calm = true) : CallR X (.builtin "any") (rAny K) := by subst h; exact cr_any hc
theorem w_isi (h : X.K = K) : CallR X (.builtin "isinstance") (rIsi K) := by subst h; exact call_isi
theorem w_isiT (h : X.K = K) : CallR X (.builtin "isinstance") (rIsiT K) := by subst h; exact call_isiT
theorem w_fld {e : Expr} {f : Str} {ta : TE} {pos : Pos} (h : X.K = K) (he : PE X e ta) (hb : attributeBase e f X.env (eval e X.env) = eval e X.env) : PE X (.Attribute e f pos) (tFld K ta f) := by subst h; exact pe_fld he hb
theorem w_pilist {tg l : Expr} {tl : TE} (h : X.K = K) (hl : PE X l tl) : PI X tg l (iList K tl) := by subst h; exact pi_list hl
theorem w_pitup {tg l : Expr} {tl : TE} (h : X.K = K) (hl : PE X l tl) : PI X tg l (iTup K tl) := by subst h; exact pi_tup hl
theorem w_pgtup {es : List Expr} {k n : Nat} {t : TGs} {pos : Pos} (h : X.K = K) (hc : X.calm = true) (ht : PGs X es t) (hn : (assignEach es X.env).length = n) (hst : (assignEach es X.env).findIdx? (·.1) = none) : PG X (.Tuple es k pos) (gTup K n t) := by subst h; exact pg_tup hc ht hn hst
theorem w_truth {a : Expr} {ta : TE} (h : X.K = K) (ha : PE X a ta) (he : ∀ whole, isTrue a X.env whole = (do let v ← whole; standAt a.pos; holding [v] (truthy v))) : PT X a (tTru K ta) := by subst h; exact pt_truth ha he
theorem w_bm {T name id : String} {r : V → List V → Hp → VK → Prop} {o e : Expr} {es : List Expr} {to : TE} {t : TA} {apos cpos : Pos} (h : X.K = K) (pa : PlainAttrs T) (slot : Slot T name id) (hty : typeOf (.builtin id) = pure (.type "method_descriptor")) (hm : MtR X id r) (ho : PE X o to) (ha : PA X (e :: es) t)
    (hp : PE X (.Call (.Attribute o name apos) (e :: es) [] cpos) (tBM X.K T r to t)) : PE X (.Call (.Attribute o name apos) (e :: es) [] cpos) (tBM K T r to t) := by subst h; exact hp
end

/-- what is hidden may grow by what is new -/
theorem le_hidS {S S' : List Addr} {H A : Hp} (a : SX S H A) (h : ∀ b ∈ S', b ∈ S ∨ H b = none) : Le (hid S H) (hid S' A) := le_of fun b o q => by
  obtain ⟨n, q⟩ := hid_at q
  rw [hid_of]
  · exact a b o n q
  · intro m
    rcases h b m with z | z
    · exact n z
    · rw [q] at z
      cases z
theorem hid_new {S : List Addr} {H : Hp} {p : Addr} {o : HO} (hp : H p = none) (hS : ∀ b ∈ S, H b ≠ none) : hid S (upd H p o) p = some o := by
  rw [hid_of fun m => hS p m hp]
  exact upd_same
theorem there {S : List Addr} {A B : Hp} (a : SX [] A B) (h : ∀ b ∈ S, A b ≠ none) : ∀ b ∈ S, B b ≠ none := fun b m e => h b m (a.free e List.not_mem_nil)

/-! ### the one ascending list of texts -/
def leS (a b : Str) : Prop := a.cps.toList ≤ b.cps.toList
theorem leS_trans {a b c : Str} (h1 : leS a b) (h2 : leS b c) : leS a c := List.le_trans h1 h2
theorem leS_antisymm {a b : Str} (h1 : leS a b) (h2 : leS b a) : a = b := by
  have e : a.cps.toList = b.cps.toList := List.le_antisymm h1 h2
  obtain ⟨a⟩ := a
  obtain ⟨b⟩ := b
  have : a = b := Array.toList_inj.mp e
  rw [this]
theorem rising_pw : ∀ (p : Str) (l : List Str), risingS p l = true → (p :: l).Pairwise leS
  | p, [], _ => List.pairwise_singleton _ _
  | p, x :: r, h => by
    have h : (!ltCps x.cps.toList p.cps.toList && risingS x r) = true := h
    rw [Bool.and_eq_true] at h
    have h1 : leS p x := by
      have q := h.1
      rw [PyProof.Rows.ltCps_eq] at q
      exact List.not_lt.mp (by simpa using q)
    have h2 := rising_pw x r h.2
    refine List.pairwise_cons.mpr ⟨fun y hy => ?_, h2⟩
    rcases List.mem_cons.mp hy with rfl | hy
    · exact h1
    · exact leS_trans h1 (List.rel_of_pairwise_cons h2 hy)
theorem sortedS_pw : ∀ {l : List Str}, sortedS l = true → l.Pairwise leS
  | [], _ => .nil
  | x :: r, h => rising_pw x r h
theorem sorted_one {l l' : List Str} (h : sortedS l = true) (h' : sortedS l' = true) (p : l.Perm l') : l = l' :=
  List.Perm.eq_of_pairwise (fun _ _ _ _ a b => leS_antisymm a b) (sortedS_pw h) (sortedS_pw h') p
theorem x_setF {K : PySem.W.Frag} {H : Hp} {C a dx : Addr} {f : Str} {fs : List (Str × V)} {y : V} {R : Hp → Prop} (ns : List Str) (h : H a = some (.ins C dx fs)) (c : Cls K C) (n : NoAttr K C f) (e : fs.map (·.1) = ns) (hl : ns.length < 1000) (hf : decide (f ∈ ns) = false)
    (k : R (upd H a (.ins C dx (fs ++ [(f, y)])))) : ∃ a' C' dx' fs', V.ref a = .ref a' ∧ H a' = some (.ins C' dx' fs') ∧ Cls K C' ∧ NoAttr K C' f ∧ fs'.length < 1000 ∧ R (upd H a' (.ins C' dx' (putF f y fs'))) :=
  ⟨a, C, dx, fs, rfl, h, c, n, by rw [← e, List.length_map] at hl; exact hl, by
    rw [putF_fresh (by rw [e]; exact of_decide_eq_false hf)]
    exact k⟩
theorem x_getF {K : PySem.W.Frag} {H : Hp} {C a dx : Addr} {f : Str} {fs : List (Str × V)} {v : V} {R : V → Prop} (h : H a = some (.ins C dx fs)) (c : Cls K C) (n : NoAttr K C f) (e : fs.lookup f = some v) (k : R v) :
    ∃ a' C' dx' fs' v', V.ref a = .ref a' ∧ H a' = some (.ins C' dx' fs') ∧ Cls K C' ∧ NoAttr K C' f ∧ fs'.lookup f = some v' ∧ R v' := ⟨a, C, dx, fs, v, rfl, h, c, n, e, k⟩

/-! ### d[s] = a, told by what the dict holds -/
section
variable {α : Type} {R : RR α} {H : Hp}
theorem putA_keys (s : Str) (a : α) : ∀ l : List (Str × α), (putA l s a).map (·.1) = if s ∈ l.map (·.1) then l.map (·.1) else l.map (·.1) ++ [s]
  | [] => rfl
  | (k, b) :: r => by
    unfold putA
    by_cases e : k = s
    · subst e
      rw [if_pos rfl, if_pos (by simp)]
      rfl
    · rw [if_neg e]
      show k :: (putA r s a).map (·.1) = _
      rw [putA_keys s a r]
      by_cases m : s ∈ r.map (·.1)
      · rw [if_pos m, List.map_cons, if_pos (List.mem_cons_of_mem _ m)]
      · rw [if_neg m, if_neg (by
          intro q
          rcases List.mem_cons.mp q with q | q
          · exact e q.symm
          · exact m q)]
        rfl
theorem putA_mem {s : Str} {a : α} {p : Str × α} : ∀ {l : List (Str × α)}, p ∈ putA l s a → p ∈ l ∨ p = (s, a)
  | [], h => .inr (List.mem_singleton.mp h)
  | (k, b) :: r, h => by
    unfold putA at h
    split at h
    · rename_i e
      rcases List.mem_cons.mp h with h | h
      · exact .inr (by rw [h, e])
      · exact .inl (List.mem_cons_of_mem _ h)
    · rcases List.mem_cons.mp h with h | h
      · exact .inl (by rw [h]; exact List.mem_cons_self)
      · rcases putA_mem h with h | h
        · exact .inl (List.mem_cons_of_mem _ h)
        · exact .inr h
theorem putA_nodup {s : Str} {a : α} {l : List (Str × α)} (h : (l.map (·.1)).Nodup) : ((putA l s a).map (·.1)).Nodup := by
  rw [putA_keys]
  split
  · exact h
  · exact nd_snoc h (by assumption)
theorem putA_len {s : Str} {a : α} {l : List (Str × α)} : (putA l s a).length ≤ l.length + 1 := by
  have := congrArg List.length (putA_keys s a l)
  rw [List.length_map] at this
  rw [this]
  split
  · simp
  · simp
theorem putA_pos {s : Str} {a : α} {l : List (Str × α)} : 1 ≤ (putA l s a).length := by
  cases l with
  | nil => exact Nat.le_refl _
  | cons p r =>
    obtain ⟨k, b⟩ := p
    unfold putA
    split <;> simp
theorem putA_fresh {s : Str} {a : α} : ∀ {l : List (Str × α)}, s ∉ l.map (·.1) → putA l s a = l ++ [(s, a)]
  | [], _ => rfl
  | (k, b) :: r, h => by
    unfold putA
    rw [if_neg (fun e => h (List.mem_cons.mpr (.inl e.symm))), putA_fresh fun m => h (List.mem_cons_of_mem _ m)]
    rfl
theorem putA_key_in {s : Str} {a : α} {l : List (Str × α)} : s ∈ (putA l s a).map (·.1) := by
  rw [putA_keys]
  split
  · assumption
  · simp
theorem putA_key_mono {s x : Str} {a : α} {l : List (Str × α)} (h : x ∈ l.map (·.1)) : x ∈ (putA l s a).map (·.1) := by
  rw [putA_keys]
  split
  · exact h
  · exact List.mem_append_left _ h
theorem putA_key_of {s x : Str} {a : α} {l : List (Str × α)} (h : x ∈ (putA l s a).map (·.1)) : x ∈ l.map (·.1) ∨ x = s := by
  rw [putA_keys] at h
  split at h
  · exact .inl h
  · rcases List.mem_append.mp h with h | h
    · exact .inl h
    · exact .inr (List.mem_singleton.mp h)
theorem putK_cons_pos {p : Key × V} {r : List (Key × V)} {k : Key} {v : V} (e : p.1 = k) (hn : valV r k = none) : putK (p :: r) k v = (p.1, v) :: r := by
  unfold putK
  rw [if_pos (by rw [List.any_cons, decide_eq_true e]; rfl), List.map_cons, if_pos e]
  congr 1
  have : ∀ q ∈ r, (if q.1 = k then (q.1, v) else q) = q := fun q hq => by
    rw [if_neg]
    intro z
    have : (r.any fun kv => decide (kv.1 = k)) = true := List.any_eq_true.mpr ⟨q, hq, decide_eq_true z⟩
    rw [valV_any, hn] at this
    cases this
  rw [List.map_congr_left this, List.map_id']
theorem putK_cons_neg {p : Key × V} {r : List (Key × V)} {k : Key} {v : V} (e : ¬ p.1 = k) : putK (p :: r) k v = p :: putK r k v := by
  unfold putK
  rw [List.any_cons, decide_eq_false e, Bool.false_or]
  split
  · rw [List.map_cons, if_neg e]
  · rfl
theorem KVs.put {s : Str} {v : V} {a : α} (hr : R H v a) : ∀ {kvs : List (Key × V)} {l : List (Str × α)}, KVs R H kvs l → (l.map (·.1)).Nodup → KVs R H (putK kvs (Sum.inr s) v) (putA l s a)
  | _, _, .nil, _ => .cons ⟨rfl, hr⟩ .nil
  | p :: kvs, (k, b) :: l, .cons h t, hn => by
    have hn : (k :: l.map (·.1)).Nodup := hn
    obtain ⟨n1, n2⟩ := List.nodup_cons.mp hn
    unfold putA
    by_cases e : k = s
    · subst e
      have no : valV kvs (Sum.inr k) = none := by
        have := keys_val (KVs.keys t) k
        rw [decide_eq_false n1] at this
        cases q : valV kvs (Sum.inr k) with
        | none => rfl
        | some x => rw [q] at this; cases this
      rw [putK_cons_pos h.1 no, if_pos rfl]
      exact .cons ⟨h.1, hr⟩ t
    · have ne : ¬ p.1 = (Sum.inr s : Key) := by
        rw [h.1]
        exact fun z => e (Sum.inr.inj z)
      rw [putK_cons_neg ne, if_neg e]
      exact .cons h (KVs.put hr t n2)
end

/-! ### powers of great numbers -/
def CPowB (i j : Int) : Prop := 0 ≤ j ∧ (Builtin.Int.intBits i : Int) * j ≤ 2 ^ 27
theorem op_powB {X : Cx} : OpR X (binaryOp .Pow) (L2.rI CPowB fun i j => V.int (i ^ j.toNat)) := opI fun _ _ _ _ _ _ _ hc q => pow_int hc.1 hc.2 q

theorem walk_rng {n : Nat} : Walk (Itr 0 n) n (fun _ => True) (fun i H x H' => H' = H ∧ x = .int (i : Int)) :=
  walk_range.mono (fun _ h => h) fun i H x H' _ _ y => ⟨y.1, y.2.trans (by show V.int (0 + (i : Int)) = _; rw [Int.zero_add])⟩
end M

set_option Elab.async false
set_option linter.all false
set_option maxRecDepth 100000
set_option maxHeartbeats 2000000
namespace M
open PySem PySem.Spec PyProof.Rows L2
/-! ### enumerate over a list or a tuple -/
section
open PySem.Sem (wp)
set_option maxHeartbeats 4000000 in
theorem meets_enum1 {v : Value} {o : Obj} {G : Heap → Prop} (B : Begins v o G) :
    Meets (Builtin.«enumerate.__new__» ⟨[.type "enumerate", v], []⟩) (fun _ R s => G s.heap ∧
      R (.ok (.ret (.ref (s.heap.push o).objs.size)))
        { s with heap := (s.heap.push o).push { cls := .type "enumerate",
                                                data := .fields #[.none, .bool false, .ref s.heap.objs.size, rawInt 0, .none, .none] } }) :=
  .of_wp fun prog w A R s hh => by
    obtain ⟨hp, gl, di, tk, os⟩ := s
    obtain ⟨hG, hR⟩ := hh
    have hsub := sub_enumerate
    have it1 : ∀ {A1 : Around} {E1 : Value → Shared → Prop} {Q1 : Value → Shared → Prop}, Q1 (.ref hp.objs.size) ⟨hp.push o, gl, di, tk, os⟩ →
        wpAny (model prog w) A1 (pyIter v) Q1 E1 ⟨hp, gl, di, tk, os⟩ := fun q => B.iter prog w _ _ ⟨hp, gl, di, tk, os⟩ _ hG q
    wp_walk using it1
    refine wpAny_stack_any fun st => wpAny_pure ?_
    split
    · rename_i cc _ _ _ _ _
      cases (cc == Value.type "enumerate")
      · wp_walk using it1
        exact ⟨_, rfl, hR⟩
      · wp_walk using it1
        exact ⟨_, rfl, hR⟩
    · wp_walk using it1
      exact ⟨_, rfl, hR⟩
theorem enum_begin1 {prog : Program} {w : World} {A : Around} {E : Value → Shared → Prop} {s : Shared} {v : Value} {o : Obj} {G : Heap → Prop} {Q : Value → Shared → Prop} (B : Begins v o G) (hG : G s.heap)
    (k : ∀ h', IsEnum h' (s.heap.objs.size + 1) s.heap.objs.size 0 .none → h'.get? s.heap.objs.size = some o →
      (∀ b ob, s.heap.get? b = some ob → h'.get? b = some ob) → Q (.ref (s.heap.objs.size + 1)) { s with heap := h' }) : wpAny (model prog w) A (call (.type "enumerate") [v]) Q E s := by
  refine callType_new F.called_enumerate (by decide) (F.typeCall_enumerate_1 _) (F.newCall_enumerate_1 _) (fun ob => F.args_object_init_2 ob _) F.entry_enumerate_new (meets_enum1 B) ⟨hG, ?_⟩
  have sz : (s.heap.push o).objs.size = s.heap.objs.size + 1 := Heap.size_push ..
  show _ ∧ _
  rw [sz]
  have en := Heap.get?_push_size (s.heap.push o) (o := { cls := .type "enumerate", data := .fields #[.none, .bool false, .ref s.heap.objs.size, rawInt 0, .none, .none] }) rfl
  rw [sz] at en
  exact ⟨⟨_, en, rfl⟩, k _ en (Heap.get?_push_of_some _ (Heap.get?_push_size _ B.free)) fun b ob q => Heap.get?_push_of_some _ (Heap.get?_push_of_some _ q)⟩
end
/-- the tuple at a, each item in a new pair with its place -/
def IteT (K : PySem.W.Frag) (a : Addr) : It :=
  ⟨fun i H => ∃ (xs : List V) (x : V), SqT K H a xs ∧ xs[i]? = some x,
   fun i H v H' => ∃ T x, v = .ref T ∧ H T = none ∧ H' = upd H T (.tup [.int (i : Nat), x]) ∧ ∀ xs, SqT K H a xs → xs[i]? = some x,
   fun i H => ∃ xs : List V, SqT K H a xs ∧ xs.length ≤ i⟩
theorem turn_enumT {P : Program} {w : World} {K : PySem.W.Frag} {elts : List Expr} {kk : Nat} {tpos : Pos} (a e it : Addr) :
    Turn P w K (.Tuple elts kk tpos) (IteT K a) [e, it] e (fun i h => (∃ old, IsEnum h e it ((i : Nat) : Int) old) ∧ h.IsTupleIter it a i ∧ e ≠ it) where
  mem := by simp
  obj := fun i h st b hb => by
    obtain ⟨⟨old, he⟩, ⟨o, ho, hc, hd⟩, _⟩ := st
    rcases List.mem_cons.mp hb with rfl | hb
    · exact ⟨_, he, fun v q => nomatch q⟩
    · cases List.mem_singleton.mp hb
      exact ⟨o, ho, fun v q => by rw [hd] at q; cases q⟩
  keep := fun i h h' st k => by
    obtain ⟨⟨old, he⟩, hi, ne⟩ := st
    exact ⟨⟨old, k e (by simp) _ he⟩, hi.at fun o q => k it (by simp) o q, ne⟩
  item := by
    intro X hP hw hK hc i pins s σ H E I hf st hg
    subst hP hw hK
    obtain ⟨⟨old, he⟩, hit, ne⟩ := st
    obtain ⟨xs, x, hq, hx⟩ := hg
    obtain ⟨its, rv, pt, hz⟩ := I.tuple hq
    have pt : s.heap.IsTuple a its.toArray := pt
    obtain ⟨u, hu, ru⟩ := rv.get hx
    have hel : e < s.heap.objs.size := Heap.lt_size he
    have hil : it < s.heap.objs.size := by obtain ⟨_, q, _⟩ := hit; exact Heap.lt_size q
    obtain ⟨h1, h2, h3, h4, h5, h6⟩ := hf e (by simp)
    have nea : e ∉ [it, a] := by
      simp only [List.mem_cons, List.not_mem_nil, or_false, not_or]
      refine ⟨ne, fun q => ?_⟩
      obtain ⟨ob, hob, hcl, _⟩ := pt
      rw [← q, he] at hob
      cases hob
      injection hcl with hcl
      exact absurd hcl (by decide)
    have nai : a ≠ it := fun q => by
      obtain ⟨ob, hob, hcl, _⟩ := pt
      obtain ⟨o2, ho2, hc2, _⟩ := hit
      rw [q, ho2] at hob
      cases hob
      rw [hc2] at hcl
      injection hcl with hcl
      exact absurd hcl (by decide)
    have D := Draws.tuple (prog := X.prog) (w := X.w) (A := X.A.in1) (I.ok.hd hc) it a nai its.toArray
    refine wpAny_pyNext_enum_itemD D he ⟨hit, pt⟩ (getLt (l := its) hu |> fun q => by simpa using q) ne nea fun y h' tk hy ho st' hT hsz hk => ?_
    obtain rfl : y = u := by simpa [hu] using hy.symm
    refine ⟨_, rfl, wpAny_letOwnedTupleGo_enum (s := { s with heap := h', toks := tk + 1 }) ho fun h'' he' sb => ?_⟩
    have hT2 : h''.get? s.heap.objs.size = some { cls := .type "tuple", data := .seq #[.int i tk, y] } := (sb.2 _ (Nat.ne_of_gt hel)).trans hT
    have new : ObjOk X.prog X.w (upd H s.heap.objs.size (.tup [.int (i : Nat), x])) h'' s.heap.objs.size (.tup [.int (i : Nat), x]) :=
      ⟨(by decide : 2 ≤ sizeLine), [.int i tk, y], .cons ⟨_, rfl⟩ (.cons ru .nil), ⟨_, hT2, rfl, _, rfl⟩⟩
    have I1 : Inv X pins σ (upd H s.heap.objs.size (.tup [.int (i : Nat), x])) { s with heap := h'', toks := tk + 1 } :=
      I.turnedNew (ch := [e, it]) (fun b ob hb q => by
        have n1 : b ≠ e := fun z => hb (by simp [z])
        have n2 : b ≠ it := fun z => hb (by simp [z])
        exact (sb.2 b n1).trans (hk b ob n1 n2 q)) hf (Nat.le_refl _) new
    refine ⟨.ref s.heap.objs.size, _, I1, rfl, ⟨_, x, rfl, I.hok.fresh (Nat.le_refl _), rfl, fun ys hys => by rw [I.tuple_inj hys hq]; exact hx⟩, ⟨⟨y, ?_⟩, st'.1.at fun o q => (sb.2 it (Ne.symm ne)).trans q, ne⟩, fun b hb => ?_⟩
    · have e1 : ((i + 1 : Nat) : Int) = (i : Int) + 1 := by omega
      rw [e1]
      exact he'
    · have hb' : b < s.heap.objs.size := by
        rcases List.mem_cons.mp hb with rfl | hb2
        · exact hel
        · cases List.mem_singleton.mp hb2
          exact hil
      rw [upd_ne (Nat.ne_of_lt hb')]
      exact (hf b hb).1
  done := by
    intro X hP hw hK hc i pins s σ H E I hf st hg
    subst hP hw hK
    obtain ⟨⟨old, he⟩, hit, ne⟩ := st
    obtain ⟨xs, hq, hx⟩ := hg
    obtain ⟨its, rv, pt, hz⟩ := I.tuple hq
    have pt : s.heap.IsTuple a its.toArray := pt
    obtain ⟨f0, f1, f2, f3, f4, f5⟩ := hf it (by simp)
    have hl := rv.length
    have hT : s.TypeIs (.ref e) "enumerate" := ⟨_, he, rfl⟩
    have go : wpAny (model X.prog X.w) X.A (pyNext (.ref e)) (fun r s1 => r = none ∧ Inv X pins σ H s1) E s := by
      unfold pyNext
      refine wpAny_bind (wpAny_attempt (wpAny_callSpecial?_slot (name := Str.ofString "__next__") hT F.slot_enumerate_next (wpAny_call_entry F.slot_enumerate_next hT F.entry_enumerate_next ?_ (F.args_enumerate_next_1 _))))
      show wpAny _ _ (field (.ref e) 2 >>= _) _ _ _
      refine wpAny_bind (wpAny_field he rfl (x := .ref it) rfl ?_)
      refine wpAny_bind (wpAny_nextOf_tuple_end (I.ok.hd hc) hit pt (by simp; omega) fun h' z eb hz' => ?_)
      obtain ⟨o, ho, hcl⟩ := hz'
      refine wpAny_bind (wpAny_isInstance (T := "StopIteration") (b := true) ⟨o, ho, hcl⟩ isSubtype_stop ?_)
      exact wpAny_pure ⟨rfl, I.turned (t' := s.toks) (fun b o hb q => eb b o hb q) f0 f1 f3 f4 f5⟩
    exact go
  self := fun A i s Q E st h => by
    obtain ⟨⟨_, he⟩, _⟩ := st
    exact wpAny_pyIter_enum he h
/-- a row: a list or a tuple -/
def RowAt (H : Hp) (a : Addr) (xs : List V) : Prop := H a = some (.lst xs) ∨ H a = some (.tup xs)
theorem RowAt.sx {S : List Addr} {A B : Hp} {a : Addr} {xs : List V} (s : SX S A B) (n : a ∉ S) (h : RowAt A a xs) : RowAt B a xs := h.imp (s _ _ n) (s _ _ n)
theorem RowAt.there {A : Hp} {a : Addr} {xs : List V} (h : RowAt A a xs) : A a ≠ none := by rcases h with h | h <;> rw [h] <;> exact fun z => nomatch z
/-- enumerate(x): x a list or a tuple that is no part of the top's -/
def iEnumA (K : PySem.W.Frag) (ta : TA) : TI := fun σ H R => ta σ H fun vs H1 => ∃ a xs, vs = [.ref a] ∧ RowAt H1 a xs ∧
  ∀ J, Walk J xs.length (fun A => A a = H1 a) (fun i A x A' => ∃ T y, xs[i]? = some y ∧ x = .ref T ∧ A T = none ∧ A' = upd A T (.tup [.int (i : Int), y])) → R J H1
theorem walk_eL {K : PySem.W.Frag} {H : Hp} {a : Addr} {xs : List V} (h : H a = some (.lst xs)) :
    Walk (Ite K a) xs.length (fun A => A a = H a) (fun i A x A' => ∃ T y, xs[i]? = some y ∧ x = .ref T ∧ A T = none ∧ A' = upd A T (.tup [.int (i : Int), y])) :=
  ⟨fun i A hi q => ⟨xs, xs[i], sqL (q.trans h), by simp [hi]⟩, fun A q => ⟨xs, sqL (q.trans h), Nat.le_refl _⟩, fun i A v A' hi q y => by
    obtain ⟨T, x, h1, h2, h3, h4⟩ := y
    exact ⟨T, x, h4 xs (sqL (q.trans h)), h1, h2, h3⟩⟩
theorem walk_eT {K : PySem.W.Frag} {H : Hp} {a : Addr} {xs : List V} (h : H a = some (.tup xs)) :
    Walk (IteT K a) xs.length (fun A => A a = H a) (fun i A x A' => ∃ T y, xs[i]? = some y ∧ x = .ref T ∧ A T = none ∧ A' = upd A T (.tup [.int (i : Int), y])) :=
  ⟨fun i A hi q => ⟨xs, xs[i], sqT (q.trans h), by simp [hi]⟩, fun A q => ⟨xs, sqT (q.trans h), Nat.le_refl _⟩, fun i A v A' hi q y => by
    obtain ⟨T, x, h1, h2, h3, h4⟩ := y
    exact ⟨T, x, h4 xs (sqT (q.trans h)), h1, h2, h3⟩⟩
theorem pi_enumA {X : Cx} {e : Expr} {ta : TA} {p pos tpos : Pos} {elts : List Expr} {kk : Nat} (hg : Gl X "enumerate") (hm : X.mg "enumerate" = none) (ha : PA X [e] ta) (hs : starEach [e] X.env = [(false, eval e X.env)] := by rfl) :
    PI X (.Tuple elts kk tpos) (.Call (.Name "enumerate" p) [e] [] pos) (iEnumA X.K ta) := by
  refine ⟨fun pins s σ H R I h => ?_⟩
  refine Call_ (ld_blt I hg hm boot_enumerate (PyProof.Rows.callWith_type1 (thn (ha.run pos pins s σ H _ I h) fun us s1 ⟨vs, H1, I1, r1, a, xs, ex, hq, q⟩ => ?_) hs rfl))
  subst ex
  cases r1 with
  | cons r rr =>
    cases rr
    cases r
    have fp : ∀ (h' : Heap), Inv X pins σ H1 { s1 with heap := h' } → ∀ b ∈ [s1.heap.objs.size + 1, s1.heap.objs.size], FpOk X pins H1 b := fun h' I2 b hb => by
      have hle : s1.heap.objs.size ≤ b := by
        rcases List.mem_cons.mp hb with rfl | hb
        · exact Nat.le_succ _
        · cases List.mem_singleton.mp hb
          exact Nat.le_refl _
      exact I1.fpOk hle (I1.hok.fresh hle)
    rcases hq with hq | hq
    · obtain ⟨its, rv, pl, hz⟩ := I1.list (sqL (K := X.K) hq)
      refine call_enumerate_list pl.isList fun h' he hit hsz hk => wpAny_pyIter_enum he ?_
      have I2 : Inv X pins σ H1 { s1 with heap := h' } := I1.kept (t' := s1.toks) hk
      exact ⟨s1.heap.objs.size + 1, [s1.heap.objs.size + 1, s1.heap.objs.size], _, _, H1, rfl, I2, turn_enum a (s1.heap.objs.size + 1) s1.heap.objs.size, ⟨⟨.none, he⟩, hit, Nat.succ_ne_self _⟩, fp h' I2, q _ (walk_eL hq)⟩
    · obtain ⟨its, rv, pt, hz⟩ := I1.tuple (sqT (K := X.K) hq)
      refine enum_begin1 (begins_tuple a its.toArray) pt fun h' he hit hk => wpAny_pyIter_enum he ?_
      have I2 : Inv X pins σ H1 { s1 with heap := h' } := I1.kept (t' := s1.toks) hk
      exact ⟨s1.heap.objs.size + 1, [s1.heap.objs.size + 1, s1.heap.objs.size], _, _, H1, rfl, I2, turn_enumT a (s1.heap.objs.size + 1) s1.heap.objs.size, ⟨⟨.none, he⟩, ⟨_, hit, rfl, rfl⟩, Nat.succ_ne_self _⟩, fp h' I2, q _ (walk_eT hq)⟩
section
variable {K : PySem.W.Frag}
theorem w_enumA {X : Cx} {e : Expr} {ta : TA} {p pos tpos : Pos} {elts : List Expr} {kk : Nat} (h : X.K = K) (hg : Gl X "enumerate") (hm : X.mg "enumerate" = none) (ha : PA X [e] ta) (hs : starEach [e] X.env = [(false, eval e X.env)] := by rfl) :
    PI X (.Tuple elts kk tpos) (.Call (.Name "enumerate" p) [e] [] pos) (iEnumA K ta) := by subst h; exact pi_enumA hg hm ha hs
theorem x_iEnumA {ta : TA} {σ : L2.St} {H : Hp} {R : It → Hp → Prop} (k : ta σ H fun vs H1 => ∃ a xs, vs = [.ref a] ∧ RowAt H1 a xs ∧
  ∀ J, Walk J xs.length (fun A => A a = H1 a) (fun i A x A' => ∃ T y, xs[i]? = some y ∧ x = .ref T ∧ A T = none ∧ A' = upd A T (.tup [.int (i : Int), y])) → R J H1) : iEnumA K ta σ H R := k
end
end M

set_option Elab.async false
set_option linter.all false
set_option maxRecDepth 100000
set_option maxHeartbeats 2000000
namespace M
open PySem PySem.Spec PyProof.Rows L2
/-! ### list(d.values()), tuple(d) -/
section
variable {X : Cx}
def tListVals (td : TE) : TE := fun σ H Q => td σ H fun x H1 => ∃ d kvs, x = .ref d ∧ H1 d = some (.dK kvs) ∧ ∀ l, H1 l = none → Q (.ref l) (upd H1 l (.lst (kvs.map (·.2))))
theorem pe_listVals {e : Expr} {td : TE} {p apos cpos pos : Pos} (hc : X.calm = true) (hg : Gl X "list") (hm : X.mg "list" = none) (he : PE X e td)
    (hbase : attributeBase e "values" X.env (eval e X.env) = eval e X.env := by rfl) (hline : (apos.endLine == cpos.line) = true := by rfl)
    (na : starEach [.Call (.Attribute e "values" apos) [] [] cpos] X.env = (false, eval (.Call (.Attribute e "values" apos) [] [] cpos) X.env) :: starEach [] X.env := by rfl) :
    PE X (.Call (.Name "list" p) [.Call (.Attribute e "values" apos) [] [] cpos] [] pos) (tListVals td) := by
  refine ⟨fun pins s σ H Q I h => ?_⟩
  refine Call_ (ld_blt I hg hm boot_list (PyProof.Rows.callWith_type1 (args_cons ?_ na) na))
  refine wpAny_Call_method (T := "dict") (id := "dict.values") hbase rfl hline F.plainAttrs_dict F.slot_dict_values F.type_dict_values (thn (he.run pins s σ H _ I h) fun u s1 ⟨x, H1, I1, rx, d, kvs, ex, hd, q⟩ => ?_)
  subst ex
  obtain rfl : u = Value.ref d := rx
  obtain ⟨z, lo, vs, rk, hdic⟩ := (show ObjOk X.prog X.w H1 s1.heap d (.dK kvs) from I1.hok d _ hd)
  obtain ⟨ep, hat⟩ := hdic.dictAt
  have hl : kvs.length = vs.length := Paired.length rk
  refine ⟨hdic.typeIs, hdic.mapOf.noDict, ?_⟩
  have I2 : Inv X pins σ H1 { s1 with heap := s1.heap.push { cls := .type "dict_values", data := .fields #[.ref d] } } := I1.kept (t' := s1.toks) fun b ob q => Heap.get?_push_of_some _ q
  have fin : wpAny (model X.prog X.w) X.A (spliced (backTo pos (starEach [] X.env))) (fun us s' => wpAny (model X.prog X.w) X.A (call (.type "list") (.ref s1.heap.objs.size :: us)) (EP X pins σ Q) X.xe s') X.xe { s1 with heap := s1.heap.push { cls := .type "dict_values", data := .fields #[.ref d] } } := by
    refine args_nil ?_
    have vw : (s1.heap.push { cls := .type "dict_values", data := .fields #[.ref d] }).IsValuesView s1.heap.objs.size d := ⟨_, Heap.get?_push_size _ rfl, rfl, rfl⟩
    refine PySem.W.kdl_call (PySem.W.kdl_values (knd := mixKind X.prog X.w) (kvs := vs) (ep := ep) (d := d) (r := s1.heap.objs.size)) (I2.ok.hd hc) ⟨vw, hat.push _⟩ (by rw [← hl]; exact z) fun h' tk acc' c' hkeep hS hacc => ?_
    refine ⟨.ref _, upd H1 _ (.lst (kvs.map (·.2))), I2.laid (t' := tk) hkeep (Nat.le_refl _) (show ObjOk X.prog X.w _ _ _ (.lst (kvs.map (·.2))) from ⟨by rw [List.length_map]; exact z, acc'.toList, c', ?_, by rw [Array.toArray_toList]; exact hS⟩), rfl, q _ (I2.hok.fresh (Nat.le_refl _))⟩
    have z1 : acc'.toList.length = acc'.size := by simp
    have z2 : (kvs.map (·.2)).length = acc'.toList.length := by rw [List.length_map, z1, hacc.1, hl]
    refine vals_of_at z2 fun j y w h1 h2 => ?_
    obtain ⟨ky, hky⟩ := hacc.2 j w (by rw [← Array.getElem?_toList]; exact h2)
    rw [List.getElem?_map] at h1
    cases e1 : kvs[j]? with
    | none => rw [e1] at h1; cases h1
    | some kv =>
      rw [e1] at h1
      cases h1
      obtain ⟨vv, e2, _, r2⟩ := Paired.getL rk e1
      rw [hky] at e2
      cases e2
      exact r2
  show wpAny _ _ (callWith cpos (.builtin "dict.values") [.ref d] [] []) _ X.xe s1
  exact method_meetsIn F.slot_dict_values F.entry_dict_values rfl (PySem.evalArgs_none ⟨rfl, hdic.typeIs, F.args_dict_values_1 _, _, meets_dict_values (mixKind X.prog X.w) d lo, ⟨vs, hdic⟩, fin⟩)
/-- tuple(d): its keys -/
def cTupD : List V → Hp → VK → Prop := fun xs H Q => ∃ (p : Addr) (kvs : List (Key × V)), xs = [.ref p] ∧ H p = some (.dK kvs) ∧ ∀ q, H q = none → Q (.ref q) (upd H q (.tup (kvs.map fun kv => kV kv.1)))
theorem new_tup_of {prog : Program} {w : World} {A : Around} {E : Value → Shared → Prop} {s : Shared} {r d : Addr} {n : Nat} {G : Nat → Value → Prop} {OK : Heap → Prop} {Q1 : Value → Shared → Prop} (src : PySem.W.KdlSrc prog w "dict" r d n G OK) (hh : A.handled = none) (ok : OK s.heap) (hn : n ≤ sizeLine)
    (k : ∀ (h' : Heap) (tk : Nat) (acc : Array Value), (∀ b o, s.heap.get? b = some o → h'.get? b = some o) → ItemsOf G acc n →
      Q1 (.ref h'.objs.size) { s with heap := h'.push { cls := .type "tuple", data := .seq acc }, toks := tk }) :
    codeAny (model prog w) A (.call (.builtin "tuple.__new__") ⟨[.type "tuple", .ref r], []⟩) (wants Q1 E) s := by
  have tyT : s.TypeIs (.ref r) "dict" := src.type s ok
  refine codeAny_of_tree ?_
  show wpAny _ A.in1 (checkBuiltinCall "tuple.__new__" ⟨[.type "tuple", .ref r], []⟩ >>= fun _ => again (.builtin "tuple.__new__" ⟨[.type "tuple", .ref r], []⟩)) _ _ s
  refine wpAny_bind (wpAny_of_eq (F.newCall_tuple_1 _) (wpAny_pure ⟨plainId_quiet F.plain_tuple_new _, codeAny_builtin F.entry_tuple_new ?_⟩))
  rw [Around.under_plainId F.plain_tuple_new _]
  have hsub := sub_tuple_self
  have hinit := init_tuple_lookup
  have hmh := madeHere_tuple
  have hh1 : A.in1.handled = none := hh
  wp_walk using wpAny_typeOf tyT, PySem.W.kdu_collect (A := A.in1) src hh1 ok hn
  intro h' tk acc hk hacc
  have e1 : acc.toList.toArray = acc := by simp
  show wpAny _ _ (Builtin.Tuple.tupleExact acc.toList.toArray >>= fun z => ret z) _ _ _
  unfold Builtin.Tuple.tupleExact
  rw [e1]
  refine wpAny_bind (wpAny_newObj_type ?_ (by show acc.size ≤ sizeLine; rw [hacc.1]; exact hn))
  exact wpAny_pure (k h' tk acc hk hacc)
theorem cl_tupD (hc : X.calm = true) : CallR X (.type "tuple") cTupD := by
  intro pins s σ H vs us Q I r h
  obtain ⟨p, kvs, rfl, hk, q⟩ := h
  obtain ⟨u, rfl, ru⟩ := vals1 r
  obtain rfl : u = Value.ref p := ru
  obtain ⟨z, lo, ws, rk, hdic⟩ := (show ObjOk X.prog X.w H s.heap p (.dK kvs) from I.hok p _ hk)
  obtain ⟨ep, hat⟩ := hdic.dictAt
  have hl : kvs.length = ws.length := Paired.length rk
  refine callType_codes (Q₁ := fun ob s1 => s1.TypeIs ob "tuple" ∧ (EP X pins σ Q) ob s1) F.called_tuple (F.typeCall_tuple_1 _) F.entry_object_init
    (new_tup_of (A := X.A.in1) (PySem.W.kdl_dict (knd := mixKind X.prog X.w) (kvs := ws) (ep := ep) lo) (I.ok.hd hc) hat (by rw [← hl]; exact z) fun h' tk acc hkeep hacc => ⟨⟨_, Heap.get?_push_size _ rfl, rfl⟩, ?_⟩) fun ob s1 h1 => ?_
  · have I2 : Inv X pins σ H { s with heap := h', toks := tk } := I.kept hkeep
    have z1 : acc.toList.length = acc.size := by simp
    refine ⟨.ref h'.objs.size, upd H h'.objs.size (.tup (kvs.map fun kv => kV kv.1)), I2.laid (t' := tk) (fun b ob e => Heap.get?_push_of_some _ e) (Nat.le_refl _) (show ObjOk X.prog X.w _ _ _ (.tup (kvs.map fun kv => kV kv.1)) from ⟨by rw [List.length_map]; exact z, acc.toList, ?_, by rw [Array.toArray_toList]; exact IsTup.new _ _⟩), rfl, q _ (I2.hok.fresh (Nat.le_refl _))⟩
    refine vals_of_at (by rw [List.length_map, z1, hacc.1, hl]) fun j x w h1 h2 => ?_
    obtain ⟨ky, yy, hky, hi⟩ := hacc.2 j w (by rw [← Array.getElem?_toList]; exact h2)
    rw [List.getElem?_map] at h1
    cases e1 : kvs[j]? with
    | none => rw [e1] at h1; cases h1
    | some kv =>
      rw [e1] at h1
      cases h1
      obtain ⟨vv, e2, k1, _⟩ := Paired.getL rk e1
      rw [hky] at e2
      cases e2
      have k2 : kv.1 = ky := k1
      show L2.RelV (kV kv.1) w
      rw [k2]
      exact keyIs_rel hi
  · exact ⟨h1.1, F.args_object_init_2 ob _, object_init_meets F.called_tuple.init.lookup F.called_tuple.made (by decide) X.prog X.w X.A.in1 _ s1 ⟨h1.1, rfl, h1.2⟩⟩
end
/-! ### sorted, of tuples of ints of any lengths, the first one empty -/
/-- at v: a tuple of these ints -/
def TupAt (h : Heap) (v : Value) (ns : List Int) : Prop := ∃ a o xs n, v = .ref a ∧ h.get? a = some o ∧ o.cls = .type "tuple" ∧ o.data = .seq xs n ∧ IntsAre xs.toList ns
theorem TupAt.grow {h h' : Heap} {v : Value} {ns : List Int} (t : TupAt h v ns) (g : ∀ b o, h.get? b = some o → o.cls = .type "tuple" → h'.get? b = some o) : TupAt h' v ns := by
  obtain ⟨a, o, xs, n, e, ho, hc, hd, i⟩ := t
  exact ⟨a, o, xs, n, e, g _ _ ho hc, hc, hd, i⟩
section
variable {M : Model} {A : Around} {E : Value → Shared → Prop} {s : Shared}
theorem tup_looks {v : Value} {ns : List Int} (t : TupAt s.heap v ns) : PySem.W.Looks M s.heap (typeOf v) (.type "tuple") := by
  obtain ⟨a, o, xs, n, rfl, ho, hc, hd, i⟩ := t
  rw [← hc]
  exact (PySem.W.Looks.ld ho).andThen .now
theorem tups_firsts {k : Value → List Int} : ∀ (vs : List Value) {Q : List (Option Value) → Shared → Prop}, (∀ v ∈ vs, TupAt s.heap v (k v)) →
    (∀ fs : List (Option Value), fs.length = vs.length → (∀ v r, vs = v :: r → k v = [] → fs[0]? = some none) → Q fs s) → wpAny M A (vs.mapM firstOfTuple') Q E s
  | [], Q, _, h => by
    rw [List.mapM_nil]
    exact wpAny_pure (h [] rfl fun v r e => nomatch e)
  | v :: vs, Q, hv, h => by
    obtain ⟨a, o, xs, n, rfl, ho, hc, hd, i⟩ := hv v List.mem_cons_self
    rw [List.mapM_cons]
    refine wpAny_bind ?_
    rw [PySem.W.kas_first_eq]
    refine wpAny_bind (PySem.W.Looks.here (tup_looks ⟨a, o, xs, n, rfl, ho, hc, hd, i⟩) ?_)
    rw [if_neg (by decide)]
    refine wpAny_bind (listItems_at ho hd (wpAny_pure ?_))
    refine wpAny_bind (tups_firsts vs (Q := fun bs s' => wpAny M A (pure (xs[0]? :: bs)) Q E s') (fun u hu => hv u (List.mem_cons_of_mem _ hu)) fun fs hl _ => wpAny_pure (h _ (by simp [hl]) fun v' r e hk => ?_))
    injection e with e1 e2
    rw [← e1] at hk
    rw [hk] at i
    have : xs.toList.length = 0 := i.length
    have z : xs.size = 0 := by simpa using this
    have : xs[0]? = none := by simp [z]
    rw [this]
    rfl
theorem tups_kind {vs : List Value} {k : Value → List Int} {Q : SortKind → Shared → Prop} (hv : ∀ v ∈ vs, TupAt s.heap v (k v)) {v0 : Value} {r0 : List Value} (e0 : vs = v0 :: r0) (k0 : k v0 = []) (h : Q oneType' s) : wpAny M A (keyKind' vs.toArray) Q E s := by
  rw [keyKind'_eq, List.mapM_toArray, map_eq_pure_bind]
  refine wpAny_bind (wpAny_bind (tups_firsts vs hv fun fs hl hf => wpAny_pure ?_))
  have f0 : fs[0]? = some none := hf v0 r0 e0 k0
  have na : (fs.toArray.all fun x => x.isSome) = false := by
    rw [List.all_toArray, List.all_eq_false]
    exact ⟨none, List.mem_of_getElem? f0, by simp⟩
  rw [na, if_neg (by decide)]
  have nb : ((fs.toArray[0]?).bind id).isSome = false := by
    have : fs.toArray[0]? = some none := by simpa using f0
    rw [this]
    rfl
  rw [nb, if_neg (by decide), oneTypeOnly'_eq, List.mapM_toArray, map_eq_pure_bind]
  refine wpAny_bind (wpAny_bind (wpAny_bind (PySem.W.kas_mapM (r := Value.type "tuple") _ (fun v m Q' hq => (tup_looks (hv v m)).here hq) (wpAny_pure ?_))))
  subst e0
  have al : ((List.map (fun _ => Value.type "tuple") (v0 :: r0)).toArray.all fun x => x == Value.type "tuple") = true := by
    simp only [List.all_toArray, List.all_map, List.all_eq_true]
    intro _ _
    rfl
  have h0 : (List.map (fun _ => Value.type "tuple") (v0 :: r0)).toArray[0]? = some (Value.type "tuple") := by simp
  rw [h0]
  simp only [al, if_true]
  exact wpAny_pure (wpAny_pure h)
end
section
variable {prog : Program} {w : World} {A : Around} {E : Value → Shared → Prop} {s : Shared}
theorem tups_lt {v u : Value} {ns ms : List Int} {Q : Bool → Shared → Prop} (hu : A.units < cLine) (hv : TupAt s.heap v ns) (hw : TupAt s.heap u ms) (h : Q (HT.lexLt ns ms) s) : wpAny (model prog w) A (keyLt' oneType' v u) Q E s := by
  obtain ⟨a, ⟨c1, d1, q1, l1⟩, xs, n, rfl, ho, hc, hd, i⟩ := hv
  obtain ⟨b, ⟨c2, d2, q2, l2⟩, ys, m, rfl, ho2, hc2, hd2, j⟩ := hw
  have hc : c1 = .type "tuple" := hc
  have hc2 : c2 = .type "tuple" := hc2
  have hd : q1 = .seq xs n := hd
  have hd2 : q2 = .seq ys m := hd2
  subst hc hc2 hd hd2
  rw [keyLt'_oneType, oneLt'_eq]
  simp only [if_true]
  refine wpAny_bind (wpAny_cRoomFor hu ?_)
  have tT : s.TypeIs (.ref a) "tuple" := ⟨_, ho, rfl⟩
  refine wpAny_bind (wpAny_callSpecialIfBound?_slot (name := Str.ofString "__lt__") tT PySem.F.slot_tuple_lt (call_meets PySem.F.slot_tuple_lt tT PySem.F.entry_tuple_lt (PySem.F.args_tuple_lt_2 _ _) (HT.tuple_lt_ints a b xs ys n m d1 d2 l1 l2 ns ms i j) ⟨ho, ho2, ?_⟩))
  exact wpAny_truthy_bool h
theorem tups_sortable {a : Addr} {vs : List Value} {k : Value → List Int} (hu : A.units < cLine) (hv : ∀ v ∈ vs, TupAt s.heap v (k v)) {v0 : Value} {r0 : List Value} (e0 : vs = v0 :: r0) (k0 : k v0 = []) (ha : ∀ o, s.heap.get? a = some o → o.cls ≠ .type "tuple") :
    SrtO.SortableO prog w A s a vs fun v u => HT.lexLt (k v) (k u) := by
  intro h' keep
  have hv' : ∀ v ∈ vs, TupAt h' v (k v) := fun v m => (hv v m).grow fun b o q c => keep b o (fun z => ha o (z ▸ q) c) q
  refine ⟨oneType', fun Q E hq => tups_kind (s := { s with heap := h' }) hv' e0 k0 hq, ?_⟩
  intro p q hp hq
  exact tups_lt (s := { s with heap := h' }) (Q := fun r s' => s' = { s with heap := h' } ∧ r = HT.lexLt (k p.1) (k q.1)) (E := fun _ _ => False) hu (hv' p.1 hp) (hv' q.1 hq) ⟨rfl, rfl⟩
end
/-- sorted(xs), xs a list of tuples of ints (k says which), the first one empty -/
def rSortL (K : PySem.W.Frag) : List V → Hp → VK → Prop := fun vs H Q => ∃ (a : Addr) (ts : List Addr) (k : Addr → List Int), vs = [V.ref a] ∧ SqL K H a (ts.map V.ref) ∧ (∀ t ∈ ts, H t = some (.tup ((k t).map V.int))) ∧ (∃ t0 r0, ts = t0 :: r0 ∧ k t0 = []) ∧
  ∀ (ts' : List Addr) (p : Addr), ts'.Perm ts → ts'.Pairwise (fun p q => HT.lexLt (k q) (k p) = false) → H p = none → Q (.ref p) (upd H p (.lst (ts'.map V.ref)))
section
variable {X : Cx}
theorem cr_sortL (hu : X.A.units + 64 < cLine) : CallR X (.builtin "sorted") (rSortL X.K) := by
  intro pins s σ H vs us Q I r h
  obtain ⟨a, ts, k, rfl, hs, hx, ⟨t0, r0, e0, k0⟩, q⟩ := h
  obtain ⟨its, rv, hl, hz⟩ := I.list hs
  obtain ⟨u, rfl, ru⟩ := vals1 r
  obtain rfl : u = Value.ref a := ru
  have ei := L2.nts_of rv
  have hv : ∀ v ∈ its, TupAt s.heap v (k (L2.adO v)) := fun v m => by
    rw [ei] at m
    obtain ⟨t, ht, rfl⟩ := List.mem_map.mp m
    obtain ⟨_, its2, r2, o, ho, hc, n, hd⟩ := I.hok _ _ (hx t ht)
    exact ⟨t, o, its2.toArray, n, rfl, ho, hc, hd, intsAre_of r2⟩
  have eh : its = Value.ref t0 :: r0.map Value.ref := by rw [ei, e0]; rfl
  refine SrtO.sorted_ord (NtL.swo_lexL fun v => k (L2.adO v)) hl.isList (by rw [← rv.length]; exact hz) (fun h2 h1 b hb kk => ?_) fun out hs1 hb1 => ?_
  · refine tups_sortable (s := { s with heap := h1 }) (by show X.A.units + 2 < cLine; omega) (fun v m => (hv v m).grow fun c o e _ => (kk c o e).2) eh k0 fun o e => ?_
    have e' : some o = some (seqObj "list" its.toArray 0) := e.symm.trans hb
    cases e'
    intro c
    exact absurd (Value.type.inj c) (by decide)
  · have eo : out = (out.map L2.adO).map Value.ref := L2.ref_map fun v m => by
      have m' : v ∈ its := hb1.perm.mem_iff.mp m
      rw [ei] at m'
      obtain ⟨t, _, e⟩ := List.mem_map.mp m'
      exact ⟨t, e.symm⟩
    have hp : (out.map L2.adO).Perm ts := by
      have p1 := hb1.perm.map L2.adO
      rw [ei, L2.ad_map] at p1
      exact p1
    have hs2 : (out.map L2.adO).Pairwise (fun p q => HT.lexLt (k q) (k p) = false) := List.pairwise_map.mpr (hs1.imp fun {x y} z => z)
    have fit : ((out.map L2.adO).map V.ref).length ≤ sizeLine := by
      rw [List.length_map, hp.length_eq]
      rw [List.length_map] at hz
      exact hz
    have rvo : Vals ((out.map L2.adO).map V.ref) out := by
      have z := L2.of_nts (out.map L2.adO)
      rw [← eo] at z
      exact z
    obtain ⟨ep, at2⟩ := PyProof.Rows.sortedAll_at s.heap its out.toArray
    have dn : H (s.heap.objs.size + 1) = none := I.hok.fresh (Nat.le_succ _)
    exact ⟨.ref (s.heap.objs.size + 1), upd H _ (.lst ((out.map L2.adO).map V.ref)), I.laid (t' := s.toks) (fun b o e => sortedAll_old e) (Nat.le_succ _) ⟨fit, out, ep, rvo, at2⟩, rfl, q _ _ hp hs2 dn⟩
theorem w_sortT {K : PySem.W.Frag} (h : X.K = K) (hu : X.A.units + 64 < cLine) : CallR X (.builtin "sorted") (rSortL K) := by subst h; exact cr_sortL hu
end
section
variable {K : PySem.W.Frag} {X : Cx} {pos : Pos}
theorem w_pglst {es : List Expr} {k : Nat} {t : TGs} {n : Nat} (h : X.K = K) (hc : X.calm = true) (ht : PGs X es t) (hn : (assignEach es X.env).length = n) (hst : (assignEach es X.env).findIdx? (·.1) = none) : PG X (.Tuple es k pos) (gLst K n t) := by subst h; exact pg_lst hc ht hn hst
theorem w_revL {e : Expr} {te : TE} {k : Nat} {p1 p2 p3 : Pos} (h : X.K = K) (he : PE X e te) : PE X (.Subscript e (.Slice none none (some (.UnaryOp .USub (.Constant (.int 1) k p1) p2)) p3) pos) (tRevL K te) := by subst h; exact pe_revL he
end
end M

set_option Elab.async false
set_option linter.all false
set_option maxRecDepth 100000
set_option maxHeartbeats 2000000
/-! sorted(d, reverse=True) of a dict of texts; == of dicts of plain data; going through a list or a tuple. -/
namespace M
open PySem PySem.Spec PyProof.Rows L2
def svOf : Value → List Nat
  | .str x _ => x.cps.toList
  | _ => []
def ltSv (v u : Value) : Bool := decide (svOf v < svOf u)
theorem swo_sv : SrtO.Swo ltSv := ⟨fun x y h => by
    have := of_decide_eq_true h
    exact decide_eq_false fun z => List.lt_irrefl _ (List.lt_trans this z),
  fun x y z h1 h2 => by
    have a := of_decide_eq_false h1
    have b := of_decide_eq_false h2
    exact decide_eq_false (List.not_lt.mpr (List.le_trans (List.not_lt.mp a) (List.not_lt.mp b)))⟩
def toS : Value → Str
  | .str x _ => x
  | _ => Str.empty
theorem strs_mem : ∀ {vs : List Value} {ss : List Str}, StrsAre vs ss → ∀ v ∈ vs, ∃ x t, v = Value.str x t
  | _, _, .nil, v, h => absurd h (by simp)
  | _, _, .cons n t r, v, h => by
    rcases List.mem_cons.mp h with e | h
    · exact ⟨n, t, e⟩
    · exact strs_mem r v h
theorem strs_of : ∀ {vs : List Value}, (∀ v ∈ vs, ∃ x t, v = Value.str x t) → StrsAre vs (vs.map toS)
  | [], _ => .nil
  | v :: vs, h => by
    obtain ⟨i, t, e⟩ := h v List.mem_cons_self
    subst e
    exact .cons i t (strs_of fun u hu => h u (List.mem_cons_of_mem _ hu))
theorem toS_strs : ∀ {vs : List Value} {ss : List Str}, StrsAre vs ss → vs.map toS = ss
  | _, _, .nil => rfl
  | _, _, .cons n t r => congrArg (n :: ·) (toS_strs r)
theorem strs_sortable {prog : Program} {w : World} {A : Around} {s : Shared} {a : Addr} {vs : List Value} {ss : List Str} (hI : StrsAre vs ss) (h2 : 2 ≤ vs.length) : SrtO.SortableO prog w A s a vs ltSv := by
  intro h' _
  refine ⟨oneType', fun Q E hq => ?_, fun p q hm hm' => ?_⟩
  · match vs, hI, h2 with
    | v1 :: v2 :: rest, hI, _ =>
      rw [keyKind_strs hI]
      exact wpAny_pure hq
    | [], _, h => exact absurd h (by decide)
    | [v], _, h => exact absurd h (by simp)
  · obtain ⟨a, t, e⟩ := strs_mem hI _ hm
    obtain ⟨b, u, e'⟩ := strs_mem hI _ hm'
    show wpAny (model prog w) A (keyLt' oneType' p.1 q.1) (fun r s' => s' = { s with heap := h' } ∧ r = ltSv p.1 q.1) (fun _ _ => False) { s with heap := h' }
    rw [e, e', keyLt'_oneType]
    exact oneLt_str ⟨rfl, rfl⟩
/-- sorted(d, reverse=True): the keys in some order -/
def rSortDR : List V → List V → Hp → VK → Prop := fun xs zs H Q => ∃ (a : Addr) (kvs : List (Key × V)) (ks : List Str), xs = [.ref a] ∧ zs = [.bl true] ∧ Rd H a (.dK kvs) ∧ kvs.map (·.1) = ks.map Sum.inr ∧
  ∀ (ys : List Str) (p : Addr), ys.Perm ks → H p = none → Q (.ref p) (upd H p (.lst (ys.map V.str)))
section
variable {X : Cx}
theorem cl_sortDR (calmly : X.calm = true) : CallRK X (.builtin "sorted") [Str.ofString "reverse"] rSortDR := by
  intro pi s0 st Hp0 args zs us ws Qk In rel rz hh
  obtain ⟨ad, kv0, ks, exs, ezs, rd0, names, kk⟩ := hh
  subst exs
  subst ezs
  obtain ⟨u0, eu0, r0⟩ := vals1 rel
  subst eu0
  cases r0
  obtain ⟨w1, rfl, e1⟩ := vals1 rz
  obtain rfl : w1 = Value.bool true := e1
  obtain ⟨zd, od0, vv, prs, dof⟩ := dk_rd In.hok rd0
  obtain ⟨epo, dAt⟩ := dof.dictAt
  have nm : vv.map (·.1) = ks.map Sum.inr := by rw [← names, prs.keys]
  have nl : vv.length = ks.length := by simpa using congrArg List.length nm
  have fit0 : vv.length ≤ sizeLine := by rw [← prs.length]; exact zd
  refine call_function_entry_kw kind_sorted plain_sorted entry_sorted (args_sorted_rev _ _) ?_
  unfold Builtin.«sorted»
  refine wpAny_bind (m := checkCount "sorted" 1 1 _) (wpAny_pure ?_)
  refine wpAny_bind (PySem.W.kdu_collect (A := X.A.in1) (PySem.W.kdl_dict (knd := mixKind X.prog X.w) (kvs := vv) (ep := epo) od0) (In.ok.hd calmly) dAt fit0 fun hp1 tk1 got keep1 ⟨gsz, gat⟩ => ?_)
  have al : got.toList.length = ks.length := by rw [Array.length_toList, gsz, nl]
  have txt : StrsAre got.toList ks := strs_at al fun n v ev => by
    obtain ⟨kq, xq, f1, f2⟩ := gat n v (by rw [← Array.getElem?_toList]; exact ev)
    have f3 : (ks.map Sum.inr : List Key)[n]? = some kq := by rw [← nm, List.getElem?_map, f1]; rfl
    rw [List.getElem?_map] at f3
    match q4 : ks[n]? with
    | none =>
      rw [q4] at f3
      cases f3
    | some y =>
      rw [q4] at f3
      have f5 : Sum.inr y = kq := Option.some.inj f3
      subst f5
      obtain ⟨tt, f6⟩ := Value.isStrOf_shape (x := y) (v := v) f2
      exact ⟨y, tt, rfl, f6⟩
  have sml : got.toList.length ≤ sizeLine := by rw [al, ← nl]; exact fit0
  have In1 : Inv X pi st Hp0 { s0 with heap := hp1, toks := tk1 } := In.kept keep1
  refine wpAny_bind (wpAny_newList ?_ (by simpa using sml))
  have at0 : (hp1.push (seqObj "list" got.toList.toArray 0)).get? hp1.objs.size = some (seqObj "list" got.toList.toArray 0) := by exact Heap.get?_push_size _ rfl
  show wpAny _ _ _ _ _ { s0 with heap := hp1.push (seqObj "list" got.toList.toArray 0), toks := tk1 }
  refine wpAny_bind (wpAny_holding (wpAny_call_entry_kw slot_list_sort ⟨_, at0, rfl⟩ entry_list_sort ?_ (args_list_sort_rev _ _)))
  refine SrtR.list_sort_ordR (b := true) (s := { s0 with heap := hp1.push (seqObj "list" got.toList.toArray 0), toks := tk1 }) swo_sv at0 sml (fun h2 => strs_sortable txt h2) fun out hs hb => ⟨_, rfl, ?_⟩
  have pm : out.reverse.Perm got.toList := (List.reverse_perm _).trans (hb.perm.trans (List.reverse_perm _))
  have g1 : StrsAre out.reverse (out.reverse.map toS) := strs_of fun v hv => strs_mem txt v (pm.mem_iff.mp hv)
  have g2 : (out.reverse.map toS).Perm ks := by
    have := pm.map toS
    rw [toS_strs txt] at this
    exact this
  have ea : (if true = true then out.toArray.reverse else out.toArray) = out.reverse.toArray := by
    rw [if_pos rfl]
    simp
  rw [ea]
  obtain ⟨ep2, at2⟩ := PyProof.Rows.sortedHeap_at (vs := got.toList) (out := out.reverse.toArray) at0
  have fit : ((out.reverse.map toS).map V.str).length ≤ sizeLine := by rw [List.length_map, g2.length_eq, ← al]; exact sml
  refine wpAny_pure ⟨_, rfl, .ref hp1.objs.size, upd Hp0 hp1.objs.size (.lst ((out.reverse.map toS).map V.str)), ?_, rfl, kk _ _ g2 (In1.hok.fresh (Nat.le_refl _))⟩
  refine In1.laid (t' := tk1) (fun b u e => ?_) (Nat.le_refl _) (show ObjOk X.prog X.w _ _ _ (.lst ((out.reverse.map toS).map V.str)) from ⟨fit, out.reverse, ep2, vals_of_strs g1, ?_⟩)
  · have lt : b < hp1.objs.size := Heap.lt_size e
    rw [PyProof.Rows.sortedHeap_old (Nat.ne_of_lt lt) (Nat.lt_of_lt_of_eq (Nat.lt_succ_of_lt lt) (size_push' _ _).symm)]
    exact Heap.get?_push_of_some _ e
  · exact at2
end
/-! ### a list or a tuple, whichever a name holds -/
def iAny (K : PySem.W.Frag) (i : Nat) : TI := fun σ H R => iList K (tVar i) σ H R ∨ iTup K (tVar i) σ H R
theorem w_piany {K : PySem.W.Frag} {X : Cx} {i : Nat} {tg l : Expr} (h : X.K = K) (hl : PE X l (tVar i)) : PI X tg l (iAny K i) := by
  subst h
  refine ⟨fun pins s σ H R I q => ?_⟩
  rcases q with q | q
  · exact (pi_list hl).run pins s σ H R I q
  · exact (pi_tup hl).run pins s σ H R I q
theorem x_iAnyL {K : PySem.W.Frag} {i : Nat} {σ : L2.St} {H : Hp} {R : It → Hp → Prop} (k : iList K (tVar i) σ H R) : iAny K i σ H R := .inl k
theorem x_iAnyT {K : PySem.W.Frag} {i : Nat} {σ : L2.St} {H : Hp} {R : It → Hp → Prop} (k : iTup K (tVar i) σ H R) : iAny K i σ H R := .inr k
/-! ### dicts of plain data that are equal -/
structure DKeq (K : PySem.W.Frag) (H : Hp) (a b : Addr) (ks ls : List (Key × V)) : Prop where
  l : H a = some (.dK ks)
  r : H b = some (.dK ls)
  len : ks.length = ls.length
  all : ∀ p ∈ ks, ∃ u d e, valV ls p.1 = some u ∧ Dp K H p.2 d ∧ Dp K H u e ∧ d.canLay0 = true ∧ e.canLay0 = true ∧ d.depth ≤ 50 ∧ PyData.eqv d e = true
def rDEq (K : PySem.W.Frag) (neg : Bool) : R2 := fun x y H Q => (x = .non ∧ y = .non ∧ Q (.bl (!neg)) H) ∨ (∃ a b ks ls, x = .ref a ∧ y = .ref b ∧ DKeq K H a b ks ls ∧ Q (.bl (!neg)) H)
section
variable {X : Cx}
theorem dk_hits {pins : List (Addr × Obj)} {σ : L2.St} {H : Hp} {s : Shared} (I : Inv X pins σ H s) (hu : X.A.units + 64 < cLine) {ls : List (Key × V)} {vb : List (Key × Value)} (rb : KV ls vb) {ks : List (Key × V)} {va : List (Key × Value)} (ra : KV ks va)
    (h : ∀ p ∈ ks, ∃ u d e, valV ls p.1 = some u ∧ Dp X.K H p.2 d ∧ Dp X.K H u e ∧ d.canLay0 = true ∧ e.canLay0 = true ∧ d.depth ≤ 50 ∧ PyData.eqv d e = true) : PySem.W.KeqHits X.A.in1 s vb va true := by
  unfold KV at ra
  induction ra with
  | nil => exact .nil
  | @cons p q ps qs h0 t k =>
    obtain ⟨h1, h2⟩ := h0
    obtain ⟨u, d, e, ev, hd, he, cd, ce, dd, eqv⟩ := h p List.mem_cons_self
    have rr : RelO (some u) (valueAt vb p.1) := by rw [← ev]; exact rb.val p.1
    obtain ⟨y, hy, ry⟩ := rr.some_of
    obtain ⟨key, v⟩ := q
    have h1' : p.1 = key := h1
    rw [h1'] at hy
    obtain ⟨as, r1⟩ := Dp.reads I d p.2 v hd h2
    obtain ⟨bs, r2⟩ := Dp.reads I e u y he ry
    show PySem.W.KeqHits X.A.in1 s vb ((key, v) :: qs) (true && true)
    refine .hit hy ?_ (k fun p' hm => h p' (List.mem_cons_of_mem _ hm))
    have := SeqAt.eqAt_reads d e X.A.in1 s v y as bs r1 r2 cd ce (by show X.A.units + 1 + min d.depth e.depth < cLine; omega)
    rw [eqv] at this
    exact this
theorem op_dEq (hu : X.A.units + 64 < cLine) : OpR X (compareOp .Eq) (rDEq X.K false) := by
  intro pins s σ H x y v u Q I rx ry h
  rcases h with ⟨rfl, rfl, q⟩ | ⟨a, b, ks, ls, rfl, rfl, D, q⟩
  · exact op_eqD hu pins s σ H .non .non v u Q I rx ry ⟨.none, .none, .non, .non, by rfl, by rfl, q⟩
  · cases (show v = Value.ref a from rx)
    cases (show u = Value.ref b from ry)
    obtain ⟨_, ya, va, ra, da⟩ := (show ObjOk X.prog X.w H s.heap a (.dK ks) from I.hok a _ D.l)
    obtain ⟨_, yb, vb, rb, db⟩ := (show ObjOk X.prog X.w H s.heap b (.dK ls) from I.hok b _ D.r)
    have e : va.length = vb.length := by rw [← ra.length, ← rb.length]; exact D.len
    refine PySem.W.keq_eq (knd := mixKind X.prog X.w) (r := true) ya yb da db (by omega) (fun _ => dk_hits I hu rb ra D.all) ?_
    rw [show (va.length == vb.length && true) = true from by rw [e]; simp]
    exact ⟨.bl true, H, I, rfl, q⟩
theorem op_dNe (hu : X.A.units + 64 < cLine) : OpR X (compareOp .NotEq) (rDEq X.K true) := by
  intro pins s σ H x y v u Q I rx ry h
  rcases h with ⟨rfl, rfl, q⟩ | ⟨a, b, ks, ls, rfl, rfl, D, q⟩
  · exact op_neD hu pins s σ H .non .non v u Q I rx ry ⟨.none, .none, .non, .non, by rfl, by rfl, q⟩
  · cases (show v = Value.ref a from rx)
    cases (show u = Value.ref b from ry)
    obtain ⟨_, ya, va, ra, da⟩ := (show ObjOk X.prog X.w H s.heap a (.dK ks) from I.hok a _ D.l)
    obtain ⟨_, yb, vb, rb, db⟩ := (show ObjOk X.prog X.w H s.heap b (.dK ls) from I.hok b _ D.r)
    have e : va.length = vb.length := by rw [← ra.length, ← rb.length]; exact D.len
    refine PySem.W.keq_ne (knd := mixKind X.prog X.w) (r := true) ya yb da db (by omega) (fun _ => dk_hits I hu rb ra D.all) ?_
    rw [show (va.length == vb.length && true) = true from by rw [e]; simp]
    exact ⟨.bl false, H, I, rfl, q⟩
theorem w_dEq {K : PySem.W.Frag} (h : X.K = K) (hu : X.A.units + 64 < cLine) : OpR X (compareOp .Eq) (rDEq K false) := by subst h; exact op_dEq hu
theorem w_dNe {K : PySem.W.Frag} (h : X.K = K) (hu : X.A.units + 64 < cLine) : OpR X (compareOp .NotEq) (rDEq K true) := by subst h; exact op_dNe hu
theorem w_dclear {K : PySem.W.Frag} {o : Expr} {to : TE} {apos cpos : Pos} (h : X.K = K) (ho : PE X o to) (hbase : attributeBase o "clear" X.env (eval o X.env) = eval o X.env := by rfl) (hline : (apos.endLine == cpos.line) = true := by rfl) :
    PE X (.Call (.Attribute o "clear" apos) [] [] cpos) (tBM0 K "dict" rDClear to) := by subst h; exact pe_dclear ho hbase hline
end
end M

set_option Elab.async false
set_option linter.all false
set_option maxRecDepth 100000
set_option maxHeartbeats 2000000
/-! {t: v}, t a tuple; setdefault; join; index -/
namespace M
open PySem PySem.Spec PyProof.Rows L2
def tDispT (tk tv : TE) : TE := fun σ H Q => ∀ p, H p = none → tk σ (upd H p (.dT [])) fun x H1 => tv σ H1 fun y H2 => ∃ (b : Addr) (k : List Key), x = .ref b ∧ H2 p = some (.dT []) ∧ H2 b = some (.tup (k.map kV)) ∧ Q (.ref p) (upd H2 p (.dT [(k, y)]))
theorem pe_dispT {X : Cx} {pos : Pos} {k v : Expr} {tk tv : TE} (hu : X.A.units + 1 < cLine) (hk : PE X k tk) (hv : PE X v tv) : PE X (.Dict [some k] [v] pos) (tDispT tk tv) := by
  refine ⟨fun pins s σ H Q I q => ?_⟩
  have hn := I.hok.fresh (Nat.le_refl s.heap.objs.size)
  have I1 := I.laid (a := s.heap.objs.size) (o := .dT []) (h' := s.heap.push { cls := .type "dict", data := .dict #[] }) (t' := s.toks) (fun _ _ q => Heap.get?_push_of_some _ q) (Nat.le_refl _) (dt_empty s.heap I.big)
  have hl := pairTrees_length [some k] [v] X.env pos rfl rfl
  have hz := zip_pairTrees [some k] [v] X.env pos rfl rfl
  rw [arm_eval_Dict, hz, dictDisplay_pairs _ (fun e => by rw [e] at hl; cases hl) (by rw [hl]; exact Nat.le_of_ble_eq_true rfl)]
  refine wpAny_bind (wpAny_standAt (wpAny_bind (wpAny_subDictH (knd := tupleKind (mixKind X.prog X.w)) (Q := fun d s' => wpAny (model X.prog X.w) X.A (pure (Value.ref d)) (EP X pins σ Q) X.xe s') (Nat.lt_of_succ_lt hu) (by rw [hl]; exact Nat.le_of_ble_eq_true rfl) ?_)))
  refine pairTrees_cons_walk (thn (hk.run pins _ σ _ _ I1 (q _ hn)) fun u s1 ⟨x, H1, I2, rx, q1⟩ => thn (hv.run pins s1 σ H1 _ I2 q1) fun w2 s2 ⟨y, H2, I3, ry, b, ky, ex, hp, hb, q2⟩ => pairTrees_nil_walk ?_)
  subst ex
  obtain rfl : u = Value.ref b := rx
  obtain ⟨z, hd, xs0, r0, dd⟩ := dt_of I3.hok hp
  cases r0
  refine ⟨[(ky, b, w2)], ⟨rfl, rfl, key_of I3.hok hb, trivial⟩, dd, fun h' tk' dd' hs => wpAny_pure ?_⟩
  refine ⟨.ref s.heap.objs.size, upd H2 s.heap.objs.size (.dT [(ky, y)]), ?_, rfl, q2⟩
  have e1 : storedAllH ([] : List (List Key × Addr × Value)) [(ky, b, w2)] = [(ky, b, w2)] := rfl
  rw [e1] at dd'
  obtain ⟨o, es, ep, hq, h2, h3, h4, _, h5⟩ := dd'
  refine d_write I3 (by rw [hp]; exact True.intro) hs ⟨o, hq⟩ ⟨Nat.le_of_ble_eq_true rfl, hd, [(ky, b, w2)], .cons ⟨rfl, ?_, ry⟩ .nil, o, es, ep, hq, h2, h3, h4, h5⟩
  rw [upd_ne (ne_of hb hp (fun z => nomatch z))]
  exact hb
def rJoin (K : PySem.W.Frag) : V → List V → Hp → VK → Prop := fun x xs H Q => ∃ a p, ∃ ys : List Str, x = .str a ∧ xs = [.ref p] ∧ (SqL K H p (ys.map V.str) ∨ SqT K H p (ys.map V.str)) ∧
    (ys.map (·.length)).sum + ys.length * a.length ≤ 16777216 ∧ Q (.str (Txt.join a ys)) H
section
variable {X : Cx} {K : PySem.W.Frag} {o e : Expr} {to : TE} {t : TA} {apos cpos : Pos}
theorem w_join (h : X.K = K) (ho : PE X o to) (ha : PA X [e] t)
    (hbase : attributeBase o "join" X.env (eval o X.env) = eval o X.env := by rfl)
    (hfew : ((backTo cpos (starEach [e] X.env)).all (fun x => !x.1) && (backToKw cpos (keywordEach [] X.env)).all (fun x => x.1.isSome)
      && decide (([e] : List Expr).length + ([] : List Keyword).length + (if ([] : List Keyword).isEmpty then 0 else 1) < 30)) = true := by rfl)
    (hline : (apos.endLine == cpos.line) = true := by rfl) (hs : starEach [e] X.env = (false, eval e X.env) :: starEach [] X.env := by rfl) (hplain : (backTo cpos (starEach [] X.env)).any (·.1) = false := by rfl) :
    PE X (.Call (.Attribute o "join" apos) [e] [] cpos) (tBM K "str" (rJoin K) to t) := by
  subst h
  exact pe_bm PySem.F.plainAttrs_str PySem.F.slot_str_join PySem.F.type_str_join mt_join ho ha hbase hfew hline hs hplain
theorem w_index (h : X.K = K) (ho : PE X o to) (ha : PA X [e] t)
    (hbase : attributeBase o "index" X.env (eval o X.env) = eval o X.env := by rfl)
    (hfew : ((backTo cpos (starEach [e] X.env)).all (fun x => !x.1) && (backToKw cpos (keywordEach [] X.env)).all (fun x => x.1.isSome)
      && decide (([e] : List Expr).length + ([] : List Keyword).length + (if ([] : List Keyword).isEmpty then 0 else 1) < 30)) = true := by rfl)
    (hline : (apos.endLine == cpos.line) = true := by rfl) (hs : starEach [e] X.env = (false, eval e X.env) :: starEach [] X.env := by rfl) (hplain : (backTo cpos (starEach [] X.env)).any (·.1) = false := by rfl) :
    PE X (.Call (.Attribute o "index" apos) [e] [] cpos) (tBM K "list" (rIndex K) to t) := by
  subst h
  exact pe_bm PySem.F.plainAttrs_list PySem.F.slot_list_index PySem.F.type_list_index mt_index ho ha hbase hfew hline hs hplain
end
section
variable {K : PySem.W.Frag} {σ : L2.St} {H : Hp} {Q : VK}
theorem x_dispT {tk tv : TE} (k : ∀ p, H p = none → tk σ (upd H p (.dT [])) fun x H1 => tv σ H1 fun y H2 => ∃ (b : Addr) (k : List Key), x = .ref b ∧ H2 p = some (.dT []) ∧ H2 b = some (.tup (k.map kV)) ∧ Q (.ref p) (upd H2 p (.dT [(k, y)]))) : tDispT tk tv σ H Q := k
theorem x_dsetd {td ty tx : TE} (k : td σ H fun x H1 => ∃ a, x = .ref a ∧ IsD H1 a ∧ ty σ H1 fun y H2 => tx σ H2 fun z H3 => ∃ (kvs : List (Key × V)) (k : Key), H3 a = some (.dK kvs) ∧ y = kV k ∧ kvs.length < sizeLine ∧
  (∀ v, valV kvs k = some v → Q v H3) ∧ (valV kvs k = none → Q z (upd H3 a (.dK (putK kvs k z))))) : tDSetd td ty tx σ H Q := k
theorem x_join {a : Str} {p : Addr} {ys : List Str} (h : SqL K H p (ys.map V.str)) (hz : (ys.map (·.length)).sum + ys.length * a.length ≤ 16777216) (k : Q (.str (Txt.join a ys)) H) : rJoin K (.str a) [.ref p] H Q := ⟨a, p, ys, rfl, rfl, .inl h, hz, k⟩
end
end M

set_option Elab.async false
set_option linter.all false
set_option maxRecDepth 100000
set_option maxHeartbeats 2000000
/-! own errors whose __init__ says super().__init__('..') and keeps one field -/
namespace SupX
open PySem PySem.Spec PyProof.Rows L2 NdefX PySem.W PySem.Calls
/-! ### the text of such an __init__ -/
def sA (fld : Str) (p1 p2 : Pos) : Arguments := { posonlyargs := [], args := [{ arg := "self", annotation := none, pos := p1 }, { arg := fld, annotation := none, pos := p2 }], vararg := none, kwonlyargs := [], kw_defaults := [], kwarg := none, defaults := [] }
def sB (fld msg : Str) (k : Nat) (q1 q2 q3 q4 q5 q6 q7 q8 q9 q10 : Pos) : List Stmt :=
  [.Expr (.Call (.Attribute (.Call (.Name "super" q1) [] [] q2) "__init__" q3) [.Constant (.str msg) k q4] [] q5) q6, .Assign [.Attribute (.Name "self" q7) fld q8] (.Name fld q9) q10]
def sS (fld : Str) : Scope := { kind := .function, names := [("self", .local), (fld, .local), ("__class__", .free), ("super", .globalImplicit)], isGenerator := false, isCoroutine := false, more := [] }
theorem sup_eval (env : Env) {msg : Str} {k : Nat} {q1 q2 q3 q4 q5 : Pos} (hq : (q3.endLine == q5.line) = true) :
    eval (.Call (.Attribute (.Call (.Name "super" q1) [] [] q2) "__init__" q3) [.Constant (.str msg) k q4] [] q5) env = (do
      let ov ← attributeBase (.Call (.Name "super" q1) [] [] q2) "__init__" env (eval (.Call (.Name "super" q1) [] [] q2) env)
      standAt q3.atName
      let (f, first) ← holding [ov] (getMethod ov "__init__" (do return (← importBound (.Call (.Name "super" q1) [] [] q2) env).getD true))
      callWith q5 f first (backTo q5 (starEach [.Constant (.str msg) k q4] env)) []) := by
  show (do
      let ov ← attributeBase (.Call (.Name "super" q1) [] [] q2) "__init__" env (eval (.Call (.Name "super" q1) [] [] q2) env)
      standAt q3.atName
      methodCall (.Call (.Name "super" q1) [] [] q2) "__init__" q3 q5 env ov 1 (backTo q5 (starEach [.Constant (.str msg) k q4] env)) []) = _
  unfold methodCall calleeOf methodCallPos
  have f : methodCallForm 1 (backTo q5 (starEach [.Constant (.str msg) k q4] env)) [] = true := rfl
  simp only [f, hq, if_true, Bool.not_true, Bool.false_or, pure_bind]
/-- what is asked of the program -/
class PX (P : Program) : Prop where
  top : (P.main.scope.names.lookup ("super" : Str)).isSome = false
  file : P.main.file = "/claim/cut.py"
/-- what the written part says of the class at C, and of its __init__ at fI -/
structure SupTxt (K : Frag) (mg : Str → Option Value) (C fI : Addr) (fd : FuncData) (qual fld : Str) : Prop where
  oex : OexC K C
  xf : XfC K C
  noN : findIn K (.ref C) fld = some none
  iC : findIn K (.ref C) "__init__" = some (some (.ref fI))
  tI : typeIn K (.ref fI) = some (.type "function")
  sup : ks_superIn K C C "__init__" = some (some (.builtin "ValueError.__init__"))
  mro : mroIn K C (.ref C) = some true
  sub : subIn K (.ref C) (.type "ValueError") = some true
  nsu : mg "super" = none
  bnd : Binds K fd ["self", fld] []
  any : nsIn K cStatics "thirdparty.any" = some none
  sc : NScope ["self", fld, "__class__"] ["self", fld] ["__class__"] (sS fld)
  d1 : (fld == ("__debug__" : Str)) = false
  d2 : (fld == ("__classdict__" : Str)) = false
  scs : (sS fld).names.lookup ("super" : Str) = some .globalImplicit
  fn : ∃ (oc : Value) (od : Option Addr) (dV kV doc pm : Value) (an : Option Addr) (cda cc : Addr) (ct : Value) (osl : Array (Option Value)) (p1 p2 : Pos) (msg : Str) (k : Nat) (q1 q2 q3 q4 q5 q6 q7 q8 q9 q10 : Pos),
    fd = ksFn "__init__" qual (sA fld p1 p2) (sB fld msg k q1 q2 q3 q4 q5 q6 q7 q8 q9 q10) (sS fld) dV kV doc pm an (.ref cda) ct cc ∧ (q3.endLine == q5.line) = true ∧ K.lookup fI = some ⟨oc, od, .func fd, osl⟩ ∧ codeIn K (.ref cda) qual = true ∧
    (∃ (cl : Value) (cld : Option Addr) (csl : Array (Option Value)), K.lookup cc = some ⟨cl, cld, .cell (some (.ref C)), csl⟩) ∧
    ∃ (cl : Value) (cld : Option Addr) (csl : Array (Option Value)) (vs : Array Value) (tf : Tok), K.lookup cda = some ⟨cl, cld, .fields vs, csl⟩ ∧ vs[2]? = some (.str "/claim/cut.py" tf)
/-- what such an __init__ promises -/
def spSup (C : Addr) (fld : Str) : Sp := fun vs H Q _ => ∃ (a : Addr) (v : V), vs = [.ref a, v] ∧ H a = some (exo a C none) ∧ ∀ dx, H dx = none → dx ≠ a → Q .non (upd (upd H dx (exd dx [(fld, v)])) a (exo a C (some dx)))
section
variable {P : Program} {w : World} {A : Around} {E : Value → Shared → Prop} {hp : Heap} {g : Array GenState} {d : Drawn} {t : Nat} {os : OsState}
/-- the bound built-in __init__ called: the error's args are laid anew -/
theorem bw_call {nm q : Str} {C N u x t0 : Addr} {bs bm : List Value} {hdct : Bool} {sn : List Str} {sub : List Value} {ab : Bool} {col : Option Bool} {dd : Option Addr} {k0 k1 k2 k3 k5 : Option Value} {us : List Value} {Q : Value → Shared → Prop}
    (hC : hp.get? C = some (excClassObj nm q C N bs bm hdct sn sub ab col dd k0 k1 k2 k3 k5 "ValueError.__new__")) (hx : hp.get? x = some (PySem.HandSPX.excO C t0)) (hu : hp.get? u = some (kxs_mw "ValueError.__init__" x)) (hz : us.length ≤ sizeLine)
    (h : ∀ h' t1, (∀ b o, b ≠ x → hp.get? b = some o → h'.get? b = some o) → h'.get? x = some (PySem.HandSPX.excO C t1) → Q .none ⟨h', g, d, t, os⟩) : wpAny (model P w) A (call (.ref u) us) Q E ⟨hp, g, d, t, os⟩ := by
  have isMw : (Value.type "method-wrapper" == Value.type "method" || Value.type "method-wrapper" == Value.type "builtin_function_or_method" || Value.type "method-wrapper" == Value.type "method-wrapper") = true := by decide
  refine wpAny_call (codeAny_of_tree ?_)
  show wpAny _ A.in1 (callAny (.ref u) ⟨us, []⟩) _ _ _
  simp only [callAny]
  refine wpAny_bind (wpAny_load hu ?_)
  simp only [kxs_mw, isMw, if_true]
  refine KFB.if_so (by decide) (wpAny_bind (check_bound_init F.excBase_ValueError.toExcCallFacts hC hx rfl (wpAny_bind (wpAny_pure (wpAny_pure ?_)))))
  exact ⟨plainId_quiet F.excBase_ValueError.init.plain _, codeAny_builtin F.excBase_ValueError.initEntry (exc_init_tree (cls := .ref C) (t0 := t0) (dv := none) (c2 := .none) (c3 := .none) (b4 := .bool false) hx hz fun h' k e _ => h h' _ k e)⟩
end
section
variable {P : Program} {w : World} {K : Frag} {mg : Str → Option Value} {base : Heap} {CX : CXT} {C fI : Addr} {fd : FuncData} {qual fld : Str}
theorem sup_ok [px : PX P] (T : SupTxt K mg C fI fd qual fld) : FnOk P w K mg base CX 1 fI fd ["self", fld] (spSup C fld) := by
  refine ⟨fun vs H Q E h => ?_, fun A outer s H args us vs Q E hr e0 hb r h => ?_⟩
  · obtain ⟨a, v, rfl, _⟩ := h
    rfl
  obtain ⟨oc, od, dV, kV, doc, pm, an, cda, cc, ct, osl, p1, p2, msg, k, q1, q2, q3, q4, q5, q6, q7, q8, q9, q10, rfl, hln, hfI, hcd, ⟨cl1, cld1, csl1, hcc⟩, cl2, cld2, csl2, fv, tf, hcda, hfv⟩ := T.fn
  have hfile : ((P.main.file : Str) == "/claim/cut.py") = true := by rw [px.file]; decide +kernel
  have kin : K.In s.heap := e0.mod.kin.keeps fun b o e => (e0.bs b o e).1
  have lim : s.heap.NoLimit := e0.mod.nolimit.keeps fun b o e => (e0.bs b o e).1
  let NFm : NF := ⟨"__init__", qual, sA fld p1 p2, sB fld msg k q1 q2 q3 q4 q5 q6 q7 q8 q9 q10, sS fld, [("__class__", cc)], cda⟩
  refine ks_codeAny_call_defAt hr.depth (kin _ _ hfI) rfl lim (codeRec_of kin hcd) rfl hb T.sc.nocell (fun y hy => T.sc.par _ (List.of_mem_zip hy).1) (fun h₁ hns kp => ?_) rfl rfl rfl
  obtain ⟨a, v, rfl, ea, hq⟩ := h
  cases r with
  | @cons _ u0 _ ur ra rr =>
  obtain rfl : u0 = Value.ref a := ra
  cases rr with
  | @cons _ u1 _ ur' rv rn =>
  cases rn
  have hcell : s.heap.IsCell cc (some (.ref C)) := ⟨_, kin _ _ hcc, rfl⟩
  have ncc : H cc = none := (e0.bs cc _ (e0.mod.kin _ _ hcc)).2
  have CA : CellsAt NFm.cl ["__class__"] [some (V.ref C)] s.heap H := by
    refine ⟨rfl, fun y c e => ?_, fun x y c e1 e2 => ?_, fun i y e => ?_⟩
    · have z := PySem.mem_of_lookup e
      cases List.mem_singleton.mp z
      exact ⟨ncc, _, hcell⟩
    · have z1 := PySem.mem_of_lookup e1
      have z2 := PySem.mem_of_lookup e2
      cases List.mem_singleton.mp z1
      cases List.mem_singleton.mp z2
      rfl
    · cases i with
      | zero =>
        cases e
        exact ⟨cc, rfl, fun w e => by cases e; exact ⟨_, rfl, hcell⟩⟩
      | succ i => cases e
  have I : L2.Inv (ncx CX P w K mg base [("self" : Str), fld, "__class__"] NFm fI A outer s H E) [] (startF [("self" : Str), fld, "__class__"] [V.ref a, v] [some (V.ref C)]) H { s with heap := h₁, toks := s.toks + ([("self" : Str), fld].zip [Value.ref a, u1]).length } :=
    inv_startN T.sc hr.hd e0 rfl (.cons (show L2.RelV (.ref a) (.ref a) from rfl) (.cons rv .nil)) CA hns kp
  have kin1 : K.In h₁ := kin.keeps kp
  obtain ⟨nm, q, N, bs, bm, sn, sub, ab, col, dd, k0, k1, k2, k3, k5, hC, hbm⟩ := T.oex.cls
  have hcl : clsIn K C = some { name := nm, bases := bs, mro := .ref C :: bm, ns := N, qualname := q, hasDict := true, slotNames := sn, subclasses := sub, abstract := ab, collection := col, hasDel := false } := by unfold clsIn; rw [hC] <;> rfl
  have hself : ([("self" : Str), fld].zip [Value.ref a, u1]).reverse.lookup ("self" : Str) = some (.ref a) := by
    have nd : (["self", fld] : List Str).Nodup := by
      have q := T.sc.nd.sublist (List.take_sublist 2 _)
      exact q
    exact zip_look (i := 0) nd rfl rfl
  obtain ⟨t1, hx1⟩ := exo_at I.hok ea
  have gl1 := I.mod.glob.keeps I.bk
  obtain ⟨mb, hb1, hb2⟩ := I.mod.blt
  refine ks_wpAt_execs_cons (ks_wpAt_Expr_any (ks_wpAt_MethodCall (he := sup_eval _ hln) (ks_wpAt_super_base (f := fI) (cc := cda) (ar := { arg := "self", annotation := none, pos := p1 }) T.scs (T.sc.frk _ List.mem_cons_self) (by decide) rfl (kin1 _ _ hfI) rfl rfl rfl (kin1 _ _ hcda) rfl hfv hfile px.top ?_)))
  refine ks_loadName_global rfl T.scs (loadGlobal_builtin gl1 T.nsu (hb1.keeps I.bk) ((hb2 _ (by decide)).trans (by decide +kernel)) ⟨rfl, ?_⟩)
  refine wpAny_loadName_free rfl (T.sc.frk _ List.mem_cons_self) rfl ⟨_, kin1 _ _ hcc, rfl⟩ ?_
  refine wpAny_loadName_local rfl (T.sc.par _ List.mem_cons_self) hns hself ?_
  obtain ⟨oC, hoC, hdC⟩ : ∃ oC, h₁.get? C = some oC ∧ oC.data = .cls _ := ⟨_, kin1 _ _ hC, rfl⟩
  refine ks_wpAny_isType_cls hoC hdC ⟨rfl, ?_⟩
  refine ks_wpAny_call_super hoC hdC hx1 rfl (fun c z => by cases z) (looks_mroIn kin1 T.mro) (fun h2 so2 kp2 => ?_)
  have kin2 := kin1.keeps kp2
  have hx2 := kp2 _ _ hx1
  have IA : InstAt h2 a (PySem.HandSPX.excO C t1) C none := ⟨hx2, rfl, rfl, trivial⟩
  refine kxs_getMethod kxs_ValueError so2 (looks_opaque kin2 T.any) (l₀ := .ref C :: bm) (fun A Q E s k q => wpAny_bind ((looks_clsIn kin2 hcl) A _ E s k (wpAny_pure q))) rfl kin2 (by
    have z := T.sup
    unfold ks_superIn at z
    rw [hcl] at z
    exact z) (IA.type.andThen (looks_subIn kin2 T.sub)) (ks_ne kin2 IA hcl) (by decide) ?_
  have kp3 : ∀ b o, h₁.get? b = some o → (h2.push (kxs_mw "ValueError.__init__" a)).get? b = some o := fun b o e => Heap.get?_push_of_some _ (kp2 b o e)
  have I2 := I.kept (h' := h2.push (kxs_mw "ValueError.__init__" a)) (t' := s.toks + ([("self" : Str), fld].zip [Value.ref a, u1]).length + 1) kp3
  have sz : h₁.objs.size ≤ h2.objs.size := Nat.le_of_lt (Heap.lt_size so2)
  have I3 : L2.Inv (ncx CX P w K mg base [("self" : Str), fld, "__class__"] NFm fI A outer s H E) [(h2.objs.size, kxs_mw "ValueError.__init__" a)] (startF [("self" : Str), fld, "__class__"] [V.ref a, v] [some (V.ref C)]) H ⟨h2.push (kxs_mw "ValueError.__init__" a), s.gens, s.drawn, s.toks + ([("self" : Str), fld].zip [Value.ref a, u1]).length + 1, s.os⟩ := by
    refine I2.pins_of fun p hp => ?_
    cases List.mem_singleton.mp hp
    exact ⟨Heap.get?_push_size _ rfl, I.hok.fresh sz, fun z => absurd (Nat.lt_of_lt_of_le I.lt sz) (by rw [← z]; exact Nat.lt_irrefl _), I.nofs sz, fun v z => by cases z⟩
  refine kxs_callWith (i := "ValueError.__init__") (x := a) rfl (evalArgs_plain ?_)
  refine wpAny_mono ((pa_cons (X := ncx CX P w K mg base [("self" : Str), fld, "__class__"] NFm fI A outer s H E) (pe_str (x := msg) (j := k) (pos := q4)) pa_nil).run q5 _ _ _ H (fun vs H1 => vs = [.str msg] ∧ H1 = H) I3 ⟨rfl, rfl⟩) (fun us s1 h1 => ?_) fun e s' he => he
  obtain ⟨vs1, H1, I4, r1, rfl, rfl⟩ := h1
  obtain ⟨pin1, _⟩ := I4.pin _ (List.mem_append_right _ List.mem_cons_self)
  refine ⟨pin1, ?_⟩
  obtain ⟨t4, hx4⟩ := exo_at I4.hok ea
  have kin4 : K.In s1.heap := I4.kIn
  obtain ⟨hp4, g4, d4, tk4, os4⟩ := s1
  refine bw_call (kin4 _ _ hC) hx4 pin1 (by show us.length ≤ sizeLine; rw [← r1.length, sizeLine_eq]; exact (by decide : 1 ≤ 16777216)) fun h5 t5 k5 hx5 => ?_
  have J := I4.write (t' := tk4) (x := a) (e := a) (o := exo a C none) (by rw [ea]; exact True.intro) (.inl rfl) k5 ⟨_, hx5⟩ (exo_ok hx5)
  have eu : upd H1 a (exo a C none) = H1 := by
    funext b
    by_cases hb : b = a
    · rw [hb, upd_same, ea]
    · rw [upd_ne hb]
  rw [eu] at J
  have J0 := J.pins_of (pins' := []) fun p hp => absurd hp (by simp)
  have vis : ∀ x, x ∈ [("self" : Str), fld] → Vis (sS fld) x := fun x hx => .inl (T.sc.par x hx)
  refine wpAt_of_wpAny ?_
  refine wpAny_mono ((pss_one (ps_ost (X := ncx CX P w K mg base [("self" : Str), fld, "__class__"] NFm fI A outer s H1 E) (p' := q8) (pos := q10) (pe_var (i := 0) (pos := q7) rfl (vis _ List.mem_cons_self)) (pe_var (i := 1) (pos := q9) rfl (vis _ (List.mem_cons_of_mem _ List.mem_cons_self)) T.d1 T.d2))).run [] _ _ H1 { nx := fun _ H' => Q .non H', rt := Q } J0 ⟨_, rfl, _, rfl, a, C, rfl, T.oex, T.noN, .inl ⟨ea, fun dx n ne => hq dx n ne⟩⟩) (fun fl s' hs => ?_) fun e s' he => he
  have fin : ∀ {σ' : L2.St} {H' : Hp} {v' : V} {u : Value}, L2.Inv (ncx CX P w K mg base [("self" : Str), fld, "__class__"] NFm fI A outer s H1 E) [] σ' H' s' → L2.RelV v' u → Q v' H' → CE outer P w H1 s Q u s' :=
    fun {σ' H' v' u} J rv q => ⟨v', H', J.os, J.bare, J.base, J.hok, rv, q⟩
  cases fl with
  | ret u =>
    obtain ⟨v', σ', H', J, rv, q⟩ := hs
    exact fin J rv q
  | next =>
    obtain ⟨σ', H', J, q⟩ := hs
    exact fin (v' := V.non) (u := Value.none) J rfl q
  | brk => exact hs.elim fun _ z => z.elim fun _ z => False.elim z.2
  | cont => exact hs.elim fun _ z => z.elim fun _ z => False.elim z.2
end
/-- X(e) made, to be raised -/
def tMkS (C : Addr) (fld : Str) (ta : TA) : L2.St → Hp → XK → Prop := tMkO C (spSup C fld) [] ta
theorem pmk_sup {X : Cx} {P : Program} [px : PX P] (hp : X.prog = P) {C fI : Addr} {fd : FuncData} {qual fld x : Str} {e : Expr} {ta : TA} {p pos : Pos} (T : SupTxt X.K X.mg C fI fd qual fld) (hr : Room 2 X.A) (hg : Gl X x) (hm : X.mg x = some (.ref C)) (ha : PA X [e] ta)
    (hdb : (x == ("__debug__" : Str)) = false := by decide) (he : starEach [e] X.env = (false, eval e X.env) :: starEach [] X.env := by rfl) (hpl : (backTo pos (starEach [] X.env)).any (·.1) = false := by rfl) :
    PMk X (.Call (.Name x p) [e] [] pos) (tMkS C fld ta) := by
  subst hp
  exact pmk_oex (CX := CX0) (ds := []) (dvs := []) T.oex T.iC T.tI (sup_ok T) hr T.bnd .nil pass0 hg hm ha hdb he hpl
/-- what is left to show of it, its argument read -/
theorem x_mkS {C : Addr} {fld : Str} {v : V} {G : Hp} {Q : XK} (h : ∀ d, G d = none → Q (.ref C) (some d) (upd G d (.xd [(fld, v)]))) :
    [v].length ≤ 1000 ∧ ∀ a, G a = none → spSup C fld (.ref a :: ([v] ++ [])) (upd G a (exo a C none)) (fun u H2 => u = .non ∧ ∃ (d : Addr) (fs : List (Str × V)), H2 a = some (exo a C (some d)) ∧ H2 d = some (exd d fs) ∧ G d = none ∧ Q (.ref C) (some d) (upd (del H2 a) d (.xd fs))) (fun _ _ _ => False) := by
  refine ⟨Nat.le_of_ble_eq_true rfl, fun a na => ⟨a, v, rfl, upd_same, fun dx ndx ne => ⟨rfl, dx, [(fld, v)], upd_same, ?_, ?_, ?_⟩⟩⟩
  · rw [upd_ne ne, upd_same]
  · rwa [upd_ne ne] at ndx
  · have nd : G dx = none := by rwa [upd_ne ne] at ndx
    have e : upd (del (upd (upd (upd G a (exo a C none)) dx (exd dx [(fld, v)])) a (exo a C (some dx))) a) dx (.xd [(fld, v)]) = upd G dx (.xd [(fld, v)]) := by
      funext b
      by_cases h1 : b = dx
      · rw [h1, upd_same, upd_same]
      · rw [upd_ne h1, upd_ne h1]
        by_cases h2 : b = a
        · rw [h2, del_same, na]
        · rw [del_ne h2, upd_ne h2, upd_ne h1, upd_ne h2]
    rw [e]
    exact h dx nd
theorem x_tMkS {C : Addr} {fld : Str} {ta : TA} {τ : L2.St} {G : Hp} {Q : XK} (h : ta τ G fun vs H1 => vs.length ≤ 1000 ∧ ∀ a, H1 a = none → spSup C fld (.ref a :: (vs ++ [])) (upd H1 a (exo a C none))
    (fun v H2 => v = .non ∧ ∃ (d : Addr) (fs : List (Str × V)), H2 a = some (exo a C (some d)) ∧ H2 d = some (exd d fs) ∧ H1 d = none ∧ Q (.ref C) (some d) (upd (del H2 a) d (.xd fs))) (fun _ _ _ => False)) : tMkS C fld ta τ G Q := h
section
variable {X : Cx} {CX : CXT} {k : Nat} {f C : Addr} {fd : FuncData} {ps : List Str} {sp : Sp} {E : L2.St → XK} {m : Str} {p pos apos : Pos} {e o : Expr} {es : List Expr} {ta : TE} {t : TA}
/-- o.m(e, ..), what it may raise wished by the slots -/
def tMethX (C : Addr) (m : Str) (sp : Sp) (E : L2.St → XK) (ta : TE) (t : TA) : TE := fun τ G Q => ta τ G fun x G1 => ∃ a dx fs, x = .ref a ∧ G1 a = some (.ins C dx fs) ∧ fs.lookup m = none ∧ t τ G1 fun vs G2 => sp (x :: vs) G2 Q (E τ)
theorem pe_methX {pl : Sem Bool} (he : PE X o ta) (c : Cls X.K C) (hm : Meth X.K C m f) (F : FnOk X.prog X.w X.K X.mg X.base CX k f fd ps sp) (hr : Room k X.A) (hb : Binds X.K fd ps []) (hx : ∀ τ, PassesAt CX X τ (E τ)) (ha : PA X (e :: es) t)
    (hst : starEach (e :: es) X.env = (false, eval e X.env) :: starEach es X.env := by rfl) (hpl : (backTo pos (starEach es X.env)).any (·.1) = false := by rfl)
    (ht : eval (.Call (.Attribute o m apos) (e :: es) [] pos) X.env = (do
      let ov ← eval o X.env
      standAt apos.atName
      let (g, first) ← holding [ov] (getMethod ov m pl)
      callWith pos g first (backTo pos (starEach (e :: es) X.env)) (backToKw pos (keywordEach [] X.env))) := by rfl) :
    PE X (.Call (.Attribute o m apos) (e :: es) [] pos) (tMethX C m sp E ta t) := by
  refine ⟨fun pins s τ G Q I rd => PySem.W.methodCall_KW (pl := pl) (thn (he.run pins s τ G _ I rd) fun u s1 h1 => ?_) ht⟩
  obtain ⟨x, G1, I1, rx, a, dx, fs, rfl, ea, l, q⟩ := h1
  cases (show u = Value.ref a from rx)
  refine getmeth_ok I1 ea c hm l (PySem.W.callWith_K (first := [.ref a]) (h₀ := X.base) I.ok.mod.kin hm.kp (thn (ha.run pos pins s1 τ G1 _ I1 q) fun us s2 h2 => ?_) hst hpl)
  obtain ⟨vs, G2, I2, r, q2⟩ := h2
  exact ⟨I2.kIn, run_fnS (us := .ref a :: us) (vs := .ref a :: vs) F hr hb (hx τ) I2 (.cons rfl r) q2⟩
end
end SupX

/-! ### try with several clauses, each with or without a name -/
namespace L2
open PySem PySem.Spec PyProof.Rows
/-- the ends of a suite whose name's slot is emptied behind it -/
def Ends.gone (D : Ends) : Option Nat → Ends
  | none => D
  | some i => { nx := fun τ G => D.nx (τ.set i none) G, rt := D.rt, bk := fun τ G => D.bk (τ.set i none) G, ct := fun τ G => D.ct (τ.set i none) G }
def held (τ : St) (a : Addr) : Option Nat → St
  | none => τ
  | some i => τ.set i (some (.ref a))
structure MixC where
  cls : Value
  slot : Option Nat
  suite : Addr → Value → Option Addr → TS
def wMix (K : PySem.W.Frag) (Wout : WX) (D : Ends) : List MixC → WX
  | [] => Wout
  | m :: r => fun cv dv τ G => ∃ b, PySem.W.exmOne K cv m.cls = some b ∧ (b = true → ∀ a, G a = none → m.suite a cv dv (D.gone m.slot) (held τ a m.slot) G) ∧ (b = false → wMix K Wout D r cv dv τ G)
/-- a clause's name: none, or a local name in its slot -/
def NameAt (X : Cx) : Option Str → Option Nat → Prop
  | none, none => True
  | some n, some i => X.N[i]? = some n ∧ X.env.kindOf n = some .local
  | _, _ => False
inductive MixOk (X : Cx) : List ExceptHandler → List MixC → Prop
  | nil : MixOk X [] []
  | cons {x : Str} {m : MixC} {o : Option Str} {st₀ : Stmt} {sts : List Stmt} {p₁ p₂ : Pos} {hds : List ExceptHandler} {l : List MixC} (hc : Names X x m.cls) (hn : NameAt X o m.slot)
      (hs : ∀ (a : Addr) (ob : Obj) (cv : Value) (dv : Option Addr) (pn : List (Addr × Obj)), Zc cv dv ob → (∃ vs, ob.data = .fields vs) → PSs (X.suite a ((a, ob) :: pn)) (st₀ :: sts) (m.suite a cv dv)) (r : MixOk X hds l) :
      MixOk X (.ExceptHandler (some (.Name x p₁)) o (st₀ :: sts) p₂ :: hds) (m :: l)
section
variable {X : Cx} {body : List Stmt} {hd₀ : ExceptHandler} {hds : List ExceptHandler} {l : List MixC} {pos : Pos} {tb : WX → TS} {Wout : WX}
theorem ps_try_mix (hstk : X.stack = X.env :: X.outer) (hfr : X.env.frame = some X.env.locals) (nd : X.N.Nodup) (tk : Takes X Wout)
    (hb : ∀ (W : WX) (pn : List (Addr × Obj)) (xe : Value → Shared → Prop), Takes (X.tr pn xe) W → PassesOwn (model X.prog X.w) X.A X.env xe → PSs (X.tr pn xe) body (tb W))
    (hh : MixOk X (hd₀ :: hds) l) : PS X (.Try body (hd₀ :: hds) [] [] pos) (fun D τ G => tb (wMix X.K Wout D l) D τ G) := by
  refine ⟨fun pins s τ G D I rd => ?_⟩
  have okX := I.ok
  have framesX : X.A.frames = some (X.env :: X.outer) := okX.frames.trans (congrArg some hstk)
  refine wpAny_Try_except ?_
  let xe : Value → Shared → Prop := fun e s₁ => wpAny (model X.prog X.w) X.A (noteFrame e X.env) (fun _ s₂ =>
      wpAny (model X.prog X.w) X.A (setFlight e none) (fun _ s₃ =>
        wpAny (model X.prog X.w) X.A (handleBy e X.env (hd₀ :: hds)) (SP X pins D) X.xe s₃) X.xe s₂) X.xe s₁
  have tkB : Takes (X.tr (X.pn ++ pins) xe) (wMix X.K Wout D l) := by
    intro u s' caught
    obtain ⟨a, B, sI, pins', τ', G', cv, dv, rfl, J', nb, up, sky, na, os, ag, wsh⟩ := caught
    have J : Inv X pins τ' G' sI := J'.ofTry okX
    have skyX : Sky B (X.env :: X.outer) a (Zc cv dv) X.env.locals s'.heap := hstk ▸ sky
    show wpAny (model X.prog X.w) X.A (noteFrame (.ref a) X.env) _ _ _
    refine Sky.land Zc.steady framesX hfr skyX fun g3 fl3 up3 => ?_
    have J3 : Inv X pins τ' G' { s' with heap := g3 } := J.landed nb fl3.1 (up.trans up3) os ag
    obtain ⟨o3, vs3, e3, z3, d3⟩ := fl3.there
    have nfr : a ∉ frs (X.env :: X.outer) := fun m => by
      obtain ⟨_, o', e', hnf⟩ := fl3.2.2.1.mem m
      rw [e3] at e'
      cases e'
      exact hnf _ d3
    have nL : a ≠ X.env.locals := fun z => nfr (List.mem_filterMap.mpr ⟨X.env, List.mem_cons_self, hfr.trans (congrArg some z.symm)⟩)
    have nF : a ∉ X.fs := fun m => by
      obtain ⟨ev, hev, q⟩ := List.mem_filterMap.mp m
      exact nfr (List.mem_filterMap.mpr ⟨ev, List.mem_cons_of_mem _ hev, q⟩)
    have S3 := J3.suite e3 d3 na nL nF
    have go : ∀ {hs' : List ExceptHandler} {l' : List MixC}, MixOk X hs' l' → wMix X.K Wout D l' cv dv τ' G' →
        wpAny (model X.prog X.w) X.A (handleBy (.ref a) X.env hs') (SP X pins D) X.xe { s' with heap := g3 } := by
      intro hs' l' mo
      induction mo with
      | nil =>
        intro wsh
        refine wpAny_handleBy_nil ?_
        obtain ⟨_, _, _, oe, vs, T, oT, ts', he, hz, hdt, h1, hr⟩ := id fl3
        unfold PySem.passOn
        refine wpAny_bind (wpAny_field he hdt h1 ?_)
        rw [if_neg (show ¬ ((Value.ref T == Value.none) = true) from by simp)]
        have up_ : wpAny (model X.prog X.w) X.A (setFlight (.ref a) X.env.frame) (fun _ s4 =>
            wpAny (model X.prog X.w) X.A (throw (.ref a) : Sem Flow) (SP X pins D) X.xe s4) X.xe { s' with heap := g3 } := by
          rw [hfr]
          exact HandSPX.setFlight_upZ fl3 fun g4 hg4 up4 => wpAny_throw (tk _ _
            ⟨a, B, sI, pins, τ', G', cv, dv, rfl, J, nb, (up.trans up3).trans up4, .inr (.inr (hstk.symm ▸ hg4)), na, os, ag, wsh⟩)
        first
          | exact wpAny_bind (wpAny_pure (wpAny_bind up_))
          | exact wpAny_bind up_
      | @cons x m o st₀ sts p₁ p₂ hds2 l2 hc hn hsu r ih =>
        intro wsh
        obtain ⟨b, hb1, yes, no⟩ := wsh
        refine wpAny_handleBy_cons (codeAny_handlers_test ?_) (by intro q; cases q)
        have tyA : PySem.W.Looks (model X.prog X.w) g3 (typeOf (.ref a)) cv := fun A Q E s k q => wpAny_typeOf_ref (k _ _ e3) (by rw [z3.1]; exact q)
        have isA := PySem.W.exm_one (M := model X.prog X.w) (J3.kIn) tyA hb1
        have test : ∀ {Q E : Value → Shared → Prop}, Q m.cls { s' with heap := g3 } →
            wpAny (model X.prog X.w) (X.A.mark (some (.ref a))) (eval (.Name x p₁) X.env) Q E { s' with heap := g3 } := fun {Q E} q => by
          obtain ⟨hg, hdb, hm | ⟨hm, hv, hnn⟩⟩ := hc
          · exact ld_glob (X := X.suite a ((a, o3) :: (X.pn ++ pins))) S3 hg hm q hdb
          · exact ld_blt (X := X.suite a ((a, o3) :: (X.pn ++ pins))) S3 hg hm hv q hnn hdb
        refine test (isA.here ?_)
        cases b with
        | false =>
          show wpAny _ X.A (handleBy (.ref a) X.env hds2) _ _ _
          exact ih (no rfl)
        | true =>
          have rdS := yes rfl a na
          obtain ⟨mc, ms, mt⟩ := m
          cases o with
          | none =>
            cases ms with
            | some i => exact hn.elim
            | none =>
              refine codeAny_handlers_suite ?_
              refine HandSPX.lands_againZ fl3 fun g4 fl4 up4 => ?_
              have J4 : Inv X pins τ' G' { s' with heap := g4 } := J.landed nb fl4.1 ((up.trans up3).trans up4) os ag
              obtain ⟨o4, vs4, e4, z4, d4⟩ := fl4.there
              refine wpAny_mono ((hsu a o4 cv dv (X.pn ++ pins) z4 ⟨_, d4⟩).run [] _ _ G' _ (J4.suite e4 d4 na nL nF) rdS) (fun f s6 hsp => ?_) (fun _ _ z => False.elim z)
              cases f with
              | ret u => exact let ⟨v6, τ6, G6, S6, r6, q6⟩ := hsp; ⟨v6, τ6, G6, S6.unsuite okX, r6, q6⟩
              | next => exact let ⟨τ6, G6, S6, q6⟩ := hsp; ⟨τ6, G6, S6.unsuite okX, q6⟩
              | brk => exact let ⟨τ6, G6, S6, q6⟩ := hsp; ⟨τ6, G6, S6.unsuite okX, q6⟩
              | cont => exact let ⟨τ6, G6, S6, q6⟩ := hsp; ⟨τ6, G6, S6.unsuite okX, q6⟩
          | some n =>
            cases ms with
            | none => exact hn.elim
            | some i =>
              obtain ⟨hi, hln⟩ := hn
              refine codeAny_handlers_suite_as ?_
              refine HandSPX.lands_againZ fl3 fun g4 fl4 up4 => ?_
              have J4 : Inv X pins τ' G' { s' with heap := g4 } := J.landed nb fl4.1 ((up.trans up3).trans up4) os ag
              obtain ⟨o4, vs4, e4, z4, d4⟩ := fl4.there
              refine store_ok (X := X.suite a ((a, o4) :: (X.pn ++ pins))) (v := .ref a) (J4.suite e4 d4 na nL nF) nd hi (.inl hln) rfl (fun s5 S5 => ?_) (.inr hln)
              refine wpAny_mono ((hsu a o4 cv dv (X.pn ++ pins) z4 ⟨_, d4⟩).run [] s5 _ G' _ S5 rdS) (fun f s6 hsp => ?_) (fun _ _ z => False.elim z)
              have close : ∀ {τ6 : St} {G6 : Hp} {Q : Shared → Prop}, Inv (X.suite a ((a, o4) :: (X.pn ++ pins))) [] τ6 G6 s6 → (∀ s7, Inv X pins (τ6.set i none) G6 s7 → Q s7) →
                  wpAny (model X.prog X.w) X.A (do bindName X.env n .none; unbindBehindTheSuite X.env n p₂) (fun _ s7 => Q s7) X.xe s6 := fun {τ6 G6 Q} S6 hq =>
                gone_ok (S6.unsuite okX) nd hi hln hq
              cases f with
              | ret u => exact let ⟨v6, τ6, G6, S6, r6, q6⟩ := hsp; close S6 fun s7 J7 => ⟨_, _, _, J7, r6, q6⟩
              | next => exact let ⟨τ6, G6, S6, q6⟩ := hsp; close S6 fun s7 J7 => ⟨_, _, J7, q6⟩
              | brk => exact let ⟨τ6, G6, S6, q6⟩ := hsp; close S6 fun s7 J7 => ⟨_, _, J7, q6⟩
              | cont => exact let ⟨τ6, G6, S6, q6⟩ := hsp; close S6 fun s7 J7 => ⟨_, _, J7, q6⟩
    exact go hh wsh
  refine wpAny_mono ((hb (wMix X.K Wout D l) (X.pn ++ pins) xe tkB PassesOwn.looking).run [] s τ G D (I.toTry _) rd) (fun f s1 hsp => ?_) (fun e s1 he => he)
  cases f with
  | ret u => exact let ⟨v, τ', G', J', r, q⟩ := hsp; ⟨v, τ', G', J'.ofTry okX, r, q⟩
  | next => exact let ⟨τ', G', J', q⟩ := hsp; wpAny_execs_nil ⟨τ', G', J'.ofTry okX, q⟩
  | brk => exact let ⟨τ', G', J', q⟩ := hsp; ⟨τ', G', J'.ofTry okX, q⟩
  | cont => exact let ⟨τ', G', J', q⟩ := hsp; ⟨τ', G', J'.ofTry okX, q⟩
end
end L2

/-! ### tuples of the same items compared -/
namespace L2
open PySem PySem.Spec PyProof.Rows
def plainV : V → Bool
  | .non | .bl _ | .int _ | .str _ | .ref _ => true
  | _ => false
theorem eqAt_plain {A : Around} {s : Shared} {v : V} {u w : Value} (h : plainV v = true) (ru : RelV v u) (rw' : RelV v w) : SeqAt.EqAt A s u w true := by
  cases v with
  | non =>
    cases (show u = Value.none from ru)
    cases (show w = Value.none from rw')
    exact SeqAt.EqAt.same _
  | bl b =>
    cases (show u = Value.bool b from ru)
    cases (show w = Value.bool b from rw')
    exact SeqAt.EqAt.same _
  | ref a =>
    cases (show u = Value.ref a from ru)
    cases (show w = Value.ref a from rw')
    exact SeqAt.EqAt.same _
  | int i =>
    obtain ⟨t, rfl⟩ := (show ∃ t, u = Value.int i t from ru)
    obtain ⟨t', rfl⟩ := (show ∃ t, w = Value.int i t from rw')
    have := SeqAt.EqAt.int_int (A := A) (s := s) i t i t'
    rwa [beq_self_eq_true] at this
  | str x =>
    obtain ⟨t, rfl⟩ := (show ∃ t, u = Value.str x t from ru)
    obtain ⟨t', rfl⟩ := (show ∃ t, w = Value.str x t from rw')
    have := SeqAt.EqAt.str_str (A := A) (s := s) x t x t'
    rwa [beq_self_eq_true] at this
  | byt b => cases h
  | flt b => cases h
  | ty n => cases h
def rEqS (K : PySem.W.Frag) : R2 := fun x y H Q => ∃ a b xs, x = .ref a ∧ y = .ref b ∧ SqT K H a xs ∧ SqT K H b xs ∧ (∀ v ∈ xs, plainV v = true) ∧ Q (.bl true) H
def rNeS (K : PySem.W.Frag) : R2 := fun x y H Q => ∃ a b xs, x = .ref a ∧ y = .ref b ∧ SqT K H a xs ∧ SqT K H b xs ∧ (∀ v ∈ xs, plainV v = true) ∧ Q (.bl false) H
section
variable {X : Cx} {pins : List (Addr × Obj)} {σ : St} {H : Hp} {s : Shared}
theorem tup_same {a b : Addr} {xs : List V} (I : Inv X pins σ H s) (h1 : SqT X.K H a xs) (h2 : SqT X.K H b xs) (ok : ∀ v ∈ xs, plainV v = true) :
    ∃ us ws : List Value, s.heap.IsTuple a us.toArray ∧ s.heap.IsTuple b ws.toArray ∧ us.length = ws.length ∧ ∀ A j (g1 : j < us.toArray.size) (g2 : j < ws.toArray.size), SeqAt.EqAt A s us.toArray[j] ws.toArray[j] ((fun _ => true) j) := by
  obtain ⟨us, r1, ⟨o1, e1, c1, n1, d1⟩, _⟩ := I.tuple h1
  obtain ⟨ws, r2, ⟨o2, e2, c2, n2, d2⟩, _⟩ := I.tuple h2
  refine ⟨us, ws, ⟨o1, e1, c1, n1, d1⟩, ⟨o2, e2, c2, n2, d2⟩, r1.length.symm.trans r2.length, fun A j g1 g2 => ?_⟩
  have g1' : j < us.length := by simpa using g1
  have hj : j < xs.length := by rw [r1.length]; exact g1'
  obtain ⟨u, hu, ru⟩ := r1.get (List.getElem?_eq_getElem hj)
  obtain ⟨w, hw, rw'⟩ := r2.get (List.getElem?_eq_getElem hj)
  obtain ⟨_, eu⟩ := List.getElem?_eq_some_iff.mp hu
  obtain ⟨_, ew⟩ := List.getElem?_eq_some_iff.mp hw
  have e3 : us.toArray[j] = u := by simpa using eu
  have e4 : ws.toArray[j] = w := by simpa using ew
  rw [e3, e4]
  exact eqAt_plain (ok _ (List.getElem_mem hj)) ru rw'
theorem all_true {n m : Nat} (h : n = m) : ((List.range (min n m)).all (fun _ => true) && n == m) = true := by
  subst h
  simp
theorem op_eqS (hu : X.A.units < cLine) : OpR X (compareOp .Eq) (rEqS X.K) := by
  intro pins s σ H x y v u Q I rx ry h
  obtain ⟨a, b, xs, rfl, rfl, h1, h2, ok, q⟩ := h
  cases (show v = Value.ref a from rx)
  cases (show u = Value.ref b from ry)
  obtain ⟨us, ws, t1, t2, l, e⟩ := tup_same I h1 h2 ok
  refine SeqAt.RcAt.tuples t1 t2 hu (e := fun _ => true) (fun j g1 g2 => e _ j g1 g2) X.prog X.w _ _ ?_
  rw [all_true (by simpa using l)]
  exact ⟨.bl true, H, I, rfl, q⟩
theorem op_neS (hu : X.A.units < cLine) : OpR X (compareOp .NotEq) (rNeS X.K) := by
  intro pins s σ H x y v u Q I rx ry h
  obtain ⟨a, b, xs, rfl, rfl, h1, h2, ok, q⟩ := h
  cases (show v = Value.ref a from rx)
  cases (show u = Value.ref b from ry)
  obtain ⟨us, ws, t1, t2, l, e⟩ := tup_same I h1 h2 ok
  refine SeqAt.RcNeAt.tuples t1 t2 hu (e := fun _ => true) (fun j g1 g2 => e _ j g1 g2) X.prog X.w _ _ ?_
  rw [all_true (by simpa using l)]
  exact ⟨.bl false, H, I, rfl, q⟩
end
end L2
namespace M
open PySem PySem.Spec PyProof.Rows L2
theorem w_eqS {X : Cx} {K : PySem.W.Frag} (h : X.K = K) (hu : X.A.units < cLine) : OpR X (compareOp .Eq) (rEqS K) := by subst h; exact op_eqS hu
theorem w_neS {X : Cx} {K : PySem.W.Frag} (h : X.K = K) (hu : X.A.units < cLine) : OpR X (compareOp .NotEq) (rNeS K) := by subst h; exact op_neS hu
theorem x_tryMix {c : Value} {K : PySem.W.Frag} {D : Ends} {l : List MixC} {m : MixC} {Wout : WX} {cv : Value} {dv : Option Addr} {τ : L2.St} {G : Hp} (e : PySem.W.exmOne K cv m.cls = some true) (h : ∀ a, G a = none → m.suite a cv dv (D.gone m.slot) (held τ a m.slot) G) : wMix K Wout D (m :: l) cv dv τ G :=
  ⟨true, e, fun _ => h, fun z => nomatch z⟩
theorem x_tryMixN {K : PySem.W.Frag} {D : Ends} {l : List MixC} {m : MixC} {Wout : WX} {cv : Value} {dv : Option Addr} {τ : L2.St} {G : Hp} (e : PySem.W.exmOne K cv m.cls = some false) (h : wMix K Wout D l cv dv τ G) : wMix K Wout D (m :: l) cv dv τ G :=
  ⟨false, e, (fun z => nomatch z), fun _ => h⟩
theorem exm_pair {K : PySem.W.Frag} {x y : Addr} {b : Bool} (h1 : PySem.W.subIn K (.ref y) (.type "BaseException") = some true) (h2 : PySem.W.isClsIn K y = true) (h3 : PySem.W.typeIn K (.ref y) = some (.type "type")) (h4 : PySem.W.subIn K (.ref x) (.ref y) = some b) :
    PySem.W.exmOne K (.ref x) (.ref y) = some b := by
  unfold PySem.W.exmOne
  rw [h1]
  show PySem.W.kitCls K (.ref x) (.ref y) = some b
  unfold PySem.W.kitCls
  show (if ((PySem.W.clsIn K y).isSome && PySem.W.typeIn K (.ref y) == some (.type "type")) = true then _ else _) = _
  rw [h3]
  have : (PySem.W.clsIn K y).isSome = true := h2
  rw [this]
  exact h4
end M

set_option Elab.async false
set_option linter.all false
set_option maxRecDepth 100000
set_option maxHeartbeats 2000000
/-! repr of data at any depth; a def that is run where no repr is under way -/
namespace ReR
open PySem PySem.Spec PyProof.Rows L2
def SysIs (base : Heap) : Prop := ∃ mm, base.Ns sysModules mm
def kD : Key → PyData
  | .inl i => .int i
  | .inr x => .str x
mutual
/-- the data that stands at a value -/
inductive DpD (H : Hp) : V → PyData → Prop
  | non : DpD H .non .none
  | bl (b : Bool) : DpD H (.bl b) (.bool b)
  | int (i : Int) : DpD H (.int i) (.int i)
  | str (x : Str) : DpD H (.str x) (.str x)
  | lst {a : Addr} {xs : List V} {ds : List PyData} : H a = some (.lst xs) → DpDs H xs ds → DpD H (.ref a) (.list ds)
  | tup {a : Addr} {xs : List V} {ds : List PyData} : H a = some (.tup xs) → DpDs H xs ds → DpD H (.ref a) (.tuple ds)
  | dic {a : Addr} {kvs : List (Key × V)} {ds : List (PyData × PyData)} : Rd H a (.dK kvs) → DpDk H kvs ds → DpD H (.ref a) (.dict ds)
inductive DpDs (H : Hp) : List V → List PyData → Prop
  | nil : DpDs H [] []
  | cons {v : V} {vs : List V} {d : PyData} {ds : List PyData} : DpD H v d → DpDs H vs ds → DpDs H (v :: vs) (d :: ds)
inductive DpDk (H : Hp) : List (Key × V) → List (PyData × PyData) → Prop
  | nil : DpDk H [] []
  | cons {k : Key} {v : V} {r : List (Key × V)} {d : PyData} {ds : List (PyData × PyData)} : DpD H v d → DpDk H r ds → DpDk H ((k, v) :: r) ((kD k, d) :: ds)
end
section
variable {A B : Hp}
mutual
theorem DpD.mono (e : ∀ b o, A b = some o → B b = some o) : ∀ {v : V} {d : PyData}, DpD A v d → DpD B v d
  | _, _, .non => .non
  | _, _, .bl b => .bl b
  | _, _, .int i => .int i
  | _, _, .str x => .str x
  | _, _, .lst h r => .lst (e _ _ h) (r.mono e)
  | _, _, .tup h r => .tup (e _ _ h) (r.mono e)
  | _, _, .dic h r => .dic (h.elim (fun h => .inl (e _ _ h)) fun ⟨o, h⟩ => .inr ⟨o, e _ _ h⟩) (r.mono e)
theorem DpDs.mono (e : ∀ b o, A b = some o → B b = some o) : ∀ {v : List V} {d : List PyData}, DpDs A v d → DpDs B v d
  | _, _, .nil => .nil
  | _, _, .cons h r => .cons (h.mono e) (r.mono e)
theorem DpDk.mono (e : ∀ b o, A b = some o → B b = some o) : ∀ {v : List (Key × V)} {d : List (PyData × PyData)}, DpDk A v d → DpDk B v d
  | _, _, .nil => .nil
  | _, _, .cons h r => .cons (h.mono e) (r.mono e)
end
end
theorem readsAll_key {h : Heap} {k : Key} {u : Value} (e : keyIs k u = true) : Reads h u (kD k) [] := by
  rcases keyIs_shape e with ⟨i, t, rfl, rfl⟩ | ⟨x, t, rfl, rfl⟩
  · exact Reads.int i t
  · exact Reads.str x t
section
variable {X : Cx} {pins : List (Addr × Obj)} {σ : L2.St} {H : Hp} {s : Shared}
theorem no_sys (hb : SysIs X.base) (I : Inv X pins σ H s) {a : Addr} (h : H a ≠ none) : a ≠ sysModules := by
  obtain ⟨mm, o, es, ep, e, _⟩ := hb
  intro z
  rw [z] at h
  exact h (I.bs _ _ e).2
mutual
theorem DpD.reads (hb : SysIs X.base) (I : Inv X pins σ H s) : ∀ {v : V} {d : PyData} {u : Value}, DpD H v d → RelV v u → ∃ as, Reads s.heap u d as ∧ sysModules ∉ as
  | _, _, u, .non, r => by
    cases (show u = Value.none from r)
    exact ⟨_, .none, List.not_mem_nil⟩
  | _, _, u, .bl b, r => by
    cases (show u = Value.bool b from r)
    exact ⟨_, .bool b, List.not_mem_nil⟩
  | _, _, u, .int i, r => by
    obtain ⟨t, rfl⟩ := (show ∃ t, u = Value.int i t from r)
    exact ⟨_, .int i t, List.not_mem_nil⟩
  | _, _, u, .str x, r => by
    obtain ⟨t, rfl⟩ := (show ∃ t, u = Value.str x t from r)
    exact ⟨_, .str x t, List.not_mem_nil⟩
  | _, _, u, .lst (a := a) (xs := xs) e h, r => by
    cases (show u = Value.ref a from r)
    obtain ⟨z, its, n, rv, g⟩ : xs.length ≤ sizeLine ∧ ∃ (its : List Value) (n : Nat), Vals xs its ∧ s.heap.get? a = some { cls := .type "list", data := .seq its.toArray n } := I.hok _ _ e
    obtain ⟨as, q, ns⟩ := h.reads hb I rv
    have na := no_sys hb I (a := a) (by rw [e]; exact fun z => nomatch z)
    exact ⟨_, .list g rfl rfl (by simpa using q), fun m => (List.mem_cons.mp m).elim (fun z => na z.symm) ns⟩
  | _, _, u, .tup (a := a) (xs := xs) e h, r => by
    cases (show u = Value.ref a from r)
    obtain ⟨z, its, rv, o, g, hc, n, hd⟩ : xs.length ≤ sizeLine ∧ ∃ its : List Value, Vals xs its ∧ IsTup s.heap a its.toArray := I.hok _ _ e
    obtain ⟨as, q, ns⟩ := h.reads hb I rv
    exact ⟨_, .tuple g hc hd (by simpa using q), ns⟩
  | _, _, u, .dic (a := a) (kvs := kvs) e h, r => by
    cases (show u = Value.ref a from r)
    obtain ⟨z, hS, vs, rel, o, es, ep, g, hx, hd, hk, pr, nd⟩ := dk_rd I.hok e
    obtain ⟨as, bs, q1, q2, n1, n2⟩ := h.reads hb I rel pr
    exact ⟨_, .dict g hx.1 hd q1 q2, fun m => (List.mem_append.mp m).elim (fun m => (List.mem_cons.mp m).elim (fun z => (beq_eq_false_iff_ne.mp hS) z.symm) n1) n2⟩
theorem DpDs.reads (hb : SysIs X.base) (I : Inv X pins σ H s) : ∀ {v : List V} {d : List PyData} {u : List Value}, DpDs H v d → Vals v u → ∃ as, ReadsAll s.heap u d as ∧ sysModules ∉ as
  | _, _, _, .nil, r => by
    cases r
    exact ⟨_, .nil, List.not_mem_nil⟩
  | _, _, _, .cons h hs, r => by
    cases r with
    | cons r1 r2 =>
      obtain ⟨as, q1, n1⟩ := h.reads hb I r1
      obtain ⟨bs, q2, n2⟩ := hs.reads hb I r2
      exact ⟨_, .cons q1 q2, fun m => (List.mem_append.mp m).elim n1 n2⟩
theorem DpDk.reads (hb : SysIs X.base) (I : Inv X pins σ H s) : ∀ {v : List (Key × V)} {d : List (PyData × PyData)} {vs : List (Key × Value)} {es : List DictEntry}, DpDk H v d → KV v vs → Pairs (mixKind X.prog X.w) es vs →
    ∃ as bs, ReadsAll s.heap (es.map (·.key)) (d.map (·.1)) as ∧ ReadsAll s.heap (es.map (·.val)) (d.map (·.2)) bs ∧ sysModules ∉ as ∧ sysModules ∉ bs
  | _, _, _, _, .nil, r, p => by
    cases r
    cases p
    exact ⟨_, _, .nil, .nil, List.not_mem_nil, List.not_mem_nil⟩
  | _, _, _, _, .cons h hs, r, p => by
    cases r with
    | cons r1 r2 =>
      cases p with
      | cons p1 p2 p3 =>
        obtain ⟨k1, rv⟩ := r1
        obtain ⟨as, q1, n1⟩ := h.reads hb I rv
        obtain ⟨bs, cs, q2, q3, n2, n3⟩ := hs.reads hb I r2 p3
        rw [← p2] at q1
        rw [← k1] at p1
        exact ⟨_, _, .cons (readsAll_key p1) q2, .cons q1 q3, fun m => n2 (by simpa using m), fun m => (List.mem_append.mp m).elim n1 n3⟩
end
end
/-- data whose text is short -/
def okD (d : PyData) : Prop := d.showable = true ∧ d.depth ≤ 60 ∧ d.leavesShort 40 = true ∧ d.bulk ≤ 100000
theorem okD.len {d : PyData} (h : okD d) : d.shown.length ≤ sizeLine := by
  have q := PyData.shown_le_bulk 40 (by decide) d h.2.2.1
  have b := h.2.2.2
  have e := sizeLine_eq
  rw [e]
  omega
def rRepr : List V → Hp → VK → Prop := fun xs H Q => ∃ v d, xs = [v] ∧ DpD H v d ∧ okD d ∧ Q (.str d.shown) H
theorem cr_repr {X : Cx} (hg : X.A.guards = some []) (hu : X.A.units + 64 < cLine) (hb : SysIs X.base) : CallR X (.builtin "repr") rRepr := by
  intro pins s σ H xs us Q I r h
  obtain ⟨v, d, rfl, hd, ok, q⟩ := h
  obtain ⟨u, rfl, ru⟩ := vals1 r
  obtain ⟨as, rd, ns⟩ := hd.reads hb I ru
  have hl := ok.len
  cases rd with
  | none => exact PySem.P.repr_of_none ⟨.str _, H, I.tok _, ⟨_, rfl⟩, q⟩
  | bool b => exact PySem.P.repr_of_bool ⟨.str _, H, I.tok _, ⟨_, rfl⟩, q⟩
  | int i t => exact PySem.P.repr_of_int (by simpa [PyData.showable] using ok.1) ⟨.str _, H, I.tok _, ⟨_, rfl⟩, q⟩
  | str x t => exact PySem.P.repr_of_str ⟨.str _, H, I.tok _, ⟨_, rfl⟩, q⟩ (by simpa only [PyData.shown] using hl)
  | list h1 h2 h3 h4 => exact repr_of_reads' (.list h1 h2 h3 h4) ok.1 (fun _ => ns) hg (by have := ok.2.1; omega) (fun _ _ e => e) (fun h' u tk hk => ⟨.str _, H, I.kept hk, ⟨_, rfl⟩, q⟩) hl
  | tuple h1 h2 h3 h4 => exact repr_of_reads' (.tuple h1 h2 h3 h4) ok.1 (fun _ => ns) hg (by have := ok.2.1; omega) (fun _ _ e => e) (fun h' u tk hk => ⟨.str _, H, I.kept hk, ⟨_, rfl⟩, q⟩) hl
  | dict h1 h2 h3 h4 h5 => exact repr_of_reads' (.dict h1 h2 h3 h4 h5) ok.1 (fun _ => ns) hg (by have := ok.2.1; omega) (fun _ _ e => e) (fun h' u tk hk => ⟨.str _, H, I.kept hk, ⟨_, rfl⟩, q⟩) hl

/-! ### a def that is run where no repr is under way -/
structure FnG (P : Program) (w : World) (K : PySem.W.Frag) (mg : Str → Option Value) (base : Heap) (CX : CXT) (k : Nat) (f : Addr) (fd : FuncData) (ps : List Str) (sp : Sp) : Prop where
  len : ∀ vs H Q E, sp vs H Q E → vs.length = ps.length
  run : ∀ (A : Around) (outer : List Env) (s : Shared) (H : Hp) (args : Args) (us : List Value) (vs : List V) (Q : VK) (E : XK), Room k A → A.guards = some [] → Env0 P w K mg base A outer s H → BindsTo s fd args (ps.zip us) → Vals vs us → sp vs H Q E →
    codeAny (model P w) A (.call (.ref f) args) (CR CX outer P w H s Q E) s
section
variable {P : Program} {w : World} {K : PySem.W.Frag} {mg : Str → Option Value} {base : Heap}
theorem _root_.L2.Fun.okG {x qual : Str} {st : Stmt} {f : Addr} {fd : FuncData} {N ps : List Str} {k : Nat} {sp : Sp} (F : Fun K x qual st f fd) (S : FnScope N ps (defScope st)) (len : ∀ vs H Q E, sp vs H Q E → vs.length = ps.length)
    (hbody : ∀ (cdv : Value) (A : Around) (outer : List Env) (s : Shared) (H : Hp) (vs : List V) (Q : VK) (E : XK), Room k (A.deeper (envOfC qual (defScope st) s.heap.objs.size f cdv)) → (A.deeper (envOfC qual (defScope st) s.heap.objs.size f cdv)).guards = some [] → sp vs H Q E →
      ∃ t, PSs (cxOf CX0 P w K mg base N qual (defScope st) f cdv A outer s H E).nox (defBody st) t ∧ t { nx := fun _ H' => Q .non H', rt := Q } (start N vs) H) : FnG P w K mg base CX0 (k + 1) f fd ps sp := by
  obtain ⟨oc, od, kV, doc, pm, an, cdv, ct, osl, rfl, lk, hcd⟩ := F.ex
  refine ⟨len, fun A outer s H args us vs Q E hr hg e0 hb r hsp => ?_⟩
  have kept := fun b o e => (e0.bs b o e).1
  have KX : K.In s.heap := e0.mod.kin.keeps kept
  have free : s.heap.NoLimit := e0.mod.nolimit.keeps kept
  have there : ∀ y ∈ ps.zip us, (defScope st).names.lookup y.1 = some .local ∨ ((defScope st).names.lookup y.1 = some .cell ∧ ((cellsFrom (s.heap.objs.size + 1) (defScope st).names []).lookup y.1).isSome = true) := by
    intro y hy
    rcases S.par y.1 (List.of_mem_zip (a := y.1) (b := y.2) hy).1 with q | q
    · exact .inl q
    · exact .inr ⟨q, PySem.W.cellsFrom_some _ _ _ (.inl q)⟩
  refine codeAny_call_function hr.depth (KX _ _ lk) rfl S.co S.gen rfl (PySem.W.codeRec_of KX hcd) (hb _ _ _ _ ?_)
  refine wpAny_newFunctionEnv_cells S.kind there fun env he s1 x => ?_
  subst he
  refine ⟨free.keeps x.toInCall.keep, codeAny_func ?_⟩
  obtain ⟨t, ht, hq⟩ := hbody cdv A outer s H vs Q E (hr.deeper _) hg hsp
  refine wpAny_mono (ht.nox.run [] s1 (start N vs) H _ (inv_start S hr.hd e0 (len _ _ _ _ hsp) r x) hq) (fun fl s' hs => ?_) fun e s' hs => hs
  cases fl with
  | ret u =>
    obtain ⟨v, σ', H', J, rv, q⟩ := hs
    exact ⟨v, H', J.os, J.bare, J.base, J.hok, rv, q⟩
  | next =>
    obtain ⟨σ', H', J, q⟩ := hs
    exact ⟨V.non, H', J.os, J.bare, J.base, J.hok, rfl, q⟩
  | brk => exact False.elim hs.choose_spec.choose_spec.2
  | cont => exact False.elim hs.choose_spec.choose_spec.2
end
/-- the head: the law's promise at the state behind the top -/
theorem law_callG {P : Program} {w : World} {K : PySem.W.Frag} {mg mb : Str → Option Value} {CX : CXT} {k : Nat} {fa a : Addr} {fd : FuncData} {x : Str} {sp : Sp} {s₁ : Shared} {vs : List Value} {ns : List Int}
    (KX : K.In s₁.heap) (hns : s₁.heap.Ns mainGlobals mg) (hb : s₁.heap.Ns builtinsNs mb) (hbb : ∀ x : Str, x ≠ "__name__" → mb x = bootBuiltins x) (hlim : s₁.heap.NoLimit) (hsy : SysIs s₁.heap) (hg : s₁.gens = #[])
    (ha : s₁.heap.get? a = some { cls := .type "list", data := .seq vs.toArray }) (hi : IntsAre vs ns) (hl : ns.length ≤ sizeLine) (hr : Room k callerA)
    (F : ∀ base : Heap, K.In base → base.Ns mainGlobals mg → SysIs base → FnG P w K mg base CX k fa fd [x] sp) (hbind : ∀ (s : Shared) (u : Value), BindsTo s fd ⟨[u], []⟩ [(x, u)])
    (hsp : ∀ H : Hp, Only H → SqL K H a (ns.map V.int) → sp [.ref a] H (fun v _ => v = .bl true) fun _ _ _ => False)
    (hCX : ∀ H e s', CX [] H s₁ (fun _ _ _ => False) e s' → False) :
    codeAny (model P w) callerA (.call (.ref fa) ⟨[.ref a], []⟩) (fun r s' => r = .ok (.ret (.bool true)) ∧ OldK s₁.heap s'.heap ∧ s'.os = s₁.os ∧ AllBare s'.gens) s₁ := by
  have rv := vals_ints hi
  have lv := hi.length
  -- the start's abstract heap: the script alone, as it lies; nothing where it is an object of the module
  have pick : ∃ H : Hp, Only H ∧ SqL K H a (ns.map V.int) ∧ HOk P w H s₁.heap ∧ (∀ b, H b ≠ none → b = a) ∧ (H a ≠ none → K.lookup a = none) := by
    cases hk : K.lookup a with
    | some o =>
      have e := KX a o hk
      rw [ha] at e
      cases e
      exact ⟨fun _ => none, fun _ => .inl rfl, .inr ⟨_, vs.toArray, _, hk, rfl, rfl, rfl, by rw [List.size_toArray, lv]; exact hl, by simpa using rv⟩, (fun b u z => nomatch (show (none : Option HO) = some u from z)), fun b z => absurd rfl z, fun z => absurd rfl z⟩
    | none =>
      refine ⟨fun b => if b = a then some (.frz { cls := .type "list", data := .seq vs.toArray } (.lst (ns.map V.int))) else none, fun b => ?_, .inl (.inr ⟨_, if_pos rfl⟩), fun b u z => ?_, fun b z => ?_, fun _ => rfl⟩
      · by_cases c : b = a
        · exact .inr ⟨_, _, if_pos c⟩
        · exact .inl (if_neg c)
      · by_cases c : b = a
        · cases (if_pos c).symm.trans z
          rw [c]
          exact ⟨ha, by rw [List.length_map]; exact hl, vs, _, rv, ha⟩
        · cases (if_neg c).symm.trans z
      · exact Decidable.byContradiction fun c => z (if_neg c)
  obtain ⟨H, hO, hS, hok, one, notK⟩ := pick
  have clear : ∀ {b : Addr} {o : Obj}, s₁.heap.get? b = some o → b ≠ a → H b = none := fun {b o} _ n => Decidable.byContradiction fun z => n (one b z)
  have ns_ne : ∀ {b : Addr} {m : Str → Option Value}, s₁.heap.Ns b m → b ≠ a := fun {b m} ⟨o, es, ep, e, d, _⟩ z => by
    rw [z, ha] at e
    cases e
    cases (show Data.seq vs.toArray _ = Data.dict es ep from d)
  have nsK : ∀ {b : Addr} {m : Str → Option Value}, s₁.heap.Ns b m → (hidT s₁.heap H).Ns b m := fun {b m} n => by
    have ne := ns_ne n
    obtain ⟨o, es, ep, e, r⟩ := n
    exact ⟨o, es, ep, hidT_get e (clear e ne), r⟩
  have hKb : K.In (hidT s₁.heap H) := fun b o e => hidT_get (KX b o e) (Decidable.byContradiction fun z => by
    have := one b z
    subst this
    rw [notK z] at e
    cases e)
  obtain ⟨mc, c1, c2⟩ := hlim
  obtain ⟨mm, m1⟩ := hsy
  have hM : Mod K mg (hidT s₁.heap H) := ⟨hKb, nsK hns, ⟨mb, nsK hb, hbb⟩, mc, nsK c1, c2⟩
  have e0 : Env0 P w K mg (hidT s₁.heap H) callerA [] s₁ H := ⟨rfl, hM, fun b o e => of_hidT e, Nat.le_of_eq (hidT_size _ _), trivial, (fun b z => nomatch (show b ∈ ([] : List Addr) from z)), hok, .of_eq hg⟩
  refine codeAny_mono ((F _ hKb (nsK hns) ⟨mm, nsK m1⟩).run callerA [] s₁ H ⟨[.ref a], []⟩ [.ref a] [.ref a] _ _ hr rfl e0 (hbind s₁ (.ref a)) (.cons rfl .nil) (hsp H hO hS)) fun r s' h => ?_
  cases r with
  | error e => exact (hCX H e s' h).elim
  | ok fl =>
    cases fl with
    | next => exact False.elim h
    | brk => exact False.elim h
    | cont => exact False.elim h
    | ret u =>
      obtain ⟨v, H', os, bare, un, hok', r', q⟩ := h
      subst q
      obtain rfl : u = Value.bool true := r'
      refine ⟨rfl, OldK.of_keep fun b o e => ?_, os, bare⟩
      by_cases n : H b = none
      · exact un.keep b o e n (fun z => nomatch (show b ∈ ([] : List Addr) from z)) (by simp)
      · rcases hO b with z | ⟨ob, xs, z⟩
        · exact absurd z n
        · obtain ⟨e1, _⟩ := hok b _ z
          obtain ⟨e2, _⟩ := hok' b _ (un.frzs b ob _ z)
          rw [e] at e1
          cases e1
          exact e2
theorem walk_ofG {l : PySem.W.OpenLaw} {n k : Nat} {q : Program} {loose : List Str} {XP : (Str → Option Value) → Heap → Prop} {YP : World → Heap → Prop} {d : DefRec} {K : Params → PySem.W.Frag} {CX : World → CXT} {sp : World → Sp} {x : Str}
    (hn : l.most = some n) (hn2 : n ≤ sizeLine) (hdf : d.params.defaults = []) (hr : Room k callerA) (him : importsNone q = true)
    (hY : ∀ (w : World) (h : Heap), YP w h → (K w.params).In h)
    (F : ∀ (w : World) (mg : Str → Option Value) (fa : Addr) (h : Heap), (K w.params).In h → h.Ns mainGlobals mg → mg d.name = some (.ref fa) →
      ∃ fd : FuncData, (∀ (s : Shared) (u : Value), BindsTo s fd ⟨[u], []⟩ [(x, u)]) ∧
        ∀ base : Heap, (K w.params).In base → base.Ns mainGlobals mg → SysIs base → FnG l.prog w (K w.params) mg base (CX w) k fa fd [x] (sp w))
    (hsp : ∀ (w : World) (H : Hp) (a : Addr) (ns : List Int), ns.length ≤ n → Only H → SqL (K w.params) H a (ns.map V.int) → sp w [.ref a] H (fun v _ => v = .bl true) fun _ _ _ => False)
    (hCX : ∀ (w : World) (H : Hp) (s : Shared) (e : Value) (s' : Shared), CX w [] H s (fun _ _ _ => False) e s' → False) :
    PySem.W.WalkO q loose XP YP l.row.toRowW d [] (fun f vs => PySem.call f vs) := by
  refine Att.attach_call hn hdf fun w s₀ s₁ mg mb fa o pm cd doc a vs ns G Y ho hd hcd hmg hobj hints hlen hg => ?_
  obtain ⟨fd, hb, hF⟩ := F w mg fa _ (hY w _ Y) G.T.g hmg
  obtain ⟨mm, m1, _⟩ := (G.T.seer him).mods
  exact law_callG (hY w _ Y) G.T.g G.T.b G.T.builtins G.T.nolimit ⟨mm, m1⟩ hg hobj hints (Nat.le_trans hlen hn2) hr hF hb (fun H hO hS => hsp w H a ns hlen hO hS) fun H e s' => hCX w H s₁ e s'
end ReR

open PySem PySem.Spec PyProof.Rows L2 M
/-! one step of a reading that asks nothing -/
local macro_rules | `(tactic| walk_at "rd1") => `(tactic| first
  | with_reducible (refine x_seq ?_)
  | with_reducible (refine x_c ?_)
  | ((with_reducible refine' x_var ?h ?k); (case h => exact rfl))
  | with_reducible (refine x_op ?_)
  | with_reducible (refine x_I0 ?_)
  | with_reducible (refine x_asg ?_)
  | ((with_reducible refine' x_name ?h ?k); (case h => (first | (simp only [List.set_cons_zero, List.set_cons_succ]; rfl) | simp only [List.set_cons_zero, List.set_cons_succ] | rfl)))
  | with_reducible (refine x_ifS ?_)
  | with_reducible (refine x_test ?_)
  | with_reducible (refine x_bl ?_)
  | with_reducible (refine x_B ?_)
  | ((with_reducible refine x_eq ?h ?k); (case h => exact rfl))
  | ((with_reducible refine x_ne ?h ?k); (case h => exact rfl))
  | with_reducible (refine x_and ?_)
  | with_reducible (refine x_or ?_)
  | with_reducible (refine x_not ?_)
  | with_reducible (refine x_andV ?_)
  | with_reducible (refine x_orV ?_)
  | with_reducible (refine x_notV ?_)
  | with_reducible (refine x_if ?_)
  | with_reducible (refine x_chain ?_)
  | with_reducible (refine x_CB ?_)
  | with_reducible (refine x_cons ?_)
  | with_reducible (refine x_nil ?_)
  | with_reducible (refine x_tup ?_)
  | with_reducible (refine x_lst ?_)
  | with_reducible (refine x_call ?_)
  | with_reducible (refine x_ret ?_)
  | with_reducible (refine x_retN ?_)
  | with_reducible (refine x_drop ?_)
  | with_reducible (refine x_next ?_)
  | with_reducible (refine x_break ?_)
  | with_reducible (refine x_cont ?_)
  | with_reducible (refine x_sub ?_)
  | with_reducible (refine x_gnil ?_)
  | with_reducible (refine x_gcons ?_)
  | with_reducible (refine x_par ?_)
  | with_reducible (refine x_un ?_)
  | with_reducible (refine x_U ?_)
  | ((with_reducible refine' x_aug ?h ?k); (case h => exact rfl))
  | with_reducible (refine x_ipI ?_)
  | with_reducible (refine x_dput ?_)
  | with_reducible (refine x_dget ?_)
  | with_reducible (refine x_din ?_)
  | with_reducible (refine x_dnotin ?_)
  | with_reducible (refine x_bm ?_)
  | with_reducible (refine x_bm0 ?_)
  | with_reducible (refine x_sl ?_)
  | with_reducible (refine x_nopart ?_)
  | with_reducible (refine x_part ?_)
  | with_reducible (refine x_int ?_)
  | with_reducible (refine x_leS ?_)
  | with_reducible (refine x_isNo ?_)
  | with_reducible (refine x_notNo ?_)
  | with_reducible (refine x_min2 ?_)
  | with_reducible (refine x_max2 ?_)
  | with_reducible (refine x_abs ?_)
  | with_reducible (refine x_cint ?_)
  | with_reducible (refine x_cintB ?_)
  | with_reducible (refine x_par2 ?_)
  | with_reducible (refine x_for ?_)
  | with_reducible (refine x_iStr ?_)
  | with_reducible (refine x_str ?_)
  | with_reducible (refine x_iRng1 ?_)
  | with_reducible (refine x_iRng2 ?_)
  | with_reducible (refine x_iList ?_)
  | with_reducible (refine x_iTup ?_)
  | with_reducible (refine x_iKeys ?_)
  | with_reducible (refine x_iVals ?_)
  | with_reducible (refine x_iItems ?_)
  | (refine x_gtup (Or.inl (Or.inl upd_same)) rfl ?_)
  | with_reducible (refine x_lc ?_)
  | with_reducible (refine x_yes ?_)
  | with_reducible (refine x_sfld ?_)
  | with_reducible (refine x_fld ?_)
  | with_reducible (refine x_nt ?_)
  | with_reducible (refine x_nf ?_)
  | with_reducible (refine iteT ?_)
  | with_reducible (refine iteF ?_))
local macro_rules | `(tactic| walk_at "rd") => `(tactic| repeat (walk_at "rd1"))
local macro_rules | `(tactic| walk_at "if!") => `(tactic| first
  | refine x_true (by decide +kernel) ?_
  | refine x_false (by decide +kernel) ?_
  | refine x_true (by rfl) ?_
  | refine x_false (by rfl) ?_)

namespace M
open PySem PySem.Spec PyProof.Rows L2
def topS (i : Nat) : Stmt := PySem.Challenge.pw_ownshares_k05_rings_judged.main.body.getD i (.Pass ⟨0, 0, 0, 0⟩)
abbrev s_is_integer : Stmt := topS 2
abbrev N_is_integer : List Str := ["thing"]
abbrev P_is_integer : List Str := ["thing"]
theorem sc_is_integer : FnScope N_is_integer P_is_integer (defScope s_is_integer) := ⟨rfl, rfl, rfl, by decide +kernel, rfl, by decide +kernel, by decide +kernel⟩
abbrev s_is_name : Stmt := topS 3
abbrev N_is_name : List Str := ["thing", "char"]
abbrev P_is_name : List Str := ["thing"]
theorem sc_is_name : FnScope N_is_name P_is_name (defScope s_is_name) := ⟨rfl, rfl, rfl, by decide +kernel, rfl, by decide +kernel, by decide +kernel⟩
abbrev s_is_pair : Stmt := topS 5
abbrev N_is_pair : List Str := ["thing"]
abbrev P_is_pair : List Str := ["thing"]
theorem sc_is_pair : FnScope N_is_pair P_is_pair (defScope s_is_pair) := ⟨rfl, rfl, rfl, by decide +kernel, rfl, by decide +kernel, by decide +kernel⟩
abbrev s_is_moves : Stmt := topS 16
abbrev N_is_moves : List Str := ["thing", "names", "move", "to"]
abbrev P_is_moves : List Str := ["thing", "names"]
theorem sc_is_moves : FnScope N_is_moves P_is_moves (defScope s_is_moves) := ⟨rfl, rfl, rfl, by decide +kernel, rfl, by decide +kernel, by decide +kernel⟩
abbrev s_is_draws : Stmt := topS 17
abbrev N_is_draws : List Str := ["thing", "names", "draw", "pair"]
abbrev P_is_draws : List Str := ["thing", "names"]
theorem sc_is_draws : FnScope N_is_draws P_is_draws (defScope s_is_draws) := ⟨rfl, rfl, rfl, by decide +kernel, rfl, by decide +kernel, by decide +kernel⟩
abbrev s_is_stand : Stmt := topS 18
abbrev N_is_stand : List Str := ["thing", "hands", "names"]
abbrev P_is_stand : List Str := ["thing", "hands", "names"]
theorem sc_is_stand : FnScope N_is_stand P_is_stand (defScope s_is_stand) := ⟨rfl, rfl, rfl, by decide +kernel, rfl, by decide +kernel, by decide +kernel⟩
abbrev s_are_stands : Stmt := topS 19
abbrev N_are_stands : List Str := ["thing", "hands", "name", "stand"]
abbrev P_are_stands : List Str := ["thing", "hands"]
theorem sc_are_stands : FnScope N_are_stands P_are_stands (defScope s_are_stands) := ⟨rfl, rfl, rfl, by decide +kernel, rfl, by decide +kernel, by decide +kernel⟩
abbrev s_copied : Stmt := topS 20
abbrev N_copied : List Str := ["stand", "steps", "ordered", "step"]
abbrev P_copied : List Str := ["stand"]
theorem sc_copied : FnScope N_copied P_copied (defScope s_copied) := ⟨rfl, rfl, rfl, by decide +kernel, rfl, by decide +kernel, by decide +kernel⟩
abbrev s_leads : Stmt := topS 21
abbrev N_leads : List Str := ["work", "stand", "row", "step"]
abbrev P_leads : List Str := ["work", "stand"]
theorem sc_leads : FnScope N_leads P_leads (defScope s_leads) := ⟨rfl, rfl, rfl, by decide +kernel, rfl, by decide +kernel, by decide +kernel⟩
abbrev s_is_ringless : Stmt := topS 22
abbrev N_is_ringless : List Str := ["work", "left", "settled", "going", "rest", "name", "to"]
abbrev P_is_ringless : List Str := ["work"]
theorem sc_is_ringless : FnScope N_is_ringless P_is_ringless (defScope s_is_ringless) := ⟨rfl, rfl, rfl, by decide +kernel, rfl, by decide +kernel, by decide +kernel⟩
abbrev s_Work_init : Stmt := inClass (topS 23) 0
abbrev N_Work_init : List Str := ["self", "hands", "start", "stands", "name"]
abbrev P_Work_init : List Str := ["self", "hands", "start", "stands"]
theorem sc_Work_init : FnScope N_Work_init P_Work_init (defScope s_Work_init) := ⟨rfl, rfl, rfl, by decide +kernel, rfl, by decide +kernel, by decide +kernel⟩
abbrev s_Work_row : Stmt := inClass (topS 23) 3
abbrev N_Work_row : List Str := ["self", "stand"]
abbrev P_Work_row : List Str := ["self", "stand"]
theorem sc_Work_row : FnScope N_Work_row P_Work_row (defScope s_Work_row) := ⟨rfl, rfl, rfl, by decide +kernel, rfl, by decide +kernel, by decide +kernel⟩
abbrev s_Work_kind : Stmt := inClass (topS 23) 4
abbrev N_Work_kind : List Str := ["self", "stand"]
abbrev P_Work_kind : List Str := ["self", "stand"]
theorem sc_Work_kind : FnScope N_Work_kind P_Work_kind (defScope s_Work_kind) := ⟨rfl, rfl, rfl, by decide +kernel, rfl, by decide +kernel, by decide +kernel⟩
abbrev s_Work_steps : Stmt := inClass (topS 23) 6
abbrev N_Work_steps : List Str := ["self", "stand", "row"]
abbrev P_Work_steps : List Str := ["self", "stand"]
theorem sc_Work_steps : FnScope N_Work_steps P_Work_steps (defScope s_Work_steps) := ⟨rfl, rfl, rfl, by decide +kernel, rfl, by decide +kernel, by decide +kernel⟩
abbrev s_Work_to : Stmt := inClass (topS 23) 7
abbrev N_Work_to : List Str := ["self", "stand", "step", "row"]
abbrev P_Work_to : List Str := ["self", "stand", "step"]
theorem sc_Work_to : FnScope N_Work_to P_Work_to (defScope s_Work_to) := ⟨rfl, rfl, rfl, by decide +kernel, rfl, by decide +kernel, by decide +kernel⟩
abbrev s_law_pool : Stmt := topS 25
abbrev N_law_pool : List Str := ["script", "pool", "k", "number"]
abbrev P_law_pool : List Str := ["script"]
theorem sc_law_pool : FnScope N_law_pool P_law_pool (defScope s_law_pool) := ⟨rfl, rfl, rfl, by decide +kernel, rfl, by decide +kernel, by decide +kernel⟩
abbrev s_law_draw : Stmt := topS 26
abbrev N_law_draw : List Str := ["pool", "many", "found", "mixed"]
abbrev P_law_draw : List Str := ["pool", "many"]
theorem sc_law_draw : FnScope N_law_draw P_law_draw (defScope s_law_draw) := ⟨rfl, rfl, rfl, by decide +kernel, rfl, by decide +kernel, by decide +kernel⟩
abbrev s_law_word : Stmt := topS 27
abbrev N_law_word : List Str := ["pool", "longest", "letters", "signs", "word", "k"]
abbrev P_law_word : List Str := ["pool", "longest"]
theorem sc_law_word : FnScope N_law_word P_law_word (defScope s_law_word) := ⟨rfl, rfl, rfl, by decide +kernel, rfl, by decide +kernel, by decide +kernel⟩
abbrev s_law_words : Stmt := topS 28
abbrev N_law_words : List Str := ["pool", "many", "longest", "words", "k", "word", "j"]
abbrev P_law_words : List Str := ["pool", "many"]
theorem sc_law_words : FnScope N_law_words P_law_words (defScope s_law_words) := ⟨rfl, rfl, rfl, by decide +kernel, rfl, by decide +kernel, by decide +kernel⟩
abbrev s_law_stands : Stmt := topS 29
abbrev N_law_stands : List Str := ["pool", "names", "hands", "ringless", "words", "stands", "k", "low", "kind"]
abbrev P_law_stands : List Str := ["pool", "names", "hands", "ringless"]
theorem sc_law_stands : FnScope N_law_stands P_law_stands (defScope s_law_stands) := ⟨rfl, rfl, rfl, by decide +kernel, rfl, by decide +kernel, by decide +kernel⟩
abbrev s_law_stand : Stmt := topS 30
abbrev N_law_stand : List Str := ["pool", "names", "words", "hands", "kind", "many", "first", "hand", "steps", "k", "to"]
abbrev P_law_stand : List Str := ["pool", "names", "words", "hands", "kind"]
theorem sc_law_stand : FnScope N_law_stand P_law_stand (defScope s_law_stand) := ⟨rfl, rfl, rfl, by decide +kernel, rfl, by decide +kernel, by decide +kernel⟩
abbrev s_law_worths : Stmt := topS 31
abbrev N_law_worths : List Str := ["pool", "stands", "reach", "wanted", "name"]
abbrev P_law_worths : List Str := ["pool", "stands"]
theorem sc_law_worths : FnScope N_law_worths P_law_worths (defScope s_law_worths) := ⟨rfl, rfl, rfl, by decide +kernel, rfl, by decide +kernel, by decide +kernel⟩
abbrev s_law_endless : Stmt := topS 32
abbrev N_law_endless : List Str := ["pool", "wanted", "values", "name", "side", "gap"]
abbrev P_law_endless : List Str := ["pool", "wanted"]
theorem sc_law_endless : FnScope N_law_endless P_law_endless (defScope s_law_endless) := ⟨rfl, rfl, rfl, by decide +kernel, rfl, by decide +kernel, by decide +kernel⟩
abbrev s_law_world : Stmt := topS 33
abbrev N_law_world : List Str := ["pool", "most", "ringless", "hands", "plain", "names", "stands", "start", "wanted"]
abbrev P_law_world : List Str := ["pool", "most", "ringless"]
theorem sc_law_world : FnScope N_law_world P_law_world (defScope s_law_world) := ⟨rfl, rfl, rfl, by decide +kernel, rfl, by decide +kernel, by decide +kernel⟩
abbrev s_law_copy : Stmt := topS 34
abbrev N_law_copy : List Str := ["stands", "found", "name", "row"]
abbrev P_law_copy : List Str := ["stands"]
theorem sc_law_copy : FnScope N_law_copy P_law_copy (defScope s_law_copy) := ⟨rfl, rfl, rfl, by decide +kernel, rfl, by decide +kernel, by decide +kernel⟩
abbrev s_law_work : Stmt := topS 35
abbrev N_law_work : List Str := ["world"]
abbrev P_law_work : List Str := ["world"]
theorem sc_law_work : FnScope N_law_work P_law_work (defScope s_law_work) := ⟨rfl, rfl, rfl, by decide +kernel, rfl, by decide +kernel, by decide +kernel⟩
abbrev s_law_steps : Stmt := topS 36
abbrev N_law_steps : List Str := ["stands", "name", "row", "step"]
abbrev P_law_steps : List Str := ["stands", "name"]
theorem sc_law_steps : FnScope N_law_steps P_law_steps (defScope s_law_steps) := ⟨rfl, rfl, rfl, by decide +kernel, rfl, by decide +kernel, by decide +kernel⟩
abbrev s_is_row : Stmt := topS 4
abbrev N_is_row : List Str := ["thing"]
abbrev P_is_row : List Str := ["thing"]
theorem sc_is_row : FnScope N_is_row P_is_row (defScope s_is_row) := ⟨rfl, rfl, rfl, by decide +kernel, rfl, by decide +kernel, by decide +kernel⟩
abbrev s_passed : Stmt := topS 13
abbrev N_passed : List Str := ["work", "run", "at", "found", "index", "step"]
abbrev P_passed : List Str := ["work", "run"]
theorem sc_passed : FnScope N_passed P_passed (defScope s_passed) := ⟨rfl, rfl, rfl, by decide +kernel, rfl, by decide +kernel, by decide +kernel⟩
abbrev s_is_ring : Stmt := topS 14
abbrev N_is_ring : List Str := ["work", "thing", "stands"]
abbrev P_is_ring : List Str := ["work", "thing"]
theorem sc_is_ring : FnScope N_is_ring P_is_ring (defScope s_is_ring) := ⟨rfl, rfl, rfl, by decide +kernel, rfl, by decide +kernel, by decide +kernel⟩
abbrev s_law_run : Stmt := topS 37
abbrev N_law_run : List Str := ["pool", "stands", "start", "most", "at", "run", "k", "steps", "step"]
abbrev P_law_run : List Str := ["pool", "stands", "start", "most"]
theorem sc_law_run : FnScope N_law_run P_law_run (defScope s_law_run) := ⟨rfl, rfl, rfl, by decide +kernel, rfl, by decide +kernel, by decide +kernel⟩
abbrev s_law_passed : Stmt := topS 38
abbrev N_law_passed : List Str := ["stands", "start", "run", "at", "found", "step", "other", "to"]
abbrev P_law_passed : List Str := ["stands", "start", "run"]
theorem sc_law_passed : FnScope N_law_passed P_law_passed (defScope s_law_passed) := ⟨rfl, rfl, rfl, by decide +kernel, rfl, by decide +kernel, by decide +kernel⟩
abbrev s_law_thing : Stmt := topS 39
abbrev N_law_thing : List Str := ["pool", "things"]
abbrev P_law_thing : List Str := ["pool"]
theorem sc_law_thing : FnScope N_law_thing P_law_thing (defScope s_law_thing) := ⟨rfl, rfl, rfl, by decide +kernel, rfl, by decide +kernel, by decide +kernel⟩
abbrev s_law_bad_step : Stmt := topS 40
abbrev N_law_bad_step : List Str := ["stands", "start", "run", "at", "k", "there", "step", "to"]
abbrev P_law_bad_step : List Str := ["stands", "start", "run"]
theorem sc_law_bad_step : FnScope N_law_bad_step P_law_bad_step (defScope s_law_bad_step) := ⟨rfl, rfl, rfl, by decide +kernel, rfl, by decide +kernel, by decide +kernel⟩
abbrev s_law_spoiled_run : Stmt := topS 41
abbrev N_law_spoiled_run : List Str := ["pool", "run", "words", "found", "kind", "at", "thing"]
abbrev P_law_spoiled_run : List Str := ["pool", "run", "words"]
theorem sc_law_spoiled_run : FnScope N_law_spoiled_run P_law_spoiled_run (defScope s_law_spoiled_run) := ⟨rfl, rfl, rfl, by decide +kernel, rfl, by decide +kernel, by decide +kernel⟩
abbrev s_law_all_steps : Stmt := topS 42
abbrev N_law_all_steps : List Str := ["stands", "found", "name", "step", "to"]
abbrev P_law_all_steps : List Str := ["stands"]
theorem sc_law_all_steps : FnScope N_law_all_steps P_law_all_steps (defScope s_law_all_steps) := ⟨rfl, rfl, rfl, by decide +kernel, rfl, by decide +kernel, by decide +kernel⟩
abbrev s_law_row : Stmt := topS 43
abbrev N_law_row : List Str := ["pool", "items"]
abbrev P_law_row : List Str := ["pool", "items"]
theorem sc_law_row : FnScope N_law_row P_law_row (defScope s_law_row) := ⟨rfl, rfl, rfl, by decide +kernel, rfl, by decide +kernel, by decide +kernel⟩
abbrev s_law_cut : Stmt := topS 44
abbrev N_law_cut : List Str := ["pool", "trail", "pairs", "j", "i", "first"]
abbrev P_law_cut : List Str := ["pool", "trail"]
theorem sc_law_cut : FnScope N_law_cut P_law_cut (defScope s_law_cut) := ⟨rfl, rfl, rfl, by decide +kernel, rfl, by decide +kernel, by decide +kernel⟩
abbrev s_law_is_ring : Stmt := topS 45
abbrev N_law_is_ring : List Str := ["stands", "start", "thing", "run", "trail"]
abbrev P_law_is_ring : List Str := ["stands", "start", "thing"]
theorem sc_law_is_ring : FnScope N_law_is_ring P_law_is_ring (defScope s_law_is_ring) := ⟨rfl, rfl, rfl, by decide +kernel, rfl, by decide +kernel, by decide +kernel⟩
abbrev s_law : Stmt := topS 46
abbrev N_law : List Str := ["script", "pool", "spoil", "world", "stands", "run", "first", "last", "ahead", "behind", "thing", "before", "found"]
abbrev P_law : List Str := ["script"]
theorem sc_law : FnScope N_law P_law (defScope s_law) := ⟨rfl, rfl, rfl, by decide +kernel, rfl, by decide +kernel, by decide +kernel⟩
/-- what the top has written, as the walk asks it -/
structure Tx (K : PySem.W.Frag) (mg : Str → Option Value) where
  is_integer : FX K mg "is_integer" "is_integer" s_is_integer P_is_integer
  is_name : FX K mg "is_name" "is_name" s_is_name P_is_name
  is_pair : FX K mg "is_pair" "is_pair" s_is_pair P_is_pair
  is_moves : FX K mg "is_moves" "is_moves" s_is_moves P_is_moves
  is_draws : FX K mg "is_draws" "is_draws" s_is_draws P_is_draws
  is_stand : FX K mg "is_stand" "is_stand" s_is_stand P_is_stand
  are_stands : FX K mg "are_stands" "are_stands" s_are_stands P_are_stands
  copied : FX K mg "copied" "copied" s_copied P_copied
  leads : FX K mg "leads" "leads" s_leads P_leads
  is_ringless : FX K mg "is_ringless" "is_ringless" s_is_ringless P_is_ringless
  Work_init : MX K "__init__" "Work.__init__" s_Work_init P_Work_init
  Work_row : MX K "row" "Work.row" s_Work_row P_Work_row
  Work_kind : MX K "kind" "Work.kind" s_Work_kind P_Work_kind
  Work_steps : MX K "steps" "Work.steps" s_Work_steps P_Work_steps
  Work_to : MX K "to" "Work.to" s_Work_to P_Work_to
  law_pool : FX K mg "_law_pool" "_law_pool" s_law_pool P_law_pool
  law_draw : FX K mg "_law_draw" "_law_draw" s_law_draw P_law_draw
  law_word : FX K mg "_law_word" "_law_word" s_law_word P_law_word
  law_words : FX K mg "_law_words" "_law_words" s_law_words P_law_words
  law_stands : FX K mg "_law_stands" "_law_stands" s_law_stands P_law_stands
  law_stand : FX K mg "_law_stand" "_law_stand" s_law_stand P_law_stand
  law_worths : FX K mg "_law_worths" "_law_worths" s_law_worths P_law_worths
  law_endless : FX K mg "_law_endless" "_law_endless" s_law_endless P_law_endless
  law_world : FX K mg "_law_world" "_law_world" s_law_world P_law_world
  law_copy : FX K mg "_law_copy" "_law_copy" s_law_copy P_law_copy
  law_work : FX K mg "_law_work" "_law_work" s_law_work P_law_work
  law_steps : FX K mg "_law_steps" "_law_steps" s_law_steps P_law_steps
  is_row : FX K mg "is_row" "is_row" s_is_row P_is_row
  passed : FX K mg "passed" "passed" s_passed P_passed
  is_ring : FX K mg "is_ring" "is_ring" s_is_ring P_is_ring
  law_run : FX K mg "_law_run" "_law_run" s_law_run P_law_run
  law_passed : FX K mg "_law_passed" "_law_passed" s_law_passed P_law_passed
  law_thing : FX K mg "_law_thing" "_law_thing" s_law_thing P_law_thing
  law_bad_step : FX K mg "_law_bad_step" "_law_bad_step" s_law_bad_step P_law_bad_step
  law_spoiled_run : FX K mg "_law_spoiled_run" "_law_spoiled_run" s_law_spoiled_run P_law_spoiled_run
  law_all_steps : FX K mg "_law_all_steps" "_law_all_steps" s_law_all_steps P_law_all_steps
  law_row : FX K mg "_law_row" "_law_row" s_law_row P_law_row
  law_cut : FX K mg "_law_cut" "_law_cut" s_law_cut P_law_cut
  law_is_ring : FX K mg "_law_is_ring" "_law_is_ring" s_law_is_ring P_law_is_ring
  law : FX K mg "law" "law" s_law P_law
  b_all : mg "all" = none
  b_bool : mg "bool" = none
  b_dict : mg "dict" = none
  b_enumerate : mg "enumerate" = none
  b_int : mg "int" = none
  b_isinstance : mg "isinstance" = none
  b_len : mg "len" = none
  b_list : mg "list" = none
  b_max : mg "max" = none
  b_min : mg "min" = none
  b_range : mg "range" = none
  b_repr : mg "repr" = none
  b_sorted : mg "sorted" = none
  b_str : mg "str" = none
  b_tuple : mg "tuple" = none
  a_Work : Addr
  g_Work : mg "Work" = some (.ref a_Work)
  cl_Work : Cls K a_Work
  m_Work : Mk K a_Work Work_init.f
  n_Work_hands : NoAttr K a_Work "hands"
  n_Work_start : NoAttr K a_Work "start"
  n_Work_table : NoAttr K a_Work "table"
  n_Work_names : NoAttr K a_Work "names"
  n_Work_ends : NoAttr K a_Work "ends"
  n_Work_ringless : NoAttr K a_Work "ringless"
  me_Work_row : Meth K a_Work "row" Work_row.f
  me_Work_kind : Meth K a_Work "kind" Work_kind.f
  me_Work_steps : Meth K a_Work "steps" Work_steps.f
  me_Work_to : Meth K a_Work "to" Work_to.f
  c_BadRun : Addr
  i_BadRun : Addr
  d_BadRun : FuncData
  g_BadRun : mg "BadRun" = some (.ref c_BadRun)
  s_BadRun : SupX.SupTxt K mg c_BadRun i_BadRun d_BadRun "BadRun.__init__" "index"
  xp_BadRun_BadRun : PySem.W.exmOne K (.ref c_BadRun) (.ref c_BadRun) = some true
end M

namespace M
open PySem PySem.Spec PyProof.Rows L2
/-! ### names -/
def lowB (c : Nat) : Bool := decide (97 ≤ c) && decide (c ≤ 122)
def digB (c : Nat) : Bool := decide (48 ≤ c) && decide (c ≤ 57)
def nameL (l : List Nat) : Bool := decide (1 ≤ l.length) && decide (l.length ≤ 8) && lowB (l.getD 0 0) && l.all fun c => lowB c || digB c
def nameB (s : Str) : Bool := nameL s.cps.toList
theorem lt1 (a b : Nat) : decide (([a] : List Nat) < [b]) = decide (a < b) := by
  by_cases h : a < b
  · rw [decide_eq_true h, decide_eq_true]
    exact List.Lex.rel h
  · rw [decide_eq_false h, decide_eq_false]
    intro q
    cases q with
    | rel q => exact h q
    | cons q => cases q
section
variable {P : Program} {w : World} {K : PySem.W.Frag} {mg : Str → Option Value} {base : Heap}
def sp_is_integer (T : Tx K mg) : Sp := fun vs H Q _ => ∃ i, vs = [.int i] ∧ Q (.bl true) H
theorem ok_is_integer (T : Tx K mg) : FnOk P w K mg base CX0 1 T.is_integer.f T.is_integer.fd P_is_integer (sp_is_integer T) := by
  refine T.is_integer.F.ok sc_is_integer (fun vs H Q E h => ?_) (fun cdv A outer s H vs Q E hr h => ?_)
  · obtain ⟨i, rfl, k⟩ := h
    rfl
  have hu := hu_of hr
  have nd := sc_is_integer.nd
  obtain ⟨i, rfl, k⟩ := h
  refine ⟨_, (pss_one (ps_ret (pe_and (pe_callB (w_isi (K := K) rfl) (by rfl) T.b_isinstance (by decide +kernel) (pa_cons (pv 0) (pa_cons (pe_bltn (v := .ty "int") (by rfl) T.b_int (by decide +kernel) rfl) pa_nil))) (pe_one (pe_not (pe_callB (w_isi (K := K) rfl) (by rfl) T.b_isinstance (by decide +kernel) (pa_cons (pv 0) (pa_cons (pe_bltn (v := .ty "bool") (by rfl) T.b_bool (by decide +kernel) rfl) pa_nil)))))))), ?_⟩
  refine x_start (σ' := [some _]) rfl ?_
  try simp only [cx_n, cx_K, cx_w, cx_P]
  walk_at "rd"
  refine x_isiT (.base (.int i)) (by decide +kernel) ?_
  walk_at "rd"
  refine x_isiF (.base (.int i)) (by decide +kernel) ?_
  walk_at "rd"
  exact k
def sp_is_name (T : Tx K mg) : Sp := fun vs H Q _ => ∃ s, vs = [.str s] ∧ s.length ≤ 10000 ∧ Q (.bl (nameB s)) H
theorem nameB_len {s : Str} (h : ¬ (1 ≤ s.length ∧ s.length ≤ 8)) : nameB s = false := by
  unfold nameB nameL
  have e : s.cps.toList.length = s.length := by simp [Str.length]
  rw [e]
  by_cases h1 : 1 ≤ s.length
  · have h2 : ¬ s.length ≤ 8 := fun q => h ⟨h1, q⟩
    simp [h2]
  · simp [h1]
theorem nameB_low {s : Str} (h : lowB (s.cps.toList.getD 0 0) = false) : nameB s = false := by
  unfold nameB nameL
  rw [h]
  simp
theorem nameB_all {s : Str} {c : Nat} (hc : c ∈ s.cps.toList) (h : (lowB c || digB c) = false) : nameB s = false := by
  unfold nameB nameL
  have : (s.cps.toList.all fun c => lowB c || digB c) = false := by
    rw [List.all_eq_false]
    exact ⟨c, hc, by simpa using h⟩
  rw [this]
  simp
theorem nameB_yes {s : Str} (h1 : 1 ≤ s.length ∧ s.length ≤ 8) (h2 : lowB (s.cps.toList.getD 0 0) = true) (h3 : ∀ c ∈ s.cps.toList, (lowB c || digB c) = true) : nameB s = true := by
  unfold nameB nameL
  have e : s.cps.toList.length = s.length := by simp [Str.length]
  rw [e, h2, List.all_eq_true.mpr h3]
  simp [h1.1, h1.2]
theorem sz10 {n : Nat} (h : n ≤ 10000) : n ≤ sizeLine := Nat.le_trans h (by decide)
/-- 'a' <= c, c <= 'z' and the like -/
theorem le_lit (a c : Nat) : (!decide ((⟨#[c]⟩ : Str).cps.toList < (⟨#[a]⟩ : Str).cps.toList)) = decide (a ≤ c) := by
  show (!decide (([c] : List Nat) < [a])) = decide (a ≤ c)
  rw [lt1]
  by_cases h : a ≤ c
  · rw [decide_eq_true h, decide_eq_false (by omega)]
    rfl
  · rw [decide_eq_false h, decide_eq_true (by omega)]
    rfl
theorem lit_a : ("a" : Str) = ⟨#[97]⟩ := by decide +kernel
theorem lit_z : ("z" : Str) = ⟨#[122]⟩ := by decide +kernel
theorem lit_0 : ("0" : Str) = ⟨#[48]⟩ := by decide +kernel
theorem lit_9 : ("9" : Str) = ⟨#[57]⟩ := by decide +kernel
theorem ok_is_name (T : Tx K mg) : FnOk P w K mg base CX0 1 T.is_name.f T.is_name.fd P_is_name (sp_is_name T) := by
  refine T.is_name.F.ok sc_is_name (fun vs H Q E h => ?_) (fun cdv A outer s H vs Q E hr h => ?_)
  · obtain ⟨s, rfl, hs, k⟩ := h
    rfl
  have hu := hu_of hr
  have nd := sc_is_name.nd
  obtain ⟨s, rfl, hs, k⟩ := h
  refine ⟨_, (pss_cons (ps_if (PW.pt (pw_or (pt_not (pt_val (pe_callB (w_isi (K := K) rfl) (by rfl) T.b_isinstance (by decide +kernel) (pa_cons (pv 0) (pa_cons (pe_bltn (v := .ty "str") (by rfl) T.b_str (by decide +kernel) rfl) pa_nil))))) (pw_or1 (pt_not (pt_chain op_le op_le pe_int (pe_callB (w_len (K := K) rfl) (by rfl) T.b_len (by decide +kernel) (pa_cons (pv 0) pa_nil)) pe_int))))) (pss_one (ps_ret pe_bl)) pss_nil)
      (pss_cons (ps_if (pt_not (pt_chain op_leS op_leS pe_str (pe_ix ix_str (pv 0) pe_int (fun _ _ => rfl)) pe_str)) (pss_one (ps_ret pe_bl)) pss_nil)
      (pss_cons (ps_for PassesOwn.never rfl (pi_str (pv 0)) (pg_name (i := 1) nd rfl (Or.inl rfl)) (pss_one (ps_if (PW.pt (pw_and (pt_not (pt_chain op_leS op_leS pe_str (pv 1) pe_str)) (pw_and1 (pt_not (pt_chain op_leS op_leS pe_str (pv 1) pe_str))))) (pss_one (ps_ret pe_bl)) pss_nil)))
      (pss_one (ps_ret pe_bl))))), ?_⟩
  refine x_start (σ' := [some _, none]) rfl ?_
  try simp only [cx_n, cx_K, cx_w, cx_P]
  simp only [lit_a, lit_z, lit_0, lit_9]
  walk_at "rd"
  refine x_isiT (.base (.str s)) (by decide +kernel) ?_
  walk_at "rd"
  refine x_lenS' (sz10 hs) ?_
  walk_at "rd"
  have es : s.cps.toList.length = s.length := by simp [Str.length]
  have kf : nameB s = false → Q (.bl false) H := fun e => by
    rw [e] at k
    exact k
  refine x_cases (fun h1 => ?_) (fun h1 => ?_)
  rotate_left
  · walk_at "rd"
    exact kf (nameB_len fun q => by simp at h1; omega)
  walk_at "rd"
  refine x_cases (fun h2 => ?_) (fun h2 => ?_)
  · walk_at "rd"
    exact kf (nameB_len fun q => by simp at h2; omega)
  walk_at "rd"
  have hlen : 1 ≤ s.length ∧ s.length ≤ 8 := by simp at h1 h2; omega
  obtain ⟨c0, hc0⟩ : ∃ c, s.cps.toList[0]? = some c := ⟨s.cps.toList[0]'(by omega), by simp⟩
  have hd0 : s.cps.toList.getD 0 0 = c0 := by rw [List.getD_eq_getElem?_getD, hc0]; rfl
  refine x_ixS (sz10 hs) (atI_nat (j := 0) hc0) ?_
  walk_at "rd"
  rw [le_lit]
  refine x_cases (fun h3 => ?_) (fun h3 => ?_)
  rotate_left
  · walk_at "rd"
    exact kf (nameB_low (by rw [hd0]; unfold lowB; rw [h3]; rfl))
  walk_at "rd"
  rw [le_lit]
  refine x_cases (fun h4 => ?_) (fun h4 => ?_)
  · walk_at "rd"
    exact kf (nameB_low (by rw [hd0]; unfold lowB; simp at h4; simp [h4]))
  walk_at "rd"
  have hlow : lowB (s.cps.toList.getD 0 0) = true := by
    rw [hd0]
    unfold lowB
    simp at h3 h4
    simp [h3, h4]
  refine for_it walk_str (fun i σ H' => H' = H ∧ ∃ c, σ = [some (.str s), c] ∧ ∀ j, j < i → ∀ c, s.cps.toList[j]? = some c → (lowB c || digB c) = true) ⟨rfl, _, rfl, fun j hj => absurd hj (Nat.not_lt_zero _)⟩ (fun _ _ _ _ _ => trivial) ?_ ?_
  · rintro i x σ H0 H1 hi ⟨rfl, cc, rfl, hj⟩ ⟨rfl, c, hc, rfl⟩
    walk_at "rd"
    rw [le_lit]
    have mem : c ∈ s.cps.toList := by
      rw [Array.mem_toList_iff]
      exact Array.mem_of_getElem? hc
    have next : (lowB c || digB c) = true → ∀ j, j < i + 1 → ∀ c, s.cps.toList[j]? = some c → (lowB c || digB c) = true := fun h j hj' d hd => by
      by_cases e : j = i
      · subst e
        have : some c = some d := by rw [← hc, ← hd]; simp
        cases this
        exact h
      · exact hj j (by omega) d hd
    refine x_cases (fun h5 => ?_) (fun h5 => ?_)
    · walk_at "rd"
      rw [le_lit]
      refine x_cases (fun h6 => ?_) (fun h6 => ?_)
      · walk_at "rd"
        rw [le_lit]
        refine x_cases (fun h7 => ?_) (fun h7 => ?_)
        · walk_at "rd"
          rw [le_lit]
          refine x_cases (fun h8 => ?_) (fun h8 => ?_)
          · walk_at "rd"
            exact kf (nameB_all mem (by simp at h5 h6 h7 h8; simp [lowB, digB]; omega))
          · walk_at "rd"
            exact ⟨rfl, _, rfl, next (by simp at h5 h6 h7 h8; simp [lowB, digB]; omega)⟩
        · walk_at "rd"
          exact kf (nameB_all mem (by simp at h5 h6 h7; simp [lowB, digB]; omega))
      · walk_at "rd"
        exact ⟨rfl, _, rfl, next (by simp at h5 h6; simp [lowB, digB]; omega)⟩
    · walk_at "rd"
      rw [le_lit]
      refine x_cases (fun h7 => ?_) (fun h7 => ?_)
      · walk_at "rd"
        rw [le_lit]
        refine x_cases (fun h8 => ?_) (fun h8 => ?_)
        · walk_at "rd"
          exact kf (nameB_all mem (by simp at h5 h7 h8; simp [lowB, digB]; omega))
        · walk_at "rd"
          exact ⟨rfl, _, rfl, next (by simp at h5 h7 h8; simp [lowB, digB]; omega)⟩
      · walk_at "rd"
        exact kf (nameB_all mem (by simp at h5 h7; simp [lowB, digB]; omega))
  · rintro σ H1 ⟨rfl, c, rfl, hj⟩
    walk_at "rd"
    have e : nameB s = true := nameB_yes hlen hlow fun c hc => by
      obtain ⟨j, hj'⟩ := List.getElem?_of_mem hc
      refine hj j ?_ c hj'
      have := (List.getElem?_eq_some_iff.mp hj').1
      simpa using this
    rw [e] at k
    exact k
end
end M

namespace M
open PySem PySem.Spec PyProof.Rows L2
/-- a stand that is right, of so many hands, all steps to names -/
def StandOk (hands : Int) (names : List Str) : Stand → Prop
  | .fin => True
  | .hand h ms => 0 ≤ h ∧ h < hands ∧ 1 ≤ ms.length ∧ ms.length ≤ 4 ∧ (ms.map (·.1)).Nodup ∧ ∀ p ∈ ms, nameB p.1 = true ∧ nameB p.2 = true ∧ p.2 ∈ names
  | .chance ds => 1 ≤ ds.length ∧ ds.length ≤ 4 ∧ (ds.map (·.1)).Nodup ∧ ∀ p ∈ ds, nameB p.1 = true ∧ nameB p.2.1 = true ∧ p.2.1 ∈ names ∧ 1 ≤ p.2.2 ∧ p.2.2 ≤ 9
theorem nameB_size {s : Str} (h : nameB s = true) : s.length ≤ 10000 := by
  by_cases q : 1 ≤ s.length ∧ s.length ≤ 8
  · omega
  · rw [nameB_len q] at h
    cases h
section
variable {P : Program} {w : World} {K : PySem.W.Frag} {mg : Str → Option Value} {base : Heap}
def sp_is_pair (T : Tx K mg) : Sp := fun vs H Q _ => ∃ a xs, vs = [.ref a] ∧ SqT K H a xs ∧ Q (.bl (decide (xs.length = 2))) H
theorem ok_is_pair (T : Tx K mg) : FnOk P w K mg base CX0 1 T.is_pair.f T.is_pair.fd P_is_pair (sp_is_pair T) := by
  refine T.is_pair.F.ok sc_is_pair (fun vs H Q E h => ?_) (fun cdv A outer s H vs Q E hr h => ?_)
  · obtain ⟨a, xs, rfl, hx, k⟩ := h
    rfl
  have hu := hu_of hr
  have nd := sc_is_pair.nd
  obtain ⟨a, xs, rfl, hx, k⟩ := h
  refine ⟨_, (pss_one (ps_ret (pe_and (pe_callB (w_isi (K := K) rfl) (by rfl) T.b_isinstance (by decide +kernel) (pa_cons (pv 0) (pa_cons (pe_bltn (v := .ty "tuple") (by rfl) T.b_tuple (by decide +kernel) rfl) pa_nil))) (pe_one (pe_cmpR op_eq (pe_callB (w_len (K := K) rfl) (by rfl) T.b_len (by decide +kernel) (pa_cons (pv 0) pa_nil)) pe_int (nomark _)))))), ?_⟩
  refine x_start (σ' := [some _]) rfl ?_
  try simp only [cx_n, cx_K, cx_w, cx_P]
  walk_at "rd"
  refine x_isiT (ty_tup hx) (by decide +kernel) ?_
  walk_at "rd"
  refine x_lenT' hx ?_
  walk_at "rd"
  have e : decide (V.int (xs.length : Int) = V.int 2) = decide (xs.length = 2) := by
    by_cases h : xs.length = 2
    · rw [decide_eq_true h, decide_eq_true]
      rw [h]
      rfl
    · rw [decide_eq_false h, decide_eq_false]
      intro q
      injection q with q
      omega
  rw [e]
  exact k
def sp_is_moves (T : Tx K mg) : Sp := fun vs H Q _ => ∃ v u ms names, vs = [v, u] ∧ rD rS H v ms ∧ rK H u names ∧ 1 ≤ ms.length ∧ ms.length ≤ 4 ∧
  (∀ p ∈ ms, nameB p.1 = true ∧ nameB p.2 = true ∧ p.2 ∈ names) ∧ ∀ H', SX [] H H' → Q (.bl true) H'
theorem ok_is_moves (T : Tx K mg) : FnOk P w K mg base CX0 2 T.is_moves.f T.is_moves.fd P_is_moves (sp_is_moves T) := by
  refine T.is_moves.F.ok sc_is_moves (fun vs H Q E h => ?_) (fun cdv A outer s H vs Q E hr h => ?_)
  · obtain ⟨v, u, ms, names, rfl, ⟨d, kvs, hv, hd, hk⟩, ⟨e, kvs2, hu2, he, hn⟩, h1, h4, hall, k⟩ := h
    rfl
  have hu := hu_of hr
  have nd := sc_is_moves.nd
  obtain ⟨v, u, ms, names, rfl, ⟨d, kvs, hv, hd, hk⟩, ⟨e, kvs2, hu2, he, hn⟩, h1, h4, hall, k⟩ := h
  refine ⟨_, (pss_cons (ps_if (PW.pt (pw_or (pt_not (pt_val (pe_callB (w_isi (K := K) rfl) (by rfl) T.b_isinstance (by decide +kernel) (pa_cons (pv 0) (pa_cons (pe_bltn (v := .ty "dict") (by rfl) T.b_dict (by decide +kernel) rfl) pa_nil))))) (pw_or1 (pt_not (pt_chain op_le op_le pe_int (pe_callB cl_lenD (by rfl) T.b_len (by decide +kernel) (pa_cons (pv 0) pa_nil)) pe_int))))) (pss_one (ps_ret pe_bl)) pss_nil)
      (pss_cons (ps_lockR (ps_for PassesOwn.never rfl (pi_items (pv 0)) (w_pgtup (K := K) (n := 2) rfl (by rfl) (pgs_cons (pg_name (i := 2) nd rfl (Or.inl rfl)) (pgs_cons (pg_name (i := 3) nd rfl (Or.inl rfl)) pgs_nil)) (by rfl) (by rfl)) (pss_one (ps_if (PW.pt (pw_or (pt_not (pt_val (pe_call (ok_is_name (P := P) T) (hr.mono (by decide)) (by rfl) T.is_name.g T.is_name.F.kp T.is_name.B .nil pass0 (pa_cons (pv 2) pa_nil)))) (pw_or (pt_not (pt_val (pe_call (ok_is_name (P := P) T) (hr.mono (by decide)) (by rfl) T.is_name.g T.is_name.F.kp T.is_name.B .nil pass0 (pa_cons (pv 3) pa_nil)))) (pw_or1 (pt_cmp (pc_dnotin hu (pv 3) (pv 1))))))) (pss_one (ps_ret pe_bl)) pss_nil))))
      (pss_one (ps_ret pe_bl)))), ?_⟩
  refine x_start (σ' := [some _, some _, none, none]) rfl ?_
  try simp only [cx_n, cx_K, cx_w, cx_P]
  subst hv hu2
  walk_at "rd"
  refine x_isiT (ty_dict hd) (by decide +kernel) ?_
  walk_at "rd"
  have hl : kvs.length = ms.length := Paired.length hk
  refine x_lenD hd ?_
  walk_at "rd"
  rw [hl]
  refine x_true (decide_eq_true (by omega)) ?_
  walk_at "rd"
  rw [decide_eq_true (show (ms.length : Int) ≤ 4 by omega)]
  walk_at "rd"
  refine x_lockR hd fun od HL eL ne => ?_
  walk_at "rd"
  refine x_iti eL ?_
  have leL : Le H HL := lock_le hd eL ne
  refine for_it (walk_itemsR (KVs.le mono_S leL hk)) (fun i σ H' => SX [] HL H' ∧ ∃ a b, σ = [some (.ref d), some (.ref e), a, b]) ⟨SX.refl _, _, _, rfl⟩ (fun _ _ _ _ h => h.1 _ _ List.not_mem_nil eL) ?_ ?_
  · rintro i x σ H0 H1 hi ⟨sx, a, b, rfl⟩ ⟨T1, p, v, hp, rfl, rfl, hT, rfl⟩
    obtain ⟨n1, n2, n3⟩ := hall p (getMem hp)
    walk_at "rd"
    refine ⟨_, rfl, nameB_size n1, ?_⟩
    rw [n1]
    walk_at "rd"
    refine ⟨_, rfl, nameB_size n2, ?_⟩
    rw [n2]
    walk_at "rd"
    have sx1 : SX [] HL (upd H0 T1 (.tup [.str p.1, .str p.2])) := sx.trans (SX.new hT)
    refine x_dni' (sx1.rd (Rd.le leL he)) ?_
    rw [keys_val hn, decide_eq_true n3]
    walk_at "rd"
    exact ⟨sx1, _, _, rfl⟩
  · rintro σ H1 ⟨sx, a, b, rfl⟩
    refine ⟨sx _ _ List.not_mem_nil eL, ?_⟩
    walk_at "rd"
    exact k _ (unlock_sx ne sx)
def sp_is_draws (T : Tx K mg) : Sp := fun vs H Q _ => ∃ v u ds names, vs = [v, u] ∧ rD (rP K rS rI) H v ds ∧ rK H u names ∧ 1 ≤ ds.length ∧ ds.length ≤ 4 ∧
  (∀ p ∈ ds, nameB p.1 = true ∧ nameB p.2.1 = true ∧ p.2.1 ∈ names ∧ 1 ≤ p.2.2 ∧ p.2.2 ≤ 9) ∧ ∀ H', SX [] H H' → Q (.bl true) H'
theorem ok_is_draws (T : Tx K mg) : FnOk P w K mg base CX0 2 T.is_draws.f T.is_draws.fd P_is_draws (sp_is_draws T) := by
  refine T.is_draws.F.ok sc_is_draws (fun vs H Q E h => ?_) (fun cdv A outer s H vs Q E hr h => ?_)
  · obtain ⟨v, u, ds, names, rfl, ⟨d, kvs, hv, hd, hk⟩, ⟨e, kvs2, hu2, he, hn⟩, h1, h4, hall, k⟩ := h
    rfl
  have hu := hu_of hr
  have nd := sc_is_draws.nd
  obtain ⟨v, u, ds, names, rfl, ⟨d, kvs, hv, hd, hk⟩, ⟨e, kvs2, hu2, he, hn⟩, h1, h4, hall, k⟩ := h
  refine ⟨_, (pss_cons (ps_if (PW.pt (pw_or (pt_not (pt_val (pe_callB (w_isi (K := K) rfl) (by rfl) T.b_isinstance (by decide +kernel) (pa_cons (pv 0) (pa_cons (pe_bltn (v := .ty "dict") (by rfl) T.b_dict (by decide +kernel) rfl) pa_nil))))) (pw_or1 (pt_not (pt_chain op_le op_le pe_int (pe_callB cl_lenD (by rfl) T.b_len (by decide +kernel) (pa_cons (pv 0) pa_nil)) pe_int))))) (pss_one (ps_ret pe_bl)) pss_nil)
      (pss_cons (ps_lockR (ps_for PassesOwn.never rfl (pi_items (pv 0)) (w_pgtup (K := K) (n := 2) rfl (by rfl) (pgs_cons (pg_name (i := 2) nd rfl (Or.inl rfl)) (pgs_cons (pg_name (i := 3) nd rfl (Or.inl rfl)) pgs_nil)) (by rfl) (by rfl)) (pss_cons (ps_if (PW.pt (pw_or (pt_not (pt_val (pe_call (ok_is_name (P := P) T) (hr.mono (by decide)) (by rfl) T.is_name.g T.is_name.F.kp T.is_name.B .nil pass0 (pa_cons (pv 2) pa_nil)))) (pw_or1 (pt_not (pt_val (pe_call (ok_is_pair (P := P) T) (hr.mono (by decide)) (by rfl) T.is_pair.g T.is_pair.F.kp T.is_pair.B .nil pass0 (pa_cons (pv 3) pa_nil))))))) (pss_one (ps_ret pe_bl)) pss_nil)
      (pss_cons (ps_if (PW.pt (pw_or (pt_not (pt_val (pe_call (ok_is_name (P := P) T) (hr.mono (by decide)) (by rfl) T.is_name.g T.is_name.F.kp T.is_name.B .nil pass0 (pa_cons (pe_ix (w_ixT (K := K) rfl) (pv 3) pe_int (fun _ _ => rfl)) pa_nil)))) (pw_or1 (pt_cmp (pc_dnotin hu (pe_ix (w_ixT (K := K) rfl) (pv 3) pe_int (fun _ _ => rfl)) (pv 1)))))) (pss_one (ps_ret pe_bl)) pss_nil)
      (pss_one (ps_if (PW.pt (pw_or (pt_not (pt_val (pe_call (ok_is_integer (P := P) T) (hr.mono (by decide)) (by rfl) T.is_integer.g T.is_integer.F.kp T.is_integer.B .nil pass0 (pa_cons (pe_ix (w_ixT (K := K) rfl) (pv 3) pe_int (fun _ _ => rfl)) pa_nil)))) (pw_or1 (pt_not (pt_chain op_le op_le pe_int (pe_ix (w_ixT (K := K) rfl) (pv 3) pe_int (fun _ _ => rfl)) pe_int))))) (pss_one (ps_ret pe_bl)) pss_nil))))))
      (pss_one (ps_ret pe_bl)))), ?_⟩
  refine x_start (σ' := [some _, some _, none, none]) rfl ?_
  try simp only [cx_n, cx_K, cx_w, cx_P]
  subst hv hu2
  walk_at "rd"
  refine x_isiT (ty_dict hd) (by decide +kernel) ?_
  walk_at "rd"
  have hl : kvs.length = ds.length := Paired.length hk
  refine x_lenD hd ?_
  walk_at "rd"
  rw [hl]
  refine x_true (decide_eq_true (by omega)) ?_
  walk_at "rd"
  rw [decide_eq_true (show (ds.length : Int) ≤ 4 by omega)]
  walk_at "rd"
  refine x_lockR hd fun od HL eL ne => ?_
  walk_at "rd"
  refine x_iti eL ?_
  have leL : Le H HL := lock_le hd eL ne
  refine for_it (walk_itemsR (KVs.le (mono_P mono_S mono_I) leL hk)) (fun i σ H' => SX [] HL H' ∧ ∃ a b, σ = [some (.ref d), some (.ref e), a, b]) ⟨SX.refl _, _, _, rfl⟩ (fun _ _ _ _ h => h.1 _ _ List.not_mem_nil eL) ?_ ?_
  · rintro i x σ H0 H1 hi ⟨sx, a, b, rfl⟩ ⟨T1, p, v, hp, ⟨t, x1, x2, rfl, ht, rfl, rfl⟩, rfl, hT, rfl⟩
    obtain ⟨n1, n2, n3, n4, n5⟩ := hall p (getMem hp)
    have sx1 : SX [] HL (upd H0 T1 (.tup [.str p.1, .ref t])) := sx.trans (SX.new hT)
    have ht1 := sx1.le0.t ht
    walk_at "rd"
    refine ⟨_, rfl, nameB_size n1, ?_⟩
    rw [n1]
    walk_at "rd"
    refine ⟨_, _, rfl, ht1, ?_⟩
    walk_at "rd"
    walk_at "if!"
    walk_at "rd"
    refine x_ixT ht1 (atI_nat (j := 0) rfl) ?_
    walk_at "rd"
    refine ⟨_, rfl, nameB_size n2, ?_⟩
    rw [n2]
    walk_at "rd"
    refine x_ixT ht1 (atI_nat (j := 0) rfl) ?_
    walk_at "rd"
    refine x_dni' (sx1.rd (Rd.le leL he)) ?_
    rw [keys_val hn, decide_eq_true n3]
    walk_at "rd"
    refine x_ixT ht1 (atI_nat (j := 1) rfl) ?_
    walk_at "rd"
    refine ⟨_, rfl, ?_⟩
    walk_at "rd"
    refine x_ixT ht1 (atI_nat (j := 1) rfl) ?_
    walk_at "rd"
    refine x_true (decide_eq_true n4) ?_
    walk_at "rd"
    rw [decide_eq_true n5]
    walk_at "rd"
    exact ⟨sx1, _, _, rfl⟩
  · rintro σ H1 ⟨sx, a, b, rfl⟩
    refine ⟨sx _ _ List.not_mem_nil eL, ?_⟩
    walk_at "rd"
    exact k _ (unlock_sx ne sx)
def sp_is_stand (T : Tx K mg) : Sp := fun vs H Q _ => ∃ v u n st names, vs = [v, .int n, u] ∧ rStand K H v st ∧ rK H u names ∧ StandOk n names st ∧ ∀ H', SX [] H H' → Q (.bl true) H'
theorem ok_is_stand (T : Tx K mg) : FnOk P w K mg base CX0 3 T.is_stand.f T.is_stand.fd P_is_stand (sp_is_stand T) := by
  refine T.is_stand.F.ok sc_is_stand (fun vs H Q E h => ?_) (fun cdv A outer s H vs Q E hr h => ?_)
  · obtain ⟨v, u, n, st, names, rfl, hst, hu2, hok, k⟩ := h
    rfl
  have hu := hu_of hr
  have nd := sc_is_stand.nd
  obtain ⟨v, u, n, st, names, rfl, hst, hu2, hok, k⟩ := h
  refine ⟨_, (pss_cons (ps_if (PW.pt (pw_or (pt_not (pt_val (pe_callB (w_isi (K := K) rfl) (by rfl) T.b_isinstance (by decide +kernel) (pa_cons (pv 0) (pa_cons (pe_bltn (v := .ty "tuple") (by rfl) T.b_tuple (by decide +kernel) rfl) pa_nil))))) (pw_or (pt_cmpR op_eq (pe_callB (w_len (K := K) rfl) (by rfl) T.b_len (by decide +kernel) (pa_cons (pv 0) pa_nil)) pe_int (nomark _)) (pw_or1 (pt_not (pt_val (pe_callB (w_isi (K := K) rfl) (by rfl) T.b_isinstance (by decide +kernel) (pa_cons (pe_ix (w_ixT (K := K) rfl) (pv 0) pe_int (fun _ _ => rfl)) (pa_cons (pe_bltn (v := .ty "str") (by rfl) T.b_str (by decide +kernel) rfl) pa_nil))))))))) (pss_one (ps_ret pe_bl)) pss_nil)
      (pss_cons (ps_if (pt_cmpR op_eq (pe_ix (w_ixT (K := K) rfl) (pv 0) pe_int (fun _ _ => rfl)) pe_str (nomark _)) (pss_one (ps_ret (pe_cmpR op_eq (pe_callB (w_len (K := K) rfl) (by rfl) T.b_len (by decide +kernel) (pa_cons (pv 0) pa_nil)) pe_int (nomark _)))) pss_nil)
      (pss_cons (ps_if (pt_cmpR op_eq (pe_ix (w_ixT (K := K) rfl) (pv 0) pe_int (fun _ _ => rfl)) pe_str (nomark _)) (pss_one (ps_ret (pe_and (pe_cmpR op_eq (pe_callB (w_len (K := K) rfl) (by rfl) T.b_len (by decide +kernel) (pa_cons (pv 0) pa_nil)) pe_int (nomark _)) (pe_one (pe_call (ok_is_draws (P := P) T) (hr.mono (by decide)) (by rfl) T.is_draws.g T.is_draws.F.kp T.is_draws.B .nil pass0 (pa_cons (pe_ix (w_ixT (K := K) rfl) (pv 0) pe_int (fun _ _ => rfl)) (pa_cons (pv 2) pa_nil))))))) pss_nil)
      (pss_cons (ps_if (PW.pt (pw_or (pt_cmpR op_ne (pe_ix (w_ixT (K := K) rfl) (pv 0) pe_int (fun _ _ => rfl)) pe_str (nomark _)) (pw_or1 (pt_cmpR op_ne (pe_callB (w_len (K := K) rfl) (by rfl) T.b_len (by decide +kernel) (pa_cons (pv 0) pa_nil)) pe_int (nomark _))))) (pss_one (ps_ret pe_bl)) pss_nil)
      (pss_cons (ps_if (PW.pt (pw_or (pt_not (pt_val (pe_call (ok_is_integer (P := P) T) (hr.mono (by decide)) (by rfl) T.is_integer.g T.is_integer.F.kp T.is_integer.B .nil pass0 (pa_cons (pe_ix (w_ixT (K := K) rfl) (pv 0) pe_int (fun _ _ => rfl)) pa_nil)))) (pw_or1 (pt_not (pt_chain op_le op_lt pe_int (pe_ix (w_ixT (K := K) rfl) (pv 0) pe_int (fun _ _ => rfl)) (pv 1)))))) (pss_one (ps_ret pe_bl)) pss_nil)
      (pss_one (ps_ret (pe_call (ok_is_moves (P := P) T) (hr.mono (by decide)) (by rfl) T.is_moves.g T.is_moves.F.kp T.is_moves.B .nil pass0 (pa_cons (pe_ix (w_ixT (K := K) rfl) (pv 0) pe_int (fun _ _ => rfl)) (pa_cons (pv 2) pa_nil)))))))))), ?_⟩
  refine x_start (σ' := [some _, some _, some _]) rfl ?_
  try simp only [cx_n, cx_K, cx_w, cx_P]
  cases st with
  | fin =>
    obtain ⟨p, rfl, hp⟩ := hst
    walk_at "rd"
    refine x_isiT (ty_tup hp) (by decide +kernel) ?_
    walk_at "rd"
    refine x_lenT' hp ?_
    walk_at "rd"
    walk_at "if!"
    walk_at "rd"
    refine x_ixT hp (atI_nat (j := 0) rfl) ?_
    walk_at "rd"
    refine x_isiT (.base (.str _)) (by decide +kernel) ?_
    walk_at "rd"
    refine x_ixT hp (atI_nat (j := 0) rfl) ?_
    walk_at "rd"
    walk_at "if!"
    walk_at "rd"
    refine x_lenT' hp ?_
    walk_at "rd"
    exact k H (SX.refl H)
  | chance ds =>
    obtain ⟨p, d, rfl, hp, hd⟩ := hst
    obtain ⟨h1, h4, hnd, hall⟩ := hok
    walk_at "rd"
    refine x_isiT (ty_tup hp) (by decide +kernel) ?_
    walk_at "rd"
    refine x_lenT' hp ?_
    walk_at "rd"
    walk_at "if!"
    walk_at "rd"
    refine x_ixT hp (atI_nat (j := 0) rfl) ?_
    walk_at "rd"
    refine x_isiT (.base (.str _)) (by decide +kernel) ?_
    walk_at "rd"
    refine x_ixT hp (atI_nat (j := 0) rfl) ?_
    walk_at "rd"
    walk_at "if!"
    walk_at "rd"
    refine x_ixT hp (atI_nat (j := 0) rfl) ?_
    walk_at "rd"
    walk_at "if!"
    walk_at "rd"
    refine x_lenT' hp ?_
    walk_at "rd"
    walk_at "if!"
    walk_at "rd"
    refine x_ixT hp (atI_nat (j := 1) rfl) ?_
    walk_at "rd"
    exact ⟨_, _, ds, names, rfl, hd, hu2, h1, h4, hall, k⟩
  | hand h ms =>
    obtain ⟨p, d, rfl, hp, hd⟩ := hst
    obtain ⟨hh0, hh1, h1, h4, hnd, hall⟩ := hok
    walk_at "rd"
    refine x_isiT (ty_tup hp) (by decide +kernel) ?_
    walk_at "rd"
    refine x_lenT' hp ?_
    walk_at "rd"
    walk_at "if!"
    walk_at "rd"
    refine x_ixT hp (atI_nat (j := 0) rfl) ?_
    walk_at "rd"
    refine x_isiT (.base (.str _)) (by decide +kernel) ?_
    walk_at "rd"
    refine x_ixT hp (atI_nat (j := 0) rfl) ?_
    walk_at "rd"
    walk_at "if!"
    walk_at "rd"
    refine x_ixT hp (atI_nat (j := 0) rfl) ?_
    walk_at "rd"
    walk_at "if!"
    walk_at "rd"
    refine x_ixT hp (atI_nat (j := 0) rfl) ?_
    walk_at "rd"
    walk_at "if!"
    walk_at "rd"
    refine x_lenT' hp ?_
    walk_at "rd"
    walk_at "if!"
    walk_at "rd"
    refine x_ixT hp (atI_nat (j := 1) rfl) ?_
    walk_at "rd"
    refine ⟨_, rfl, ?_⟩
    walk_at "rd"
    refine x_ixT hp (atI_nat (j := 1) rfl) ?_
    walk_at "rd"
    refine x_true (decide_eq_true hh0) ?_
    walk_at "rd"
    rw [decide_eq_true hh1]
    walk_at "rd"
    refine x_ixT hp (atI_nat (j := 2) rfl) ?_
    walk_at "rd"
    exact ⟨_, _, ms, names, rfl, hd, hu2, h1, h4, hall, k⟩
def sp_are_stands (T : Tx K mg) : Sp := fun vs H Q _ => ∃ v n sts, vs = [v, .int n] ∧ rD (rStand K) H v sts ∧ 1 ≤ sts.length ∧ sts.length ≤ 100 ∧
  (∀ p ∈ sts, nameB p.1 = true ∧ StandOk n (sts.map (·.1)) p.2) ∧ ∀ H', SX [] H H' → Q (.bl true) H'
theorem ok_are_stands (T : Tx K mg) : FnOk P w K mg base CX0 4 T.are_stands.f T.are_stands.fd P_are_stands (sp_are_stands T) := by
  refine T.are_stands.F.ok sc_are_stands (fun vs H Q E h => ?_) (fun cdv A outer s H vs Q E hr h => ?_)
  · obtain ⟨v, n, sts, rfl, ⟨d, kvs, hv, hd, hk⟩, h1, h100, hall, k⟩ := h
    rfl
  have hu := hu_of hr
  have nd := sc_are_stands.nd
  obtain ⟨v, n, sts, rfl, ⟨d, kvs, hv, hd, hk⟩, h1, h100, hall, k⟩ := h
  refine ⟨_, (pss_cons (ps_if (PW.pt (pw_or (pt_not (pt_val (pe_callB (w_isi (K := K) rfl) (by rfl) T.b_isinstance (by decide +kernel) (pa_cons (pv 0) (pa_cons (pe_bltn (v := .ty "dict") (by rfl) T.b_dict (by decide +kernel) rfl) pa_nil))))) (pw_or1 (pt_not (pt_chain op_le op_le pe_int (pe_callB cl_lenD (by rfl) T.b_len (by decide +kernel) (pa_cons (pv 0) pa_nil)) pe_int))))) (pss_one (ps_ret pe_bl)) pss_nil)
      (pss_cons (ps_lockR (ps_for PassesOwn.never rfl (pi_keys (pv 0)) (pg_name (i := 2) nd rfl (Or.inl rfl)) (pss_one (ps_if (pt_not (pt_val (pe_call (ok_is_name (P := P) T) (hr.mono (by decide)) (by rfl) T.is_name.g T.is_name.F.kp T.is_name.B .nil pass0 (pa_cons (pv 2) pa_nil)))) (pss_one (ps_ret pe_bl)) pss_nil))))
      (pss_cons (ps_lockR (ps_for PassesOwn.never rfl (pi_values (pv 0)) (pg_name (i := 3) nd rfl (Or.inl rfl)) (pss_one (ps_if (pt_not (pt_val (pe_call (ok_is_stand (P := P) T) (hr.mono (by decide)) (by rfl) T.is_stand.g T.is_stand.F.kp T.is_stand.B .nil pass0 (pa_cons (pv 3) (pa_cons (pv 1) (pa_cons (pv 0) pa_nil)))))) (pss_one (ps_ret pe_bl)) pss_nil))))
      (pss_one (ps_ret pe_bl))))), ?_⟩
  refine x_start (σ' := [some _, some _, none, none]) rfl ?_
  try simp only [cx_n, cx_K, cx_w, cx_P]
  subst hv
  walk_at "rd"
  refine x_isiT (ty_dict hd) (by decide +kernel) ?_
  walk_at "rd"
  have hl : kvs.length = sts.length := Paired.length hk
  refine x_lenD hd ?_
  walk_at "rd"
  rw [hl]
  refine x_true (decide_eq_true (by omega)) ?_
  walk_at "rd"
  rw [decide_eq_true (show (sts.length : Int) ≤ 100 by omega)]
  walk_at "rd"
  refine x_lockR hd fun od HL eL ne => ?_
  walk_at "rd"
  refine ⟨d, od, rfl, .inl ⟨kvs, eL, ?_⟩⟩
  have leL : Le H HL := lock_le hd eL ne
  refine for_it (walk_keysR (KVs.le (mono_stand K) leL hk)) (fun i σ H' => SX [] HL H' ∧ ∃ a, σ = [some (.ref d), some (.int n), a, none]) ⟨SX.refl _, _, rfl⟩ (fun _ _ _ _ h => h.1 _ _ List.not_mem_nil eL) ?_ ?_
  · rintro i x σ H0 H1 hi ⟨sx, a, rfl⟩ ⟨rfl, p, v, hp, rfl, hv⟩
    obtain ⟨n1, n2⟩ := hall p (getMem hp)
    walk_at "rd"
    refine ⟨_, rfl, nameB_size n1, ?_⟩
    rw [n1]
    walk_at "rd"
    exact ⟨sx, _, rfl⟩
  rintro σ H1 ⟨sx, a, rfl⟩
  refine ⟨sx _ _ List.not_mem_nil eL, ?_⟩
  have sx1 : SX [] H (put H1 d (H d)) := unlock_sx ne sx
  generalize put H1 d (H d) = H2 at sx1
  walk_at "rd"
  refine x_lockR (sx1.rd hd) fun od2 HL2 eL2 ne2 => ?_
  walk_at "rd"
  refine ⟨d, od2, kvs, rfl, eL2, ?_⟩
  have leL2 : Le H HL2 := sx1.le0.trans (lock_le (sx1.rd hd) eL2 ne2)
  refine for_it (walk_valsR (KVs.le (mono_stand K) leL2 hk)) (fun i σ H' => SX [] HL2 H' ∧ ∃ b, σ = [some (.ref d), some (.int n), a, b]) ⟨SX.refl _, _, rfl⟩ (fun _ _ _ _ h => h.1 _ _ List.not_mem_nil eL2) ?_ ?_
  · rintro i x σ H0 H1 hi ⟨sx, b, rfl⟩ ⟨rfl, p, hp, hv⟩
    obtain ⟨n1, n2⟩ := hall p (getMem hp)
    walk_at "rd"
    refine ⟨_, _, n, p.2, sts.map (·.1), rfl, mono_stand K _ _ _ _ sx.le0 hv, ⟨d, kvs, rfl, sx.rd (Rd.le leL2 hd), hk.keys⟩, n2, fun H' sx' => ?_⟩
    walk_at "rd"
    exact ⟨sx.trans sx', _, rfl⟩
  · rintro σ H1 ⟨sx, b, rfl⟩
    refine ⟨sx _ _ List.not_mem_nil eL2, ?_⟩
    walk_at "rd"
    exact k _ (sx1.trans (unlock_sx ne2 sx))
end
end M

namespace M
open PySem PySem.Spec PyProof.Rows L2
/-- the same stand, its steps ascending -/
def SrtStand : Stand → Stand → Prop
  | .fin, .fin => True
  | .hand h ms, .hand h' ms' => h = h' ∧ Srt ms ms'
  | .chance ds, .chance ds' => Srt ds ds'
  | _, _ => False
/-- the stands to which steps lead -/
def Stand.tos : Stand → List Str
  | .fin => []
  | .hand _ ms => ms.map (·.2)
  | .chance ds => ds.map (·.2.1)
def Stand.size : Stand → Nat
  | .fin => 0
  | .hand _ ms => ms.length
  | .chance ds => ds.length
def Stand.nd : Stand → Prop
  | .fin => True
  | .hand _ ms => (ms.map (·.1)).Nodup
  | .chance ds => (ds.map (·.1)).Nodup
theorem SrtStand.tos {a b : Stand} (h : SrtStand a b) : b.tos.Perm a.tos := by
  cases a <;> cases b <;> first | exact h.elim | exact .refl _ | exact (h.2.perm.map _) | exact (Srt.perm h).map _
section
variable {P : Program} {w : World} {K : PySem.W.Frag} {mg : Str → Option Value} {base : Heap}
def sp_copied (T : Tx K mg) : Sp := fun vs H Q _ => ∃ v st S, vs = [v] ∧ (∀ b ∈ S, H b ≠ none) ∧ rStand K (hid S H) v st ∧ st.nd ∧ st.size ≤ 100 ∧ ∀ v' H' st', SX [] H H' → rStand K (hid S H') v' st' → SrtStand st st' → Q v' H'
theorem ok_copied (T : Tx K mg) : FnOk P w K mg base CX0 1 T.copied.f T.copied.fd P_copied (sp_copied T) := by
  refine T.copied.F.ok sc_copied (fun vs H Q E h => ?_) (fun cdv A outer s H vs Q E hr h => ?_)
  · obtain ⟨v, st, S, rfl, hS, hst, hnd, hsz, k⟩ := h
    rfl
  have hu := hu_of hr
  have nd := sc_copied.nd
  obtain ⟨v, st, S, rfl, hS, hst, hnd, hsz, k⟩ := h
  refine ⟨_, (pss_cons (ps_if (pt_cmpR op_eq (pe_ix (w_ixT (K := K) rfl) (pv 0) pe_int (fun _ _ => rfl)) pe_str (nomark _)) (pss_one (ps_ret (pe_tup (pa_cons pe_str pa_nil)))) pss_nil)
      (pss_cons (ps_set (i := 1) nd rfl (Or.inr rfl) (pe_ix (w_ixT (K := K) rfl) (pv 0) (pe_op op_sub (pe_callB (w_len (K := K) rfl) (by rfl) T.b_len (by decide +kernel) (pa_cons (pv 0) pa_nil)) pe_int) (fun _ _ => rfl)))
      (pss_cons (ps_setDc (i := 2) (own := [("step", 3)]) rfl nd rfl rfl (sw_dc rfl rfl rfl (by decide +kernel)) (w_pilist (K := K) rfl (pe_callB (cl_sortD rfl) (by rfl) T.b_sorted (by decide +kernel) (pa_cons (pv 1) pa_nil))) (blkOk_by (own := [("step", 3)]) (N := N_copied) (sc := defScope s_copied) (by decide +kernel)) (fun _ _ _ _ _ => (pg_name (i := 3) nd rfl (Or.inl rfl))) (fun _ _ _ _ _ => pts_nil) (fun _ _ _ _ _ => (pv 3)) (fun _ _ _ _ _ => (pe_dget hu (pv 1) (pv 3) (fun _ _ => rfl))))
      (pss_cons (ps_if (pt_cmpR op_eq (pe_ix (w_ixT (K := K) rfl) (pv 0) pe_int (fun _ _ => rfl)) pe_str (nomark _)) (pss_one (ps_ret (pe_tup (pa_cons pe_str (pa_cons (pe_ix (w_ixT (K := K) rfl) (pv 0) pe_int (fun _ _ => rfl)) (pa_cons (pv 2) pa_nil)))))) pss_nil)
      (pss_one (ps_ret (pe_tup (pa_cons pe_str (pa_cons (pv 2) pa_nil))))))))), ?_⟩
  refine x_start (σ' := [some _, none, none, none]) rfl ?_
  try simp only [cx_n, cx_K, cx_w, cx_P]
  cases st with
  | fin =>
    obtain ⟨p, rfl, hp0⟩ := hst
    have hp := le_hid.t hp0
    walk_at "rd"
    refine x_ixT hp (atI_nat (j := 0) rfl) ?_
    walk_at "rd"
    walk_at "if!"
    walk_at "rd"
    refine ⟨Nat.le_of_ble_eq_true rfl, fun q hq => ?_⟩
    exact k _ _ .fin (SX.new hq) ⟨q, rfl, sqT (hid_new hq hS)⟩ trivial
  | hand h ms =>
    obtain ⟨p, d, rfl, hp0, hd⟩ := hst
    have hp := le_hid.t hp0
    obtain ⟨dd, kvs, rfl, hd1, hd2⟩ := id hd
    walk_at "rd"
    refine x_ixT hp (atI_nat (j := 0) rfl) ?_
    walk_at "rd"
    walk_at "if!"
    walk_at "rd"
    refine x_lenT' hp ?_
    walk_at "rd"
    refine x_ixT hp (v := .ref dd) (atI_nat (j := 2) rfl) ?_
    walk_at "rd"
    refine x_copyD (S := S) (i := 1) (j := 3) mono_S hS (by rfl) (by simp) (by decide) hd hnd (by show ms.length ≤ 10000; exact Nat.le_trans hsz (by decide)) fun D H' l' s1 hD r1 hD' sr => ?_
    walk_at "rd"
    refine x_ixT (s1.le0.t hp) (atI_nat (j := 0) rfl) ?_
    walk_at "rd"
    walk_at "if!"
    walk_at "rd"
    refine x_ixT (s1.le0.t hp) (atI_nat (j := 1) rfl) ?_
    walk_at "rd"
    refine ⟨Nat.le_of_ble_eq_true rfl, fun q hq => ?_⟩
    have s2 : SX [] H' (upd H' q (.tup [.str "hand", .int h, .ref D])) := SX.new hq
    exact k _ _ (.hand h l') (s1.trans s2) ⟨q, .ref D, rfl, sqT (hid_new hq (there s1 hS)), mono_D mono_S _ _ _ _ (nil_sx s2).le r1⟩ ⟨rfl, sr⟩
  | chance ds =>
    obtain ⟨p, d, rfl, hp0, hd⟩ := hst
    have hp := le_hid.t hp0
    obtain ⟨dd, kvs, rfl, hd1, hd2⟩ := id hd
    walk_at "rd"
    refine x_ixT hp (atI_nat (j := 0) rfl) ?_
    walk_at "rd"
    walk_at "if!"
    walk_at "rd"
    refine x_lenT' hp ?_
    walk_at "rd"
    refine x_ixT hp (v := .ref dd) (atI_nat (j := 1) rfl) ?_
    walk_at "rd"
    refine x_copyD (S := S) (i := 1) (j := 3) (mono_P mono_S mono_I) hS (by rfl) (by simp) (by decide) hd hnd (by show ds.length ≤ 10000; exact Nat.le_trans hsz (by decide)) fun D H' l' s1 hD r1 hD' sr => ?_
    walk_at "rd"
    refine x_ixT (s1.le0.t hp) (atI_nat (j := 0) rfl) ?_
    walk_at "rd"
    walk_at "if!"
    walk_at "rd"
    refine ⟨Nat.le_of_ble_eq_true rfl, fun q hq => ?_⟩
    have s2 : SX [] H' (upd H' q (.tup [.str "chance", .ref D])) := SX.new hq
    exact k _ _ (.chance l') (s1.trans s2) ⟨q, .ref D, rfl, sqT (hid_new hq (there s1 hS)), mono_D (mono_P mono_S mono_I) _ _ _ _ (nil_sx s2).le r1⟩ sr
/-- a work at x: its table -/
def TableAt (T : Tx K mg) (H : Hp) (x : Addr) (tbl : List (Str × Stand)) : Prop := ∃ dx fs d, H x = some (.ins T.a_Work dx fs) ∧ fs.lookup ("table" : Str) = some (V.ref d) ∧ rD (rStand K) H (.ref d) tbl
theorem TableAt.le {T : Tx K mg} {A B : Hp} {x : Addr} {tbl : List (Str × Stand)} (e : Le A B) (h : TableAt T A x tbl) : TableAt T B x tbl := by
  obtain ⟨dx, fs, d, h1, h2, h3⟩ := h
  exact ⟨dx, fs, d, e.ins _ _ _ _ h1, h2, mono_D (mono_stand K) _ _ _ _ e h3⟩
def sp_leads (T : Tx K mg) : Sp := fun vs H Q _ => ∃ x s tbl st, vs = [.ref x, .str s] ∧ TableAt T H x tbl ∧ lookA tbl s = some st ∧ st.nd ∧ st.size ≤ 100 ∧
  ∀ p H', SX [] H H' → H p = none → H' p = some (.lst (st.tos.map V.str)) → Q (.ref p) H'
theorem ok_leads (T : Tx K mg) : FnOk P w K mg base CX0 1 T.leads.f T.leads.fd P_leads (sp_leads T) := by
  refine T.leads.F.ok sc_leads (fun vs H Q E h => ?_) (fun cdv A outer s H vs Q E hr h => ?_)
  · obtain ⟨x, s, tbl, st, rfl, ⟨dx, fs, d, h1, h2, h3⟩, hs, hnd, hsz, k⟩ := h
    rfl
  have hu := hu_of hr
  have nd := sc_leads.nd
  obtain ⟨x, s, tbl, st, rfl, ⟨dx, fs, d, h1, h2, h3⟩, hs, hnd, hsz, k⟩ := h
  refine ⟨_, (pss_cons (ps_set (i := 2) nd rfl (Or.inr rfl) (pe_dget hu (w_fld (K := K) rfl (pv 0) rfl) (pv 1) (fun _ _ => rfl)))
      (pss_cons (ps_if (pt_cmpR op_eq (pe_ix (w_ixT (K := K) rfl) (pv 2) pe_int (fun _ _ => rfl)) pe_str (nomark _)) (pss_one (ps_ret (pe_lst pa_nil))) pss_nil)
      (pss_cons (ps_if (pt_cmpR op_eq (pe_ix (w_ixT (K := K) rfl) (pv 2) pe_int (fun _ _ => rfl)) pe_str (nomark _)) (pss_one (ps_ret (pe_lockR (pe_lc (own := [("step", 3)]) rfl nd (pi_keys (pe_ix (w_ixT (K := K) rfl) (pv 2) pe_int (fun _ _ => rfl))) (blkOk_by (own := [("step", 3)]) (N := N_leads) (sc := defScope s_leads) (by decide +kernel)) (fun _ _ _ _ _ => (pg_name (i := 3) nd rfl (Or.inl rfl))) (fun _ _ _ _ _ => pts_nil) (fun _ _ _ _ _ => (pe_dget hu (pe_ix (w_ixT (K := K) rfl) (pv 2) pe_int (fun _ _ => rfl)) (pv 3) (fun _ _ => rfl))))))) pss_nil)
      (pss_one (ps_ret (pe_lockR (pe_lc (own := [("step", 3)]) rfl nd (pi_keys (pe_ix (w_ixT (K := K) rfl) (pv 2) pe_int (fun _ _ => rfl))) (blkOk_by (own := [("step", 3)]) (N := N_leads) (sc := defScope s_leads) (by decide +kernel)) (fun _ _ _ _ _ => (pg_name (i := 3) nd rfl (Or.inl rfl))) (fun _ _ _ _ _ => pts_nil) (fun _ _ _ _ _ => (pe_ix (w_ixT (K := K) rfl) (pe_dget hu (pe_ix (w_ixT (K := K) rfl) (pv 2) pe_int (fun _ _ => rfl)) (pv 3) (fun _ _ => rfl)) pe_int (fun _ _ => rfl)))))))))), ?_⟩
  refine x_start (σ' := [some _, some _, none, none]) rfl ?_
  try simp only [cx_n, cx_K, cx_w, cx_P]
  obtain ⟨d', kvs, hd', hr, hk⟩ := h3
  cases hd'
  obtain ⟨v, e1, hst⟩ := hk.at_ hs
  walk_at "rd"
  refine ⟨x, _, dx, fs, _, rfl, h1, T.cl_Work, T.n_Work_table, h2, ?_⟩
  walk_at "rd"
  refine x_dg' hr e1 ?_
  walk_at "rd"
  cases st with
  | fin =>
    obtain ⟨p, rfl, hp⟩ := hst
    refine x_ixT hp (atI_nat (j := 0) rfl) ?_
    walk_at "rd"
    walk_at "if!"
    walk_at "rd"
    exact ⟨Nat.le_of_ble_eq_true rfl, fun q hq => k q _ (SX.new hq) hq upd_same⟩
  | hand h ms =>
    obtain ⟨p, dd, rfl, hp, d1, kv1, rfl, hr1, hk1⟩ := hst
    refine x_ixT hp (atI_nat (j := 0) rfl) ?_
    walk_at "rd"
    walk_at "if!"
    walk_at "rd"
    refine x_ixT hp (atI_nat (j := 0) rfl) ?_
    walk_at "rd"
    walk_at "if!"
    walk_at "rd"
    refine x_lockRE hr1 fun od HL eL ne => ?_
    have leL : Le H HL := lock_le hr1 eL ne
    walk_at "rd"
    refine x_ixT (leL.t hp) (v := .ref d1) (atI_nat (j := 2) rfl) ?_
    refine ⟨d1, od, rfl, .inl ⟨kv1, eL, fun D hD => ?_⟩⟩
    have hDd : d1 ≠ D := ne_of_none eL hD
    have hD0 : H D = none := by rw [← ne D (Ne.symm hDd)]; exact hD
    refine lc_it (walk_keysR hk1) (fun n A => SX [] HL A ∧ A D = some (.lst ((ms.take n).map fun p => V.str p.2))) ⟨SX.new hD, upd_same⟩ (fun _ _ _ h => h.1 _ _ List.not_mem_nil eL) ?_ ?_
    · rintro n y A B hn ⟨s1, s2⟩ ⟨rfl, q, v, hq, rfl, rfl⟩
      walk_at "rd"
      refine ⟨rfl, ?_⟩
      walk_at "rd"
      refine x_ixT (s1.le0.t (leL.t hp)) (v := .ref d1) (atI_nat (j := 2) rfl) ?_
      walk_at "rd"
      obtain ⟨v3, e3, rfl⟩ := hk1.in_ hnd (getMem hq)
      refine x_dg' (s1.rd (Rd.le leL hr1)) e3 ?_
      refine ⟨_, s2, lt_size (by rw [List.length_map, List.length_take]; have : ms.length ≤ 100 := hsz; omega), sx_nil_of (S := [D]) ((nil_sx s1).trans (SX.mut List.mem_cons_self)) (by simp [hD]), ?_⟩
      rw [upd_same, take_succ_of hq, List.map_append]
      rfl
    · rintro A ⟨s1, s2⟩
      refine ⟨s1 _ _ List.not_mem_nil eL, ?_⟩
      rw [List.take_length] at s2
      refine k D _ (unlock_sx ne s1) hD0 ?_
      rw [put_ne (Ne.symm hDd), s2]
      show _ = some (HO.lst ((ms.map (·.2)).map V.str))
      rw [List.map_map]
      rfl
  | chance ds =>
    obtain ⟨p, dd, rfl, hp, d1, kv1, rfl, hr1, hk1⟩ := hst
    refine x_ixT hp (atI_nat (j := 0) rfl) ?_
    walk_at "rd"
    walk_at "if!"
    walk_at "rd"
    refine x_ixT hp (atI_nat (j := 0) rfl) ?_
    walk_at "rd"
    walk_at "if!"
    walk_at "rd"
    refine x_lockRE hr1 fun od HL eL ne => ?_
    have leL : Le H HL := lock_le hr1 eL ne
    walk_at "rd"
    refine x_ixT (leL.t hp) (v := .ref d1) (atI_nat (j := 1) rfl) ?_
    refine ⟨d1, od, rfl, .inl ⟨kv1, eL, fun D hD => ?_⟩⟩
    have hDd : d1 ≠ D := ne_of_none eL hD
    have hD0 : H D = none := by rw [← ne D (Ne.symm hDd)]; exact hD
    refine lc_it (walk_keysR hk1) (fun n A => SX [] HL A ∧ A D = some (.lst ((ds.take n).map fun p => V.str p.2.1))) ⟨SX.new hD, upd_same⟩ (fun _ _ _ h => h.1 _ _ List.not_mem_nil eL) ?_ ?_
    · rintro n y A B hn ⟨s1, s2⟩ ⟨rfl, q, v, hq, rfl, _⟩
      walk_at "rd"
      refine ⟨rfl, ?_⟩
      walk_at "rd"
      refine x_ixT (s1.le0.t (leL.t hp)) (v := .ref d1) (atI_nat (j := 1) rfl) ?_
      walk_at "rd"
      obtain ⟨v3, e3, a, x1, x2, rfl, ha, rfl, rfl⟩ := hk1.in_ hnd (getMem hq)
      refine x_dg' (s1.rd (Rd.le leL hr1)) e3 ?_
      walk_at "rd"
      refine x_ixT (s1.le0.t (leL.t ha)) (atI_nat (j := 0) rfl) ?_
      refine ⟨_, s2, lt_size (by rw [List.length_map, List.length_take]; have : ds.length ≤ 100 := hsz; omega), sx_nil_of (S := [D]) ((nil_sx s1).trans (SX.mut List.mem_cons_self)) (by simp [hD]), ?_⟩
      rw [upd_same, take_succ_of hq, List.map_append]
      rfl
    · rintro A ⟨s1, s2⟩
      refine ⟨s1 _ _ List.not_mem_nil eL, ?_⟩
      rw [List.take_length] at s2
      refine k D _ (unlock_sx ne s1) hD0 ?_
      rw [put_ne (Ne.symm hDd), s2]
      show _ = some (HO.lst ((ds.map (·.2.1)).map V.str))
      rw [List.map_map]
      rfl
end
end M

namespace M
open PySem PySem.Spec PyProof.Rows L2
/-! ### settling, round by round -/
def addS (s : List Str) (n : Str) : List Str := if n ∈ s then s else s ++ [n]
def tosOf (tbl : List (Str × Stand)) (n : Str) : List Str := ((lookA tbl n).map Stand.tos).getD []
def turnR (f : Str → List Str) (rs : List Str × List Str) (n : Str) : List Str × List Str := if ((f n).all fun t => decide (t ∈ rs.2)) = true then (rs.1, addS rs.2 n) else (rs.1 ++ [n], rs.2)
def roundR (f : Str → List Str) (left s : List Str) : List Str × List Str := left.foldl (turnR f) ([], s)
def ringR (f : Str → List Str) : Nat → List Str → List Str → List Str
  | 0, left, _ => left
  | n + 1, left, s => if (roundR f left s).1.length < left.length then ringR f n (roundR f left s).1 (roundR f left s).2 else (roundR f left s).1
def ringB (tbl : List (Str × Stand)) : Bool := decide ((ringR (tosOf tbl) (tbl.length + 1) (tbl.map (·.1)) []).length = 0)
theorem ringR_succ (f : Str → List Str) (n : Nat) (left s : List Str) : ringR f (n + 1) left s = if (roundR f left s).1.length < left.length then ringR f n (roundR f left s).1 (roundR f left s).2 else (roundR f left s).1 := rfl
def muR (σ : L2.St) (A : Hp) : Nat := match σ with
  | [_, some (.ref L), _, some (.bl true), _, _, _] => (match A L with | some (.lst l) => l.length + 1 | _ => 0)
  | _ => 0
theorem muR_true {A : Hp} {L : Addr} {l : List V} {a b c d e : Option V} (h : A L = some (.lst l)) : muR [a, some (.ref L), b, some (.bl true), c, d, e] A = l.length + 1 := by
  show (match A L with | some (.lst l) => l.length + 1 | _ => 0) = _
  rw [h]
theorem muR_false {A : Hp} {L : Addr} {a b c d e : Option V} : muR [a, some (.ref L), b, some (.bl false), c, d, e] A = 0 := rfl
theorem tos_len (st : Stand) : st.tos.length = st.size := by
  cases st with
  | fin => rfl
  | hand h ms => exact List.length_map _
  | chance ds => exact List.length_map _
theorem ringR_fuel (f : Str → List Str) : ∀ (n m : Nat) (left s : List Str), left.length < n → left.length < m → ringR f n left s = ringR f m left s
  | 0, _, _, _, h, _ => absurd h (Nat.not_lt_zero _)
  | _, 0, _, _, _, h => absurd h (Nat.not_lt_zero _)
  | n + 1, m + 1, left, s, h1, h2 => by
    unfold ringR
    split
    · exact ringR_fuel f n m _ _ (by omega) (by omega)
    · rfl
theorem addS_len (s : List Str) (n : Str) : (addS s n).length ≤ s.length + 1 := by
  unfold addS
  split
  · omega
  · simp
theorem turnR_len (f : Str → List Str) (rs : List Str × List Str) (n : Str) : (turnR f rs n).1.length + (turnR f rs n).2.length ≤ rs.1.length + rs.2.length + 1 := by
  unfold turnR
  split
  · have := addS_len rs.2 n
    show rs.1.length + (addS rs.2 n).length ≤ _
    omega
  · show (rs.1 ++ [n]).length + rs.2.length ≤ _
    rw [List.length_append]
    show rs.1.length + 1 + rs.2.length ≤ _
    omega
theorem foldR_len (f : Str → List Str) : ∀ (l : List Str) (rs : List Str × List Str), (l.foldl (turnR f) rs).1.length + (l.foldl (turnR f) rs).2.length ≤ rs.1.length + rs.2.length + l.length
  | [], rs => Nat.le_refl _
  | n :: l, rs => by
    have h1 := foldR_len f l (turnR f rs n)
    have h2 := turnR_len f rs n
    show (l.foldl (turnR f) (turnR f rs n)).1.length + (l.foldl (turnR f) (turnR f rs n)).2.length ≤ _
    rw [List.length_cons]
    omega
theorem foldR_take (f : Str → List Str) {l : List Str} {i : Nat} {n : Str} (h : l[i]? = some n) (rs : List Str × List Str) : (l.take (i + 1)).foldl (turnR f) rs = turnR f ((l.take i).foldl (turnR f) rs) n := by
  rw [take_succ_of h, List.foldl_append]
  rfl
theorem foldR_sub (f : Str → List Str) : ∀ (l : List Str) (rs : List Str × List Str) (x : Str), x ∈ (l.foldl (turnR f) rs).1 → x ∈ rs.1 ∨ x ∈ l
  | [], rs, x, h => .inl h
  | n :: l, rs, x, h => by
    rcases foldR_sub f l (turnR f rs n) x h with h | h
    · unfold turnR at h
      split at h
      · exact .inl h
      · rcases List.mem_append.mp h with h | h
        · exact .inl h
        · exact .inr (List.mem_cons.mpr (.inl (List.mem_singleton.mp h)))
    · exact .inr (List.mem_cons_of_mem _ h)
theorem keys_put {kv : List (Key × V)} {l : List Str} {s : Str} {v : V} (e : kv.map (·.1) = l.map Sum.inr) : (putK kv (Sum.inr s) v).map (·.1) = (addS l s).map Sum.inr := by
  unfold addS
  by_cases m : s ∈ l
  · rw [if_pos m, ← e]
    unfold putK
    have h : (kv.any fun p => decide (p.1 = (Sum.inr s : Key))) = true := by rw [valV_any, keys_val e, decide_eq_true m]
    rw [if_pos h, List.map_map]
    apply List.map_congr_left
    intro p hp
    show (if p.1 = (Sum.inr s : Key) then (p.1, v) else p).1 = p.1
    split <;> rfl
  · rw [if_neg m, putK_fresh v e m, List.map_append, List.map_append, e]
    rfl
section
variable {P : Program} {w : World} {K : PySem.W.Frag} {mg : Str → Option Value} {base : Heap}
def sp_is_ringless (T : Tx K mg) : Sp := fun vs H Q _ => ∃ x tbl dx fs d nm, vs = [.ref x] ∧ H x = some (.ins T.a_Work dx fs) ∧ fs.lookup ("table" : Str) = some (V.ref d) ∧ rD (rStand K) H (.ref d) tbl ∧
  fs.lookup ("names" : Str) = some (V.ref nm) ∧ SqT K H nm ((tbl.map (·.1)).map V.str) ∧ tbl.length ≤ 100 ∧ (∀ p ∈ tbl, p.2.nd ∧ p.2.size ≤ 100) ∧ ∀ H', SX [] H H' → Q (.bl (ringB tbl)) H'
theorem ok_is_ringless (T : Tx K mg) : FnOk P w K mg base CX0 2 T.is_ringless.f T.is_ringless.fd P_is_ringless (sp_is_ringless T) := by
  refine T.is_ringless.F.ok sc_is_ringless (fun vs H Q E h => ?_) (fun cdv A outer s H vs Q E hr h => ?_)
  · obtain ⟨x, tbl, dx, fs, d, nm, rfl, h1, h2, h3, h4, h5, h100, hall, k⟩ := h
    rfl
  have hu := hu_of hr
  have nd := sc_is_ringless.nd
  obtain ⟨x, tbl, dx, fs, d, nm, rfl, h1, h2, h3, h4, h5, h100, hall, k⟩ := h
  refine ⟨_, (pss_cons (ps_set (i := 1) nd rfl (Or.inl rfl) (pe_callTy (w_list (K := K) rfl) (by rfl) T.b_list (by decide +kernel) (pa_cons (w_fld (K := K) rfl (pv 0) rfl) pa_nil)))
      (pss_cons (ps_set (i := 2) nd rfl (Or.inr rfl) pe_dnewK)
      (pss_cons (ps_set (i := 3) nd rfl (Or.inl rfl) pe_bl)
      (pss_cons (ps_while PassesOwn.never (pt_val (pv 3)) (pss_cons (ps_set (i := 4) nd rfl (Or.inl rfl) (pe_lst pa_nil))
      (pss_cons (ps_for PassesOwn.never rfl (w_pilist (K := K) rfl (pv 1)) (pg_name (i := 5) nd rfl (Or.inl rfl)) (pss_one (ps_if (pt_val (pe_callB (w_all (K := K) rfl rfl) (by rfl) T.b_all (by decide +kernel) (pa_cons (pe_lc (own := [("to", 6)]) rfl nd (w_pilist (K := K) rfl (pe_call (ok_leads (P := P) T) (hr.mono (by decide)) (by rfl) T.leads.g T.leads.F.kp T.leads.B .nil pass0 (pa_cons (pv 0) (pa_cons (pv 5) pa_nil)))) (blkOk_by (own := [("to", 6)]) (N := N_is_ringless) (sc := defScope s_is_ringless) (by decide +kernel)) (fun _ _ _ _ _ => (pg_name (i := 6) nd rfl (Or.inl rfl))) (fun _ _ _ _ _ => pts_nil) (fun _ _ _ _ _ => (pe_cmp (pc_din hu (pv 6) (pv 2)) rfl))) pa_nil))) (pss_one (ps_dput hu (pv 2) (pv 5) pe_bl rfl)) (pss_one (ps_expr (pe_bm PySem.F.plainAttrs_list PySem.F.slot_list_append PySem.F.type_list_append mt_append (pv 4) (pa_cons (pv 5) pa_nil)))))))
      (pss_cons (ps_set (i := 3) nd rfl (Or.inl rfl) (pe_cmpR op_lt (pe_callB (w_len (K := K) rfl) (by rfl) T.b_len (by decide +kernel) (pa_cons (pv 4) pa_nil)) (pe_callB (w_len (K := K) rfl) (by rfl) T.b_len (by decide +kernel) (pa_cons (pv 1) pa_nil)) (nomark _)))
      (pss_one (ps_set (i := 1) nd rfl (Or.inl rfl) (pv 4)))))))
      (pss_one (ps_ret (pe_cmpR op_eq (pe_callB (w_len (K := K) rfl) (by rfl) T.b_len (by decide +kernel) (pa_cons (pv 1) pa_nil)) pe_int (nomark _)))))))), ?_⟩
  refine x_start (σ' := [some _, none, none, none, none, none, none]) rfl ?_
  try simp only [cx_n, cx_K, cx_w, cx_P]
  walk_at "rd"
  refine ⟨x, _, dx, fs, _, rfl, h1, T.cl_Work, T.n_Work_names, h4, ?_⟩
  walk_at "rd"
  refine x_clistT h5 fun L0 hL0 => ?_
  walk_at "rd"
  intro S hS
  walk_at "rd"
  have hSL : S ≠ L0 := by
    rintro rfl
    rw [upd_same] at hS
    cases hS
  have hS0 : H S = none := by rw [upd_ne hSL] at hS; exact hS
  refine x_while (fun σ A => ∃ (L : Addr) (left settled : List Str) (going : Bool) (a b : Option V) (kv : List (Key × V)), σ = [some (.ref x), some (.ref L), some (.ref S), some (.bl going), a, b, none] ∧ SX [] H A ∧ A L = some (.lst (left.map V.str)) ∧ A S = some (.dK kv) ∧ kv.map (·.1) = settled.map Sum.inr ∧
      left.length + settled.length ≤ 100 ∧ (∀ n ∈ left, n ∈ tbl.map (·.1)) ∧ (going = true → ringR (tosOf tbl) (left.length + 1) left settled = ringR (tosOf tbl) (tbl.length + 1) (tbl.map (·.1)) []) ∧ (going = false → left = ringR (tosOf tbl) (tbl.length + 1) (tbl.map (·.1)) []))
    muR ?_ ?_ ?_
  · refine ⟨L0, tbl.map (·.1), [], true, none, none, [], rfl, (SX.new hL0).trans (SX.new hS), by rw [upd_ne (Ne.symm hSL)]; exact upd_same, upd_same, rfl, ?_, fun _ h => h, fun _ => ?_, fun h => nomatch h⟩
    · rw [List.length_map]
      exact h100
    · rw [List.length_map]
  · rintro σ A ⟨L, left, settled, going, a, b, kv, rfl, sx, hL, hK, hkeys, hlen, hin, hgo, hend⟩
    walk_at "rd"
    cases going with
    | false =>
      walk_at "rd"
      refine x_len (n := left.length) (.inl ⟨left.map V.str, sqL hL, by rw [List.length_map]⟩) ?_
      walk_at "rd"
      have e : decide (V.int (left.length : Int) = V.int 0) = ringB tbl := by
        unfold ringB
        rw [← hend rfl]
        by_cases h : left.length = 0
        · rw [decide_eq_true h, decide_eq_true (by rw [h]; rfl)]
        · rw [decide_eq_false h, decide_eq_false (by intro q; injection q with q; omega)]
      rw [e]
      exact k A sx
    | true =>
      walk_at "rd"
      refine ⟨Nat.le_of_ble_eq_true rfl, fun R hR => ?_⟩
      walk_at "rd"
      have hRL : L ≠ R := ne_of_none hL hR
      have hRS : S ≠ R := ne_of_none hK hR
      have hLS : L ≠ S := ne_of hL hK (by intro z; cases z)
      refine x_itl (sqL (by rw [upd_ne hRL]; exact hL)) ?_
      have hR0 : H R = none := (SX.free sx hR List.not_mem_nil)
      refine for_it (walk_listR (R := rS) (Hb := H) (paired_S' left)) (fun i σ B => ∃ (b : Option V) (kv : List (Key × V)), σ = [some (.ref x), some (.ref L), some (.ref S), some (.bl true), some (.ref R), b, none] ∧ SX [] H B ∧ B L = some (.lst (left.map V.str)) ∧ B S = some (.dK kv) ∧
        kv.map (·.1) = ((left.take i).foldl (turnR (tosOf tbl)) ([], settled)).2.map Sum.inr ∧ B R = some (.lst (((left.take i).foldl (turnR (tosOf tbl)) ([], settled)).1.map V.str))) ?_ ?_ ?_ ?_
      · exact ⟨_, kv, rfl, sx.trans (SX.new hR), by rw [upd_ne hRL]; exact hL, by rw [upd_ne hRS]; exact hK, hkeys, upd_same⟩
      · rintro i σ B _ ⟨_, _, rfl, _, hB, _⟩
        exact sqL hB
      · rintro i y σ B0 B hi ⟨b, kv2, rfl, s2, hL2, hS2, hk2, hR2⟩ ⟨rfl, n, hn, rfl⟩
        generalize hrs : (left.take i).foldl (turnR (tosOf tbl)) ([], settled) = rs at hk2 hR2
        have hlen2 : rs.1.length + rs.2.length ≤ 100 := by
          have := foldR_len (tosOf tbl) (left.take i) ([], settled)
          rw [hrs, List.length_take] at this
          simp only [List.length_nil] at this
          omega
        obtain ⟨st, hst⟩ := lookA_some (hin n (getMem hn))
        obtain ⟨c1, c2⟩ := hall _ (lookA_mem hst)
        have htos : tosOf tbl n = st.tos := by
          unfold tosOf
          rw [hst]
          rfl
        have hstep := foldR_take (tosOf tbl) hn ([], settled)
        rw [hrs] at hstep
        walk_at "rd"
        refine ⟨x, n, tbl, st, rfl, ⟨dx, fs, d, s2 _ _ List.not_mem_nil h1, h2, mono_D (mono_stand K) _ _ _ _ s2.le0 h3⟩, hst, c1, c2, fun p B1 sx1 hp hp1 => ?_⟩
        refine x_itl (sqL hp1) fun D hD => ?_
        have hDp : p ≠ D := ne_of_none hp1 hD
        have k1 := sx1 _ _ List.not_mem_nil hS2
        have hDS : S ≠ D := ne_of_none k1 hD
        refine lc_it (walk_listR (R := rS) (Hb := H) (paired_S' st.tos)) (fun m C => SX [] B1 C ∧ C D = some (.lst ((st.tos.take m).map fun t => V.bl (decide (t ∈ rs.2))))) ⟨SX.new hD, upd_same⟩ (fun m C _ h => sqL (h.1 _ _ List.not_mem_nil hp1)) ?_ ?_
        · rintro m y C C' hm ⟨s3, s4⟩ ⟨rfl, t, ht, rfl⟩
          walk_at "rd"
          refine ⟨rfl, ?_⟩
          walk_at "rd"
          refine x_din' (.inl (s3 _ _ List.not_mem_nil k1)) ?_
          rw [keys_val hk2]
          refine ⟨_, s4, lt_size (by rw [List.length_map, List.length_take]; have := tos_len st; have c3 : st.size ≤ 100 := c2; omega), sx_nil_of (S := [D]) ((nil_sx s3).trans (SX.mut List.mem_cons_self)) (by simp [hD]), ?_⟩
          rw [upd_same, take_succ_of ht, List.map_append]
          rfl
        · rintro C ⟨s3, s4⟩
          rw [List.take_length] at s4
          have sBC : SX [] B C := sx1.trans s3
          refine ⟨D, st.tos.map fun t => decide (t ∈ rs.2), rfl, sqL (by rw [s4, List.map_map]; rfl), ?_⟩
          walk_at "rd"
          have eall : ((st.tos.map fun t => decide (t ∈ rs.2)).all id) = ((tosOf tbl n).all fun t => decide (t ∈ rs.2)) := by
            rw [htos, List.all_map]
            rfl
          rw [eall]
          refine x_cases (fun hc => ?_) (fun hc => ?_)
          · walk_at "rd"
            refine ⟨S, _, rfl, DPut.k (k := Sum.inr n) (sBC _ _ List.not_mem_nil hS2) (lt_size (by have := congrArg List.length hk2; simp at this; omega)), ?_⟩
            have e2 : turnR (tosOf tbl) rs n = (rs.1, addS rs.2 n) := if_pos hc
            rw [hstep, e2]
            refine ⟨_, _, rfl, sx_nil_of (S := [S]) ((nil_sx (s2.trans sBC)).trans (SX.mut List.mem_cons_self)) (by simp [hS0]), by rw [upd_ne hLS]; exact sBC _ _ List.not_mem_nil hL2, upd_same, keys_put hk2, by rw [upd_ne (Ne.symm hRS)]; exact sBC _ _ List.not_mem_nil hR2⟩
          · walk_at "rd"
            have hR3 := sBC _ _ List.not_mem_nil hR2
            refine ⟨.inl ⟨rfl, _, sqL hR3⟩, ?_⟩
            walk_at "rd"
            refine ⟨R, _, _, rfl, rfl, hR3, lt_size (by rw [List.length_map]; omega), ?_⟩
            have e2 : turnR (tosOf tbl) rs n = (rs.1 ++ [n], rs.2) := if_neg (by rw [hc]; exact Bool.false_ne_true)
            rw [hstep, e2]
            refine ⟨_, _, rfl, sx_nil_of (S := [R]) ((nil_sx (s2.trans sBC)).trans (SX.mut List.mem_cons_self)) (by simp [hR0]), by rw [upd_ne hRL]; exact sBC _ _ List.not_mem_nil hL2, by rw [upd_ne hRS]; exact sBC _ _ List.not_mem_nil hS2, hk2, ?_⟩
            rw [upd_same, List.map_append]
            rfl
      · rintro σ B ⟨b, kv2, rfl, s2, hL2, hS2, hk2, hR2⟩
        rw [List.take_length] at hk2 hR2
        generalize hrs : left.foldl (turnR (tosOf tbl)) ([], settled) = rs at hk2 hR2
        have hround : roundR (tosOf tbl) left settled = rs := hrs
        walk_at "rd"
        refine x_len (n := rs.1.length) (.inl ⟨_, sqL hR2, by rw [List.length_map]⟩) ?_
        walk_at "rd"
        refine x_len (n := left.length) (.inl ⟨_, sqL hL2, by rw [List.length_map]⟩) ?_
        walk_at "rd"
        have hl2 : rs.1.length + rs.2.length ≤ 100 := by
          have := foldR_len (tosOf tbl) left ([], settled)
          rw [hrs] at this
          simp only [List.length_nil] at this
          omega
        have hg := hgo rfl
        rw [ringR_succ (tosOf tbl) left.length left settled] at hg
        rw [hround] at hg
        refine ⟨⟨R, rs.1, rs.2, _, _, _, kv2, rfl, s2, hR2, hS2, hk2, hl2, fun n hn => ?_, fun h => ?_, fun h => ?_⟩, ?_⟩
        · rcases foldR_sub (tosOf tbl) left ([], settled) n (by rw [hrs]; exact hn) with q | q
          · cases q
          · exact hin n q
        · have h : rs.1.length < left.length := by simpa using h
          rw [if_pos h] at hg
          rw [← hg]
          exact ringR_fuel _ _ _ _ _ (Nat.lt_succ_self _) h
        · have h : ¬ rs.1.length < left.length := by simpa using h
          rw [if_neg h] at hg
          exact hg
        · rw [muR_true hL, List.length_map]
          by_cases h : rs.1.length < left.length
          · rw [decide_eq_true (show (rs.1.length : Int) < left.length by omega), muR_true hR2, List.length_map]
            omega
          · rw [decide_eq_false (show ¬ (rs.1.length : Int) < left.length by omega), muR_false]
            omega
  · rintro σ A Q1 Q2 hm ⟨v, hv, c, hc, q⟩
    exact ⟨v, hv, c, hc, hm _ _ q⟩
end
end M

namespace M
open PySem PySem.Spec PyProof.Rows L2
/-- the fields of a work -/
def workF (hands : Int) (start : Str) (d nm en : Addr) (b : Bool) : List (Str × V) := [("hands", .int hands), ("start", .str start), ("table", .ref d), ("names", .ref nm), ("ends", .ref en), ("ringless", .bl b)]
/-- the table of a work, by its stands -/
structure Tbl (sts tbl : List (Str × Stand)) : Prop where
  srt : sortedS (tbl.map (·.1)) = true
  perm : (tbl.map (·.1)).Perm (sts.map (·.1))
  all : ∀ p ∈ tbl, ∃ st, lookA sts p.1 = some st ∧ SrtStand st p.2
def endsOf (tbl : List (Str × Stand)) : List Str := (tbl.filter fun p => match p.2 with | .fin => true | _ => false).map (·.1)
structure WorkOk (hands : Int) (start : Str) (sts : List (Str × Stand)) : Prop where
  h : 1 ≤ hands ∧ hands ≤ 4
  len : 1 ≤ sts.length ∧ sts.length ≤ 100
  nd : (sts.map (·.1)).Nodup
  all : ∀ p ∈ sts, nameB p.1 = true ∧ StandOk hands (sts.map (·.1)) p.2
  st : start ∈ sts.map (·.1)
theorem StandOk.nd {h : Int} {names : List Str} {st : Stand} (o : StandOk h names st) : st.nd := by
  cases st with
  | fin => exact trivial
  | hand h ms => exact o.2.2.2.2.1
  | chance ds => exact o.2.2.1
theorem StandOk.size {h : Int} {names : List Str} {st : Stand} (o : StandOk h names st) : st.size ≤ 4 := by
  cases st with
  | fin => exact Nat.zero_le _
  | hand h ms => exact o.2.2.2.1
  | chance ds => exact o.2.1
theorem SrtStand.size {a b : Stand} (h : SrtStand a b) : b.size = a.size := by rw [← tos_len, ← tos_len, (SrtStand.tos h).length_eq]
theorem SrtStand.nd {a b : Stand} (h : SrtStand a b) (n : a.nd) : b.nd := by
  cases a <;> cases b <;> first | exact h.elim | exact trivial | exact (h.2.perm.map _).nodup_iff.mpr n | exact ((Srt.perm h).map _).nodup_iff.mpr n
section
variable {P : Program} {w : World} {K : PySem.W.Frag} {mg : Str → Option Value} {base : Heap}
structure WorkAt (T : Tx K mg) (H : Hp) (x : Addr) (hands : Int) (start : Str) (tbl : List (Str × Stand)) : Prop where
  ex : ∃ dx d nm en, H x = some (.ins T.a_Work dx (workF hands start d nm en (ringB tbl))) ∧ rD (rStand K) H (.ref d) tbl ∧ SqT K H nm ((tbl.map (·.1)).map V.str) ∧ SqT K H en ((endsOf tbl).map V.str)
theorem WorkAt.le {T : Tx K mg} {A B : Hp} {x : Addr} {hands : Int} {start : Str} {tbl : List (Str × Stand)} (e : Le A B) (h : WorkAt T A x hands start tbl) : WorkAt T B x hands start tbl := by
  obtain ⟨dx, d, nm, en, h1, h2, h3, h4⟩ := h.ex
  exact ⟨dx, d, nm, en, e.ins _ _ _ _ h1, mono_D (mono_stand K) _ _ _ _ e h2, e.t h3, e.t h4⟩
theorem memF {f : Str} {fs : List (Str × V)} (h : (fs.map (·.1)).all (fun g => decide (g ≠ f)) = true) : f ∉ fs.map (·.1) := fun m => by
  have := List.all_eq_true.mp h f m
  simp at this
theorem ne_ref {H : Hp} {a b : Addr} {o u : HO} (h : H a = some o) (h' : H b = some u) (d : o ≠ u) : a ≠ b := ne_of h h' d
def sp_Work_init (T : Tx K mg) : Sp := fun vs H Q _ => ∃ x dx v hands start sts, vs = [.ref x, .int hands, .str start, v] ∧ H x = some (.ins T.a_Work dx []) ∧ rD (rStand K) (hid [x] H) v sts ∧ WorkOk hands start sts ∧
  ∀ H' tbl, SX [x] H H' → WorkAt T H' x hands start tbl → Tbl sts tbl → Q .non H'
theorem ok_Work_init (T : Tx K mg) : FnOk P w K mg base CX0 5 T.Work_init.f T.Work_init.fd P_Work_init (sp_Work_init T) := by
  refine T.Work_init.F.ok sc_Work_init (fun vs H Q E h => ?_) (fun cdv A outer s H vs Q E hr h => ?_)
  · obtain ⟨x, dx, v, hands, start, sts, rfl, hx, hv, ok, k⟩ := h
    rfl
  have hu := hu_of hr
  have nd := sc_Work_init.nd
  obtain ⟨x, dx, v, hands, start, sts, rfl, hx, hv, ok, k⟩ := h
  refine ⟨_, (pss_cons (ps_if (PW.pt (pw_or (pt_not (pt_val (pe_call (ok_is_integer (P := P) T) (hr.mono (by decide)) (by rfl) T.is_integer.g T.is_integer.F.kp T.is_integer.B .nil pass0 (pa_cons (pv 1) pa_nil)))) (pw_or1 (pt_not (pt_chain op_le op_le pe_int (pv 1) pe_int))))) (pss_one ps_never) pss_nil)
      (pss_cons (ps_if (pt_not (pt_val (pe_call (ok_are_stands (P := P) T) (hr.mono (by decide)) (by rfl) T.are_stands.g T.are_stands.F.kp T.are_stands.B .nil pass0 (pa_cons (pv 3) (pa_cons (pv 1) pa_nil))))) (pss_one ps_never) pss_nil)
      (pss_cons (ps_if (PW.pt (pw_or (pt_not (pt_val (pe_call (ok_is_name (P := P) T) (hr.mono (by decide)) (by rfl) T.is_name.g T.is_name.F.kp T.is_name.B .nil pass0 (pa_cons (pv 2) pa_nil)))) (pw_or1 (pt_cmp (pc_dnotin hu (pv 2) (pv 3)))))) (pss_one ps_never) pss_nil)
      (pss_cons (ps_fld (pv 0) (pv 1) rfl)
      (pss_cons (ps_fld (pv 0) (pv 2) rfl)
      (pss_cons (ps_fld (pv 0) (pe_dc (own := [("name", 4)]) rfl nd (w_pilist (K := K) rfl (pe_callB (cl_sortD rfl) (by rfl) T.b_sorted (by decide +kernel) (pa_cons (pv 3) pa_nil))) (blkOk_by (own := [("name", 4)]) (N := N_Work_init) (sc := defScope s_Work_init) (by decide +kernel)) (fun _ _ _ _ _ => (pg_name (i := 4) nd rfl (Or.inl rfl))) (fun _ _ _ _ _ => pts_nil) (fun _ _ _ _ _ => (pv 4)) (fun _ _ _ _ _ => (pe_call (ok_copied (P := P) T) (hr.mono (by decide)) (by rfl) T.copied.g T.copied.F.kp T.copied.B .nil pass0 (pa_cons (pe_dget hu (pv 3) (pv 4) (fun _ _ => rfl)) pa_nil)))) rfl)
      (pss_cons (ps_fld (pv 0) (pe_callTy (w_tup (K := K) rfl) (by rfl) T.b_tuple (by decide +kernel) (pa_cons (pe_callB (cl_sortD rfl) (by rfl) T.b_sorted (by decide +kernel) (pa_cons (pv 3) pa_nil)) pa_nil)) rfl)
      (pss_cons (ps_fld (pv 0) (pe_callTy (w_tup (K := K) rfl) (by rfl) T.b_tuple (by decide +kernel) (pa_cons (pe_lc (own := [("name", 4)]) rfl nd (w_pitup (K := K) rfl (w_fld (K := K) rfl (pv 0) rfl)) (blkOk_by (own := [("name", 4)]) (N := N_Work_init) (sc := defScope s_Work_init) (by decide +kernel)) (fun _ _ _ _ _ => (pg_name (i := 4) nd rfl (Or.inl rfl))) (fun _ _ _ _ _ => pts_one (pt_cmpR op_eq (pe_ix (w_ixT (K := K) rfl) (pe_dget hu (w_fld (K := K) rfl (pv 0) rfl) (pv 4) (fun _ _ => rfl)) pe_int (fun _ _ => rfl)) pe_str (nomark _))) (fun _ _ _ _ _ => (pv 4))) pa_nil)) rfl)
      (pss_one (ps_fld (pv 0) (pe_call (ok_is_ringless (P := P) T) (hr.mono (by decide)) (by rfl) T.is_ringless.g T.is_ringless.F.kp T.is_ringless.B .nil pass0 (pa_cons (pv 0) pa_nil)) rfl)))))))))), ?_⟩
  refine x_start (σ' := [some _, some _, some _, some _, none]) rfl ?_
  try simp only [cx_n, cx_K, cx_w, cx_P]
  obtain ⟨⟨hh1, hh4⟩, ⟨hl1, hl100⟩, hnd, hall, hst⟩ := ok
  obtain ⟨d0, kvs, rfl, hr0, hk⟩ := id hv
  have hname : nameB start = true := by
    obtain ⟨p, hp, e⟩ := List.mem_map.mp hst
    rw [← e]
    exact (hall p hp).1
  walk_at "rd"
  refine ⟨_, rfl, ?_⟩
  walk_at "rd"
  refine x_true (decide_eq_true hh1) ?_
  walk_at "rd"
  rw [decide_eq_true hh4]
  walk_at "rd"
  refine ⟨_, hands, sts, rfl, mono_D (mono_stand K) _ _ _ _ le_hid hv, hl1, hl100, hall, fun H1 s1 => ?_⟩
  walk_at "rd"
  refine ⟨_, rfl, nameB_size hname, ?_⟩
  rw [hname]
  walk_at "rd"
  refine x_dni' (s1.rd (le_hid.rd _ _ trivial hr0)) ?_
  rw [keys_val hk.keys, decide_eq_true hst]
  walk_at "rd"
  refine x_setF [] (s1 _ _ List.not_mem_nil hx) T.cl_Work T.n_Work_hands rfl (by decide) (by decide) ?_
  walk_at "rd"
  refine x_setF ["hands"] upd_same T.cl_Work T.n_Work_start rfl (by decide) (by decide +kernel) ?_
  rw [upd_upd]
  -- the table
  generalize hH2 : upd H1 x (.ins T.a_Work dx (([] ++ [(("hands" : Str), V.int hands)]) ++ [(("start" : Str), V.str start)])) = H2
  have s2 : SX [x] H H2 := by rw [← hH2]; exact (nil_sx s1).trans (SX.mut List.mem_cons_self)
  have x2 : H2 x = some (.ins T.a_Work dx [("hands", .int hands), ("start", .str start)]) := by rw [← hH2, upd_same]; rfl
  clear hH2
  have lk : ∀ {b : Addr} {u : HO}, H b = some u → b ≠ x → H2 b = some u := fun h n => s2 _ _ (by simpa using n) h
  have r2 : Rd H2 d0 (.dK kvs) := s2.leH.rd _ _ trivial hr0
  walk_at "rd"
  refine x_dc (x_iList (x_CB (x_cons (x_var (by rfl) (x_nil ?_)))))
  refine x_sortD r2 hk.keys fun ys p hp hs np => ?_
  refine x_itl (sqL upd_same) fun D hD => ?_
  have hDp : D ≠ p := by
    rintro rfl
    rw [upd_same] at hD
    cases hD
  have hD2 : H2 D = none := by rw [upd_ne hDp] at hD; exact hD
  have hDx : D ≠ x := by
    rintro rfl
    rw [x2] at hD2
    cases hD2
  have hD0 : H D = none := s2.free hD2 (by simpa using hDx)
  have ysn : ys.Nodup := hp.nodup_iff.mpr hnd
  have hyl : ys.length = sts.length := by rw [hp.length_eq, List.length_map]
  refine dc_walk (walk_listR (R := rS) (Hb := H) (paired_S' ys)) (fun n A => SX [] H2 A ∧ A p = some (.lst (ys.map V.str)) ∧ ∃ kv tb, A D = some (.dK kv) ∧ KVs (rStand K) (hid [D, x] A) kv tb ∧ tb.map (·.1) = ys.take n ∧
    ∀ q ∈ tb, ∃ st, lookA sts q.1 = some st ∧ SrtStand st q.2) ?_ ?_ ?_ ?_
  · exact ⟨(SX.new np).trans (SX.new hD), by rw [upd_ne (Ne.symm hDp)]; exact upd_same, [], [], upd_same, .nil, rfl, fun _ h => nomatch h⟩
  · exact fun n A _ h => sqL h.2.1
  · rintro n y A0 A hn ⟨sA, pA, kv, tb, dA, kA, eA, allA⟩ ⟨rfl, s, hs', rfl⟩
    have sm : s ∈ sts.map (·.1) := hp.mem_iff.mp (getMem hs')
    obtain ⟨st, hst'⟩ := lookA_some sm
    obtain ⟨v, e1, rv⟩ := hk.at_ hst'
    obtain ⟨_, sok⟩ := hall _ (lookA_mem hst')
    walk_at "rd"
    refine ⟨rfl, ?_⟩
    walk_at "rd"
    refine x_dg' (sA.rd r2) e1 ?_
    walk_at "rd"
    have sHA : SX [x] H A := s2.trans (nil_sx sA)
    refine ⟨v, st, [D, x], rfl, ?_, mono_stand K _ _ _ _ (le_hidS sHA ?_) rv, sok.nd, Nat.le_trans sok.size (by decide), fun v' A' st' sx' rv' sr => ?_⟩
    · intro b hb
      rcases List.mem_cons.mp hb with rfl | hb
      · rw [dA]
        exact fun z => nomatch z
      · rcases List.mem_cons.mp hb with rfl | hb
        · rw [sA _ _ List.not_mem_nil x2]
          exact fun z => nomatch z
        · cases hb
    · intro b hb
      rcases List.mem_cons.mp hb with rfl | hb
      · exact .inr hD0
      · exact .inl hb
    have dA' := sx' _ _ List.not_mem_nil dA
    have hkl : kv.length = (ys.take n).length := by rw [Paired.length kA, ← eA, List.length_map]
    refine ⟨kv, Sum.inr s, rfl, dA', lt_size (by rw [hkl, List.length_take]; omega), ?_⟩
    have kk : kv.map (·.1) = (ys.take n).map Sum.inr := by rw [kA.keys, eA]
    rw [putK_fresh v' kk (nodup_take ysn hs')]
    have le1 : Le (hid [D, x] A) (hid [D, x] (upd A' D (.dK (kv ++ [(Sum.inr s, v')])))) := (nil_sx sx').le.trans (SX.mut (by simp)).le
    refine ⟨sx_nil_of (S := [D]) ((nil_sx (sA.trans sx')).trans (SX.mut List.mem_cons_self)) (by simp [hD2]), by rw [upd_ne (Ne.symm hDp)]; exact sx' _ _ List.not_mem_nil pA, _, tb ++ [(s, st')], upd_same, ?_, ?_, ?_⟩
    · exact Paired.app (KVs.le (mono_stand K) le1 kA) (.cons ⟨rfl, mono_stand K _ _ _ _ (SX.mut (by simp)).le rv'⟩ .nil)
    · rw [List.map_append, eA, take_succ_of hs']
      rfl
    · intro q hq
      rcases List.mem_append.mp hq with hq | hq
      · exact allA q hq
      · cases List.mem_singleton.mp hq
        exact ⟨st, hst', sr⟩
  rintro A ⟨sA, pA, kv, tb, dA, kA, eA, allA⟩
  rw [List.take_length] at eA
  have htb : Tbl sts tb := ⟨by rw [eA]; exact hs, by rw [eA]; exact hp, allA⟩
  walk_at "rd"
  refine x_setF ["hands", "start"] (sA _ _ List.not_mem_nil x2) T.cl_Work T.n_Work_table rfl (by decide) (by decide +kernel) ?_
  generalize hH3 : upd A x (.ins T.a_Work dx ([(("hands" : Str), V.int hands), (("start" : Str), V.str start)] ++ [(("table" : Str), V.ref D)])) = H3
  have x3 : H3 x = some (.ins T.a_Work dx [("hands", .int hands), ("start", .str start), ("table", .ref D)]) := by rw [← hH3, upd_same]; rfl
  have sA3 : SX [x] A H3 := by rw [← hH3]; exact SX.mut List.mem_cons_self
  have s3 : SX [x] H H3 := (s2.trans (nil_sx sA)).trans sA3
  have tb3 : rD (rStand K) (hid [x] H3) (.ref D) tb := by
    refine ⟨D, kv, rfl, .inl ?_, KVs.le (mono_stand K) ((le_hid2 (S := [x]) (by simp)).trans sA3.le) kA⟩
    rw [hid_of (by simpa using hDx)]
    exact sA3 _ _ (by simpa using hDx) dA
  clear hH3
  walk_at "rd"
  have r3 : Rd H3 d0 (.dK kvs) := s3.leH.rd _ _ trivial hr0
  refine x_sortD r3 hk.keys fun ys2 p2 hp2 hs2 np2 => ?_
  have ey : ys2 = ys := sorted_one hs2 hs (hp2.trans hp.symm)
  subst ey
  walk_at "rd"
  refine x_ctup (sqL upd_same) fun nm hnm => ?_
  walk_at "rd"
  have xp2 : x ≠ p2 := ne_of_none x3 np2
  have hnp : nm ≠ p2 := by
    rintro rfl
    rw [upd_same] at hnm
    cases hnm
  have hnm3 : H3 nm = none := by rw [upd_ne hnp] at hnm; exact hnm
  have xnm : x ≠ nm := ne_of_none x3 hnm3
  refine x_setF ["hands", "start", "table"] (by rw [upd_ne xnm, upd_ne xp2]; exact x3) T.cl_Work T.n_Work_names rfl (by decide) (by decide +kernel) ?_
  generalize hH4 : upd (upd (upd H3 p2 (.lst (ys2.map V.str))) nm (.tup (ys2.map V.str))) x (.ins T.a_Work dx ([(("hands" : Str), V.int hands), (("start" : Str), V.str start), (("table" : Str), V.ref D)] ++ [(("names" : Str), V.ref nm)])) = H4
  have x4 : H4 x = some (.ins T.a_Work dx [("hands", .int hands), ("start", .str start), ("table", .ref D), ("names", .ref nm)]) := by rw [← hH4, upd_same]; rfl
  have s34 : SX [x] H3 H4 := by rw [← hH4]; exact (nil_sx ((SX.new np2).trans (SX.new hnm))).trans (SX.mut List.mem_cons_self)
  have s4 : SX [x] H H4 := s3.trans s34
  have tb4 : rD (rStand K) (hid [x] H4) (.ref D) tb := mono_D (mono_stand K) _ _ _ _ s34.le tb3
  have nm4 : SqT K (hid [x] H4) nm (ys2.map V.str) := by
    refine sqT ?_
    rw [hid_of (by simpa using Ne.symm xnm), ← hH4, upd_ne (Ne.symm xnm), upd_same]
  clear hH4
  walk_at "rd"
  refine x_getF x4 T.cl_Work T.n_Work_names (look_next (by decide +kernel) (look_next (by decide +kernel) (look_next (by decide +kernel) look_here))) ?_
  refine x_itt (le_hid.t nm4) fun E1 hE1 => ?_
  have lt : tb.length = ys2.length := by rw [← eA, List.length_map]
  have xE : x ≠ E1 := ne_of_none x4 hE1
  obtain ⟨_, kv4, eD, rD4, kD4⟩ := id tb4
  cases eD
  refine lc_it (walk_tupR (R := rS) (Hb := H) (paired_S' ys2)) (fun n A => SX [] H4 A ∧ A E1 = some (.lst ((endsOf (tb.take n)).map V.str))) ⟨SX.new hE1, upd_same⟩ (fun n A _ h => h.1.le0.t (le_hid.t nm4)) ?_ ?_
  · rintro n y A0 A5 hn ⟨sA5, eA5⟩ ⟨rfl, s, hs5, rfl⟩
    obtain ⟨q, hq, eq⟩ : ∃ q, tb[n]? = some q ∧ q.1 = s := by
      rw [← eA, List.getElem?_map] at hs5
      cases h : tb[n]? with
      | none => rw [h] at hs5; cases hs5
      | some q => rw [h] at hs5; cases hs5; exact ⟨q, rfl, rfl⟩
    have tnd : (tb.map (·.1)).Nodup := by rw [eA]; exact ysn
    obtain ⟨v5, ev5, rv5⟩ := kD4.in_ tnd (getMem hq)
    rw [eq] at ev5
    walk_at "rd"
    refine ⟨rfl, ?_⟩
    walk_at "rd"
    refine x_getF (sA5 _ _ List.not_mem_nil x4) T.cl_Work T.n_Work_table (look_next (by decide +kernel) (look_next (by decide +kernel) look_here)) ?_
    walk_at "rd"
    refine x_dg' (sA5.le0.rd _ _ trivial (le_hid.rd _ _ trivial rD4)) ev5 ?_
    walk_at "rd"
    have step : endsOf (tb.take (n + 1)) = endsOf (tb.take n) ++ endsOf [q] := by
      rw [take_succ_of hq]
      unfold endsOf
      rw [List.filter_append, List.map_append]
    have h5 : Le (hid [x] H4) A5 := le_hid.trans sA5.le0
    have fit : ((endsOf (tb.take n)).map V.str).length < sizeLine := by
      refine lt_size ?_
      rw [List.length_map]
      unfold endsOf
      rw [List.length_map]
      have := List.length_filter_le (fun p : Str × Stand => match p.2 with | .fin => true | _ => false) (tb.take n)
      rw [List.length_take] at this
      omega
    cases hq2 : q.2 with
    | fin =>
      rw [hq2] at rv5
      obtain ⟨p5, rfl, hp5⟩ := rv5
      refine x_ixT (h5.t hp5) (atI_nat (j := 0) rfl) ?_
      walk_at "rd"
      walk_at "if!"
      walk_at "rd"
      have one : endsOf [q] = [s] := by
        unfold endsOf
        rw [← eq]
        obtain ⟨q1, q2⟩ := q
        cases hq2
        rfl
      refine ⟨_, eA5, fit, sx_nil_of (S := [E1]) ((nil_sx sA5).trans (SX.mut List.mem_cons_self)) (by simp [hE1]), ?_⟩
      rw [upd_same, step, one, List.map_append]
      rfl
    | hand h5' ms =>
      rw [hq2] at rv5
      obtain ⟨p5, d5, rfl, hp5, _⟩ := rv5
      refine x_ixT (h5.t hp5) (atI_nat (j := 0) rfl) ?_
      walk_at "rd"
      walk_at "if!"
      have one : endsOf [q] = [] := by
        unfold endsOf
        obtain ⟨q1, q2⟩ := q
        cases hq2
        rfl
      refine ⟨sA5, ?_⟩
      rw [step, one, List.append_nil]
      exact eA5
    | chance ds =>
      rw [hq2] at rv5
      obtain ⟨p5, d5, rfl, hp5, _⟩ := rv5
      refine x_ixT (h5.t hp5) (atI_nat (j := 0) rfl) ?_
      walk_at "rd"
      walk_at "if!"
      have one : endsOf [q] = [] := by
        unfold endsOf
        obtain ⟨q1, q2⟩ := q
        cases hq2
        rfl
      refine ⟨sA5, ?_⟩
      rw [step, one, List.append_nil]
      exact eA5
  rintro A5 ⟨sA5, eA5⟩
  rw [← lt, List.take_length] at eA5
  walk_at "rd"
  refine x_ctup (sqL eA5) fun en hen => ?_
  walk_at "rd"
  have x5 := sA5 _ _ List.not_mem_nil x4
  have xen : x ≠ en := ne_of_none x5 hen
  refine x_setF ["hands", "start", "table", "names"] (by rw [upd_ne xen]; exact x5) T.cl_Work T.n_Work_ends rfl (by decide) (by decide +kernel) ?_
  generalize hH6 : upd (upd A5 en (.tup ((endsOf tb).map V.str))) x (.ins T.a_Work dx ([(("hands" : Str), V.int hands), (("start" : Str), V.str start), (("table" : Str), V.ref D), (("names" : Str), V.ref nm)] ++ [(("ends" : Str), V.ref en)])) = H6
  have x6 : H6 x = some (.ins T.a_Work dx [("hands", .int hands), ("start", .str start), ("table", .ref D), ("names", .ref nm), ("ends", .ref en)]) := by rw [← hH6, upd_same]; rfl
  have s46 : SX [x] H4 H6 := by rw [← hH6]; exact (nil_sx (sA5.trans (SX.new hen))).trans (SX.mut List.mem_cons_self)
  have tb6 : rD (rStand K) (hid [x] H6) (.ref D) tb := mono_D (mono_stand K) _ _ _ _ s46.le tb4
  have nm6 : SqT K (hid [x] H6) nm ((tb.map (·.1)).map V.str) := by rw [eA]; exact s46.le.t nm4
  have en6 : SqT K (hid [x] H6) en ((endsOf tb).map V.str) := by
    refine sqT ?_
    rw [hid_of (by simpa using Ne.symm xen), ← hH6, upd_ne (Ne.symm xen), upd_same]
  clear hH6
  walk_at "rd"
  refine ⟨x, tb, dx, _, D, nm, rfl, x6, look_next (by decide +kernel) (look_next (by decide +kernel) look_here), mono_D (mono_stand K) _ _ _ _ le_hid tb6,
    look_next (by decide +kernel) (look_next (by decide +kernel) (look_next (by decide +kernel) look_here)), le_hid.t nm6, by omega, fun q hq => ?_, fun H7 s7 => ?_⟩
  · obtain ⟨st, e1, sr⟩ := allA q hq
    obtain ⟨_, sok⟩ := hall _ (lookA_mem e1)
    exact ⟨sr.nd sok.nd, by rw [sr.size]; exact Nat.le_trans sok.size (by decide)⟩
  walk_at "rd"
  refine x_setF ["hands", "start", "table", "names", "ends"] (s7 _ _ List.not_mem_nil x6) T.cl_Work T.n_Work_ringless rfl (by decide) (by decide +kernel) ?_
  have s78 : SX [x] H6 (upd H7 x (.ins T.a_Work dx ([(("hands" : Str), V.int hands), (("start" : Str), V.str start), (("table" : Str), V.ref D), (("names" : Str), V.ref nm), (("ends" : Str), V.ref en)] ++ [(("ringless" : Str), V.bl (ringB tb))]))) := (nil_sx s7).trans (SX.mut List.mem_cons_self)
  refine k _ tb ((s4.trans s46).trans s78) ⟨dx, D, nm, en, upd_same, mono_D (mono_stand K) _ _ _ _ s78.leH tb6, s78.leH.t nm6, s78.leH.t en6⟩ htb
end
end M

namespace M
open PySem PySem.Spec PyProof.Rows L2
/-! ### the pool of numbers that a law draws from -/
def PoolOk (ns : List Int) : Prop := ns.length ≤ 64 ∧ ∃ x r, ns = x :: r ∧ 0 ≤ x ∧ x < 2147483648
def Pool (H : Hp) (p : Addr) : Prop := ∃ ns, H p = some (.lst (ns.map V.int)) ∧ PoolOk ns
theorem Pool.there {H : Hp} {p : Addr} (h : Pool H p) : H p ≠ none := by
  obtain ⟨ns, e, _⟩ := h
  rw [e]
  exact fun z => nomatch z
theorem Pool.sx {S : List Addr} {A B : Hp} {p : Addr} (h : Pool A p) (a : SX S A B) (n : p ∉ S) : Pool B p := by
  obtain ⟨ns, e, o⟩ := h
  exact ⟨ns, a _ _ n e, o⟩
theorem at_map {ns : List Int} {i : Nat} {n : Int} (h : ns[i]? = some n) : atI (ns.map V.int) (i : Int) = some (.int n) := atI_nat (by rw [List.getElem?_map, h]; rfl)
theorem ixN_nat {n j : Nat} (h : j < n) : ixN n (j : Int) = some j := by
  unfold ixN
  rw [if_pos (by omega), if_pos (by omega)]
  rfl
section
variable {P : Program} {w : World} {K : PySem.W.Frag} {mg : Str → Option Value} {base : Heap}
def sp_law_draw (T : Tx K mg) : Sp := fun vs H Q _ => ∃ p n, vs = [.ref p, .int n] ∧ Pool H p ∧ 0 < n ∧ n < 2 ^ 200 ∧ ∀ r H', 0 ≤ r → r < n → SX [p] H H' → Pool H' p → Q (.int r) H'
theorem ok_law_draw (T : Tx K mg) : FnOk P w K mg base CX0 1 T.law_draw.f T.law_draw.fd P_law_draw (sp_law_draw T) := by
  refine T.law_draw.F.ok sc_law_draw (fun vs H Q E h => ?_) (fun cdv A outer s H vs Q E hr h => ?_)
  · obtain ⟨p, n, rfl, ⟨ns, hp, hlen, x, rest, rfl, hx0, hx1⟩, hn0, hn1, k⟩ := h
    rfl
  have hu := hu_of hr
  have nd := sc_law_draw.nd
  obtain ⟨p, n, rfl, ⟨ns, hp, hlen, x, rest, rfl, hx0, hx1⟩, hn0, hn1, k⟩ := h
  refine ⟨_, (pss_cons (ps_if (pt_cmpR op_gt (pe_callB (w_len (K := K) rfl) (by rfl) T.b_len (by decide +kernel) (pa_cons (pv 0) pa_nil)) pe_int (nomark _)) (pss_cons (ps_set (i := 2) nd rfl (Or.inl rfl) (pe_op op_mod (pe_callTy cl_int (by rfl) T.b_int (by decide +kernel) (pa_cons (pe_ix (w_ixL (K := K) rfl) (pv 0) pe_int (fun _ _ => rfl)) pa_nil)) (pv 1)))
      (pss_cons (ps_asg (pe_op op_fdivW (pe_ix (w_ixL (K := K) rfl) (pv 0) pe_int (fun _ _ => rfl)) (pv 1)) (pg_sub (pv 0) pe_int set_list))
      (pss_cons (ps_if (pt_cmpR op_le (pe_ix (w_ixL (K := K) rfl) (pv 0) pe_int (fun _ _ => rfl)) pe_int (nomark _)) (pss_one (ps_expr (pe_bm PySem.F.plainAttrs_list PySem.F.slot_list_pop PySem.F.type_list_pop mt_popAt (pv 0) (pa_cons pe_int pa_nil)))) pss_nil)
      (pss_one (ps_ret (pv 2)))))) pss_nil)
      (pss_cons (ps_asg (pe_op op_mod (pe_callTy cl_int (by rfl) T.b_int (by decide +kernel) (pa_cons (pe_op op_add (pe_op op_mul (pe_ix (w_ixL (K := K) rfl) (pv 0) pe_int (fun _ _ => rfl)) pe_int) pe_int) pa_nil)) pe_int) (pg_sub (pv 0) pe_int set_list))
      (pss_cons (ps_set (i := 3) nd rfl (Or.inl rfl) (pe_op op_mod (pe_callTy cl_int (by rfl) T.b_int (by decide +kernel) (pa_cons (pe_op op_mul (pe_ix (w_ixL (K := K) rfl) (pv 0) pe_int (fun _ _ => rfl)) (pe_op op_add (pe_op op_fdivW (pe_ix (w_ixL (K := K) rfl) (pv 0) pe_int (fun _ _ => rfl)) pe_int) pe_int)) pa_nil)) pe_int))
      (pss_one (ps_ret (pe_op op_mod (pe_callTy cl_int (by rfl) T.b_int (by decide +kernel) (pa_cons (pe_op op_fdivW (pv 3) pe_int) pa_nil)) (pv 1))))))), ?_⟩
  refine x_start (σ' := [some _, some _, none, none]) rfl ?_
  try simp only [cx_n, cx_K, cx_w, cx_P]
  walk_at "rd"
  refine x_lenL' (sqL hp) ?_
  walk_at "rd"
  have divN : CDivW x n := wide_div (b := 200) hn0 (by omega) (by decide) (by decide)
  rw [List.length_map]
  refine x_cases (fun h => ?_) (fun h => ?_)
  · -- a number of the script's own
    cases rest with
    | nil => simp at h
    | cons y r =>
      have a1 : atI ((x :: y :: r).map V.int) 1 = some (.int y) := at_map (i := 1) rfl
      walk_at "rd"
      refine x_ixL (sqL hp) a1 ?_
      walk_at "rd"
      refine x_I hn0 ?_
      walk_at "rd"
      refine x_ixL (sqL hp) a1 ?_
      walk_at "rd"
      refine x_I (wide_div (b := 200) hn0 (by omega) (by decide) (by decide)) ?_
      walk_at "rd"
      refine ⟨p, _, _, 1, rfl, rfl, hp, ixN_nat (j := 1) (by simp), ?_⟩
      have e : (List.map V.int (x :: y :: r)).set 1 (V.int (y / n)) = List.map V.int (x :: (y / n) :: r) := rfl
      rw [e]
      have hn' : 0 < n := hn0
      walk_at "rd"
      refine x_ixL (sqL upd_same) (at_map (i := 1) rfl) ?_
      walk_at "rd"
      have g0 : 0 ≤ y % n := Int.emod_nonneg _ (by omega)
      have g1 : y % n < n := Int.emod_lt_of_pos _ hn0
      refine x_cases (fun h2 => ?_) (fun h2 => ?_)
      · walk_at "rd"
        refine ⟨.inl ⟨rfl, _, sqL upd_same⟩, ?_⟩
        walk_at "rd"
        refine ⟨p, _, 1, 1, .int (y / n), rfl, rfl, upd_same, by decide, by decide, by simp [seqIndex?]; omega, rfl, ?_⟩
        walk_at "rd"
        refine k _ _ g0 g1 ((SX.mut List.mem_cons_self).trans (SX.mut List.mem_cons_self)) ⟨x :: r, ?_, ?_, x, r, rfl, hx0, hx1⟩
        · rw [upd_same]
          rfl
        · simp at hlen ⊢
          omega
      · walk_at "rd"
        exact k _ _ g0 g1 (SX.mut List.mem_cons_self) ⟨x :: (y / n) :: r, upd_same, by simpa using hlen, x, _, rfl, hx0, hx1⟩
  · walk_at "rd"
    have a0 : atI ((x :: rest).map V.int) 0 = some (.int x) := at_map (i := 0) rfl
    refine x_ixL (sqL hp) a0 ?_
    walk_at "rd"
    refine x_I (.inl ⟨by omega, by omega⟩) ?_
    walk_at "rd"
    refine x_I (by decide) ?_
    walk_at "rd"
    refine ⟨p, _, _, 0, rfl, rfl, hp, ixN_nat (j := 0) (by simp), ?_⟩
    generalize hy : (x * 48271 + 30103) % 2147483647 = y
    have y0 : 0 ≤ y := by omega
    have y1 : y < 2147483647 := by omega
    have e : (List.map V.int (x :: rest)).set 0 (V.int y) = List.map V.int (y :: rest) := rfl
    rw [e]
    have b0 : atI ((y :: rest).map V.int) 0 = some (.int y) := at_map (i := 0) rfl
    walk_at "rd"
    refine x_ixL (sqL upd_same) b0 ?_
    walk_at "rd"
    refine x_ixL (sqL upd_same) b0 ?_
    walk_at "rd"
    refine x_I ⟨by decide, by decide⟩ ?_
    walk_at "rd"
    refine x_I (.inl ⟨by omega, by omega⟩) ?_
    walk_at "rd"
    refine x_I (by decide) ?_
    walk_at "rd"
    refine x_I ⟨by decide, by decide⟩ ?_
    walk_at "rd"
    refine x_I hn0 ?_
    exact k _ _ (Int.emod_nonneg _ (by omega)) (Int.emod_lt_of_pos _ hn0) (SX.mut List.mem_cons_self) ⟨y :: rest, upd_same, by simpa using hlen, y, rest, rfl, y0, by omega⟩
def sp_law_pool (T : Tx K mg) : Sp := fun vs H Q _ => ∃ (a : Addr) (ns : List Int), vs = [.ref a] ∧ SqL K H a (ns.map V.int) ∧ ns.length ≤ 10000 ∧ ∀ p H', H p = none → SX [] H H' → Pool H' p → Q (.ref p) H'
theorem bits60 : ((Builtin.Int.intBits (10 ^ (60 : Int).toNat) : Nat) : Int) * 10 ≤ 2 ^ 27 := by decide +kernel
theorem ok_law_pool (T : Tx K mg) : FnOk P w K mg base CX0 1 T.law_pool.f T.law_pool.fd P_law_pool (sp_law_pool T) := by
  refine T.law_pool.F.ok sc_law_pool (fun vs H Q E h => ?_) (fun cdv A outer s H vs Q E hr h => ?_)
  · obtain ⟨a, ns, rfl, ha, hlen, k⟩ := h
    rfl
  have hu := hu_of hr
  have nd := sc_law_pool.nd
  obtain ⟨a, ns, rfl, ha, hlen, k⟩ := h
  refine ⟨_, (pss_cons (ps_set (i := 1) nd rfl (Or.inl rfl) (pe_lst (pa_cons (pe_op op_add (pe_op op_mod (pe_callB (w_len (K := K) rfl) (by rfl) T.b_len (by decide +kernel) (pa_cons (pv 0) pa_nil)) pe_int) pe_int) pa_nil)))
      (pss_cons (ps_for PassesOwn.never rfl (pi_range1 (by rfl) T.b_range (pa_cons (pe_callB (cl_min2 rfl) (by rfl) T.b_min (by decide +kernel) (pa_cons pe_int (pa_cons (pe_callB (w_len (K := K) rfl) (by rfl) T.b_len (by decide +kernel) (pa_cons (pv 0) pa_nil)) pa_nil))) pa_nil)) (pg_name (i := 2) nd rfl (Or.inl rfl)) (pss_cons (ps_asg (pe_op op_mod (pe_callTy cl_int (by rfl) T.b_int (by decide +kernel) (pa_cons (pe_op op_add (pe_op op_add (pe_op op_mul (pe_ix (w_ixL (K := K) rfl) (pv 1) pe_int (fun _ _ => rfl)) pe_int) (pe_op op_mod (pe_callTy cl_int (by rfl) T.b_int (by decide +kernel) (pa_cons (pe_ix (w_ixL (K := K) rfl) (pv 0) (pv 2) (fun _ _ => rfl)) pa_nil)) pe_int)) (pe_op op_mul pe_int (pv 2))) pa_nil)) pe_int) (pg_sub (pv 1) pe_int set_list))
      (pss_one (ps_if (pt_cmpR op_ge (pe_ix (w_ixL (K := K) rfl) (pv 0) (pv 2) (fun _ _ => rfl)) (pe_op op_powB pe_int pe_int) (nomark _)) (pss_cons (ps_set (i := 3) nd rfl (Or.inl rfl) (pe_op op_mod (pe_callTy cl_int (by rfl) T.b_int (by decide +kernel) (pa_cons (pe_ix (w_ixL (K := K) rfl) (pv 0) (pv 2) (fun _ _ => rfl)) pa_nil)) (pe_op op_powB (pe_op op_powB pe_int pe_int) pe_int)))
      (pss_one (ps_if (pt_cmpR op_gt (pv 3) pe_int (nomark _)) (pss_one (ps_expr (pe_bm PySem.F.plainAttrs_list PySem.F.slot_list_append PySem.F.type_list_append mt_append (pv 1) (pa_cons (pv 3) pa_nil)))) pss_nil))) pss_nil))))
      (pss_one (ps_ret (pv 1))))), ?_⟩
  refine x_start (σ' := [some _, none, none, none]) rfl ?_
  try simp only [cx_n, cx_K, cx_w, cx_P]
  walk_at "rd"
  refine x_lenL' ha ?_
  walk_at "rd"
  refine x_I (by decide) ?_
  walk_at "rd"
  refine ⟨Nat.le_of_ble_eq_true rfl, fun p hp => ?_⟩
  walk_at "rd"
  rw [List.length_map]
  have s1 : SX [] H (upd H p (.lst [.int ((ns.length : Int) % 1009 + 17)])) := SX.new hp
  refine x_lenL' (s1.le0.l ha) ?_
  walk_at "rd"
  rw [List.length_map]
  refine x_rng1 (by omega) (by omega) ?_
  generalize hm : (if (ns.length : Int) < 63 then (ns.length : Int) else 63) = m
  have m0 : 0 ≤ m ∧ m ≤ 63 ∧ m ≤ ns.length := by
    rw [← hm]
    split <;> omega
  refine for_it walk_rng (fun i σ A => SX [] H A ∧ (∃ qs, A p = some (.lst (qs.map V.int)) ∧ qs.length ≤ 1 + i ∧ ∃ x r, qs = x :: r ∧ 0 ≤ x ∧ x < 2147483648) ∧ ∃ b c, σ = [some (.ref a), some (.ref p), b, c]) ?_ (fun _ _ _ _ _ => trivial) ?_ ?_
  · refine ⟨s1, ⟨[(ns.length : Int) % 1009 + 17], upd_same, Nat.le_refl _, _, _, rfl, by omega, by omega⟩, none, none, rfl⟩
  · rintro i x σ A0 A hi ⟨sA, ⟨qs, hq, hql, y, r, rfl, hy0, hy1⟩, b, c, rfl⟩ ⟨rfl, rfl⟩
    have hi2 : i < ns.length := by omega
    obtain ⟨z, hz⟩ : ∃ z, ns[i]? = some z := ⟨ns[i], by simp [hi2]⟩
    have az : atI (ns.map V.int) (i : Int) = some (.int z) := at_map hz
    walk_at "rd"
    refine x_ixL (sqL hq) (at_map (i := 0) rfl) ?_
    walk_at "rd"
    refine x_I (.inr ⟨by decide, by decide⟩) ?_
    walk_at "rd"
    refine x_ixL (sA.le0.l ha) az ?_
    walk_at "rd"
    refine x_I (by decide) ?_
    walk_at "rd"
    refine x_I (.inl ⟨by decide, by decide⟩) ?_
    walk_at "rd"
    refine x_I (by decide) ?_
    walk_at "rd"
    refine ⟨p, _, _, 0, rfl, rfl, hq, ixN_nat (j := 0) (by simp), ?_⟩
    generalize hy' : (y * 69621 + z % 1000003 + 7 * (i : Int)) % 2147483647 = y'
    have y0 : 0 ≤ y' := by omega
    have y1 : y' < 2147483647 := by omega
    have e : (List.map V.int (y :: r)).set 0 (V.int y') = List.map V.int (y' :: r) := rfl
    rw [e]
    have sA' : SX [] H (upd A p (.lst (List.map V.int (y' :: r)))) := sx_nil_of (S := [p]) ((nil_sx sA).trans (SX.mut List.mem_cons_self)) (by simp [hp])
    walk_at "rd"
    refine x_ixL (sA'.le0.l ha) az ?_
    walk_at "rd"
    refine x_I ⟨by decide, by decide +kernel⟩ ?_
    walk_at "rd"
    simp at hql
    refine x_cases (fun h => ?_) (fun h => ?_)
    · walk_at "rd"
      refine x_ixL (sA'.le0.l ha) az ?_
      walk_at "rd"
      refine x_I ⟨by decide, by decide +kernel⟩ ?_
      walk_at "rd"
      refine x_I ⟨by decide, bits60⟩ ?_
      walk_at "rd"
      refine x_I (by decide +kernel) ?_
      walk_at "rd"
      refine x_cases (fun h2 => ?_) (fun h2 => ?_)
      · walk_at "rd"
        refine ⟨.inl ⟨rfl, _, sqL upd_same⟩, ?_⟩
        walk_at "rd"
        refine ⟨p, _, _, rfl, rfl, upd_same, lt_size (by simp; omega), ?_⟩
        refine ⟨sx_nil_of (S := [p]) ((nil_sx sA').trans (SX.mut List.mem_cons_self)) (by simp [hp]), ⟨(y' :: r) ++ [z % (10 ^ (60 : Int).toNat) ^ (10 : Int).toNat], ?_, by simp; omega, y', _, rfl, y0, by omega⟩, _, _, rfl⟩
        rw [upd_same, List.map_append]
        rfl
      · walk_at "rd"
        exact ⟨sA', ⟨y' :: r, upd_same, by simp; omega, y', r, rfl, y0, by omega⟩, _, _, rfl⟩
    · walk_at "rd"
      exact ⟨sA', ⟨y' :: r, upd_same, by simp; omega, y', r, rfl, y0, by omega⟩, _, _, rfl⟩
  · rintro σ A ⟨sA, ⟨qs, hq, hql, hrest⟩, b, c, rfl⟩
    walk_at "rd"
    exact k p A hp sA ⟨qs, hq, by omega, hrest⟩
end
end M

namespace M
open PySem PySem.Spec PyProof.Rows L2
/-! ### words -/
theorem app_cps (a b : Str) : (a ++ b : Str).cps.toList = a.cps.toList ++ b.cps.toList := by
  show (a.cps ++ b.cps).toList = _
  exact Array.toList_append
theorem app_len (a b : Str) : (a ++ b : Str).length = a.length + b.length := by
  have := congrArg List.length (app_cps a b)
  simpa [Str.length] using this
theorem str_len (a : Str) : a.cps.toList.length = a.length := by simp [Str.length]
theorem letters_at : ∀ i, i < 26 → ((("abcdefghijklmnopqrstuvwxyz" : Str).cps.toList[i]?).map lowB) = some true := by decide +kernel
theorem signs_at : ∀ i, i < 36 → (((("abcdefghijklmnopqrstuvwxyz" : Str) ++ ("0123456789" : Str) : Str).cps.toList[i]?).map fun c => lowB c || digB c) = some true := by decide +kernel
theorem at_opt {l : List Nat} {f : Nat → Bool} {i : Nat} (h : (l[i]?).map f = some true) : ∃ c, l[i]? = some c ∧ f c = true := by
  cases e : l[i]? with
  | none => rw [e] at h; cases h
  | some c => rw [e] at h; exact ⟨c, rfl, Option.some.inj h⟩
theorem at_ints {ns : List Int} {r : Int} (h0 : 0 ≤ r) (h1 : r < ns.length) : ∃ n, atI (ns.map V.int) r = some (.int n) ∧ n ∈ ns := by
  obtain ⟨i, rfl⟩ : ∃ i : Nat, r = (i : Int) := ⟨r.toNat, by omega⟩
  have hi : i < ns.length := by omega
  exact ⟨ns[i], at_map (by simp [hi]), List.getElem_mem hi⟩
theorem at_strs {ns : List Str} {r : Int} (h0 : 0 ≤ r) (h1 : r < ns.length) : ∃ n, atI (ns.map V.str) r = some (.str n) ∧ n ∈ ns := by
  obtain ⟨i, rfl⟩ : ∃ i : Nat, r = (i : Int) := ⟨r.toNat, by omega⟩
  have hi : i < ns.length := by omega
  exact ⟨ns[i], atI_nat (by rw [List.getElem?_map]; simp [hi]), List.getElem_mem hi⟩
theorem flat_strs (l : List Str) : (l.map V.str).all flatV = true := by
  rw [List.all_map]
  exact List.all_eq_true.mpr fun _ _ => rfl
/-- the first is a letter, all are letters or digits -/
structure WordOk (s : Str) : Prop where
  low : lowB (s.cps.toList.getD 0 0) = true
  all : ∀ c ∈ s.cps.toList, (lowB c || digB c) = true
theorem WordOk.name {s : Str} (h : WordOk s) (h1 : 1 ≤ s.length ∧ s.length ≤ 8) : nameB s = true := nameB_yes h1 h.low h.all
theorem WordOk.app {s : Str} {c : Nat} (h : WordOk s) (h1 : 1 ≤ s.length) (hc : (lowB c || digB c) = true) : WordOk (s ++ ⟨#[c]⟩) := by
  refine ⟨?_, fun d hd => ?_⟩
  · rw [app_cps, List.getD_eq_getElem?_getD, List.getElem?_append_left (by rw [str_len]; exact h1), ← List.getD_eq_getElem?_getD]
    exact h.low
  · rw [app_cps] at hd
    rcases List.mem_append.mp hd with hd | hd
    · exact h.all d hd
    · cases List.mem_singleton.mp hd
      exact hc
theorem n_names : ∀ j, j < 60 → nameB (("n" : Str) ++ (toString ((j : Nat) : Int) : Str)) = true := by decide +kernel
theorem small_log {j : Nat} (h : j < 1000000) : ((j : Int)).natAbs.log2 < 1920 := by
  have : ((j : Int)).natAbs = j := rfl
  rw [this]
  by_cases h0 : j = 0
  · subst h0
    decide
  · exact Nat.lt_of_lt_of_le ((Nat.log2_lt h0).mpr (show j < 2 ^ 20 by omega)) (by decide)
section
variable {P : Program} {w : World} {K : PySem.W.Frag} {mg : Str → Option Value} {base : Heap}
def sp_law_word (T : Tx K mg) : Sp := fun vs H Q _ => ∃ p n, vs = [.ref p, .int n] ∧ Pool H p ∧ 1 ≤ n ∧ n ≤ 8 ∧ ∀ s H', nameB s = true → (s.length : Int) ≤ n → SX [p] H H' → Pool H' p → Q (.str s) H'
theorem ok_law_word (T : Tx K mg) : FnOk P w K mg base CX0 2 T.law_word.f T.law_word.fd P_law_word (sp_law_word T) := by
  refine T.law_word.F.ok sc_law_word (fun vs H Q E h => ?_) (fun cdv A outer s H vs Q E hr h => ?_)
  · obtain ⟨p, n, rfl, hp, hn1, hn8, k⟩ := h
    rfl
  have hu := hu_of hr
  have nd := sc_law_word.nd
  obtain ⟨p, n, rfl, hp, hn1, hn8, k⟩ := h
  refine ⟨_, (pss_cons (ps_set (i := 2) nd rfl (Or.inl rfl) pe_str)
      (pss_cons (ps_set (i := 3) nd rfl (Or.inl rfl) (pe_op op_catS (pv 2) pe_str))
      (pss_cons (ps_set (i := 4) nd rfl (Or.inl rfl) (pe_ix ix_str (pv 2) (pe_call (ok_law_draw (P := P) T) (hr.mono (by decide)) (by rfl) T.law_draw.g T.law_draw.F.kp T.law_draw.B .nil pass0 (pa_cons (pv 0) (pa_cons pe_int pa_nil))) (fun _ _ => rfl)))
      (pss_cons (ps_for PassesOwn.never rfl (pi_range1 (by rfl) T.b_range (pa_cons (pe_call (ok_law_draw (P := P) T) (hr.mono (by decide)) (by rfl) T.law_draw.g T.law_draw.F.kp T.law_draw.B .nil pass0 (pa_cons (pv 0) (pa_cons (pv 1) pa_nil))) pa_nil)) (pg_name (i := 5) nd rfl (Or.inl rfl)) (pss_one (ps_set (i := 4) nd rfl (Or.inl rfl) (pe_op op_catS (pv 4) (pe_ix ix_str (pv 3) (pe_call (ok_law_draw (P := P) T) (hr.mono (by decide)) (by rfl) T.law_draw.g T.law_draw.F.kp T.law_draw.B .nil pass0 (pa_cons (pv 0) (pa_cons pe_int pa_nil))) (fun _ _ => rfl))))))
      (pss_one (ps_ret (pv 4))))))), ?_⟩
  refine x_start (σ' := [some _, some _, none, none, none, none]) rfl ?_
  try simp only [cx_n, cx_K, cx_w, cx_P]
  walk_at "rd"
  refine x_catS (by decide +kernel) ?_
  walk_at "rd"
  refine ⟨p, 26, rfl, hp, by decide, by decide, fun r H1 r0 r1 s1 p1 => ?_⟩
  obtain ⟨i, rfl⟩ : ∃ i : Nat, r = (i : Int) := ⟨r.toNat, by omega⟩
  obtain ⟨c, hc, lc⟩ := at_opt (letters_at i (by omega))
  refine x_ixS (by decide +kernel) (atI_nat hc) ?_
  walk_at "rd"
  refine ⟨p, n, rfl, p1, by omega, by omega, fun m H2 m0 m1 s2 p2 => ?_⟩
  refine x_rng1 (by omega) (by omega) ?_
  refine for_it walk_rng (fun i σ A => SX [p] H A ∧ Pool A p ∧ ∃ s b, WordOk s ∧ s.length = 1 + i ∧ σ = [some (.ref p), some (.int n), some (.str "abcdefghijklmnopqrstuvwxyz"), some (.str ((("abcdefghijklmnopqrstuvwxyz" : Str) ++ ("0123456789" : Str) : Str))), some (.str s), b])
    ⟨s1.trans s2, p2, ⟨#[c]⟩, none, ⟨lc, fun d hd => by cases List.mem_singleton.mp hd; rw [lc]; rfl⟩, rfl, rfl⟩ (fun _ _ _ _ _ => trivial) ?_ ?_
  · rintro j x σ A0 A hj ⟨sA, pA, s, b, ws, wl, rfl⟩ ⟨rfl, rfl⟩
    walk_at "rd"
    refine ⟨p, 36, rfl, pA, by decide, by decide, fun r H3 r0 r1 s3 p3 => ?_⟩
    obtain ⟨i2, rfl⟩ : ∃ i : Nat, r = (i : Int) := ⟨r.toNat, by omega⟩
    obtain ⟨d, hd, ld⟩ := at_opt (signs_at i2 (by omega))
    refine x_ixS (by decide +kernel) (atI_nat hd) ?_
    walk_at "rd"
    refine x_catS (Nat.le_of_lt (lt_size (by rw [wl]; show 1 + j + 1 ≤ 10000; omega))) ?_
    walk_at "rd"
    exact ⟨sA.trans s3, p3, _, _, ws.app (by omega) ld, by rw [app_len, wl]; rfl, rfl⟩
  · rintro σ A ⟨sA, pA, s, b, ws, wl, rfl⟩
    walk_at "rd"
    exact k s A (ws.name (by omega)) (by omega) sA pA
def sp_law_words (T : Tx K mg) : Sp := fun vs H Q _ => ∃ p n, vs = [.ref p, .int n] ∧ Pool H p ∧ 0 ≤ n ∧ n ≤ 50 ∧
  ∀ (q : Addr) (ws : List Str) (H' : Hp), H q = none → SX [p] H H' → Pool H' p → H' q = some (.lst (ws.map V.str)) → (ws.length : Int) = n → (∀ s ∈ ws, nameB s = true) → Q (.ref q) H'
theorem ok_law_words (T : Tx K mg) : FnOk P w K mg base CX0 3 T.law_words.f T.law_words.fd P_law_words (sp_law_words T) := by
  refine T.law_words.F.ok sc_law_words (fun vs H Q E h => ?_) (fun cdv A outer s H vs Q E hr h => ?_)
  · obtain ⟨p, n, rfl, hp, hn0, hn1, k⟩ := h
    rfl
  have hu := hu_of hr
  have nd := sc_law_words.nd
  obtain ⟨p, n, rfl, hp, hn0, hn1, k⟩ := h
  refine ⟨_, (pss_cons (ps_set (i := 2) nd rfl (Or.inl rfl) (pe_ix (w_ixL (K := K) rfl) (pe_lst (pa_cons pe_int (pa_cons pe_int (pa_cons pe_int (pa_cons pe_int pa_nil))))) (pe_call (ok_law_draw (P := P) T) (hr.mono (by decide)) (by rfl) T.law_draw.g T.law_draw.F.kp T.law_draw.B .nil pass0 (pa_cons (pv 0) (pa_cons pe_int pa_nil))) (fun _ _ => rfl)))
      (pss_cons (ps_set (i := 3) nd rfl (Or.inl rfl) (pe_lst pa_nil))
      (pss_cons (ps_for PassesOwn.never rfl (pi_range1 (by rfl) T.b_range (pa_cons (pv 1) pa_nil)) (pg_name (i := 4) nd rfl (Or.inl rfl)) (pss_cons (ps_set (i := 5) nd rfl (Or.inl rfl) (pe_call (ok_law_word (P := P) T) (hr.mono (by decide)) (by rfl) T.law_word.g T.law_word.F.kp T.law_word.B .nil pass0 (pa_cons (pv 0) (pa_cons (pv 2) pa_nil))))
      (pss_cons (ps_for PassesOwn.never rfl (pi_range1 (by rfl) T.b_range (pa_cons (pe_op op_add (pv 1) pe_int) pa_nil)) (pg_name (i := 6) nd rfl (Or.inl rfl)) (pss_one (ps_if (pt_cmpR (w_in (K := K) rfl) (pv 5) (pv 3) (by rfl)) (pss_one (ps_set (i := 5) nd rfl (Or.inl rfl) (pe_op op_catS pe_str (pe_callTy cl_str (by rfl) T.b_str (by decide +kernel) (pa_cons (pv 6) pa_nil))))) pss_nil)))
      (pss_one (ps_expr (pe_bm PySem.F.plainAttrs_list PySem.F.slot_list_append PySem.F.type_list_append mt_append (pv 3) (pa_cons (pv 5) pa_nil)))))))
      (pss_one (ps_ret (pv 3)))))), ?_⟩
  refine x_start (σ' := [some _, some _, none, none, none, none, none]) rfl ?_
  try simp only [cx_n, cx_K, cx_w, cx_P]
  walk_at "rd"
  refine ⟨Nat.le_of_ble_eq_true rfl, fun l hl => ?_⟩
  walk_at "rd"
  have npl : p ≠ l := fun e => hp.there (e ▸ hl)
  refine ⟨p, 4, rfl, hp.sx (SX.new (S := []) hl) List.not_mem_nil, by decide, by decide, fun r H1 r0 r1 s1 p1 => ?_⟩
  obtain ⟨m, em, hm⟩ := at_ints (ns := [1, 2, 3, 8]) r0 r1
  have hm2 : 1 ≤ m ∧ m ≤ 8 := by simp at hm; omega
  refine x_ixL (sqL (s1 _ _ (by simpa using Ne.symm npl) upd_same)) em ?_
  walk_at "rd"
  refine ⟨Nat.le_of_ble_eq_true rfl, fun q hq => ?_⟩
  walk_at "rd"
  refine x_rng1 (by omega) (by omega) ?_
  have sH1 : SX [p] H H1 := (SX.new hl).trans s1
  have npq : p ≠ q := fun e => p1.there (e ▸ hq)
  have hq0 : H q = none := sH1.free hq (by simpa using Ne.symm npq)
  refine for_it walk_rng (fun i σ A => SX [p] H A ∧ Pool A p ∧ ∃ (ws : List Str) (a b c : Option V), A q = some (.lst (ws.map V.str)) ∧ ws.length = i ∧ (∀ s ∈ ws, nameB s = true) ∧ σ = [some (.ref p), some (.int n), some (.int m), some (.ref q), a, b, c])
    ⟨sH1.trans (SX.new hq), p1.sx (SX.new (S := []) hq) List.not_mem_nil, [], none, none, none, upd_same, rfl, (fun _ h => nomatch h), rfl⟩ (fun _ _ _ _ _ => trivial) ?_ ?_
  · rintro i x σ A0 A hi ⟨sA, pA, ws, a, b, c, eA, lA, allA, rfl⟩ ⟨rfl, rfl⟩
    walk_at "rd"
    refine ⟨p, m, rfl, pA, hm2.1, hm2.2, fun s H2 hs hsl s2 p2 => ?_⟩
    walk_at "rd"
    refine x_rng1 (by omega) (by omega) ?_
    refine for_it walk_rng (fun j σ B => B = H2 ∧ ∃ s c, nameB s = true ∧ σ = [some (.ref p), some (.int n), some (.int m), some (.ref q), some (.int (i : Int)), some (.str s), c]) ⟨rfl, s, _, hs, rfl⟩ (fun _ _ _ _ _ => trivial) ?_ ?_
    · rintro j x σ B0 B hj ⟨rfl, s', c', hs', rfl⟩ ⟨rfl, rfl⟩
      walk_at "rd"
      have eB := s2 _ _ (by simpa using Ne.symm npq) eA
      refine ⟨q, _, rfl, .inl (sqL eB), rfl, flat_strs ws, ?_⟩
      walk_at "rd"
      refine x_cases (fun h => ?_) (fun h => ?_)
      · walk_at "rd"
        refine x_cstr (small_log (by omega)) ?_
        walk_at "rd"
        have nm := n_names j (by omega)
        refine x_catS (by have := nameB_size nm; rw [app_len] at this; exact Nat.le_of_lt (lt_size this)) ?_
        walk_at "rd"
        exact ⟨rfl, _, _, nm, rfl⟩
      · walk_at "rd"
        exact ⟨rfl, _, _, hs', rfl⟩
    · rintro σ B ⟨rfl, s', c', hs', rfl⟩
      have eB := s2 _ _ (by simpa using Ne.symm npq) eA
      walk_at "rd"
      refine ⟨.inl ⟨rfl, _, sqL eB⟩, ?_⟩
      walk_at "rd"
      refine ⟨q, _, _, rfl, rfl, eB, lt_size (by rw [List.length_map]; omega), ?_⟩
      refine ⟨?_, p2.sx (SX.mut (S := [q]) List.mem_cons_self) (by simpa using npq), ws ++ [s'], _, _, _, by rw [upd_same, List.map_append]; rfl, by simp [lA], fun t ht => ?_, rfl⟩
      · intro b o nb hb
        have hbq : b ≠ q := fun e => by rw [e, hq0] at hb; cases hb
        rw [upd_ne hbq]
        exact (sA.trans s2) b o nb hb
      · rcases List.mem_append.mp ht with ht | ht
        · exact allA t ht
        · cases List.mem_singleton.mp ht
          exact hs'
  · rintro σ A ⟨sA, pA, ws, a, b, c, eA, lA, allA, rfl⟩
    walk_at "rd"
    exact k q ws A hq0 sA pA eA (by omega) allA
end
end M

namespace M
open PySem PySem.Spec PyProof.Rows L2
theorem cut_from {xs : List V} {k : Nat} : cutV xs (some (k : Int)) none = xs.drop k := by
  unfold cutV
  rw [HT.sIx_nat, HT.sIx_none]
  by_cases h : k ≤ xs.length
  · rw [Nat.min_eq_left h]
    exact List.take_of_length_le (by rw [List.length_drop]; exact Nat.le_refl _)
  · rw [Nat.min_eq_right (by omega), List.drop_length, List.drop_eq_nil_of_le (by omega), List.take_nil]
section
variable {P : Program} {w : World} {K : PySem.W.Frag} {mg : Str → Option Value} {base : Heap}
theorem hid_nn {S : List Addr} {H : Hp} {d : Addr} (hS : ∀ b ∈ S, H b ≠ none) (hd : H d ≠ none) : ∀ b ∈ d :: S, H b ≠ none := fun b hb => by
  rcases List.mem_cons.mp hb with rfl | hb
  · exact hd
  · exact hS b hb
theorem sx_there {S : List Addr} {A B : Hp} {p : Addr} (a : SX [p] A B) (hp : B p ≠ none) (h : ∀ b ∈ S, A b ≠ none) : ∀ b ∈ S, B b ≠ none := fun b hb z => by
  by_cases e : b = p
  · exact hp (e ▸ z)
  · exact h b hb (a.free z (by simpa using e))
def sp_law_stand (T : Tx K mg) : Sp := fun vs H Q _ => ∃ (p nl wl : Addr) (hands kind : Int) (names wds : List Str) (S : List Addr), vs = [.ref p, .ref nl, .ref wl, .int hands, .int kind] ∧ Pool H p ∧ p ∈ S ∧ (∀ b ∈ S, H b ≠ none) ∧
  SqL K (hid S H) nl (names.map V.str) ∧ SqL K (hid S H) wl (wds.map V.str) ∧ 1 ≤ names.length ∧ names.length ≤ 10000 ∧ (∀ s ∈ names, nameB s = true) ∧ wds.length = 4 ∧ (∀ s ∈ wds, nameB s = true) ∧ 1 ≤ hands ∧ hands ≤ 4 ∧
  ∀ v H' st, SX [p] H H' → Pool H' p → rStand K (hid S H') v st → StandOk hands names st → Q v H'
theorem ok_law_stand (T : Tx K mg) : FnOk P w K mg base CX0 2 T.law_stand.f T.law_stand.fd P_law_stand (sp_law_stand T) := by
  refine T.law_stand.F.ok sc_law_stand (fun vs H Q E h => ?_) (fun cdv A outer s H vs Q E hr h => ?_)
  · obtain ⟨p, nl, wl, hands, kind, names, wds, S, rfl, hp, pS, hS, hnl, hwl, hn1, hn2, hnn, hw4, hwn, hh1, hh4, k⟩ := h
    rfl
  have hu := hu_of hr
  have nd := sc_law_stand.nd
  obtain ⟨p, nl, wl, hands, kind, names, wds, S, rfl, hp, pS, hS, hnl, hwl, hn1, hn2, hnn, hw4, hwn, hh1, hh4, k⟩ := h
  refine ⟨_, (pss_cons (ps_set (i := 5) nd rfl (Or.inl rfl) (pe_ix (w_ixL (K := K) rfl) (pe_lst (pa_cons pe_int (pa_cons pe_int (pa_cons pe_int (pa_cons pe_int (pa_cons pe_int (pa_cons pe_int (pa_cons pe_int (pa_cons pe_int pa_nil))))))))) (pe_call (ok_law_draw (P := P) T) (hr.mono (by decide)) (by rfl) T.law_draw.g T.law_draw.F.kp T.law_draw.B .nil pass0 (pa_cons (pv 0) (pa_cons pe_int pa_nil))) (fun _ _ => rfl)))
      (pss_cons (ps_set (i := 6) nd rfl (Or.inl rfl) (pe_call (ok_law_draw (P := P) T) (hr.mono (by decide)) (by rfl) T.law_draw.g T.law_draw.F.kp T.law_draw.B .nil pass0 (pa_cons (pv 0) (pa_cons pe_int pa_nil))))
      (pss_cons (ps_set (i := 7) nd rfl (Or.inl rfl) (pe_call (ok_law_draw (P := P) T) (hr.mono (by decide)) (by rfl) T.law_draw.g T.law_draw.F.kp T.law_draw.B .nil pass0 (pa_cons (pv 0) (pa_cons (pv 3) pa_nil))))
      (pss_cons (ps_set (i := 8) nd rfl (Or.inl rfl) pe_dnewK)
      (pss_cons (ps_for PassesOwn.never rfl (pi_range1 (by rfl) T.b_range (pa_cons (pv 5) pa_nil)) (pg_name (i := 9) nd rfl (Or.inl rfl)) (pss_cons (ps_set (i := 10) nd rfl (Or.inl rfl) (pe_ix (w_ixL (K := K) rfl) (pv 1) (pe_call (ok_law_draw (P := P) T) (hr.mono (by decide)) (by rfl) T.law_draw.g T.law_draw.F.kp T.law_draw.B .nil pass0 (pa_cons (pv 0) (pa_cons (pe_callB (w_len (K := K) rfl) (by rfl) T.b_len (by decide +kernel) (pa_cons (pv 1) pa_nil)) pa_nil))) (fun _ _ => rfl)))
      (pss_one (ps_if (pt_cmpR op_lt (pv 4) pe_int (nomark _)) (pss_one (ps_dput hu (pv 8) (pe_ix (w_ixL (K := K) rfl) (pv 2) (pe_op op_mod (pe_op op_add (pv 6) (pv 9)) pe_int) (fun _ _ => rfl)) (pe_tup (pa_cons (pv 10) (pa_cons (pe_ix (w_ixL (K := K) rfl) (pe_lst (pa_cons pe_int (pa_cons pe_int (pa_cons pe_int (pa_cons pe_int (pa_cons pe_int (pa_cons pe_int (pa_cons pe_int (pa_cons pe_int pa_nil))))))))) (pe_call (ok_law_draw (P := P) T) (hr.mono (by decide)) (by rfl) T.law_draw.g T.law_draw.F.kp T.law_draw.B .nil pass0 (pa_cons (pv 0) (pa_cons pe_int pa_nil))) (fun _ _ => rfl)) pa_nil))) rfl)) (pss_one (ps_dput hu (pv 8) (pe_ix (w_ixL (K := K) rfl) (pv 2) (pe_op op_mod (pe_op op_add (pv 6) (pv 9)) pe_int) (fun _ _ => rfl)) (pv 10) rfl))))))
      (pss_cons (ps_if (pt_cmpR op_lt (pv 4) pe_int (nomark _)) (pss_one (ps_ret (pe_tup (pa_cons pe_str (pa_cons (pv 8) pa_nil))))) pss_nil)
      (pss_one (ps_ret (pe_tup (pa_cons pe_str (pa_cons (pv 7) (pa_cons (pv 8) pa_nil)))))))))))), ?_⟩
  refine x_start (σ' := [some _, some _, some _, some _, some _, none, none, none, none, none, none]) rfl ?_
  try simp only [cx_n, cx_K, cx_w, cx_P]
  have subS : ∀ b ∈ [p], b ∈ S := fun b hb => by cases List.mem_singleton.mp hb; exact pS
  walk_at "rd"
  refine ⟨Nat.le_of_ble_eq_true rfl, fun l0 hl0 => ?_⟩
  walk_at "rd"
  refine ⟨p, 8, rfl, hp.sx (SX.new (S := []) hl0) List.not_mem_nil, by decide, by decide, fun r H1 r0 r1 s1 p1 => ?_⟩
  have npl : l0 ≠ p := fun e => hp.there (e ▸ hl0)
  obtain ⟨m, em, hm⟩ := at_ints (ns := [1, 2, 2, 3, 3, 2, 4, 1]) r0 r1
  have hm2 : 1 ≤ m ∧ m ≤ 4 := by simp at hm; omega
  refine x_ixL (sqL (s1 _ _ (by simpa using npl) upd_same)) em ?_
  have sH1 : SX [p] H H1 := (SX.new hl0).trans s1
  walk_at "rd"
  refine ⟨p, 4, rfl, p1, by decide, by decide, fun first H2 f0 f1 s2 p2 => ?_⟩
  walk_at "rd"
  refine ⟨p, hands, rfl, p2, by omega, by omega, fun hand H3 h0 h1 s3 p3 => ?_⟩
  walk_at "rd"
  intro d hd
  walk_at "rd"
  have sH3 : SX [p] H H3 := (sH1.trans s2).trans s3
  have npd : d ≠ p := fun e => p3.there (e ▸ hd)
  have hd0 : H d = none := sH3.free hd (by simpa using npd)
  have ndS : d ∉ S := fun m => hS d m hd0
  refine x_rng1 (by omega) (by omega) ?_
  -- what is read stays to be read
  have rdN : ∀ {A : Hp}, SX [p] H A → SqL K A nl (names.map V.str) := fun s => (s.sub subS).leH.l hnl
  have rdW : ∀ {A : Hp}, SX [p] H A → SqL K A wl (wds.map V.str) := fun s => (s.sub subS).leH.l hwl
  have subD : ∀ b ∈ [p], b ∈ d :: S := fun b hb => List.mem_cons_of_mem _ (subS b hb)
  by_cases hk4 : kind < 4
  · refine for_it walk_rng (fun i σ A => SX [p] H A ∧ Pool A p ∧ ∃ (kv : List (Key × V)) (ds : List (Str × (Str × Int))) (a b : Option V), A d = some (.dK kv) ∧ KVs (rP K rS rI) (hid (d :: S) A) kv ds ∧ ds.length ≤ i ∧ (0 < i → 1 ≤ ds.length) ∧ (ds.map (·.1)).Nodup ∧
      (∀ q ∈ ds, nameB q.1 = true ∧ nameB q.2.1 = true ∧ q.2.1 ∈ names ∧ 1 ≤ q.2.2 ∧ q.2.2 ≤ 9) ∧
      σ = [some (.ref p), some (.ref nl), some (.ref wl), some (.int hands), some (.int kind), some (.int m), some (.int first), some (.int hand), some (.ref d), a, b])
      ⟨sH3.trans (SX.new hd), p3.sx (SX.new (S := []) hd) List.not_mem_nil, [], [], none, none, upd_same, .nil, Nat.le_refl _, fun h => absurd h (Nat.lt_irrefl _), List.nodup_nil, (fun _ h => nomatch h), rfl⟩ (fun _ _ _ _ _ => trivial) ?_ ?_
    · rintro i x σ A0 A hi ⟨sA, pA, kv, ds, a, b, dA, kA, lA, lA1, nA, allA, rfl⟩ ⟨rfl, rfl⟩
      walk_at "rd"
      refine x_lenL' (rdN sA) ?_
      walk_at "rd"
      rw [List.length_map]
      refine ⟨p, (names.length : Int), rfl, pA, by omega, by omega, fun r B1 r0 r1 t1 q1 => ?_⟩
      obtain ⟨to, eto, mto⟩ := at_strs r0 r1
      refine x_ixL (rdN (sA.trans t1)) eto ?_
      walk_at "rd"
      rw [decide_eq_true hk4]
      walk_at "rd"
      refine ⟨Nat.le_of_ble_eq_true rfl, fun l hl => ?_⟩
      walk_at "rd"
      refine ⟨p, 8, rfl, q1.sx (SX.new (S := []) hl) List.not_mem_nil, by decide, by decide, fun r2 B2 r20 r21 t2 q2 => ?_⟩
      have nlp : l ≠ p := fun e => q1.there (e ▸ hl)
      obtain ⟨wt, ewt, hwt⟩ := at_ints (ns := [1, 2, 3, 1, 2, 9, 1, 5]) r20 r21
      have hwt2 : 1 ≤ wt ∧ wt ≤ 9 := by simp at hwt; omega
      refine x_ixL (sqL (t2 _ _ (by simpa using nlp) upd_same)) ewt ?_
      walk_at "rd"
      refine ⟨Nat.le_of_ble_eq_true rfl, fun t ht => ?_⟩
      have tB : SX [p] A (upd B2 t (.tup [.str to, .int wt])) := ((t1.trans (SX.new hl)).trans t2).trans (SX.new ht)
      have sB := sA.trans tB
      walk_at "rd"
      refine x_I (by decide) ?_
      obtain ⟨wd, ewd, mwd⟩ := at_strs (ns := wds) (r := (first + (i : Int)) % 4) (by omega) (by rw [hw4]; omega)
      refine x_ixL (rdW sB) ewd ?_
      have dB : (upd B2 t (.tup [.str to, .int wt])) d = some (.dK kv) := tB _ _ (by simpa using npd) dA
      have hkl : kv.length = ds.length := Paired.length kA
      refine ⟨d, _, rfl, DPut.k (k := Sum.inr wd) dB (lt_size (by omega)), ?_⟩
      have le1 : Le (hid (d :: S) A) (hid (d :: S) (upd (upd B2 t (.tup [.str to, .int wt])) d (.dK (putK kv (Sum.inr wd) (.ref t))))) := ((tB.sub subD).trans (SX.mut List.mem_cons_self)).le
      have tS : t ∉ d :: S := fun mem => hid_nn (H := B2) (sx_there (((t1.trans (SX.new hl)).trans t2)) q2.there (sx_there sA pA.there hS)) (by
        intro z
        have := (((t1.trans (SX.new hl)).trans t2)) _ _ (by simpa using npd) dA
        rw [z] at this
        cases this) t mem ht
      have td : t ≠ d := fun e => tS (by rw [e]; exact List.mem_cons_self)
      refine ⟨?_, ?_, _, putA ds wd (to, wt), _, _, upd_same, ?_, ?_, fun _ => putA_pos, putA_nodup nA, fun q hq => ?_, rfl⟩
      · intro b o nb hb
        have hbd : b ≠ d := fun e => by rw [e, hd0] at hb; cases hb
        rw [upd_ne hbd]
        exact sB b o nb hb
      · exact (q2.sx (SX.new (S := []) ht) List.not_mem_nil).sx (SX.mut (S := [d]) List.mem_cons_self) (by simpa using Ne.symm npd)
      · refine KVs.put ⟨t, .str to, .int wt, rfl, sqT ?_, rfl, rfl⟩ (KVs.le (mono_P mono_S mono_I) le1 kA) nA
        rw [hid_of tS, upd_ne td, upd_same]
      · have := putA_len (s := wd) (a := (to, wt)) (l := ds)
        omega
      · rcases putA_mem hq with hq | rfl
        · exact allA q hq
        · exact ⟨hwn _ mwd, hnn _ mto, mto, hwt2.1, hwt2.2⟩
    · rintro σ A ⟨sA, pA, kv, ds, a, b, dA, kA, lA, lA1, nA, allA, rfl⟩
      walk_at "rd"
      rw [decide_eq_true hk4]
      walk_at "rd"
      refine ⟨Nat.le_of_ble_eq_true rfl, fun t ht => ?_⟩
      have tS : t ∉ S := fun mem => sx_there sA pA.there hS t mem ht
      refine k _ _ (.chance ds) (sA.trans (SX.new ht)) (pA.sx (SX.new (S := []) ht) List.not_mem_nil) ⟨t, .ref d, rfl, sqT ?_, d, kv, rfl, .inl ?_, ?_⟩ ⟨lA1 (by omega), by omega, nA, allA⟩
      · rw [hid_of tS, upd_same]
      · rw [hid_of ndS, upd_ne (ne_of_none dA ht)]
        exact dA
      · exact KVs.le (mono_P mono_S mono_I) ((le_hid2 fun b hb => List.mem_cons_of_mem _ hb).trans (SX.new ht).le) kA
  · refine for_it walk_rng (fun i σ A => SX [p] H A ∧ Pool A p ∧ ∃ (kv : List (Key × V)) (ds : List (Str × Str)) (a b : Option V), A d = some (.dK kv) ∧ KVs rS (hid (d :: S) A) kv ds ∧ ds.length ≤ i ∧ (0 < i → 1 ≤ ds.length) ∧ (ds.map (·.1)).Nodup ∧
      (∀ q ∈ ds, nameB q.1 = true ∧ nameB q.2 = true ∧ q.2 ∈ names) ∧
      σ = [some (.ref p), some (.ref nl), some (.ref wl), some (.int hands), some (.int kind), some (.int m), some (.int first), some (.int hand), some (.ref d), a, b])
      ⟨sH3.trans (SX.new hd), p3.sx (SX.new (S := []) hd) List.not_mem_nil, [], [], none, none, upd_same, .nil, Nat.le_refl _, fun h => absurd h (Nat.lt_irrefl _), List.nodup_nil, (fun _ h => nomatch h), rfl⟩ (fun _ _ _ _ _ => trivial) ?_ ?_
    · rintro i x σ A0 A hi ⟨sA, pA, kv, ds, a, b, dA, kA, lA, lA1, nA, allA, rfl⟩ ⟨rfl, rfl⟩
      walk_at "rd"
      refine x_lenL' (rdN sA) ?_
      walk_at "rd"
      rw [List.length_map]
      refine ⟨p, (names.length : Int), rfl, pA, by omega, by omega, fun r B1 r0 r1 t1 q1 => ?_⟩
      obtain ⟨to, eto, mto⟩ := at_strs r0 r1
      refine x_ixL (rdN (sA.trans t1)) eto ?_
      walk_at "rd"
      rw [decide_eq_false hk4]
      walk_at "rd"
      have sB := sA.trans t1
      refine x_I (by decide) ?_
      obtain ⟨wd, ewd, mwd⟩ := at_strs (ns := wds) (r := (first + (i : Int)) % 4) (by omega) (by rw [hw4]; omega)
      refine x_ixL (rdW sB) ewd ?_
      have dB : B1 d = some (.dK kv) := t1 _ _ (by simpa using npd) dA
      have hkl : kv.length = ds.length := Paired.length kA
      refine ⟨d, _, rfl, DPut.k (k := Sum.inr wd) dB (lt_size (by omega)), ?_⟩
      have le1 : Le (hid (d :: S) A) (hid (d :: S) (upd B1 d (.dK (putK kv (Sum.inr wd) (.str to))))) := ((t1.sub subD).trans (SX.mut List.mem_cons_self)).le
      refine ⟨?_, ?_, _, putA ds wd to, _, _, upd_same, ?_, ?_, fun _ => putA_pos, putA_nodup nA, fun q hq => ?_, rfl⟩
      · intro b o nb hb
        have hbd : b ≠ d := fun e => by rw [e, hd0] at hb; cases hb
        rw [upd_ne hbd]
        exact sB b o nb hb
      · exact q1.sx (SX.mut (S := [d]) List.mem_cons_self) (by simpa using Ne.symm npd)
      · exact KVs.put rfl (KVs.le mono_S le1 kA) nA
      · have := putA_len (s := wd) (a := to) (l := ds)
        omega
      · rcases putA_mem hq with hq | rfl
        · exact allA q hq
        · exact ⟨hwn _ mwd, hnn _ mto, mto⟩
    · rintro σ A ⟨sA, pA, kv, ds, a, b, dA, kA, lA, lA1, nA, allA, rfl⟩
      walk_at "rd"
      rw [decide_eq_false hk4]
      walk_at "rd"
      refine ⟨Nat.le_of_ble_eq_true rfl, fun t ht => ?_⟩
      have tS : t ∉ S := fun mem => sx_there sA pA.there hS t mem ht
      refine k _ _ (.hand hand ds) (sA.trans (SX.new ht)) (pA.sx (SX.new (S := []) ht) List.not_mem_nil) ⟨t, .ref d, rfl, sqT ?_, d, kv, rfl, .inl ?_, ?_⟩ ⟨h0, h1, lA1 (by omega), by omega, nA, allA⟩
      · rw [hid_of tS, upd_same]
      · rw [hid_of ndS, upd_ne (ne_of_none dA ht)]
        exact dA
      · exact KVs.le mono_S ((le_hid2 fun b hb => List.mem_cons_of_mem _ hb).trans (SX.new ht).le) kA
end
end M

namespace M
open PySem PySem.Spec PyProof.Rows L2
theorem lock_leS {S : List Addr} {H HL : Hp} {d : Addr} {kvs : List (Key × V)} {od : Obj} (h : Rd (hid S H) d (.dK kvs)) (e : HL d = some (.frz od (.dK kvs))) (ne : ∀ b, b ≠ d → HL b = H b) : Le (hid S H) (hid S HL) := by
  have dS : d ∉ S := by
    rcases h with h | ⟨o, h⟩ <;> exact (hid_at h).1
  refine lock_le (d := d) (kvs := kvs) (od := od) h (by rw [hid_of dS]; exact e) fun b hb => ?_
  unfold hid
  rw [ne b hb]
theorem unlock_leS {S : List Addr} {H H' : Hp} {d : Addr} {kvs : List (Key × V)} {od : Obj} (h : Rd H d (.dK kvs)) (e : H' d = some (.frz od (.dK kvs))) : Le (hid S H') (hid S (put H' d (H d))) := by
  have l := unlock_le h e
  have hp : ∀ b, hid S (put H' d (H d)) b = if b ∈ S then none else put H' d (H d) b := fun _ => rfl
  refine ⟨fun b u p q => ?_, fun b C dx fs q => ?_, fun b xs q => ?_⟩
  · have n : b ∉ S := by rcases q with q | ⟨o, q⟩ <;> exact (hid_at q).1
    have q2 : Rd H' b u := le_hid.rd b u p q
    have := l.rd b u p q2
    unfold Rd
    rw [hid_of n]
    exact this
  · obtain ⟨n, q⟩ := hid_at q
    rw [hid_of n]
    exact l.ins _ _ _ _ q
  · obtain ⟨n, q⟩ := hid_at q
    rw [hid_of n]
    exact l.tup _ _ q
theorem rd_there {H : Hp} {d : Addr} {u : HO} (h : Rd H d u) : H d ≠ none := by
  rcases h with h | ⟨o, h⟩ <;> rw [h] <;> exact fun z => nomatch z
/-- the stands of drawn names -/
structure StandsOk (hands : Int) (names : List Str) (sts : List (Str × Stand)) : Prop where
  nd : (sts.map (·.1)).Nodup
  keys : ∀ n, n ∈ sts.map (·.1) ↔ n ∈ names
  all : ∀ q ∈ sts, StandOk hands names q.2
  len : sts.length ≤ names.length
theorem StandOk.sub {h : Int} {ns ms : List Str} {st : Stand} (o : StandOk h ns st) (s : ∀ x ∈ ns, x ∈ ms) : StandOk h ms st := by
  cases st with
  | fin => exact trivial
  | hand a b => exact ⟨o.1, o.2.1, o.2.2.1, o.2.2.2.1, o.2.2.2.2.1, fun q hq => ⟨(o.2.2.2.2.2 q hq).1, (o.2.2.2.2.2 q hq).2.1, s _ (o.2.2.2.2.2 q hq).2.2⟩⟩
  | chance b => exact ⟨o.1, o.2.1, o.2.2.1, fun q hq => ⟨(o.2.2.2 q hq).1, (o.2.2.2 q hq).2.1, s _ (o.2.2.2 q hq).2.2.1, (o.2.2.2 q hq).2.2.2⟩⟩
section
variable {P : Program} {w : World} {K : PySem.W.Frag} {mg : Str → Option Value} {base : Heap}
/-- between two turns of _law_stands -/
def StI (K : PySem.W.Frag) (H : Hp) (p nl : Addr) (hands : Int) (rl : Bool) (wl d : Addr) (wds names : List Str) (S : List Addr) (i : Nat) (σ : L2.St) (A : Hp) : Prop :=
  SX [p] H A ∧ Pool A p ∧ ∃ (kv : List (Key × V)) (sts : List (Str × Stand)) (a b c : Option V), A d = some (.dK kv) ∧ A wl = some (.lst (wds.map V.str)) ∧ KVs (rStand K) (hid (d :: S) A) kv sts ∧ sts.length ≤ i ∧ (sts.map (·.1)).Nodup ∧
      (∀ q ∈ sts, StandOk hands names q.2) ∧ (∀ n, n ∈ sts.map (·.1) ↔ n ∈ names.take i) ∧
      σ = [some (.ref p), some (.ref nl), some (.int hands), some (.bl rl), some (.ref wl), some (.ref d), a, b, c]
def sp_law_stands (T : Tx K mg) : Sp := fun vs H Q _ => ∃ (p nl : Addr) (hands : Int) (rl : Bool) (names : List Str) (S : List Addr), vs = [.ref p, .ref nl, .int hands, .bl rl] ∧ Pool H p ∧ p ∈ S ∧ (∀ b ∈ S, H b ≠ none) ∧
  SqL K (hid S H) nl (names.map V.str) ∧ names.length ≤ 1000 ∧ (∀ s ∈ names, nameB s = true) ∧ 1 ≤ hands ∧ hands ≤ 4 ∧
  ∀ d H' sts, H d = none → SX [p] H H' → Pool H' p → rD (rStand K) (hid S H') (.ref d) sts → StandsOk hands names sts → Q (.ref d) H'
theorem SqL.there {K : PySem.W.Frag} {H : Hp} {d a : Addr} {xs : List V} (h : SqL K H a xs) : True := trivial
theorem ok_law_stands (T : Tx K mg) : FnOk P w K mg base CX0 4 T.law_stands.f T.law_stands.fd P_law_stands (sp_law_stands T) := by
  refine T.law_stands.F.ok sc_law_stands (fun vs H Q E h => ?_) (fun cdv A outer s H vs Q E hr h => ?_)
  · obtain ⟨p, nl, hands, rl, names, S, rfl, hp, pS, hS, hnl, hn2, hnn, hh1, hh4, k⟩ := h
    rfl
  have hu := hu_of hr
  have nd := sc_law_stands.nd
  obtain ⟨p, nl, hands, rl, names, S, rfl, hp, pS, hS, hnl, hn2, hnn, hh1, hh4, k⟩ := h
  refine ⟨_, (pss_cons (ps_set (i := 4) nd rfl (Or.inl rfl) (pe_call (ok_law_words (P := P) T) (hr.mono (by decide)) (by rfl) T.law_words.g T.law_words.F.kp T.law_words.B .nil pass0 (pa_cons (pv 0) (pa_cons pe_int pa_nil))))
      (pss_cons (ps_set (i := 5) nd rfl (Or.inl rfl) pe_dnewK)
      (pss_cons (ps_for PassesOwn.never rfl (pi_range1 (by rfl) T.b_range (pa_cons (pe_callB (w_len (K := K) rfl) (by rfl) T.b_len (by decide +kernel) (pa_cons (pv 1) pa_nil)) pa_nil)) (pg_name (i := 6) nd rfl (Or.inl rfl)) (pss_cons (ps_set (i := 7) nd rfl (Or.inl rfl) pe_int)
      (pss_cons (ps_if (pt_val (pv 3)) (pss_one (ps_set (i := 7) nd rfl (Or.inl rfl) (pe_op op_add (pv 6) pe_int))) pss_nil)
      (pss_cons (ps_set (i := 8) nd rfl (Or.inl rfl) (pe_call (ok_law_draw (P := P) T) (hr.mono (by decide)) (by rfl) T.law_draw.g T.law_draw.F.kp T.law_draw.B .nil pass0 (pa_cons (pv 0) (pa_cons pe_int pa_nil))))
      (pss_one (ps_if (PW.pt (pw_or (pt_cmpR op_eq (pv 7) (pe_callB (w_len (K := K) rfl) (by rfl) T.b_len (by decide +kernel) (pa_cons (pv 1) pa_nil)) (nomark _)) (pw_or (pt_cmpR op_eq (pv 8) pe_int (nomark _)) (pw_or1 (PW.pt (pw_and (pt_cmpR op_eq (pv 8) pe_int (nomark _)) (pw_and1 (pt_cmpR op_gt (pv 6) pe_int (nomark _))))))))) (pss_one (ps_dput hu (pv 5) (pe_ix (w_ixL (K := K) rfl) (pv 1) (pv 6) (fun _ _ => rfl)) (pe_tup (pa_cons pe_str pa_nil)) rfl)) (pss_one (ps_dput hu (pv 5) (pe_ix (w_ixL (K := K) rfl) (pv 1) (pv 6) (fun _ _ => rfl)) (pe_call (ok_law_stand (P := P) T) (hr.mono (by decide)) (by rfl) T.law_stand.g T.law_stand.F.kp T.law_stand.B .nil pass0 (pa_cons (pv 0) (pa_cons (pe_slice (w_slL (K := K) rfl) (pv 1) (po_some (pv 7)) po_none) (pa_cons (pv 4) (pa_cons (pv 2) (pa_cons (pv 8) pa_nil)))))) rfl))))))))
      (pss_one (ps_ret (pv 5)))))), ?_⟩
  refine x_start (σ' := [some _, some _, some _, some _, none, none, none, none, none]) rfl ?_
  try simp only [cx_n, cx_K, cx_w, cx_P]
  have subS : ∀ b ∈ [p], b ∈ S := fun b hb => by cases List.mem_singleton.mp hb; exact pS
  walk_at "rd"
  refine ⟨p, 4, rfl, hp, by decide, by decide, fun wl wds H1 hwl s1 p1 ewl lw4 hwn => ?_⟩
  walk_at "rd"
  intro d hd
  walk_at "rd"
  have npd : d ≠ p := fun e => p1.there (e ▸ hd)
  have hd0 : H d = none := s1.free hd (by simpa using npd)
  have ndS : d ∉ S := fun m => hS d m hd0
  have nwp : wl ≠ p := fun e => hp.there (e ▸ hwl)
  have nwS : wl ∉ S := fun m => hS wl m hwl
  have ndw : d ≠ wl := Ne.symm (ne_of_none ewl hd)
  have rdN : ∀ {A : Hp}, SX [p] H A → SqL K A nl (names.map V.str) := fun s => (s.sub subS).leH.l hnl
  have subD : ∀ b ∈ [p], b ∈ d :: S := fun b hb => List.mem_cons_of_mem _ (subS b hb)
  have s1d : SX [p] H (upd H1 d (.dK [])) := s1.trans (SX.new hd)
  refine x_lenL' (rdN s1d) ?_
  walk_at "rd"
  rw [List.length_map]
  refine x_rng1 (by omega) (by omega) ?_
  refine for_it walk_rng (StI K H p nl hands rl wl d wds names S)
      ⟨s1d, p1.sx (SX.new (S := []) hd) List.not_mem_nil, [], [], none, none, none, upd_same, by rw [upd_ne (Ne.symm ndw)]; exact ewl, .nil, Nat.le_refl _, List.nodup_nil, (fun _ h => nomatch h), (fun n => ⟨(fun h => nomatch h), (fun h => nomatch h)⟩), rfl⟩ (fun _ _ _ _ _ => trivial) ?_ ?_
  · rintro i x σ A0 A hi ⟨sA, pA, kv, sts, a, b, c, dA, wA, kA, lA, nA, allA, keyA, rfl⟩ ⟨rfl, rfl⟩
    have hi2 : i < names.length := by omega
    obtain ⟨nm, hnm⟩ : ∃ nm, names[i]? = some nm := ⟨names[i], by simp [hi2]⟩
    have anm : atI (names.map V.str) (i : Int) = some (.str nm) := atI_nat (by rw [List.getElem?_map, hnm]; rfl)
    have thereA := sx_there sA pA.there hS
    -- what a store of a right stand makes
    have fin : ∀ (B : Hp) (v : V) (st : Stand) (x1 x2 x3 : Option V), SX [p] A B → Pool B p → rStand K (hid (d :: S) B) v st → StandOk hands names st → ∃ a' H4, V.ref d = .ref a' ∧ DPut B a' (.str nm) v H4 ∧
      StI K H p nl hands rl wl d wds names S (i + 1) [some (.ref p), some (.ref nl), some (.int hands), some (.bl rl), some (.ref wl), some (.ref d), x1, x2, x3] H4 := by
      intro B v st x1 x2 x3 tB pB rv sok
      have dB : B d = some (.dK kv) := tB _ _ (by simpa using npd) dA
      have hkl : kv.length = sts.length := Paired.length kA
      refine ⟨d, _, rfl, DPut.k (k := Sum.inr nm) dB (lt_size (by omega)), ?_⟩
      have le1 : Le (hid (d :: S) A) (hid (d :: S) (upd B d (.dK (putK kv (Sum.inr nm) v)))) := ((tB.sub subD).trans (SX.mut List.mem_cons_self)).le
      refine ⟨?_, pB.sx (SX.mut (S := [d]) List.mem_cons_self) (by simpa using Ne.symm npd), _, putA sts nm st, _, _, _, upd_same, ?_, ?_, ?_, putA_nodup nA, fun q hq => ?_, fun n => ?_, rfl⟩
      · intro b o nb hb
        have hbd : b ≠ d := fun e => by rw [e, hd0] at hb; cases hb
        rw [upd_ne hbd]
        exact (sA.trans tB) b o nb hb
      · rw [upd_ne (Ne.symm ndw)]
        exact tB _ _ (by simpa using nwp) wA
      · exact KVs.put (mono_stand K _ _ _ _ (SX.mut List.mem_cons_self).le rv) (KVs.le (mono_stand K) le1 kA) nA
      · have := putA_len (s := nm) (a := st) (l := sts)
        omega
      · rcases putA_mem hq with hq | rfl
        · exact allA q hq
        · exact sok
      · rw [take_succ_of hnm, List.mem_append, List.mem_singleton]
        constructor
        · intro h
          rcases putA_key_of h with h | h
          · exact .inl ((keyA n).mp h)
          · exact .inr h
        · rintro (h | rfl)
          · exact putA_key_mono ((keyA n).mpr h)
          · exact putA_key_in
    have finE : ∀ (B : Hp) (x1 x2 x3 : Option V) (t : Addr), SX [p] A B → Pool B p → B t = none → ∃ a' H4, V.ref d = .ref a' ∧ DPut (upd B t (.tup [.str "end"])) a' (.str nm) (.ref t) H4 ∧
      StI K H p nl hands rl wl d wds names S (i + 1) [some (.ref p), some (.ref nl), some (.int hands), some (.bl rl), some (.ref wl), some (.ref d), x1, x2, x3] H4 := by
      intro B x1 x2 x3 t tB pB ht
      have tS : t ∉ d :: S := fun mem => hid_nn (sx_there tB pB.there thereA) (by rw [tB _ _ (by simpa using npd) dA]; exact fun z => nomatch z) t mem ht
      exact fin _ _ .fin x1 x2 x3 (tB.trans (SX.new ht)) (pB.sx (SX.new (S := []) ht) List.not_mem_nil) ⟨t, rfl, sqT (by rw [hid_of tS, upd_same])⟩ trivial
    walk_at "rd"
    refine x_cases (fun hr1 => ?_) (fun hr1 => ?_)
    · walk_at "rd"
      refine ⟨p, 8, rfl, pA, by decide, by decide, fun kind B k0 k1 tB pB => ?_⟩
      walk_at "rd"
      refine x_lenL' (rdN (sA.trans tB)) ?_
      walk_at "rd"
      rw [List.length_map]
      refine x_cases (fun c1 => ?_) (fun c1 => ?_)
      · walk_at "rd"
        refine ⟨Nat.le_of_ble_eq_true rfl, fun t ht => ?_⟩
        walk_at "rd"
        refine x_ixL (rdN ((sA.trans tB).trans (SX.new ht))) anm ?_
        exact finE B _ _ _ t tB pB ht
      walk_at "rd"
      refine x_cases (fun c2 => ?_) (fun c2 => ?_)
      · walk_at "rd"
        refine ⟨Nat.le_of_ble_eq_true rfl, fun t ht => ?_⟩
        walk_at "rd"
        refine x_ixL (rdN ((sA.trans tB).trans (SX.new ht))) anm ?_
        exact finE B _ _ _ t tB pB ht
      walk_at "rd"
      refine x_cases (fun c3 => ?_) (fun c3 => ?_)
      · walk_at "rd"
        refine x_cases (fun c4 => ?_) (fun c4 => ?_)
        · walk_at "rd"
          refine ⟨Nat.le_of_ble_eq_true rfl, fun t ht => ?_⟩
          walk_at "rd"
          refine x_ixL (rdN ((sA.trans tB).trans (SX.new ht))) anm ?_
          exact finE B _ _ _ t tB pB ht
        · walk_at "rd"
          refine ⟨nl, _, rfl, rdN (sA.trans tB), fun n2 hn2' => ?_⟩
          have ec : cutV (names.map V.str) (some ((i : Int) + 1)) none = (names.drop (i + 1)).map V.str := by rw [List.map_drop]; exact cut_from (k := (i + 1))
          rw [ec]
          walk_at "rd"
          have neq : (i + 1) ≠ names.length := fun e => by
            have : decide (V.int ((i : Int) + 1) = V.int (names.length : Int)) = true := decide_eq_true (by rw [← e]; rfl)
            rw [this] at c1
            cases c1
          have thB := sx_there tB pB.there thereA
          have dB : B d = some (.dK kv) := tB _ _ (by simpa using npd) dA
          have ndB : B d ≠ none := by rw [dB]; exact fun z => nomatch z
          have nS2 : n2 ∉ d :: S := fun mem => hid_nn thB ndB n2 mem hn2'
          have hwl' : hid (d :: S) (upd B n2 (.lst ((names.drop (i + 1)).map V.str))) wl = some (.lst (wds.map V.str)) := by
            rw [hid_of (by simp only [List.mem_cons, not_or]; exact ⟨Ne.symm ndw, nwS⟩), upd_ne (ne_of_none (tB _ _ (by simpa using nwp) wA) hn2')]
            exact tB _ _ (by simpa using nwp) wA
          refine ⟨p, n2, wl, hands, kind, names.drop (i + 1), wds, d :: S, rfl, pB.sx (SX.new (S := []) hn2') List.not_mem_nil, List.mem_cons_of_mem _ pS, there (SX.new hn2') (hid_nn thB ndB), sqL (by rw [hid_of nS2, upd_same]), sqL hwl', by rw [List.length_drop]; omega, by rw [List.length_drop]; omega, fun s hs => hnn s (List.mem_of_mem_drop hs), by omega, hwn, hh1, hh4, fun v B2 st tC pC rv sok => ?_⟩
          walk_at "rd"
          refine x_ixL (rdN ((sA.trans tB).trans ((SX.new hn2').trans tC))) anm ?_
          exact fin _ _ st _ _ _ (tB.trans ((SX.new hn2').trans tC)) pC rv (sok.sub fun s hs => List.mem_of_mem_drop hs)
      · walk_at "rd"
        refine ⟨nl, _, rfl, rdN (sA.trans tB), fun n2 hn2' => ?_⟩
        have ec : cutV (names.map V.str) (some ((i : Int) + 1)) none = (names.drop (i + 1)).map V.str := by rw [List.map_drop]; exact cut_from (k := (i + 1))
        rw [ec]
        walk_at "rd"
        have neq : (i + 1) ≠ names.length := fun e => by
          have : decide (V.int ((i : Int) + 1) = V.int (names.length : Int)) = true := decide_eq_true (by rw [← e]; rfl)
          rw [this] at c1
          cases c1
        have thB := sx_there tB pB.there thereA
        have dB : B d = some (.dK kv) := tB _ _ (by simpa using npd) dA
        have ndB : B d ≠ none := by rw [dB]; exact fun z => nomatch z
        have nS2 : n2 ∉ d :: S := fun mem => hid_nn thB ndB n2 mem hn2'
        have hwl' : hid (d :: S) (upd B n2 (.lst ((names.drop (i + 1)).map V.str))) wl = some (.lst (wds.map V.str)) := by
          rw [hid_of (by simp only [List.mem_cons, not_or]; exact ⟨Ne.symm ndw, nwS⟩), upd_ne (ne_of_none (tB _ _ (by simpa using nwp) wA) hn2')]
          exact tB _ _ (by simpa using nwp) wA
        refine ⟨p, n2, wl, hands, kind, names.drop (i + 1), wds, d :: S, rfl, pB.sx (SX.new (S := []) hn2') List.not_mem_nil, List.mem_cons_of_mem _ pS, there (SX.new hn2') (hid_nn thB ndB), sqL (by rw [hid_of nS2, upd_same]), sqL hwl', by rw [List.length_drop]; omega, by rw [List.length_drop]; omega, fun s hs => hnn s (List.mem_of_mem_drop hs), by omega, hwn, hh1, hh4, fun v B2 st tC pC rv sok => ?_⟩
        walk_at "rd"
        refine x_ixL (rdN ((sA.trans tB).trans ((SX.new hn2').trans tC))) anm ?_
        exact fin _ _ st _ _ _ (tB.trans ((SX.new hn2').trans tC)) pC rv (sok.sub fun s hs => List.mem_of_mem_drop hs)
    · walk_at "rd"
      refine ⟨p, 8, rfl, pA, by decide, by decide, fun kind B k0 k1 tB pB => ?_⟩
      walk_at "rd"
      refine x_lenL' (rdN (sA.trans tB)) ?_
      walk_at "rd"
      rw [List.length_map]
      refine x_cases (fun c1 => ?_) (fun c1 => ?_)
      · walk_at "rd"
        refine ⟨Nat.le_of_ble_eq_true rfl, fun t ht => ?_⟩
        walk_at "rd"
        refine x_ixL (rdN ((sA.trans tB).trans (SX.new ht))) anm ?_
        exact finE B _ _ _ t tB pB ht
      walk_at "rd"
      refine x_cases (fun c2 => ?_) (fun c2 => ?_)
      · walk_at "rd"
        refine ⟨Nat.le_of_ble_eq_true rfl, fun t ht => ?_⟩
        walk_at "rd"
        refine x_ixL (rdN ((sA.trans tB).trans (SX.new ht))) anm ?_
        exact finE B _ _ _ t tB pB ht
      walk_at "rd"
      refine x_cases (fun c3 => ?_) (fun c3 => ?_)
      · walk_at "rd"
        refine x_cases (fun c4 => ?_) (fun c4 => ?_)
        · walk_at "rd"
          refine ⟨Nat.le_of_ble_eq_true rfl, fun t ht => ?_⟩
          walk_at "rd"
          refine x_ixL (rdN ((sA.trans tB).trans (SX.new ht))) anm ?_
          exact finE B _ _ _ t tB pB ht
        · walk_at "rd"
          refine ⟨nl, _, rfl, rdN (sA.trans tB), fun n2 hn2' => ?_⟩
          have ec : cutV (names.map V.str) (some (0 : Int)) none = (names.drop 0).map V.str := by rw [List.map_drop]; exact cut_from (k := 0)
          rw [ec]
          walk_at "rd"
          have neq : 0 ≠ names.length := fun e => by
            have : decide (V.int (0 : Int) = V.int (names.length : Int)) = true := decide_eq_true (by rw [← e]; rfl)
            rw [this] at c1
            cases c1
          have thB := sx_there tB pB.there thereA
          have dB : B d = some (.dK kv) := tB _ _ (by simpa using npd) dA
          have ndB : B d ≠ none := by rw [dB]; exact fun z => nomatch z
          have nS2 : n2 ∉ d :: S := fun mem => hid_nn thB ndB n2 mem hn2'
          have hwl' : hid (d :: S) (upd B n2 (.lst ((names.drop 0).map V.str))) wl = some (.lst (wds.map V.str)) := by
            rw [hid_of (by simp only [List.mem_cons, not_or]; exact ⟨Ne.symm ndw, nwS⟩), upd_ne (ne_of_none (tB _ _ (by simpa using nwp) wA) hn2')]
            exact tB _ _ (by simpa using nwp) wA
          refine ⟨p, n2, wl, hands, kind, names.drop 0, wds, d :: S, rfl, pB.sx (SX.new (S := []) hn2') List.not_mem_nil, List.mem_cons_of_mem _ pS, there (SX.new hn2') (hid_nn thB ndB), sqL (by rw [hid_of nS2, upd_same]), sqL hwl', by rw [List.length_drop]; omega, by rw [List.length_drop]; omega, fun s hs => hnn s (List.mem_of_mem_drop hs), by omega, hwn, hh1, hh4, fun v B2 st tC pC rv sok => ?_⟩
          walk_at "rd"
          refine x_ixL (rdN ((sA.trans tB).trans ((SX.new hn2').trans tC))) anm ?_
          exact fin _ _ st _ _ _ (tB.trans ((SX.new hn2').trans tC)) pC rv (sok.sub fun s hs => List.mem_of_mem_drop hs)
      · walk_at "rd"
        refine ⟨nl, _, rfl, rdN (sA.trans tB), fun n2 hn2' => ?_⟩
        have ec : cutV (names.map V.str) (some (0 : Int)) none = (names.drop 0).map V.str := by rw [List.map_drop]; exact cut_from (k := 0)
        rw [ec]
        walk_at "rd"
        have neq : 0 ≠ names.length := fun e => by
          have : decide (V.int (0 : Int) = V.int (names.length : Int)) = true := decide_eq_true (by rw [← e]; rfl)
          rw [this] at c1
          cases c1
        have thB := sx_there tB pB.there thereA
        have dB : B d = some (.dK kv) := tB _ _ (by simpa using npd) dA
        have ndB : B d ≠ none := by rw [dB]; exact fun z => nomatch z
        have nS2 : n2 ∉ d :: S := fun mem => hid_nn thB ndB n2 mem hn2'
        have hwl' : hid (d :: S) (upd B n2 (.lst ((names.drop 0).map V.str))) wl = some (.lst (wds.map V.str)) := by
          rw [hid_of (by simp only [List.mem_cons, not_or]; exact ⟨Ne.symm ndw, nwS⟩), upd_ne (ne_of_none (tB _ _ (by simpa using nwp) wA) hn2')]
          exact tB _ _ (by simpa using nwp) wA
        refine ⟨p, n2, wl, hands, kind, names.drop 0, wds, d :: S, rfl, pB.sx (SX.new (S := []) hn2') List.not_mem_nil, List.mem_cons_of_mem _ pS, there (SX.new hn2') (hid_nn thB ndB), sqL (by rw [hid_of nS2, upd_same]), sqL hwl', by rw [List.length_drop]; omega, by rw [List.length_drop]; omega, fun s hs => hnn s (List.mem_of_mem_drop hs), by omega, hwn, hh1, hh4, fun v B2 st tC pC rv sok => ?_⟩
        walk_at "rd"
        refine x_ixL (rdN ((sA.trans tB).trans ((SX.new hn2').trans tC))) anm ?_
        exact fin _ _ st _ _ _ (tB.trans ((SX.new hn2').trans tC)) pC rv (sok.sub fun s hs => List.mem_of_mem_drop hs)
  · rintro σ A ⟨sA, pA, kv, sts, a, b, c, dA, wA, kA, lA, nA, allA, keyA, rfl⟩
    walk_at "rd"
    have e : (names.length : Int).toNat = names.length := by omega
    rw [e] at lA keyA
    rw [List.take_length] at keyA
    refine k d A sts hd0 sA pA ⟨d, kv, rfl, .inl (by rw [hid_of ndS]; exact dA), KVs.le (mono_stand K) (le_hid2 fun b hb => List.mem_cons_of_mem _ hb) kA⟩ ⟨nA, keyA, allA, lA⟩
end
end M

namespace M
open PySem PySem.Spec PyProof.Rows L2
def isEnd : Stand → Bool
  | .fin => true
  | _ => false
theorem endsOf_snoc {l : List (Str × Stand)} {q : Str × Stand} : endsOf (l ++ [q]) = endsOf l ++ (if isEnd q.2 = true then [q.1] else []) := by
  unfold endsOf
  rw [List.filter_append, List.map_append]
  obtain ⟨a, b⟩ := q
  cases b <;> rfl
theorem endsOf_sub {l : List (Str × Stand)} {x : Str} (h : x ∈ endsOf l) : x ∈ l.map (·.1) := by
  unfold endsOf at h
  obtain ⟨q, h1, h2⟩ := List.mem_map.mp h
  exact List.mem_map.mpr ⟨q, (List.mem_filter.mp h1).1, h2⟩
theorem endsOf_len (l : List (Str × Stand)) : (endsOf l).length ≤ l.length := by
  unfold endsOf
  rw [List.length_map]
  exact List.length_filter_le _ _
theorem key_fresh {α : Type} {l : List (Str × α)} (hn : (l.map (·.1)).Nodup) {i : Nat} {q : Str × α} (h : l[i]? = some q) : q.1 ∉ (l.take i).map (·.1) := by
  have h2 : (l.map (·.1))[i]? = some q.1 := by rw [List.getElem?_map, h]; rfl
  rw [List.map_take]
  exact nodup_take hn h2
theorem sx_drop {p wd : Addr} {A B C : Hp} (a : SX [p] A B) (b : SX [p, wd] B C) (h : A wd = none) : SX [p] A C := fun x o n q => b x o (by
  simp only [List.mem_cons, List.not_mem_nil, or_false, not_or] at n ⊢
  exact ⟨n, fun e => by rw [e, h] at q; cases q⟩) (a x o n q)
section
variable {P : Program} {w : World} {K : PySem.W.Frag} {mg : Str → Option Value} {base : Heap}
/-- the word of a stand's kind -/
def kindS : Stand → Str
  | .fin => "end"
  | .hand _ _ => "hand"
  | .chance _ => "chance"
theorem rStand.kind {H : Hp} {v : V} {st : Stand} (h : rStand K H v st) : ∃ p xs, v = .ref p ∧ SqT K H p xs ∧ atI xs 0 = some (.str (kindS st)) := by
  cases st with
  | fin => obtain ⟨p, h1, h2⟩ := h; exact ⟨p, _, h1, h2, rfl⟩
  | hand a b => obtain ⟨p, d, h1, h2, _⟩ := h; exact ⟨p, _, h1, h2, rfl⟩
  | chance b => obtain ⟨p, d, h1, h2, _⟩ := h; exact ⟨p, _, h1, h2, rfl⟩
theorem kind_end {st : Stand} : decide (V.str (kindS st) = V.str "end") = isEnd st := by
  cases st with
  | fin => decide +kernel
  | hand a b => show decide (V.str "hand" = V.str "end") = false; decide +kernel
  | chance b => show decide (V.str "chance" = V.str "end") = false; decide +kernel
def sp_law_worths (T : Tx K mg) : Sp := fun vs H Q _ => ∃ (p d : Addr) (sts : List (Str × Stand)) (S : List Addr), vs = [.ref p, .ref d] ∧ Pool H p ∧ p ∈ S ∧ (∀ b ∈ S, H b ≠ none) ∧ rD (rStand K) (hid S H) (.ref d) sts ∧ (sts.map (·.1)).Nodup ∧ sts.length ≤ 5000 ∧
  ∀ wd H' l, H wd = none → SX [p] H H' → Pool H' p → rD rI (hid S H') (.ref wd) l → l.map (·.1) = endsOf sts → (∀ q ∈ l, -99 ≤ q.2 ∧ q.2 ≤ 99) → Q (.ref wd) H'
theorem ok_law_worths (T : Tx K mg) : FnOk P w K mg base CX0 2 T.law_worths.f T.law_worths.fd P_law_worths (sp_law_worths T) := by
  refine T.law_worths.F.ok sc_law_worths (fun vs H Q E h => ?_) (fun cdv A outer s H vs Q E hr h => ?_)
  · obtain ⟨p, d, sts, S, rfl, hp, pS, hS, hd, hnd, hlen, k⟩ := h
    rfl
  have hu := hu_of hr
  have nd := sc_law_worths.nd
  obtain ⟨p, d, sts, S, rfl, hp, pS, hS, hd, hnd, hlen, k⟩ := h
  refine ⟨_, (pss_cons (ps_set (i := 2) nd rfl (Or.inl rfl) (pe_ix (w_ixL (K := K) rfl) (pe_lst (pa_cons pe_int (pa_cons pe_int (pa_cons pe_int (pa_cons pe_int pa_nil))))) (pe_call (ok_law_draw (P := P) T) (hr.mono (by decide)) (by rfl) T.law_draw.g T.law_draw.F.kp T.law_draw.B .nil pass0 (pa_cons (pv 0) (pa_cons pe_int pa_nil))) (fun _ _ => rfl)))
      (pss_cons (ps_set (i := 3) nd rfl (Or.inl rfl) pe_dnewK)
      (pss_cons (ps_lockR (ps_for PassesOwn.never rfl (pi_keys (pv 1)) (pg_name (i := 4) nd rfl (Or.inl rfl)) (pss_one (ps_if (pt_cmpR op_eq (pe_ix (w_ixT (K := K) rfl) (pe_dget hu (pv 1) (pv 4) (fun _ _ => rfl)) pe_int (fun _ _ => rfl)) pe_str (nomark _)) (pss_one (ps_dput hu (pv 3) (pv 4) (pe_op op_sub (pe_call (ok_law_draw (P := P) T) (hr.mono (by decide)) (by rfl) T.law_draw.g T.law_draw.F.kp T.law_draw.B .nil pass0 (pa_cons (pv 0) (pa_cons (pe_op op_add (pe_op op_mul pe_int (pv 2)) pe_int) pa_nil))) (pv 2)) rfl)) pss_nil))))
      (pss_one (ps_ret (pv 3)))))), ?_⟩
  refine x_start (σ' := [some _, some _, none, none, none]) rfl ?_
  try simp only [cx_n, cx_K, cx_w, cx_P]
  have subS : ∀ b ∈ [p], b ∈ S := fun b hb => by cases List.mem_singleton.mp hb; exact pS
  obtain ⟨d', kvs, ed, hr, hk⟩ := id hd
  cases ed
  have dS : d ∉ S := by
    rcases hr with h | ⟨o, h⟩ <;> exact (hid_at h).1
  have ndp : d ≠ p := fun e => dS (e ▸ pS)
  walk_at "rd"
  refine ⟨Nat.le_of_ble_eq_true rfl, fun l0 hl0 => ?_⟩
  walk_at "rd"
  refine ⟨p, 4, rfl, hp.sx (SX.new (S := []) hl0) List.not_mem_nil, by decide, by decide, fun r H1 r0 r1 s1 p1 => ?_⟩
  have npl : l0 ≠ p := fun e => hp.there (e ▸ hl0)
  obtain ⟨m, em, hm⟩ := at_ints (ns := [1, 3, 9, 99]) r0 r1
  have hm2 : 1 ≤ m ∧ m ≤ 99 := by simp at hm; omega
  refine x_ixL (sqL (s1 _ _ (by simpa using npl) upd_same)) em ?_
  have sH1 : SX [p] H H1 := (SX.new hl0).trans s1
  walk_at "rd"
  intro wd hwd
  walk_at "rd"
  have nwp : wd ≠ p := fun e => p1.there (e ▸ hwd)
  have hwd0 : H wd = none := sH1.free hwd (by simpa using nwp)
  have nwS : wd ∉ S := fun m => hS wd m hwd0
  have sH2 : SX [p] H (upd H1 wd (.dK [])) := sH1.trans (SX.new hwd)
  have p2 : Pool (upd H1 wd (.dK [])) p := p1.sx (SX.new (S := []) hwd) List.not_mem_nil
  have w2 : (upd H1 wd (.dK [])) wd = some (.dK []) := upd_same
  generalize upd H1 wd (.dK []) = H2 at sH2 p2 w2
  have hr2 : Rd H2 d (.dK kvs) := (sH2.sub subS).leH.rd _ _ trivial hr
  have nwd : wd ≠ d := by
    rintro rfl
    exact rd_there hr (by rw [hid_of dS]; exact hwd0)
  refine x_lockR hr2 fun od HL eL ne => ?_
  walk_at "rd"
  refine ⟨d, od, rfl, .inl ⟨kvs, eL, ?_⟩⟩
  have leL : Le (hid S H) HL := ((sH2.sub subS).leH).trans (lock_le hr2 eL ne)
  refine for_it (walk_keysR hk) (fun i σ A => SX [p, wd] HL A ∧ Pool A p ∧ ∃ (kv : List (Key × V)) (l : List (Str × Int)) (a : Option V), A wd = some (.dK kv) ∧ KVs rI A kv l ∧ l.map (·.1) = endsOf (sts.take i) ∧ (∀ q ∈ l, -99 ≤ q.2 ∧ q.2 ≤ 99) ∧
    σ = [some (.ref p), some (.ref d), some (.int m), some (.ref wd), a]) ⟨SX.refl _, ?_, [], [], none, by rw [ne _ nwd]; exact w2, .nil, rfl, (fun _ h => nomatch h), rfl⟩ (fun _ _ _ _ h => h.1 _ _ (by simp; exact ⟨ndp, Ne.symm nwd⟩) eL) ?_ ?_
  · obtain ⟨ns, e, o⟩ := p2
    exact ⟨ns, by rw [ne _ (Ne.symm ndp)]; exact e, o⟩
  · rintro i x σ A0 A hi ⟨sA, pA, kv, l, a, wA, kA, lA, bA, rfl⟩ ⟨rfl, q, v0, hq, rfl, _⟩
    obtain ⟨v, ev, rv⟩ := hk.in_ hnd (getMem hq)
    obtain ⟨tp, xs, rfl, htp, h0⟩ := rStand.kind rv
    have dA := sA _ _ (by simp; exact ⟨ndp, Ne.symm nwd⟩) eL
    walk_at "rd"
    refine x_dg' (.inr ⟨od, dA⟩) ev ?_
    walk_at "rd"
    have htA : SqT K A tp xs := by
      have e1 : Le (hid (wd :: S) HL) A := (sA.sub (by simp; exact .inr pS)).leH
      have e0 : Le (hid S H) (hid (wd :: S) H2) := le_hidS (sH2.sub subS) (by simp [hwd0]; exact fun b hb => .inl hb)
      have e2 : Le (hid (wd :: S) H2) (hid (wd :: S) HL) := lock_leS (e0.rd _ _ trivial hr) eL ne
      exact ((e0.trans e2).trans e1).t htp
    refine x_ixT htA h0 ?_
    walk_at "rd"
    rw [kind_end]
    have stp : endsOf (sts.take (i + 1)) = endsOf (sts.take i) ++ (if isEnd q.2 = true then [q.1] else []) := by rw [take_succ_of hq]; exact endsOf_snoc
    refine x_cases (fun c => ?_) (fun c => ?_)
    · walk_at "rd"
      refine x_I (.inl ⟨by decide, by decide⟩) ?_
      walk_at "rd"
      refine ⟨p, 2 * m + 1, rfl, pA, by omega, by omega, fun r B r0 r1 t1 q1 => ?_⟩
      walk_at "rd"
      have wB := t1 _ _ (by simpa using nwp) wA
      have kl : kv.length = l.length := Paired.length kA
      have ll : l.length ≤ 5000 := by
        have h1 := congrArg List.length lA
        have h2 := endsOf_len (sts.take i)
        rw [List.length_map] at h1
        rw [List.length_take] at h2
        omega
      refine ⟨wd, _, rfl, DPut.k (k := Sum.inr q.1) wB (lt_size (by omega)), ?_⟩
      have fr : q.1 ∉ l.map (·.1) := by
        rw [lA]
        exact fun h => key_fresh hnd hq (endsOf_sub h)
      refine ⟨?_, q1.sx (SX.mut (S := [wd]) List.mem_cons_self) (by simpa using Ne.symm nwp), _, l ++ [(q.1, r - m)], _, upd_same, ?_, ?_, ?_, rfl⟩
      · exact (sA.trans (t1.sub (by simp))).trans (SX.mut (by simp))
      · rw [putK_fresh (l := l.map (·.1)) _ kA.keys fr]
        exact Paired.app kA (.cons ⟨rfl, rfl⟩ .nil)
      · rw [stp, if_pos c, List.map_append, lA]
        rfl
      · intro z hz
        rcases List.mem_append.mp hz with hz | hz
        · exact bA z hz
        · cases List.mem_singleton.mp hz
          exact ⟨by show -99 ≤ r - m; omega, by show r - m ≤ 99; omega⟩
    · walk_at "rd"
      rw [c] at stp
      exact ⟨sA, pA, kv, l, _, wA, kA, by rw [stp]; simpa using lA, bA, rfl⟩
  · rintro σ A ⟨sA, pA, kv, l, a, wA, kA, lA, bA, rfl⟩
    rw [List.take_length] at lA
    have dA := sA _ _ (by simp; exact ⟨ndp, Ne.symm nwd⟩) eL
    refine ⟨dA, ?_⟩
    walk_at "rd"
    refine k wd _ l hwd0 (sx_drop sH2 (unlock_sx ne sA) hwd0) ?_ ⟨wd, kv, rfl, .inl ?_, ?_⟩ lA bA
    · obtain ⟨ns, e, o⟩ := pA
      exact ⟨ns, by rw [put_ne (Ne.symm ndp)]; exact e, o⟩
    · rw [hid_of nwS, put_ne nwd]
      exact wA
    · exact KVs.le mono_I (Le.refl _) kA
end
end M

namespace M
open PySem PySem.Spec PyProof.Rows L2
section
variable {P : Program} {w : World} {K : PySem.W.Frag} {mg : Str → Option Value} {base : Heap}
def sp_law_endless (T : Tx K mg) : Sp := fun vs H Q _ => ∃ (p d : Addr) (l : List (Str × Int)), vs = [.ref p, .ref d] ∧ Pool H p ∧ rD rI H (.ref d) l ∧ (l.map (·.1)).Nodup ∧ l.length ≤ 5000 ∧ (∀ q ∈ l, -99 ≤ q.2 ∧ q.2 ≤ 99) ∧
  ∀ e H', SX [p] H H' → Pool H' p → -99 ≤ e → e ≤ 99 → ((∀ q ∈ l, e ≤ q.2) ∨ (∀ q ∈ l, q.2 ≤ e)) → Q (.int e) H'
theorem ok_law_endless (T : Tx K mg) : FnOk P w K mg base CX0 2 T.law_endless.f T.law_endless.fd P_law_endless (sp_law_endless T) := by
  refine T.law_endless.F.ok sc_law_endless (fun vs H Q E h => ?_) (fun cdv A outer s H vs Q E hr h => ?_)
  · obtain ⟨p, d, l, rfl, hp, ⟨d', kvs, ed, hrd, hk⟩, hnd, hlen, hb, k⟩ := h
    rfl
  have hu := hu_of hr
  have nd := sc_law_endless.nd
  obtain ⟨p, d, l, rfl, hp, ⟨d', kvs, ed, hrd, hk⟩, hnd, hlen, hb, k⟩ := h
  refine ⟨_, (pss_cons (ps_lockR (ps_setLc (i := 2) (own := [("name", 3)]) rfl nd rfl rfl (sw_true rfl rfl rfl (by decide +kernel)) (pi_keys (pv 1)) (blkOk_by (own := [("name", 3)]) (N := N_law_endless) (sc := defScope s_law_endless) (by decide +kernel)) (fun _ _ _ _ _ => (pg_name (i := 3) nd rfl (Or.inl rfl))) (fun _ _ _ _ _ => pts_nil) (fun _ _ _ _ _ => (pe_dget hu (pv 1) (pv 3) (fun _ _ => rfl)))))
      (pss_cons (ps_set (i := 4) nd rfl (Or.inl rfl) (pe_call (ok_law_draw (P := P) T) (hr.mono (by decide)) (by rfl) T.law_draw.g T.law_draw.F.kp T.law_draw.B .nil pass0 (pa_cons (pv 0) (pa_cons pe_int pa_nil))))
      (pss_cons (ps_set (i := 5) nd rfl (Or.inl rfl) (pe_call (ok_law_draw (P := P) T) (hr.mono (by decide)) (by rfl) T.law_draw.g T.law_draw.F.kp T.law_draw.B .nil pass0 (pa_cons (pv 0) (pa_cons pe_int pa_nil))))
      (pss_cons (ps_if (pt_cmpR op_eq (pe_callB (w_len (K := K) rfl) (by rfl) T.b_len (by decide +kernel) (pa_cons (pv 2) pa_nil)) pe_int (nomark _)) (pss_one (ps_ret (pe_op op_sub (pv 5) pe_int))) pss_nil)
      (pss_cons (ps_if (pt_cmpR op_eq (pv 4) pe_int (nomark _)) (pss_one (ps_ret (pe_callB (cl_max2 rfl) (by rfl) T.b_max (by decide +kernel) (pa_cons (pe_un un_neg pe_int) (pa_cons (pe_op op_sub (pe_callB (w_min (K := K) rfl rfl) (by rfl) T.b_min (by decide +kernel) (pa_cons (pv 2) pa_nil)) (pv 5)) pa_nil))))) pss_nil)
      (pss_one (ps_ret (pe_callB (cl_min2 rfl) (by rfl) T.b_min (by decide +kernel) (pa_cons pe_int (pa_cons (pe_op op_add (pe_callB (w_max (K := K) rfl rfl) (by rfl) T.b_max (by decide +kernel) (pa_cons (pv 2) pa_nil)) (pv 5)) pa_nil)))))))))), ?_⟩
  refine x_start (σ' := [some _, some _, none, none, none, none]) rfl ?_
  try simp only [cx_n, cx_K, cx_w, cx_P]
  cases ed
  have ndp : d ≠ p := by
    rintro rfl
    obtain ⟨ns, e, _⟩ := hp
    rcases hrd with h | ⟨o, h⟩ <;> rw [h] at e <;> cases e
  walk_at "rd"
  refine x_lockR hrd fun od HL eL ne => ?_
  walk_at "rd"
  refine ⟨d, od, rfl, .inl ⟨kvs, eL, fun D hD => ?_⟩⟩
  have hDd : d ≠ D := ne_of_none eL hD
  have hD0 : H D = none := by rw [← ne D (Ne.symm hDd)]; exact hD
  have npD : p ≠ D := fun e => hp.there (e ▸ hD0)
  refine lc_it (walk_keysR hk) (fun n A => SX [] HL A ∧ A D = some (.lst (((l.take n).map (·.2)).map V.int))) ⟨SX.new hD, upd_same⟩ (fun _ _ _ h => h.1 _ _ List.not_mem_nil eL) ?_ ?_
  · rintro n y A0 A hn ⟨s1, s2⟩ ⟨rfl, q, v, hq, rfl, _⟩
    obtain ⟨v, ev, rfl⟩ := hk.in_ hnd (getMem hq)
    walk_at "rd"
    refine ⟨rfl, ?_⟩
    walk_at "rd"
    refine x_dg' (.inr ⟨od, s1 _ _ List.not_mem_nil eL⟩) ev ?_
    refine ⟨_, s2, lt_size (by rw [List.length_map, List.length_map, List.length_take]; omega), sx_nil_of (S := [D]) ((nil_sx s1).trans (SX.mut List.mem_cons_self)) (by simp [hD]), ?_⟩
    rw [upd_same, take_succ_of hq, List.map_append, List.map_append]
    rfl
  rintro A ⟨s1, s2⟩
  rw [List.take_length] at s2
  have eA := s1 _ _ List.not_mem_nil eL
  walk_at "rd"
  refine ⟨eA, ?_⟩
  have sB : SX [] H (put A d (H d)) := unlock_sx ne s1
  have dB : (put A d (H d)) D = some (.lst ((l.map (·.2)).map V.int)) := by rw [put_ne (Ne.symm hDd)]; exact s2
  have pB : Pool (put A d (H d)) p := hp.sx sB List.not_mem_nil
  generalize put A d (H d) = B at sB dB pB
  walk_at "rd"
  refine ⟨p, 2, rfl, pB, by decide, by decide, fun side B1 b0 b1 t1 q1 => ?_⟩
  walk_at "rd"
  refine ⟨p, 3, rfl, q1, by decide, by decide, fun gap B2 g0 g1 t2 q2 => ?_⟩
  have dB2 := t2 _ _ (by simpa using Ne.symm npD) (t1 _ _ (by simpa using Ne.symm npD) dB)
  have sx2 : SX [p] H B2 := ((nil_sx sB).trans t1).trans t2
  walk_at "rd"
  refine x_lenL' (sqL dB2) ?_
  walk_at "rd"
  rw [List.length_map, List.length_map]
  refine x_cases (fun c => ?_) (fun c => ?_)
  · walk_at "rd"
    have e0 : l = [] := by
      have := of_decide_eq_true c
      injection this with this
      exact List.eq_nil_of_length_eq_zero (by omega)
    exact k _ _ sx2 q2 (by omega) (by omega) (.inl fun q hq => by rw [e0] at hq; cases hq)
  · have hl : 0 < l.length := by
      rcases Nat.eq_zero_or_pos l.length with h | h
      · rw [h] at c
        exact absurd c (by decide)
      · exact h
    walk_at "rd"
    refine x_cases (fun c2 => ?_) (fun c2 => ?_)
    · walk_at "rd"
      refine ⟨D, l.map (·.2), rfl, sqL dB2, by rw [List.length_map]; exact hl, fun m mm ml => ?_⟩
      walk_at "rd"
      have hm : -99 ≤ m ∧ m ≤ 99 := by
        obtain ⟨q, hq, rfl⟩ := List.mem_map.mp mm
        exact hb q hq
      refine k _ _ sx2 q2 ?_ ?_ (.inl fun q hq => ?_)
      · split <;> omega
      · split <;> omega
      · have := ml q.2 (List.mem_map.mpr ⟨q, hq, rfl⟩)
        have := hb q hq
        split <;> omega
    · walk_at "rd"
      refine ⟨D, l.map (·.2), rfl, sqL dB2, by rw [List.length_map]; exact hl, fun m mm ml => ?_⟩
      walk_at "rd"
      have hm : -99 ≤ m ∧ m ≤ 99 := by
        obtain ⟨q, hq, rfl⟩ := List.mem_map.mp mm
        exact hb q hq
      refine k _ _ sx2 q2 ?_ ?_ (.inr fun q hq => ?_)
      · split <;> omega
      · split <;> omega
      · have := ml q.2 (List.mem_map.mpr ⟨q, hq, rfl⟩)
        have := hb q hq
        split <;> omega
def sp_law_copy (T : Tx K mg) : Sp := fun vs H Q _ => ∃ (d : Addr) (sts : List (Str × Stand)), vs = [.ref d] ∧ rD (rStand K) H (.ref d) sts ∧ (sts.map (·.1)).Nodup ∧ sts.length ≤ 5000 ∧
  ∀ f H', H f = none → SX [] H H' → rD (rStand K) H' (.ref f) sts → Q (.ref f) H'
theorem ok_law_copy (T : Tx K mg) : FnOk P w K mg base CX0 1 T.law_copy.f T.law_copy.fd P_law_copy (sp_law_copy T) := by
  refine T.law_copy.F.ok sc_law_copy (fun vs H Q E h => ?_) (fun cdv A outer s H vs Q E hr h => ?_)
  · obtain ⟨d, sts, rfl, ⟨d', kvs, ed, hr, hk⟩, hnd, hlen, k⟩ := h
    rfl
  have hu := hu_of hr
  have nd := sc_law_copy.nd
  obtain ⟨d, sts, rfl, ⟨d', kvs, ed, hr, hk⟩, hnd, hlen, k⟩ := h
  refine ⟨_, (pss_cons (ps_set (i := 1) nd rfl (Or.inl rfl) pe_dnewK)
      (pss_cons (ps_lockR (ps_for PassesOwn.never rfl (pi_keys (pv 0)) (pg_name (i := 2) nd rfl (Or.inl rfl)) (pss_cons (ps_set (i := 3) nd rfl (Or.inl rfl) (pe_dget hu (pv 0) (pv 2) (fun _ _ => rfl)))
      (pss_one (ps_if (pt_cmpR op_eq (pe_ix (w_ixT (K := K) rfl) (pv 3) pe_int (fun _ _ => rfl)) pe_str (nomark _)) (pss_one (ps_dput hu (pv 1) (pv 2) (pe_tup (pa_cons pe_str (pa_cons (pe_ix (w_ixT (K := K) rfl) (pv 3) pe_int (fun _ _ => rfl)) (pa_cons (pe_callTy cl_dict (by rfl) T.b_dict (by decide +kernel) (pa_cons (pe_ix (w_ixT (K := K) rfl) (pv 3) pe_int (fun _ _ => rfl)) pa_nil)) pa_nil)))) rfl)) (pss_one (ps_if (pt_cmpR op_eq (pe_ix (w_ixT (K := K) rfl) (pv 3) pe_int (fun _ _ => rfl)) pe_str (nomark _)) (pss_one (ps_dput hu (pv 1) (pv 2) (pe_tup (pa_cons pe_str (pa_cons (pe_callTy cl_dict (by rfl) T.b_dict (by decide +kernel) (pa_cons (pe_ix (w_ixT (K := K) rfl) (pv 3) pe_int (fun _ _ => rfl)) pa_nil)) pa_nil))) rfl)) (pss_one (ps_dput hu (pv 1) (pv 2) (pe_tup (pa_cons pe_str pa_nil)) rfl)))))))))
      (pss_one (ps_ret (pv 1))))), ?_⟩
  refine x_start (σ' := [some _, none, none, none]) rfl ?_
  try simp only [cx_n, cx_K, cx_w, cx_P]
  cases ed
  walk_at "rd"
  intro f hf
  walk_at "rd"
  have nfd : f ≠ d := by
    rintro rfl
    exact rd_there hr hf
  have s2 : SX [] H (upd H f (.dK [])) := SX.new hf
  have f2 : (upd H f (.dK [])) f = some (.dK []) := upd_same
  generalize upd H f (.dK []) = H2 at s2 f2
  have hr2 : Rd H2 d (.dK kvs) := s2.rd hr
  refine x_lockR hr2 fun od HL eL ne => ?_
  walk_at "rd"
  refine ⟨d, od, rfl, .inl ⟨kvs, eL, ?_⟩⟩
  have leL : Le (hid [f] H) (hid [f] HL) := ((nil_sx s2).le).trans (lock_leS ((nil_sx s2).le.rd _ _ trivial (by
    rcases hr with h | ⟨o, h⟩
    · exact .inl (by rw [hid_of (by simpa using Ne.symm nfd)]; exact h)
    · exact .inr ⟨o, by rw [hid_of (by simpa using Ne.symm nfd)]; exact h⟩)) eL ne)
  have leF : Le H (hid [f] H) := le_of fun b o q => by
    rw [hid_of]
    · exact q
    · intro m
      cases List.mem_singleton.mp m
      rw [hf] at q
      cases q
  refine for_it (walk_keysR hk) (fun i σ A => SX [f] HL A ∧ ∃ (kv : List (Key × V)) (a b : Option V), A f = some (.dK kv) ∧ KVs (rStand K) (hid [f] A) kv (sts.take i) ∧ σ = [some (.ref d), some (.ref f), a, b])
    ⟨SX.refl _, [], none, none, by rw [ne _ nfd]; exact f2, .nil, rfl⟩ (fun _ _ _ _ h => h.1 _ _ (by simpa using Ne.symm nfd) eL) ?_ ?_
  · rintro i x σ A0 A hi ⟨sA, kv, a, b, fA, kA, rfl⟩ ⟨rfl, q, v0, hq, rfl, _⟩
    obtain ⟨v, ev, rv0⟩ := hk.in_ hnd (getMem hq)
    have rv : rStand K (hid [f] A) v q.2 := mono_stand K _ _ _ _ ((leF.trans leL).trans sA.le) rv0
    have dA := sA _ _ (by simpa using Ne.symm nfd) eL
    have hkl : kv.length ≤ 5000 := by rw [Paired.length kA, List.length_take]; omega
    have fin : ∀ (B : Hp) (t : Addr) (xs : List V) (x1 x2 : Option V), SX [f] A B → B f = some (.dK kv) → B t = none → rStand K (hid [f] (upd B t (.tup xs))) (.ref t) q.2 → ∃ a' H4, V.ref f = .ref a' ∧ DPut (upd B t (.tup xs)) a' (.str q.1) (.ref t) H4 ∧
        (SX [f] HL H4 ∧ ∃ (kv : List (Key × V)) (a b : Option V), H4 f = some (.dK kv) ∧ KVs (rStand K) (hid [f] H4) kv (sts.take (i + 1)) ∧ [some (.ref d), some (.ref f), x1, x2] = [some (.ref d), some (.ref f), a, b]) := by
      intro B t xs x1 x2 tB fB ht rt
      have nft : f ≠ t := ne_of_none fB ht
      refine ⟨f, _, rfl, DPut.k (k := Sum.inr q.1) (by rw [upd_ne nft]; exact fB) (lt_size (by omega)), (sA.trans (tB.trans (SX.new ht))).trans (SX.mut (by simp)), _, _, _, upd_same, ?_, rfl⟩
      rw [putK_fresh (l := (sts.take i).map (·.1)) _ kA.keys (key_fresh hnd hq), take_succ_of hq]
      exact Paired.app (KVs.le (mono_stand K) (((tB.trans (SX.new ht))).trans (SX.mut (by simp))).le kA) (.cons ⟨rfl, mono_stand K _ _ _ _ (SX.mut (by simp)).le rt⟩ .nil)
    have hn : ∀ {B : Hp} {t : Addr} {o : HO}, B f = some (.dK kv) → B t = none → hid [f] (upd B t o) t = some o := fun fB ht => by
      rw [hid_of (by simpa using Ne.symm (ne_of_none fB ht)), upd_same]
    walk_at "rd"
    refine x_dg' (.inr ⟨od, dA⟩) ev ?_
    walk_at "rd"
    cases hq2 : q.2 with
    | fin =>
      rw [hq2] at rv fin
      obtain ⟨p5, rfl, hp5⟩ := rv
      refine x_ixT (le_hid.t hp5) (atI_nat (j := 0) rfl) ?_
      walk_at "rd"
      walk_at "if!"
      walk_at "rd"
      refine x_ixT (le_hid.t hp5) (atI_nat (j := 0) rfl) ?_
      walk_at "rd"
      walk_at "if!"
      walk_at "rd"
      refine ⟨Nat.le_of_ble_eq_true rfl, fun t ht => ?_⟩
      walk_at "rd"
      exact fin A t _ _ _ (SX.refl _) fA ht ⟨t, rfl, sqT (hn fA ht)⟩
    | hand h ms =>
      rw [hq2] at rv fin
      obtain ⟨p5, _, rfl, hp5, d5, kv5, rfl, r5, k5⟩ := rv
      refine x_ixT (le_hid.t hp5) (atI_nat (j := 0) rfl) ?_
      walk_at "rd"
      walk_at "if!"
      walk_at "rd"
      refine x_ixT (le_hid.t hp5) (atI_nat (j := 1) rfl) ?_
      walk_at "rd"
      refine x_ixT (le_hid.t hp5) (atI_nat (j := 2) rfl) ?_
      walk_at "rd"
      refine x_cdict (le_hid.rd _ _ trivial r5) fun c hc => ?_
      walk_at "rd"
      refine ⟨Nat.le_of_ble_eq_true rfl, fun t ht => ?_⟩
      walk_at "rd"
      have nfc : f ≠ c := ne_of_none fA hc
      have fB : (upd A c (.dK kv5)) f = some (.dK kv) := by rw [upd_ne nfc]; exact fA
      refine fin _ t _ _ _ (SX.new hc) fB ht ⟨t, .ref c, rfl, sqT (hn fB ht), c, kv5, rfl, .inl ?_, KVs.le mono_S (Le.refl _) (KVs.le mono_S ((SX.new hc).trans (SX.new ht)).le k5)⟩
      have nct : c ≠ t := by
        rintro rfl
        rw [upd_same] at ht
        cases ht
      rw [hid_of (by simpa using Ne.symm nfc), upd_ne nct, upd_same]
    | chance ds =>
      rw [hq2] at rv fin
      obtain ⟨p5, _, rfl, hp5, d5, kv5, rfl, r5, k5⟩ := rv
      refine x_ixT (le_hid.t hp5) (atI_nat (j := 0) rfl) ?_
      walk_at "rd"
      walk_at "if!"
      walk_at "rd"
      refine x_ixT (le_hid.t hp5) (atI_nat (j := 0) rfl) ?_
      walk_at "rd"
      walk_at "if!"
      walk_at "rd"
      refine x_ixT (le_hid.t hp5) (atI_nat (j := 1) rfl) ?_
      walk_at "rd"
      refine x_cdict (le_hid.rd _ _ trivial r5) fun c hc => ?_
      walk_at "rd"
      refine ⟨Nat.le_of_ble_eq_true rfl, fun t ht => ?_⟩
      walk_at "rd"
      have nfc : f ≠ c := ne_of_none fA hc
      have fB : (upd A c (.dK kv5)) f = some (.dK kv) := by rw [upd_ne nfc]; exact fA
      refine fin _ t _ _ _ (SX.new hc) fB ht ⟨t, .ref c, rfl, sqT (hn fB ht), c, kv5, rfl, .inl ?_, KVs.le (mono_P mono_S mono_I) ((SX.new hc).trans (SX.new ht)).le k5⟩
      have nct : c ≠ t := by
        rintro rfl
        rw [upd_same] at ht
        cases ht
      rw [hid_of (by simpa using Ne.symm nfc), upd_ne nct, upd_same]
  · rintro σ A ⟨sA, kv, a, b, fA, kA, rfl⟩
    rw [List.take_length] at kA
    have dA := sA _ _ (by simpa using Ne.symm nfd) eL
    refine ⟨dA, ?_⟩
    walk_at "rd"
    have sU : SX [f] H2 (put A d (H2 d)) := unlock_sx ne sA
    refine k f _ hf (sx_nil_of (S := [f]) ((nil_sx s2).trans sU) (by simp [hf])) ⟨f, kv, rfl, .inl ?_, KVs.le (mono_stand K) (le_hid.trans (unlock_le hr2 dA)) kA⟩
    rw [put_ne nfd]
    exact fA
end
end M

namespace M
open PySem PySem.Spec PyProof.Rows L2
/-- steps of a stand by their names, with where they lead -/
def Stand.rows : Stand → List (Str × Str)
  | .fin => []
  | .hand _ ms => ms
  | .chance ds => ds.map fun q => (q.1, q.2.1)
theorem rows_tos (st : Stand) : st.rows.map (·.2) = st.tos := by
  cases st with
  | fin => rfl
  | hand h ms => rfl
  | chance ds => show (ds.map _).map _ = _; rw [List.map_map]; rfl
theorem pick_take {α : Type} [Inhabited α] {l : List (Str × α)} {ys : List Str} {n : Nat} {s : Str} {a : α} (h : ys[n]? = some s) (e : lookA l s = some a) : pick l (ys.take (n + 1)) = pick l (ys.take n) ++ [(s, a)] := by
  rw [take_succ_of h]
  unfold pick
  rw [List.map_append]
  show _ ++ [(s, (lookA l s).getD default)] = _
  rw [e]
  rfl
theorem pick_len {α : Type} [Inhabited α] (l : List (Str × α)) (ys : List Str) : (pick l ys).length = ys.length := List.length_map _
theorem Srt.map_snd {α β : Type} {l l' : List (Str × α)} {g : α → β} (h : Srt l l') : Srt (l.map fun q => (q.1, g q.2)) (l'.map fun q => (q.1, g q.2)) := ⟨h.perm.map _, by
  have := h.srt
  rw [List.map_map]
  exact this⟩
section
variable {P : Program} {w : World} {K : PySem.W.Frag} {mg : Str → Option Value} {base : Heap}
def sp_law_steps (T : Tx K mg) : Sp := fun vs H Q _ => ∃ (d : Addr) (s : Str) (sts : List (Str × Stand)) (st : Stand), vs = [.ref d, .str s] ∧ rD (rStand K) H (.ref d) sts ∧ lookA sts s = some st ∧ st.nd ∧ st.size ≤ 100 ∧
  ∀ p H' xs l, H p = none → SX [] H H' → H' p = some (.lst xs) → Paired (rP K rS rS H') xs l → Srt st.rows l → Q (.ref p) H'
theorem ok_law_steps (T : Tx K mg) : FnOk P w K mg base CX0 1 T.law_steps.f T.law_steps.fd P_law_steps (sp_law_steps T) := by
  refine T.law_steps.F.ok sc_law_steps (fun vs H Q E h => ?_) (fun cdv A outer s H vs Q E hr h => ?_)
  · obtain ⟨d, s, sts, st, rfl, ⟨d', kvs, ed, hrd, hk⟩, hs, hnd, hsz, k⟩ := h
    rfl
  have hu := hu_of hr
  have nd := sc_law_steps.nd
  obtain ⟨d, s, sts, st, rfl, ⟨d', kvs, ed, hrd, hk⟩, hs, hnd, hsz, k⟩ := h
  refine ⟨_, (pss_cons (ps_set (i := 2) nd rfl (Or.inr rfl) (pe_dget hu (pv 0) (pv 1) (fun _ _ => rfl)))
      (pss_cons (ps_if (pt_cmpR op_eq (pe_ix (w_ixT (K := K) rfl) (pv 2) pe_int (fun _ _ => rfl)) pe_str (nomark _)) (pss_one (ps_ret (pe_lc (own := [("step", 3)]) rfl nd (w_pilist (K := K) rfl (pe_callB (cl_sortD rfl) (by rfl) T.b_sorted (by decide +kernel) (pa_cons (pe_ix (w_ixT (K := K) rfl) (pv 2) pe_int (fun _ _ => rfl)) pa_nil))) (blkOk_by (own := [("step", 3)]) (N := N_law_steps) (sc := defScope s_law_steps) (by decide +kernel)) (fun _ _ _ _ _ => (pg_name (i := 3) nd rfl (Or.inl rfl))) (fun _ _ _ _ _ => pts_nil) (fun _ _ _ _ _ => (pe_tup (pa_cons (pv 3) (pa_cons (pe_dget hu (pe_ix (w_ixT (K := K) rfl) (pv 2) pe_int (fun _ _ => rfl)) (pv 3) (fun _ _ => rfl)) pa_nil))))))) pss_nil)
      (pss_cons (ps_if (pt_cmpR op_eq (pe_ix (w_ixT (K := K) rfl) (pv 2) pe_int (fun _ _ => rfl)) pe_str (nomark _)) (pss_one (ps_ret (pe_lc (own := [("step", 3)]) rfl nd (w_pilist (K := K) rfl (pe_callB (cl_sortD rfl) (by rfl) T.b_sorted (by decide +kernel) (pa_cons (pe_ix (w_ixT (K := K) rfl) (pv 2) pe_int (fun _ _ => rfl)) pa_nil))) (blkOk_by (own := [("step", 3)]) (N := N_law_steps) (sc := defScope s_law_steps) (by decide +kernel)) (fun _ _ _ _ _ => (pg_name (i := 3) nd rfl (Or.inl rfl))) (fun _ _ _ _ _ => pts_nil) (fun _ _ _ _ _ => (pe_tup (pa_cons (pv 3) (pa_cons (pe_ix (w_ixT (K := K) rfl) (pe_dget hu (pe_ix (w_ixT (K := K) rfl) (pv 2) pe_int (fun _ _ => rfl)) (pv 3) (fun _ _ => rfl)) pe_int (fun _ _ => rfl)) pa_nil))))))) pss_nil)
      (pss_one (ps_ret (pe_lst pa_nil)))))), ?_⟩
  refine x_start (σ' := [some _, some _, none, none]) rfl ?_
  try simp only [cx_n, cx_K, cx_w, cx_P]
  cases ed
  obtain ⟨v, ev, rv⟩ := hk.at_ hs
  walk_at "rd"
  refine x_dg' hrd ev ?_
  walk_at "rd"
  cases st with
  | fin =>
    obtain ⟨p5, rfl, hp5⟩ := rv
    refine x_ixT hp5 (atI_nat (j := 0) rfl) ?_
    walk_at "rd"
    walk_at "if!"
    walk_at "rd"
    refine x_ixT hp5 (atI_nat (j := 0) rfl) ?_
    walk_at "rd"
    walk_at "if!"
    walk_at "rd"
    exact ⟨Nat.le_of_ble_eq_true rfl, fun q hq => k q _ [] [] hq (SX.new hq) upd_same .nil ⟨.refl _, rfl⟩⟩
  | hand h ms =>
    obtain ⟨p5, _, rfl, hp5, d5, kv5, rfl, r5, k5⟩ := rv
    refine x_ixT hp5 (atI_nat (j := 0) rfl) ?_
    walk_at "rd"
    walk_at "if!"
    walk_at "rd"
    refine x_ixT hp5 (v := .ref d5) (atI_nat (j := 2) rfl) ?_
    walk_at "rd"
    refine x_sortD r5 k5.keys fun ys py hp hsy np => ?_
    refine x_itl (sqL upd_same) fun D hD => ?_
    have hDp : D ≠ py := by
      rintro rfl
      rw [upd_same] at hD
      cases hD
    have hD0 : H D = none := by rw [upd_ne hDp] at hD; exact hD
    have hyl : ys.length = ms.length := by rw [hp.length_eq, List.length_map]
    refine lc_it (walk_listR (R := rS) (Hb := H) (paired_S' ys)) (fun n A => SX [] H A ∧ A py = some (.lst (ys.map V.str)) ∧ ∃ xs, A D = some (.lst xs) ∧ Paired (rP K rS rS (hid [D] A)) xs (pick ms (ys.take n)))
      ⟨(SX.new np).trans (SX.new hD), by rw [upd_ne (Ne.symm hDp)]; exact upd_same, [], upd_same, .nil⟩ (fun n A _ h => sqL h.2.1) ?_ ?_
    · rintro n y A0 A hn ⟨sA, pA, xs, dA, kA⟩ ⟨rfl, s1, hs1, rfl⟩
      have sm : s1 ∈ ms.map (·.1) := hp.mem_iff.mp (getMem hs1)
      obtain ⟨a, ea⟩ := lookA_some sm
      obtain ⟨v1, e1, rfl⟩ := k5.at_ ea
      walk_at "rd"
      refine ⟨rfl, ?_⟩
      walk_at "rd"
      refine x_ixT (sA.le0.t hp5) (v := .ref d5) (atI_nat (j := 2) rfl) ?_
      walk_at "rd"
      refine x_dg' (sA.rd r5) e1 ?_
      walk_at "rd"
      refine ⟨Nat.le_of_ble_eq_true rfl, fun t ht => ?_⟩
      have nDt : D ≠ t := ne_of_none dA ht
      have xl : xs.length = n := by rw [Paired.length kA, pick_len, List.length_take]; have := getLt hs1; omega
      refine ⟨xs, by rw [upd_ne nDt]; exact dA, lt_size (by rw [xl]; have := getLt hs1; have h2 : ms.length ≤ 100 := hsz; omega), ?_⟩
      have sT : SX [] A (upd A t (.tup [.str s1, .str a])) := SX.new ht
      refine ⟨sx_nil_of (S := [D]) ((nil_sx (sA.trans sT)).trans (SX.mut List.mem_cons_self)) (by simp [hD0]), by rw [upd_ne (Ne.symm hDp)]; exact sT _ _ List.not_mem_nil pA, _, upd_same, ?_⟩
      rw [pick_take hs1 ea]
      refine Paired.app (paired_le (mono_P mono_S mono_S) ((nil_sx sT).trans (SX.mut (by simp))).le kA) (.cons ⟨t, .str s1, .str a, rfl, sqT ?_, rfl, rfl⟩ .nil)
      rw [hid_of (by simpa using Ne.symm nDt), upd_ne (Ne.symm nDt), upd_same]
    · rintro A ⟨sA, pA, xs, dA, kA⟩
      rw [List.take_length] at kA
      exact k D A xs _ hD0 sA dA (paired_le (mono_P mono_S mono_S) le_hid kA) (pick_srt hnd hp hsy)
  | chance ds =>
    obtain ⟨p5, _, rfl, hp5, d5, kv5, rfl, r5, k5⟩ := rv
    refine x_ixT hp5 (atI_nat (j := 0) rfl) ?_
    walk_at "rd"
    walk_at "if!"
    walk_at "rd"
    refine x_ixT hp5 (atI_nat (j := 0) rfl) ?_
    walk_at "rd"
    walk_at "if!"
    walk_at "rd"
    refine x_ixT hp5 (v := .ref d5) (atI_nat (j := 1) rfl) ?_
    walk_at "rd"
    refine x_sortD r5 k5.keys fun ys py hp hsy np => ?_
    refine x_itl (sqL upd_same) fun D hD => ?_
    have hDp : D ≠ py := by
      rintro rfl
      rw [upd_same] at hD
      cases hD
    have hD0 : H D = none := by rw [upd_ne hDp] at hD; exact hD
    have hyl : ys.length = ds.length := by rw [hp.length_eq, List.length_map]
    refine lc_it (walk_listR (R := rS) (Hb := H) (paired_S' ys)) (fun n A => SX [] H A ∧ A py = some (.lst (ys.map V.str)) ∧ ∃ xs, A D = some (.lst xs) ∧ Paired (rP K rS rS (hid [D] A)) xs ((pick ds (ys.take n)).map fun q => (q.1, q.2.1)))
      ⟨(SX.new np).trans (SX.new hD), by rw [upd_ne (Ne.symm hDp)]; exact upd_same, [], upd_same, .nil⟩ (fun n A _ h => sqL h.2.1) ?_ ?_
    · rintro n y A0 A hn ⟨sA, pA, xs, dA, kA⟩ ⟨rfl, s1, hs1, rfl⟩
      have sm : s1 ∈ ds.map (·.1) := hp.mem_iff.mp (getMem hs1)
      obtain ⟨a, ea⟩ := lookA_some sm
      obtain ⟨v1, e1, q1, z1, z2, rfl, hq1, rfl, rfl⟩ := k5.at_ ea
      walk_at "rd"
      refine ⟨rfl, ?_⟩
      walk_at "rd"
      refine x_ixT (sA.le0.t hp5) (v := .ref d5) (atI_nat (j := 1) rfl) ?_
      walk_at "rd"
      refine x_dg' (sA.rd r5) e1 ?_
      walk_at "rd"
      refine x_ixT (sA.le0.t hq1) (atI_nat (j := 0) rfl) ?_
      walk_at "rd"
      refine ⟨Nat.le_of_ble_eq_true rfl, fun t ht => ?_⟩
      have nDt : D ≠ t := ne_of_none dA ht
      have xl : xs.length = n := by rw [Paired.length kA, List.length_map, pick_len, List.length_take]; have := getLt hs1; omega
      refine ⟨xs, by rw [upd_ne nDt]; exact dA, lt_size (by rw [xl]; have := getLt hs1; have h2 : ds.length ≤ 100 := hsz; omega), ?_⟩
      have sT : SX [] A (upd A t (.tup [.str s1, .str a.1])) := SX.new ht
      refine ⟨sx_nil_of (S := [D]) ((nil_sx (sA.trans sT)).trans (SX.mut List.mem_cons_self)) (by simp [hD0]), by rw [upd_ne (Ne.symm hDp)]; exact sT _ _ List.not_mem_nil pA, _, upd_same, ?_⟩
      rw [pick_take hs1 ea, List.map_append]
      refine Paired.app (paired_le (mono_P mono_S mono_S) ((nil_sx sT).trans (SX.mut (by simp))).le kA) (.cons ⟨t, .str s1, .str a.1, rfl, sqT ?_, rfl, rfl⟩ .nil)
      rw [hid_of (by simpa using Ne.symm nDt), upd_ne (Ne.symm nDt), upd_same]
    · rintro A ⟨sA, pA, xs, dA, kA⟩
      rw [List.take_length] at kA
      exact k D A xs _ hD0 sA dA (paired_le (mono_P mono_S mono_S) le_hid kA) (Srt.map_snd (g := fun z : Str × Int => z.1) (pick_srt hnd hp hsy))
def sp_law_work (T : Tx K mg) : Sp := fun vs H Q _ => ∃ (q : Addr) (hands : Int) (start : Str) (d : Addr) (more : List V) (sts : List (Str × Stand)), vs = [.ref q] ∧ SqL K H q (.int hands :: .str start :: .ref d :: more) ∧ rD (rStand K) H (.ref d) sts ∧ WorkOk hands start sts ∧
  ∀ x H' tbl, SX [] H H' → WorkAt T H' x hands start tbl → Tbl sts tbl → Q (.ref x) H'
theorem ok_law_work (T : Tx K mg) : FnOk P w K mg base CX0 7 T.law_work.f T.law_work.fd P_law_work (sp_law_work T) := by
  refine T.law_work.F.ok sc_law_work (fun vs H Q E h => ?_) (fun cdv A outer s H vs Q E hr h => ?_)
  · obtain ⟨q, hands, start, d, more, sts, rfl, hq, hd, ok, k⟩ := h
    rfl
  have hu := hu_of hr
  have nd := sc_law_work.nd
  obtain ⟨q, hands, start, d, more, sts, rfl, hq, hd, ok, k⟩ := h
  refine ⟨_, (pss_one (ps_ret (pe_make T.m_Work (ok_Work_init (P := P) T) (hr.mono (by decide)) (by rfl) T.g_Work T.Work_init.B .nil pass0 (pa_cons (pe_ix (w_ixL (K := K) rfl) (pv 0) pe_int (fun _ _ => rfl)) (pa_cons (pe_ix (w_ixL (K := K) rfl) (pv 0) pe_int (fun _ _ => rfl)) (pa_cons (pe_call (ok_law_copy (P := P) T) (hr.mono (by decide)) (by rfl) T.law_copy.g T.law_copy.F.kp T.law_copy.B .nil pass0 (pa_cons (pe_ix (w_ixL (K := K) rfl) (pv 0) pe_int (fun _ _ => rfl)) pa_nil)) pa_nil)))))), ?_⟩
  refine x_start (σ' := [some _]) rfl ?_
  try simp only [cx_n, cx_K, cx_w, cx_P]
  walk_at "rd"
  have go : ∀ (ag : TA) (B : Prop), True := fun _ _ => trivial
  show tCons _ _ _ _ _
  walk_at "rd"
  refine x_ixL hq (atI_nat (j := 0) rfl) ?_
  walk_at "rd"
  refine x_ixL hq (atI_nat (j := 1) rfl) ?_
  walk_at "rd"
  refine x_ixL hq (atI_nat (j := 2) rfl) ?_
  walk_at "rd"
  refine ⟨d, sts, rfl, hd, ok.nd, Nat.le_trans ok.len.2 (by decide), fun f H1 hf s1 rf => ?_⟩
  walk_at "rd"
  intro x dx hx hdx ndx
  have s2 : SX [] H1 (upd (upd H1 dx (.own x)) x (.ins T.a_Work dx [])) := (SX.new hdx).trans (SX.new (by rw [upd_ne (Ne.symm ndx)]; exact hx))
  have leX : Le H1 (hid [x] (upd (upd H1 dx (.own x)) x (.ins T.a_Work dx []))) := le_of fun b o q => by
    rw [hid_of]
    · exact s2 b o List.not_mem_nil q
    · intro m
      cases List.mem_singleton.mp m
      rw [hx] at q
      cases q
  refine ⟨x, dx, .ref f, hands, start, sts, rfl, upd_same, mono_D (mono_stand K) _ _ _ _ leX rf, ok, fun H2 tbl s3 wa tb => ⟨rfl, ?_⟩⟩
  exact k x H2 tbl (s1.trans (sx_nil_of (S := [x]) ((nil_sx s2).trans s3) (by simp [hx]))) wa tb
def sp_law_world (T : Tx K mg) : Sp := fun vs H Q _ => ∃ (p : Addr) (most : Int) (rl : Bool) , vs = [.ref p, .int most, .bl rl] ∧ Pool H p ∧ 2 ≤ most ∧ most ≤ 40 ∧
  ∀ q H' hands start d sts wd wl e, H q = none → SX [p] H H' → Pool H' p → H' q = some (.lst [.int hands, .str start, .ref d, .ref wd, .int e]) → rD (rStand K) (hid [p, q] H') (.ref d) sts → WorkOk hands start sts →
    rD rI (hid [p, q] H') (.ref wd) wl → wl.map (·.1) = endsOf sts → (∀ z ∈ wl, -99 ≤ z.2 ∧ z.2 ≤ 99) → -99 ≤ e → e ≤ 99 → ((∀ z ∈ wl, e ≤ z.2) ∨ (∀ z ∈ wl, z.2 ≤ e)) → Q (.ref q) H'
theorem ok_law_world (T : Tx K mg) : FnOk P w K mg base CX0 5 T.law_world.f T.law_world.fd P_law_world (sp_law_world T) := by
  refine T.law_world.F.ok sc_law_world (fun vs H Q E h => ?_) (fun cdv A outer s H vs Q E hr h => ?_)
  · obtain ⟨p, most, rl, rfl, hp, hm1, hm2, k⟩ := h
    rfl
  have hu := hu_of hr
  have nd := sc_law_world.nd
  obtain ⟨p, most, rl, rfl, hp, hm1, hm2, k⟩ := h
  refine ⟨_, (pss_cons (ps_set (i := 3) nd rfl (Or.inl rfl) (pe_ix (w_ixL (K := K) rfl) (pe_lst (pa_cons pe_int (pa_cons pe_int (pa_cons pe_int (pa_cons pe_int (pa_cons pe_int (pa_cons pe_int (pa_cons pe_int (pa_cons pe_int pa_nil))))))))) (pe_call (ok_law_draw (P := P) T) (hr.mono (by decide)) (by rfl) T.law_draw.g T.law_draw.F.kp T.law_draw.B .nil pass0 (pa_cons (pv 0) (pa_cons pe_int pa_nil))) (fun _ _ => rfl)))
      (pss_cons (ps_set (i := 4) nd rfl (Or.inl rfl) (pe_cmpR op_eq (pe_call (ok_law_draw (P := P) T) (hr.mono (by decide)) (by rfl) T.law_draw.g T.law_draw.F.kp T.law_draw.B .nil pass0 (pa_cons (pv 0) (pa_cons pe_int pa_nil))) pe_int (nomark _)))
      (pss_cons (ps_set (i := 5) nd rfl (Or.inl rfl) (pe_call (ok_law_words (P := P) T) (hr.mono (by decide)) (by rfl) T.law_words.g T.law_words.F.kp T.law_words.B .nil pass0 (pa_cons (pv 0) (pa_cons (pe_op op_add pe_int (pe_call (ok_law_draw (P := P) T) (hr.mono (by decide)) (by rfl) T.law_draw.g T.law_draw.F.kp T.law_draw.B .nil pass0 (pa_cons (pv 0) (pa_cons (pe_op op_sub (pv 1) pe_int) pa_nil)))) pa_nil))))
      (pss_cons (ps_set (i := 6) nd rfl (Or.inl rfl) (pe_call (ok_law_stands (P := P) T) (hr.mono (by decide)) (by rfl) T.law_stands.g T.law_stands.F.kp T.law_stands.B .nil pass0 (pa_cons (pv 0) (pa_cons (pv 5) (pa_cons (pv 3) (pa_cons (pe_or (pv 2) (pe_one (pv 4))) pa_nil))))))
      (pss_cons (ps_set (i := 7) nd rfl (Or.inl rfl) (pe_ix (w_ixL (K := K) rfl) (pv 5) pe_int (fun _ _ => rfl)))
      (pss_cons (ps_if (pt_cmpR op_eq (pe_call (ok_law_draw (P := P) T) (hr.mono (by decide)) (by rfl) T.law_draw.g T.law_draw.F.kp T.law_draw.B .nil pass0 (pa_cons (pv 0) (pa_cons pe_int pa_nil))) pe_int (nomark _)) (pss_one (ps_set (i := 7) nd rfl (Or.inl rfl) (pe_ix (w_ixL (K := K) rfl) (pv 5) (pe_call (ok_law_draw (P := P) T) (hr.mono (by decide)) (by rfl) T.law_draw.g T.law_draw.F.kp T.law_draw.B .nil pass0 (pa_cons (pv 0) (pa_cons (pe_callB (w_len (K := K) rfl) (by rfl) T.b_len (by decide +kernel) (pa_cons (pv 5) pa_nil)) pa_nil))) (fun _ _ => rfl)))) pss_nil)
      (pss_cons (ps_set (i := 8) nd rfl (Or.inl rfl) (pe_call (ok_law_worths (P := P) T) (hr.mono (by decide)) (by rfl) T.law_worths.g T.law_worths.F.kp T.law_worths.B .nil pass0 (pa_cons (pv 0) (pa_cons (pv 6) pa_nil))))
      (pss_one (ps_ret (pe_lst (pa_cons (pv 3) (pa_cons (pv 7) (pa_cons (pv 6) (pa_cons (pv 8) (pa_cons (pe_call (ok_law_endless (P := P) T) (hr.mono (by decide)) (by rfl) T.law_endless.g T.law_endless.F.kp T.law_endless.B .nil pass0 (pa_cons (pv 0) (pa_cons (pv 8) pa_nil))) pa_nil))))))))))))))), ?_⟩
  refine x_start (σ' := [some _, some _, some _, none, none, none, none, none, none]) rfl ?_
  try simp only [cx_n, cx_K, cx_w, cx_P]
  walk_at "rd"
  refine ⟨Nat.le_of_ble_eq_true rfl, fun l0 hl0 => ?_⟩
  walk_at "rd"
  refine ⟨p, 8, rfl, hp.sx (SX.new (S := []) hl0) List.not_mem_nil, by decide, by decide, fun r H1 r0 r1 s1 p1 => ?_⟩
  have npl : l0 ≠ p := fun e => hp.there (e ▸ hl0)
  obtain ⟨hands, em, hm⟩ := at_ints (ns := [2, 2, 3, 1, 3, 2, 4, 2]) r0 r1
  have hh : 1 ≤ hands ∧ hands ≤ 4 := by simp at hm; omega
  refine x_ixL (sqL (s1 _ _ (by simpa using npl) upd_same)) em ?_
  have sH1 : SX [p] H H1 := (SX.new hl0).trans s1
  walk_at "rd"
  refine ⟨p, 2, rfl, p1, by decide, by decide, fun r2 H2 r20 r21 s2 p2 => ?_⟩
  walk_at "rd"
  generalize hpl : decide (V.int r2 = V.int 0) = plain
  refine ⟨p, most - 1, rfl, p2, by omega, by omega, fun r3 H3 r30 r31 s3 p3 => ?_⟩
  walk_at "rd"
  refine ⟨p, 2 + r3, rfl, p3, by omega, by omega, fun nl names H4 hnl s4 p4 enl lnl nn => ?_⟩
  walk_at "rd"
  have npn : nl ≠ p := fun e => p3.there (e ▸ hnl)
  have sH3 : SX [p] H H3 := (sH1.trans s2).trans s3
  have enl' : SqL K (hid [p] H4) nl (names.map V.str) := sqL (by rw [hid_of (by simpa using npn)]; exact enl)
  refine x_cases (fun c1 => ?_) (fun c1 => ?_)
  all_goals
    walk_at "rd"
    refine ⟨p, nl, hands, _, names, [p], rfl, p4, List.mem_cons_self, (by intro b hb; cases List.mem_singleton.mp hb; exact p4.there), enl', by omega, nn, hh.1, hh.2, fun d H5 sts hd s5 p5 rd5 so => ?_⟩
    walk_at "rd"
    have enl5 := s5 _ _ (by simpa using npn) enl
    obtain ⟨n0, hn0⟩ : ∃ n0, names[0]? = some n0 := ⟨names[0]'(by omega), by simp⟩
    refine x_ixL (sqL enl5) (atI_nat (j := 0) (by rw [List.getElem?_map, hn0]; rfl)) ?_
    walk_at "rd"
    refine ⟨p, 8, rfl, p5, by decide, by decide, fun r6 H6 r60 r61 s6 p6 => ?_⟩
    walk_at "rd"
    refine x_cases (fun c2 => ?_) (fun c2 => ?_)
    · walk_at "rd"
      have enl6 := s6 _ _ (by simpa using npn) enl5
      refine x_lenL' (sqL enl6) ?_
      walk_at "rd"
      rw [List.length_map]
      refine ⟨p, (names.length : Int), rfl, p6, by omega, by omega, fun r7 H7 r70 r71 s7 p7 => ?_⟩
      obtain ⟨n7, en7, mn7⟩ := at_strs r70 r71
      refine x_ixL (sqL (s7 _ _ (by simpa using npn) enl6)) en7 ?_
      walk_at "rd"
      have rd7 : rD (rStand K) (hid [p] H7) (.ref d) sts := mono_D (mono_stand K) _ _ _ _ (s6.trans s7).le rd5
      refine ⟨p, d, sts, [p], rfl, p7, List.mem_cons_self, (by intro b hb; cases List.mem_singleton.mp hb; exact p7.there), rd7, so.nd, by have := so.len; omega, fun wd H8 wl hwd s8 p8 rw8 lk lb => ?_⟩
      walk_at "rd"
      have lkn : (wl.map (·.1)).Nodup := by
        rw [lk]
        exact List.Nodup.sublist (List.filter_sublist.map _) so.nd
      refine ⟨p, wd, wl, rfl, p8, mono_D mono_I _ _ _ _ le_hid rw8, lkn, by have h1 := congrArg List.length lk; have h2 := endsOf_len sts; have h3 := so.len; rw [List.length_map] at h1; omega, lb, fun e H9 s9 p9 e1 e2 eb => ?_⟩
      walk_at "rd"
      refine ⟨Nat.le_of_ble_eq_true rfl, fun q hq => ?_⟩
      have sq : SX [p] H9 (upd H9 q (.lst [.int hands, .str n7, .ref d, .ref wd, .int e])) := SX.new hq
      have leQ : Le (hid [p] H9) (hid [p, q] (upd H9 q (.lst [.int hands, .str n7, .ref d, .ref wd, .int e]))) := le_hidS sq (by intro b hb; rcases List.mem_cons.mp hb with rfl | hb; exact .inl List.mem_cons_self; cases List.mem_singleton.mp hb; exact .inr hq)
      have sAll : SX [p] H H9 := (((((sH3.trans s4).trans s5).trans (s6.trans s7)).trans s8).trans s9)
      have nqp : q ≠ p := fun e => p9.there (e ▸ hq)
      refine k q _ hands n7 d sts wd wl e (sAll.free hq (by simpa using nqp)) (sAll.trans sq) (p9.sx (SX.new (S := []) hq) List.not_mem_nil) upd_same (mono_D (mono_stand K) _ _ _ _ ((s8.trans s9).le.trans leQ) rd7) ?_ (mono_D mono_I _ _ _ _ (s9.le.trans leQ) rw8) lk lb e1 e2 eb
      refine ⟨hh, ⟨?_, by have := so.len; omega⟩, so.nd, fun z hz => ⟨nn _ ((so.keys _).mp (List.mem_map.mpr ⟨z, hz, rfl⟩)), (so.all z hz).sub fun x hx => (so.keys x).mpr hx⟩, (so.keys _).mpr mn7⟩
      rcases Nat.eq_zero_or_pos sts.length with h | h
      · have := (so.keys n0).mpr (getMem hn0)
        rw [List.eq_nil_of_length_eq_zero h] at this
        cases this
      · exact h
    · walk_at "rd"
      have rd7 : rD (rStand K) (hid [p] H6) (.ref d) sts := mono_D (mono_stand K) _ _ _ _ s6.le rd5
      refine ⟨p, d, sts, [p], rfl, p6, List.mem_cons_self, (by intro b hb; cases List.mem_singleton.mp hb; exact p6.there), rd7, so.nd, by have := so.len; omega, fun wd H8 wl hwd s8 p8 rw8 lk lb => ?_⟩
      walk_at "rd"
      have lkn : (wl.map (·.1)).Nodup := by
        rw [lk]
        exact List.Nodup.sublist (List.filter_sublist.map _) so.nd
      refine ⟨p, wd, wl, rfl, p8, mono_D mono_I _ _ _ _ le_hid rw8, lkn, by have h1 := congrArg List.length lk; have h2 := endsOf_len sts; have h3 := so.len; rw [List.length_map] at h1; omega, lb, fun e H9 s9 p9 e1 e2 eb => ?_⟩
      walk_at "rd"
      refine ⟨Nat.le_of_ble_eq_true rfl, fun q hq => ?_⟩
      have sq : SX [p] H9 (upd H9 q (.lst [.int hands, .str n0, .ref d, .ref wd, .int e])) := SX.new hq
      have leQ : Le (hid [p] H9) (hid [p, q] (upd H9 q (.lst [.int hands, .str n0, .ref d, .ref wd, .int e]))) := le_hidS sq (by intro b hb; rcases List.mem_cons.mp hb with rfl | hb; exact .inl List.mem_cons_self; cases List.mem_singleton.mp hb; exact .inr hq)
      have sAll : SX [p] H H9 := (((((sH3.trans s4).trans s5).trans s6).trans s8).trans s9)
      have nqp : q ≠ p := fun e => p9.there (e ▸ hq)
      refine k q _ hands n0 d sts wd wl e (sAll.free hq (by simpa using nqp)) (sAll.trans sq) (p9.sx (SX.new (S := []) hq) List.not_mem_nil) upd_same (mono_D (mono_stand K) _ _ _ _ ((s8.trans s9).le.trans leQ) rd7) ?_ (mono_D mono_I _ _ _ _ (s9.le.trans leQ) rw8) lk lb e1 e2 eb
      refine ⟨hh, ⟨?_, by have := so.len; omega⟩, so.nd, fun z hz => ⟨nn _ ((so.keys _).mp (List.mem_map.mpr ⟨z, hz, rfl⟩)), (so.all z hz).sub fun x hx => (so.keys x).mpr hx⟩, (so.keys _).mpr (getMem hn0)⟩
      rcases Nat.eq_zero_or_pos sts.length with h | h
      · have := (so.keys n0).mpr (getMem hn0)
        rw [List.eq_nil_of_length_eq_zero h] at this
        cases this
      · exact h
end
end M

namespace M
open PySem PySem.Spec PyProof.Rows L2
theorem nodup_sub : ∀ {l m : List Str}, l.Nodup → (∀ x ∈ l, x ∈ m) → l.length ≤ m.length
  | [], _, _, _ => Nat.zero_le _
  | a :: l, m, hn, hs => by
    obtain ⟨h1, h2⟩ := List.nodup_cons.mp hn
    have ha := hs a List.mem_cons_self
    have := nodup_sub (m := m.erase a) h2 fun x hx => (List.mem_erase_of_ne (by rintro rfl; exact h1 hx)).mpr (hs x (List.mem_cons_of_mem _ hx))
    rw [List.length_erase_of_mem ha] at this
    have : 0 < m.length := List.length_pos_of_mem ha
    rw [List.length_cons]
    omega
/-- all that a law asks of a dict of stands -/
structure Closed (sts : List (Str × Stand)) : Prop where
  nd : (sts.map (·.1)).Nodup
  len : sts.length ≤ 1000
  all : ∀ q ∈ sts, q.2.nd ∧ q.2.size ≤ 4 ∧ ∀ t ∈ q.2.tos, t ∈ sts.map (·.1)
theorem Closed.look {sts : List (Str × Stand)} (C : Closed sts) {s : Str} (h : s ∈ sts.map (·.1)) : ∃ st, lookA sts s = some st ∧ st.nd ∧ st.size ≤ 4 ∧ tosOf sts s = st.tos ∧ (∀ t ∈ st.tos, t ∈ sts.map (·.1)) := by
  obtain ⟨st, e⟩ := lookA_some h
  obtain ⟨a, b, c⟩ := C.all _ (lookA_mem e)
  exact ⟨st, e, a, b, by unfold tosOf; rw [e]; rfl, c⟩
theorem Closed.tos {sts : List (Str × Stand)} (C : Closed sts) : ∀ n ∈ sts.map (·.1), ∀ t ∈ tosOf sts n, t ∈ sts.map (·.1) := fun n hn t ht => by
  obtain ⟨st, _, _, _, e, h⟩ := C.look hn
  rw [e] at ht
  exact h t ht
theorem WorkOk.closed {hands : Int} {start : Str} {sts : List (Str × Stand)} (o : WorkOk hands start sts) : Closed sts :=
  ⟨o.nd, Nat.le_trans o.len.2 (by decide), fun q hq => ⟨(o.all q hq).2.nd, (o.all q hq).2.size, fun t ht => by
    have h := (o.all q hq).2
    generalize q.2 = st at h ht
    cases st with
    | fin => cases ht
    | hand a b =>
      obtain ⟨z, hz, rfl⟩ := List.mem_map.mp ht
      exact (h.2.2.2.2.2 z hz).2.2
    | chance b =>
      obtain ⟨z, hz, rfl⟩ := List.mem_map.mp ht
      exact (h.2.2.2 z hz).2.2.1⟩⟩
theorem Tbl.tos {sts tbl : List (Str × Stand)} (t : Tbl sts tbl) (n x : Str) : x ∈ tosOf tbl n ↔ x ∈ tosOf sts n := by
  by_cases h : n ∈ tbl.map (·.1)
  · obtain ⟨b, eb⟩ := lookA_some h
    obtain ⟨a, ea, s⟩ := t.all _ (lookA_mem eb)
    unfold tosOf
    rw [eb, ea]
    exact (SrtStand.tos s).mem_iff
  · unfold tosOf
    rw [lookA_none h, lookA_none fun z => h (t.perm.mem_iff.mpr z)]
end M

namespace M
open PySem PySem.Spec PyProof.Rows L2
/-! ### methods of a work -/
def moverV : Stand → V
  | .hand h _ => .int h
  | _ => .non
theorem lookup_none {m : Str} : ∀ {fs : List (Str × V)}, m ∉ fs.map (·.1) → fs.lookup m = none
  | [], _ => rfl
  | (k, v) :: r, h => by
    have h1 : m ≠ k := fun e => h (by rw [e]; exact List.mem_cons_self)
    rw [List.lookup_cons]
    have : (m == k) = false := by simpa using h1
    rw [this]
    exact lookup_none fun q => h (List.mem_cons_of_mem _ q)
theorem work_none {m : Str} {hands : Int} {start : Str} {d nm en : Addr} {b : Bool} (h : m ∉ (["hands", "start", "table", "names", "ends", "ringless"] : List Str)) : (workF hands start d nm en b).lookup m = none := lookup_none h
theorem work_table {hands : Int} {start : Str} {d nm en : Addr} {b : Bool} : List.lookup ("table" : Str) (workF hands start d nm en b) = some (.ref d) := look_next (by decide +kernel) (look_next (by decide +kernel) look_here)
theorem work_start {hands : Int} {start : Str} {d nm en : Addr} {b : Bool} : List.lookup ("start" : Str) (workF hands start d nm en b) = some (.str start) := look_next (by decide +kernel) look_here
theorem work_hands {hands : Int} {start : Str} {d nm en : Addr} {b : Bool} : List.lookup ("hands" : Str) (workF hands start d nm en b) = some (.int hands) := look_here
section
variable {P : Program} {w : World} {K : PySem.W.Frag} {mg : Str → Option Value} {base : Heap}
theorem x_meth {C : Addr} {m : Str} {sp : Sp} {dvs : List V} {E : XK} {ta : TE} {t : TA} {σ : L2.St} {H : Hp} {Q : VK}
    (k : ta σ H fun x H1 => ∃ a dx fs, x = .ref a ∧ H1 a = some (.ins C dx fs) ∧ fs.lookup m = none ∧ t σ H1 fun vs H2 => sp (x :: (vs ++ dvs)) H2 Q E) : tMeth C m sp dvs E ta t σ H Q := k
theorem x_me {H : Hp} {C a dx : Addr} {m : Str} {fs : List (Str × V)} {R : Prop} (h : H a = some (.ins C dx fs)) (l : fs.lookup m = none) (k : R) : ∃ a' dx' fs', V.ref a = .ref a' ∧ H a' = some (.ins C dx' fs') ∧ fs'.lookup m = none ∧ R := ⟨a, dx, fs, rfl, h, l, k⟩
def sp_Work_row (T : Tx K mg) : Sp := fun vs H Q _ => ∃ (x : Addr) (hands : Int) (start s : Str) (tbl : List (Str × Stand)) (st : Stand), vs = [.ref x, .str s] ∧ WorkAt T H x hands start tbl ∧ lookA tbl s = some st ∧ ∀ v, rStand K H v st → Q v H
theorem ok_Work_row (T : Tx K mg) : FnOk P w K mg base CX0 1 T.Work_row.f T.Work_row.fd P_Work_row (sp_Work_row T) := by
  refine T.Work_row.F.ok sc_Work_row (fun vs H Q E h => ?_) (fun cdv A outer s H vs Q E hr h => ?_)
  · obtain ⟨x, hands, start, s, tbl, st, rfl, wa, hs, k⟩ := h
    rfl
  have hu := hu_of hr
  have nd := sc_Work_row.nd
  obtain ⟨x, hands, start, s, tbl, st, rfl, wa, hs, k⟩ := h
  refine ⟨_, (pss_cons (ps_if (PW.pt (pw_or (pt_not (pt_val (pe_callB (w_isi (K := K) rfl) (by rfl) T.b_isinstance (by decide +kernel) (pa_cons (pv 1) (pa_cons (pe_bltn (v := .ty "str") (by rfl) T.b_str (by decide +kernel) rfl) pa_nil))))) (pw_or1 (pt_cmp (pc_dnotin hu (pv 1) (w_fld (K := K) rfl (pv 0) rfl)))))) (pss_one ps_never) pss_nil)
      (pss_one (ps_ret (pe_dget hu (w_fld (K := K) rfl (pv 0) rfl) (pv 1) (fun _ _ => rfl))))), ?_⟩
  refine x_start (σ' := [some _, some _]) rfl ?_
  try simp only [cx_n, cx_K, cx_w, cx_P]
  obtain ⟨dx, d, nm, en, hx, ⟨d', kvs, ed, hrd, hk⟩, _⟩ := wa.ex
  cases ed
  obtain ⟨v, ev, rv⟩ := hk.at_ hs
  walk_at "rd"
  refine x_isiT (.base (.str _)) (by decide +kernel) ?_
  walk_at "rd"
  refine x_getF hx T.cl_Work T.n_Work_table work_table ?_
  refine x_dni' hrd ?_
  rw [ev]
  walk_at "rd"
  walk_at "if!"
  walk_at "rd"
  refine x_getF hx T.cl_Work T.n_Work_table work_table ?_
  walk_at "rd"
  refine x_dg' hrd ev ?_
  exact k v rv
def sp_Work_kind (T : Tx K mg) : Sp := fun vs H Q _ => ∃ (x : Addr) (hands : Int) (start s : Str) (tbl : List (Str × Stand)) (st : Stand), vs = [.ref x, .str s] ∧ WorkAt T H x hands start tbl ∧ lookA tbl s = some st ∧ Q (.str (kindS st)) H
theorem ok_Work_kind (T : Tx K mg) : FnOk P w K mg base CX0 2 T.Work_kind.f T.Work_kind.fd P_Work_kind (sp_Work_kind T) := by
  refine T.Work_kind.F.ok sc_Work_kind (fun vs H Q E h => ?_) (fun cdv A outer s H vs Q E hr h => ?_)
  · obtain ⟨x, hands, start, s, tbl, st, rfl, wa, hs, k⟩ := h
    rfl
  have hu := hu_of hr
  have nd := sc_Work_kind.nd
  obtain ⟨x, hands, start, s, tbl, st, rfl, wa, hs, k⟩ := h
  refine ⟨_, (pss_one (ps_ret (pe_ix (w_ixT (K := K) rfl) (pe_meth (pv 0) T.cl_Work T.me_Work_row (ok_Work_row (P := P) T) (hr.mono (by decide)) T.Work_row.B .nil pass0 (pa_cons (pv 1) pa_nil)) pe_int (fun _ _ => rfl)))), ?_⟩
  refine x_start (σ' := [some _, some _]) rfl ?_
  try simp only [cx_n, cx_K, cx_w, cx_P]
  obtain ⟨dx, d, nm, en, hx, _⟩ := id wa.ex
  walk_at "rd"
  refine x_meth ?_
  walk_at "rd"
  refine x_me hx (work_none (by decide +kernel)) ?_
  walk_at "rd"
  refine ⟨x, hands, start, s, tbl, st, rfl, wa, hs, fun v rv => ?_⟩
  walk_at "rd"
  cases st with
  | fin =>
    obtain ⟨p5, rfl, hp5⟩ := rv
    exact x_ixT hp5 (atI_nat (j := 0) rfl) k
  | hand h ms =>
    obtain ⟨p5, _, rfl, hp5, _⟩ := rv
    exact x_ixT hp5 (atI_nat (j := 0) rfl) k
  | chance ds =>
    obtain ⟨p5, _, rfl, hp5, _⟩ := rv
    exact x_ixT hp5 (atI_nat (j := 0) rfl) k
def sp_Work_steps (T : Tx K mg) : Sp := fun vs H Q _ => ∃ (x : Addr) (hands : Int) (start s : Str) (tbl : List (Str × Stand)) (st : Stand), vs = [.ref x, .str s] ∧ WorkAt T H x hands start tbl ∧ lookA tbl s = some st ∧
  ∀ p H' ys, H p = none → SX [] H H' → H' p = some (.lst (ys.map V.str)) → ys.Perm (st.rows.map (·.1)) → sortedS ys = true → Q (.ref p) H'
theorem ok_Work_steps (T : Tx K mg) : FnOk P w K mg base CX0 2 T.Work_steps.f T.Work_steps.fd P_Work_steps (sp_Work_steps T) := by
  refine T.Work_steps.F.ok sc_Work_steps (fun vs H Q E h => ?_) (fun cdv A outer s H vs Q E hr h => ?_)
  · obtain ⟨x, hands, start, s, tbl, st, rfl, wa, hs, k⟩ := h
    rfl
  have hu := hu_of hr
  have nd := sc_Work_steps.nd
  obtain ⟨x, hands, start, s, tbl, st, rfl, wa, hs, k⟩ := h
  refine ⟨_, (pss_cons (ps_set (i := 2) nd rfl (Or.inl rfl) (pe_meth (pv 0) T.cl_Work T.me_Work_row (ok_Work_row (P := P) T) (hr.mono (by decide)) T.Work_row.B .nil pass0 (pa_cons (pv 1) pa_nil)))
      (pss_cons (ps_if (pt_cmpR op_eq (pe_ix (w_ixT (K := K) rfl) (pv 2) pe_int (fun _ _ => rfl)) pe_str (nomark _)) (pss_one (ps_ret (pe_lst pa_nil))) pss_nil)
      (pss_one (ps_ret (pe_callB (cl_sortD rfl) (by rfl) T.b_sorted (by decide +kernel) (pa_cons (pe_ix (w_ixT (K := K) rfl) (pv 2) (pe_op op_sub (pe_callB (w_len (K := K) rfl) (by rfl) T.b_len (by decide +kernel) (pa_cons (pv 2) pa_nil)) pe_int) (fun _ _ => rfl)) pa_nil)))))), ?_⟩
  refine x_start (σ' := [some _, some _, none]) rfl ?_
  try simp only [cx_n, cx_K, cx_w, cx_P]
  obtain ⟨dx, d, nm, en, hx, _⟩ := id wa.ex
  walk_at "rd"
  refine x_meth ?_
  walk_at "rd"
  refine x_me hx (work_none (by decide +kernel)) ?_
  walk_at "rd"
  refine ⟨x, hands, start, s, tbl, st, rfl, wa, hs, fun v rv => ?_⟩
  walk_at "rd"
  cases st with
  | fin =>
    obtain ⟨p5, rfl, hp5⟩ := rv
    refine x_ixT hp5 (atI_nat (j := 0) rfl) ?_
    walk_at "rd"
    walk_at "if!"
    walk_at "rd"
    exact ⟨Nat.le_of_ble_eq_true rfl, fun q hq => k q _ [] hq (SX.new hq) upd_same (.refl _) rfl⟩
  | hand h ms =>
    obtain ⟨p5, _, rfl, hp5, d5, kv5, rfl, r5, k5⟩ := rv
    refine x_ixT hp5 (atI_nat (j := 0) rfl) ?_
    walk_at "rd"
    walk_at "if!"
    walk_at "rd"
    refine x_lenT' hp5 ?_
    walk_at "rd"
    refine x_ixT hp5 (v := .ref d5) (atI_nat (j := 2) rfl) ?_
    walk_at "rd"
    refine x_sortD r5 k5.keys fun ys py hp hsy np => ?_
    exact k py _ ys np (SX.new np) upd_same hp hsy
  | chance ds =>
    obtain ⟨p5, _, rfl, hp5, d5, kv5, rfl, r5, k5⟩ := rv
    refine x_ixT hp5 (atI_nat (j := 0) rfl) ?_
    walk_at "rd"
    walk_at "if!"
    walk_at "rd"
    refine x_lenT' hp5 ?_
    walk_at "rd"
    refine x_ixT hp5 (v := .ref d5) (atI_nat (j := 1) rfl) ?_
    walk_at "rd"
    refine x_sortD r5 k5.keys fun ys py hp hsy np => ?_
    exact k py _ ys np (SX.new np) upd_same (by show ys.Perm ((ds.map _).map _); rw [List.map_map]; exact hp) hsy
def sp_Work_to (T : Tx K mg) : Sp := fun vs H Q _ => ∃ (x : Addr) (hands : Int) (start s step to : Str) (tbl : List (Str × Stand)) (st : Stand), vs = [.ref x, .str s, .str step] ∧ WorkAt T H x hands start tbl ∧ lookA tbl s = some st ∧ lookA st.rows step = some to ∧ Q (.str to) H
theorem rows_chance {ds : List (Str × (Str × Int))} {step to : Str} (h : lookA (Stand.rows (.chance ds)) step = some to) : ∃ n, lookA ds step = some (to, n) := by
  change lookA (ds.map fun q => (q.1, q.2.1)) step = some to at h
  induction ds with
  | nil => cases h
  | cons q r ih =>
    rw [List.map_cons] at h
    unfold lookA at h ⊢
    by_cases e : q.1 = step
    · rw [if_pos e] at h ⊢
      cases h
      exact ⟨q.2.2, rfl⟩
    · rw [if_neg e] at h ⊢
      exact ih h
theorem ok_Work_to (T : Tx K mg) : FnOk P w K mg base CX0 2 T.Work_to.f T.Work_to.fd P_Work_to (sp_Work_to T) := by
  refine T.Work_to.F.ok sc_Work_to (fun vs H Q E h => ?_) (fun cdv A outer s H vs Q E hr h => ?_)
  · obtain ⟨x, hands, start, s, step, to, tbl, st, rfl, wa, hs, hst, k⟩ := h
    rfl
  have hu := hu_of hr
  have nd := sc_Work_to.nd
  obtain ⟨x, hands, start, s, step, to, tbl, st, rfl, wa, hs, hst, k⟩ := h
  refine ⟨_, (pss_cons (ps_set (i := 3) nd rfl (Or.inl rfl) (pe_meth (pv 0) T.cl_Work T.me_Work_row (ok_Work_row (P := P) T) (hr.mono (by decide)) T.Work_row.B .nil pass0 (pa_cons (pv 1) pa_nil)))
      (pss_cons (ps_if (PW.pt (pw_or (pt_cmpR op_eq (pe_ix (w_ixT (K := K) rfl) (pv 3) pe_int (fun _ _ => rfl)) pe_str (nomark _)) (pw_or (pt_not (pt_val (pe_callB (w_isi (K := K) rfl) (by rfl) T.b_isinstance (by decide +kernel) (pa_cons (pv 2) (pa_cons (pe_bltn (v := .ty "str") (by rfl) T.b_str (by decide +kernel) rfl) pa_nil))))) (pw_or1 (pt_cmp (pc_dnotin hu (pv 2) (pe_ix (w_ixT (K := K) rfl) (pv 3) (pe_op op_sub (pe_callB (w_len (K := K) rfl) (by rfl) T.b_len (by decide +kernel) (pa_cons (pv 3) pa_nil)) pe_int) (fun _ _ => rfl)))))))) (pss_one ps_never) pss_nil)
      (pss_cons (ps_if (pt_cmpR op_eq (pe_ix (w_ixT (K := K) rfl) (pv 3) pe_int (fun _ _ => rfl)) pe_str (nomark _)) (pss_one (ps_ret (pe_dget hu (pe_ix (w_ixT (K := K) rfl) (pv 3) pe_int (fun _ _ => rfl)) (pv 2) (fun _ _ => rfl)))) pss_nil)
      (pss_one (ps_ret (pe_ix (w_ixT (K := K) rfl) (pe_dget hu (pe_ix (w_ixT (K := K) rfl) (pv 3) pe_int (fun _ _ => rfl)) (pv 2) (fun _ _ => rfl)) pe_int (fun _ _ => rfl))))))), ?_⟩
  refine x_start (σ' := [some _, some _, some _, none]) rfl ?_
  try simp only [cx_n, cx_K, cx_w, cx_P]
  obtain ⟨dx, d, nm, en, hx, _⟩ := id wa.ex
  walk_at "rd"
  refine x_meth ?_
  walk_at "rd"
  refine x_me hx (work_none (by decide +kernel)) ?_
  walk_at "rd"
  refine ⟨x, hands, start, s, tbl, st, rfl, wa, hs, fun v rv => ?_⟩
  walk_at "rd"
  cases st with
  | fin => cases hst
  | hand h ms =>
    obtain ⟨p5, _, rfl, hp5, d5, kv5, rfl, r5, k5⟩ := rv
    obtain ⟨v1, e1, rfl⟩ := k5.at_ hst
    refine x_ixT hp5 (atI_nat (j := 0) rfl) ?_
    walk_at "rd"
    walk_at "if!"
    walk_at "rd"
    refine x_isiT (.base (.str _)) (by decide +kernel) ?_
    walk_at "rd"
    refine x_lenT' hp5 ?_
    walk_at "rd"
    refine x_ixT hp5 (v := .ref d5) (atI_nat (j := 2) rfl) ?_
    refine x_dni' r5 ?_
    rw [e1]
    walk_at "rd"
    walk_at "if!"
    walk_at "rd"
    refine x_ixT hp5 (atI_nat (j := 0) rfl) ?_
    walk_at "rd"
    walk_at "if!"
    walk_at "rd"
    refine x_ixT hp5 (v := .ref d5) (atI_nat (j := 2) rfl) ?_
    walk_at "rd"
    exact x_dg' r5 e1 k
  | chance ds =>
    obtain ⟨p5, _, rfl, hp5, d5, kv5, rfl, r5, k5⟩ := rv
    obtain ⟨n, hn⟩ := rows_chance hst
    obtain ⟨v1, e1, q1, z1, z2, rfl, hq1, rfl, rfl⟩ := k5.at_ hn
    refine x_ixT hp5 (atI_nat (j := 0) rfl) ?_
    walk_at "rd"
    walk_at "if!"
    walk_at "rd"
    refine x_isiT (.base (.str _)) (by decide +kernel) ?_
    walk_at "rd"
    refine x_lenT' hp5 ?_
    walk_at "rd"
    refine x_ixT hp5 (v := .ref d5) (atI_nat (j := 1) rfl) ?_
    refine x_dni' r5 ?_
    rw [e1]
    walk_at "rd"
    walk_at "if!"
    walk_at "rd"
    refine x_ixT hp5 (atI_nat (j := 0) rfl) ?_
    walk_at "rd"
    walk_at "if!"
    walk_at "rd"
    refine x_ixT hp5 (v := .ref d5) (atI_nat (j := 1) rfl) ?_
    walk_at "rd"
    refine x_dg' r5 e1 ?_
    walk_at "rd"
    exact x_ixT hq1 (atI_nat (j := 0) rfl) k
end
end M

namespace M
open PySem PySem.Spec PyProof.Rows L2
/-! ### runs -/
def goS (sts : List (Str × Stand)) (at_ s : Str) : Option Str := (lookA sts at_).bind fun st => lookA st.rows s
def atF (sts : List (Str × Stand)) (a : Str) (run : List Str) : Str := run.foldl (fun x s => (goS sts x s).getD x) a
def RunOk (sts : List (Str × Stand)) (a : Str) (run : List Str) : Prop := ∀ i s, run[i]? = some s → ∃ b, goS sts (atF sts a (run.take i)) s = some b
def upN (f : Nat → Str) (n : Nat) : List Str := (List.range n).map f
theorem upN_succ (f : Nat → Str) (n : Nat) : upN f (n + 1) = upN f n ++ [f n] := by
  unfold upN
  rw [List.range_succ, List.map_append]
  rfl
theorem upN_len (f : Nat → Str) (n : Nat) : (upN f n).length = n := by simp [upN]
theorem upN_at {f : Nat → Str} {n i : Nat} (h : i < n) : (upN f n)[i]? = some (f i) := by
  unfold upN
  rw [List.getElem?_map, List.getElem?_range h]
  rfl
theorem upN_take {f : Nat → Str} {n m : Nat} (h : m ≤ n) : (upN f n).take m = upN f m := by
  unfold upN
  rw [← List.map_take, List.take_range, Nat.min_eq_left h]
theorem upN_all {f : Nat → Str} {n : Nat} {p : Str → Prop} (h : ∀ i, i < n → p (f i)) : ∀ s ∈ upN f n, p s := fun s hs => by
  obtain ⟨i, hi, rfl⟩ := List.mem_map.mp hs
  exact h i (List.mem_range.mp hi)
/-- where a run leads, step by step -/
def trail (sts : List (Str × Stand)) (a : Str) (run : List Str) : List Str := upN (fun i => atF sts a (run.take i)) (run.length + 1)
theorem atF_succ {sts : List (Str × Stand)} {a : Str} {run : List Str} {i : Nat} {s b : Str} (h : run[i]? = some s) (g : goS sts (atF sts a (run.take i)) s = some b) : atF sts a (run.take (i + 1)) = b := by
  rw [take_succ_of h]
  unfold atF at *
  rw [List.foldl_append]
  show (goS sts _ s).getD _ = b
  rw [g]
  rfl
theorem goS_look {sts : List (Str × Stand)} {a s b : Str} (g : goS sts a s = some b) : ∃ st, lookA sts a = some st ∧ lookA st.rows s = some b := by
  unfold goS at g
  cases e : lookA sts a with
  | none => rw [e] at g; cases g
  | some st => rw [e] at g; exact ⟨st, rfl, g⟩
theorem key_of {α : Type} {l : List (Str × α)} {s : Str} {a : α} (h : lookA l s = some a) : s ∈ l.map (·.1) := List.mem_map.mpr ⟨(s, a), lookA_mem h, rfl⟩
theorem rows_nodup {st : Stand} (h : st.nd) : (st.rows.map (·.1)).Nodup := by
  cases st with
  | fin => exact List.nodup_nil
  | hand a b => exact h
  | chance b => show ((b.map _).map _).Nodup; rw [List.map_map]; exact h
theorem rows_tos_mem {st : Stand} {s t : Str} (h : lookA st.rows s = some t) : t ∈ st.tos := by
  rw [← rows_tos]
  exact List.mem_map.mpr ⟨(s, t), lookA_mem h, rfl⟩
/-- all that a run comes to is a stand -/
theorem at_key {sts : List (Str × Stand)} {a : Str} {run : List Str} (C : ∀ q ∈ sts, ∀ t ∈ q.2.tos, t ∈ sts.map (·.1)) (ha : a ∈ sts.map (·.1)) (R : RunOk sts a run) : ∀ i, i ≤ run.length → atF sts a (run.take i) ∈ sts.map (·.1)
  | 0, _ => ha
  | i + 1, h => by
    obtain ⟨s, hs⟩ : ∃ s, run[i]? = some s := ⟨run[i]'(by omega), by simp⟩
    obtain ⟨b, g⟩ := R i s hs
    rw [atF_succ hs g]
    obtain ⟨st, e1, e2⟩ := goS_look g
    exact C _ (lookA_mem e1) b (rows_tos_mem e2)
theorem RunOk.snoc {sts : List (Str × Stand)} {a s b : Str} {run : List Str} (R : RunOk sts a run) (g : goS sts (atF sts a run) s = some b) : RunOk sts a (run ++ [s]) := fun i t h => by
  by_cases hi : i < run.length
  · rw [List.getElem?_append_left hi] at h
    rw [List.take_append_of_le_length (by omega)]
    exact R i t h
  · have := getLt h
    rw [List.length_append] at this
    have e : i = run.length := by simp at this; omega
    subst e
    rw [List.take_left]
    simp at h
    subst h
    exact ⟨b, g⟩
theorem atF_snoc {sts : List (Str × Stand)} {a s b : Str} {run : List Str} (g : goS sts (atF sts a run) s = some b) : atF sts a (run ++ [s]) = b := by
  unfold atF at *
  rw [List.foldl_append]
  show (goS sts _ s).getD _ = b
  rw [g]
  rfl
theorem pick_one {l : List (Str × Str)} {s b : Str} : (l.map (·.1)).Nodup → lookA l s = some b → (l.filter fun q => decide (q.1 = s)).map (·.2) = [b] := by
  induction l with
  | nil => intro _ h; cases h
  | cons q r ih =>
    intro hn h
    have hn : (q.1 :: r.map (·.1)).Nodup := hn
    obtain ⟨h1, h2⟩ := List.nodup_cons.mp hn
    unfold lookA at h
    rw [List.filter_cons]
    by_cases e : q.1 = s
    · rw [if_pos e] at h
      rw [if_pos (decide_eq_true e), List.map_cons]
      cases h
      have : r.filter (fun q => decide (q.1 = s)) = [] := List.filter_eq_nil_iff.mpr fun x hx z => h1 (List.mem_map.mpr ⟨x, hx, (of_decide_eq_true z).trans e.symm⟩)
      rw [this]
      rfl
    · rw [if_neg e] at h
      rw [if_neg (by simpa using e)]
      exact ih h2 h
theorem perm_look {α : Type} {l m : List (Str × α)} (hn : (l.map (·.1)).Nodup) (p : m.Perm l) (s : Str) : lookA m s = lookA l s := by
  by_cases h : s ∈ l.map (·.1)
  · obtain ⟨a, e⟩ := lookA_some h
    rw [e]
    exact lookA_nodup ((p.map _).nodup_iff.mpr hn) (p.mem_iff.mpr (lookA_mem e))
  · rw [lookA_none h, lookA_none fun z => h ((p.map _).mem_iff.mp z)]
theorem SrtStand.rowsPerm {a b : Stand} (h : SrtStand a b) : b.rows.Perm a.rows := by
  cases a <;> cases b <;> first | exact h.elim | exact .refl _ | exact h.2.perm | exact (Srt.perm h).map _
theorem SrtStand.kind {a b : Stand} (h : SrtStand a b) : kindS b = kindS a := by
  cases a <;> cases b <;> first | exact h.elim | rfl
theorem SrtStand.mover {a b : Stand} (h : SrtStand a b) : moverV b = moverV a := by
  cases a <;> cases b <;> first | exact h.elim | rfl | exact congrArg V.int h.1.symm | exact congrArg V.int h.1
theorem Tbl.look {sts tbl : List (Str × Stand)} (t : Tbl sts tbl) {n : Str} {st : Stand} (h : lookA sts n = some st) : ∃ st', lookA tbl n = some st' ∧ SrtStand st st' := by
  obtain ⟨b, eb⟩ := lookA_some (t.perm.mem_iff.mpr (key_of h))
  obtain ⟨a, ea, s⟩ := t.all _ (lookA_mem eb)
  rw [h] at ea
  cases ea
  exact ⟨b, eb, s⟩
theorem Tbl.go {sts tbl : List (Str × Stand)} (t : Tbl sts tbl) (nd : ∀ q ∈ sts, q.2.nd) (n s : Str) : goS tbl n s = goS sts n s := by
  unfold goS
  by_cases h : n ∈ sts.map (·.1)
  · obtain ⟨st, e⟩ := lookA_some h
    obtain ⟨st', e', ss⟩ := t.look e
    rw [e, e']
    exact perm_look (rows_nodup (nd _ (lookA_mem e))) ss.rowsPerm s
  · rw [lookA_none h, lookA_none fun z => h (t.perm.mem_iff.mp z)]
theorem Tbl.atF {sts tbl : List (Str × Stand)} (t : Tbl sts tbl) (nd : ∀ q ∈ sts, q.2.nd) (a : Str) (run : List Str) : M.atF tbl a run = M.atF sts a run := by
  unfold M.atF
  have : (fun x s => (goS tbl x s).getD x) = fun x s => (goS sts x s).getD x := funext fun x => funext fun s => by rw [t.go nd]
  rw [this]
theorem Tbl.run {sts tbl : List (Str × Stand)} (t : Tbl sts tbl) (nd : ∀ q ∈ sts, q.2.nd) {a : Str} {run : List Str} (R : RunOk sts a run) : RunOk tbl a run := fun i s h => by
  obtain ⟨b, g⟩ := R i s h
  exact ⟨b, by rw [t.atF nd, t.go nd]; exact g⟩
theorem Tbl.trail {sts tbl : List (Str × Stand)} (t : Tbl sts tbl) (nd : ∀ q ∈ sts, q.2.nd) (a : Str) (run : List Str) : M.trail tbl a run = M.trail sts a run := by
  unfold M.trail
  have : (fun i => M.atF tbl a (run.take i)) = fun i => M.atF sts a (run.take i) := funext fun i => t.atF nd a _
  rw [this]
section
variable {P : Program} {w : World} {K : PySem.W.Frag} {mg : Str → Option Value} {base : Heap}
theorem sqT_hidL {H : Hp} {p t : Addr} {ys xs : List V} (hp : H p = some (.lst ys)) (h : SqT K H t xs) : SqT K (hid [p] H) t xs := by
  rcases h with h | h
  · have n : t ≠ p := by
      rintro rfl
      rcases h with h | ⟨o, h⟩ <;> rw [h] at hp <;> cases hp
    refine .inl ?_
    unfold Rd
    rw [hid_of (by simpa using n)]
    exact h
  · exact .inr h
theorem pairs_hidL {H : Hp} {p : Addr} {ys : List V} (hp : H p = some (.lst ys)) : ∀ {xs : List V} {l : List (Str × Str)}, Paired (rP K rS rS H) xs l → Paired (rP K rS rS (hid [p] H)) xs l
  | _, _, .nil => .nil
  | _, _, .cons ⟨t, z1, z2, e, ht, a, b⟩ r => .cons ⟨t, z1, z2, e, sqT_hidL hp ht, a, b⟩ (pairs_hidL hp r)
theorem x_isi2 {a b c : String} {H : Hp} {Q : VK} {x : V} {t : Addr} (ty : TyX K H x (.type a)) (ht : H t = some (.tup [.ty b, .ty c])) (h : kitB a b = some true ∨ (kitB a b = some false ∧ kitB a c = some true)) (k : Q (.bl true) H) : rIsiT K [x, .ref t] H Q := by
  refine ⟨x, t, _, _, _, true, rfl, ht, .cons (.ty b) (.cons (.ty c) .nil), ty, ?_, k⟩
  unfold PySem.W.kitAny
  rcases h with h | ⟨h, h2⟩
  · rw [kit_ty h]
  · rw [kit_ty h]
    show PySem.W.kitAny K _ _ = _
    unfold PySem.W.kitAny
    rw [kit_ty h2]
end
end M

namespace M
open PySem PySem.Spec PyProof.Rows L2
section
variable {P : Program} {w : World} {K : PySem.W.Frag} {mg : Str → Option Value} {base : Heap}
def sp_law_row (T : Tx K mg) : Sp := fun vs H Q _ => ∃ (p a : Addr) (xs : List V), vs = [.ref p, .ref a] ∧ Pool H p ∧ a ≠ p ∧ H a = some (.lst xs) ∧ xs.length ≤ 10000 ∧ ∀ q H', H q = none → SX [p] H H' → Pool H' p → RowAt H' q xs → Q (.ref q) H'
theorem ok_law_row (T : Tx K mg) : FnOk P w K mg base CX0 2 T.law_row.f T.law_row.fd P_law_row (sp_law_row T) := by
  refine T.law_row.F.ok sc_law_row (fun vs H Q E h => ?_) (fun cdv A outer s H vs Q E hr h => ?_)
  · obtain ⟨p, a, xs, rfl, hp, nap, ha, hl, k⟩ := h
    rfl
  have hu := hu_of hr
  have nd := sc_law_row.nd
  obtain ⟨p, a, xs, rfl, hp, nap, ha, hl, k⟩ := h
  refine ⟨_, (pss_cons (ps_if (pt_cmpR op_eq (pe_call (ok_law_draw (P := P) T) (hr.mono (by decide)) (by rfl) T.law_draw.g T.law_draw.F.kp T.law_draw.B .nil pass0 (pa_cons (pv 0) (pa_cons pe_int pa_nil))) pe_int (nomark _)) (pss_one (ps_ret (pe_callTy (w_list (K := K) rfl) (by rfl) T.b_list (by decide +kernel) (pa_cons (pv 1) pa_nil)))) pss_nil)
      (pss_one (ps_ret (pe_callTy (w_tup (K := K) rfl) (by rfl) T.b_tuple (by decide +kernel) (pa_cons (pv 1) pa_nil))))), ?_⟩
  refine x_start (σ' := [some _, some _]) rfl ?_
  try simp only [cx_n, cx_K, cx_w, cx_P]
  walk_at "rd"
  refine ⟨p, 2, rfl, hp, by decide, by decide, fun r H1 r0 r1 s1 p1 => ?_⟩
  have ha1 := s1 _ _ (by simpa using nap) ha
  walk_at "rd"
  refine x_cases (fun c => ?_) (fun c => ?_)
  · walk_at "rd"
    refine x_clist (sqL ha1) fun q hq => ?_
    exact k q _ (s1.free hq (by simpa using fun e : q = p => p1.there (e ▸ hq))) (s1.trans (SX.new hq)) (p1.sx (SX.new (S := []) hq) List.not_mem_nil) (.inl upd_same)
  · walk_at "rd"
    refine x_ctup (sqL ha1) fun q hq => ?_
    exact k q _ (s1.free hq (by simpa using fun e : q = p => p1.there (e ▸ hq))) (s1.trans (SX.new hq)) (p1.sx (SX.new (S := []) hq) List.not_mem_nil) (.inr upd_same)
def sp_law_run (T : Tx K mg) : Sp := fun vs H Q _ => ∃ (p d : Addr) (a : Str) (most : Int) (sts : List (Str × Stand)), vs = [.ref p, .ref d, .str a, .int most] ∧ Pool H p ∧ rD (rStand K) (hid [p] H) (.ref d) sts ∧ Closed sts ∧ a ∈ sts.map (·.1) ∧ 0 ≤ most ∧ most ≤ 1000 ∧
  ∀ r H' run, H r = none → SX [p] H H' → Pool H' p → H' r = some (.lst (run.map V.str)) → (run.length : Int) ≤ most → RunOk sts a run → (∀ s ∈ run, ∃ q ∈ sts, s ∈ q.2.rows.map (·.1)) → Q (.ref r) H'
theorem ok_law_run (T : Tx K mg) : FnOk P w K mg base CX0 2 T.law_run.f T.law_run.fd P_law_run (sp_law_run T) := by
  refine T.law_run.F.ok sc_law_run (fun vs H Q E h => ?_) (fun cdv A outer s H vs Q E hr h => ?_)
  · obtain ⟨p, d, a, most, sts, rfl, hp, hd, C, ha, hm0, hm1, k⟩ := h
    rfl
  have hu := hu_of hr
  have nd := sc_law_run.nd
  obtain ⟨p, d, a, most, sts, rfl, hp, hd, C, ha, hm0, hm1, k⟩ := h
  refine ⟨_, (pss_cons (ps_set (i := 4) nd rfl (Or.inl rfl) (pv 2))
      (pss_cons (ps_set (i := 5) nd rfl (Or.inl rfl) (pe_lst pa_nil))
      (pss_cons (ps_for PassesOwn.never rfl (pi_range1 (by rfl) T.b_range (pa_cons (pe_call (ok_law_draw (P := P) T) (hr.mono (by decide)) (by rfl) T.law_draw.g T.law_draw.F.kp T.law_draw.B .nil pass0 (pa_cons (pv 0) (pa_cons (pe_op op_add (pv 3) pe_int) pa_nil))) pa_nil)) (pg_name (i := 6) nd rfl (Or.inl rfl)) (pss_cons (ps_set (i := 7) nd rfl (Or.inl rfl) (pe_call (ok_law_steps (P := P) T) (hr.mono (by decide)) (by rfl) T.law_steps.g T.law_steps.F.kp T.law_steps.B .nil pass0 (pa_cons (pv 1) (pa_cons (pv 4) pa_nil))))
      (pss_cons (ps_if (pt_cmpR op_eq (pe_callB (w_len (K := K) rfl) (by rfl) T.b_len (by decide +kernel) (pa_cons (pv 7) pa_nil)) pe_int (nomark _)) (pss_one (ps_ret (pv 5))) pss_nil)
      (pss_cons (ps_asg (pe_ix (w_ixL (K := K) rfl) (pv 7) (pe_call (ok_law_draw (P := P) T) (hr.mono (by decide)) (by rfl) T.law_draw.g T.law_draw.F.kp T.law_draw.B .nil pass0 (pa_cons (pv 0) (pa_cons (pe_callB (w_len (K := K) rfl) (by rfl) T.b_len (by decide +kernel) (pa_cons (pv 7) pa_nil)) pa_nil))) (fun _ _ => rfl)) (w_pgtup (K := K) (n := 2) rfl (by rfl) (pgs_cons (pg_name (i := 8) nd rfl (Or.inl rfl)) (pgs_cons (pg_name (i := 4) nd rfl (Or.inl rfl)) pgs_nil)) (by rfl) (by rfl)))
      (pss_one (ps_expr (pe_bm PySem.F.plainAttrs_list PySem.F.slot_list_append PySem.F.type_list_append mt_append (pv 5) (pa_cons (pv 8) pa_nil))))))))
      (pss_one (ps_ret (pv 5)))))), ?_⟩
  refine x_start (σ' := [some _, some _, some _, some _, none, none, none, none, none]) rfl ?_
  try simp only [cx_n, cx_K, cx_w, cx_P]
  walk_at "rd"
  refine ⟨Nat.le_of_ble_eq_true rfl, fun r hr1 => ?_⟩
  walk_at "rd"
  have nrp : r ≠ p := fun e => hp.there (e ▸ hr1)
  have s0 : SX [p] H (upd H r (.lst [])) := SX.new hr1
  refine ⟨p, most + 1, rfl, hp.sx (SX.new (S := []) hr1) List.not_mem_nil, by omega, by omega, fun n H1 n0 n1 s1 p1 => ?_⟩
  refine x_rng1 (by omega) (by omega) ?_
  have cl : ∀ q ∈ sts, ∀ t ∈ q.2.tos, t ∈ sts.map (·.1) := fun q hq => (C.all q hq).2.2
  refine for_it walk_rng (fun i σ A => ∃ (run : List Str) (b c e : Option V), SX [p] H A ∧ Pool A p ∧ A r = some (.lst (run.map V.str)) ∧ run.length ≤ i ∧ RunOk sts a run ∧ (∀ s ∈ run, ∃ q ∈ sts, s ∈ q.2.rows.map (·.1)) ∧
      σ = [some (.ref p), some (.ref d), some (.str a), some (.int most), some (.str (atF sts a run)), some (.ref r), b, c, e])
    ⟨[], none, none, none, s0.trans s1, p1, s1 _ _ (by simpa using nrp) upd_same, Nat.le_refl _, (fun _ _ h => nomatch h), (fun _ h => nomatch h), rfl⟩ (fun _ _ _ _ _ => trivial) ?_ ?_
  · rintro i x σ A0 A hi ⟨run, b, c, e, sA, pA, eA, lA, R, ins, rfl⟩ ⟨rfl, rfl⟩
    walk_at "rd"
    have key : atF sts a run ∈ sts.map (·.1) := by
      have := at_key cl ha R run.length (Nat.le_refl _)
      rwa [List.take_length] at this
    obtain ⟨st, e1, f2, f3, f4, f5⟩ := C.look key
    have rdA : rD (rStand K) A (.ref d) sts := mono_D (mono_stand K) _ _ _ _ (sA.le.trans le_hid) hd
    refine ⟨d, _, sts, st, rfl, rdA, e1, f2, by omega, fun q B xs l hq t1 eq pq sr => ?_⟩
    have ll : l.length ≤ 4 := by rw [sr.perm.length_eq]; have := congrArg List.length (rows_tos st); rw [List.length_map, tos_len] at this; omega
    have xl : xs.length = l.length := Paired.length pq
    walk_at "rd"
    refine x_lenL' (sqL eq) ?_
    walk_at "rd"
    refine x_cases (fun c1 => ?_) (fun c1 => ?_)
    · walk_at "rd"
      exact k r _ run hr1 (sA.trans (nil_sx t1)) (pA.sx t1 List.not_mem_nil) (t1 _ _ List.not_mem_nil eA) (by omega) R ins
    · walk_at "rd"
      refine x_lenL' (sqL eq) ?_
      have l0 : l.length ≠ 0 := fun z => by
        rw [xl, z] at c1
        exact absurd c1 (by decide)
      have pB := pA.sx t1 List.not_mem_nil
      refine ⟨p, (xs.length : Int), rfl, pB, by omega, by omega, fun j B2 j0 j1 t2 p2 => ?_⟩
      obtain ⟨g, rfl⟩ : ∃ g : Nat, j = (g : Int) := ⟨j.toNat, by omega⟩
      have nqp : q ≠ p := fun e => pA.there (e ▸ hq)
      obtain ⟨ns, epn, _⟩ := id pB
      have pq2 : Paired (rP K rS rS (hid [p] B2)) xs l := paired_le (mono_P mono_S mono_S) t2.le (pairs_hidL epn pq)
      obtain ⟨y, hy⟩ : ∃ y, xs[g]? = some y := ⟨xs[g]'(by omega), by simp⟩
      obtain ⟨z, hz, t, z1, z2, rfl, ht, rfl, rfl⟩ := Paired.getL pq2 hy
      refine x_ixL (sqL (t2 _ _ (by simpa using nqp) eq)) (atI_nat hy) ?_
      walk_at "rd"
      refine x_gtup (le_hid.t ht) rfl ?_
      walk_at "rd"
      have eA2 := t2 _ _ (by simpa using nrp) (t1 _ _ List.not_mem_nil eA)
      refine ⟨.inl ⟨rfl, _, sqL eA2⟩, ?_⟩
      walk_at "rd"
      refine ⟨r, _, _, rfl, rfl, eA2, lt_size (by rw [List.length_map]; omega), ?_⟩
      have lk : lookA st.rows z.1 = some z.2 := lookA_nodup (rows_nodup f2) (sr.perm.mem_iff.mp (getMem hz))
      have go : goS sts (atF sts a run) z.1 = some z.2 := by
        unfold goS
        rw [e1]
        exact lk
      refine ⟨run ++ [z.1], _, _, _, ?_, p2.sx (SX.mut (S := [r]) List.mem_cons_self) (by simpa using Ne.symm nrp), by rw [upd_same, List.map_append]; rfl, by rw [List.length_append]; show _ + 1 ≤ _; omega, R.snoc go, fun s hs => ?_, by rw [atF_snoc go]⟩
      · intro b o nb hb
        have hbr : b ≠ r := fun e => by rw [e, hr1] at hb; cases hb
        rw [upd_ne hbr]
        exact ((sA.trans (nil_sx t1)).trans t2) b o nb hb
      · rcases List.mem_append.mp hs with hs | hs
        · exact ins s hs
        · cases List.mem_singleton.mp hs
          exact ⟨_, lookA_mem e1, key_of lk⟩
  · rintro σ A ⟨run, b, c, e, sA, pA, eA, lA, R, ins, rfl⟩
    walk_at "rd"
    exact k r A run hr1 sA pA eA (by omega) R ins
end
end M

namespace M
open PySem PySem.Spec PyProof.Rows L2
section
variable {P : Program} {w : World} {K : PySem.W.Frag} {mg : Str → Option Value} {base : Heap}
def sp_law_passed (T : Tx K mg) : Sp := fun vs H Q _ => ∃ (d r : Addr) (a : Str) (run : List Str) (sts : List (Str × Stand)), vs = [.ref d, .str a, .ref r] ∧ rD (rStand K) H (.ref d) sts ∧ Closed sts ∧ a ∈ sts.map (·.1) ∧ H r = some (.lst (run.map V.str)) ∧ run.length ≤ 1000 ∧ RunOk sts a run ∧
  ∀ q H', H q = none → SX [] H H' → H' q = some (.lst ((trail sts a run).map V.str)) → Q (.ref q) H'
theorem ok_law_passed (T : Tx K mg) : FnOk P w K mg base CX0 2 T.law_passed.f T.law_passed.fd P_law_passed (sp_law_passed T) := by
  refine T.law_passed.F.ok sc_law_passed (fun vs H Q E h => ?_) (fun cdv A outer s H vs Q E hr h => ?_)
  · obtain ⟨d, r, a, run, sts, rfl, hd, C, ha, hr0, hl, R, k⟩ := h
    rfl
  have hu := hu_of hr
  have nd := sc_law_passed.nd
  obtain ⟨d, r, a, run, sts, rfl, hd, C, ha, hr0, hl, R, k⟩ := h
  refine ⟨_, (pss_cons (ps_set (i := 3) nd rfl (Or.inl rfl) (pv 1))
      (pss_cons (ps_set (i := 4) nd rfl (Or.inl rfl) (pe_lst (pa_cons (pv 3) pa_nil)))
      (pss_cons (ps_for PassesOwn.never rfl (w_pilist (K := K) rfl (pv 2)) (pg_name (i := 5) nd rfl (Or.inl rfl)) (pss_cons (ps_for PassesOwn.never rfl (w_pilist (K := K) rfl (pe_call (ok_law_steps (P := P) T) (hr.mono (by decide)) (by rfl) T.law_steps.g T.law_steps.F.kp T.law_steps.B .nil pass0 (pa_cons (pv 0) (pa_cons (pv 3) pa_nil)))) (w_pgtup (K := K) (n := 2) rfl (by rfl) (pgs_cons (pg_name (i := 6) nd rfl (Or.inl rfl)) (pgs_cons (pg_name (i := 7) nd rfl (Or.inl rfl)) pgs_nil)) (by rfl) (by rfl)) (pss_one (ps_if (pt_cmpR op_eq (pv 6) (pv 5) (nomark _)) (pss_one (ps_expr (pe_bm PySem.F.plainAttrs_list PySem.F.slot_list_append PySem.F.type_list_append mt_append (pv 4) (pa_cons (pv 7) pa_nil)))) pss_nil)))
      (pss_one (ps_set (i := 3) nd rfl (Or.inl rfl) (pe_ix (w_ixL (K := K) rfl) (pv 4) (pe_op op_sub (pe_callB (w_len (K := K) rfl) (by rfl) T.b_len (by decide +kernel) (pa_cons (pv 4) pa_nil)) pe_int) (fun _ _ => rfl))))))
      (pss_one (ps_ret (pv 4)))))), ?_⟩
  refine x_start (σ' := [some _, some _, some _, none, none, none, none, none]) rfl ?_
  try simp only [cx_n, cx_K, cx_w, cx_P]
  walk_at "rd"
  refine ⟨Nat.le_of_ble_eq_true rfl, fun F hF => ?_⟩
  walk_at "rd"
  have nFr : F ≠ r := Ne.symm (ne_of_none hr0 hF)
  refine x_itl (sqL (by rw [upd_ne (Ne.symm nFr)]; exact hr0)) ?_
  have cl : ∀ q ∈ sts, ∀ t ∈ q.2.tos, t ∈ sts.map (·.1) := fun q hq => (C.all q hq).2.2
  have e1 : run.length = (run.map V.str).length := by rw [List.length_map]
  refine for_it (walk_listR (R := rS) (Hb := H) (paired_S' run)) (fun i σ A => ∃ (b c e : Option V), SX [] H A ∧ A F = some (.lst ((upN (fun i => atF sts a (run.take i)) (i + 1)).map V.str)) ∧
      σ = [some (.ref d), some (.str a), some (.ref r), some (.str (atF sts a (run.take i))), some (.ref F), b, c, e])
    ⟨none, none, none, SX.new hF, upd_same, rfl⟩ (fun i σ A _ h => by obtain ⟨_, _, _, sA, _⟩ := h; exact sqL (sA _ _ List.not_mem_nil hr0)) ?_ ?_
  · rintro i x σ A0 A hi ⟨b, c, e, sA, eF, rfl⟩ ⟨rfl, s, hs, rfl⟩
    walk_at "rd"
    obtain ⟨b1, g1⟩ := R i s hs
    obtain ⟨st, f1, lk⟩ := goS_look g1
    obtain ⟨f2, f3, f4⟩ := C.all _ (lookA_mem f1)
    have f3 : st.size ≤ 4 := f3
    refine ⟨d, _, sts, st, rfl, mono_D (mono_stand K) _ _ _ _ sA.le0 hd, f1, f2, by omega, fun q B xs l hq t1 eq pq sr => ?_⟩
    have ll : l.length ≤ 4 := by rw [sr.perm.length_eq]; have := congrArg List.length (rows_tos st); rw [List.length_map, tos_len] at this; omega
    have lk2 : lookA l s = some b1 := by rw [perm_look (rows_nodup f2) sr.perm]; exact lk
    have eF1 := t1 _ _ List.not_mem_nil eF
    have nFq : F ≠ q := ne_of_none eF hq
    refine x_itl (sqL eq) ?_
    refine for_it (walk_listR pq) (fun j σ B2 => ∃ (c e : Option V), SX [] H B2 ∧ B2 q = some (.lst xs) ∧ Le (hid [F] B) (hid [F] B2) ∧ B2 F = some (.lst ((upN (fun i => atF sts a (run.take i)) (i + 1) ++ ((l.take j).filter fun z => decide (z.1 = s)).map (·.2)).map V.str)) ∧
        σ = [some (.ref d), some (.str a), some (.ref r), some (.str (atF sts a (run.take i))), some (.ref F), some (.str s), c, e])
      ⟨c, e, sA.trans t1, eq, Le.refl _, by simpa using eF1, rfl⟩ (fun j σ B2 _ h => by obtain ⟨_, _, _, h, _⟩ := h; exact sqL h) ?_ ?_
    · rintro j x σ B0 B2 hj ⟨c, e, sB, eqB, leB, eFB, rfl⟩ ⟨rfl, z, hz, t, z1, z2, rfl, ht, rfl, rfl⟩
      refine x_gtup (le_hid.t (leB.t (sqT_hidL eF1 ht))) rfl ?_
      walk_at "rd"
      have stp : ((l.take (j + 1)).filter fun z => decide (z.1 = s)) = ((l.take j).filter fun z => decide (z.1 = s)) ++ if z.1 = s then [z] else [] := by
        rw [take_succ_of hz, List.filter_append]
        congr 1
        by_cases h : z.1 = s <;> simp [h]
      have fl : (((l.take j).filter fun z => decide (z.1 = s)).map (·.2)).length ≤ 4 := by
        rw [List.length_map]
        exact Nat.le_trans (List.length_filter_le _ _) (by rw [List.length_take]; omega)
      refine x_cases (fun c1 => ?_) (fun c1 => ?_)
      · have ez : z.1 = s := by
          have := of_decide_eq_true c1
          injection this
        walk_at "rd"
        refine ⟨.inl ⟨rfl, _, sqL eFB⟩, ?_⟩
        walk_at "rd"
        refine ⟨F, _, _, rfl, rfl, eFB, lt_size (by rw [List.length_map, List.length_append, upN_len]; omega), ?_⟩
        refine ⟨_, _, sx_nil_of (S := [F]) ((nil_sx sB).trans (SX.mut List.mem_cons_self)) (by simp [hF]), by rw [upd_ne (Ne.symm nFq)]; exact eqB, leB.trans (SX.mut (S := [F]) List.mem_cons_self).le, ?_, rfl⟩
        rw [upd_same, stp, if_pos ez]
        simp
      · have ez : ¬ z.1 = s := fun q => by
          rw [q] at c1
          simp at c1
        walk_at "rd"
        exact ⟨_, _, sB, eqB, leB, by rw [stp, if_neg ez, List.append_nil]; exact eFB, rfl⟩
    · rintro σ B2 ⟨c, e, sB, eqB, leB, eFB, rfl⟩
      walk_at "rd"
      rw [List.take_length, pick_one ((sr.perm.map _).nodup_iff.mpr (rows_nodup f2)) lk2] at eFB
      have eF2 : B2 F = some (.lst ((upN (fun i => atF sts a (run.take i)) (i + 2)).map V.str)) := by
        rw [eFB, upN_succ _ (i + 1), ← atF_succ hs g1]
      refine x_lenL' (sqL eF2) ?_
      walk_at "rd"
      have el : (((List.map V.str (upN (fun i => atF sts a (run.take i)) (i + 2))).length : Nat) : Int) - 1 = ((i + 1 : Nat) : Int) := by
        rw [List.length_map, upN_len]
        omega
      rw [el]
      refine x_ixL (sqL eF2) (v := .str (atF sts a (run.take (i + 1)))) (atI_nat (by rw [List.getElem?_map, upN_at (by omega)]; rfl)) ?_
      exact ⟨_, _, _, sB, eF2, rfl⟩
  · rintro σ A ⟨b, c, e, sA, eF, rfl⟩
    walk_at "rd"
    exact k F A hF sA eF
end
end M

namespace M
open PySem PySem.Spec PyProof.Rows L2 ReR
/-! ### odd things as data -/
def oddD : List PyData := [.none, .bool true, .bool false, .int 0, .int (-1), .int 1, .int 5, .int 10, .int (10 ^ 29), .str "", .str "A", .str "a-", .str "1a", .str "abcdefghi", .str "a b", .str "b\n", .str "*", .tuple [], .list [], .dict [],
  .tuple [.str "end"], .list [.str "a"], .tuple [.str "a", .int 1], .dict [(.str "a", .int 1)], .str "aB"]
/-- small data -/
def itmOk (d : PyData) : Bool := d.showable && decide (d.depth ≤ 1) && d.leavesShort 40 && decide (d.bulk ≤ 50)
theorem odd_ok : ∀ d ∈ oddD, itmOk d = true := by decide +kernel
theorem odd_at {d : PyData} (i : Nat) (h : oddD[i]? = some d) : d ∈ oddD := List.mem_of_getElem? h
theorem nameB_itm {s : Str} (h : nameB s = true) : itmOk (.str s) = true := by
  unfold nameB nameL at h
  simp only [Bool.and_eq_true, List.all_eq_true] at h
  have e1 : (s.cps.toList.all fun c => decide (c < 16 ^ 8)) = true := List.all_eq_true.mpr fun c hc => decide_eq_true (by
    have := h.2 c hc
    simp [lowB, digB] at this
    omega)
  have e2 : s.cps.size ≤ 50 := by
    have := h.1
    simp at this
    omega
  have e3 : itmOk (.str s) = (true && decide (0 ≤ 1) && (s.cps.toList.all fun c => decide (c < 16 ^ 8)) && decide (s.cps.size ≤ 50)) := by
    simp only [itmOk, PyData.showable, PyData.depth, PyData.leavesShort, PyData.bulk]
    rfl
  rw [e3, e1, decide_eq_true e2]
  rfl
def tyD : PyData → String
  | .none => "NoneType"
  | .bool _ => "bool"
  | .int _ => "int"
  | .str _ => "str"
  | .list _ => "list"
  | .tuple _ => "tuple"
  | .dict _ => "dict"
theorem _root_.ReR.DpD.ty {K : PySem.W.Frag} {H : Hp} {v : V} {d : PyData} (h : DpD H v d) : TyX K H v (.type (tyD d)) := by
  cases h with
  | non => exact .base .non
  | bl b => exact .base (.bl b)
  | int i => exact .base (.int i)
  | str x => exact .base (.str x)
  | lst e _ => exact .base (.lst e)
  | tup e _ => exact .base (.tup e)
  | dic e _ =>
    rcases e with e | ⟨o, e⟩
    · exact .base (.dK e)
    · exact .fDict e
theorem kit_str : ∀ d : PyData, kitB (tyD d) "str" = some (match d with | .str _ => true | _ => false)
  | .none => (by decide +kernel : kitB "NoneType" "str" = some false)
  | .bool _ => (by decide +kernel : kitB "bool" "str" = some false)
  | .int _ => (by decide +kernel : kitB "int" "str" = some false)
  | .str _ => (by decide +kernel : kitB "str" "str" = some true)
  | .list _ => (by decide +kernel : kitB "list" "str" = some false)
  | .tuple _ => (by decide +kernel : kitB "tuple" "str" = some false)
  | .dict _ => (by decide +kernel : kitB "dict" "str" = some false)
theorem kit_tup : ∀ d : PyData, kitB (tyD d) "tuple" = some (match d with | .tuple _ => true | _ => false)
  | .none => (by decide +kernel : kitB "NoneType" "tuple" = some false)
  | .bool _ => (by decide +kernel : kitB "bool" "tuple" = some false)
  | .int _ => (by decide +kernel : kitB "int" "tuple" = some false)
  | .str _ => (by decide +kernel : kitB "str" "tuple" = some false)
  | .list _ => (by decide +kernel : kitB "list" "tuple" = some false)
  | .tuple _ => (by decide +kernel : kitB "tuple" "tuple" = some true)
  | .dict _ => (by decide +kernel : kitB "dict" "tuple" = some false)
theorem kit_lst : ∀ d : PyData, kitB (tyD d) "list" = some (match d with | .list _ => true | _ => false)
  | .none => (by decide +kernel : kitB "NoneType" "list" = some false)
  | .bool _ => (by decide +kernel : kitB "bool" "list" = some false)
  | .int _ => (by decide +kernel : kitB "int" "list" = some false)
  | .str _ => (by decide +kernel : kitB "str" "list" = some false)
  | .list _ => (by decide +kernel : kitB "list" "list" = some true)
  | .tuple _ => (by decide +kernel : kitB "tuple" "list" = some false)
  | .dict _ => (by decide +kernel : kitB "dict" "list" = some false)
theorem hid_sx {A B : Hp} {p : Addr} (s : SX [p] A B) : ∀ b o, hid [p] A b = some o → hid [p] B b = some o := fun b o h => by
  obtain ⟨n, e⟩ := hid_at h
  rw [hid_of n]
  exact s b o n e
theorem _root_.ReR.DpD.sx {A B : Hp} {p : Addr} {v : V} {d : PyData} (s : SX [p] A B) (h : DpD (hid [p] A) v d) : DpD (hid [p] B) v d := h.mono (hid_sx s)
theorem _root_.ReR.DpDs.sx {A B : Hp} {p : Addr} {v : List V} {d : List PyData} (s : SX [p] A B) (h : DpDs (hid [p] A) v d) : DpDs (hid [p] B) v d := h.mono (hid_sx s)
theorem _root_.ReR.DpD.out {A : Hp} {S : List Addr} {v : V} {d : PyData} (h : DpD (hid S A) v d) : DpD A v d := h.mono fun b o e => (hid_at e).2
theorem _root_.ReR.DpDs.out {A : Hp} {S : List Addr} {v : List V} {d : List PyData} (h : DpDs (hid S A) v d) : DpDs A v d := h.mono fun b o e => (hid_at e).2
theorem _root_.ReR.DpD.nil {A B : Hp} {v : V} {d : PyData} (s : SX [] A B) (h : DpD A v d) : DpD B v d := h.mono fun b o e => s b o List.not_mem_nil e
theorem _root_.ReR.DpDs.nil_ {A B : Hp} {v : List V} {d : List PyData} (s : SX [] A B) (h : DpDs A v d) : DpDs B v d := h.mono fun b o e => s b o List.not_mem_nil e
theorem _root_.ReR.DpDs.len {A : Hp} : ∀ {v : List V} {d : List PyData}, DpDs A v d → v.length = d.length
  | _, _, .nil => rfl
  | _, _, .cons _ r => congrArg (· + 1) r.len
theorem _root_.ReR.DpDs.at_ {A : Hp} : ∀ {v : List V} {d : List PyData} {i : Nat} {y : V}, DpDs A v d → v[i]? = some y → ∃ e, d[i]? = some e ∧ DpD A y e
  | _, _, i, _, .nil, h => by cases i <;> cases h
  | _, _, 0, _, .cons h r, e => by cases e; exact ⟨_, rfl, h⟩
  | _, _, i + 1, _, .cons h r, e => r.at_ (i := i) e
theorem _root_.ReR.DpDs.app {A : Hp} : ∀ {v w : List V} {d e : List PyData}, DpDs A v d → DpDs A w e → DpDs A (v ++ w) (d ++ e)
  | _, _, _, _, .nil, h => h
  | _, _, _, _, .cons h r, k => .cons h (r.app k)
theorem _root_.ReR.DpDs.take {A : Hp} : ∀ {v : List V} {d : List PyData} (n : Nat), DpDs A v d → DpDs A (v.take n) (d.take n)
  | _, _, _, .nil => by rw [List.take_nil, List.take_nil]; exact .nil
  | _, _, 0, .cons h r => .nil
  | _, _, n + 1, .cons h r => .cons h (r.take n)
theorem _root_.ReR.DpDs.drop {A : Hp} : ∀ {v : List V} {d : List PyData} (n : Nat), DpDs A v d → DpDs A (v.drop n) (d.drop n)
  | _, _, _, .nil => by rw [List.drop_nil, List.drop_nil]; exact .nil
  | _, _, 0, .cons h r => .cons h r
  | _, _, n + 1, .cons h r => r.drop n
theorem _root_.ReR.DpDs.strs {A : Hp} : ∀ (l : List Str), DpDs A (l.map V.str) (l.map PyData.str)
  | [] => .nil
  | s :: l => .cons (.str s) (ReR.DpDs.strs l)
theorem out_p {H B : Hp} {p a : Addr} (hp : Pool H p) (s : SX [] H B) (hn : B a = none) : a ≠ p := fun z => (hp.sx s List.not_mem_nil).there (z ▸ hn)
theorem hid_eq {H : Hp} {p a : Addr} {o : HO} (n : a ≠ p) (h : H a = some o) : hid [p] H a = some o := by
  rw [hid_of (by simpa using n)]
  exact h
/-- an odd thing, whatever the pool is -/
def Odd (H : Hp) (p : Addr) (v : V) : Prop := ∃ d ∈ oddD, DpD (hid [p] H) v d
theorem Odd.sx {A B : Hp} {p : Addr} {v : V} (s : SX [p] A B) : Odd A p v → Odd B p v := fun ⟨d, m, h⟩ => ⟨d, m, h.sx s⟩
theorem at_mem {xs : List V} {r : Int} (h0 : 0 ≤ r) (h1 : r < (xs.length : Int)) : ∃ v, atI xs r = some v ∧ v ∈ xs := by
  obtain ⟨n, rfl⟩ := Int.eq_ofNat_of_zero_le h0
  have hn : n < xs.length := by omega
  exact ⟨xs[n], atI_nat (by rw [List.getElem?_eq_getElem hn]), List.getElem_mem hn⟩
section
variable {P : Program} {w : World} {K : PySem.W.Frag} {mg : Str → Option Value} {base : Heap}
theorem x_disp {trs : List (TE × TE)} {σ : L2.St} {H : Hp} {Q : VK} (k : ∀ p, H p = none → tPairs trs σ (upd H p (.dK [])) fun ps H2 => H2 p = some (.dK []) ∧ ∃ kvs : List (Key × V), ps = kvs.map (fun kv => (kV kv.1, kv.2)) ∧ kvs.length ≤ 15 ∧ Q (.ref p) (upd H2 p (.dK (mergeK [] kvs)))) : tDisp trs σ H Q := k
def pairB (d : PyData) : Bool := match d with
  | .tuple xs => decide (xs.length = 2)
  | _ => false
def sp_is_pair2 (T : Tx K mg) : Sp := fun vs H Q _ => ∃ v d, vs = [v] ∧ DpD H v d ∧ Q (.bl (pairB d)) H
theorem ok_is_pair2 (T : Tx K mg) : FnOk P w K mg base CX0 1 T.is_pair.f T.is_pair.fd P_is_pair (sp_is_pair2 T) := by
  refine T.is_pair.F.ok sc_is_pair (fun vs H Q E h => ?_) (fun cdv A outer s H vs Q E hr h => ?_)
  · obtain ⟨v, d, rfl, hd, k⟩ := h
    rfl
  have hu := hu_of hr
  have nd := sc_is_pair.nd
  obtain ⟨v, d, rfl, hd, k⟩ := h
  refine ⟨_, (pss_one (ps_ret (pe_and (pe_callB (w_isi (K := K) rfl) (by rfl) T.b_isinstance (by decide +kernel) (pa_cons (pv 0) (pa_cons (pe_bltn (v := .ty "tuple") (by rfl) T.b_tuple (by decide +kernel) rfl) pa_nil))) (pe_one (pe_cmpR op_eq (pe_callB (w_len (K := K) rfl) (by rfl) T.b_len (by decide +kernel) (pa_cons (pv 0) pa_nil)) pe_int (nomark _)))))), ?_⟩
  refine x_start (σ' := [some _]) rfl ?_
  try simp only [cx_n, cx_K, cx_w, cx_P]
  walk_at "rd"
  refine x_isi hd.ty (kit_tup d) ?_
  cases hd with
  | tup e h =>
    walk_at "rd"
    refine x_lenT' (sqT e) ?_
    walk_at "rd"
    rw [h.len]
    rename_i xs ds
    have e9 : decide (V.int (ds.length : Int) = V.int 2) = decide (ds.length = 2) := by
      by_cases h : ds.length = 2
      · rw [decide_eq_true h, decide_eq_true]
        rw [h]
        rfl
      · rw [decide_eq_false h, decide_eq_false]
        intro q
        injection q with q
        omega
    rw [e9]
    exact k
  | non => walk_at "rd"; exact k
  | bl b => walk_at "rd"; exact k
  | int b => walk_at "rd"; exact k
  | str b => walk_at "rd"; exact k
  | lst e h => walk_at "rd"; exact k
  | dic e h => walk_at "rd"; exact k
def rowD : PyData → Option (List PyData)
  | .list ds => some ds
  | .tuple ds => some ds
  | _ => none
theorem x_isi2D {H : Hp} {Q : VK} {x : V} {t : Addr} {d : PyData} (h : DpD H x d) (ht : H t = some (.tup [.ty "list", .ty "tuple"])) (k : Q (.bl (rowD d).isSome) H) : rIsiT K [x, .ref t] H Q := by
  refine ⟨x, t, _, _, _, (rowD d).isSome, rfl, ht, .cons (.ty "list") (.cons (.ty "tuple") .nil), h.ty, ?_, k⟩
  unfold PySem.W.kitAny
  rw [kit_ty (kit_lst d)]
  cases d with
  | list _ => rfl
  | tuple _ =>
    show PySem.W.kitAny K _ _ = _
    unfold PySem.W.kitAny
    rw [kit_ty (kit_tup _)]
    rfl
  | none =>
    show PySem.W.kitAny K _ _ = _
    unfold PySem.W.kitAny
    rw [kit_ty (kit_tup _)]
    rfl
  | bool _ =>
    show PySem.W.kitAny K _ _ = _
    unfold PySem.W.kitAny
    rw [kit_ty (kit_tup _)]
    rfl
  | int _ =>
    show PySem.W.kitAny K _ _ = _
    unfold PySem.W.kitAny
    rw [kit_ty (kit_tup _)]
    rfl
  | str _ =>
    show PySem.W.kitAny K _ _ = _
    unfold PySem.W.kitAny
    rw [kit_ty (kit_tup _)]
    rfl
  | dict _ =>
    show PySem.W.kitAny K _ _ = _
    unfold PySem.W.kitAny
    rw [kit_ty (kit_tup _)]
    rfl
def sp_is_row (T : Tx K mg) : Sp := fun vs H Q _ => ∃ v d, vs = [v] ∧ DpD H v d ∧ ∀ H', SX [] H H' → Q (.bl (rowD d).isSome) H'
theorem ok_is_row (T : Tx K mg) : FnOk P w K mg base CX0 1 T.is_row.f T.is_row.fd P_is_row (sp_is_row T) := by
  refine T.is_row.F.ok sc_is_row (fun vs H Q E h => ?_) (fun cdv A outer s H vs Q E hr h => ?_)
  · obtain ⟨v, d, rfl, hd, k⟩ := h
    rfl
  have hu := hu_of hr
  have nd := sc_is_row.nd
  obtain ⟨v, d, rfl, hd, k⟩ := h
  refine ⟨_, (pss_one (ps_ret (pe_callB (w_isiT (K := K) rfl) (by rfl) T.b_isinstance (by decide +kernel) (pa_cons (pv 0) (pa_cons (pe_tup (pa_cons (pe_bltn (v := .ty "list") (by rfl) T.b_list (by decide +kernel) rfl) (pa_cons (pe_bltn (v := .ty "tuple") (by rfl) T.b_tuple (by decide +kernel) rfl) pa_nil))) pa_nil))))), ?_⟩
  refine x_start (σ' := [some _]) rfl ?_
  try simp only [cx_n, cx_K, cx_w, cx_P]
  walk_at "rd"
  refine ⟨Nat.le_of_ble_eq_true rfl, fun t ht => ?_⟩
  have st : SX [] H (upd H t (.tup [.ty "list", .ty "tuple"])) := SX.new ht
  walk_at "rd"
  exact x_isi2D (hd.nil st) upd_same (k _ st)
def sp_law_thing (T : Tx K mg) : Sp := fun vs H Q _ => ∃ (p : Addr), vs = [.ref p] ∧ Pool H p ∧ ∀ v H', Odd H' p v → SX [p] H H' → Pool H' p → Q v H'
theorem ok_law_thing (T : Tx K mg) : FnOk P w K mg base CX0 2 T.law_thing.f T.law_thing.fd P_law_thing (sp_law_thing T) := by
  refine T.law_thing.F.ok sc_law_thing (fun vs H Q E h => ?_) (fun cdv A outer s H vs Q E hr h => ?_)
  · obtain ⟨p, rfl, hp, k⟩ := h
    rfl
  have hu := hu_of hr
  have nd := sc_law_thing.nd
  obtain ⟨p, rfl, hp, k⟩ := h
  refine ⟨_, (pss_cons (ps_set (i := 1) nd rfl (Or.inl rfl) (pe_lst (pa_cons pe_non (pa_cons pe_bl (pa_cons pe_bl (pa_cons pe_int (pa_cons (pe_un un_neg pe_int) (pa_cons pe_int (pa_cons pe_int (pa_cons pe_int (pa_cons (pe_op op_powB pe_int pe_int) (pa_cons pe_str (pa_cons pe_str (pa_cons pe_str (pa_cons pe_str (pa_cons pe_str (pa_cons pe_str (pa_cons pe_str (pa_cons pe_str (pa_cons (pe_tup pa_nil) (pa_cons (pe_lst pa_nil) (pa_cons pe_dnewK pa_nil))))))))))))))))))))))
      (pss_cons (ps_set (i := 1) nd rfl (Or.inl rfl) (pe_op op_cat (pv 1) (pe_lst (pa_cons (pe_tup (pa_cons pe_str pa_nil)) (pa_cons (pe_lst (pa_cons pe_str pa_nil)) (pa_cons (pe_tup (pa_cons pe_str (pa_cons pe_int pa_nil))) (pa_cons (pe_disp (pps_cons pe_str pe_int pps_nil) (by rfl) (by rfl) (fun z => by cases z) (by decide)) (pa_cons pe_str pa_nil))))))))
      (pss_one (ps_ret (pe_ix (w_ixL (K := K) rfl) (pv 1) (pe_call (ok_law_draw (P := P) T) (hr.mono (by decide)) (by rfl) T.law_draw.g T.law_draw.F.kp T.law_draw.B .nil pass0 (pa_cons (pv 0) (pa_cons pe_int pa_nil))) (fun _ _ => rfl)))))), ?_⟩
  refine x_start (σ' := [some _, none]) rfl ?_
  try simp only [cx_n, cx_K, cx_w, cx_P]
  walk_at "rd"
  refine x_I ⟨by decide, by decide +kernel⟩ ?_
  walk_at "rd"
  refine ⟨Nat.le_of_ble_eq_true rfl, fun t1 h1 => ?_⟩
  walk_at "rd"
  refine ⟨Nat.le_of_ble_eq_true rfl, fun l1 h2 => ?_⟩
  walk_at "rd"
  intro d1 h3
  walk_at "rd"
  refine ⟨Nat.le_of_ble_eq_true rfl, fun l2 h4 => ?_⟩
  have s1 : SX [] H (upd H t1 (.tup [])) := SX.new h1
  have e1 : (upd H t1 (.tup [])) t1 = some (.tup []) := upd_same
  generalize upd H t1 (.tup []) = H1 at s1 e1 h2 h3 h4
  have s2 : SX [] H1 (upd H1 l1 (.lst [])) := SX.new h2
  have e2 : (upd H1 l1 (.lst [])) l1 = some (.lst []) := upd_same
  generalize upd H1 l1 (.lst []) = H2 at s2 e2 h3 h4
  have s3 : SX [] H2 (upd H2 d1 (.dK [])) := SX.new h3
  have e3 : (upd H2 d1 (.dK [])) d1 = some (.dK []) := upd_same
  generalize upd H2 d1 (.dK []) = H3 at s3 e3 h4
  let L1 : List V := [V.non, V.bl true, V.bl false, V.int 0, V.int (-1), V.int 1, V.int 5, V.int 10, V.int (10 ^ Int.toNat 29), V.str "", V.str "A", V.str "a-", V.str "1a", V.str "abcdefghi", V.str "a b", V.str "b\n", V.str "*", V.ref t1, V.ref l1, V.ref d1]
  have s4 : SX [] H3 (upd H3 l2 (.lst L1)) := SX.new h4
  have e4 : (upd H3 l2 (.lst L1)) l2 = some (.lst L1) := upd_same
  have n1 : t1 ≠ p := out_p hp (SX.refl H) h1
  have n2 : l1 ≠ p := out_p hp s1 h2
  have n3 : d1 ≠ p := out_p hp (s1.trans s2) h3
  have T1 : ∀ v ∈ L1, Odd (upd H3 l2 (.lst L1)) p v := by
    have a1 := hid_eq n1 (s4 _ _ List.not_mem_nil (s3 _ _ List.not_mem_nil (s2 _ _ List.not_mem_nil e1)))
    have a2 := hid_eq n2 (s4 _ _ List.not_mem_nil (s3 _ _ List.not_mem_nil e2))
    have a3 := hid_eq n3 (s4 _ _ List.not_mem_nil e3)
    intro v hv
    simp only [L1, List.mem_cons, List.not_mem_nil, or_false] at hv
    rcases hv with rfl | rfl | rfl | rfl | rfl | rfl | rfl | rfl | rfl | rfl | rfl | rfl | rfl | rfl | rfl | rfl | rfl | rfl | rfl | rfl
    · exact ⟨_, odd_at 0 rfl, .non⟩
    · exact ⟨_, odd_at 1 rfl, .bl _⟩
    · exact ⟨_, odd_at 2 rfl, .bl _⟩
    · exact ⟨_, odd_at 3 rfl, .int _⟩
    · exact ⟨_, odd_at 4 rfl, .int _⟩
    · exact ⟨_, odd_at 5 rfl, .int _⟩
    · exact ⟨_, odd_at 6 rfl, .int _⟩
    · exact ⟨_, odd_at 7 rfl, .int _⟩
    · exact ⟨_, odd_at 8 rfl, .int _⟩
    · exact ⟨_, odd_at 9 rfl, .str _⟩
    · exact ⟨_, odd_at 10 rfl, .str _⟩
    · exact ⟨_, odd_at 11 rfl, .str _⟩
    · exact ⟨_, odd_at 12 rfl, .str _⟩
    · exact ⟨_, odd_at 13 rfl, .str _⟩
    · exact ⟨_, odd_at 14 rfl, .str _⟩
    · exact ⟨_, odd_at 15 rfl, .str _⟩
    · exact ⟨_, odd_at 16 rfl, .str _⟩
    · exact ⟨_, odd_at 17 rfl, .tup a1 .nil⟩
    · exact ⟨_, odd_at 18 rfl, .lst a2 .nil⟩
    · exact ⟨_, odd_at 19 rfl, .dic (.inl a3) .nil⟩
  have l20 : L1.length = 20 := rfl
  change gName 1 (V.ref l2) _ (upd H3 l2 (.lst L1)) _
  have sH4 := s1.trans (s2.trans (s3.trans s4))
  generalize upd H3 l2 (.lst L1) = H4 at s4 e4 T1 sH4
  clear_value L1
  clear s1 s2 s3 s4 e1 e2 e3 h1 h2 h3 h4
  walk_at "rd"
  refine ⟨Nat.le_of_ble_eq_true rfl, fun t2 h5 => ?_⟩
  walk_at "rd"
  refine ⟨Nat.le_of_ble_eq_true rfl, fun l3 h6 => ?_⟩
  walk_at "rd"
  refine ⟨Nat.le_of_ble_eq_true rfl, fun t3 h7 => ?_⟩
  have s5 : SX [] H4 (upd H4 t2 (.tup [.str "end"])) := SX.new h5
  have e5 : (upd H4 t2 (.tup [.str "end"])) t2 = some (.tup [.str "end"]) := upd_same
  generalize upd H4 t2 (.tup [.str "end"]) = H5 at s5 e5 h6 h7
  have s6 : SX [] H5 (upd H5 l3 (.lst [.str "a"])) := SX.new h6
  have e6 : (upd H5 l3 (.lst [.str "a"])) l3 = some (.lst [.str "a"]) := upd_same
  generalize upd H5 l3 (.lst [.str "a"]) = H6 at s6 e6 h7
  have s7 : SX [] H6 (upd H6 t3 (.tup [.str "a", .int 1])) := SX.new h7
  have e7 : (upd H6 t3 (.tup [.str "a", .int 1])) t3 = some (.tup [.str "a", .int 1]) := upd_same
  generalize upd H6 t3 (.tup [.str "a", .int 1]) = H7 at s7 e7
  refine x_disp fun d2 h8 => ?_
  show tPairs _ _ _ _
  unfold tPairs
  walk_at "rd"
  unfold tPairs
  have s8 : SX [] H7 (upd H7 d2 (.dK [])) := SX.new h8
  refine ⟨upd_same, [(Sum.inr "a", .int 1)], rfl, Nat.le_of_ble_eq_true rfl, ?_⟩
  have s9 : SX [] H7 (upd (upd H7 d2 (.dK [])) d2 (.dK (mergeK [] [(Sum.inr "a", .int 1)]))) := by rw [upd_upd]; exact SX.new h8
  have e9 : (upd (upd H7 d2 (.dK [])) d2 (.dK (mergeK [] [(Sum.inr "a", .int 1)]))) d2 = some (.dK _) := upd_same
  generalize upd (upd H7 d2 (.dK [])) d2 (.dK (mergeK [] [(Sum.inr "a", .int 1)])) = H9 at s9 e9
  walk_at "rd"
  refine ⟨Nat.le_of_ble_eq_true rfl, fun l4 h10 => ?_⟩
  let R5 : List V := [.ref t2, .ref l3, .ref t3, .ref d2, .str "aB"]
  have s59 := s5.trans (s6.trans (s7.trans s9))
  have s10 : SX [] H9 (upd H9 l4 (.lst R5)) := SX.new h10
  have e10 : (upd H9 l4 (.lst R5)) l4 = some (.lst _) := upd_same
  have s410 := s59.trans s10
  have m2 : t2 ≠ p := out_p hp sH4 h5
  have m3 : l3 ≠ p := out_p hp (sH4.trans s5) h6
  have m4 : t3 ≠ p := out_p hp (sH4.trans (s5.trans s6)) h7
  have m5 : d2 ≠ p := out_p hp (sH4.trans (s5.trans (s6.trans s7))) h8
  have a2 := (s6.trans (s7.trans (s9.trans s10))) _ _ List.not_mem_nil e5
  have a3 := (s7.trans (s9.trans s10)) _ _ List.not_mem_nil e6
  have a4 := (s9.trans s10) _ _ List.not_mem_nil e7
  have a5 := s10 _ _ List.not_mem_nil e9
  generalize upd H9 l4 (.lst R5) = H10 at s10 e10 s410 a2 a3 a4 a5
  refine ⟨l2, l4, L1, _, rfl, rfl, s410 _ _ List.not_mem_nil e4, e10, by rw [l20]; exact Nat.le_of_ble_eq_true rfl, fun l5 h11 => ?_⟩
  have s11 : SX [] H10 (upd H10 l5 (.lst (L1 ++ R5))) := SX.new h11
  have e11 : (upd H10 l5 (.lst (L1 ++ R5))) l5 = some (.lst (L1 ++ R5)) := upd_same
  generalize upd H10 l5 (.lst (L1 ++ R5)) = H11 at s11 e11
  have sAll : SX [] H H11 := sH4.trans (s410.trans s11)
  have T2 : ∀ v ∈ L1 ++ R5, Odd H11 p v := by
    intro v hv
    rcases List.mem_append.mp hv with hv | hv
    · exact (T1 v hv).sx (nil_sx (s410.trans s11))
    · simp only [R5, List.mem_cons, List.not_mem_nil, or_false] at hv
      rcases hv with rfl | rfl | rfl | rfl | rfl
      · exact ⟨_, odd_at 20 rfl, .tup (hid_eq m2 (s11 _ _ List.not_mem_nil a2)) (.cons (.str _) .nil)⟩
      · exact ⟨_, odd_at 21 rfl, .lst (hid_eq m3 (s11 _ _ List.not_mem_nil a3)) (.cons (.str _) .nil)⟩
      · exact ⟨_, odd_at 22 rfl, .tup (hid_eq m4 (s11 _ _ List.not_mem_nil a4)) (.cons (.str _) (.cons (.int _) .nil))⟩
      · exact ⟨_, odd_at 23 rfl, .dic (.inl (hid_eq m5 (s11 _ _ List.not_mem_nil a5))) (.cons (.int _) .nil)⟩
      · exact ⟨_, odd_at 24 rfl, .str _⟩
  have l25 : (L1 ++ R5).length = 25 := by rw [List.length_append, l20]; rfl
  generalize L1 ++ R5 = LL at e11 T2 l25
  walk_at "rd"
  refine ⟨p, 25, rfl, hp.sx sAll List.not_mem_nil, by decide, by decide, fun r H12 r0 r1 s12 p12 => ?_⟩
  have n5 : l5 ≠ p := fun z => (hp.sx (sH4.trans s410) List.not_mem_nil).there (z ▸ h11)
  obtain ⟨v, ev, mv⟩ := at_mem (xs := LL) r0 (by rw [l25]; exact r1)
  refine x_ixL (sqL (s12 _ _ (by simpa using n5) e11)) ev ?_
  exact k v H12 ((T2 v mv).sx s12) ((nil_sx sAll).trans s12) p12
end
end M

namespace M
open PySem PySem.Spec PyProof.Rows L2 ReR
/-! ### runs of any things -/
def RunD (tbl : List (Str × Stand)) (a : Str) (ds : List PyData) (run : List Str) : Prop := ds = run.map .str ∧ RunOk tbl a run
theorem trail_snoc {sts : List (Str × Stand)} {a s : Str} {run : List Str} : trail sts a (run ++ [s]) = trail sts a run ++ [atF sts a (run ++ [s])] := by
  unfold trail
  rw [List.length_append]
  show upN _ (run.length + 1 + 1) = _
  rw [upN_succ]
  have e1 : upN (fun i => atF sts a ((run ++ [s]).take i)) (run.length + 1) = upN (fun i => atF sts a (run.take i)) (run.length + 1) := by
    unfold upN
    refine List.map_congr_left fun i hi => ?_
    have := List.mem_range.mp hi
    rw [List.take_append_of_le_length (by omega)]
  have e2 : (run ++ [s]).take (run.length + 1) = run ++ [s] := List.take_of_length_le (by rw [List.length_append]; exact Nat.le_refl _)
  rw [e1, e2]
theorem RunOk.pre {sts : List (Str × Stand)} {a : Str} {run : List Str} (R : RunOk sts a run) (n : Nat) : RunOk sts a (run.take n) := fun i s h => by
  have hi : i < n := by
    have := getLt h
    rw [List.length_take] at this
    omega
  rw [List.getElem?_take_of_lt hi] at h
  obtain ⟨b, g⟩ := R i s h
  exact ⟨b, by rw [List.take_take, Nat.min_eq_left (Nat.le_of_lt hi)]; exact g⟩
theorem str_inj : ∀ {l m : List Str}, l.map PyData.str = m.map PyData.str → l = m
  | [], [], _ => rfl
  | [], _ :: _, h => by cases h
  | _ :: _, [], h => by cases h
  | x :: l, y :: m, h => by
    injection h with h1 h2
    injection h1 with h1
    rw [h1, str_inj h2]
/-- the step at i is no step of the stand there: no run -/
theorem no_run {tbl : List (Str × Stand)} {a : Str} {ds : List PyData} {run : List Str} {i : Nat} {d : PyData} (pre : ds.take i = run.map .str) (hd : ds[i]? = some d) (bad : ∀ s, d = .str s → goS tbl (atF tbl a run) s = none) : ∀ r, ¬ RunD tbl a ds r := by
  rintro r ⟨e, R⟩
  rw [e, ← List.map_take] at pre
  have e2 := str_inj pre
  rw [e, List.getElem?_map] at hd
  cases h : r[i]? with
  | none => rw [h] at hd; cases hd
  | some s =>
    rw [h] at hd
    cases hd
    obtain ⟨b, g⟩ := R i s h
    rw [e2, bad s rfl] at g
    cases g
/-- all steps are steps: a run -/
theorem run_more {tbl : List (Str × Stand)} {a s b : Str} {ds : List PyData} {run : List Str} {i : Nat} (pre : ds.take i = run.map .str) (hd : ds[i]? = some (.str s)) (R : RunOk tbl a run) (g : goS tbl (atF tbl a run) s = some b) : ds.take (i + 1) = (run ++ [s]).map .str ∧ RunOk tbl a (run ++ [s]) := by
  refine ⟨?_, R.snoc g⟩
  rw [take_succ_of hd, pre, List.map_append]
  rfl
theorem RunD.uniq {tbl : List (Str × Stand)} {a : Str} {ds : List PyData} {r r' : List Str} (h : RunD tbl a ds r) (h' : RunD tbl a ds r') : r = r' := str_inj (h.1.symm.trans h'.1)
theorem RunD.len {tbl : List (Str × Stand)} {a : Str} {ds : List PyData} {r : List Str} (h : RunD tbl a ds r) : r.length = ds.length := by rw [h.1, List.length_map]
/-- the table leads from the start to its stands alone -/
def ShutAt (tbl : List (Str × Stand)) (a : Str) : Prop := ∀ run, RunOk tbl a run → ∃ st, lookA tbl (atF tbl a run) = some st
theorem inV_strA {s : Str} : ∀ {l : List Str}, inV (.str s) (l.map V.str) = decide (s ∈ l)
  | [] => by simp [inV]
  | t :: l => by
    have ih := inV_strA (s := s) (l := l)
    unfold inV at ih ⊢
    rw [List.map_cons, List.any_cons, ih]
    show ((t == s) || _) = _
    by_cases h : t = s
    · subst h
      simp
    · have e : (t == s) = false := by simpa using h
      rw [e, Bool.false_or]
      have : ¬ s = t := fun z => h z.symm
      simp [this]
section
variable {P : Program} [SupX.PX P] {w : World} {K : PySem.W.Frag} {mg : Str → Option Value} {base : Heap}
def sp_passed (T : Tx K mg) : Sp := fun vs H Q E => ∃ (x r : Addr) (hands : Int) (a : Str) (us : List V) (ds : List PyData) (tbl : List (Str × Stand)), vs = [.ref x, .ref r] ∧ WorkAt T H x hands a tbl ∧ H r = some (.lst us) ∧ DpDs H us ds ∧ us.length ≤ 1000 ∧ ShutAt tbl a ∧ (∀ q ∈ tbl, q.2.size ≤ 4) ∧
  (∀ run q H', RunD tbl a ds run → H q = none → SX [] H H' → H' q = some (.lst ((trail tbl a run).map V.str)) → Q (.ref q) H') ∧
  ((∀ run, ¬ RunD tbl a ds run) → ∀ d H', SX [] H H' → E (.ref T.c_BadRun) (some d) H')
theorem ok_passed (T : Tx K mg) : FnOk P w K mg base (L2.CX P w) 3 T.passed.f T.passed.fd P_passed (sp_passed T) := by
  refine T.passed.F.okX sc_passed (fun vs H Q E h => ?_) (fun cdv A outer s H vs Q E hr h => ?_)
  · obtain ⟨x, r, hands, a, us, ds, tbl, rfl, wa, hr0, hds, hl, shut, sz, k, ke⟩ := h
    rfl
  have hu := hu_of hr
  have nd := sc_passed.nd
  obtain ⟨x, r, hands, a, us, ds, tbl, rfl, wa, hr0, hds, hl, shut, sz, k, ke⟩ := h
  refine ⟨_, (pss_cons (ps_if (pt_not (pt_val (pe_call (ok_is_row (P := P) T) (hr.mono (by decide)) (by rfl) T.is_row.g T.is_row.F.kp T.is_row.B .nil pass0 (pa_cons (pv 1) pa_nil)))) (pss_one (ps_raise rfl (takes_of rfl rfl rfl rfl) (SupX.pmk_sup (P := P) rfl T.s_BadRun (hr.mono (by decide)) (by rfl) T.g_BadRun (pa_cons (pe_un un_neg pe_int) pa_nil)))) pss_nil)
      (pss_cons (ps_set (i := 2) nd rfl (Or.inl rfl) (w_fld (K := K) rfl (pv 0) rfl))
      (pss_cons (ps_set (i := 3) nd rfl (Or.inl rfl) (pe_lst (pa_cons (pv 2) pa_nil)))
      (pss_cons (ps_for (passes_of rfl) rfl (w_enumA (K := K) rfl (by rfl) T.b_enumerate (pa_cons (pv 1) pa_nil)) (w_pgtup (K := K) (n := 2) rfl (by rfl) (pgs_cons (pg_name (i := 4) nd rfl (Or.inl rfl)) (pgs_cons (pg_name (i := 5) nd rfl (Or.inl rfl)) pgs_nil)) (by rfl) (by rfl)) (pss_cons (ps_if (PW.pt (pw_or (pt_not (pt_val (pe_callB (w_isi (K := K) rfl) (by rfl) T.b_isinstance (by decide +kernel) (pa_cons (pv 5) (pa_cons (pe_bltn (v := .ty "str") (by rfl) T.b_str (by decide +kernel) rfl) pa_nil))))) (pw_or1 (pt_cmpR (w_nin (K := K) rfl) (pv 5) (pe_meth (pv 0) T.cl_Work T.me_Work_steps (ok_Work_steps (P := P) T) (hr.mono (by decide)) T.Work_steps.B .nil pass0 (pa_cons (pv 2) pa_nil)) (by rfl))))) (pss_one (ps_raise rfl (takes_of rfl rfl rfl rfl) (SupX.pmk_sup (P := P) rfl T.s_BadRun (hr.mono (by decide)) (by rfl) T.g_BadRun (pa_cons (pv 4) pa_nil)))) pss_nil)
      (pss_cons (ps_set (i := 2) nd rfl (Or.inl rfl) (pe_meth (pv 0) T.cl_Work T.me_Work_to (ok_Work_to (P := P) T) (hr.mono (by decide)) T.Work_to.B .nil pass0 (pa_cons (pv 2) (pa_cons (pv 5) pa_nil))))
      (pss_one (ps_expr (pe_bm PySem.F.plainAttrs_list PySem.F.slot_list_append PySem.F.type_list_append mt_append (pv 3) (pa_cons (pv 2) pa_nil)))))))
      (pss_one (ps_ret (pv 3))))))), ?_⟩
  refine x_start (σ' := [some _, some _, none, none, none, none]) rfl ?_
  try simp only [cx_n, cx_K, cx_w, cx_P]
  walk_at "rd"
  refine ⟨.ref r, .list ds, rfl, .lst hr0 hds, fun H1 s1 => ?_⟩
  rw [show (rowD (PyData.list ds)).isSome = true from rfl]
  walk_at "rd"
  have wa1 := wa.le s1.le0
  obtain ⟨dx, d, nm, en, hx, _⟩ := id wa1.ex
  refine x_getF hx T.cl_Work T.n_Work_start work_start ?_
  walk_at "rd"
  refine ⟨Nat.le_of_ble_eq_true rfl, fun F hF => ?_⟩
  walk_at "rd"
  have hr1 := s1 _ _ List.not_mem_nil hr0
  have hF0 : H F = none := s1.free hF List.not_mem_nil
  have s2 : SX [] H1 (upd H1 F (.lst [.str a])) := SX.new hF
  refine x_iEnumA ?_
  walk_at "rd"
  have nFr : r ≠ F := ne_of_none hr1 hF
  refine ⟨r, us, rfl, .inl (by rw [upd_ne nFr]; exact hr1), fun J wk => ?_⟩
  refine for_it wk (fun i σ A => ∃ (run : List Str) (c e : Option V), ds.take i = run.map .str ∧ RunOk tbl a run ∧ run.length = i ∧ SX [] H1 A ∧ A F = some (.lst ((trail tbl a run).map V.str)) ∧
      σ = [some (.ref x), some (.ref r), some (.str (atF tbl a run)), some (.ref F), c, e]) ⟨[], none, none, rfl, (fun _ _ h => nomatch h), rfl, s2, upd_same, rfl⟩ ?_ ?_ ?_
  · rintro i σ A hi ⟨_, _, _, _, _, _, sA, _⟩
    rw [upd_ne nFr]
    rw [hr1]
    exact sA _ _ List.not_mem_nil hr1
  · rintro i y σ A A' hi ⟨run, c, e, pre, R, rl, sA, eF, rfl⟩ ⟨t, y1, hy, rfl, ht, rfl⟩
    obtain ⟨de, hde, dy⟩ := (hds.nil_ (s1.trans sA)).at_ hy
    have sT : SX [] A (upd A t (.tup [.int (i : Int), y1])) := SX.new ht
    have nFt : F ≠ t := ne_of_none eF ht
    have dy2 := dy.nil sT
    have wa2 := wa1.le (sA.trans sT).le0
    obtain ⟨dx2, d2, nm2, en2, hx2, _⟩ := id wa2.ex
    obtain ⟨st, f1⟩ := shut run R
    walk_at "rd"
    refine x_isi dy2.ty (kit_str de) ?_
    have sAT : SX [] H (upd A t (.tup [.int (i : Int), y1])) := s1.trans (sA.trans sT)
    cases dy2 with
    | str s =>
      walk_at "rd"
      refine x_meth ?_
      walk_at "rd"
      refine x_me hx2 (work_none (by decide +kernel)) ?_
      walk_at "rd"
      refine ⟨x, hands, a, _, tbl, st, rfl, wa2, f1, fun q B ys hq t1 eq pq sq => ?_⟩
      refine ⟨q, _, rfl, .inl (sqL eq), rfl, flat_strs ys, ?_⟩
      rw [inV_strA]
      by_cases mem : s ∈ ys
      · rw [decide_eq_true mem]
        obtain ⟨b1, lk⟩ := lookA_some (pq.mem_iff.mp mem)
        have g1 : goS tbl (atF tbl a run) s = some b1 := by
          unfold goS
          rw [f1]
          exact lk
        walk_at "rd"
        refine x_false (by rfl) ?_
        walk_at "rd"
        have wa3 := wa2.le t1.le0
        obtain ⟨dx3, d3, nm3, en3, hx3, _⟩ := id wa3.ex
        refine x_meth ?_
        walk_at "rd"
        refine x_me hx3 (work_none (by decide +kernel)) ?_
        walk_at "rd"
        refine ⟨x, hands, a, _, s, b1, tbl, st, rfl, wa3, f1, lk, ?_⟩
        walk_at "rd"
        have eF3 := t1 _ _ List.not_mem_nil (sT _ _ List.not_mem_nil eF)
        refine ⟨.inl ⟨rfl, _, sqL eF3⟩, ?_⟩
        walk_at "rd"
        refine ⟨F, _, _, rfl, rfl, eF3, lt_size (by rw [List.length_map]; unfold trail; rw [upN_len]; omega), ?_⟩
        obtain ⟨p1, p2⟩ := run_more pre hde R g1
        refine ⟨run ++ [s], _, _, p1, p2, by rw [List.length_append, rl]; rfl, sx_nil_of (S := [F]) ((nil_sx ((sA.trans sT).trans t1)).trans (SX.mut List.mem_cons_self)) (by simp [hF]), ?_, by rw [atF_snoc g1]⟩
        rw [upd_same, trail_snoc, atF_snoc g1, List.map_append]
        rfl
      · rw [decide_eq_false mem]
        have g1 : goS tbl (atF tbl a run) s = none := by
          unfold goS
          rw [f1]
          exact lookA_none fun z => mem (pq.mem_iff.mpr z)
        have no := no_run pre hde (fun s' e => by cases e; exact g1)
        walk_at "rd"
        walk_at "if!"
        refine SupX.x_tMkS ?_
        walk_at "rd"
        refine SupX.x_mkS fun d9 nd9 => ?_
        exact ke no d9 _ ((sAT.trans t1).trans (SX.new nd9))
    | non =>
      walk_at "rd"
      refine SupX.x_tMkS ?_
      walk_at "rd"
      refine SupX.x_mkS fun d9 nd9 => ?_
      exact ke (no_run pre hde (fun s' e => nomatch e)) d9 _ (sAT.trans (SX.new nd9))
    | bl b =>
      walk_at "rd"
      refine SupX.x_tMkS ?_
      walk_at "rd"
      refine SupX.x_mkS fun d9 nd9 => ?_
      exact ke (no_run pre hde (fun s' e => nomatch e)) d9 _ (sAT.trans (SX.new nd9))
    | int b =>
      walk_at "rd"
      refine SupX.x_tMkS ?_
      walk_at "rd"
      refine SupX.x_mkS fun d9 nd9 => ?_
      exact ke (no_run pre hde (fun s' e => nomatch e)) d9 _ (sAT.trans (SX.new nd9))
    | lst e1 e2 =>
      walk_at "rd"
      refine SupX.x_tMkS ?_
      walk_at "rd"
      refine SupX.x_mkS fun d9 nd9 => ?_
      exact ke (no_run pre hde (fun s' e => nomatch e)) d9 _ (sAT.trans (SX.new nd9))
    | tup e1 e2 =>
      walk_at "rd"
      refine SupX.x_tMkS ?_
      walk_at "rd"
      refine SupX.x_mkS fun d9 nd9 => ?_
      exact ke (no_run pre hde (fun s' e => nomatch e)) d9 _ (sAT.trans (SX.new nd9))
    | dic e1 e2 =>
      walk_at "rd"
      refine SupX.x_tMkS ?_
      walk_at "rd"
      refine SupX.x_mkS fun d9 nd9 => ?_
      exact ke (no_run pre hde (fun s' e => nomatch e)) d9 _ (sAT.trans (SX.new nd9))
  · rintro σ A ⟨run, c, e, pre, R, rl, sA, eF, rfl⟩
    walk_at "rd"
    have : ds.take us.length = ds := List.take_of_length_le (by rw [hds.len]; exact Nat.le_refl _)
    rw [this] at pre
    exact k run F A ⟨pre, R⟩ hF0 (s1.trans sA) eF
end
/-! ### rings -/
def ringP (tbl : List (Str × Stand)) (a : Str) (d : PyData) : Prop := ∃ x y u v run, d = .tuple [x, y] ∧ rowD x = some u ∧ rowD y = some v ∧ v ≠ [] ∧ RunD tbl a (u ++ v) run ∧ atF tbl a (run.take u.length) = atF tbl a run
def shortP (d : PyData) : Prop := ∀ x y u v, d = .tuple [x, y] → rowD x = some u → rowD y = some v → u.length + v.length ≤ 900
theorem pair_no {d : PyData} (h : ¬ ∃ x y, d = .tuple [x, y]) : pairB d = false := by
  cases d with
  | tuple xs =>
    unfold pairB
    refine decide_eq_false fun e => h ?_
    match xs, e with
    | [x, y], _ => exact ⟨x, y, rfl⟩
  | none => rfl
  | bool _ => rfl
  | int _ => rfl
  | str _ => rfl
  | list _ => rfl
  | dict _ => rfl
theorem _root_.ReR.DpD.row {H : Hp} {v : V} {d : PyData} {u : List PyData} (h : DpD H v d) (e : rowD d = some u) : ∃ b us, v = .ref b ∧ RowAt H b us ∧ DpDs H us u := by
  cases h with
  | lst g q => cases e; exact ⟨_, _, rfl, .inl g, q⟩
  | tup g q => cases e; exact ⟨_, _, rfl, .inr g, q⟩
  | non => cases e
  | bl b => cases e
  | int b => cases e
  | str b => cases e
  | dic g q => cases e
theorem _root_.ReR.DpD.two {H : Hp} {v : V} {x y : PyData} (h : DpD H v (.tuple [x, y])) : ∃ a vx vy, v = .ref a ∧ H a = some (.tup [vx, vy]) ∧ DpD H vx x ∧ DpD H vy y := by
  cases h with
  | tup g q =>
    cases q with
    | cons h1 q =>
      cases q with
      | cons h2 q =>
        cases q
        exact ⟨_, _, _, rfl, g, h1, h2⟩
theorem atI_last {xs : List V} {v : V} {n : Nat} (h : xs[n]? = some v) (e : xs.length = n + 1) : atI xs (-1) = some v := by
  unfold atI ixN
  rw [e, if_neg (by decide), if_pos (by omega)]
  have : (-1 + ((n + 1 : Nat) : Int)).toNat = n := by omega
  rw [this]
  exact h
section
variable {K : PySem.W.Frag} {H : Hp} {Q : VK}
theorem x_lenR {a : Addr} {xs : List V} (h : RowAt H a xs) (k : Q (.int xs.length) H) : cLen K [.ref a] H Q := h.elim (fun h => x_lenL' (sqL h) k) fun h => x_lenT' (sqT h) k
theorem x_clistR {a : Addr} {ys : List V} (h : RowAt H a ys) (k : ∀ l, H l = none → Q (.ref l) (upd H l (.lst ys))) : cList K [.ref a] H Q := h.elim (fun h => x_clist (sqL h) k) fun h => x_clistT (sqT h) k
end
section
variable {P : Program} [SupX.PX P] {w : World} {K : PySem.W.Frag} {mg : Str → Option Value} {base : Heap}
theorem x_callS {sp : Sp} {E : L2.St → XK} {t : TA} {σ : L2.St} {H : Hp} {Q : VK} (k : t σ H fun vs H1 => sp vs H1 Q (E σ)) : tCallS sp E t σ H Q := k
def sp_is_ring (T : Tx K mg) : Sp := fun vs H Q _ => ∃ (x : Addr) (hands : Int) (a : Str) (tbl : List (Str × Stand)) (v : V) (d : PyData), vs = [.ref x, v] ∧ WorkAt T H x hands a tbl ∧ DpD H v d ∧ shortP d ∧ ShutAt tbl a ∧ (∀ q ∈ tbl, q.2.size ≤ 4) ∧
  (ringP tbl a d → ∀ H', SX [] H H' → Q (.bl true) H') ∧ (¬ ringP tbl a d → ∀ H', SX [] H H' → Q (.bl false) H')
theorem ok_is_ring (T : Tx K mg) : FnOk P w K mg base CX0 4 T.is_ring.f T.is_ring.fd P_is_ring (sp_is_ring T) := by
  refine T.is_ring.F.ok sc_is_ring (fun vs H Q E h => ?_) (fun cdv A outer s H vs Q E hr h => ?_)
  · obtain ⟨x, hands, a, tbl, v, d, rfl, wa, hd, sh, shut, sz, kt, kf⟩ := h
    rfl
  have hu := hu_of hr
  have nd := sc_is_ring.nd
  obtain ⟨x, hands, a, tbl, v, d, rfl, wa, hd, sh, shut, sz, kt, kf⟩ := h
  refine ⟨_, (pss_cons (ps_if (PW.pt (pw_or (pt_not (pt_val (pe_call (ok_is_pair2 (P := P) T) (hr.mono (by decide)) (by rfl) T.is_pair.g T.is_pair.F.kp T.is_pair.B .nil pass0 (pa_cons (pv 1) pa_nil)))) (pw_or (pt_not (pt_val (pe_call (ok_is_row (P := P) T) (hr.mono (by decide)) (by rfl) T.is_row.g T.is_row.F.kp T.is_row.B .nil pass0 (pa_cons (pe_ix (w_ixT (K := K) rfl) (pv 1) pe_int (fun _ _ => rfl)) pa_nil)))) (pw_or1 (pt_not (pt_val (pe_call (ok_is_row (P := P) T) (hr.mono (by decide)) (by rfl) T.is_row.g T.is_row.F.kp T.is_row.B .nil pass0 (pa_cons (pe_ix (w_ixT (K := K) rfl) (pv 1) pe_int (fun _ _ => rfl)) pa_nil)))))))) (pss_one (ps_ret pe_bl)) pss_nil)
      (pss_cons (ps_if (pt_cmpR op_eq (pe_callB (w_len (K := K) rfl) (by rfl) T.b_len (by decide +kernel) (pa_cons (pe_ix (w_ixT (K := K) rfl) (pv 1) pe_int (fun _ _ => rfl)) pa_nil)) pe_int (nomark _)) (pss_one (ps_ret pe_bl)) pss_nil)
      (pss_cons (ps_try_mix rfl rfl nd takes0 (fun W pn xe tk0 po0 => (pss_one (ps_set (i := 2) nd rfl (Or.inl rfl) (pe_callS (ok_passed (P := P) T) (hr.mono (by decide)) (by rfl) T.passed.g T.passed.F.kp T.passed.B (fun τ => passAt tk0 τ) (pa_cons (pv 0) (pa_cons (pe_op op_cat (pe_callTy (w_list (K := K) rfl) (by rfl) T.b_list (by decide +kernel) (pa_cons (pe_ix (w_ixT (K := K) rfl) (pv 1) pe_int (fun _ _ => rfl)) pa_nil)) (pe_callTy (w_list (K := K) rfl) (by rfl) T.b_list (by decide +kernel) (pa_cons (pe_ix (w_ixT (K := K) rfl) (pv 1) pe_int (fun _ _ => rfl)) pa_nil))) pa_nil))))))
      (.cons (m := ⟨.ref T.c_BadRun, none, _⟩) ⟨by rfl, by decide, .inl T.g_BadRun⟩ True.intro (fun a ob cv dv pn hz hf => (pss_one (ps_ret pe_bl))) .nil))
      (pss_one (ps_ret (pe_cmpR op_eq (pe_ix (w_ixL (K := K) rfl) (pv 2) (pe_un un_neg pe_int) (fun _ _ => rfl)) (pe_ix (w_ixL (K := K) rfl) (pv 2) (pe_callB (w_len (K := K) rfl) (by rfl) T.b_len (by decide +kernel) (pa_cons (pe_ix (w_ixT (K := K) rfl) (pv 1) pe_int (fun _ _ => rfl)) pa_nil)) (fun _ _ => rfl)) (nomark _))))))), ?_⟩
  refine x_start (σ' := [some _, some _, none]) rfl ?_
  try simp only [cx_n, cx_K, cx_w, cx_P]
  walk_at "rd"
  refine ⟨v, d, rfl, hd, ?_⟩
  by_cases pr : ∃ dx dy, d = .tuple [dx, dy]
  rotate_left
  · rw [pair_no pr]
    walk_at "rd"
    exact kf (fun ⟨dx, dy, _, _, _, e, _⟩ => pr ⟨dx, dy, e⟩) _ (SX.refl _)
  obtain ⟨dx, dy, rfl⟩ := pr
  obtain ⟨t, vx, vy, rfl, et, hx, hy⟩ := hd.two
  rw [show pairB (.tuple [dx, dy]) = true from rfl]
  walk_at "rd"
  refine x_ixT (sqT et) (atI_nat (j := 0) rfl) ?_
  walk_at "rd"
  refine ⟨vx, dx, rfl, hx, fun H1 s1 => ?_⟩
  cases ex : rowD dx with
  | none =>
    rw [show (none : Option (List PyData)).isSome = false from rfl]
    walk_at "rd"
    exact kf (fun ⟨dx', dy', u, v, run, e, e1, _⟩ => by cases e; rw [ex] at e1; cases e1) _ s1
  | some u =>
  rw [show (some u).isSome = true from rfl]
  walk_at "rd"
  refine x_ixT (sqT (s1 _ _ List.not_mem_nil et)) (atI_nat (j := 1) rfl) ?_
  walk_at "rd"
  refine ⟨vy, dy, rfl, hy.nil s1, fun H2 s2 => ?_⟩
  cases ey : rowD dy with
  | none =>
    rw [show (none : Option (List PyData)).isSome = false from rfl]
    walk_at "rd"
    exact kf (fun ⟨dx', dy', u, v, run, e, _, e1, _⟩ => by cases e; rw [ey] at e1; cases e1) _ (s1.trans s2)
  | some v =>
  rw [show (some v).isSome = true from rfl]
  walk_at "rd"
  have s12 := s1.trans s2
  obtain ⟨bx, us, rfl, rx, dux⟩ := (hx.nil s12).row ex
  obtain ⟨by_, ws, rfl, ry, dvy⟩ := (hy.nil s12).row ey
  have et2 := s12 _ _ List.not_mem_nil et
  refine x_ixT (sqT et2) (atI_nat (j := 1) rfl) ?_
  walk_at "rd"
  refine x_lenR ry ?_
  walk_at "rd"
  have hl : u.length + v.length ≤ 900 := sh dx dy u v rfl ex ey
  refine x_cases (fun c => ?_) (fun c => ?_)
  · walk_at "rd"
    refine kf (fun ⟨dx', dy', u', v', run, e, _, e1, ne, _⟩ => ?_) _ s12
    cases e
    rw [ey] at e1
    cases e1
    have z : ws.length = 0 := by
      injection (of_decide_eq_true c) with c
      omega
    rw [dvy.len] at z
    exact ne (List.eq_nil_of_length_eq_zero z)
  have vne : v ≠ [] := fun z => by
    have := dvy.len
    rw [z] at this
    rw [this] at c
    exact absurd c (by decide)
  walk_at "rd"
  refine x_callS ?_
  walk_at "rd"
  refine x_ixT (sqT et2) (atI_nat (j := 0) rfl) ?_
  walk_at "rd"
  refine x_clistR rx fun l1 n1 => ?_
  have s3 : SX [] H2 (upd H2 l1 (.lst us)) := SX.new n1
  walk_at "rd"
  refine x_ixT (sqT (s3 _ _ List.not_mem_nil et2)) (atI_nat (j := 1) rfl) ?_
  walk_at "rd"
  refine x_clistR (ry.sx s3 List.not_mem_nil) fun l2 n2 => ?_
  have s4 : SX [] (upd H2 l1 (.lst us)) (upd (upd H2 l1 (.lst us)) l2 (.lst ws)) := SX.new n2
  have e1 := s4 _ _ List.not_mem_nil (upd_same (H := H2) (a := l1) (o := .lst us))
  refine ⟨l1, l2, us, ws, rfl, rfl, e1, upd_same, by have := dux.len; have := dvy.len; exact Nat.le_trans (by omega) (by decide : 1000 ≤ sizeLine), fun l3 n3 => ?_⟩
  have s5 : SX [] (upd (upd H2 l1 (.lst us)) l2 (.lst ws)) (upd (upd (upd H2 l1 (.lst us)) l2 (.lst ws)) l3 (.lst (us ++ ws))) := SX.new n3
  have e3 : (upd (upd (upd H2 l1 (.lst us)) l2 (.lst ws)) l3 (.lst (us ++ ws))) l3 = some (.lst (us ++ ws)) := upd_same
  have s25 := s3.trans (s4.trans s5)
  generalize upd (upd (upd H2 l1 (.lst us)) l2 (.lst ws)) l3 (.lst (us ++ ws)) = H3 at s25 e3
  have s03 := s12.trans s25
  walk_at "rd"
  refine ⟨x, l3, hands, a, us ++ ws, u ++ v, tbl, rfl, wa.le s03.le0, e3, (dux.nil_ s25).app (dvy.nil_ s25), by rw [List.length_append, dux.len, dvy.len]; omega, shut, sz, fun run q H4 R nq s6 eq => ?_, fun no d9 H4 s6 => ?_⟩
  · walk_at "rd"
    have rl : run.length = u.length + v.length := by rw [R.len, List.length_append]
    have tl : ((trail tbl a run).map V.str)[run.length]? = some (.str (atF tbl a run)) := by
      rw [List.getElem?_map]
      unfold trail
      rw [upN_at (by omega), List.take_length]
      rfl
    have tu : ((trail tbl a run).map V.str)[u.length]? = some (.str (atF tbl a (run.take u.length))) := by
      rw [List.getElem?_map]
      unfold trail
      rw [upN_at (by omega)]
      rfl
    refine x_ixL (sqL eq) (atI_last tl (by rw [List.length_map]; exact upN_len _ _)) ?_
    walk_at "rd"
    refine x_ixT (sqT ((s25.trans s6) _ _ List.not_mem_nil et2)) (atI_nat (j := 0) rfl) ?_
    walk_at "rd"
    refine x_lenR (rx.sx (s25.trans s6) List.not_mem_nil) ?_
    walk_at "rd"
    rw [dux.len]
    refine x_ixL (sqL eq) (atI_nat tu) ?_
    walk_at "rd"
    by_cases same : atF tbl a (run.take u.length) = atF tbl a run
    · rw [same, decide_eq_true rfl]
      exact kt ⟨dx, dy, u, v, run, rfl, ex, ey, vne, R, same⟩ _ (s03.trans s6)
    · rw [decide_eq_false fun z => same (by injection z with z; exact z.symm)]
      refine kf (fun ⟨dx', dy', u', v', run', e, e1, e2, _, R', sm⟩ => ?_) _ (s03.trans s6)
      cases e
      rw [ex] at e1
      rw [ey] at e2
      cases e1
      cases e2
      rw [R'.uniq R] at sm
      exact same sm
  · refine x_tryMix (c := Value.none) T.xp_BadRun_BadRun fun a9 na9 => ?_
    walk_at "rd"
    refine kf (fun ⟨dx', dy', u', v', run', e, e1, e2, _, R', sm⟩ => ?_) _ (s03.trans s6)
    cases e
    rw [ex] at e1
    rw [ey] at e2
    cases e1
    cases e2
    exact no _ R'
end
end M

namespace M
open PySem PySem.Spec PyProof.Rows L2 ReR
theorem le_into {A B : Hp} {S : List Addr} (e : Le A B) (h : ∀ b ∈ S, A b = none) : Le A (hid S B) := by
  have n1 : ∀ {b : Addr}, A b ≠ none → b ∉ S := fun q m => q (h _ m)
  refine ⟨fun x u p q => ?_, fun x C dx fs q => ?_, fun x xs q => ?_⟩
  · have n := n1 (rd_there q)
    have := e.rd x u p q
    unfold Rd
    rw [hid_of n]
    exact this
  · rw [hid_of (n1 (by rw [q]; exact fun z => nomatch z))]
    exact e.ins _ _ _ _ q
  · rw [hid_of (n1 (by rw [q]; exact fun z => nomatch z))]
    exact e.tup _ _ q
/-- where the step leads, as a value -/
def thV (l : List (Str × Str)) : PyData → V
  | .str s => match lookA l s with
    | some b => .str b
    | none => .non
  | _ => .non
theorem lookA_snoc {l : List (Str × Str)} {z : Str × Str} {s : Str} : lookA (l ++ [z]) s = match lookA l s with
    | some b => some b
    | none => if z.1 = s then some z.2 else none := by
  induction l with
  | nil => rfl
  | cons q r ih =>
    show lookA (q :: (r ++ [z])) s = _
    unfold lookA
    by_cases e : q.1 = s
    · rw [if_pos e, if_pos e]
    · rw [if_neg e, if_neg e]
      exact ih
theorem thV_hit {l : List (Str × Str)} {z : Str × Str} (h : z.1 ∉ l.map (·.1)) : thV (l ++ [z]) (.str z.1) = .str z.2 := by
  show (match lookA (l ++ [z]) z.1 with
    | some b => V.str b
    | none => V.non) = _
  rw [lookA_snoc, lookA_none h]
  simp
theorem thV_miss {l : List (Str × Str)} {z : Str × Str} {d : PyData} (h : d ≠ .str z.1) : thV (l ++ [z]) d = thV l d := by
  cases d with
  | str s =>
    have n : z.1 ≠ s := fun e => h (by rw [e])
    show (match lookA (l ++ [z]) s with
      | some b => V.str b
      | none => V.non) = match lookA l s with
      | some b => V.str b
      | none => V.non
    rw [lookA_snoc]
    cases lookA l s with
    | some b => rfl
    | none => rw [if_neg n]
  | none => rfl
  | bool _ => rfl
  | int _ => rfl
  | list _ => rfl
  | tuple _ => rfl
  | dict _ => rfl
theorem take_out {l : List (Str × Str)} {j : Nat} {z : Str × Str} (nd : (l.map (·.1)).Nodup) (h : l[j]? = some z) : z.1 ∉ (l.take j).map (·.1) := fun m => by
  obtain ⟨i, hi⟩ := List.getElem?_of_mem m
  rw [List.getElem?_map] at hi
  cases e : (l.take j)[i]? with
  | none => rw [e] at hi; cases hi
  | some y =>
    rw [e] at hi
    have hy : y.1 = z.1 := Option.some.inj hi
    have li : i < j := by
      have := getLt e
      rw [List.length_take] at this
      omega
    rw [List.getElem?_take_of_lt li] at e
    have a1 : (l.map (·.1))[i]? = some z.1 := by rw [List.getElem?_map, e]; exact congrArg some hy
    have a2 : (l.map (·.1))[j]? = some z.1 := by rw [List.getElem?_map, h]; rfl
    have i1 := getLt a1
    have := (List.getElem?_inj i1 nd).mp (a1.trans a2.symm)
    omega
theorem strs_back {A : Hp} : ∀ {l : List Str} {xs : List V}, DpDs A xs (l.map PyData.str) → xs = l.map V.str
  | [], _, h => by cases h; rfl
  | s :: l, _, h => by
    cases h with
    | cons h1 h2 =>
      cases h1
      rw [strs_back h2]
      rfl
theorem _root_.ReR.DpDs.cut {A : Hp} {xs : List V} {ds : List PyData} (h : DpDs A xs ds) (a b : Option Int) : ∃ es, DpDs A (cutV xs a b) es ∧ ∀ e ∈ es, e ∈ ds :=
  ⟨_, (h.drop _).take _, fun e m => List.mem_of_mem_drop (List.mem_of_mem_take m)⟩
theorem cut_strs (l : List Str) (a b : Option Int) : ∃ m : List Str, cutV (l.map V.str) a b = m.map V.str ∧ (∀ s ∈ m, s ∈ l) ∧ m.length ≤ l.length := by
  refine ⟨(l.drop (HT.sIx (l.map V.str).length 0 a)).take (HT.sIx (l.map V.str).length (l.map V.str).length b - HT.sIx (l.map V.str).length 0 a), ?_, fun e m => List.mem_of_mem_drop (List.mem_of_mem_take m), ?_⟩
  · unfold cutV
    rw [List.map_take, List.map_drop]
  · rw [List.length_take, List.length_drop]
    omega
section
variable {P : Program} [SupX.PX P] {w : World} {K : PySem.W.Frag} {mg : Str → Option Value} {base : Heap}
def sp_law_bad_step (T : Tx K mg) : Sp := fun vs H Q _ => ∃ (d r : Addr) (a : Str) (us : List V) (ds : List PyData) (sts : List (Str × Stand)), vs = [.ref d, .str a, .ref r] ∧ rD (rStand K) H (.ref d) sts ∧ Closed sts ∧ a ∈ sts.map (·.1) ∧ H r = some (.lst us) ∧ DpDs H us ds ∧ us.length ≤ 1000 ∧
  ((∃ run, RunD sts a ds run) → ∀ H', SX [] H H' → Q .non H') ∧ ((∀ run, ¬ RunD sts a ds run) → ∀ (i : Int) H', SX [] H H' → Q (.int i) H')
theorem ok_law_bad_step (T : Tx K mg) : FnOk P w K mg base CX0 2 T.law_bad_step.f T.law_bad_step.fd P_law_bad_step (sp_law_bad_step T) := by
  refine T.law_bad_step.F.ok sc_law_bad_step (fun vs H Q E h => ?_) (fun cdv A outer s H vs Q E hr h => ?_)
  · obtain ⟨d, r, a, us, ds, sts, rfl, hd, C, ha, er, hds, hl, kt, kf⟩ := h
    rfl
  have hu := hu_of hr
  have nd := sc_law_bad_step.nd
  obtain ⟨d, r, a, us, ds, sts, rfl, hd, C, ha, er, hds, hl, kt, kf⟩ := h
  refine ⟨_, (pss_cons (ps_set (i := 3) nd rfl (Or.inl rfl) (pv 1))
      (pss_cons (ps_for PassesOwn.never rfl (pi_range1 (by rfl) T.b_range (pa_cons (pe_callB (w_len (K := K) rfl) (by rfl) T.b_len (by decide +kernel) (pa_cons (pv 2) pa_nil)) pa_nil)) (pg_name (i := 4) nd rfl (Or.inl rfl)) (pss_cons (ps_set (i := 5) nd rfl (Or.inl rfl) pe_non)
      (pss_cons (ps_for PassesOwn.never rfl (w_pilist (K := K) rfl (pe_call (ok_law_steps (P := P) T) (hr.mono (by decide)) (by rfl) T.law_steps.g T.law_steps.F.kp T.law_steps.B .nil pass0 (pa_cons (pv 0) (pa_cons (pv 3) pa_nil)))) (w_pgtup (K := K) (n := 2) rfl (by rfl) (pgs_cons (pg_name (i := 6) nd rfl (Or.inl rfl)) (pgs_cons (pg_name (i := 7) nd rfl (Or.inl rfl)) pgs_nil)) (by rfl) (by rfl)) (pss_one (ps_if (PW.pt (pw_and (pt_val (pe_callB (w_isi (K := K) rfl) (by rfl) T.b_isinstance (by decide +kernel) (pa_cons (pe_ix (w_ixL (K := K) rfl) (pv 2) (pv 4) (fun _ _ => rfl)) (pa_cons (pe_bltn (v := .ty "str") (by rfl) T.b_str (by decide +kernel) rfl) pa_nil)))) (pw_and1 (pt_cmpR op_eq (pe_ix (w_ixL (K := K) rfl) (pv 2) (pv 4) (fun _ _ => rfl)) (pv 6) (nomark _))))) (pss_one (ps_set (i := 5) nd rfl (Or.inl rfl) (pv 7))) pss_nil)))
      (pss_cons (ps_if (pt_cmpR op_isNo (pv 5) pe_non (nomark _)) (pss_one (ps_ret (pv 4))) pss_nil)
      (pss_one (ps_set (i := 3) nd rfl (Or.inl rfl) (pv 5)))))))
      (pss_one (ps_ret pe_non)))), ?_⟩
  refine x_start (σ' := [some _, some _, some _, none, none, none, none, none]) rfl ?_
  try simp only [cx_n, cx_K, cx_w, cx_P]
  walk_at "rd"
  refine x_lenL' (sqL er) ?_
  refine x_rng1 (by omega) (by omega) ?_
  have cl : ∀ q ∈ sts, ∀ t ∈ q.2.tos, t ∈ sts.map (·.1) := fun q hq => (C.all q hq).2.2
  refine for_it walk_rng (fun i σ A => ∃ (run : List Str) (b c e f : Option V), ds.take i = run.map .str ∧ RunOk sts a run ∧ SX [] H A ∧
      σ = [some (.ref d), some (.str a), some (.ref r), some (.str (atF sts a run)), b, c, e, f])
    ⟨[], none, none, none, none, rfl, (fun _ _ h => nomatch h), SX.refl _, rfl⟩ (fun _ _ _ _ _ => trivial) ?_ ?_
  · rintro i x σ A0 A hi ⟨run, b, c, e, f, pre, R, sA, rfl⟩ ⟨rfl, rfl⟩
    walk_at "rd"
    have key : atF sts a run ∈ sts.map (·.1) := by
      have := at_key cl ha R run.length (Nat.le_refl _)
      rwa [List.take_length] at this
    obtain ⟨st, e1, f2, f3, f4, f5⟩ := C.look key
    have rdA : rD (rStand K) A (.ref d) sts := mono_D (mono_stand K) _ _ _ _ sA.le0 hd
    obtain ⟨y, hy⟩ : ∃ y, us[i]? = some y := ⟨us[i]'(by omega), by simp⟩
    obtain ⟨de, hde, dy⟩ := hds.at_ hy
    refine ⟨d, _, sts, st, rfl, rdA, e1, f2, by omega, fun q B xs l hq t1 eq pq sr => ?_⟩
    have sB := sA.trans t1
    have ndl : (l.map (·.1)).Nodup := (sr.perm.map _).nodup_iff.mpr (rows_nodup f2)
    refine x_itl (sqL eq) ?_
    refine for_it (walk_listR (R := rP K rS rS) (Hb := B) pq) (fun j σ D => ∃ (c e : Option V), SX [] B D ∧ σ = [some (.ref d), some (.str a), some (.ref r), some (.str (atF sts a run)), some (.int (i : Int)), some (thV (l.take j) de), c, e])
      ⟨_, _, SX.refl _, by cases de <;> rfl⟩ (fun j σ D _ h => by obtain ⟨_, _, s, _⟩ := h; exact sqL (s _ _ List.not_mem_nil eq)) ?_ ?_
    · rintro j x σ B0 D hj ⟨c, e, sD, rfl⟩ ⟨rfl, z, hz, t, z1, z2, rfl, ht, rfl, rfl⟩
      refine x_gtup (sD.le0.t ht) rfl ?_
      walk_at "rd"
      have sHD := sB.trans sD
      refine x_ixL (sqL (sHD _ _ List.not_mem_nil er)) (atI_nat hy) ?_
      walk_at "rd"
      refine x_isi (dy.nil sHD).ty (kit_str de) ?_
      have out := take_out ndl hz
      have stp := take_succ_of hz
      cases dy with
      | str s =>
        walk_at "rd"
        refine x_ixL (sqL (sHD _ _ List.not_mem_nil er)) (atI_nat hy) ?_
        walk_at "rd"
        refine x_cases (fun h => ?_) (fun h => ?_)
        · have es : s = z.1 := by
            have := of_decide_eq_true h
            injection this
          subst es
          walk_at "rd"
          exact ⟨_, _, sD, by rw [stp, thV_hit out]⟩
        · have es : PyData.str s ≠ .str z.1 := fun e => by
            injection e with e
            rw [e] at h
            simp at h
          walk_at "rd"
          exact ⟨_, _, sD, by rw [stp, thV_miss es]⟩
      | non => walk_at "rd"; exact ⟨_, _, sD, by rw [stp, thV_miss (by intro q; cases q)]⟩
      | bl b => walk_at "rd"; exact ⟨_, _, sD, by rw [stp, thV_miss (by intro q; cases q)]⟩
      | int b => walk_at "rd"; exact ⟨_, _, sD, by rw [stp, thV_miss (by intro q; cases q)]⟩
      | lst g1 g2 => walk_at "rd"; exact ⟨_, _, sD, by rw [stp, thV_miss (by intro q; cases q)]⟩
      | tup g1 g2 => walk_at "rd"; exact ⟨_, _, sD, by rw [stp, thV_miss (by intro q; cases q)]⟩
      | dic g1 g2 => walk_at "rd"; exact ⟨_, _, sD, by rw [stp, thV_miss (by intro q; cases q)]⟩
    · rintro σ D ⟨c, e, sD, rfl⟩
      rw [List.take_length]
      walk_at "rd"
      have sHD := sB.trans sD
      have go : ∀ s, goS sts (atF sts a run) s = lookA l s := fun s => by
        unfold goS
        rw [e1]
        exact (perm_look (rows_nodup f2) sr.perm s).symm
      have bad : (∀ s, de = .str s → lookA l s = none) → ∀ H', SX [] D H' → Q (.int (i : Int)) H' := fun h H' s9 => kf (no_run pre hde fun s e => by rw [go]; exact h s e) _ _ (sHD.trans s9)
      have fin : ∀ (h : ∀ s, de = .str s → lookA l s = none), thV l de = .non := fun h => by
        cases de with
        | str s =>
          show (match lookA l s with
            | some b => V.str b
            | none => V.non) = _
          rw [h s rfl]
        | none => rfl
        | bool _ => rfl
        | int _ => rfl
        | list _ => rfl
        | tuple _ => rfl
        | dict _ => rfl
      by_cases yes : ∃ s b, de = .str s ∧ lookA l s = some b
      · obtain ⟨s, b, rfl, lk⟩ := yes
        have et : thV l (.str s) = .str b := by
          show (match lookA l s with
            | some b => V.str b
            | none => V.non) = _
          rw [lk]
        rw [et]
        walk_at "rd"
        refine x_false (by rfl) ?_
        walk_at "rd"
        obtain ⟨p1, p2⟩ := run_more pre hde R ((go s).trans lk)
        exact ⟨run ++ [s], _, _, _, _, p1, p2, sHD, by rw [atF_snoc ((go s).trans lk)]⟩
      · have h9 : ∀ s, de = .str s → lookA l s = none := fun s e => by
          cases lk : lookA l s with
          | none => rfl
          | some b => exact (yes ⟨s, b, e, lk⟩).elim
        rw [fin h9]
        walk_at "rd"
        walk_at "if!"
        walk_at "rd"
        exact bad h9 _ (SX.refl _)
  · rintro σ A ⟨run, b, c, e, f, pre, R, sA, rfl⟩
    walk_at "rd"
    have e9 : ds = run.map .str := by
      rw [← pre]
      exact (List.take_of_length_le (by simp [hds.len])).symm
    exact kt ⟨run, e9, R⟩ _ sA
def sp_law_is_ring (T : Tx K mg) : Sp := fun vs H Q _ => ∃ (t : Addr) (a : Str) (sts : List (Str × Stand)) (v : V) (d : PyData), vs = [.ref t, .str a, v] ∧ rD (rStand K) H (.ref t) sts ∧ Closed sts ∧ a ∈ sts.map (·.1) ∧ DpD H v d ∧ shortP d ∧
  (ringP sts a d → ∀ H', SX [] H H' → Q (.bl true) H') ∧ (¬ ringP sts a d → ∀ H', SX [] H H' → Q (.bl false) H')
theorem ok_law_is_ring (T : Tx K mg) : FnOk P w K mg base CX0 3 T.law_is_ring.f T.law_is_ring.fd P_law_is_ring (sp_law_is_ring T) := by
  refine T.law_is_ring.F.ok sc_law_is_ring (fun vs H Q E h => ?_) (fun cdv A outer s H vs Q E hr h => ?_)
  · obtain ⟨tb, a, sts, v, d, rfl, htb, C, ha, hd, sh, kt, kf⟩ := h
    rfl
  have hu := hu_of hr
  have nd := sc_law_is_ring.nd
  obtain ⟨tb, a, sts, v, d, rfl, htb, C, ha, hd, sh, kt, kf⟩ := h
  refine ⟨_, (pss_cons (ps_if (PW.pt (pw_or (pt_not (pt_val (pe_callB (w_isi (K := K) rfl) (by rfl) T.b_isinstance (by decide +kernel) (pa_cons (pv 2) (pa_cons (pe_bltn (v := .ty "tuple") (by rfl) T.b_tuple (by decide +kernel) rfl) pa_nil))))) (pw_or1 (pt_cmpR op_ne (pe_callB (w_len (K := K) rfl) (by rfl) T.b_len (by decide +kernel) (pa_cons (pv 2) pa_nil)) pe_int (nomark _))))) (pss_one (ps_ret pe_bl)) pss_nil)
      (pss_cons (ps_if (PW.pt (pw_or (pt_not (pt_val (pe_callB (w_isiT (K := K) rfl) (by rfl) T.b_isinstance (by decide +kernel) (pa_cons (pe_ix (w_ixT (K := K) rfl) (pv 2) pe_int (fun _ _ => rfl)) (pa_cons (pe_tup (pa_cons (pe_bltn (v := .ty "list") (by rfl) T.b_list (by decide +kernel) rfl) (pa_cons (pe_bltn (v := .ty "tuple") (by rfl) T.b_tuple (by decide +kernel) rfl) pa_nil))) pa_nil))))) (pw_or (pt_not (pt_val (pe_callB (w_isiT (K := K) rfl) (by rfl) T.b_isinstance (by decide +kernel) (pa_cons (pe_ix (w_ixT (K := K) rfl) (pv 2) pe_int (fun _ _ => rfl)) (pa_cons (pe_tup (pa_cons (pe_bltn (v := .ty "list") (by rfl) T.b_list (by decide +kernel) rfl) (pa_cons (pe_bltn (v := .ty "tuple") (by rfl) T.b_tuple (by decide +kernel) rfl) pa_nil))) pa_nil))))) (pw_or1 (pt_cmpR op_eq (pe_callB (w_len (K := K) rfl) (by rfl) T.b_len (by decide +kernel) (pa_cons (pe_ix (w_ixT (K := K) rfl) (pv 2) pe_int (fun _ _ => rfl)) pa_nil)) pe_int (nomark _)))))) (pss_one (ps_ret pe_bl)) pss_nil)
      (pss_cons (ps_set (i := 3) nd rfl (Or.inl rfl) (pe_op op_cat (pe_callTy (w_list (K := K) rfl) (by rfl) T.b_list (by decide +kernel) (pa_cons (pe_ix (w_ixT (K := K) rfl) (pv 2) pe_int (fun _ _ => rfl)) pa_nil)) (pe_callTy (w_list (K := K) rfl) (by rfl) T.b_list (by decide +kernel) (pa_cons (pe_ix (w_ixT (K := K) rfl) (pv 2) pe_int (fun _ _ => rfl)) pa_nil))))
      (pss_cons (ps_if (pt_cmpR op_notNo (pe_call (ok_law_bad_step (P := P) T) (hr.mono (by decide)) (by rfl) T.law_bad_step.g T.law_bad_step.F.kp T.law_bad_step.B .nil pass0 (pa_cons (pv 0) (pa_cons (pv 1) (pa_cons (pv 3) pa_nil)))) pe_non (nomark _)) (pss_one (ps_ret pe_bl)) pss_nil)
      (pss_cons (ps_set (i := 4) nd rfl (Or.inl rfl) (pe_call (ok_law_passed (P := P) T) (hr.mono (by decide)) (by rfl) T.law_passed.g T.law_passed.F.kp T.law_passed.B .nil pass0 (pa_cons (pv 0) (pa_cons (pv 1) (pa_cons (pv 3) pa_nil)))))
      (pss_one (ps_ret (pe_cmpR op_eq (pe_ix (w_ixL (K := K) rfl) (pv 4) (pe_callB (w_len (K := K) rfl) (by rfl) T.b_len (by decide +kernel) (pa_cons (pe_ix (w_ixT (K := K) rfl) (pv 2) pe_int (fun _ _ => rfl)) pa_nil)) (fun _ _ => rfl)) (pe_ix (w_ixL (K := K) rfl) (pv 4) (pe_callB (w_len (K := K) rfl) (by rfl) T.b_len (by decide +kernel) (pa_cons (pv 3) pa_nil)) (fun _ _ => rfl)) (nomark _))))))))), ?_⟩
  refine x_start (σ' := [some _, some _, some _, none, none]) rfl ?_
  try simp only [cx_n, cx_K, cx_w, cx_P]
  walk_at "rd"
  refine x_isi hd.ty (kit_tup d) ?_
  by_cases pr : ∃ dx dy, d = .tuple [dx, dy]
  rotate_left
  · have no := kf fun ⟨dx, dy, _, _, _, e, _⟩ => pr ⟨dx, dy, e⟩
    have np := pair_no pr
    cases hd with
    | tup e h =>
      walk_at "rd"
      refine x_lenT' (sqT e) ?_
      walk_at "rd"
      rw [h.len]
      rename_i ds
      have ne : ds.length ≠ 2 := of_decide_eq_false np
      refine x_cases (fun c => ?_) (fun c => ?_)
      · walk_at "rd"
        exact no _ (SX.refl _)
      · refine absurd c ?_
        rw [decide_eq_false fun z => ne (by injection z with z; omega)]
        decide
    | non => walk_at "rd"; exact no _ (SX.refl _)
    | bl b => walk_at "rd"; exact no _ (SX.refl _)
    | int b => walk_at "rd"; exact no _ (SX.refl _)
    | str b => walk_at "rd"; exact no _ (SX.refl _)
    | lst e h => walk_at "rd"; exact no _ (SX.refl _)
    | dic e h => walk_at "rd"; exact no _ (SX.refl _)
  obtain ⟨dx, dy, rfl⟩ := pr
  obtain ⟨t, vx, vy, rfl, et, hx, hy⟩ := hd.two
  walk_at "rd"
  refine x_lenT' (sqT et) ?_
  walk_at "rd"
  walk_at "if!"
  walk_at "rd"
  refine x_ixT (sqT et) (atI_nat (j := 0) rfl) ?_
  walk_at "rd"
  refine ⟨Nat.le_of_ble_eq_true rfl, fun t1 n1 => ?_⟩
  have s1 : SX [] H (upd H t1 (.tup [.ty "list", .ty "tuple"])) := SX.new n1
  walk_at "rd"
  refine x_isi2D (hx.nil s1) upd_same ?_
  generalize upd H t1 (.tup [.ty "list", .ty "tuple"]) = H1 at s1
  cases ex : rowD dx with
  | none =>
    rw [show (none : Option (List PyData)).isSome = false from rfl]
    walk_at "rd"
    exact kf (fun ⟨dx', dy', u, v, run, e, e1, _⟩ => by cases e; rw [ex] at e1; cases e1) _ s1
  | some u =>
  rw [show (some u).isSome = true from rfl]
  walk_at "rd"
  refine x_ixT (sqT (s1 _ _ List.not_mem_nil et)) (atI_nat (j := 1) rfl) ?_
  walk_at "rd"
  refine ⟨Nat.le_of_ble_eq_true rfl, fun t2 n2 => ?_⟩
  have s2 : SX [] H1 (upd H1 t2 (.tup [.ty "list", .ty "tuple"])) := SX.new n2
  walk_at "rd"
  refine x_isi2D (hy.nil (s1.trans s2)) upd_same ?_
  generalize upd H1 t2 (.tup [.ty "list", .ty "tuple"]) = H2 at s2
  cases ey : rowD dy with
  | none =>
    rw [show (none : Option (List PyData)).isSome = false from rfl]
    walk_at "rd"
    exact kf (fun ⟨dx', dy', u, v, run, e, _, e1, _⟩ => by cases e; rw [ey] at e1; cases e1) _ (s1.trans s2)
  | some v =>
  rw [show (some v).isSome = true from rfl]
  walk_at "rd"
  have s12 := s1.trans s2
  obtain ⟨bx, us, rfl, rx, dux⟩ := (hx.nil s12).row ex
  obtain ⟨by_, ws, rfl, ry, dvy⟩ := (hy.nil s12).row ey
  have et2 := s12 _ _ List.not_mem_nil et
  refine x_ixT (sqT et2) (atI_nat (j := 1) rfl) ?_
  walk_at "rd"
  refine x_lenR ry ?_
  walk_at "rd"
  have hl : u.length + v.length ≤ 900 := sh dx dy u v rfl ex ey
  refine x_cases (fun c => ?_) (fun c => ?_)
  · walk_at "rd"
    refine kf (fun ⟨dx', dy', u', v', run, e, _, e1, ne, _⟩ => ?_) _ s12
    cases e
    rw [ey] at e1
    cases e1
    have z : ws.length = 0 := by
      injection (of_decide_eq_true c) with c
      omega
    rw [dvy.len] at z
    exact ne (List.eq_nil_of_length_eq_zero z)
  have vne : v ≠ [] := fun z => by
    have := dvy.len
    rw [z] at this
    rw [this] at c
    exact absurd c (by decide)
  walk_at "rd"
  refine x_ixT (sqT et2) (atI_nat (j := 0) rfl) ?_
  walk_at "rd"
  refine x_clistR rx fun l1 n1 => ?_
  have s3 : SX [] H2 (upd H2 l1 (.lst us)) := SX.new n1
  walk_at "rd"
  refine x_ixT (sqT (s3 _ _ List.not_mem_nil et2)) (atI_nat (j := 1) rfl) ?_
  walk_at "rd"
  refine x_clistR (ry.sx s3 List.not_mem_nil) fun l2 n2 => ?_
  have s4 : SX [] (upd H2 l1 (.lst us)) (upd (upd H2 l1 (.lst us)) l2 (.lst ws)) := SX.new n2
  have e1 := s4 _ _ List.not_mem_nil (upd_same (H := H2) (a := l1) (o := .lst us))
  refine ⟨l1, l2, us, ws, rfl, rfl, e1, upd_same, by have := dux.len; have := dvy.len; exact Nat.le_trans (by omega) (by decide : 1000 ≤ sizeLine), fun l3 n3 => ?_⟩
  have s5 : SX [] (upd (upd H2 l1 (.lst us)) l2 (.lst ws)) (upd (upd (upd H2 l1 (.lst us)) l2 (.lst ws)) l3 (.lst (us ++ ws))) := SX.new n3
  have e3 : (upd (upd (upd H2 l1 (.lst us)) l2 (.lst ws)) l3 (.lst (us ++ ws))) l3 = some (.lst (us ++ ws)) := upd_same
  have s25 := s3.trans (s4.trans s5)
  generalize upd (upd (upd H2 l1 (.lst us)) l2 (.lst ws)) l3 (.lst (us ++ ws)) = H3 at s25 e3
  have s03 := s12.trans s25
  have dall := (dux.nil_ s25).app (dvy.nil_ s25)
  have lall : (us ++ ws).length ≤ 1000 := by rw [List.length_append, dux.len, dvy.len]; omega
  walk_at "rd"
  refine ⟨tb, l3, a, us ++ ws, u ++ v, sts, rfl, mono_D (mono_stand K) _ _ _ _ s03.le0 htb, C, ha, e3, dall, lall, fun ⟨run, R⟩ H4 s6 => ?_, fun no i9 H4 s6 => ?_⟩
  · walk_at "rd"
    rw [show decide (V.non = V.non) = true from decide_eq_true rfl]
    walk_at "rd"
    have exs : us ++ ws = run.map V.str := by
      rw [R.1] at dall
      exact strs_back dall
    have e4 : H4 l3 = some (.lst (run.map V.str)) := by rw [s6 _ _ List.not_mem_nil e3, exs]
    have rl : run.length = u.length + v.length := by rw [R.len, List.length_append]
    refine ⟨tb, l3, a, run, sts, rfl, mono_D (mono_stand K) _ _ _ _ (s03.trans s6).le0 htb, C, ha, e4, by omega, R.2, fun q H5 nq s7 eq => ?_⟩
    walk_at "rd"
    have tl : ((trail sts a run).map V.str)[run.length]? = some (.str (atF sts a run)) := by
      rw [List.getElem?_map]
      unfold trail
      rw [upN_at (by omega), List.take_length]
      rfl
    have tu : ((trail sts a run).map V.str)[u.length]? = some (.str (atF sts a (run.take u.length))) := by
      rw [List.getElem?_map]
      unfold trail
      rw [upN_at (by omega)]
      rfl
    have s67 := s25.trans (s6.trans s7)
    refine x_ixT (sqT (s67 _ _ List.not_mem_nil et2)) (atI_nat (j := 0) rfl) ?_
    walk_at "rd"
    refine x_lenR (rx.sx s67 List.not_mem_nil) ?_
    walk_at "rd"
    rw [dux.len]
    refine x_ixL (sqL eq) (atI_nat tu) ?_
    walk_at "rd"
    refine x_lenL' (sqL (s7 _ _ List.not_mem_nil e4)) ?_
    walk_at "rd"
    rw [List.length_map]
    refine x_ixL (sqL eq) (atI_nat tl) ?_
    walk_at "rd"
    by_cases same : atF sts a (run.take u.length) = atF sts a run
    · rw [same, decide_eq_true rfl]
      exact kt ⟨dx, dy, u, v, run, rfl, ex, ey, vne, R, same⟩ _ (s03.trans (s6.trans s7))
    · rw [decide_eq_false fun z => same (by injection z with z)]
      refine kf (fun ⟨dx', dy', u', v', run', e, e1, e2, _, R', sm⟩ => ?_) _ (s03.trans (s6.trans s7))
      cases e
      rw [ex] at e1
      rw [ey] at e2
      cases e1
      cases e2
      rw [R'.uniq R] at sm
      exact same sm
  · walk_at "rd"
    rw [show decide (V.int i9 = V.non) = false from decide_eq_false fun z => nomatch z]
    walk_at "rd"
    refine kf (fun ⟨dx', dy', u', v', run', e, e1, e2, _, R', sm⟩ => ?_) _ (s03.trans s6)
    cases e
    rw [ex] at e1
    rw [ey] at e2
    cases e1
    cases e2
    exact no _ R'
def sp_law_all_steps (T : Tx K mg) : Sp := fun vs H Q _ => ∃ (d : Addr) (sts : List (Str × Stand)), vs = [.ref d] ∧ rD (rStand K) H (.ref d) sts ∧ Closed sts ∧ ∀ p H' (zs : List Str), SX [] H H' → H' p = some (.lst (zs.map V.str)) → zs.length ≤ 4000 → (∀ z ∈ zs, ∃ q ∈ sts, z ∈ q.2.rows.map (·.1)) → Q (.ref p) H'
theorem ok_law_all_steps (T : Tx K mg) : FnOk P w K mg base CX0 2 T.law_all_steps.f T.law_all_steps.fd P_law_all_steps (sp_law_all_steps T) := by
  refine T.law_all_steps.F.ok sc_law_all_steps (fun vs H Q E h => ?_) (fun cdv A outer s H vs Q E hr h => ?_)
  · obtain ⟨d, sts, rfl, hd, C, k⟩ := h
    rfl
  have hu := hu_of hr
  have nd := sc_law_all_steps.nd
  obtain ⟨d, sts, rfl, hd, C, k⟩ := h
  refine ⟨_, (pss_cons (ps_set (i := 1) nd rfl (Or.inl rfl) (pe_lst pa_nil))
      (pss_cons (ps_lockR (ps_for PassesOwn.never rfl (pi_keys (pv 0)) (pg_name (i := 2) nd rfl (Or.inl rfl)) (pss_one (ps_for PassesOwn.never rfl (w_pilist (K := K) rfl (pe_call (ok_law_steps (P := P) T) (hr.mono (by decide)) (by rfl) T.law_steps.g T.law_steps.F.kp T.law_steps.B .nil pass0 (pa_cons (pv 0) (pa_cons (pv 2) pa_nil)))) (w_pgtup (K := K) (n := 2) rfl (by rfl) (pgs_cons (pg_name (i := 3) nd rfl (Or.inl rfl)) (pgs_cons (pg_name (i := 4) nd rfl (Or.inl rfl)) pgs_nil)) (by rfl) (by rfl)) (pss_one (ps_if (pt_cmpR (w_nin (K := K) rfl) (pv 3) (pv 1) (by rfl)) (pss_one (ps_expr (pe_bm PySem.F.plainAttrs_list PySem.F.slot_list_append PySem.F.type_list_append mt_append (pv 1) (pa_cons (pv 3) pa_nil)))) pss_nil))))))
      (pss_one (ps_ret (pv 1))))), ?_⟩
  refine x_start (σ' := [some _, none, none, none, none]) rfl ?_
  try simp only [cx_n, cx_K, cx_w, cx_P]
  walk_at "rd"
  refine ⟨Nat.le_of_ble_eq_true rfl, fun p hp => ?_⟩
  have s1 : SX [] H (upd H p (.lst [])) := SX.new hp
  have e1 : (upd H p (.lst [])) p = some (.lst []) := upd_same
  generalize upd H p (.lst []) = H1 at s1 e1
  obtain ⟨d', kvs, ed, hrd, hk⟩ := id hd
  cases ed
  walk_at "rd"
  have npd : p ≠ d := fun z => by
    rcases hrd with h | ⟨o, h⟩
    · rw [← z, hp] at h; cases h
    · rw [← z, hp] at h; cases h
  have hrd1 : Rd H1 d (.dK kvs) := s1.le0.rd _ _ trivial hrd
  refine x_lockR hrd1 fun od HL eL ne => ?_
  have pL : HL p = some (.lst []) := by rw [ne _ npd]; exact e1
  have leH : Le H (hid [p] HL) := le_into (s1.le0.trans (lock_le hrd1 eL ne)) fun b hb => by rw [List.mem_singleton.mp hb]; exact hp
  walk_at "rd"
  refine x_itk eL ?_
  refine for_it (walk_keysR hk) (fun i σ A => SX [p] HL A ∧ ∃ (zs : List Str) (c1 c2 c3 : Option V), A p = some (.lst (zs.map V.str)) ∧ zs.length ≤ 4 * i ∧ (∀ z ∈ zs, ∃ q ∈ sts, z ∈ q.2.rows.map (·.1)) ∧ σ = [some (.ref d), some (.ref p), c1, c2, c3]) ⟨SX.refl _, [], none, none, none, pL, Nat.le_refl _, (fun _ h => nomatch h), rfl⟩ (fun i σ A _ h => h.1 _ _ (by simpa using Ne.symm npd) eL) ?_ ?_
  · rintro i y σ A0 A hi ⟨sA, zs, c1, c2, c3, pA, lA, iA, rfl⟩ ⟨rfl, q, v0, hq, rfl, _⟩
    have leA : Le H A := (leH.trans sA.le).trans le_hid
    have dA := sA _ _ (by simpa using Ne.symm npd) eL
    have rdA : rD (rStand K) A (.ref d) sts := ⟨d, kvs, rfl, .inr ⟨od, dA⟩, KVs.le (mono_stand K) leA hk⟩
    obtain ⟨st, est, g2, g3, g4, g5⟩ := C.look (List.mem_map.mpr ⟨q, getMem hq, rfl⟩)
    walk_at "rd"
    refine ⟨d, q.1, sts, st, rfl, rdA, est, g2, by omega, fun q2 B xs l hq2 sB eB pB srt => ?_⟩
    have pB9 := sB _ _ List.not_mem_nil pA
    have ll : l.length ≤ 4 := by
      have h1 := srt.perm.length_eq
      have h2 : st.rows.length ≤ 4 := by
        have := congrArg List.length (rows_tos st)
        rw [List.length_map] at this
        have h3 : st.tos.length = st.size := tos_len st
        omega
      omega
    have n2 : q2 ≠ p := fun z => by rw [z, pA] at hq2; cases hq2
    refine x_itl (sqL eB) ?_
    refine for_it (walk_listR (R := rP K rS rS) (Hb := B) pB) (fun j σ C => SX [p] B C ∧ ∃ (zs' : List Str) (c1 c2 : Option V), C p = some (.lst (zs'.map V.str)) ∧ zs'.length ≤ zs.length + j ∧ (∀ z ∈ zs', ∃ q ∈ sts, z ∈ q.2.rows.map (·.1)) ∧ σ = [some (.ref d), some (.ref p), some (.str q.1), c1, c2]) ⟨SX.refl _, zs, _, _, pB9, Nat.le_refl _, iA, rfl⟩ (fun j σ C _ h => sqL (h.1 _ _ (by simpa using n2) eB)) ?_ ?_
    · rintro j y σ C0 D hj ⟨sC, zs', c1', c2', pC, lC, iC, rfl⟩ ⟨rfl, r, hr9, t, y1, y2, rfl, ht, rfl, rfl⟩
      refine x_gtup ((sC.le.trans le_hid).t (sqT_hidL pB9 ht)) rfl ?_
      walk_at "rd"
      refine ⟨p, _, rfl, .inl (sqL pC), rfl, flat_strs zs', ?_⟩
      walk_at "rd"
      refine x_cases (fun h => ?_) (fun h => ?_)
      · walk_at "rd"
        refine ⟨.inl ⟨rfl, _, sqL pC⟩, ?_⟩
        walk_at "rd"
        refine ⟨p, _, _, rfl, rfl, pC, lt_size (by rw [List.length_map]; have := C.len; have := getLt hq; omega), ?_⟩
        walk_at "rd"
        exact ⟨sC.trans (SX.mut List.mem_cons_self), zs' ++ [r.1], _, _, by rw [upd_same, List.map_append]; rfl, by rw [List.length_append]; show zs'.length + 1 ≤ _; omega, (fun z hz => (List.mem_append.mp hz).elim (iC z) fun hz => ⟨_, lookA_mem est, by rw [List.mem_singleton.mp hz]; exact List.mem_map.mpr ⟨r, srt.perm.mem_iff.mp (getMem hr9), rfl⟩⟩), rfl⟩
      · walk_at "rd"
        exact ⟨sC, zs', _, _, pC, by omega, iC, rfl⟩
    · rintro σ D ⟨sC, zs', c1', c2', pC, lC, iC, rfl⟩
      exact ⟨sA.trans ((nil_sx sB).trans sC), zs', _, _, _, pC, by omega, iC, rfl⟩
  · rintro σ A ⟨sA, zs, c1, c2, c3, pA, lA, iA, rfl⟩
    refine ⟨sA _ _ (by simpa using Ne.symm npd) eL, ?_⟩
    walk_at "rd"
    have := C.len
    exact k p _ zs (sx_nil_of (S := [p]) ((nil_sx s1).trans (unlock_sx ne sA)) (by simp [hp])) (by rw [put_ne npd]; exact pA) (by omega) iA
end
end M

namespace M
open PySem PySem.Spec PyProof.Rows L2 ReR
theorem itm_strs {l : List Str} (h : ∀ s ∈ l, nameB s = true) : ∀ d ∈ l.map PyData.str, itmOk d = true := fun d hd => by
  obtain ⟨s, hs, rfl⟩ := List.mem_map.mp hd
  exact nameB_itm (h s hs)
theorem asm2 {A : Hp} {run : List Str} {a b c d : Option Int} (ok : ∀ s ∈ run, nameB s = true) : ∃ ds, DpDs A (cutV (run.map V.str) a b ++ cutV (run.map V.str) c d) ds ∧ ∀ e ∈ ds, itmOk e = true := by
  obtain ⟨m1, e1, i1, _⟩ := cut_strs run a b
  obtain ⟨m2, e2, i2, _⟩ := cut_strs run c d
  rw [e1, e2]
  refine ⟨_, (ReR.DpDs.strs m1).app (ReR.DpDs.strs m2), fun e he => ?_⟩
  rcases List.mem_append.mp he with he | he
  · exact itm_strs (fun s hs => ok s (i1 s hs)) e he
  · exact itm_strs (fun s hs => ok s (i2 s hs)) e he
theorem asm3 {A : Hp} {run : List Str} {a b c d : Option Int} {v : V} {dv : PyData} (hv : DpD A v dv) (okv : itmOk dv = true) (ok : ∀ s ∈ run, nameB s = true) : ∃ ds, DpDs A (cutV (run.map V.str) a b ++ [v] ++ cutV (run.map V.str) c d) ds ∧ ∀ e ∈ ds, itmOk e = true := by
  obtain ⟨m1, e1, i1, _⟩ := cut_strs run a b
  obtain ⟨m2, e2, i2, _⟩ := cut_strs run c d
  rw [e1, e2]
  refine ⟨_, ((ReR.DpDs.strs m1).app (.cons hv .nil)).app (ReR.DpDs.strs m2), fun e he => ?_⟩
  rcases List.mem_append.mp he with he | he
  · rcases List.mem_append.mp he with he | he
    · exact itm_strs (fun s hs => ok s (i1 s hs)) e he
    · rw [List.mem_singleton.mp he]
      exact okv
  · exact itm_strs (fun s hs => ok s (i2 s hs)) e he
theorem len2 {run : List Str} {a b c d : Option Int} (h : run.length ≤ 100) : (cutV (run.map V.str) a b ++ cutV (run.map V.str) c d).length ≤ 300 := by
  have h1 := cutV_length (run.map V.str) a b
  have h2 := cutV_length (run.map V.str) c d
  rw [List.length_map] at h1 h2
  rw [List.length_append]
  omega
theorem len3 {run : List Str} {a b c d : Option Int} {v : V} (h : run.length ≤ 100) : (cutV (run.map V.str) a b ++ [v] ++ cutV (run.map V.str) c d).length ≤ 300 := by
  have h1 := cutV_length (run.map V.str) a b
  have h2 := cutV_length (run.map V.str) c d
  rw [List.length_map] at h1 h2
  rw [List.length_append, List.length_append]
  show _ + 1 + _ ≤ 300
  omega
theorem len4 {run : List Str} {a b : Option Int} {v : V} (h : run.length ≤ 100) : (cutV (run.map V.str) a b ++ [v]).length ≤ 300 := by
  have h1 := cutV_length (run.map V.str) a b
  rw [List.length_map] at h1
  rw [List.length_append]
  show _ + 1 ≤ 300
  omega
theorem fit300 {n : Nat} (h : n ≤ 300) : n ≤ sizeLine := Nat.le_trans h (by decide)
theorem cat_len {xs ys : List V} (h : (xs ++ ys).length ≤ 300) : xs.length + ys.length ≤ sizeLine := by
  rw [List.length_append] at h
  exact fit300 h
section
variable {P : Program} [SupX.PX P] {w : World} {K : PySem.W.Frag} {mg : Str → Option Value} {base : Heap}
def sp_law_spoiled_run (T : Tx K mg) : Sp := fun vs H Q _ => ∃ (p r ws : Addr) (run words : List Str), vs = [.ref p, .ref r, .ref ws] ∧ Pool H p ∧ r ≠ p ∧ ws ≠ p ∧ H r = some (.lst (run.map V.str)) ∧ H ws = some (.lst (words.map V.str)) ∧ run.length ≤ 100 ∧ words.length ≤ 5000 ∧
  (∀ s ∈ run, nameB s = true) ∧ (∀ s ∈ words, nameB s = true) ∧
  ∀ q xs ds H', SX [p] H H' → Pool H' p → q ≠ p → H' q = some (.lst xs) → DpDs (hid [p] H') xs ds → (∀ d ∈ ds, itmOk d = true) → xs.length ≤ 300 → Q (.ref q) H'
theorem ok_law_spoiled_run (T : Tx K mg) : FnOk P w K mg base CX0 3 T.law_spoiled_run.f T.law_spoiled_run.fd P_law_spoiled_run (sp_law_spoiled_run T) := by
  refine T.law_spoiled_run.F.ok sc_law_spoiled_run (fun vs H Q E h => ?_) (fun cdv A outer s H vs Q E hr h => ?_)
  · obtain ⟨p, r, ws, run, words, rfl, hp, nrp, nwp, er, ew, lr, lw, okr, okw, k⟩ := h
    rfl
  have hu := hu_of hr
  have nd := sc_law_spoiled_run.nd
  obtain ⟨p, r, ws, run, words, rfl, hp, nrp, nwp, er, ew, lr, lw, okr, okw, k⟩ := h
  refine ⟨_, (pss_cons (ps_set (i := 3) nd rfl (Or.inl rfl) (pe_callTy (w_list (K := K) rfl) (by rfl) T.b_list (by decide +kernel) (pa_cons (pv 1) pa_nil)))
      (pss_cons (ps_set (i := 4) nd rfl (Or.inl rfl) (pe_call (ok_law_draw (P := P) T) (hr.mono (by decide)) (by rfl) T.law_draw.g T.law_draw.F.kp T.law_draw.B .nil pass0 (pa_cons (pv 0) (pa_cons pe_int pa_nil))))
      (pss_cons (ps_set (i := 5) nd rfl (Or.inl rfl) (pe_call (ok_law_draw (P := P) T) (hr.mono (by decide)) (by rfl) T.law_draw.g T.law_draw.F.kp T.law_draw.B .nil pass0 (pa_cons (pv 0) (pa_cons (pe_op op_add (pe_callB (w_len (K := K) rfl) (by rfl) T.b_len (by decide +kernel) (pa_cons (pv 3) pa_nil)) pe_int) pa_nil))))
      (pss_cons (ps_set (i := 6) nd rfl (Or.inl rfl) (pe_call (ok_law_thing (P := P) T) (hr.mono (by decide)) (by rfl) T.law_thing.g T.law_thing.F.kp T.law_thing.B .nil pass0 (pa_cons (pv 0) pa_nil)))
      (pss_cons (ps_if (PW.pt (pw_and (pt_cmpR op_eq (pv 4) pe_int (nomark _)) (pw_and1 (pt_cmpR op_gt (pe_callB (w_len (K := K) rfl) (by rfl) T.b_len (by decide +kernel) (pa_cons (pv 2) pa_nil)) pe_int (nomark _))))) (pss_one (ps_set (i := 6) nd rfl (Or.inl rfl) (pe_ix (w_ixL (K := K) rfl) (pv 2) (pe_call (ok_law_draw (P := P) T) (hr.mono (by decide)) (by rfl) T.law_draw.g T.law_draw.F.kp T.law_draw.B .nil pass0 (pa_cons (pv 0) (pa_cons (pe_callB (w_len (K := K) rfl) (by rfl) T.b_len (by decide +kernel) (pa_cons (pv 2) pa_nil)) pa_nil))) (fun _ _ => rfl)))) pss_nil)
      (pss_cons (ps_if (PW.pt (pw_and (pt_cmpR op_eq (pv 4) pe_int (nomark _)) (pw_and1 (pt_cmpR op_lt (pv 5) (pe_callB (w_len (K := K) rfl) (by rfl) T.b_len (by decide +kernel) (pa_cons (pv 3) pa_nil)) (nomark _))))) (pss_one (ps_ret (pe_op op_cat (pe_slice (w_slL (K := K) rfl) (pv 3) po_none (po_some (pv 5))) (pe_slice (w_slL (K := K) rfl) (pv 3) (po_some (pe_op op_add (pv 5) pe_int)) po_none)))) pss_nil)
      (pss_cons (ps_if (PW.pt (pw_and (pt_cmpR op_eq (pv 4) pe_int (nomark _)) (pw_and1 (pt_cmpR op_lt (pv 5) (pe_callB (w_len (K := K) rfl) (by rfl) T.b_len (by decide +kernel) (pa_cons (pv 3) pa_nil)) (nomark _))))) (pss_one (ps_ret (pe_op op_cat (pe_op op_cat (pe_slice (w_slL (K := K) rfl) (pv 3) po_none (po_some (pv 5))) (pe_lst (pa_cons (pv 6) pa_nil))) (pe_slice (w_slL (K := K) rfl) (pv 3) (po_some (pe_op op_add (pv 5) pe_int)) po_none)))) pss_nil)
      (pss_one (ps_ret (pe_op op_cat (pe_op op_cat (pe_slice (w_slL (K := K) rfl) (pv 3) po_none (po_some (pv 5))) (pe_lst (pa_cons (pv 6) pa_nil))) (pe_slice (w_slL (K := K) rfl) (pv 3) (po_some (pv 5)) po_none))))))))))), ?_⟩
  refine x_start (σ' := [some _, some _, some _, none, none, none, none]) rfl ?_
  try simp only [cx_n, cx_K, cx_w, cx_P]
  walk_at "rd"
  refine x_clist (sqL er) fun f nf => ?_
  have s1 : SX [] H (upd H f (.lst (run.map V.str))) := SX.new nf
  have e1 : (upd H f (.lst (run.map V.str))) f = some (.lst (run.map V.str)) := upd_same
  have nfp : f ≠ p := out_p hp (SX.refl H) nf
  generalize upd H f (.lst (run.map V.str)) = H1 at s1 e1
  walk_at "rd"
  refine ⟨p, 4, rfl, hp.sx s1 List.not_mem_nil, by decide, by decide, fun kd H2 k0 k1 s2 p2 => ?_⟩
  have e2 := s2 _ _ (by simpa using nfp) e1
  walk_at "rd"
  refine x_lenL' (sqL e2) ?_
  walk_at "rd"
  rw [List.length_map]
  refine ⟨p, _, rfl, p2, by omega, by omega, fun at_ H3 a0 a1 s3 p3 => ?_⟩
  have e3 := s3 _ _ (by simpa using nfp) e2
  walk_at "rd"
  refine ⟨p, rfl, p3, fun v H4 ⟨dv, md, hv⟩ s4 p4 => ?_⟩
  have e4 := s4 _ _ (by simpa using nfp) e3
  have okv := odd_ok dv md
  have ew4 : H4 ws = some (.lst (words.map V.str)) := s4 _ _ (by simpa using nwp) (s3 _ _ (by simpa using nwp) (s2 _ _ (by simpa using nwp) (s1 _ _ List.not_mem_nil ew)))
  have s14 : SX [p] H H4 := (nil_sx s1).trans (s2.trans (s3.trans s4))
  clear s1 s2 s3 s4 e1 e2 e3 p2 p3
  walk_at "rd"
  have four : kd = 0 ∨ kd = 1 ∨ kd = 2 ∨ kd = 3 := by omega
  rcases four with rfl | rfl | rfl | rfl
  · refine x_true (by decide) ?_
    walk_at "rd"
    refine x_lenL' (sqL ew4) ?_
    walk_at "rd"
    rw [List.length_map]
    refine x_cases (fun c => ?_) (fun c => ?_)
    · walk_at "rd"
      refine x_lenL' (sqL ew4) ?_
      walk_at "rd"
      rw [List.length_map]
      have lw0 : 0 < words.length := by
        have := of_decide_eq_true c
        omega
      refine ⟨p, _, rfl, p4, by omega, by omega, fun g H5 g0 g1 s5 p5 => ?_⟩
      have e5 := s5 _ _ (by simpa using nfp) e4
      obtain ⟨n, rfl⟩ := Int.eq_ofNat_of_zero_le g0
      obtain ⟨s, hs⟩ : ∃ s, words[n]? = some s := ⟨words[n]'(by omega), by simp⟩
      refine x_ixL (sqL (s5 _ _ (by simpa using nwp) ew4)) (v := .str s) (atI_nat (by rw [List.getElem?_map, hs]; rfl)) ?_
      walk_at "rd"
      have hv5 : DpD (hid [p] H5) (.str s) (.str s) := .str s
      have ok5 := nameB_itm (okw s (List.mem_of_getElem? hs))
      have s15 := s14.trans s5
      refine x_false (by decide) ?_
      walk_at "rd"
      refine x_false (by decide) ?_
      walk_at "rd"
      refine ⟨f, _, rfl, sqL e5, fun z1 nz1 => ?_⟩
      have t1 : SX [] H5 (upd H5 z1 (.lst (cutV (run.map V.str) none (some at_)))) := SX.new nz1
      have g1 : (upd H5 z1 (.lst (cutV (run.map V.str) none (some at_)))) z1 = some (.lst (cutV (run.map V.str) none (some at_))) := upd_same
      generalize upd H5 z1 (.lst (cutV (run.map V.str) none (some at_))) = B1 at t1 g1
      walk_at "rd"
      refine ⟨Nat.le_of_ble_eq_true rfl, fun z2 nz2 => ?_⟩
      have t2 : SX [] B1 (upd B1 z2 (.lst [V.str s])) := SX.new nz2
      have g2 : (upd B1 z2 (.lst [V.str s])) z2 = some (.lst [V.str s]) := upd_same
      generalize upd B1 z2 (.lst [V.str s]) = B2 at t2 g2
      refine ⟨z1, z2, _, _, rfl, rfl, t2 _ _ List.not_mem_nil g1, g2, cat_len (len4 lr), fun z3 nz3 => ?_⟩
      have t3 : SX [] B2 (upd B2 z3 (.lst ((cutV (run.map V.str) none (some at_)) ++ [V.str s]))) := SX.new nz3
      have g3 : (upd B2 z3 (.lst ((cutV (run.map V.str) none (some at_)) ++ [V.str s]))) z3 = some (.lst ((cutV (run.map V.str) none (some at_)) ++ [V.str s])) := upd_same
      generalize upd B2 z3 (.lst ((cutV (run.map V.str) none (some at_)) ++ [V.str s])) = B3 at t3 g3
      walk_at "rd"
      refine ⟨f, _, rfl, sqL ((t1.trans (t2.trans t3)) _ _ List.not_mem_nil e5), fun z4 nz4 => ?_⟩
      have t4 : SX [] B3 (upd B3 z4 (.lst (cutV (run.map V.str) (some at_) none))) := SX.new nz4
      have g4 : (upd B3 z4 (.lst (cutV (run.map V.str) (some at_) none))) z4 = some (.lst (cutV (run.map V.str) (some at_) none)) := upd_same
      generalize upd B3 z4 (.lst (cutV (run.map V.str) (some at_) none)) = B4 at t4 g4
      refine ⟨z3, z4, _, _, rfl, rfl, t4 _ _ List.not_mem_nil g3, g4, cat_len (len3 lr), fun z5 nz5 => ?_⟩
      have t5 : SX [] B4 (upd B4 z5 (.lst ((cutV (run.map V.str) none (some at_)) ++ [V.str s] ++ (cutV (run.map V.str) (some at_) none)))) := SX.new nz5
      have t14 := t1.trans (t2.trans (t3.trans t4))
      have t15 := t14.trans t5
      obtain ⟨ds, q1, q2⟩ := asm3 (a := none) (b := some at_) (c := some at_) (d := none) (ReR.DpD.sx (nil_sx t15) hv5) ok5 okr
      exact k z5 _ ds _ (s15.trans (nil_sx t15)) (p5.sx t15 List.not_mem_nil) (fun z => (p5.sx t14 List.not_mem_nil).there (z ▸ nz5)) upd_same q1 q2 (len3 lr)
    · walk_at "rd"
      refine x_false (by decide) ?_
      walk_at "rd"
      refine x_false (by decide) ?_
      walk_at "rd"
      refine ⟨f, _, rfl, sqL e4, fun z1 nz1 => ?_⟩
      have t1 : SX [] H4 (upd H4 z1 (.lst (cutV (run.map V.str) none (some at_)))) := SX.new nz1
      have g1 : (upd H4 z1 (.lst (cutV (run.map V.str) none (some at_)))) z1 = some (.lst (cutV (run.map V.str) none (some at_))) := upd_same
      generalize upd H4 z1 (.lst (cutV (run.map V.str) none (some at_))) = B1 at t1 g1
      walk_at "rd"
      refine ⟨Nat.le_of_ble_eq_true rfl, fun z2 nz2 => ?_⟩
      have t2 : SX [] B1 (upd B1 z2 (.lst [v])) := SX.new nz2
      have g2 : (upd B1 z2 (.lst [v])) z2 = some (.lst [v]) := upd_same
      generalize upd B1 z2 (.lst [v]) = B2 at t2 g2
      refine ⟨z1, z2, _, _, rfl, rfl, t2 _ _ List.not_mem_nil g1, g2, cat_len (len4 lr), fun z3 nz3 => ?_⟩
      have t3 : SX [] B2 (upd B2 z3 (.lst ((cutV (run.map V.str) none (some at_)) ++ [v]))) := SX.new nz3
      have g3 : (upd B2 z3 (.lst ((cutV (run.map V.str) none (some at_)) ++ [v]))) z3 = some (.lst ((cutV (run.map V.str) none (some at_)) ++ [v])) := upd_same
      generalize upd B2 z3 (.lst ((cutV (run.map V.str) none (some at_)) ++ [v])) = B3 at t3 g3
      walk_at "rd"
      refine ⟨f, _, rfl, sqL ((t1.trans (t2.trans t3)) _ _ List.not_mem_nil e4), fun z4 nz4 => ?_⟩
      have t4 : SX [] B3 (upd B3 z4 (.lst (cutV (run.map V.str) (some at_) none))) := SX.new nz4
      have g4 : (upd B3 z4 (.lst (cutV (run.map V.str) (some at_) none))) z4 = some (.lst (cutV (run.map V.str) (some at_) none)) := upd_same
      generalize upd B3 z4 (.lst (cutV (run.map V.str) (some at_) none)) = B4 at t4 g4
      refine ⟨z3, z4, _, _, rfl, rfl, t4 _ _ List.not_mem_nil g3, g4, cat_len (len3 lr), fun z5 nz5 => ?_⟩
      have t5 : SX [] B4 (upd B4 z5 (.lst ((cutV (run.map V.str) none (some at_)) ++ [v] ++ (cutV (run.map V.str) (some at_) none)))) := SX.new nz5
      have t14 := t1.trans (t2.trans (t3.trans t4))
      have t15 := t14.trans t5
      obtain ⟨ds, q1, q2⟩ := asm3 (a := none) (b := some at_) (c := some at_) (d := none) (ReR.DpD.sx (nil_sx t15) hv) okv okr
      exact k z5 _ ds _ (s14.trans (nil_sx t15)) (p4.sx t15 List.not_mem_nil) (fun z => (p4.sx t14 List.not_mem_nil).there (z ▸ nz5)) upd_same q1 q2 (len3 lr)
  · refine x_false (by decide) ?_
    walk_at "rd"
    refine x_true (by decide) ?_
    walk_at "rd"
    refine x_lenL' (sqL e4) ?_
    walk_at "rd"
    rw [List.length_map]
    refine x_cases (fun c => ?_) (fun c => ?_)
    · walk_at "rd"
      refine ⟨f, _, rfl, sqL e4, fun z1 nz1 => ?_⟩
      have t1 : SX [] H4 (upd H4 z1 (.lst (cutV (run.map V.str) none (some at_)))) := SX.new nz1
      have g1 : (upd H4 z1 (.lst (cutV (run.map V.str) none (some at_)))) z1 = some (.lst (cutV (run.map V.str) none (some at_))) := upd_same
      generalize upd H4 z1 (.lst (cutV (run.map V.str) none (some at_))) = B1 at t1 g1
      walk_at "rd"
      refine ⟨f, _, rfl, sqL (t1 _ _ List.not_mem_nil e4), fun z2 nz2 => ?_⟩
      have t2 : SX [] B1 (upd B1 z2 (.lst (cutV (run.map V.str) (some (at_ + 1)) none))) := SX.new nz2
      have g2 : (upd B1 z2 (.lst (cutV (run.map V.str) (some (at_ + 1)) none))) z2 = some (.lst (cutV (run.map V.str) (some (at_ + 1)) none)) := upd_same
      generalize upd B1 z2 (.lst (cutV (run.map V.str) (some (at_ + 1)) none)) = B2 at t2 g2
      refine ⟨z1, z2, _, _, rfl, rfl, t2 _ _ List.not_mem_nil g1, g2, cat_len (len2 lr), fun z3 nz3 => ?_⟩
      have t3 : SX [] B2 (upd B2 z3 (.lst ((cutV (run.map V.str) none (some at_)) ++ (cutV (run.map V.str) (some (at_ + 1)) none)))) := SX.new nz3
      have t13 := t1.trans (t2.trans t3)
      obtain ⟨ds, q1, q2⟩ := asm2 (A := hid [p] (upd B2 z3 (.lst ((cutV (run.map V.str) none (some at_)) ++ (cutV (run.map V.str) (some (at_ + 1)) none))))) (a := none) (b := some at_) (c := some (at_ + 1)) (d := none) okr
      exact k z3 _ ds _ (s14.trans (nil_sx t13)) (p4.sx t13 List.not_mem_nil) (fun z => (p4.sx (t1.trans t2) List.not_mem_nil).there (z ▸ nz3)) upd_same q1 q2 (len2 lr)
    · walk_at "rd"
      refine x_false (by decide) ?_
      walk_at "rd"
      refine ⟨f, _, rfl, sqL e4, fun z1 nz1 => ?_⟩
      have t1 : SX [] H4 (upd H4 z1 (.lst (cutV (run.map V.str) none (some at_)))) := SX.new nz1
      have g1 : (upd H4 z1 (.lst (cutV (run.map V.str) none (some at_)))) z1 = some (.lst (cutV (run.map V.str) none (some at_))) := upd_same
      generalize upd H4 z1 (.lst (cutV (run.map V.str) none (some at_))) = B1 at t1 g1
      walk_at "rd"
      refine ⟨Nat.le_of_ble_eq_true rfl, fun z2 nz2 => ?_⟩
      have t2 : SX [] B1 (upd B1 z2 (.lst [v])) := SX.new nz2
      have g2 : (upd B1 z2 (.lst [v])) z2 = some (.lst [v]) := upd_same
      generalize upd B1 z2 (.lst [v]) = B2 at t2 g2
      refine ⟨z1, z2, _, _, rfl, rfl, t2 _ _ List.not_mem_nil g1, g2, cat_len (len4 lr), fun z3 nz3 => ?_⟩
      have t3 : SX [] B2 (upd B2 z3 (.lst ((cutV (run.map V.str) none (some at_)) ++ [v]))) := SX.new nz3
      have g3 : (upd B2 z3 (.lst ((cutV (run.map V.str) none (some at_)) ++ [v]))) z3 = some (.lst ((cutV (run.map V.str) none (some at_)) ++ [v])) := upd_same
      generalize upd B2 z3 (.lst ((cutV (run.map V.str) none (some at_)) ++ [v])) = B3 at t3 g3
      walk_at "rd"
      refine ⟨f, _, rfl, sqL ((t1.trans (t2.trans t3)) _ _ List.not_mem_nil e4), fun z4 nz4 => ?_⟩
      have t4 : SX [] B3 (upd B3 z4 (.lst (cutV (run.map V.str) (some at_) none))) := SX.new nz4
      have g4 : (upd B3 z4 (.lst (cutV (run.map V.str) (some at_) none))) z4 = some (.lst (cutV (run.map V.str) (some at_) none)) := upd_same
      generalize upd B3 z4 (.lst (cutV (run.map V.str) (some at_) none)) = B4 at t4 g4
      refine ⟨z3, z4, _, _, rfl, rfl, t4 _ _ List.not_mem_nil g3, g4, cat_len (len3 lr), fun z5 nz5 => ?_⟩
      have t5 : SX [] B4 (upd B4 z5 (.lst ((cutV (run.map V.str) none (some at_)) ++ [v] ++ (cutV (run.map V.str) (some at_) none)))) := SX.new nz5
      have t14 := t1.trans (t2.trans (t3.trans t4))
      have t15 := t14.trans t5
      obtain ⟨ds, q1, q2⟩ := asm3 (a := none) (b := some at_) (c := some at_) (d := none) (ReR.DpD.sx (nil_sx t15) hv) okv okr
      exact k z5 _ ds _ (s14.trans (nil_sx t15)) (p4.sx t15 List.not_mem_nil) (fun z => (p4.sx t14 List.not_mem_nil).there (z ▸ nz5)) upd_same q1 q2 (len3 lr)
  · refine x_false (by decide) ?_
    walk_at "rd"
    refine x_false (by decide) ?_
    walk_at "rd"
    refine x_true (by decide) ?_
    walk_at "rd"
    refine x_lenL' (sqL e4) ?_
    walk_at "rd"
    rw [List.length_map]
    refine x_cases (fun c => ?_) (fun c => ?_)
    · walk_at "rd"
      refine ⟨f, _, rfl, sqL e4, fun z1 nz1 => ?_⟩
      have t1 : SX [] H4 (upd H4 z1 (.lst (cutV (run.map V.str) none (some at_)))) := SX.new nz1
      have g1 : (upd H4 z1 (.lst (cutV (run.map V.str) none (some at_)))) z1 = some (.lst (cutV (run.map V.str) none (some at_))) := upd_same
      generalize upd H4 z1 (.lst (cutV (run.map V.str) none (some at_))) = B1 at t1 g1
      walk_at "rd"
      refine ⟨Nat.le_of_ble_eq_true rfl, fun z2 nz2 => ?_⟩
      have t2 : SX [] B1 (upd B1 z2 (.lst [v])) := SX.new nz2
      have g2 : (upd B1 z2 (.lst [v])) z2 = some (.lst [v]) := upd_same
      generalize upd B1 z2 (.lst [v]) = B2 at t2 g2
      refine ⟨z1, z2, _, _, rfl, rfl, t2 _ _ List.not_mem_nil g1, g2, cat_len (len4 lr), fun z3 nz3 => ?_⟩
      have t3 : SX [] B2 (upd B2 z3 (.lst ((cutV (run.map V.str) none (some at_)) ++ [v]))) := SX.new nz3
      have g3 : (upd B2 z3 (.lst ((cutV (run.map V.str) none (some at_)) ++ [v]))) z3 = some (.lst ((cutV (run.map V.str) none (some at_)) ++ [v])) := upd_same
      generalize upd B2 z3 (.lst ((cutV (run.map V.str) none (some at_)) ++ [v])) = B3 at t3 g3
      walk_at "rd"
      refine ⟨f, _, rfl, sqL ((t1.trans (t2.trans t3)) _ _ List.not_mem_nil e4), fun z4 nz4 => ?_⟩
      have t4 : SX [] B3 (upd B3 z4 (.lst (cutV (run.map V.str) (some (at_ + 1)) none))) := SX.new nz4
      have g4 : (upd B3 z4 (.lst (cutV (run.map V.str) (some (at_ + 1)) none))) z4 = some (.lst (cutV (run.map V.str) (some (at_ + 1)) none)) := upd_same
      generalize upd B3 z4 (.lst (cutV (run.map V.str) (some (at_ + 1)) none)) = B4 at t4 g4
      refine ⟨z3, z4, _, _, rfl, rfl, t4 _ _ List.not_mem_nil g3, g4, cat_len (len3 lr), fun z5 nz5 => ?_⟩
      have t5 : SX [] B4 (upd B4 z5 (.lst ((cutV (run.map V.str) none (some at_)) ++ [v] ++ (cutV (run.map V.str) (some (at_ + 1)) none)))) := SX.new nz5
      have t14 := t1.trans (t2.trans (t3.trans t4))
      have t15 := t14.trans t5
      obtain ⟨ds, q1, q2⟩ := asm3 (a := none) (b := some at_) (c := some (at_ + 1)) (d := none) (ReR.DpD.sx (nil_sx t15) hv) okv okr
      exact k z5 _ ds _ (s14.trans (nil_sx t15)) (p4.sx t15 List.not_mem_nil) (fun z => (p4.sx t14 List.not_mem_nil).there (z ▸ nz5)) upd_same q1 q2 (len3 lr)
    · walk_at "rd"
      refine ⟨f, _, rfl, sqL e4, fun z1 nz1 => ?_⟩
      have t1 : SX [] H4 (upd H4 z1 (.lst (cutV (run.map V.str) none (some at_)))) := SX.new nz1
      have g1 : (upd H4 z1 (.lst (cutV (run.map V.str) none (some at_)))) z1 = some (.lst (cutV (run.map V.str) none (some at_))) := upd_same
      generalize upd H4 z1 (.lst (cutV (run.map V.str) none (some at_))) = B1 at t1 g1
      walk_at "rd"
      refine ⟨Nat.le_of_ble_eq_true rfl, fun z2 nz2 => ?_⟩
      have t2 : SX [] B1 (upd B1 z2 (.lst [v])) := SX.new nz2
      have g2 : (upd B1 z2 (.lst [v])) z2 = some (.lst [v]) := upd_same
      generalize upd B1 z2 (.lst [v]) = B2 at t2 g2
      refine ⟨z1, z2, _, _, rfl, rfl, t2 _ _ List.not_mem_nil g1, g2, cat_len (len4 lr), fun z3 nz3 => ?_⟩
      have t3 : SX [] B2 (upd B2 z3 (.lst ((cutV (run.map V.str) none (some at_)) ++ [v]))) := SX.new nz3
      have g3 : (upd B2 z3 (.lst ((cutV (run.map V.str) none (some at_)) ++ [v]))) z3 = some (.lst ((cutV (run.map V.str) none (some at_)) ++ [v])) := upd_same
      generalize upd B2 z3 (.lst ((cutV (run.map V.str) none (some at_)) ++ [v])) = B3 at t3 g3
      walk_at "rd"
      refine ⟨f, _, rfl, sqL ((t1.trans (t2.trans t3)) _ _ List.not_mem_nil e4), fun z4 nz4 => ?_⟩
      have t4 : SX [] B3 (upd B3 z4 (.lst (cutV (run.map V.str) (some at_) none))) := SX.new nz4
      have g4 : (upd B3 z4 (.lst (cutV (run.map V.str) (some at_) none))) z4 = some (.lst (cutV (run.map V.str) (some at_) none)) := upd_same
      generalize upd B3 z4 (.lst (cutV (run.map V.str) (some at_) none)) = B4 at t4 g4
      refine ⟨z3, z4, _, _, rfl, rfl, t4 _ _ List.not_mem_nil g3, g4, cat_len (len3 lr), fun z5 nz5 => ?_⟩
      have t5 : SX [] B4 (upd B4 z5 (.lst ((cutV (run.map V.str) none (some at_)) ++ [v] ++ (cutV (run.map V.str) (some at_) none)))) := SX.new nz5
      have t14 := t1.trans (t2.trans (t3.trans t4))
      have t15 := t14.trans t5
      obtain ⟨ds, q1, q2⟩ := asm3 (a := none) (b := some at_) (c := some at_) (d := none) (ReR.DpD.sx (nil_sx t15) hv) okv okr
      exact k z5 _ ds _ (s14.trans (nil_sx t15)) (p4.sx t15 List.not_mem_nil) (fun z => (p4.sx t14 List.not_mem_nil).there (z ▸ nz5)) upd_same q1 q2 (len3 lr)
  · refine x_false (by decide) ?_
    walk_at "rd"
    refine x_false (by decide) ?_
    walk_at "rd"
    refine x_false (by decide) ?_
    walk_at "rd"
    refine ⟨f, _, rfl, sqL e4, fun z1 nz1 => ?_⟩
    have t1 : SX [] H4 (upd H4 z1 (.lst (cutV (run.map V.str) none (some at_)))) := SX.new nz1
    have g1 : (upd H4 z1 (.lst (cutV (run.map V.str) none (some at_)))) z1 = some (.lst (cutV (run.map V.str) none (some at_))) := upd_same
    generalize upd H4 z1 (.lst (cutV (run.map V.str) none (some at_))) = B1 at t1 g1
    walk_at "rd"
    refine ⟨Nat.le_of_ble_eq_true rfl, fun z2 nz2 => ?_⟩
    have t2 : SX [] B1 (upd B1 z2 (.lst [v])) := SX.new nz2
    have g2 : (upd B1 z2 (.lst [v])) z2 = some (.lst [v]) := upd_same
    generalize upd B1 z2 (.lst [v]) = B2 at t2 g2
    refine ⟨z1, z2, _, _, rfl, rfl, t2 _ _ List.not_mem_nil g1, g2, cat_len (len4 lr), fun z3 nz3 => ?_⟩
    have t3 : SX [] B2 (upd B2 z3 (.lst ((cutV (run.map V.str) none (some at_)) ++ [v]))) := SX.new nz3
    have g3 : (upd B2 z3 (.lst ((cutV (run.map V.str) none (some at_)) ++ [v]))) z3 = some (.lst ((cutV (run.map V.str) none (some at_)) ++ [v])) := upd_same
    generalize upd B2 z3 (.lst ((cutV (run.map V.str) none (some at_)) ++ [v])) = B3 at t3 g3
    walk_at "rd"
    refine ⟨f, _, rfl, sqL ((t1.trans (t2.trans t3)) _ _ List.not_mem_nil e4), fun z4 nz4 => ?_⟩
    have t4 : SX [] B3 (upd B3 z4 (.lst (cutV (run.map V.str) (some at_) none))) := SX.new nz4
    have g4 : (upd B3 z4 (.lst (cutV (run.map V.str) (some at_) none))) z4 = some (.lst (cutV (run.map V.str) (some at_) none)) := upd_same
    generalize upd B3 z4 (.lst (cutV (run.map V.str) (some at_) none)) = B4 at t4 g4
    refine ⟨z3, z4, _, _, rfl, rfl, t4 _ _ List.not_mem_nil g3, g4, cat_len (len3 lr), fun z5 nz5 => ?_⟩
    have t5 : SX [] B4 (upd B4 z5 (.lst ((cutV (run.map V.str) none (some at_)) ++ [v] ++ (cutV (run.map V.str) (some at_) none)))) := SX.new nz5
    have t14 := t1.trans (t2.trans (t3.trans t4))
    have t15 := t14.trans t5
    obtain ⟨ds, q1, q2⟩ := asm3 (a := none) (b := some at_) (c := some at_) (d := none) (ReR.DpD.sx (nil_sx t15) hv) okv okr
    exact k z5 _ ds _ (s14.trans (nil_sx t15)) (p4.sx t15 List.not_mem_nil) (fun z => (p4.sx t14 List.not_mem_nil).there (z ▸ nz5)) upd_same q1 q2 (len3 lr)
/-- a cut: a tuple of two places -/
def Cut (A : Hp) (n : Nat) (v : V) : Prop := ∃ t i j, v = .ref t ∧ A t = some (.tup [.int i, .int j]) ∧ 0 ≤ i ∧ i ≤ j ∧ j < (n : Int)
theorem Cut.sx {A B : Hp} {n : Nat} {v : V} {l : Addr} {xs : List V} (h : Cut A n v) (hl : A l = some (.lst xs)) (s : SX [l] A B) : Cut B n v := by
  obtain ⟨t, i, j, rfl, e, q⟩ := h
  have : t ≠ l := fun z => by rw [z, hl] at e; cases e
  exact ⟨t, i, j, rfl, s _ _ (by simpa using this) e, q⟩
def sp_law_cut (T : Tx K mg) : Sp := fun vs H Q _ => ∃ (p r : Addr) (tr : List Str), vs = [.ref p, .ref r] ∧ Pool H p ∧ r ≠ p ∧ H r = some (.lst (tr.map V.str)) ∧ 0 < tr.length ∧ tr.length ≤ 100 ∧
  ∀ t i j H', SX [p] H H' → Pool H' p → H' t = some (.tup [.int i, .int j]) → 0 ≤ i → i ≤ j → j < (tr.length : Int) → Q (.ref t) H'
theorem ok_law_cut (T : Tx K mg) : FnOk P w K mg base CX0 2 T.law_cut.f T.law_cut.fd P_law_cut (sp_law_cut T) := by
  refine T.law_cut.F.ok sc_law_cut (fun vs H Q E h => ?_) (fun cdv A outer s H vs Q E hr h => ?_)
  · obtain ⟨p, r, tr, rfl, hp, nrp, er, l0, l1, k⟩ := h
    rfl
  have hu := hu_of hr
  have nd := sc_law_cut.nd
  obtain ⟨p, r, tr, rfl, hp, nrp, er, l0, l1, k⟩ := h
  refine ⟨_, (pss_cons (ps_set (i := 2) nd rfl (Or.inl rfl) (pe_lst pa_nil))
      (pss_cons (ps_for PassesOwn.never rfl (pi_range1 (by rfl) T.b_range (pa_cons (pe_callB (w_len (K := K) rfl) (by rfl) T.b_len (by decide +kernel) (pa_cons (pv 1) pa_nil)) pa_nil)) (pg_name (i := 3) nd rfl (Or.inl rfl)) (pss_one (ps_for PassesOwn.never rfl (pi_range1 (by rfl) T.b_range (pa_cons (pv 3) pa_nil)) (pg_name (i := 4) nd rfl (Or.inl rfl)) (pss_one (ps_if (pt_cmpR op_eq (pe_ix (w_ixL (K := K) rfl) (pv 1) (pv 4) (fun _ _ => rfl)) (pe_ix (w_ixL (K := K) rfl) (pv 1) (pv 3) (fun _ _ => rfl)) (nomark _)) (pss_one (ps_expr (pe_bm PySem.F.plainAttrs_list PySem.F.slot_list_append PySem.F.type_list_append mt_append (pv 2) (pa_cons (pe_tup (pa_cons (pv 4) (pa_cons (pv 3) pa_nil))) pa_nil)))) pss_nil)))))
      (pss_cons (ps_if (PW.pt (pw_and (pt_cmpR op_gt (pe_callB (w_len (K := K) rfl) (by rfl) T.b_len (by decide +kernel) (pa_cons (pv 2) pa_nil)) pe_int (nomark _)) (pw_and1 (pt_cmpR op_gt (pe_call (ok_law_draw (P := P) T) (hr.mono (by decide)) (by rfl) T.law_draw.g T.law_draw.F.kp T.law_draw.B .nil pass0 (pa_cons (pv 0) (pa_cons pe_int pa_nil))) pe_int (nomark _))))) (pss_one (ps_ret (pe_ix (w_ixL (K := K) rfl) (pv 2) (pe_call (ok_law_draw (P := P) T) (hr.mono (by decide)) (by rfl) T.law_draw.g T.law_draw.F.kp T.law_draw.B .nil pass0 (pa_cons (pv 0) (pa_cons (pe_callB (w_len (K := K) rfl) (by rfl) T.b_len (by decide +kernel) (pa_cons (pv 2) pa_nil)) pa_nil))) (fun _ _ => rfl)))) pss_nil)
      (pss_cons (ps_set (i := 5) nd rfl (Or.inl rfl) (pe_call (ok_law_draw (P := P) T) (hr.mono (by decide)) (by rfl) T.law_draw.g T.law_draw.F.kp T.law_draw.B .nil pass0 (pa_cons (pv 0) (pa_cons (pe_callB (w_len (K := K) rfl) (by rfl) T.b_len (by decide +kernel) (pa_cons (pv 1) pa_nil)) pa_nil))))
      (pss_one (ps_ret (pe_tup (pa_cons (pv 5) (pa_cons (pe_op op_add (pv 5) (pe_call (ok_law_draw (P := P) T) (hr.mono (by decide)) (by rfl) T.law_draw.g T.law_draw.F.kp T.law_draw.B .nil pass0 (pa_cons (pv 0) (pa_cons (pe_op op_sub (pe_callB (w_len (K := K) rfl) (by rfl) T.b_len (by decide +kernel) (pa_cons (pv 1) pa_nil)) (pv 5)) pa_nil)))) pa_nil))))))))), ?_⟩
  refine x_start (σ' := [some _, some _, none, none, none, none]) rfl ?_
  try simp only [cx_n, cx_K, cx_w, cx_P]
  walk_at "rd"
  refine ⟨Nat.le_of_ble_eq_true rfl, fun l nl => ?_⟩
  have nlp : l ≠ p := out_p hp (SX.refl H) nl
  have nlr : r ≠ l := ne_of_none er nl
  have s1 : SX [] H (upd H l (.lst [])) := SX.new nl
  have e1 : (upd H l (.lst [])) l = some (.lst []) := upd_same
  have er1 : (upd H l (.lst [])) r = some (.lst (tr.map V.str)) := s1 _ _ List.not_mem_nil er
  have hp1 : Pool (upd H l (.lst [])) p := hp.sx s1 List.not_mem_nil
  generalize upd H l (.lst []) = H1 at s1 e1 er1 hp1
  walk_at "rd"
  refine x_lenL' (sqL er1) ?_
  refine x_rng1 (by rw [List.length_map]; omega) (by rw [List.length_map]; omega) ?_
  rw [List.length_map]
  refine for_it walk_rng (fun j σ A => ∃ (xs : List V) (b c : Option V), SX [l] H1 A ∧ A l = some (.lst xs) ∧ (∀ v ∈ xs, Cut A tr.length v) ∧ xs.length ≤ 100 * j ∧ σ = [some (.ref p), some (.ref r), some (.ref l), b, c, none])
    ⟨[], none, none, SX.refl _, e1, (fun _ h => nomatch h), Nat.le_refl _, rfl⟩ (fun _ _ _ _ _ => trivial) ?_ ?_
  · rintro j x σ A0 A hj ⟨xs, b, c, sA, eA, cA, lA, rfl⟩ ⟨rfl, rfl⟩
    walk_at "rd"
    refine x_rng1 (by omega) (by omega) ?_
    refine for_it walk_rng (fun i σ B => ∃ (ys : List V) (c : Option V), SX [l] H1 B ∧ B l = some (.lst ys) ∧ (∀ v ∈ ys, Cut B tr.length v) ∧ ys.length ≤ xs.length + i ∧ σ = [some (.ref p), some (.ref r), some (.ref l), some (.int (j : Int)), c, none])
      ⟨xs, _, sA, eA, cA, Nat.le_refl _, rfl⟩ (fun _ _ _ _ _ => trivial) ?_ ?_
    · rintro i x σ B0 B hi ⟨ys, c, sB, eB, cB, lB, rfl⟩ ⟨rfl, rfl⟩
      walk_at "rd"
      have erB := sB _ _ (by simpa using nlr) er1
      obtain ⟨u, hu⟩ : ∃ u, tr[i]? = some u := ⟨tr[i]'(by omega), by simp⟩
      obtain ⟨y, hy⟩ : ∃ y, tr[j]? = some y := ⟨tr[j]'(by omega), by simp⟩
      refine x_ixL (sqL erB) (v := .str u) (atI_nat (by rw [List.getElem?_map, hu]; rfl)) ?_
      walk_at "rd"
      refine x_ixL (sqL erB) (v := .str y) (atI_nat (by rw [List.getElem?_map, hy]; rfl)) ?_
      walk_at "rd"
      refine x_cases (fun h => ?_) (fun h => ?_)
      · walk_at "rd"
        refine ⟨.inl ⟨rfl, _, sqL eB⟩, ?_⟩
        walk_at "rd"
        refine ⟨Nat.le_of_ble_eq_true rfl, fun t nt => ?_⟩
        have st : SX [] B (upd B t (.tup [.int (i : Int), .int (j : Int)])) := SX.new nt
        have et : (upd B t (.tup [.int (i : Int), .int (j : Int)])) t = some (.tup [.int (i : Int), .int (j : Int)]) := upd_same
        generalize upd B t (.tup [.int (i : Int), .int (j : Int)]) = B2 at st et
        have eB2 := st _ _ List.not_mem_nil eB
        walk_at "rd"
        refine ⟨l, _, _, rfl, rfl, eB2, lt_size (by omega), ?_⟩
        walk_at "rd"
        have sm : SX [l] B2 (upd B2 l (.lst (ys ++ [.ref t]))) := SX.mut List.mem_cons_self
        refine ⟨ys ++ [.ref t], _, (sB.trans (nil_sx st)).trans sm, upd_same, fun v hv => ?_, by rw [List.length_append]; show ys.length + 1 ≤ _; omega, rfl⟩
        rcases List.mem_append.mp hv with hv | hv
        · exact ((cB v hv).sx eB (nil_sx st)).sx eB2 sm
        · rw [List.mem_singleton.mp hv]
          exact Cut.sx ⟨t, _, _, rfl, et, by omega, by omega, by omega⟩ eB2 sm
      · walk_at "rd"
        exact ⟨ys, _, sB, eB, cB, by omega, rfl⟩
    · rintro σ B ⟨ys, c, sB, eB, cB, lB, rfl⟩
      exact ⟨ys, _, _, sB, eB, cB, by omega, rfl⟩
  · rintro σ A ⟨xs, b, c, sA, eA, cA, lA, rfl⟩
    walk_at "rd"
    have sHA : SX [p] H A := (sx_nil_of (S := [l]) ((nil_sx s1).trans sA) (by simp [nl])).sub (by simp)
    have pA := hp1.sx sA (by simpa using Ne.symm nlp)
    have erA := sA _ _ (by simpa using nlr) er1
    refine x_lenL' (sqL eA) ?_
    walk_at "rd"
    refine x_cases (fun h => ?_) (fun h => ?_)
    · walk_at "rd"
      refine ⟨p, 4, rfl, pA, by decide, by decide, fun g H2 g0 g1 s2 p2 => ?_⟩
      have eA2 := s2 _ _ (by simpa using nlp) eA
      have erA2 := s2 _ _ (by simpa using nrp) erA
      have x0 : 0 < xs.length := by
        have := of_decide_eq_true h
        omega
      walk_at "rd"
      refine x_cases (fun h2 => ?_) (fun h2 => ?_)
      · walk_at "rd"
        refine x_lenL' (sqL eA2) ?_
        walk_at "rd"
        refine ⟨p, (xs.length : Int), rfl, p2, by omega, by omega, fun g2 H3 q0 q1 s3 p3 => ?_⟩
        obtain ⟨v, ev, mv⟩ := at_mem (xs := xs) q0 q1
        refine x_ixL (sqL (s3 _ _ (by simpa using nlp) eA2)) ev ?_
        obtain ⟨t, i, j, rfl, et, b1, b2, b3⟩ := cA v mv
        obtain ⟨ns, ep, _⟩ := id pA
        have ntp : t ≠ p := fun z => by rw [z, ep] at et; cases et
        have s23 := s2.trans s3
        exact k t i j H3 (sHA.trans s23) p3 (s23 _ _ (by simpa using ntp) et) b1 b2 b3
      · walk_at "rd"
        refine x_lenL' (sqL erA2) ?_
        walk_at "rd"
        rw [List.length_map]
        refine ⟨p, (tr.length : Int), rfl, p2, by omega, by omega, fun f1 H3 q0 q1 s3 p3 => ?_⟩
        have er3 := s3 _ _ (by simpa using nrp) erA2
        walk_at "rd"
        refine x_lenL' (sqL er3) ?_
        walk_at "rd"
        rw [List.length_map]
        refine ⟨p, _, rfl, p3, by omega, by omega, fun f2 H4 q2 q3 s4 p4 => ?_⟩
        walk_at "rd"
        refine ⟨Nat.le_of_ble_eq_true rfl, fun t nt => ?_⟩
        have st : SX [] H4 (upd H4 t (.tup [.int f1, .int (f1 + f2)])) := SX.new nt
        exact k t _ _ _ ((sHA.trans s2).trans (s3.trans (s4.trans (nil_sx st)))) (p4.sx st List.not_mem_nil) upd_same q0 (by omega) (by omega)
    · walk_at "rd"
      refine x_lenL' (sqL erA) ?_
      walk_at "rd"
      rw [List.length_map]
      refine ⟨p, (tr.length : Int), rfl, pA, by omega, by omega, fun f1 H3 q0 q1 s3 p3 => ?_⟩
      have er3 := s3 _ _ (by simpa using nrp) erA
      walk_at "rd"
      refine x_lenL' (sqL er3) ?_
      walk_at "rd"
      rw [List.length_map]
      refine ⟨p, _, rfl, p3, by omega, by omega, fun f2 H4 q2 q3 s4 p4 => ?_⟩
      walk_at "rd"
      refine ⟨Nat.le_of_ble_eq_true rfl, fun t nt => ?_⟩
      have st : SX [] H4 (upd H4 t (.tup [.int f1, .int (f1 + f2)])) := SX.new nt
      exact k t _ _ _ ((sHA).trans (s3.trans (s4.trans (nil_sx st)))) (p4.sx st List.not_mem_nil) upd_same q0 (by omega) (by omega)
end
end M

namespace M
open PySem PySem.Spec PyProof.Rows L2 ReR
/-! ### what is printed is short -/
def rowOk (d : PyData) : Prop := d.showable = true ∧ d.depth ≤ 2 ∧ d.leavesShort 40 = true ∧ d.bulk ≤ 31000 ∧ ∀ u, rowD d = some u → u.length ≤ 300
theorem len_bulk : ∀ ds : List PyData, ds.length ≤ PyData.bulkAll ds
  | [] => Nat.zero_le _
  | d :: ds => by
    have := len_bulk ds
    simp only [PyData.bulkAll, List.length_cons]
    omega
theorem row_bulk {d : PyData} {u : List PyData} (h : rowD d = some u) : u.length ≤ d.bulk := by
  cases d with
  | list ds => cases h; simp only [PyData.bulk]; exact len_bulk _
  | tuple ds => cases h; simp only [PyData.bulk]; exact len_bulk _
  | none => cases h
  | bool _ => cases h
  | int _ => cases h
  | str _ => cases h
  | dict _ => cases h
theorem itm_parts {d : PyData} (h : itmOk d = true) : d.showable = true ∧ d.depth ≤ 1 ∧ d.leavesShort 40 = true ∧ d.bulk ≤ 50 := by
  unfold itmOk at h
  simp only [Bool.and_eq_true, decide_eq_true_eq] at h
  exact ⟨h.1.1.1, h.1.1.2, h.1.2, h.2⟩
theorem itm_row {d : PyData} (h : itmOk d = true) : rowOk d := by
  obtain ⟨a, b, c, e⟩ := itm_parts h
  exact ⟨a, by omega, c, by omega, fun u hu => by have := row_bulk hu; omega⟩
theorem all_itm : ∀ {ds : List PyData}, (∀ d ∈ ds, itmOk d = true) → PyData.showableAll ds = true ∧ PyData.depthAll ds ≤ 1 ∧ PyData.leavesShortAll 40 ds = true ∧ PyData.bulkAll ds ≤ 51 * ds.length
  | [], _ => ⟨rfl, Nat.zero_le _, rfl, Nat.le_refl _⟩
  | d :: ds, h => by
    obtain ⟨a, b, c, e⟩ := itm_parts (h d List.mem_cons_self)
    obtain ⟨a', b', c', e'⟩ := all_itm (ds := ds) fun x hx => h x (List.mem_cons_of_mem _ hx)
    simp only [PyData.showableAll, PyData.depthAll, PyData.leavesShortAll, PyData.bulkAll, List.length_cons, a, a', c, c']
    exact ⟨rfl, Nat.max_le.mpr ⟨b, b'⟩, rfl, by omega⟩
theorem row_of {d : PyData} {ds : List PyData} (e : d = .list ds ∨ d = .tuple ds) (h : ∀ d ∈ ds, itmOk d = true) (l : ds.length ≤ 300) : rowOk d := by
  obtain ⟨a', b', c', e'⟩ := all_itm h
  rcases e with rfl | rfl
  · refine ⟨by simpa only [PyData.showable] using a', by simp only [PyData.depth]; omega, by simpa only [PyData.leavesShort] using c', by simp only [PyData.bulk]; omega, fun u hu => ?_⟩
    cases hu
    exact l
  · refine ⟨by simpa only [PyData.showable] using a', by simp only [PyData.depth]; omega, by simpa only [PyData.leavesShort] using c', by simp only [PyData.bulk]; omega, fun u hu => ?_⟩
    cases hu
    exact l
theorem all_rowOk : ∀ {ds : List PyData}, (∀ d ∈ ds, rowOk d) → PyData.showableAll ds = true ∧ PyData.depthAll ds ≤ 2 ∧ PyData.leavesShortAll 40 ds = true ∧ PyData.bulkAll ds ≤ 31001 * ds.length
  | [], _ => ⟨rfl, Nat.zero_le _, rfl, Nat.le_refl _⟩
  | d :: ds, h => by
    obtain ⟨a, b, c, e, _⟩ := h d List.mem_cons_self
    obtain ⟨a', b', c', e'⟩ := all_rowOk (ds := ds) fun x hx => h x (List.mem_cons_of_mem _ hx)
    simp only [PyData.showableAll, PyData.depthAll, PyData.leavesShortAll, PyData.bulkAll, List.length_cons, a, a', c, c']
    exact ⟨rfl, Nat.max_le.mpr ⟨b, b'⟩, rfl, by omega⟩
theorem ok_tup {ds : List PyData} (h : ∀ d ∈ ds, rowOk d) (l : ds.length ≤ 3) : okD (.tuple ds) := by
  obtain ⟨a', b', c', e'⟩ := all_rowOk h
  exact ⟨by simpa only [PyData.showable] using a', by simp only [PyData.depth]; omega, by simpa only [PyData.leavesShort] using c', by simp only [PyData.bulk]; omega⟩
theorem ok_lst {ds : List PyData} (h : ∀ d ∈ ds, rowOk d) (l : ds.length ≤ 3) : okD (.list ds) := by
  obtain ⟨a', b', c', e'⟩ := all_rowOk h
  exact ⟨by simpa only [PyData.showable] using a', by simp only [PyData.depth]; omega, by simpa only [PyData.leavesShort] using c', by simp only [PyData.bulk]; omega⟩
/-- a value that is printed and judged -/
def Vok (H : Hp) (p : Addr) (v : V) : Prop := ∃ d, DpD (hid [p] H) v d ∧ okD d ∧ shortP d
theorem Vok.sx {A B : Hp} {p : Addr} {v : V} (s : SX [p] A B) : Vok A p v → Vok B p v := fun ⟨d, h, q⟩ => ⟨d, h.sx s, q⟩
/-- a row -/
def Rok (H : Hp) (p : Addr) (v : V) : Prop := ∃ d, DpD (hid [p] H) v d ∧ rowOk d
theorem Rok.sx {A B : Hp} {p : Addr} {v : V} (s : SX [p] A B) : Rok A p v → Rok B p v := fun ⟨d, h, q⟩ => ⟨d, h.sx s, q⟩
theorem Odd.rok {A : Hp} {p : Addr} {v : V} : Odd A p v → Rok A p v := fun ⟨d, m, h⟩ => ⟨d, h, itm_row (odd_ok d m)⟩
theorem Odd.vok {A : Hp} {p : Addr} {v : V} : Odd A p v → Vok A p v := fun ⟨d, m, h⟩ => by
  obtain ⟨a, b, c, e⟩ := itm_parts (odd_ok d m)
  refine ⟨d, h, ⟨a, by omega, c, by omega⟩, fun x y u v ed hu hv => ?_⟩
  have h1 := row_bulk hu
  have h2 := row_bulk hv
  rw [ed] at e
  simp only [PyData.bulk, PyData.bulkAll] at e
  omega
theorem mem2 {α : Type} {P : α → Prop} {x y : α} (hx : P x) (hy : P y) : ∀ z ∈ [x, y], P z := fun z hz => by
  rcases List.mem_cons.mp hz with rfl | hz
  · exact hx
  · rw [List.mem_singleton.mp hz]; exact hy
theorem mem1 {α : Type} {P : α → Prop} {x : α} (hx : P x) : ∀ z ∈ [x], P z := fun z hz => by rw [List.mem_singleton.mp hz]; exact hx
theorem vok_pair {A : Hp} {p t : Addr} {v w : V} (n : t ≠ p) (e : A t = some (.tup [v, w])) (hv : Rok A p v) (hw : Rok A p w) : Vok A p (.ref t) := by
  obtain ⟨x, dx, ox⟩ := hv
  obtain ⟨y, dy, oy⟩ := hw
  refine ⟨_, .tup (hid_eq n e) (.cons dx (.cons dy .nil)), ok_tup (mem2 ox oy) (by decide : 2 ≤ 3), fun x' y' u v ed hu hv => ?_⟩
  cases ed
  have := ox.2.2.2.2 u hu
  have := oy.2.2.2.2 v hv
  omega
theorem vok_list {A : Hp} {p t : Addr} {v w : V} (n : t ≠ p) (e : A t = some (.lst [v, w])) (hv : Rok A p v) (hw : Rok A p w) : Vok A p (.ref t) := by
  obtain ⟨x, dx, ox⟩ := hv
  obtain ⟨y, dy, oy⟩ := hw
  exact ⟨_, .lst (hid_eq n e) (.cons dx (.cons dy .nil)), ok_lst (mem2 ox oy) (by decide : 2 ≤ 3), fun x' y' u v ed hu hv => nomatch ed⟩
theorem vok_one {A : Hp} {p t : Addr} {v : V} (n : t ≠ p) (e : A t = some (.tup [v])) (hv : Rok A p v) : Vok A p (.ref t) := by
  obtain ⟨x, dx, ox⟩ := hv
  exact ⟨_, .tup (hid_eq n e) (.cons dx .nil), ok_tup (mem1 ox) (by decide : 1 ≤ 3), fun x' y' u v ed hu hv => nomatch ed⟩
theorem vok_three {A : Hp} {p t : Addr} {v w z : V} (n : t ≠ p) (e : A t = some (.tup [v, w, z])) (hv : Rok A p v) (hw : Rok A p w) (hz : Rok A p z) : Vok A p (.ref t) := by
  obtain ⟨x, dx, ox⟩ := hv
  obtain ⟨y, dy, oy⟩ := hw
  obtain ⟨y2, dy2, oy2⟩ := hz
  exact ⟨_, .tup (hid_eq n e) (.cons dx (.cons dy (.cons dy2 .nil))), ok_tup (fun z hz => (List.mem_cons.mp hz).elim (fun h => h ▸ ox) (mem2 oy oy2 z)) (by decide : 3 ≤ 3), fun x' y' u v ed hu hv => nomatch ed⟩
theorem rok_row {A : Hp} {p r : Addr} {xs : List V} {ds : List PyData} (n : r ≠ p) (e : RowAt A r xs) (h : DpDs (hid [p] A) xs ds) (ok : ∀ d ∈ ds, itmOk d = true) (l : xs.length ≤ 300) : Rok A p (.ref r) := by
  have l2 : ds.length ≤ 300 := by rw [← h.len]; exact l
  rcases e with e | e
  · exact ⟨_, .lst (hid_eq n e) h, row_of (.inl rfl) ok l2⟩
  · exact ⟨_, .tup (hid_eq n e) h, row_of (.inr rfl) ok l2⟩
theorem ne_pool {H : Hp} {p l : Addr} {zs : List Str} (hp : Pool H p) (e : H l = some (.lst (zs.map V.str))) : l ≠ p := fun z => by
  obtain ⟨ns, ep, _, x, r, rfl, _⟩ := hp
  rw [z, ep] at e
  cases zs with
  | nil => cases e
  | cons a b => injection e with e; injection e with e; injection e with e; cases e
theorem run_back {sts tbl : List (Str × Stand)} (tb : Tbl sts tbl) (nd : ∀ q ∈ sts, q.2.nd) {a : Str} {run : List Str} : RunOk tbl a run ↔ RunOk sts a run := by
  unfold RunOk
  constructor
  · intro R i s h
    obtain ⟨b, g⟩ := R i s h
    exact ⟨b, by rw [tb.atF nd, tb.go nd] at g; exact g⟩
  · intro R i s h
    obtain ⟨b, g⟩ := R i s h
    exact ⟨b, by rw [tb.atF nd, tb.go nd]; exact g⟩
theorem ring_tbl {sts tbl : List (Str × Stand)} (tb : Tbl sts tbl) (nd : ∀ q ∈ sts, q.2.nd) {a : Str} {d : PyData} : ringP tbl a d ↔ ringP sts a d := by
  constructor
  · rintro ⟨x, y, u, v, run, e, e1, e2, ne, ⟨e3, R⟩, sm⟩
    exact ⟨x, y, u, v, run, e, e1, e2, ne, ⟨e3, (run_back tb nd).mp R⟩, by rw [tb.atF nd, tb.atF nd] at sm; exact sm⟩
  · rintro ⟨x, y, u, v, run, e, e1, e2, ne, ⟨e3, R⟩, sm⟩
    exact ⟨x, y, u, v, run, e, e1, e2, ne, ⟨e3, (run_back tb nd).mpr R⟩, by rw [tb.atF nd, tb.atF nd]; exact sm⟩
theorem rows_nameR {h : Int} {ns : List Str} {st : Stand} (o : StandOk h ns st) {s : Str} (m : s ∈ st.rows.map (·.1)) : nameB s = true := by
  cases st with
  | fin => cases m
  | hand a b =>
    obtain ⟨z, hz, rfl⟩ := List.mem_map.mp m
    exact (o.2.2.2.2.2 z hz).1
  | chance b =>
    change s ∈ (b.map _).map _ at m
    rw [List.map_map] at m
    obtain ⟨z, hz, rfl⟩ := List.mem_map.mp m
    exact (o.2.2.2 z hz).1
section
variable {P : Program} [SupX.PX P] {w : World} {K : PySem.W.Frag} {mg : Str → Option Value} {base : Heap}
def sp_law (T : Tx K mg) : Sp := fun vs H Q _ => ∃ (a : Addr) (ns : List Int), vs = [.ref a] ∧ SqL K H a (ns.map V.int) ∧ ns.length ≤ 10000 ∧ ∀ H', Q (.bl true) H'
theorem ok_law (T : Tx K mg) (hsy : ReR.SysIs base) : ReR.FnG P w K mg base CX0 8 T.law.f T.law.fd P_law (sp_law T) := by
  refine T.law.F.okG sc_law (fun vs H Q E h => ?_) (fun cdv A outer s H vs Q E hr hg h => ?_)
  · obtain ⟨a, ns, rfl, ha, hlen, k⟩ := h
    rfl
  have hu := hu_of hr
  have nd := sc_law.nd
  obtain ⟨a, ns, rfl, ha, hlen, k⟩ := h
  refine ⟨_, (pss_cons (ps_set (i := 1) nd rfl (Or.inl rfl) (pe_call (ok_law_pool (P := P) T) (hr.mono (by decide)) (by rfl) T.law_pool.g T.law_pool.F.kp T.law_pool.B .nil pass0 (pa_cons (pv 0) pa_nil)))
      (pss_cons (ps_set (i := 2) nd rfl (Or.inl rfl) (pe_call (ok_law_draw (P := P) T) (hr.mono (by decide)) (by rfl) T.law_draw.g T.law_draw.F.kp T.law_draw.B .nil pass0 (pa_cons (pv 1) (pa_cons pe_int pa_nil))))
      (pss_cons (ps_set (i := 3) nd rfl (Or.inl rfl) (pe_call (ok_law_world (P := P) T) (hr.mono (by decide)) (by rfl) T.law_world.g T.law_world.F.kp T.law_world.B .nil pass0 (pa_cons (pv 1) (pa_cons pe_int (pa_cons pe_bl pa_nil)))))
      (pss_cons (ps_set (i := 4) nd rfl (Or.inl rfl) (pe_ix (w_ixL (K := K) rfl) (pv 3) pe_int (fun _ _ => rfl)))
      (pss_cons (ps_set (i := 5) nd rfl (Or.inl rfl) (pe_call (ok_law_run (P := P) T) (hr.mono (by decide)) (by rfl) T.law_run.g T.law_run.F.kp T.law_run.B .nil pass0 (pa_cons (pv 1) (pa_cons (pv 4) (pa_cons (pe_ix (w_ixL (K := K) rfl) (pv 3) pe_int (fun _ _ => rfl)) (pa_cons pe_int pa_nil))))))
      (pss_cons (ps_asg (pe_call (ok_law_cut (P := P) T) (hr.mono (by decide)) (by rfl) T.law_cut.g T.law_cut.F.kp T.law_cut.B .nil pass0 (pa_cons (pv 1) (pa_cons (pe_call (ok_law_passed (P := P) T) (hr.mono (by decide)) (by rfl) T.law_passed.g T.law_passed.F.kp T.law_passed.B .nil pass0 (pa_cons (pv 4) (pa_cons (pe_ix (w_ixL (K := K) rfl) (pv 3) pe_int (fun _ _ => rfl)) (pa_cons (pv 5) pa_nil)))) pa_nil))) (w_pgtup (K := K) (n := 2) rfl (by rfl) (pgs_cons (pg_name (i := 6) nd rfl (Or.inl rfl)) (pgs_cons (pg_name (i := 7) nd rfl (Or.inl rfl)) pgs_nil)) (by rfl) (by rfl)))
      (pss_cons (ps_set (i := 8) nd rfl (Or.inl rfl) (pe_slice (w_slL (K := K) rfl) (pv 5) po_none (po_some (pv 6))))
      (pss_cons (ps_set (i := 9) nd rfl (Or.inl rfl) (pe_slice (w_slL (K := K) rfl) (pv 5) (po_some (pv 6)) (po_some (pv 7))))
      (pss_cons (ps_if (pt_cmpR op_eq (pv 2) pe_int (nomark _)) (pss_one (ps_set (i := 8) nd rfl (Or.inl rfl) (pe_call (ok_law_spoiled_run (P := P) T) (hr.mono (by decide)) (by rfl) T.law_spoiled_run.g T.law_spoiled_run.F.kp T.law_spoiled_run.B .nil pass0 (pa_cons (pv 1) (pa_cons (pv 8) (pa_cons (pe_call (ok_law_all_steps (P := P) T) (hr.mono (by decide)) (by rfl) T.law_all_steps.g T.law_all_steps.F.kp T.law_all_steps.B .nil pass0 (pa_cons (pv 4) pa_nil)) pa_nil)))))) pss_nil)
      (pss_cons (ps_if (pt_cmpR op_eq (pv 2) pe_int (nomark _)) (pss_one (ps_set (i := 9) nd rfl (Or.inl rfl) (pe_call (ok_law_spoiled_run (P := P) T) (hr.mono (by decide)) (by rfl) T.law_spoiled_run.g T.law_spoiled_run.F.kp T.law_spoiled_run.B .nil pass0 (pa_cons (pv 1) (pa_cons (pv 9) (pa_cons (pe_call (ok_law_all_steps (P := P) T) (hr.mono (by decide)) (by rfl) T.law_all_steps.g T.law_all_steps.F.kp T.law_all_steps.B .nil pass0 (pa_cons (pv 4) pa_nil)) pa_nil)))))) pss_nil)
      (pss_cons (ps_set (i := 10) nd rfl (Or.inl rfl) (pe_tup (pa_cons (pe_call (ok_law_row (P := P) T) (hr.mono (by decide)) (by rfl) T.law_row.g T.law_row.F.kp T.law_row.B .nil pass0 (pa_cons (pv 1) (pa_cons (pv 8) pa_nil))) (pa_cons (pe_call (ok_law_row (P := P) T) (hr.mono (by decide)) (by rfl) T.law_row.g T.law_row.F.kp T.law_row.B .nil pass0 (pa_cons (pv 1) (pa_cons (pv 9) pa_nil))) pa_nil))))
      (pss_cons (ps_if (pt_cmpR op_eq (pv 2) pe_int (nomark _)) (pss_one (ps_set (i := 10) nd rfl (Or.inl rfl) (pe_ix (w_ixL (K := K) rfl) (pe_lst (pa_cons (pe_callTy (w_list (K := K) rfl) (by rfl) T.b_list (by decide +kernel) (pa_cons (pv 10) pa_nil)) (pa_cons (pe_op (w_catT (K := K) rfl) (pv 10) (pe_tup (pa_cons (pe_lst pa_nil) pa_nil))) (pa_cons (pe_slice (w_slT (K := K) rfl) (pv 10) po_none (po_some pe_int)) (pa_cons (pe_tup (pa_cons (pe_call (ok_law_thing (P := P) T) (hr.mono (by decide)) (by rfl) T.law_thing.g T.law_thing.F.kp T.law_thing.B .nil pass0 (pa_cons (pv 1) pa_nil)) (pa_cons (pe_ix (w_ixT (K := K) rfl) (pv 10) pe_int (fun _ _ => rfl)) pa_nil))) (pa_cons (pe_tup (pa_cons (pe_ix (w_ixT (K := K) rfl) (pv 10) pe_int (fun _ _ => rfl)) (pa_cons (pe_call (ok_law_thing (P := P) T) (hr.mono (by decide)) (by rfl) T.law_thing.g T.law_thing.F.kp T.law_thing.B .nil pass0 (pa_cons (pv 1) pa_nil)) pa_nil))) (pa_cons (pe_call (ok_law_thing (P := P) T) (hr.mono (by decide)) (by rfl) T.law_thing.g T.law_thing.F.kp T.law_thing.B .nil pass0 (pa_cons (pv 1) pa_nil)) (pa_cons (pe_tup (pa_cons (pe_ix (w_ixT (K := K) rfl) (pv 10) pe_int (fun _ _ => rfl)) (pa_cons (pe_ix (w_ixT (K := K) rfl) (pv 10) pe_int (fun _ _ => rfl)) pa_nil))) (pa_cons (pe_tup (pa_cons (pv 5) (pa_cons (pe_tup pa_nil) pa_nil))) pa_nil))))))))) (pe_call (ok_law_draw (P := P) T) (hr.mono (by decide)) (by rfl) T.law_draw.g T.law_draw.F.kp T.law_draw.B .nil pass0 (pa_cons (pv 1) (pa_cons pe_int pa_nil))) (fun _ _ => rfl)))) pss_nil)
      (pss_cons (ps_set (i := 11) nd rfl (Or.inl rfl) (pe_callB (ReR.cr_repr hg hr.units hsy) (by rfl) T.b_repr (by decide +kernel) (pa_cons (pv 10) pa_nil)))
      (pss_cons (ps_set (i := 12) nd rfl (Or.inl rfl) (pe_call (ok_is_ring (P := P) T) (hr.mono (by decide)) (by rfl) T.is_ring.g T.is_ring.F.kp T.is_ring.B .nil pass0 (pa_cons (pe_call (ok_law_work (P := P) T) (hr.mono (by decide)) (by rfl) T.law_work.g T.law_work.F.kp T.law_work.B .nil pass0 (pa_cons (pv 3) pa_nil)) (pa_cons (pv 10) pa_nil))))
      (pss_one (ps_ret (pe_and (pe_callB (w_isi (K := K) rfl) (by rfl) T.b_isinstance (by decide +kernel) (pa_cons (pv 12) (pa_cons (pe_bltn (v := .ty "bool") (by rfl) T.b_bool (by decide +kernel) rfl) pa_nil))) (pe_and (pe_cmpR op_eq (pv 12) (pe_call (ok_law_is_ring (P := P) T) (hr.mono (by decide)) (by rfl) T.law_is_ring.g T.law_is_ring.F.kp T.law_is_ring.B .nil pass0 (pa_cons (pv 4) (pa_cons (pe_ix (w_ixL (K := K) rfl) (pv 3) pe_int (fun _ _ => rfl)) (pa_cons (pv 10) pa_nil)))) (nomark _)) (pe_one (pe_cmpR op_eq (pe_callB (ReR.cr_repr hg hr.units hsy) (by rfl) T.b_repr (by decide +kernel) (pa_cons (pv 10) pa_nil)) (pv 11) (nomark _))))))))))))))))))))), ?_⟩
  refine x_start (σ' := [some _, none, none, none, none, none, none, none, none, none, none, none, none]) rfl ?_
  try simp only [cx_n, cx_K, cx_w, cx_P]
  walk_at "rd"
  refine ⟨a, ns, rfl, ha, hlen, fun p H1 hp s1 p1 => ?_⟩
  walk_at "rd"
  refine ⟨p, 8, rfl, p1, by decide, by decide, fun spl H2 sp0 sp1 s2 p2 => ?_⟩
  walk_at "rd"
  refine ⟨p, 7, false, rfl, p2, by decide, by decide, fun q H3 hands start d sts wd wl e hq s3 p3 eq rd ok _ _ _ _ _ _ => ?_⟩
  walk_at "rd"
  refine x_ixL (sqL eq) (atI_nat (j := 2) rfl) ?_
  walk_at "rd"
  have C := ok.closed
  have nqp : q ≠ p := fun e => p2.there (e ▸ hq)
  have rdp : rD (rStand K) (hid [p] H3) (.ref d) sts := mono_D (mono_stand K) _ _ _ _ (le_hid2 (by simp)) rd
  refine x_ixL (sqL eq) (atI_nat (j := 1) rfl) ?_
  walk_at "rd"
  refine ⟨p, d, start, 14, sts, rfl, p3, rdp, C, ok.st, by decide, by decide, fun rl H4 run hrl s4 p4 erl lrl R ins => ?_⟩
  have nrp : rl ≠ p := fun e => p3.there (e ▸ hrl)
  have eq4 := s4 _ _ (by simpa using nqp) eq
  have rd4 : rD (rStand K) (hid [p] H4) (.ref d) sts := mono_D (mono_stand K) _ _ _ _ s4.le rdp
  clear rd rdp eq
  walk_at "rd"
  refine x_ixL (sqL eq4) (atI_nat (j := 1) rfl) ?_
  walk_at "rd"
  refine ⟨d, rl, start, run, sts, rfl, mono_D (mono_stand K) _ _ _ _ le_hid rd4, C, ok.st, erl, by omega, R, fun tr H5 htr s5 etr => ?_⟩
  walk_at "rd"
  have tlen : (trail sts start run).length = run.length + 1 := upN_len _ _
  refine ⟨p, tr, trail sts start run, rfl, p4.sx s5 List.not_mem_nil, (fun z => p4.there (z ▸ htr)), etr, by omega, by omega, fun ct i j H6 s6 p6 ect i0 ij jl => ?_⟩
  refine x_gtup (sqT ect) rfl ?_
  have s46 : SX [p] H4 H6 := (nil_sx s5).trans s6
  have erl6 := s46 _ _ (by simpa using nrp) erl
  walk_at "rd"
  refine ⟨rl, _, rfl, sqL erl6, fun ah nah => ?_⟩
  obtain ⟨m1, ec1, im1, lm1⟩ := cut_strs run none (some i)
  rw [ec1]
  have s7 : SX [] H6 (upd H6 ah (.lst (m1.map V.str))) := SX.new nah
  have eah : (upd H6 ah (.lst (m1.map V.str))) ah = some (.lst (m1.map V.str)) := upd_same
  have nahp : ah ≠ p := out_p p6 (SX.refl H6) nah
  have p7 := p6.sx s7 List.not_mem_nil
  generalize upd H6 ah (.lst (m1.map V.str)) = H7 at s7 eah p7
  walk_at "rd"
  refine ⟨rl, _, rfl, sqL (s7 _ _ List.not_mem_nil erl6), fun be nbe => ?_⟩
  obtain ⟨m2, ec2, im2, lm2⟩ := cut_strs run (some i) (some j)
  rw [ec2]
  have s8 : SX [] H7 (upd H7 be (.lst (m2.map V.str))) := SX.new nbe
  have ebe : (upd H7 be (.lst (m2.map V.str))) be = some (.lst (m2.map V.str)) := upd_same
  have nbep : be ≠ p := out_p p7 (SX.refl H7) nbe
  have p8 := p7.sx s8 List.not_mem_nil
  have eah8 := s8 _ _ List.not_mem_nil eah
  generalize upd H7 be (.lst (m2.map V.str)) = H8 at s8 ebe p8 eah8
  have s48 : SX [p] H4 H8 := s46.trans ((nil_sx s7).trans (nil_sx s8))
  have eq8 := s48 _ _ (by simpa using nqp) eq4
  have rd8 : rD (rStand K) (hid [p] H8) (.ref d) sts := mono_D (mono_stand K) _ _ _ _ s48.le rd4
  have erl8 := s48 _ _ (by simpa using nrp) erl
  have okrun : ∀ s ∈ run, nameB s = true := fun s hs => by
    obtain ⟨z, hz, m⟩ := ins s hs
    exact rows_nameR (ok.all z hz).2 m
  have ok1 : ∀ s ∈ m1, nameB s = true := fun s hs => okrun s (im1 s hs)
  have ok2 : ∀ s ∈ m2, nameB s = true := fun s hs => okrun s (im2 s hs)
  have d1 : DpDs (hid [p] H8) (m1.map V.str) (m1.map PyData.str) := ReR.DpDs.strs m1
  have d2 : DpDs (hid [p] H8) (m2.map V.str) (m2.map PyData.str) := ReR.DpDs.strs m2
  have l1 : (m1.map V.str).length ≤ 300 := by rw [List.length_map]; omega
  have l2 : (m2.map V.str).length ≤ 300 := by rw [List.length_map]; omega
  have i1 := itm_strs ok1
  have i2 := itm_strs ok2
  have nds : ∀ z ∈ sts, z.2.nd := fun z hz => (C.all z hz).1
  have szT : ∀ tbl, Tbl sts tbl → ∀ z ∈ tbl, z.2.size ≤ 4 := fun tbl tb z hz => by
    obtain ⟨st, e1, ss⟩ := tb.all z hz
    rw [ss.size]
    exact (C.all _ (lookA_mem e1)).2.1
  have shut : ∀ tbl, Tbl sts tbl → ShutAt tbl start := fun tbl tb run2 R2 => by
    have R3 := (run_back tb nds).mp R2
    have := at_key (fun q hq => (C.all q hq).2.2) ok.st R3 run2.length (Nat.le_refl _)
    rw [List.take_length] at this
    obtain ⟨st, e1⟩ := lookA_some this
    obtain ⟨st', e2, _⟩ := tb.look e1
    exact ⟨st', by rw [tb.atF nds]; exact e2⟩
  walk_at "rd"
  have four : spl = 1 ∨ spl = 2 ∨ spl = 3 ∨ (spl ≠ 1 ∧ spl ≠ 2 ∧ spl ≠ 3) := by omega
  rcases four with rfl | rfl | rfl | ⟨n1, n2, n3⟩
  · refine x_true (by decide) ?_
    walk_at "rd"
    refine ⟨d, sts, rfl, mono_D (mono_stand K) _ _ _ _ le_hid rd8, C, fun sl G1 zs sg1 esl lzs izs => ?_⟩
    walk_at "rd"
    have pg1 := p8.sx sg1 List.not_mem_nil
    have okz : ∀ s ∈ zs, nameB s = true := fun s hs => by
      obtain ⟨z, hz, m⟩ := izs s hs
      exact rows_nameR (ok.all z hz).2 m
    refine ⟨p, ah, sl, m1, zs, rfl, pg1, nahp, ne_pool pg1 esl, sg1 _ _ List.not_mem_nil eah8, esl, by omega, by omega, ok1, okz, fun sq xs ds G2 sg2 pg2 nsq esq dsq oksq lsq => ?_⟩
    walk_at "rd"
    have sg : SX [p] H8 G2 := (nil_sx sg1).trans sg2
    refine x_false (by decide) ?_
    walk_at "rd"
    refine ⟨p, sq, _, rfl, pg2, nsq, esq, by omega, fun r1 B1 nr1 sb1 pb1 er1 => ?_⟩
    walk_at "rd"
    refine ⟨p, be, _, rfl, pb1, nbep, sb1 _ _ (by simpa using nbep) (sg _ _ (by simpa using nbep) ebe), by omega, fun r2 B2 nr2 sb2 pb2 er2 => ?_⟩
    walk_at "rd"
    refine ⟨Nat.le_of_ble_eq_true rfl, fun t nt => ?_⟩
    have nr1p : r1 ≠ p := fun z => (pg2).there (z ▸ nr1)
    have nr2p : r2 ≠ p := fun z => pb1.there (z ▸ nr2)
    have ntp : t ≠ p := out_p pb2 (SX.refl B2) nt
    have sb3 : SX [p] B2 (upd B2 t (.tup [.ref r1, .ref r2])) := SX.new nt
    have et : (upd B2 t (.tup [.ref r1, .ref r2])) t = some (.tup [.ref r1, .ref r2]) := upd_same
    have pb3 : Pool (upd B2 t (.tup [.ref r1, .ref r2])) p := pb2.sx (SX.new (S := []) nt) List.not_mem_nil
    have k1 : Rok B1 p (.ref r1) := rok_row nr1p er1 (ReR.DpDs.sx sb1 dsq) oksq lsq
    have k2 : Rok B2 p (.ref r2) := rok_row nr2p er2 (ReR.DpDs.sx (sb1.trans sb2) (ReR.DpDs.sx sg d2)) i2 l2
    have k13 := (k1.sx sb2).sx sb3
    have k23 := k2.sx sb3
    have vt := vok_pair ntp et k13 k23
    have s8B : SX [p] H8 (upd B2 t (.tup [.ref r1, .ref r2])) := (sg).trans (sb1.trans (sb2.trans sb3))
    generalize upd B2 t (.tup [.ref r1, .ref r2]) = B3 at sb3 et pb3 k13 k23 vt s8B
    walk_at "rd"
    refine x_false (by decide) ?_
    walk_at "rd"
    obtain ⟨td, hd, okd, shd⟩ := vt
    have eqF := s8B _ _ (by simpa using nqp) eq8
    have rdF : rD (rStand K) B3 (.ref d) sts := mono_D (mono_stand K) _ _ _ _ ((SX.le s8B).trans le_hid) rd8
    have hdF := hd.out
    refine ⟨_, td, rfl, hdF, okd, ?_⟩
    walk_at "rd"
    refine ⟨q, hands, start, d, _, sts, rfl, sqL eqF, rdF, ok, fun x C1 tbl sc1 wa tb => ?_⟩
    walk_at "rd"
    refine ⟨x, hands, start, tbl, _, td, rfl, wa, hdF.nil sc1, shd, shut tbl tb, szT tbl tb, fun rg C2 sc2 => ?_, fun rg C2 sc2 => ?_⟩
    · walk_at "rd"
      refine x_isiT (.base (.bl _)) (by decide +kernel) ?_
      walk_at "rd"
      have sc := sc1.trans sc2
      refine x_ixL (sqL (sc _ _ List.not_mem_nil eqF)) (atI_nat (j := 1) rfl) ?_
      walk_at "rd"
      refine ⟨d, start, sts, _, td, rfl, mono_D (mono_stand K) _ _ _ _ sc.le0 rdF, C, ok.st, hdF.nil sc, shd, fun rg2 C3 sc3 => ?_, fun rg2 C3 sc3 => ?_⟩
      · walk_at "rd"
        refine x_true (by decide) ?_
        walk_at "rd"
        refine ⟨_, td, rfl, hdF.nil (sc.trans sc3), okd, ?_⟩
        walk_at "rd"
        rw [decide_eq_true rfl]
        exact k _
      · exact absurd ((ring_tbl tb nds).mp rg) rg2
    · walk_at "rd"
      refine x_isiT (.base (.bl _)) (by decide +kernel) ?_
      walk_at "rd"
      have sc := sc1.trans sc2
      refine x_ixL (sqL (sc _ _ List.not_mem_nil eqF)) (atI_nat (j := 1) rfl) ?_
      walk_at "rd"
      refine ⟨d, start, sts, _, td, rfl, mono_D (mono_stand K) _ _ _ _ sc.le0 rdF, C, ok.st, hdF.nil sc, shd, fun rg2 C3 sc3 => ?_, fun rg2 C3 sc3 => ?_⟩
      · exact absurd ((ring_tbl tb nds).mpr rg2) rg
      · walk_at "rd"
        refine x_true (by decide) ?_
        walk_at "rd"
        refine ⟨_, td, rfl, hdF.nil (sc.trans sc3), okd, ?_⟩
        walk_at "rd"
        rw [decide_eq_true rfl]
        exact k _
  · refine x_false (by decide) ?_
    walk_at "rd"
    refine x_true (by decide) ?_
    walk_at "rd"
    refine ⟨d, sts, rfl, mono_D (mono_stand K) _ _ _ _ le_hid rd8, C, fun sl G1 zs sg1 esl lzs izs => ?_⟩
    walk_at "rd"
    have pg1 := p8.sx sg1 List.not_mem_nil
    have okz : ∀ s ∈ zs, nameB s = true := fun s hs => by
      obtain ⟨z, hz, m⟩ := izs s hs
      exact rows_nameR (ok.all z hz).2 m
    refine ⟨p, be, sl, m2, zs, rfl, pg1, nbep, ne_pool pg1 esl, sg1 _ _ List.not_mem_nil ebe, esl, by omega, by omega, ok2, okz, fun sq xs ds G2 sg2 pg2 nsq esq dsq oksq lsq => ?_⟩
    walk_at "rd"
    have sg : SX [p] H8 G2 := (nil_sx sg1).trans sg2
    refine ⟨p, ah, _, rfl, pg2, nahp, (sg _ _ (by simpa using nahp) eah8), by omega, fun r1 B1 nr1 sb1 pb1 er1 => ?_⟩
    walk_at "rd"
    refine ⟨p, sq, _, rfl, pb1, nsq, sb1 _ _ (by simpa using nsq) esq, by omega, fun r2 B2 nr2 sb2 pb2 er2 => ?_⟩
    walk_at "rd"
    refine ⟨Nat.le_of_ble_eq_true rfl, fun t nt => ?_⟩
    have nr1p : r1 ≠ p := fun z => (pg2).there (z ▸ nr1)
    have nr2p : r2 ≠ p := fun z => pb1.there (z ▸ nr2)
    have ntp : t ≠ p := out_p pb2 (SX.refl B2) nt
    have sb3 : SX [p] B2 (upd B2 t (.tup [.ref r1, .ref r2])) := SX.new nt
    have et : (upd B2 t (.tup [.ref r1, .ref r2])) t = some (.tup [.ref r1, .ref r2]) := upd_same
    have pb3 : Pool (upd B2 t (.tup [.ref r1, .ref r2])) p := pb2.sx (SX.new (S := []) nt) List.not_mem_nil
    have k1 : Rok B1 p (.ref r1) := rok_row nr1p er1 (ReR.DpDs.sx sb1 (ReR.DpDs.sx sg d1)) i1 l1
    have k2 : Rok B2 p (.ref r2) := rok_row nr2p er2 (ReR.DpDs.sx (sb1.trans sb2) dsq) oksq lsq
    have k13 := (k1.sx sb2).sx sb3
    have k23 := k2.sx sb3
    have vt := vok_pair ntp et k13 k23
    have s8B : SX [p] H8 (upd B2 t (.tup [.ref r1, .ref r2])) := (sg).trans (sb1.trans (sb2.trans sb3))
    generalize upd B2 t (.tup [.ref r1, .ref r2]) = B3 at sb3 et pb3 k13 k23 vt s8B
    walk_at "rd"
    refine x_false (by decide) ?_
    walk_at "rd"
    obtain ⟨td, hd, okd, shd⟩ := vt
    have eqF := s8B _ _ (by simpa using nqp) eq8
    have rdF : rD (rStand K) B3 (.ref d) sts := mono_D (mono_stand K) _ _ _ _ ((SX.le s8B).trans le_hid) rd8
    have hdF := hd.out
    refine ⟨_, td, rfl, hdF, okd, ?_⟩
    walk_at "rd"
    refine ⟨q, hands, start, d, _, sts, rfl, sqL eqF, rdF, ok, fun x C1 tbl sc1 wa tb => ?_⟩
    walk_at "rd"
    refine ⟨x, hands, start, tbl, _, td, rfl, wa, hdF.nil sc1, shd, shut tbl tb, szT tbl tb, fun rg C2 sc2 => ?_, fun rg C2 sc2 => ?_⟩
    · walk_at "rd"
      refine x_isiT (.base (.bl _)) (by decide +kernel) ?_
      walk_at "rd"
      have sc := sc1.trans sc2
      refine x_ixL (sqL (sc _ _ List.not_mem_nil eqF)) (atI_nat (j := 1) rfl) ?_
      walk_at "rd"
      refine ⟨d, start, sts, _, td, rfl, mono_D (mono_stand K) _ _ _ _ sc.le0 rdF, C, ok.st, hdF.nil sc, shd, fun rg2 C3 sc3 => ?_, fun rg2 C3 sc3 => ?_⟩
      · walk_at "rd"
        refine x_true (by decide) ?_
        walk_at "rd"
        refine ⟨_, td, rfl, hdF.nil (sc.trans sc3), okd, ?_⟩
        walk_at "rd"
        rw [decide_eq_true rfl]
        exact k _
      · exact absurd ((ring_tbl tb nds).mp rg) rg2
    · walk_at "rd"
      refine x_isiT (.base (.bl _)) (by decide +kernel) ?_
      walk_at "rd"
      have sc := sc1.trans sc2
      refine x_ixL (sqL (sc _ _ List.not_mem_nil eqF)) (atI_nat (j := 1) rfl) ?_
      walk_at "rd"
      refine ⟨d, start, sts, _, td, rfl, mono_D (mono_stand K) _ _ _ _ sc.le0 rdF, C, ok.st, hdF.nil sc, shd, fun rg2 C3 sc3 => ?_, fun rg2 C3 sc3 => ?_⟩
      · exact absurd ((ring_tbl tb nds).mpr rg2) rg
      · walk_at "rd"
        refine x_true (by decide) ?_
        walk_at "rd"
        refine ⟨_, td, rfl, hdF.nil (sc.trans sc3), okd, ?_⟩
        walk_at "rd"
        rw [decide_eq_true rfl]
        exact k _
  · refine x_false (by decide) ?_
    walk_at "rd"
    refine x_false (by decide) ?_
    walk_at "rd"
    refine ⟨p, ah, _, rfl, p8, nahp, eah8, by omega, fun r1 B1 nr1 sb1 pb1 er1 => ?_⟩
    walk_at "rd"
    refine ⟨p, be, _, rfl, pb1, nbep, sb1 _ _ (by simpa using nbep) ebe, by omega, fun r2 B2 nr2 sb2 pb2 er2 => ?_⟩
    walk_at "rd"
    refine ⟨Nat.le_of_ble_eq_true rfl, fun t nt => ?_⟩
    have nr1p : r1 ≠ p := fun z => (p8).there (z ▸ nr1)
    have nr2p : r2 ≠ p := fun z => pb1.there (z ▸ nr2)
    have ntp : t ≠ p := out_p pb2 (SX.refl B2) nt
    have sb3 : SX [p] B2 (upd B2 t (.tup [.ref r1, .ref r2])) := SX.new nt
    have et : (upd B2 t (.tup [.ref r1, .ref r2])) t = some (.tup [.ref r1, .ref r2]) := upd_same
    have pb3 : Pool (upd B2 t (.tup [.ref r1, .ref r2])) p := pb2.sx (SX.new (S := []) nt) List.not_mem_nil
    have k1 : Rok B1 p (.ref r1) := rok_row nr1p er1 (ReR.DpDs.sx sb1 d1) i1 l1
    have k2 : Rok B2 p (.ref r2) := rok_row nr2p er2 (ReR.DpDs.sx (sb1.trans sb2) d2) i2 l2
    have k13 := (k1.sx sb2).sx sb3
    have k23 := k2.sx sb3
    have vt := vok_pair ntp et k13 k23
    have s8B : SX [p] H8 (upd B2 t (.tup [.ref r1, .ref r2])) := ((SX.refl H8)).trans (sb1.trans (sb2.trans sb3))
    generalize upd B2 t (.tup [.ref r1, .ref r2]) = B3 at sb3 et pb3 k13 k23 vt s8B
    walk_at "rd"
    refine x_true (by decide) ?_
    walk_at "rd"
    refine x_clistT (sqT et) fun z1 nz1 => ?_
    have sn1 : SX [p] B3 (upd B3 z1 (.lst [.ref r1, .ref r2])) := SX.new nz1
    have en1 : (upd B3 z1 (.lst [.ref r1, .ref r2])) z1 = some (.lst [.ref r1, .ref r2]) := upd_same
    have pn1 : Pool (upd B3 z1 (.lst [.ref r1, .ref r2])) p := pb3.sx (SX.new (S := []) nz1) List.not_mem_nil
    have ne1 : z1 ≠ p := out_p pb3 (SX.refl B3) nz1
    generalize upd B3 z1 (.lst [.ref r1, .ref r2]) = D1 at sn1 en1 pn1
    walk_at "rd"
    refine ⟨Nat.le_of_ble_eq_true rfl, fun z2 nz2 => ?_⟩
    have sn2 : SX [p] D1 (upd D1 z2 (.lst [])) := SX.new nz2
    have en2 : (upd D1 z2 (.lst [])) z2 = some (.lst []) := upd_same
    have pn2 : Pool (upd D1 z2 (.lst [])) p := pn1.sx (SX.new (S := []) nz2) List.not_mem_nil
    have ne2 : z2 ≠ p := out_p pn1 (SX.refl D1) nz2
    generalize upd D1 z2 (.lst []) = D2 at sn2 en2 pn2
    walk_at "rd"
    refine ⟨Nat.le_of_ble_eq_true rfl, fun z3 nz3 => ?_⟩
    have sn3 : SX [p] D2 (upd D2 z3 (.tup [.ref z2])) := SX.new nz3
    have en3 : (upd D2 z3 (.tup [.ref z2])) z3 = some (.tup [.ref z2]) := upd_same
    have pn3 : Pool (upd D2 z3 (.tup [.ref z2])) p := pn2.sx (SX.new (S := []) nz3) List.not_mem_nil
    have ne3 : z3 ≠ p := out_p pn2 (SX.refl D2) nz3
    generalize upd D2 z3 (.tup [.ref z2]) = D3 at sn3 en3 pn3
    walk_at "rd"
    have s3D : SX [p] B3 D3 := sn1.trans (sn2.trans sn3)
    have et3 := s3D _ _ (by simpa using ntp) et
    refine ⟨t, z3, _, _, rfl, rfl, sqT et3, sqT en3, Nat.le_of_ble_eq_true rfl, (fun h => nomatch h), (fun _ h => nomatch h), fun _ _ z4 nz4 => ?_⟩
    have sn4 : SX [p] D3 (upd D3 z4 (.tup ([.ref r1, .ref r2] ++ [.ref z2]))) := SX.new nz4
    have en4 : (upd D3 z4 (.tup ([.ref r1, .ref r2] ++ [.ref z2]))) z4 = some (.tup ([.ref r1, .ref r2] ++ [.ref z2])) := upd_same
    have pn4 : Pool (upd D3 z4 (.tup ([.ref r1, .ref r2] ++ [.ref z2]))) p := pn3.sx (SX.new (S := []) nz4) List.not_mem_nil
    have ne4 : z4 ≠ p := out_p pn3 (SX.refl D3) nz4
    generalize upd D3 z4 (.tup ([.ref r1, .ref r2] ++ [.ref z2])) = D4 at sn4 en4 pn4
    walk_at "rd"
    have et4 := sn4 _ _ (by simpa using ntp) et3
    refine ⟨t, _, rfl, sqT et4, (fun h => absurd h.2 (show ¬ (1 = 2) by decide)), fun _ z5 nz5 => ?_⟩
    have sn5 : SX [p] D4 (upd D4 z5 (.tup (cutV [.ref r1, .ref r2] none (some 1)))) := SX.new nz5
    have en5 : (upd D4 z5 (.tup (cutV [.ref r1, .ref r2] none (some 1)))) z5 = some (.tup (cutV [.ref r1, .ref r2] none (some 1))) := upd_same
    have pn5 : Pool (upd D4 z5 (.tup (cutV [.ref r1, .ref r2] none (some 1)))) p := pn4.sx (SX.new (S := []) nz5) List.not_mem_nil
    have ne5 : z5 ≠ p := out_p pn4 (SX.refl D4) nz5
    generalize upd D4 z5 (.tup (cutV [.ref r1, .ref r2] none (some 1))) = D5 at sn5 en5 pn5
    walk_at "rd"
    have et5 := sn5 _ _ (by simpa using ntp) et4
    refine ⟨p, rfl, pn5, fun v6 D6 o6 s6x p6x => ?_⟩
    walk_at "rd"
    have et6 := s6x _ _ (by simpa using ntp) et5
    refine x_ixT (sqT et6) (atI_nat (j := 1) rfl) ?_
    walk_at "rd"
    refine ⟨Nat.le_of_ble_eq_true rfl, fun z7 nz7 => ?_⟩
    have sn7 : SX [p] D6 (upd D6 z7 (.tup [v6, .ref r2])) := SX.new nz7
    have en7 : (upd D6 z7 (.tup [v6, .ref r2])) z7 = some (.tup [v6, .ref r2]) := upd_same
    have pn7 : Pool (upd D6 z7 (.tup [v6, .ref r2])) p := p6x.sx (SX.new (S := []) nz7) List.not_mem_nil
    have ne7 : z7 ≠ p := out_p p6x (SX.refl D6) nz7
    generalize upd D6 z7 (.tup [v6, .ref r2]) = D7 at sn7 en7 pn7
    walk_at "rd"
    have et7 := sn7 _ _ (by simpa using ntp) et6
    refine x_ixT (sqT et7) (atI_nat (j := 0) rfl) ?_
    walk_at "rd"
    refine ⟨p, rfl, pn7, fun v8 D8 o8 s8x p8x => ?_⟩
    walk_at "rd"
    have et8 := s8x _ _ (by simpa using ntp) et7
    refine ⟨Nat.le_of_ble_eq_true rfl, fun z9 nz9 => ?_⟩
    have sn9 : SX [p] D8 (upd D8 z9 (.tup [.ref r1, v8])) := SX.new nz9
    have en9 : (upd D8 z9 (.tup [.ref r1, v8])) z9 = some (.tup [.ref r1, v8]) := upd_same
    have pn9 : Pool (upd D8 z9 (.tup [.ref r1, v8])) p := p8x.sx (SX.new (S := []) nz9) List.not_mem_nil
    have ne9 : z9 ≠ p := out_p p8x (SX.refl D8) nz9
    generalize upd D8 z9 (.tup [.ref r1, v8]) = D9 at sn9 en9 pn9
    walk_at "rd"
    have et9 := sn9 _ _ (by simpa using ntp) et8
    refine ⟨p, rfl, pn9, fun v10 D10 o10 s10x p10x => ?_⟩
    walk_at "rd"
    have et10 := s10x _ _ (by simpa using ntp) et9
    refine x_ixT (sqT et10) (atI_nat (j := 1) rfl) ?_
    walk_at "rd"
    refine x_ixT (sqT et10) (atI_nat (j := 0) rfl) ?_
    walk_at "rd"
    refine ⟨Nat.le_of_ble_eq_true rfl, fun z11 nz11 => ?_⟩
    have sn11 : SX [p] D10 (upd D10 z11 (.tup [.ref r2, .ref r1])) := SX.new nz11
    have en11 : (upd D10 z11 (.tup [.ref r2, .ref r1])) z11 = some (.tup [.ref r2, .ref r1]) := upd_same
    have pn11 : Pool (upd D10 z11 (.tup [.ref r2, .ref r1])) p := p10x.sx (SX.new (S := []) nz11) List.not_mem_nil
    have ne11 : z11 ≠ p := out_p p10x (SX.refl D10) nz11
    generalize upd D10 z11 (.tup [.ref r2, .ref r1]) = D11 at sn11 en11 pn11
    walk_at "rd"
    refine ⟨Nat.le_of_ble_eq_true rfl, fun z12 nz12 => ?_⟩
    have sn12 : SX [p] D11 (upd D11 z12 (.tup [])) := SX.new nz12
    have en12 : (upd D11 z12 (.tup [])) z12 = some (.tup []) := upd_same
    have pn12 : Pool (upd D11 z12 (.tup [])) p := pn11.sx (SX.new (S := []) nz12) List.not_mem_nil
    have ne12 : z12 ≠ p := out_p pn11 (SX.refl D11) nz12
    generalize upd D11 z12 (.tup []) = D12 at sn12 en12 pn12
    walk_at "rd"
    refine ⟨Nat.le_of_ble_eq_true rfl, fun z13 nz13 => ?_⟩
    have sn13 : SX [p] D12 (upd D12 z13 (.tup [.ref rl, .ref z12])) := SX.new nz13
    have en13 : (upd D12 z13 (.tup [.ref rl, .ref z12])) z13 = some (.tup [.ref rl, .ref z12]) := upd_same
    have pn13 : Pool (upd D12 z13 (.tup [.ref rl, .ref z12])) p := pn12.sx (SX.new (S := []) nz13) List.not_mem_nil
    have ne13 : z13 ≠ p := out_p pn12 (SX.refl D12) nz13
    generalize upd D12 z13 (.tup [.ref rl, .ref z12]) = D13 at sn13 en13 pn13
    walk_at "rd"
    let L8 : List V := [.ref z1, .ref z4, .ref z5, .ref z7, .ref z9, v10, .ref z11, .ref z13]
    have a12_13 := sn12.trans sn13
    have a11 := sn11.trans a12_13
    have a10 := s10x.trans a11
    have a9 := sn9.trans a10
    have a8 := s8x.trans a9
    have a7 := sn7.trans a8
    have a6 := s6x.trans a7
    have a5 := sn5.trans a6
    have a4 := sn4.trans a5
    have a3 := sn3.trans a4
    have a2 := sn2.trans a3
    have a1 := sn1.trans a2
    have R1 := k13.sx a1
    have R2 := k23.sx a1
    have R3 : Rok D13 p (.ref z2) := Rok.sx a3 ⟨_, .lst (hid_eq ne2 en2) .nil, row_of (.inl rfl) (fun _ h => nomatch h) (Nat.zero_le _)⟩
    have R12 : Rok D13 p (.ref z12) := Rok.sx sn13 ⟨_, .tup (hid_eq ne12 en12) .nil, row_of (.inr rfl) (fun _ h => nomatch h) (Nat.zero_le _)⟩
    have s8D : SX [p] H8 D13 := s8B.trans a1
    have Rrun : Rok D13 p (.ref rl) := rok_row nrp (.inl (s8D _ _ (by simpa using nrp) erl8)) (ReR.DpDs.strs run) (itm_strs okrun) (by rw [List.length_map]; omega)
    have V8 : ∀ v ∈ L8, Vok D13 p v := fun v hv => by
      simp only [L8, List.mem_cons, List.not_mem_nil, or_false] at hv
      rcases hv with rfl | rfl | rfl | rfl | rfl | rfl | rfl | rfl
      · exact vok_list ne1 (a2 _ _ (by simpa using ne1) en1) R1 R2
      · exact vok_three (z := .ref z2) ne4 (a5 _ _ (by simpa using ne4) (show _ = some (HO.tup [.ref r1, .ref r2, .ref z2]) from en4)) R1 R2 R3
      · exact vok_one (v := .ref r1) ne5 (a6 _ _ (by simpa using ne5) (show _ = some (HO.tup [.ref r1]) from en5)) R1
      · exact vok_pair ne7 (a8 _ _ (by simpa using ne7) en7) ((Odd.sx a7 o6).rok) R2
      · exact vok_pair ne9 (a10 _ _ (by simpa using ne9) en9) R1 ((Odd.sx a9 o8).rok)
      · exact (Odd.sx a11 o10).vok
      · exact vok_pair ne11 (a12_13 _ _ (by simpa using ne11) en11) R2 R1
      · exact vok_pair ne13 en13 Rrun R12
    refine ⟨Nat.le_of_ble_eq_true rfl, fun z14 nz14 => ?_⟩
    have l8 : L8.length = 8 := rfl
    have sn14 : SX [p] D13 (upd D13 z14 (.lst L8)) := SX.new nz14
    have en14 : (upd D13 z14 (.lst L8)) z14 = some (.lst L8) := upd_same
    have pn14 : Pool (upd D13 z14 (.lst L8)) p := pn13.sx (SX.new (S := []) nz14) List.not_mem_nil
    have ne14 : z14 ≠ p := out_p pn13 (SX.refl D13) nz14
    generalize upd D13 z14 (.lst L8) = D14 at sn14 en14 pn14
    clear_value L8
    walk_at "rd"
    refine ⟨p, 8, rfl, pn14, by decide, by decide, fun g D15 g0 g1 s15x p15x => ?_⟩
    obtain ⟨v, ev, mv⟩ := at_mem (xs := L8) g0 (by rw [l8]; exact g1)
    refine x_ixL (sqL (s15x _ _ (by simpa using ne14) en14)) ev ?_
    have vv : Vok D15 p v := ((V8 v mv).sx sn14).sx s15x
    have sF : SX [p] H8 D15 := s8D.trans (sn14.trans s15x)
    walk_at "rd"
    obtain ⟨td, hd, okd, shd⟩ := vv
    have eqF := sF _ _ (by simpa using nqp) eq8
    have rdF : rD (rStand K) D15 (.ref d) sts := mono_D (mono_stand K) _ _ _ _ ((SX.le sF).trans le_hid) rd8
    have hdF := hd.out
    refine ⟨_, td, rfl, hdF, okd, ?_⟩
    walk_at "rd"
    refine ⟨q, hands, start, d, _, sts, rfl, sqL eqF, rdF, ok, fun x C1 tbl sc1 wa tb => ?_⟩
    walk_at "rd"
    refine ⟨x, hands, start, tbl, _, td, rfl, wa, hdF.nil sc1, shd, shut tbl tb, szT tbl tb, fun rg C2 sc2 => ?_, fun rg C2 sc2 => ?_⟩
    · walk_at "rd"
      refine x_isiT (.base (.bl _)) (by decide +kernel) ?_
      walk_at "rd"
      have sc := sc1.trans sc2
      refine x_ixL (sqL (sc _ _ List.not_mem_nil eqF)) (atI_nat (j := 1) rfl) ?_
      walk_at "rd"
      refine ⟨d, start, sts, _, td, rfl, mono_D (mono_stand K) _ _ _ _ sc.le0 rdF, C, ok.st, hdF.nil sc, shd, fun rg2 C3 sc3 => ?_, fun rg2 C3 sc3 => ?_⟩
      · walk_at "rd"
        refine x_true (by decide) ?_
        walk_at "rd"
        refine ⟨_, td, rfl, hdF.nil (sc.trans sc3), okd, ?_⟩
        walk_at "rd"
        rw [decide_eq_true rfl]
        exact k _
      · exact absurd ((ring_tbl tb nds).mp rg) rg2
    · walk_at "rd"
      refine x_isiT (.base (.bl _)) (by decide +kernel) ?_
      walk_at "rd"
      have sc := sc1.trans sc2
      refine x_ixL (sqL (sc _ _ List.not_mem_nil eqF)) (atI_nat (j := 1) rfl) ?_
      walk_at "rd"
      refine ⟨d, start, sts, _, td, rfl, mono_D (mono_stand K) _ _ _ _ sc.le0 rdF, C, ok.st, hdF.nil sc, shd, fun rg2 C3 sc3 => ?_, fun rg2 C3 sc3 => ?_⟩
      · exact absurd ((ring_tbl tb nds).mpr rg2) rg
      · walk_at "rd"
        refine x_true (by decide) ?_
        walk_at "rd"
        refine ⟨_, td, rfl, hdF.nil (sc.trans sc3), okd, ?_⟩
        walk_at "rd"
        rw [decide_eq_true rfl]
        exact k _
  · refine x_false (by exact decide_eq_false fun h => n1 (by injection h)) ?_
    walk_at "rd"
    refine x_false (by exact decide_eq_false fun h => n2 (by injection h)) ?_
    walk_at "rd"
    refine ⟨p, ah, _, rfl, p8, nahp, eah8, by omega, fun r1 B1 nr1 sb1 pb1 er1 => ?_⟩
    walk_at "rd"
    refine ⟨p, be, _, rfl, pb1, nbep, sb1 _ _ (by simpa using nbep) ebe, by omega, fun r2 B2 nr2 sb2 pb2 er2 => ?_⟩
    walk_at "rd"
    refine ⟨Nat.le_of_ble_eq_true rfl, fun t nt => ?_⟩
    have nr1p : r1 ≠ p := fun z => (p8).there (z ▸ nr1)
    have nr2p : r2 ≠ p := fun z => pb1.there (z ▸ nr2)
    have ntp : t ≠ p := out_p pb2 (SX.refl B2) nt
    have sb3 : SX [p] B2 (upd B2 t (.tup [.ref r1, .ref r2])) := SX.new nt
    have et : (upd B2 t (.tup [.ref r1, .ref r2])) t = some (.tup [.ref r1, .ref r2]) := upd_same
    have pb3 : Pool (upd B2 t (.tup [.ref r1, .ref r2])) p := pb2.sx (SX.new (S := []) nt) List.not_mem_nil
    have k1 : Rok B1 p (.ref r1) := rok_row nr1p er1 (ReR.DpDs.sx sb1 d1) i1 l1
    have k2 : Rok B2 p (.ref r2) := rok_row nr2p er2 (ReR.DpDs.sx (sb1.trans sb2) d2) i2 l2
    have k13 := (k1.sx sb2).sx sb3
    have k23 := k2.sx sb3
    have vt := vok_pair ntp et k13 k23
    have s8B : SX [p] H8 (upd B2 t (.tup [.ref r1, .ref r2])) := ((SX.refl H8)).trans (sb1.trans (sb2.trans sb3))
    generalize upd B2 t (.tup [.ref r1, .ref r2]) = B3 at sb3 et pb3 k13 k23 vt s8B
    walk_at "rd"
    refine x_false (by exact decide_eq_false fun h => n3 (by injection h)) ?_
    walk_at "rd"
    obtain ⟨td, hd, okd, shd⟩ := vt
    have eqF := s8B _ _ (by simpa using nqp) eq8
    have rdF : rD (rStand K) B3 (.ref d) sts := mono_D (mono_stand K) _ _ _ _ ((SX.le s8B).trans le_hid) rd8
    have hdF := hd.out
    refine ⟨_, td, rfl, hdF, okd, ?_⟩
    walk_at "rd"
    refine ⟨q, hands, start, d, _, sts, rfl, sqL eqF, rdF, ok, fun x C1 tbl sc1 wa tb => ?_⟩
    walk_at "rd"
    refine ⟨x, hands, start, tbl, _, td, rfl, wa, hdF.nil sc1, shd, shut tbl tb, szT tbl tb, fun rg C2 sc2 => ?_, fun rg C2 sc2 => ?_⟩
    · walk_at "rd"
      refine x_isiT (.base (.bl _)) (by decide +kernel) ?_
      walk_at "rd"
      have sc := sc1.trans sc2
      refine x_ixL (sqL (sc _ _ List.not_mem_nil eqF)) (atI_nat (j := 1) rfl) ?_
      walk_at "rd"
      refine ⟨d, start, sts, _, td, rfl, mono_D (mono_stand K) _ _ _ _ sc.le0 rdF, C, ok.st, hdF.nil sc, shd, fun rg2 C3 sc3 => ?_, fun rg2 C3 sc3 => ?_⟩
      · walk_at "rd"
        refine x_true (by decide) ?_
        walk_at "rd"
        refine ⟨_, td, rfl, hdF.nil (sc.trans sc3), okd, ?_⟩
        walk_at "rd"
        rw [decide_eq_true rfl]
        exact k _
      · exact absurd ((ring_tbl tb nds).mp rg) rg2
    · walk_at "rd"
      refine x_isiT (.base (.bl _)) (by decide +kernel) ?_
      walk_at "rd"
      have sc := sc1.trans sc2
      refine x_ixL (sqL (sc _ _ List.not_mem_nil eqF)) (atI_nat (j := 1) rfl) ?_
      walk_at "rd"
      refine ⟨d, start, sts, _, td, rfl, mono_D (mono_stand K) _ _ _ _ sc.le0 rdF, C, ok.st, hdF.nil sc, shd, fun rg2 C3 sc3 => ?_, fun rg2 C3 sc3 => ?_⟩
      · exact absurd ((ring_tbl tb nds).mpr rg2) rg
      · walk_at "rd"
        refine x_true (by decide) ?_
        walk_at "rd"
        refine ⟨_, td, rfl, hdF.nil (sc.trans sc3), okd, ?_⟩
        walk_at "rd"
        rw [decide_eq_true rfl]
        exact k _
end
end M

namespace M
open PySem L2
def spLaw (K : PySem.W.Frag) : Sp := fun vs H Q _ => ∃ (a : Addr) (ns : List Int), vs = [.ref a] ∧ SqL K H a (ns.map V.int) ∧ ns.length ≤ 10000 ∧ ∀ H', Q (.bl true) H'
theorem all_mk {l : PySem.W.OpenLaw} [SupX.PX l.prog] {w : World} {K : PySem.W.Frag} {h : Heap} {mg : Str → Option Value} {fa : Addr} (X : K.In h) (G : h.Ns mainGlobals mg) (hfa : mg "law" = some (.ref fa))
    {f_is_integer f_is_name f_is_pair f_is_moves f_is_draws f_is_stand f_are_stands f_copied f_leads f_is_ringless f_Work_init f_Work_row f_Work_kind f_Work_steps f_Work_to f_law_pool f_law_draw f_law_word f_law_words f_law_stands f_law_stand f_law_worths f_law_endless f_law_world f_law_copy f_law_work f_law_steps f_is_row f_passed f_is_ring f_law_run f_law_passed f_law_thing f_law_bad_step f_law_spoiled_run f_law_all_steps f_law_row f_law_cut f_law_is_ring f_law q_Work : Addr}
    {od_is_integer an_is_integer od_is_name an_is_name od_is_pair an_is_pair od_is_moves an_is_moves od_is_draws an_is_draws od_is_stand an_is_stand od_are_stands an_are_stands od_copied an_copied od_leads an_leads od_is_ringless an_is_ringless od_Work_init an_Work_init od_Work_row an_Work_row od_Work_kind an_Work_kind od_Work_steps an_Work_steps od_Work_to an_Work_to od_law_pool an_law_pool od_law_draw an_law_draw od_law_word an_law_word od_law_words an_law_words od_law_stands an_law_stands od_law_stand an_law_stand od_law_worths an_law_worths od_law_endless an_law_endless od_law_world an_law_world od_law_copy an_law_copy od_law_work an_law_work od_law_steps an_law_steps od_is_row an_is_row od_passed an_passed od_is_ring an_is_ring od_law_run an_law_run od_law_passed an_law_passed od_law_thing an_law_thing od_law_bad_step an_law_bad_step od_law_spoiled_run an_law_spoiled_run od_law_all_steps an_law_all_steps od_law_row an_law_row od_law_cut an_law_cut od_law_is_ring an_law_is_ring od_law an_law : Option Addr} {sl_is_integer sl_is_name sl_is_pair sl_is_moves sl_is_draws sl_is_stand sl_are_stands sl_copied sl_leads sl_is_ringless sl_Work_init sl_Work_row sl_Work_kind sl_Work_steps sl_Work_to sl_law_pool sl_law_draw sl_law_word sl_law_words sl_law_stands sl_law_stand sl_law_worths sl_law_endless sl_law_world sl_law_copy sl_law_work sl_law_steps sl_is_row sl_passed sl_is_ring sl_law_run sl_law_passed sl_law_thing sl_law_bad_step sl_law_spoiled_run sl_law_all_steps sl_law_row sl_law_cut sl_law_is_ring sl_law : Array (Option Value)}
    {oc_is_integer kV_is_integer dc_is_integer pm_is_integer cd_is_integer ct_is_integer oc_is_name kV_is_name dc_is_name pm_is_name cd_is_name ct_is_name oc_is_pair kV_is_pair dc_is_pair pm_is_pair cd_is_pair ct_is_pair oc_is_moves kV_is_moves dc_is_moves pm_is_moves cd_is_moves ct_is_moves oc_is_draws kV_is_draws dc_is_draws pm_is_draws cd_is_draws ct_is_draws oc_is_stand kV_is_stand dc_is_stand pm_is_stand cd_is_stand ct_is_stand oc_are_stands kV_are_stands dc_are_stands pm_are_stands cd_are_stands ct_are_stands oc_copied kV_copied dc_copied pm_copied cd_copied ct_copied oc_leads kV_leads dc_leads pm_leads cd_leads ct_leads oc_is_ringless kV_is_ringless dc_is_ringless pm_is_ringless cd_is_ringless ct_is_ringless oc_Work_init kV_Work_init dc_Work_init pm_Work_init cd_Work_init ct_Work_init oc_Work_row kV_Work_row dc_Work_row pm_Work_row cd_Work_row ct_Work_row oc_Work_kind kV_Work_kind dc_Work_kind pm_Work_kind cd_Work_kind ct_Work_kind oc_Work_steps kV_Work_steps dc_Work_steps pm_Work_steps cd_Work_steps ct_Work_steps oc_Work_to kV_Work_to dc_Work_to pm_Work_to cd_Work_to ct_Work_to oc_law_pool kV_law_pool dc_law_pool pm_law_pool cd_law_pool ct_law_pool oc_law_draw kV_law_draw dc_law_draw pm_law_draw cd_law_draw ct_law_draw oc_law_word kV_law_word dc_law_word pm_law_word cd_law_word ct_law_word oc_law_words kV_law_words dc_law_words pm_law_words cd_law_words ct_law_words oc_law_stands kV_law_stands dc_law_stands pm_law_stands cd_law_stands ct_law_stands oc_law_stand kV_law_stand dc_law_stand pm_law_stand cd_law_stand ct_law_stand oc_law_worths kV_law_worths dc_law_worths pm_law_worths cd_law_worths ct_law_worths oc_law_endless kV_law_endless dc_law_endless pm_law_endless cd_law_endless ct_law_endless oc_law_world kV_law_world dc_law_world pm_law_world cd_law_world ct_law_world oc_law_copy kV_law_copy dc_law_copy pm_law_copy cd_law_copy ct_law_copy oc_law_work kV_law_work dc_law_work pm_law_work cd_law_work ct_law_work oc_law_steps kV_law_steps dc_law_steps pm_law_steps cd_law_steps ct_law_steps oc_is_row kV_is_row dc_is_row pm_is_row cd_is_row ct_is_row oc_passed kV_passed dc_passed pm_passed cd_passed ct_passed oc_is_ring kV_is_ring dc_is_ring pm_is_ring cd_is_ring ct_is_ring oc_law_run kV_law_run dc_law_run pm_law_run cd_law_run ct_law_run oc_law_passed kV_law_passed dc_law_passed pm_law_passed cd_law_passed ct_law_passed oc_law_thing kV_law_thing dc_law_thing pm_law_thing cd_law_thing ct_law_thing oc_law_bad_step kV_law_bad_step dc_law_bad_step pm_law_bad_step cd_law_bad_step ct_law_bad_step oc_law_spoiled_run kV_law_spoiled_run dc_law_spoiled_run pm_law_spoiled_run cd_law_spoiled_run ct_law_spoiled_run oc_law_all_steps kV_law_all_steps dc_law_all_steps pm_law_all_steps cd_law_all_steps ct_law_all_steps oc_law_row kV_law_row dc_law_row pm_law_row cd_law_row ct_law_row oc_law_cut kV_law_cut dc_law_cut pm_law_cut cd_law_cut ct_law_cut oc_law_is_ring kV_law_is_ring dc_law_is_ring pm_law_is_ring cd_law_is_ring ct_law_is_ring oc_law kV_law dc_law pm_law cd_law ct_law : Value}
    (a_Work : PySem.W.nsIn K mainGlobals "Work" = some (some (.ref q_Work)))
    (a_is_integer : PySem.W.nsIn K mainGlobals "is_integer" = some (some (.ref f_is_integer)))
    (l_is_integer : K.lookup f_is_integer = some ⟨oc_is_integer, od_is_integer, .func (PySem.W.fnOf "is_integer" "is_integer" (defArgs s_is_integer) (defBody s_is_integer) (defScope s_is_integer) .none kV_is_integer dc_is_integer pm_is_integer an_is_integer cd_is_integer ct_is_integer), sl_is_integer⟩) (c_is_integer : PySem.W.codeIn K cd_is_integer "is_integer" = true) (k_is_integer : PySem.W.keepIn K (.ref f_is_integer) = true)
    (a_is_name : PySem.W.nsIn K mainGlobals "is_name" = some (some (.ref f_is_name)))
    (l_is_name : K.lookup f_is_name = some ⟨oc_is_name, od_is_name, .func (PySem.W.fnOf "is_name" "is_name" (defArgs s_is_name) (defBody s_is_name) (defScope s_is_name) .none kV_is_name dc_is_name pm_is_name an_is_name cd_is_name ct_is_name), sl_is_name⟩) (c_is_name : PySem.W.codeIn K cd_is_name "is_name" = true) (k_is_name : PySem.W.keepIn K (.ref f_is_name) = true)
    (a_is_pair : PySem.W.nsIn K mainGlobals "is_pair" = some (some (.ref f_is_pair)))
    (l_is_pair : K.lookup f_is_pair = some ⟨oc_is_pair, od_is_pair, .func (PySem.W.fnOf "is_pair" "is_pair" (defArgs s_is_pair) (defBody s_is_pair) (defScope s_is_pair) .none kV_is_pair dc_is_pair pm_is_pair an_is_pair cd_is_pair ct_is_pair), sl_is_pair⟩) (c_is_pair : PySem.W.codeIn K cd_is_pair "is_pair" = true) (k_is_pair : PySem.W.keepIn K (.ref f_is_pair) = true)
    (a_is_moves : PySem.W.nsIn K mainGlobals "is_moves" = some (some (.ref f_is_moves)))
    (l_is_moves : K.lookup f_is_moves = some ⟨oc_is_moves, od_is_moves, .func (PySem.W.fnOf "is_moves" "is_moves" (defArgs s_is_moves) (defBody s_is_moves) (defScope s_is_moves) .none kV_is_moves dc_is_moves pm_is_moves an_is_moves cd_is_moves ct_is_moves), sl_is_moves⟩) (c_is_moves : PySem.W.codeIn K cd_is_moves "is_moves" = true) (k_is_moves : PySem.W.keepIn K (.ref f_is_moves) = true)
    (a_is_draws : PySem.W.nsIn K mainGlobals "is_draws" = some (some (.ref f_is_draws)))
    (l_is_draws : K.lookup f_is_draws = some ⟨oc_is_draws, od_is_draws, .func (PySem.W.fnOf "is_draws" "is_draws" (defArgs s_is_draws) (defBody s_is_draws) (defScope s_is_draws) .none kV_is_draws dc_is_draws pm_is_draws an_is_draws cd_is_draws ct_is_draws), sl_is_draws⟩) (c_is_draws : PySem.W.codeIn K cd_is_draws "is_draws" = true) (k_is_draws : PySem.W.keepIn K (.ref f_is_draws) = true)
    (a_is_stand : PySem.W.nsIn K mainGlobals "is_stand" = some (some (.ref f_is_stand)))
    (l_is_stand : K.lookup f_is_stand = some ⟨oc_is_stand, od_is_stand, .func (PySem.W.fnOf "is_stand" "is_stand" (defArgs s_is_stand) (defBody s_is_stand) (defScope s_is_stand) .none kV_is_stand dc_is_stand pm_is_stand an_is_stand cd_is_stand ct_is_stand), sl_is_stand⟩) (c_is_stand : PySem.W.codeIn K cd_is_stand "is_stand" = true) (k_is_stand : PySem.W.keepIn K (.ref f_is_stand) = true)
    (a_are_stands : PySem.W.nsIn K mainGlobals "are_stands" = some (some (.ref f_are_stands)))
    (l_are_stands : K.lookup f_are_stands = some ⟨oc_are_stands, od_are_stands, .func (PySem.W.fnOf "are_stands" "are_stands" (defArgs s_are_stands) (defBody s_are_stands) (defScope s_are_stands) .none kV_are_stands dc_are_stands pm_are_stands an_are_stands cd_are_stands ct_are_stands), sl_are_stands⟩) (c_are_stands : PySem.W.codeIn K cd_are_stands "are_stands" = true) (k_are_stands : PySem.W.keepIn K (.ref f_are_stands) = true)
    (a_copied : PySem.W.nsIn K mainGlobals "copied" = some (some (.ref f_copied)))
    (l_copied : K.lookup f_copied = some ⟨oc_copied, od_copied, .func (PySem.W.fnOf "copied" "copied" (defArgs s_copied) (defBody s_copied) (defScope s_copied) .none kV_copied dc_copied pm_copied an_copied cd_copied ct_copied), sl_copied⟩) (c_copied : PySem.W.codeIn K cd_copied "copied" = true) (k_copied : PySem.W.keepIn K (.ref f_copied) = true)
    (a_leads : PySem.W.nsIn K mainGlobals "leads" = some (some (.ref f_leads)))
    (l_leads : K.lookup f_leads = some ⟨oc_leads, od_leads, .func (PySem.W.fnOf "leads" "leads" (defArgs s_leads) (defBody s_leads) (defScope s_leads) .none kV_leads dc_leads pm_leads an_leads cd_leads ct_leads), sl_leads⟩) (c_leads : PySem.W.codeIn K cd_leads "leads" = true) (k_leads : PySem.W.keepIn K (.ref f_leads) = true)
    (a_is_ringless : PySem.W.nsIn K mainGlobals "is_ringless" = some (some (.ref f_is_ringless)))
    (l_is_ringless : K.lookup f_is_ringless = some ⟨oc_is_ringless, od_is_ringless, .func (PySem.W.fnOf "is_ringless" "is_ringless" (defArgs s_is_ringless) (defBody s_is_ringless) (defScope s_is_ringless) .none kV_is_ringless dc_is_ringless pm_is_ringless an_is_ringless cd_is_ringless ct_is_ringless), sl_is_ringless⟩) (c_is_ringless : PySem.W.codeIn K cd_is_ringless "is_ringless" = true) (k_is_ringless : PySem.W.keepIn K (.ref f_is_ringless) = true)
    (a_Work_init : PySem.W.findIn K (.ref q_Work) "__init__" = some (some (.ref f_Work_init))) (i_Work_init : PySem.W.isFn K (.ref f_Work_init) = true)
    (l_Work_init : K.lookup f_Work_init = some ⟨oc_Work_init, od_Work_init, .func (PySem.W.fnOf "__init__" "Work.__init__" (defArgs s_Work_init) (defBody s_Work_init) (defScope s_Work_init) .none kV_Work_init dc_Work_init pm_Work_init an_Work_init cd_Work_init ct_Work_init), sl_Work_init⟩) (c_Work_init : PySem.W.codeIn K cd_Work_init "Work.__init__" = true) (k_Work_init : PySem.W.keepIn K (.ref f_Work_init) = true)
    (a_Work_row : PySem.W.findIn K (.ref q_Work) "row" = some (some (.ref f_Work_row))) (i_Work_row : PySem.W.isFn K (.ref f_Work_row) = true)
    (l_Work_row : K.lookup f_Work_row = some ⟨oc_Work_row, od_Work_row, .func (PySem.W.fnOf "row" "Work.row" (defArgs s_Work_row) (defBody s_Work_row) (defScope s_Work_row) .none kV_Work_row dc_Work_row pm_Work_row an_Work_row cd_Work_row ct_Work_row), sl_Work_row⟩) (c_Work_row : PySem.W.codeIn K cd_Work_row "Work.row" = true) (k_Work_row : PySem.W.keepIn K (.ref f_Work_row) = true)
    (a_Work_kind : PySem.W.findIn K (.ref q_Work) "kind" = some (some (.ref f_Work_kind))) (i_Work_kind : PySem.W.isFn K (.ref f_Work_kind) = true)
    (l_Work_kind : K.lookup f_Work_kind = some ⟨oc_Work_kind, od_Work_kind, .func (PySem.W.fnOf "kind" "Work.kind" (defArgs s_Work_kind) (defBody s_Work_kind) (defScope s_Work_kind) .none kV_Work_kind dc_Work_kind pm_Work_kind an_Work_kind cd_Work_kind ct_Work_kind), sl_Work_kind⟩) (c_Work_kind : PySem.W.codeIn K cd_Work_kind "Work.kind" = true) (k_Work_kind : PySem.W.keepIn K (.ref f_Work_kind) = true)
    (a_Work_steps : PySem.W.findIn K (.ref q_Work) "steps" = some (some (.ref f_Work_steps))) (i_Work_steps : PySem.W.isFn K (.ref f_Work_steps) = true)
    (l_Work_steps : K.lookup f_Work_steps = some ⟨oc_Work_steps, od_Work_steps, .func (PySem.W.fnOf "steps" "Work.steps" (defArgs s_Work_steps) (defBody s_Work_steps) (defScope s_Work_steps) .none kV_Work_steps dc_Work_steps pm_Work_steps an_Work_steps cd_Work_steps ct_Work_steps), sl_Work_steps⟩) (c_Work_steps : PySem.W.codeIn K cd_Work_steps "Work.steps" = true) (k_Work_steps : PySem.W.keepIn K (.ref f_Work_steps) = true)
    (a_Work_to : PySem.W.findIn K (.ref q_Work) "to" = some (some (.ref f_Work_to))) (i_Work_to : PySem.W.isFn K (.ref f_Work_to) = true)
    (l_Work_to : K.lookup f_Work_to = some ⟨oc_Work_to, od_Work_to, .func (PySem.W.fnOf "to" "Work.to" (defArgs s_Work_to) (defBody s_Work_to) (defScope s_Work_to) .none kV_Work_to dc_Work_to pm_Work_to an_Work_to cd_Work_to ct_Work_to), sl_Work_to⟩) (c_Work_to : PySem.W.codeIn K cd_Work_to "Work.to" = true) (k_Work_to : PySem.W.keepIn K (.ref f_Work_to) = true)
    (a_law_pool : PySem.W.nsIn K mainGlobals "_law_pool" = some (some (.ref f_law_pool)))
    (l_law_pool : K.lookup f_law_pool = some ⟨oc_law_pool, od_law_pool, .func (PySem.W.fnOf "_law_pool" "_law_pool" (defArgs s_law_pool) (defBody s_law_pool) (defScope s_law_pool) .none kV_law_pool dc_law_pool pm_law_pool an_law_pool cd_law_pool ct_law_pool), sl_law_pool⟩) (c_law_pool : PySem.W.codeIn K cd_law_pool "_law_pool" = true) (k_law_pool : PySem.W.keepIn K (.ref f_law_pool) = true)
    (a_law_draw : PySem.W.nsIn K mainGlobals "_law_draw" = some (some (.ref f_law_draw)))
    (l_law_draw : K.lookup f_law_draw = some ⟨oc_law_draw, od_law_draw, .func (PySem.W.fnOf "_law_draw" "_law_draw" (defArgs s_law_draw) (defBody s_law_draw) (defScope s_law_draw) .none kV_law_draw dc_law_draw pm_law_draw an_law_draw cd_law_draw ct_law_draw), sl_law_draw⟩) (c_law_draw : PySem.W.codeIn K cd_law_draw "_law_draw" = true) (k_law_draw : PySem.W.keepIn K (.ref f_law_draw) = true)
    (a_law_word : PySem.W.nsIn K mainGlobals "_law_word" = some (some (.ref f_law_word)))
    (l_law_word : K.lookup f_law_word = some ⟨oc_law_word, od_law_word, .func (PySem.W.fnOf "_law_word" "_law_word" (defArgs s_law_word) (defBody s_law_word) (defScope s_law_word) .none kV_law_word dc_law_word pm_law_word an_law_word cd_law_word ct_law_word), sl_law_word⟩) (c_law_word : PySem.W.codeIn K cd_law_word "_law_word" = true) (k_law_word : PySem.W.keepIn K (.ref f_law_word) = true)
    (a_law_words : PySem.W.nsIn K mainGlobals "_law_words" = some (some (.ref f_law_words)))
    (l_law_words : K.lookup f_law_words = some ⟨oc_law_words, od_law_words, .func (PySem.W.fnOf "_law_words" "_law_words" (defArgs s_law_words) (defBody s_law_words) (defScope s_law_words) .none kV_law_words dc_law_words pm_law_words an_law_words cd_law_words ct_law_words), sl_law_words⟩) (c_law_words : PySem.W.codeIn K cd_law_words "_law_words" = true) (k_law_words : PySem.W.keepIn K (.ref f_law_words) = true)
    (a_law_stands : PySem.W.nsIn K mainGlobals "_law_stands" = some (some (.ref f_law_stands)))
    (l_law_stands : K.lookup f_law_stands = some ⟨oc_law_stands, od_law_stands, .func (PySem.W.fnOf "_law_stands" "_law_stands" (defArgs s_law_stands) (defBody s_law_stands) (defScope s_law_stands) .none kV_law_stands dc_law_stands pm_law_stands an_law_stands cd_law_stands ct_law_stands), sl_law_stands⟩) (c_law_stands : PySem.W.codeIn K cd_law_stands "_law_stands" = true) (k_law_stands : PySem.W.keepIn K (.ref f_law_stands) = true)
    (a_law_stand : PySem.W.nsIn K mainGlobals "_law_stand" = some (some (.ref f_law_stand)))
    (l_law_stand : K.lookup f_law_stand = some ⟨oc_law_stand, od_law_stand, .func (PySem.W.fnOf "_law_stand" "_law_stand" (defArgs s_law_stand) (defBody s_law_stand) (defScope s_law_stand) .none kV_law_stand dc_law_stand pm_law_stand an_law_stand cd_law_stand ct_law_stand), sl_law_stand⟩) (c_law_stand : PySem.W.codeIn K cd_law_stand "_law_stand" = true) (k_law_stand : PySem.W.keepIn K (.ref f_law_stand) = true)
    (a_law_worths : PySem.W.nsIn K mainGlobals "_law_worths" = some (some (.ref f_law_worths)))
    (l_law_worths : K.lookup f_law_worths = some ⟨oc_law_worths, od_law_worths, .func (PySem.W.fnOf "_law_worths" "_law_worths" (defArgs s_law_worths) (defBody s_law_worths) (defScope s_law_worths) .none kV_law_worths dc_law_worths pm_law_worths an_law_worths cd_law_worths ct_law_worths), sl_law_worths⟩) (c_law_worths : PySem.W.codeIn K cd_law_worths "_law_worths" = true) (k_law_worths : PySem.W.keepIn K (.ref f_law_worths) = true)
    (a_law_endless : PySem.W.nsIn K mainGlobals "_law_endless" = some (some (.ref f_law_endless)))
    (l_law_endless : K.lookup f_law_endless = some ⟨oc_law_endless, od_law_endless, .func (PySem.W.fnOf "_law_endless" "_law_endless" (defArgs s_law_endless) (defBody s_law_endless) (defScope s_law_endless) .none kV_law_endless dc_law_endless pm_law_endless an_law_endless cd_law_endless ct_law_endless), sl_law_endless⟩) (c_law_endless : PySem.W.codeIn K cd_law_endless "_law_endless" = true) (k_law_endless : PySem.W.keepIn K (.ref f_law_endless) = true)
    (a_law_world : PySem.W.nsIn K mainGlobals "_law_world" = some (some (.ref f_law_world)))
    (l_law_world : K.lookup f_law_world = some ⟨oc_law_world, od_law_world, .func (PySem.W.fnOf "_law_world" "_law_world" (defArgs s_law_world) (defBody s_law_world) (defScope s_law_world) .none kV_law_world dc_law_world pm_law_world an_law_world cd_law_world ct_law_world), sl_law_world⟩) (c_law_world : PySem.W.codeIn K cd_law_world "_law_world" = true) (k_law_world : PySem.W.keepIn K (.ref f_law_world) = true)
    (a_law_copy : PySem.W.nsIn K mainGlobals "_law_copy" = some (some (.ref f_law_copy)))
    (l_law_copy : K.lookup f_law_copy = some ⟨oc_law_copy, od_law_copy, .func (PySem.W.fnOf "_law_copy" "_law_copy" (defArgs s_law_copy) (defBody s_law_copy) (defScope s_law_copy) .none kV_law_copy dc_law_copy pm_law_copy an_law_copy cd_law_copy ct_law_copy), sl_law_copy⟩) (c_law_copy : PySem.W.codeIn K cd_law_copy "_law_copy" = true) (k_law_copy : PySem.W.keepIn K (.ref f_law_copy) = true)
    (a_law_work : PySem.W.nsIn K mainGlobals "_law_work" = some (some (.ref f_law_work)))
    (l_law_work : K.lookup f_law_work = some ⟨oc_law_work, od_law_work, .func (PySem.W.fnOf "_law_work" "_law_work" (defArgs s_law_work) (defBody s_law_work) (defScope s_law_work) .none kV_law_work dc_law_work pm_law_work an_law_work cd_law_work ct_law_work), sl_law_work⟩) (c_law_work : PySem.W.codeIn K cd_law_work "_law_work" = true) (k_law_work : PySem.W.keepIn K (.ref f_law_work) = true)
    (a_law_steps : PySem.W.nsIn K mainGlobals "_law_steps" = some (some (.ref f_law_steps)))
    (l_law_steps : K.lookup f_law_steps = some ⟨oc_law_steps, od_law_steps, .func (PySem.W.fnOf "_law_steps" "_law_steps" (defArgs s_law_steps) (defBody s_law_steps) (defScope s_law_steps) .none kV_law_steps dc_law_steps pm_law_steps an_law_steps cd_law_steps ct_law_steps), sl_law_steps⟩) (c_law_steps : PySem.W.codeIn K cd_law_steps "_law_steps" = true) (k_law_steps : PySem.W.keepIn K (.ref f_law_steps) = true)
    (a_is_row : PySem.W.nsIn K mainGlobals "is_row" = some (some (.ref f_is_row)))
    (l_is_row : K.lookup f_is_row = some ⟨oc_is_row, od_is_row, .func (PySem.W.fnOf "is_row" "is_row" (defArgs s_is_row) (defBody s_is_row) (defScope s_is_row) .none kV_is_row dc_is_row pm_is_row an_is_row cd_is_row ct_is_row), sl_is_row⟩) (c_is_row : PySem.W.codeIn K cd_is_row "is_row" = true) (k_is_row : PySem.W.keepIn K (.ref f_is_row) = true)
    (a_passed : PySem.W.nsIn K mainGlobals "passed" = some (some (.ref f_passed)))
    (l_passed : K.lookup f_passed = some ⟨oc_passed, od_passed, .func (PySem.W.fnOf "passed" "passed" (defArgs s_passed) (defBody s_passed) (defScope s_passed) .none kV_passed dc_passed pm_passed an_passed cd_passed ct_passed), sl_passed⟩) (c_passed : PySem.W.codeIn K cd_passed "passed" = true) (k_passed : PySem.W.keepIn K (.ref f_passed) = true)
    (a_is_ring : PySem.W.nsIn K mainGlobals "is_ring" = some (some (.ref f_is_ring)))
    (l_is_ring : K.lookup f_is_ring = some ⟨oc_is_ring, od_is_ring, .func (PySem.W.fnOf "is_ring" "is_ring" (defArgs s_is_ring) (defBody s_is_ring) (defScope s_is_ring) .none kV_is_ring dc_is_ring pm_is_ring an_is_ring cd_is_ring ct_is_ring), sl_is_ring⟩) (c_is_ring : PySem.W.codeIn K cd_is_ring "is_ring" = true) (k_is_ring : PySem.W.keepIn K (.ref f_is_ring) = true)
    (a_law_run : PySem.W.nsIn K mainGlobals "_law_run" = some (some (.ref f_law_run)))
    (l_law_run : K.lookup f_law_run = some ⟨oc_law_run, od_law_run, .func (PySem.W.fnOf "_law_run" "_law_run" (defArgs s_law_run) (defBody s_law_run) (defScope s_law_run) .none kV_law_run dc_law_run pm_law_run an_law_run cd_law_run ct_law_run), sl_law_run⟩) (c_law_run : PySem.W.codeIn K cd_law_run "_law_run" = true) (k_law_run : PySem.W.keepIn K (.ref f_law_run) = true)
    (a_law_passed : PySem.W.nsIn K mainGlobals "_law_passed" = some (some (.ref f_law_passed)))
    (l_law_passed : K.lookup f_law_passed = some ⟨oc_law_passed, od_law_passed, .func (PySem.W.fnOf "_law_passed" "_law_passed" (defArgs s_law_passed) (defBody s_law_passed) (defScope s_law_passed) .none kV_law_passed dc_law_passed pm_law_passed an_law_passed cd_law_passed ct_law_passed), sl_law_passed⟩) (c_law_passed : PySem.W.codeIn K cd_law_passed "_law_passed" = true) (k_law_passed : PySem.W.keepIn K (.ref f_law_passed) = true)
    (a_law_thing : PySem.W.nsIn K mainGlobals "_law_thing" = some (some (.ref f_law_thing)))
    (l_law_thing : K.lookup f_law_thing = some ⟨oc_law_thing, od_law_thing, .func (PySem.W.fnOf "_law_thing" "_law_thing" (defArgs s_law_thing) (defBody s_law_thing) (defScope s_law_thing) .none kV_law_thing dc_law_thing pm_law_thing an_law_thing cd_law_thing ct_law_thing), sl_law_thing⟩) (c_law_thing : PySem.W.codeIn K cd_law_thing "_law_thing" = true) (k_law_thing : PySem.W.keepIn K (.ref f_law_thing) = true)
    (a_law_bad_step : PySem.W.nsIn K mainGlobals "_law_bad_step" = some (some (.ref f_law_bad_step)))
    (l_law_bad_step : K.lookup f_law_bad_step = some ⟨oc_law_bad_step, od_law_bad_step, .func (PySem.W.fnOf "_law_bad_step" "_law_bad_step" (defArgs s_law_bad_step) (defBody s_law_bad_step) (defScope s_law_bad_step) .none kV_law_bad_step dc_law_bad_step pm_law_bad_step an_law_bad_step cd_law_bad_step ct_law_bad_step), sl_law_bad_step⟩) (c_law_bad_step : PySem.W.codeIn K cd_law_bad_step "_law_bad_step" = true) (k_law_bad_step : PySem.W.keepIn K (.ref f_law_bad_step) = true)
    (a_law_spoiled_run : PySem.W.nsIn K mainGlobals "_law_spoiled_run" = some (some (.ref f_law_spoiled_run)))
    (l_law_spoiled_run : K.lookup f_law_spoiled_run = some ⟨oc_law_spoiled_run, od_law_spoiled_run, .func (PySem.W.fnOf "_law_spoiled_run" "_law_spoiled_run" (defArgs s_law_spoiled_run) (defBody s_law_spoiled_run) (defScope s_law_spoiled_run) .none kV_law_spoiled_run dc_law_spoiled_run pm_law_spoiled_run an_law_spoiled_run cd_law_spoiled_run ct_law_spoiled_run), sl_law_spoiled_run⟩) (c_law_spoiled_run : PySem.W.codeIn K cd_law_spoiled_run "_law_spoiled_run" = true) (k_law_spoiled_run : PySem.W.keepIn K (.ref f_law_spoiled_run) = true)
    (a_law_all_steps : PySem.W.nsIn K mainGlobals "_law_all_steps" = some (some (.ref f_law_all_steps)))
    (l_law_all_steps : K.lookup f_law_all_steps = some ⟨oc_law_all_steps, od_law_all_steps, .func (PySem.W.fnOf "_law_all_steps" "_law_all_steps" (defArgs s_law_all_steps) (defBody s_law_all_steps) (defScope s_law_all_steps) .none kV_law_all_steps dc_law_all_steps pm_law_all_steps an_law_all_steps cd_law_all_steps ct_law_all_steps), sl_law_all_steps⟩) (c_law_all_steps : PySem.W.codeIn K cd_law_all_steps "_law_all_steps" = true) (k_law_all_steps : PySem.W.keepIn K (.ref f_law_all_steps) = true)
    (a_law_row : PySem.W.nsIn K mainGlobals "_law_row" = some (some (.ref f_law_row)))
    (l_law_row : K.lookup f_law_row = some ⟨oc_law_row, od_law_row, .func (PySem.W.fnOf "_law_row" "_law_row" (defArgs s_law_row) (defBody s_law_row) (defScope s_law_row) .none kV_law_row dc_law_row pm_law_row an_law_row cd_law_row ct_law_row), sl_law_row⟩) (c_law_row : PySem.W.codeIn K cd_law_row "_law_row" = true) (k_law_row : PySem.W.keepIn K (.ref f_law_row) = true)
    (a_law_cut : PySem.W.nsIn K mainGlobals "_law_cut" = some (some (.ref f_law_cut)))
    (l_law_cut : K.lookup f_law_cut = some ⟨oc_law_cut, od_law_cut, .func (PySem.W.fnOf "_law_cut" "_law_cut" (defArgs s_law_cut) (defBody s_law_cut) (defScope s_law_cut) .none kV_law_cut dc_law_cut pm_law_cut an_law_cut cd_law_cut ct_law_cut), sl_law_cut⟩) (c_law_cut : PySem.W.codeIn K cd_law_cut "_law_cut" = true) (k_law_cut : PySem.W.keepIn K (.ref f_law_cut) = true)
    (a_law_is_ring : PySem.W.nsIn K mainGlobals "_law_is_ring" = some (some (.ref f_law_is_ring)))
    (l_law_is_ring : K.lookup f_law_is_ring = some ⟨oc_law_is_ring, od_law_is_ring, .func (PySem.W.fnOf "_law_is_ring" "_law_is_ring" (defArgs s_law_is_ring) (defBody s_law_is_ring) (defScope s_law_is_ring) .none kV_law_is_ring dc_law_is_ring pm_law_is_ring an_law_is_ring cd_law_is_ring ct_law_is_ring), sl_law_is_ring⟩) (c_law_is_ring : PySem.W.codeIn K cd_law_is_ring "_law_is_ring" = true) (k_law_is_ring : PySem.W.keepIn K (.ref f_law_is_ring) = true)
    (a_law : PySem.W.nsIn K mainGlobals "law" = some (some (.ref f_law)))
    (l_law : K.lookup f_law = some ⟨oc_law, od_law, .func (PySem.W.fnOf "law" "law" (defArgs s_law) (defBody s_law) (defScope s_law) .none kV_law dc_law pm_law an_law cd_law ct_law), sl_law⟩) (c_law : PySem.W.codeIn K cd_law "law" = true) (k_law : PySem.W.keepIn K (.ref f_law) = true)
    (pg_Work : PySem.W.plainGet K q_Work Str.empty = true) (hd_Work : PySem.W.hasDictIn K q_Work = true) (po_Work : PySem.W.plainOver K q_Work = true) (sa_Work : PySem.W.findIn K (.ref q_Work) "__setattr__" = some (some (.builtin "object.__setattr__"))) (mk_Work : PySem.W.makesIn K q_Work = true) (kc_Work : PySem.W.keepIn K (.ref q_Work) = true)
    (n_Work_hands : PySem.W.findIn K (.ref q_Work) "hands" = some none)
    (n_Work_start : PySem.W.findIn K (.ref q_Work) "start" = some none)
    (n_Work_table : PySem.W.findIn K (.ref q_Work) "table" = some none)
    (n_Work_names : PySem.W.findIn K (.ref q_Work) "names" = some none)
    (n_Work_ends : PySem.W.findIn K (.ref q_Work) "ends" = some none)
    (n_Work_ringless : PySem.W.findIn K (.ref q_Work) "ringless" = some none)
    (z_all : PySem.W.nsIn K mainGlobals "all" = some none)
    (z_bool : PySem.W.nsIn K mainGlobals "bool" = some none)
    (z_dict : PySem.W.nsIn K mainGlobals "dict" = some none)
    (z_enumerate : PySem.W.nsIn K mainGlobals "enumerate" = some none)
    (z_int : PySem.W.nsIn K mainGlobals "int" = some none)
    (z_isinstance : PySem.W.nsIn K mainGlobals "isinstance" = some none)
    (z_len : PySem.W.nsIn K mainGlobals "len" = some none)
    (z_list : PySem.W.nsIn K mainGlobals "list" = some none)
    (z_max : PySem.W.nsIn K mainGlobals "max" = some none)
    (z_min : PySem.W.nsIn K mainGlobals "min" = some none)
    (z_range : PySem.W.nsIn K mainGlobals "range" = some none)
    (z_repr : PySem.W.nsIn K mainGlobals "repr" = some none)
    (z_sorted : PySem.W.nsIn K mainGlobals "sorted" = some none)
    (z_str : PySem.W.nsIn K mainGlobals "str" = some none)
    (z_tuple : PySem.W.nsIn K mainGlobals "tuple" = some none)
    {q_OwnError : Addr} (z_super : PySem.W.nsIn K mainGlobals "super" = some none) (z_any : PySem.W.nsIn K PySem.cStatics "thirdparty.any" = some none)
    {q_BadRun i_BadRun cda_BadRun cc_BadRun N_BadRun : Addr} {nm_BadRun qn_BadRun : Str} {bs_BadRun : List Value} {sn_BadRun : List Str} {su_BadRun : List Value} {ab_BadRun : Bool} {cl_BadRun : Option Bool} {dd_BadRun : Option Addr} {m0_BadRun m1_BadRun m2_BadRun m3_BadRun m5_BadRun : Option Value}
    {oc_BadRun kV_BadRun dc_BadRun pm_BadRun ct_BadRun c1_BadRun c2_BadRun : Value} {od_BadRun an_BadRun e1_BadRun e2_BadRun : Option Addr} {sl_BadRun sa_BadRun sb_BadRun : Array (Option Value)} {fv_BadRun : Array Value} {tf_BadRun : Tok}
    (xa_BadRun : PySem.W.nsIn K mainGlobals "BadRun" = some (some (.ref q_BadRun))) (xl_BadRun : K.lookup q_BadRun = some (excClassObj nm_BadRun qn_BadRun q_BadRun N_BadRun bs_BadRun [.ref q_OwnError, .type "ValueError", .type "Exception", .type "BaseException", .type "object"] true sn_BadRun su_BadRun ab_BadRun cl_BadRun dd_BadRun m0_BadRun m1_BadRun m2_BadRun m3_BadRun m5_BadRun "ValueError.__new__")) (xs_BadRun : PySem.W.findIn K (.ref q_BadRun) "__setattr__" = some (some (.builtin "object.__setattr__"))) (xg_BadRun : PySem.W.findIn K (.ref q_BadRun) "__getattribute__" = some (some (.builtin "BaseException.__getattribute__"))) (xh_BadRun : PySem.W.findIn K (.ref q_BadRun) "__getattr__" = some none) (xn_BadRun : PySem.W.findIn K (.ref q_BadRun) "index" = some none) (xi_BadRun : PySem.W.findIn K (.ref q_BadRun) "__init__" = some (some (.ref i_BadRun))) (xt_BadRun : PySem.W.typeIn K (.ref i_BadRun) = some (.type "function")) (xu_BadRun : PySem.W.ks_superIn K q_BadRun q_BadRun "__init__" = some (some (.builtin "ValueError.__init__"))) (xm_BadRun : PySem.W.mroIn K q_BadRun (.ref q_BadRun) = some true) (xv_BadRun : PySem.W.subIn K (.ref q_BadRun) (.type "ValueError") = some true) (xb_BadRun : PySem.W.subIn K (.ref q_BadRun) (.type "BaseException") = some true) (xy_BadRun : PySem.W.typeIn K (.ref q_BadRun) = some (.type "type")) (xk_BadRun : PySem.W.keepIn K (.ref q_BadRun) = true) (xd_BadRun : PySem.W.hasDictIn K q_BadRun = true) (xc_BadRun : PySem.W.isClsIn K q_BadRun = true) (xf_BadRun : K.lookup i_BadRun = some ⟨oc_BadRun, od_BadRun, .func (PySem.W.ksFn "__init__" "BadRun.__init__" (SupX.sA "index" ⟨40, 17, 40, 21⟩ ⟨40, 23, 40, 28⟩) (SupX.sB "index" "the run is not valid" 0 ⟨41, 8, 41, 13⟩ ⟨41, 8, 41, 15⟩ ⟨41, 8, 41, 24⟩ ⟨41, 25, 41, 47⟩ ⟨41, 8, 41, 48⟩ ⟨41, 8, 41, 48⟩ ⟨42, 8, 42, 12⟩ ⟨42, 8, 42, 18⟩ ⟨42, 21, 42, 26⟩ ⟨42, 8, 42, 26⟩) (SupX.sS "index") .none kV_BadRun dc_BadRun pm_BadRun an_BadRun (.ref cda_BadRun) ct_BadRun cc_BadRun), sl_BadRun⟩) (xo_BadRun : PySem.W.codeIn K (.ref cda_BadRun) "BadRun.__init__" = true) (xe_BadRun : K.lookup cc_BadRun = some ⟨c1_BadRun, e1_BadRun, .cell (some (.ref q_BadRun)), sa_BadRun⟩) (xp_BadRun : K.lookup cda_BadRun = some ⟨c2_BadRun, e2_BadRun, .fields fv_BadRun, sb_BadRun⟩) (xq_BadRun : fv_BadRun[2]? = some (.str "/claim/cut.py" tf_BadRun))
    (pr_BadRun_BadRun : PySem.W.subIn K (.ref q_BadRun) (.ref q_BadRun) = some true)
    : ∃ fd : FuncData, (∀ (s : Shared) (v : Value), BindsTo s fd ⟨[v], []⟩ [("script", v)]) ∧ ∀ base : Heap, K.In base → base.Ns mainGlobals mg → ReR.SysIs base → ReR.FnG l.prog w K mg base CX0 8 fa fd ["script"] (spLaw K) := by
  have e := hfa.symm.trans (PySem.W.mg_of X G a_law)
  cases e
  have F_is_integer := fun_mk (st := s_is_integer) l_is_integer c_is_integer k_is_integer
  have b_is_integer := F_is_integer.binds (ps := P_is_integer) fun _ _ _ _ _ _ us hl => match us, hl with | [_], _ => rfl
  have F_is_name := fun_mk (st := s_is_name) l_is_name c_is_name k_is_name
  have b_is_name := F_is_name.binds (ps := P_is_name) fun _ _ _ _ _ _ us hl => match us, hl with | [_], _ => rfl
  have F_is_pair := fun_mk (st := s_is_pair) l_is_pair c_is_pair k_is_pair
  have b_is_pair := F_is_pair.binds (ps := P_is_pair) fun _ _ _ _ _ _ us hl => match us, hl with | [_], _ => rfl
  have F_is_moves := fun_mk (st := s_is_moves) l_is_moves c_is_moves k_is_moves
  have b_is_moves := F_is_moves.binds (ps := P_is_moves) fun _ _ _ _ _ _ us hl => match us, hl with | [_, _], _ => rfl
  have F_is_draws := fun_mk (st := s_is_draws) l_is_draws c_is_draws k_is_draws
  have b_is_draws := F_is_draws.binds (ps := P_is_draws) fun _ _ _ _ _ _ us hl => match us, hl with | [_, _], _ => rfl
  have F_is_stand := fun_mk (st := s_is_stand) l_is_stand c_is_stand k_is_stand
  have b_is_stand := F_is_stand.binds (ps := P_is_stand) fun _ _ _ _ _ _ us hl => match us, hl with | [_, _, _], _ => rfl
  have F_are_stands := fun_mk (st := s_are_stands) l_are_stands c_are_stands k_are_stands
  have b_are_stands := F_are_stands.binds (ps := P_are_stands) fun _ _ _ _ _ _ us hl => match us, hl with | [_, _], _ => rfl
  have F_copied := fun_mk (st := s_copied) l_copied c_copied k_copied
  have b_copied := F_copied.binds (ps := P_copied) fun _ _ _ _ _ _ us hl => match us, hl with | [_], _ => rfl
  have F_leads := fun_mk (st := s_leads) l_leads c_leads k_leads
  have b_leads := F_leads.binds (ps := P_leads) fun _ _ _ _ _ _ us hl => match us, hl with | [_, _], _ => rfl
  have F_is_ringless := fun_mk (st := s_is_ringless) l_is_ringless c_is_ringless k_is_ringless
  have b_is_ringless := F_is_ringless.binds (ps := P_is_ringless) fun _ _ _ _ _ _ us hl => match us, hl with | [_], _ => rfl
  have F_Work_init := fun_mk (st := s_Work_init) l_Work_init c_Work_init k_Work_init
  have b_Work_init := F_Work_init.binds (ps := P_Work_init) fun _ _ _ _ _ _ us hl => match us, hl with | [_, _, _, _], _ => rfl
  have F_Work_row := fun_mk (st := s_Work_row) l_Work_row c_Work_row k_Work_row
  have b_Work_row := F_Work_row.binds (ps := P_Work_row) fun _ _ _ _ _ _ us hl => match us, hl with | [_, _], _ => rfl
  have F_Work_kind := fun_mk (st := s_Work_kind) l_Work_kind c_Work_kind k_Work_kind
  have b_Work_kind := F_Work_kind.binds (ps := P_Work_kind) fun _ _ _ _ _ _ us hl => match us, hl with | [_, _], _ => rfl
  have F_Work_steps := fun_mk (st := s_Work_steps) l_Work_steps c_Work_steps k_Work_steps
  have b_Work_steps := F_Work_steps.binds (ps := P_Work_steps) fun _ _ _ _ _ _ us hl => match us, hl with | [_, _], _ => rfl
  have F_Work_to := fun_mk (st := s_Work_to) l_Work_to c_Work_to k_Work_to
  have b_Work_to := F_Work_to.binds (ps := P_Work_to) fun _ _ _ _ _ _ us hl => match us, hl with | [_, _, _], _ => rfl
  have F_law_pool := fun_mk (st := s_law_pool) l_law_pool c_law_pool k_law_pool
  have b_law_pool := F_law_pool.binds (ps := P_law_pool) fun _ _ _ _ _ _ us hl => match us, hl with | [_], _ => rfl
  have F_law_draw := fun_mk (st := s_law_draw) l_law_draw c_law_draw k_law_draw
  have b_law_draw := F_law_draw.binds (ps := P_law_draw) fun _ _ _ _ _ _ us hl => match us, hl with | [_, _], _ => rfl
  have F_law_word := fun_mk (st := s_law_word) l_law_word c_law_word k_law_word
  have b_law_word := F_law_word.binds (ps := P_law_word) fun _ _ _ _ _ _ us hl => match us, hl with | [_, _], _ => rfl
  have F_law_words := fun_mk (st := s_law_words) l_law_words c_law_words k_law_words
  have b_law_words := F_law_words.binds (ps := P_law_words) fun _ _ _ _ _ _ us hl => match us, hl with | [_, _], _ => rfl
  have F_law_stands := fun_mk (st := s_law_stands) l_law_stands c_law_stands k_law_stands
  have b_law_stands := F_law_stands.binds (ps := P_law_stands) fun _ _ _ _ _ _ us hl => match us, hl with | [_, _, _, _], _ => rfl
  have F_law_stand := fun_mk (st := s_law_stand) l_law_stand c_law_stand k_law_stand
  have b_law_stand := F_law_stand.binds (ps := P_law_stand) fun _ _ _ _ _ _ us hl => match us, hl with | [_, _, _, _, _], _ => rfl
  have F_law_worths := fun_mk (st := s_law_worths) l_law_worths c_law_worths k_law_worths
  have b_law_worths := F_law_worths.binds (ps := P_law_worths) fun _ _ _ _ _ _ us hl => match us, hl with | [_, _], _ => rfl
  have F_law_endless := fun_mk (st := s_law_endless) l_law_endless c_law_endless k_law_endless
  have b_law_endless := F_law_endless.binds (ps := P_law_endless) fun _ _ _ _ _ _ us hl => match us, hl with | [_, _], _ => rfl
  have F_law_world := fun_mk (st := s_law_world) l_law_world c_law_world k_law_world
  have b_law_world := F_law_world.binds (ps := P_law_world) fun _ _ _ _ _ _ us hl => match us, hl with | [_, _, _], _ => rfl
  have F_law_copy := fun_mk (st := s_law_copy) l_law_copy c_law_copy k_law_copy
  have b_law_copy := F_law_copy.binds (ps := P_law_copy) fun _ _ _ _ _ _ us hl => match us, hl with | [_], _ => rfl
  have F_law_work := fun_mk (st := s_law_work) l_law_work c_law_work k_law_work
  have b_law_work := F_law_work.binds (ps := P_law_work) fun _ _ _ _ _ _ us hl => match us, hl with | [_], _ => rfl
  have F_law_steps := fun_mk (st := s_law_steps) l_law_steps c_law_steps k_law_steps
  have b_law_steps := F_law_steps.binds (ps := P_law_steps) fun _ _ _ _ _ _ us hl => match us, hl with | [_, _], _ => rfl
  have F_is_row := fun_mk (st := s_is_row) l_is_row c_is_row k_is_row
  have b_is_row := F_is_row.binds (ps := P_is_row) fun _ _ _ _ _ _ us hl => match us, hl with | [_], _ => rfl
  have F_passed := fun_mk (st := s_passed) l_passed c_passed k_passed
  have b_passed := F_passed.binds (ps := P_passed) fun _ _ _ _ _ _ us hl => match us, hl with | [_, _], _ => rfl
  have F_is_ring := fun_mk (st := s_is_ring) l_is_ring c_is_ring k_is_ring
  have b_is_ring := F_is_ring.binds (ps := P_is_ring) fun _ _ _ _ _ _ us hl => match us, hl with | [_, _], _ => rfl
  have F_law_run := fun_mk (st := s_law_run) l_law_run c_law_run k_law_run
  have b_law_run := F_law_run.binds (ps := P_law_run) fun _ _ _ _ _ _ us hl => match us, hl with | [_, _, _, _], _ => rfl
  have F_law_passed := fun_mk (st := s_law_passed) l_law_passed c_law_passed k_law_passed
  have b_law_passed := F_law_passed.binds (ps := P_law_passed) fun _ _ _ _ _ _ us hl => match us, hl with | [_, _, _], _ => rfl
  have F_law_thing := fun_mk (st := s_law_thing) l_law_thing c_law_thing k_law_thing
  have b_law_thing := F_law_thing.binds (ps := P_law_thing) fun _ _ _ _ _ _ us hl => match us, hl with | [_], _ => rfl
  have F_law_bad_step := fun_mk (st := s_law_bad_step) l_law_bad_step c_law_bad_step k_law_bad_step
  have b_law_bad_step := F_law_bad_step.binds (ps := P_law_bad_step) fun _ _ _ _ _ _ us hl => match us, hl with | [_, _, _], _ => rfl
  have F_law_spoiled_run := fun_mk (st := s_law_spoiled_run) l_law_spoiled_run c_law_spoiled_run k_law_spoiled_run
  have b_law_spoiled_run := F_law_spoiled_run.binds (ps := P_law_spoiled_run) fun _ _ _ _ _ _ us hl => match us, hl with | [_, _, _], _ => rfl
  have F_law_all_steps := fun_mk (st := s_law_all_steps) l_law_all_steps c_law_all_steps k_law_all_steps
  have b_law_all_steps := F_law_all_steps.binds (ps := P_law_all_steps) fun _ _ _ _ _ _ us hl => match us, hl with | [_], _ => rfl
  have F_law_row := fun_mk (st := s_law_row) l_law_row c_law_row k_law_row
  have b_law_row := F_law_row.binds (ps := P_law_row) fun _ _ _ _ _ _ us hl => match us, hl with | [_, _], _ => rfl
  have F_law_cut := fun_mk (st := s_law_cut) l_law_cut c_law_cut k_law_cut
  have b_law_cut := F_law_cut.binds (ps := P_law_cut) fun _ _ _ _ _ _ us hl => match us, hl with | [_, _], _ => rfl
  have F_law_is_ring := fun_mk (st := s_law_is_ring) l_law_is_ring c_law_is_ring k_law_is_ring
  have b_law_is_ring := F_law_is_ring.binds (ps := P_law_is_ring) fun _ _ _ _ _ _ us hl => match us, hl with | [_, _, _], _ => rfl
  have F_law := fun_mk (st := s_law) l_law c_law k_law
  have b_law := F_law.binds (ps := P_law) fun _ _ _ _ _ _ us hl => match us, hl with | [_], _ => rfl
  let T : Tx K mg := {
    is_integer := ⟨f_is_integer, _, F_is_integer, PySem.W.mg_of X G a_is_integer, b_is_integer⟩
    is_name := ⟨f_is_name, _, F_is_name, PySem.W.mg_of X G a_is_name, b_is_name⟩
    is_pair := ⟨f_is_pair, _, F_is_pair, PySem.W.mg_of X G a_is_pair, b_is_pair⟩
    is_moves := ⟨f_is_moves, _, F_is_moves, PySem.W.mg_of X G a_is_moves, b_is_moves⟩
    is_draws := ⟨f_is_draws, _, F_is_draws, PySem.W.mg_of X G a_is_draws, b_is_draws⟩
    is_stand := ⟨f_is_stand, _, F_is_stand, PySem.W.mg_of X G a_is_stand, b_is_stand⟩
    are_stands := ⟨f_are_stands, _, F_are_stands, PySem.W.mg_of X G a_are_stands, b_are_stands⟩
    copied := ⟨f_copied, _, F_copied, PySem.W.mg_of X G a_copied, b_copied⟩
    leads := ⟨f_leads, _, F_leads, PySem.W.mg_of X G a_leads, b_leads⟩
    is_ringless := ⟨f_is_ringless, _, F_is_ringless, PySem.W.mg_of X G a_is_ringless, b_is_ringless⟩
    Work_init := ⟨f_Work_init, _, F_Work_init, b_Work_init⟩
    Work_row := ⟨f_Work_row, _, F_Work_row, b_Work_row⟩
    Work_kind := ⟨f_Work_kind, _, F_Work_kind, b_Work_kind⟩
    Work_steps := ⟨f_Work_steps, _, F_Work_steps, b_Work_steps⟩
    Work_to := ⟨f_Work_to, _, F_Work_to, b_Work_to⟩
    law_pool := ⟨f_law_pool, _, F_law_pool, PySem.W.mg_of X G a_law_pool, b_law_pool⟩
    law_draw := ⟨f_law_draw, _, F_law_draw, PySem.W.mg_of X G a_law_draw, b_law_draw⟩
    law_word := ⟨f_law_word, _, F_law_word, PySem.W.mg_of X G a_law_word, b_law_word⟩
    law_words := ⟨f_law_words, _, F_law_words, PySem.W.mg_of X G a_law_words, b_law_words⟩
    law_stands := ⟨f_law_stands, _, F_law_stands, PySem.W.mg_of X G a_law_stands, b_law_stands⟩
    law_stand := ⟨f_law_stand, _, F_law_stand, PySem.W.mg_of X G a_law_stand, b_law_stand⟩
    law_worths := ⟨f_law_worths, _, F_law_worths, PySem.W.mg_of X G a_law_worths, b_law_worths⟩
    law_endless := ⟨f_law_endless, _, F_law_endless, PySem.W.mg_of X G a_law_endless, b_law_endless⟩
    law_world := ⟨f_law_world, _, F_law_world, PySem.W.mg_of X G a_law_world, b_law_world⟩
    law_copy := ⟨f_law_copy, _, F_law_copy, PySem.W.mg_of X G a_law_copy, b_law_copy⟩
    law_work := ⟨f_law_work, _, F_law_work, PySem.W.mg_of X G a_law_work, b_law_work⟩
    law_steps := ⟨f_law_steps, _, F_law_steps, PySem.W.mg_of X G a_law_steps, b_law_steps⟩
    is_row := ⟨f_is_row, _, F_is_row, PySem.W.mg_of X G a_is_row, b_is_row⟩
    passed := ⟨f_passed, _, F_passed, PySem.W.mg_of X G a_passed, b_passed⟩
    is_ring := ⟨f_is_ring, _, F_is_ring, PySem.W.mg_of X G a_is_ring, b_is_ring⟩
    law_run := ⟨f_law_run, _, F_law_run, PySem.W.mg_of X G a_law_run, b_law_run⟩
    law_passed := ⟨f_law_passed, _, F_law_passed, PySem.W.mg_of X G a_law_passed, b_law_passed⟩
    law_thing := ⟨f_law_thing, _, F_law_thing, PySem.W.mg_of X G a_law_thing, b_law_thing⟩
    law_bad_step := ⟨f_law_bad_step, _, F_law_bad_step, PySem.W.mg_of X G a_law_bad_step, b_law_bad_step⟩
    law_spoiled_run := ⟨f_law_spoiled_run, _, F_law_spoiled_run, PySem.W.mg_of X G a_law_spoiled_run, b_law_spoiled_run⟩
    law_all_steps := ⟨f_law_all_steps, _, F_law_all_steps, PySem.W.mg_of X G a_law_all_steps, b_law_all_steps⟩
    law_row := ⟨f_law_row, _, F_law_row, PySem.W.mg_of X G a_law_row, b_law_row⟩
    law_cut := ⟨f_law_cut, _, F_law_cut, PySem.W.mg_of X G a_law_cut, b_law_cut⟩
    law_is_ring := ⟨f_law_is_ring, _, F_law_is_ring, PySem.W.mg_of X G a_law_is_ring, b_law_is_ring⟩
    law := ⟨fa, _, F_law, PySem.W.mg_of X G a_law, b_law⟩
    b_all := PySem.W.mg_none_of X G z_all
    b_bool := PySem.W.mg_none_of X G z_bool
    b_dict := PySem.W.mg_none_of X G z_dict
    b_enumerate := PySem.W.mg_none_of X G z_enumerate
    b_int := PySem.W.mg_none_of X G z_int
    b_isinstance := PySem.W.mg_none_of X G z_isinstance
    b_len := PySem.W.mg_none_of X G z_len
    b_list := PySem.W.mg_none_of X G z_list
    b_max := PySem.W.mg_none_of X G z_max
    b_min := PySem.W.mg_none_of X G z_min
    b_range := PySem.W.mg_none_of X G z_range
    b_repr := PySem.W.mg_none_of X G z_repr
    b_sorted := PySem.W.mg_none_of X G z_sorted
    b_str := PySem.W.mg_none_of X G z_str
    b_tuple := PySem.W.mg_none_of X G z_tuple
    a_Work := q_Work
    g_Work := PySem.W.mg_of X G a_Work
    cl_Work := ⟨pg_Work, hd_Work, po_Work, sa_Work⟩
    m_Work := ⟨mk_Work, a_Work_init, i_Work_init, kc_Work⟩
    n_Work_hands := n_Work_hands
    n_Work_start := n_Work_start
    n_Work_table := n_Work_table
    n_Work_names := n_Work_names
    n_Work_ends := n_Work_ends
    n_Work_ringless := n_Work_ringless
    me_Work_row := ⟨a_Work_row, i_Work_row, k_Work_row⟩
    me_Work_kind := ⟨a_Work_kind, i_Work_kind, k_Work_kind⟩
    me_Work_steps := ⟨a_Work_steps, i_Work_steps, k_Work_steps⟩
    me_Work_to := ⟨a_Work_to, i_Work_to, k_Work_to⟩
    c_BadRun := q_BadRun
    i_BadRun := i_BadRun
    d_BadRun := _
    g_BadRun := PySem.W.mg_of X G xa_BadRun
    s_BadRun := { oex := ⟨⟨_, _, _, _, _, _, _, _, _, _, _, _, _, _, _, xl_BadRun, rfl⟩, xs_BadRun, xb_BadRun, xy_BadRun, xk_BadRun⟩, xf := ⟨xg_BadRun, xh_BadRun, xb_BadRun, xd_BadRun⟩, noN := xn_BadRun, iC := xi_BadRun, tI := xt_BadRun, sup := xu_BadRun, mro := xm_BadRun, sub := xv_BadRun, nsu := PySem.W.mg_none_of X G z_super, bnd := .all (fun us hl => match us, hl with | [_, _], _ => rfl), any := z_any, sc := NdefX.nscope_by (by decide +kernel), d1 := (by decide +kernel), d2 := (by decide +kernel), scs := rfl, fn := ⟨_, _, _, _, _, _, _, _, _, _, _, _, _, _, _, _, _, _, _, _, _, _, _, _, _, rfl, rfl, xf_BadRun, xo_BadRun, ⟨_, _, _, xe_BadRun⟩, _, _, _, _, _, xp_BadRun, xq_BadRun⟩ }
    xp_BadRun_BadRun := exm_pair xb_BadRun xc_BadRun xy_BadRun pr_BadRun_BadRun
  }
  exact ⟨PySem.W.fnOf "law" "law" (defArgs s_law) (defBody s_law) (defScope s_law) .none kV_law dc_law pm_law an_law cd_law ct_law, fun s v => .of_eq rfl, fun base _ _ hsy => ok_law T hsy⟩
theorem walk {l : PySem.W.OpenLaw} {q : Program} {loose : List Str} {XP : (Str → Option Value) → Heap → Prop} {YP : World → Heap → Prop} {d : DefRec} {K : Params → PySem.W.Frag} (hn : l.most = some 63) (hdf : d.params.defaults = []) (him : PyProof.Rows.importsNone q = true)
    (hY : ∀ (w : World) (h : Heap), YP w h → (K w.params).In h)
    (F : ∀ (w : World) (mg : Str → Option Value) (fa : Addr) (h : Heap), (K w.params).In h → h.Ns mainGlobals mg → mg d.name = some (.ref fa) →
      ∃ fd : FuncData, (∀ (s : Shared) (u : Value), BindsTo s fd ⟨[u], []⟩ [("script", u)]) ∧ ∀ base : Heap, (K w.params).In base → base.Ns mainGlobals mg → ReR.SysIs base → ReR.FnG l.prog w (K w.params) mg base CX0 8 fa fd ["script"] (spLaw (K w.params))) :
    PySem.W.WalkO q loose XP YP l.row.toRowW d [] (fun f vs => PySem.call f vs) :=
  ReR.walk_ofG (n := 63) (k := 8) (x := "script") (CX := fun w => CX0) (sp := fun w => spLaw (K w.params)) hn (by decide) hdf ⟨rfl, by decide, by decide⟩ him hY F (fun _ _ a ns hl _ hS => ⟨a, ns, rfl, hS, Nat.le_trans hl (by decide), fun _ => rfl⟩) fun _ _ _ _ _ z => z
end M
open PySem PySem.W PyProof.Rows
instance : SupX.PX (PySem.Challenge.rw_ownshares_k05_rings_judged).prog := ⟨by decide +kernel, by rfl⟩
set_option maxRecDepth 100000 in
set_option maxHeartbeats 0 in
theorem PySem.Challenge.cw_ownshares_k05_rings_judged_holds : PySem.Challenge.rw_ownshares_k05_rings_judged.Holds := by
  w_on; o_law; k_head; (case hw => w_witness2)
  k_fill
  refine M.walk (l := PySem.Challenge.rw_ownshares_k05_rings_judged) rfl rfl (by decide +kernel) (fun w h Y => PySem.W.kIn_of Y) ?F
  case F =>
    intro w mg fa h KX G hmg
    refine' M.all_mk (l := PySem.Challenge.rw_ownshares_k05_rings_judged) KX G hmg ?a_Work ?a_is_integer ?l_is_integer ?c_is_integer ?k_is_integer ?a_is_name ?l_is_name ?c_is_name ?k_is_name ?a_is_pair ?l_is_pair ?c_is_pair ?k_is_pair ?a_is_moves ?l_is_moves ?c_is_moves ?k_is_moves ?a_is_draws ?l_is_draws ?c_is_draws ?k_is_draws ?a_is_stand ?l_is_stand ?c_is_stand ?k_is_stand ?a_are_stands ?l_are_stands ?c_are_stands ?k_are_stands ?a_copied ?l_copied ?c_copied ?k_copied ?a_leads ?l_leads ?c_leads ?k_leads ?a_is_ringless ?l_is_ringless ?c_is_ringless ?k_is_ringless ?a_Work_init ?i_Work_init ?l_Work_init ?c_Work_init ?k_Work_init ?a_Work_row ?i_Work_row ?l_Work_row ?c_Work_row ?k_Work_row ?a_Work_kind ?i_Work_kind ?l_Work_kind ?c_Work_kind ?k_Work_kind ?a_Work_steps ?i_Work_steps ?l_Work_steps ?c_Work_steps ?k_Work_steps ?a_Work_to ?i_Work_to ?l_Work_to ?c_Work_to ?k_Work_to ?a_law_pool ?l_law_pool ?c_law_pool ?k_law_pool ?a_law_draw ?l_law_draw ?c_law_draw ?k_law_draw ?a_law_word ?l_law_word ?c_law_word ?k_law_word ?a_law_words ?l_law_words ?c_law_words ?k_law_words ?a_law_stands ?l_law_stands ?c_law_stands ?k_law_stands ?a_law_stand ?l_law_stand ?c_law_stand ?k_law_stand ?a_law_worths ?l_law_worths ?c_law_worths ?k_law_worths ?a_law_endless ?l_law_endless ?c_law_endless ?k_law_endless ?a_law_world ?l_law_world ?c_law_world ?k_law_world ?a_law_copy ?l_law_copy ?c_law_copy ?k_law_copy ?a_law_work ?l_law_work ?c_law_work ?k_law_work ?a_law_steps ?l_law_steps ?c_law_steps ?k_law_steps ?a_is_row ?l_is_row ?c_is_row ?k_is_row ?a_passed ?l_passed ?c_passed ?k_passed ?a_is_ring ?l_is_ring ?c_is_ring ?k_is_ring ?a_law_run ?l_law_run ?c_law_run ?k_law_run ?a_law_passed ?l_law_passed ?c_law_passed ?k_law_passed ?a_law_thing ?l_law_thing ?c_law_thing ?k_law_thing ?a_law_bad_step ?l_law_bad_step ?c_law_bad_step ?k_law_bad_step ?a_law_spoiled_run ?l_law_spoiled_run ?c_law_spoiled_run ?k_law_spoiled_run ?a_law_all_steps ?l_law_all_steps ?c_law_all_steps ?k_law_all_steps ?a_law_row ?l_law_row ?c_law_row ?k_law_row ?a_law_cut ?l_law_cut ?c_law_cut ?k_law_cut ?a_law_is_ring ?l_law_is_ring ?c_law_is_ring ?k_law_is_ring ?a_law ?l_law ?c_law ?k_law ?pg_Work ?hd_Work ?po_Work ?sa_Work ?mk_Work ?kc_Work ?n_Work_hands ?n_Work_start ?n_Work_table ?n_Work_names ?n_Work_ends ?n_Work_ringless ?z_all ?z_bool ?z_dict ?z_enumerate ?z_int ?z_isinstance ?z_len ?z_list ?z_max ?z_min ?z_range ?z_repr ?z_sorted ?z_str ?z_tuple ?z_super ?z_any ?xa_BadRun ?xl_BadRun ?xs_BadRun ?xg_BadRun ?xh_BadRun ?xn_BadRun ?xi_BadRun ?xt_BadRun ?xu_BadRun ?xm_BadRun ?xv_BadRun ?xb_BadRun ?xy_BadRun ?xk_BadRun ?xd_BadRun ?xc_BadRun ?xf_BadRun ?xo_BadRun ?xe_BadRun ?xp_BadRun ?xq_BadRun ?pr_BadRun_BadRun
    (case a_Work => k_is)
    (case a_is_integer => k_is)
    (case l_is_integer => k_is)
    (case c_is_integer => k_is)
    (case k_is_integer => k_is)
    (case a_is_name => k_is)
    (case l_is_name => k_is)
    (case c_is_name => k_is)
    (case k_is_name => k_is)
    (case a_is_pair => k_is)
    (case l_is_pair => k_is)
    (case c_is_pair => k_is)
    (case k_is_pair => k_is)
    (case a_is_moves => k_is)
    (case l_is_moves => k_is)
    (case c_is_moves => k_is)
    (case k_is_moves => k_is)
    (case a_is_draws => k_is)
    (case l_is_draws => k_is)
    (case c_is_draws => k_is)
    (case k_is_draws => k_is)
    (case a_is_stand => k_is)
    (case l_is_stand => k_is)
    (case c_is_stand => k_is)
    (case k_is_stand => k_is)
    (case a_are_stands => k_is)
    (case l_are_stands => k_is)
    (case c_are_stands => k_is)
    (case k_are_stands => k_is)
    (case a_copied => k_is)
    (case l_copied => k_is)
    (case c_copied => k_is)
    (case k_copied => k_is)
    (case a_leads => k_is)
    (case l_leads => k_is)
    (case c_leads => k_is)
    (case k_leads => k_is)
    (case a_is_ringless => k_is)
    (case l_is_ringless => k_is)
    (case c_is_ringless => k_is)
    (case k_is_ringless => k_is)
    (case a_Work_init => k_is)
    (case i_Work_init => k_is)
    (case l_Work_init => k_is)
    (case c_Work_init => k_is)
    (case k_Work_init => k_is)
    (case a_Work_row => k_is)
    (case i_Work_row => k_is)
    (case l_Work_row => k_is)
    (case c_Work_row => k_is)
    (case k_Work_row => k_is)
    (case a_Work_kind => k_is)
    (case i_Work_kind => k_is)
    (case l_Work_kind => k_is)
    (case c_Work_kind => k_is)
    (case k_Work_kind => k_is)
    (case a_Work_steps => k_is)
    (case i_Work_steps => k_is)
    (case l_Work_steps => k_is)
    (case c_Work_steps => k_is)
    (case k_Work_steps => k_is)
    (case a_Work_to => k_is)
    (case i_Work_to => k_is)
    (case l_Work_to => k_is)
    (case c_Work_to => k_is)
    (case k_Work_to => k_is)
    (case a_law_pool => k_is)
    (case l_law_pool => k_is)
    (case c_law_pool => k_is)
    (case k_law_pool => k_is)
    (case a_law_draw => k_is)
    (case l_law_draw => k_is)
    (case c_law_draw => k_is)
    (case k_law_draw => k_is)
    (case a_law_word => k_is)
    (case l_law_word => k_is)
    (case c_law_word => k_is)
    (case k_law_word => k_is)
    (case a_law_words => k_is)
    (case l_law_words => k_is)
    (case c_law_words => k_is)
    (case k_law_words => k_is)
    (case a_law_stands => k_is)
    (case l_law_stands => k_is)
    (case c_law_stands => k_is)
    (case k_law_stands => k_is)
    (case a_law_stand => k_is)
    (case l_law_stand => k_is)
    (case c_law_stand => k_is)
    (case k_law_stand => k_is)
    (case a_law_worths => k_is)
    (case l_law_worths => k_is)
    (case c_law_worths => k_is)
    (case k_law_worths => k_is)
    (case a_law_endless => k_is)
    (case l_law_endless => k_is)
    (case c_law_endless => k_is)
    (case k_law_endless => k_is)
    (case a_law_world => k_is)
    (case l_law_world => k_is)
    (case c_law_world => k_is)
    (case k_law_world => k_is)
    (case a_law_copy => k_is)
    (case l_law_copy => k_is)
    (case c_law_copy => k_is)
    (case k_law_copy => k_is)
    (case a_law_work => k_is)
    (case l_law_work => k_is)
    (case c_law_work => k_is)
    (case k_law_work => k_is)
    (case a_law_steps => k_is)
    (case l_law_steps => k_is)
    (case c_law_steps => k_is)
    (case k_law_steps => k_is)
    (case a_is_row => k_is)
    (case l_is_row => k_is)
    (case c_is_row => k_is)
    (case k_is_row => k_is)
    (case a_passed => k_is)
    (case l_passed => k_is)
    (case c_passed => k_is)
    (case k_passed => k_is)
    (case a_is_ring => k_is)
    (case l_is_ring => k_is)
    (case c_is_ring => k_is)
    (case k_is_ring => k_is)
    (case a_law_run => k_is)
    (case l_law_run => k_is)
    (case c_law_run => k_is)
    (case k_law_run => k_is)
    (case a_law_passed => k_is)
    (case l_law_passed => k_is)
    (case c_law_passed => k_is)
    (case k_law_passed => k_is)
    (case a_law_thing => k_is)
    (case l_law_thing => k_is)
    (case c_law_thing => k_is)
    (case k_law_thing => k_is)
    (case a_law_bad_step => k_is)
    (case l_law_bad_step => k_is)
    (case c_law_bad_step => k_is)
    (case k_law_bad_step => k_is)
    (case a_law_spoiled_run => k_is)
    (case l_law_spoiled_run => k_is)
    (case c_law_spoiled_run => k_is)
    (case k_law_spoiled_run => k_is)
    (case a_law_all_steps => k_is)
    (case l_law_all_steps => k_is)
    (case c_law_all_steps => k_is)
    (case k_law_all_steps => k_is)
    (case a_law_row => k_is)
    (case l_law_row => k_is)
    (case c_law_row => k_is)
    (case k_law_row => k_is)
    (case a_law_cut => k_is)
    (case l_law_cut => k_is)
    (case c_law_cut => k_is)
    (case k_law_cut => k_is)
    (case a_law_is_ring => k_is)
    (case l_law_is_ring => k_is)
    (case c_law_is_ring => k_is)
    (case k_law_is_ring => k_is)
    (case a_law => k_is)
    (case l_law => k_is)
    (case c_law => k_is)
    (case k_law => k_is)
    (case pg_Work => k_is)
    (case hd_Work => k_is)
    (case po_Work => k_is)
    (case sa_Work => k_is)
    (case mk_Work => k_is)
    (case kc_Work => k_is)
    (case n_Work_hands => k_is)
    (case n_Work_start => k_is)
    (case n_Work_table => k_is)
    (case n_Work_names => k_is)
    (case n_Work_ends => k_is)
    (case n_Work_ringless => k_is)
    (case z_all => k_is)
    (case z_bool => k_is)
    (case z_dict => k_is)
    (case z_enumerate => k_is)
    (case z_int => k_is)
    (case z_isinstance => k_is)
    (case z_len => k_is)
    (case z_list => k_is)
    (case z_max => k_is)
    (case z_min => k_is)
    (case z_range => k_is)
    (case z_repr => k_is)
    (case z_sorted => k_is)
    (case z_str => k_is)
    (case z_tuple => k_is)
    (case z_super => k_is)
    (case z_any => k_is)
    (case xa_BadRun => k_is)
    (case xl_BadRun => k_is)
    (case xs_BadRun => k_is)
    (case xg_BadRun => k_is)
    (case xh_BadRun => k_is)
    (case xn_BadRun => k_is)
    (case xi_BadRun => k_is)
    (case xt_BadRun => k_is)
    (case xu_BadRun => first | ks_is | k_is)
    (case xm_BadRun => k_is)
    (case xv_BadRun => k_is)
    (case xb_BadRun => k_is)
    (case xy_BadRun => k_is)
    (case xk_BadRun => k_is)
    (case xd_BadRun => k_is)
    (case xc_BadRun => k_is)
    (case xf_BadRun => k_is)
    (case xo_BadRun => k_is)
    (case xe_BadRun => k_is)
    (case xp_BadRun => k_is)
    (case xq_BadRun => rfl)
    (case pr_BadRun_BadRun => first | rfl | k_is)
#print axioms PySem.Challenge.cw_ownshares_k05_rings_judged_holds
