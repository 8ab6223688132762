import PyProof.Rows.All
import Wide.All
import OpenK.AllK
import Wide.FinOn
import HandS.ForMost
import HandS.ForExc
import HandS.More
import HandS.Wide
import HandS.DictComp
import HandS.TupAny
import HandS.IsInst
import HandS.Walk
import HandS.Style
import HandS.SetKeys
import HandS.Steps
import PyProof.Rows.SortShellAny
import PyProof.Rows.RuleB_pow
import KE.GoesEnum
import HandS.Conv
import HandS.Property
import HandS.TryOnly
import KE.KDictSum
import HandS.SortRule
import HandS.NamedTupSort
import HandS.TupLe
import HandS.SortKw
import HandS.Finally
import KE.KEqDict
import HandS.TupLen
import HandS.Text
import KE.KDictDisplayH
import PyProof.ReprRoads
import PyProof.ReprBulk
import PyProof.NoPylong
import HandS.Nested
import KE.KDictCopyH
import KE.KeyNested
import HandS.ListItems
import KE.KExcSuper
import HandS.ExcInit
import HandS.ExcField
import HandS.TryMany
import HandS.ExcIs
import PySem.Challenge.RW_ownshares_k47_what_comes_after
set_option Elab.async false
set_option linter.all false
set_option maxRecDepth 100000
set_option maxHeartbeats 4000000
set_option pp.maxSteps 1200
set_option Elab.async false
set_option linter.all false
set_option maxRecDepth 100000
set_option maxHeartbeats 2000000
/-! The heap's order, readings of plain data, steps of readings: shared by all laws. -/
namespace M
open PySem PySem.Spec PyProof.Rows L2

/-! ### the heap's orders -/
/-- the heap without the addresses of S -/
def hid (S : List Addr) (H : Hp) : Hp := fun b => if b ∈ S then none else H b
/-- all but the addresses of S is as it was -/
def SX (S : List Addr) (A B : Hp) : Prop := ∀ b o, b ∉ S → A b = some o → B b = some o
/-- what is plain to be read -/
def Pl : HO → Prop
  | .lst _ | .tup _ | .dK _ | .dT _ => True
  | _ => False
/-- what may be read stays to be read -/
structure Le (A B : Hp) : Prop where
  rd : ∀ b u, Pl u → Rd A b u → Rd B b u
  ins : ∀ b C dx fs, A b = some (.ins C dx fs) → B b = some (.ins C dx fs)
  tup : ∀ b xs, A b = some (.tup xs) → B b = some (.tup xs)
theorem Le.refl (A : Hp) : Le A A := ⟨fun _ _ _ h => h, fun _ _ _ _ h => h, fun _ _ h => h⟩
theorem Le.trans {A B C : Hp} (a : Le A B) (b : Le B C) : Le A C := ⟨fun x u p h => b.rd x u p (a.rd x u p h), fun x c d f h => b.ins x c d f (a.ins x c d f h), fun x u h => b.tup x u (a.tup x u h)⟩
theorem le_of {A B : Hp} (h : ∀ b o, A b = some o → B b = some o) : Le A B :=
  ⟨fun b u _ q => by rcases q with q | ⟨o, q⟩
                     · exact .inl (h _ _ q)
                     · exact .inr ⟨o, h _ _ q⟩, fun b C dx fs q => h _ _ q, fun b xs q => h _ _ q⟩
theorem Le.l {K : PySem.W.Frag} {A B : Hp} {a : Addr} {xs : List V} (e : Le A B) (h : SqL K A a xs) : SqL K B a xs := by
  rcases h with h | h
  · exact .inl (e.rd _ _ trivial h)
  · exact .inr h
theorem Le.t {K : PySem.W.Frag} {A B : Hp} {a : Addr} {xs : List V} (e : Le A B) (h : SqT K A a xs) : SqT K B a xs := by
  rcases h with h | h
  · exact .inl (e.rd _ _ trivial h)
  · exact .inr h
theorem sqL {K : PySem.W.Frag} {H : Hp} {a : Addr} {xs : List V} (h : H a = some (.lst xs)) : SqL K H a xs := .inl (.inl h)
theorem sqT {K : PySem.W.Frag} {H : Hp} {a : Addr} {xs : List V} (h : H a = some (.tup xs)) : SqT K H a xs := .inl (.inl h)
theorem hid_at {S : List Addr} {H : Hp} {b : Addr} {o : HO} (h : hid S H b = some o) : b ∉ S ∧ H b = some o := by
  unfold hid at h
  split at h
  · cases h
  · exact ⟨by assumption, h⟩
theorem hid_of {S : List Addr} {H : Hp} {b : Addr} (h : b ∉ S) : hid S H b = H b := by
  unfold hid
  rw [if_neg h]
theorem hid_in {S : List Addr} {H : Hp} {b : Addr} (h : b ∈ S) : hid S H b = none := by
  unfold hid
  rw [if_pos h]
theorem hid_nil {H : Hp} : hid [] H = H := by
  funext b
  exact hid_of List.not_mem_nil
theorem le_hid {S : List Addr} {H : Hp} : Le (hid S H) H := le_of fun _ _ q => (hid_at q).2
theorem le_hid2 {S S' : List Addr} {H : Hp} (h : ∀ b ∈ S, b ∈ S') : Le (hid S' H) (hid S H) := le_of fun b o q => by
  obtain ⟨n, q⟩ := hid_at q
  rw [hid_of fun m => n (h b m)]
  exact q
theorem SX.refl {S : List Addr} (A : Hp) : SX S A A := fun _ _ _ h => h
theorem SX.trans {S : List Addr} {A B C : Hp} (a : SX S A B) (b : SX S B C) : SX S A C := fun x o n h => b x o n (a x o n h)
theorem SX.sub {S S' : List Addr} {A B : Hp} (h : ∀ b ∈ S, b ∈ S') (a : SX S A B) : SX S' A B := fun x o n q => a x o (fun m => n (h x m)) q
theorem SX.le {S : List Addr} {A B : Hp} (a : SX S A B) : Le (hid S A) (hid S B) := le_of fun b o q => by
  obtain ⟨n, q⟩ := hid_at q
  rw [hid_of n]
  exact a b o n q
theorem SX.le0 {A B : Hp} (a : SX [] A B) : Le A B := le_of fun b o q => a b o List.not_mem_nil q
theorem SX.leH {S : List Addr} {A B : Hp} (a : SX S A B) : Le (hid S A) B := a.le.trans le_hid
theorem SX.new {S : List Addr} {A : Hp} {p : Addr} {o : HO} (h : A p = none) : SX S A (upd A p o) := fun b u _ q => by
  rw [upd_ne (ne_of_none q h)]
  exact q
theorem SX.mut {S : List Addr} {A : Hp} {p : Addr} {o : HO} (h : p ∈ S) : SX S A (upd A p o) := fun b u n q => by
  rw [upd_ne (by rintro rfl; exact n h)]
  exact q
theorem SX.same {A B : Hp} (h : ∀ b o, A b = some o → B b = some o) {S : List Addr} : SX S A B := fun b o _ q => h b o q
theorem SX.at_ {S : List Addr} {A B : Hp} {b : Addr} {o : HO} (a : SX S A B) (q : A b = some o) (n : b ∉ S) : B b = some o := a b o n q
/-- fresh behind is fresh ahead -/
theorem SX.free {S : List Addr} {A B : Hp} {b : Addr} (a : SX S A B) (q : B b = none) (n : b ∉ S) : A b = none := by
  cases e : A b with
  | none => rfl
  | some o =>
    rw [a b o n e] at q
    cases q
theorem not_in_of_none {H : Hp} {p : Addr} {S : List Addr} (h : H p = none) (hs : ∀ b ∈ S, H b ≠ none) : p ∉ S := fun m => hs p m h
/-- locks -/
theorem le_lock {A : Hp} {d : Addr} {u : HO} {od : Obj} (h : A d = some u) (hm : Mut (some u)) (hi : ∀ C dx fs, u ≠ .ins C dx fs) : Le A (upd A d (.frz od u)) := by
  refine ⟨fun b v p q => ?_, fun b C dx fs q => ?_, fun b xs q => ?_⟩
  · by_cases e : b = d
    · subst e
      rcases q with q | ⟨o, q⟩
      · rw [h] at q
        cases q
        exact .inr ⟨od, upd_same⟩
      · rw [h] at q
        cases q
        exact hm.elim
    · unfold Rd
      rw [upd_ne e]
      exact q
  · rw [upd_ne]
    · exact q
    · rintro rfl
      rw [h] at q
      cases q
      exact hi _ _ _ rfl
  · rw [upd_ne]
    · exact q
    · rintro rfl
      rw [h] at q
      cases q
      exact hm
theorem le_unlock {A : Hp} {d : Addr} {u : HO} {od : Obj} (h : A d = some (.frz od u)) : Le A (upd A d u) := by
  refine ⟨fun b v p q => ?_, fun b C dx fs q => ?_, fun b xs q => ?_⟩
  · by_cases e : b = d
    · subst e
      rcases q with q | ⟨o, q⟩
      · rw [h] at q
        cases q
        exact p.elim
      · rw [h] at q
        cases q
        exact .inl upd_same
    · unfold Rd
      rw [upd_ne e]
      exact q
  · rw [upd_ne]
    · exact q
    · rintro rfl
      rw [h] at q
      cases q
  · rw [upd_ne]
    · exact q
    · rintro rfl
      rw [h] at q
      cases q

/-! ### steps of readings -/
section
variable {K : PySem.W.Frag} {σ σ' : L2.St} {H H' : Hp} {ta tb tc te : TE} {t u : TT} {x y z v : V} {r : R2} {Q : VK} {D : Ends} {t1 t2 : TS} {ag : TA} {QA : List V → Hp → Prop} {QB : Bool → Hp → Prop} {i j : Int}
theorem x_var {n : Nat} (h : σ[n]? = some (some v)) (k : Q v H) : tVar n σ H Q := ⟨v, h, k⟩
theorem x_c (k : Q v H) : tC v σ H Q := k
theorem x_op (k : ta σ H fun x H1 => tb σ H1 fun y H2 => r x y H2 Q) : tOp r ta tb σ H Q := k
theorem x_un {r : V → Hp → VK → Prop} (k : ta σ H fun x H1 => r x H1 Q) : tUn r ta σ H Q := k
theorem x_I0 {g : Int → Int → V} (k : Q (g i j) H) : rI0 g (.int i) (.int j) H Q := ⟨i, j, rfl, rfl, k⟩
theorem x_I {C : Int → Int → Prop} {g : Int → Int → V} (c : C i j) (k : Q (g i j) H) : rI C g (.int i) (.int j) H Q := ⟨i, j, rfl, rfl, c, k⟩
theorem x_U {g : Int → V} (k : Q (g i) H) : rU g (.int i) H Q := ⟨i, rfl, k⟩
theorem x_eq (h : scal x y = true) (k : Q (.bl (decide (x = y))) H) : rEq x y H Q := ⟨h, k⟩
theorem x_ne (h : scal x y = true) (k : Q (.bl (!decide (x = y))) H) : rNe x y H Q := ⟨h, k⟩
theorem x_test {te : TE} (k : te σ H fun x H' => ∃ c, x = .bl c ∧ QB c H') : tTest te σ H QB := k
theorem x_B {te : TE} (k : te σ H fun x H' => ∃ c, x = .bl c ∧ QB c H') : tB te σ H QB := k
theorem x_bl {b : Bool} {R : Bool → Prop} (k : R b) : ∃ c, V.bl b = .bl c ∧ R c := ⟨b, rfl, k⟩
theorem x_and (k : t σ H fun c H1 => if c = true then u σ H1 QB else QB false H1) : tAnd t u σ H QB := k
theorem x_or (k : t σ H fun c H1 => if c = true then QB true H1 else u σ H1 QB) : tOr t u σ H QB := k
theorem x_not (k : t σ H fun c H1 => QB (!c) H1) : tNot t σ H QB := k
theorem x_andV (k : ta σ H fun x H1 => ∃ c, x = .bl c ∧ if c = true then tb σ H1 Q else Q (.bl false) H1) : tAndV ta tb σ H Q := k
theorem x_orV (k : ta σ H fun x H1 => ∃ c, x = .bl c ∧ if c = true then Q (.bl true) H1 else tb σ H1 Q) : tOrV ta tb σ H Q := k
theorem x_notV (k : ta σ H fun x H1 => ∃ c, x = .bl c ∧ Q (.bl (!c)) H1) : tNotV ta σ H Q := k
theorem x_if (k : t σ H fun c H1 => if c = true then ta σ H1 Q else tb σ H1 Q) : tIf t ta tb σ H Q := k
theorem x_chain {r' : R2} (k : ta σ H fun x H1 => tb σ H1 fun y H2 => r x y H2 fun z H3 => ∃ k, z = .bl k ∧ (if k = true then tc σ H3 fun w' H4 => r' y w' H4 Q else Q (.bl false) H3)) : tChain r r' ta tb tc σ H Q := k
theorem x_CB {r : List V → Hp → VK → Prop} (k : ag σ H fun vs H1 => r vs H1 Q) : tCB r ag σ H Q := k
theorem x_nil (k : QA [] H) : tNil σ H QA := k
theorem x_cons {ar : TA} (k : ta σ H fun x H1 => ar σ H1 fun xs H2 => QA (x :: xs) H2) : tCons ta ar σ H QA := k
theorem x_tup (k : ag σ H fun xs H1 => xs.length ≤ sizeLine ∧ ∀ p, H1 p = none → Q (.ref p) (upd H1 p (.tup xs))) : tTup ag σ H Q := k
theorem x_lst (k : ag σ H fun xs H1 => xs.length ≤ sizeLine ∧ ∀ p, H1 p = none → Q (.ref p) (upd H1 p (.lst xs))) : tLst ag σ H Q := k
theorem x_call {sp : Sp} {dvs : List V} {E : XK} (k : ag σ H fun vs H1 => sp (vs ++ dvs) H1 Q E) : tCall sp dvs E ag σ H Q := k
theorem x_dnew (k : ∀ p, H p = none → Q (.ref p) (upd H p (.dK []))) : tDNewK σ H Q := k
theorem x_seq (k : t1 { D with nx := t2 D } σ H) : tSeq t1 t2 D σ H := k
theorem x_next (k : D.nx σ H) : tNext D σ H := k
theorem x_break (k : D.bk σ H) : tBreak D σ H := k
theorem x_cont (k : D.ct σ H) : tCont D σ H := k
theorem x_ret (k : te σ H D.rt) : tRet te D σ H := k
theorem x_retN (k : D.rt .non H) : tRetN D σ H := k
theorem x_drop (k : te σ H fun _ H1 => D.nx σ H1) : tDrop te D σ H := k
theorem x_ifS (k : t σ H fun b H1 => if b = true then t1 D σ H1 else t2 D σ H1) : tIfS t t1 t2 D σ H := k
theorem x_asg {g : TG} (k : te σ H fun x H1 => g x σ H1 D.nx) : tAsg te g D σ H := k
theorem x_name {n : Nat} {Q : L2.St → Hp → Prop} (e : σ.set n (some v) = σ') (k : Q σ' H) : gName n v σ H Q := by
  subst e
  exact k
theorem x_sub {to ti : TE} {st : TSet} {Q : L2.St → Hp → Prop} (k : to σ H fun o H1 => ti σ H1 fun i H2 => st o i v H2 fun H3 => Q σ H3) : gSub to ti st v σ H Q := k
theorem x_gnil {Q : L2.St → Hp → Prop} (k : Q σ H) : gNil [] σ H Q := ⟨rfl, k⟩
theorem x_gcons {g : TG} {gs : TGs} {vs : List V} {Q : L2.St → Hp → Prop} (k : g v σ H fun σ' H' => gs vs σ' H' Q) : gCons g gs (v :: vs) σ H Q := ⟨v, vs, rfl, k⟩
theorem x_gtup {n : Nat} {gs : TGs} {a : Addr} {xs : List V} {Q : L2.St → Hp → Prop} (h : SqT K H a xs) (hl : xs.length = n) (k : gs xs σ H Q) : gTup K n gs (.ref a) σ H Q := ⟨a, xs, rfl, h, hl, k⟩
theorem x_par {n m : Nat} (k : ag σ H fun vs H1 => ∃ v w, vs = [v, w] ∧ D.nx ((σ.set n (some v)).set m (some w)) H1) : tPar n m ag D σ H := k
theorem x_par2 {v w : V} {R : V → V → Prop} (k : R v w) : ∃ v' w', [v, w] = [v', w'] ∧ R v' w' := ⟨v, w, rfl, k⟩
theorem x_aug {n : Nat} {ti : TIp} (h : σ[n]? = some (some x)) (k : te σ H fun y H1 => ti x y H1 fun z H2 => D.nx (σ.set n (some z)) H2) : tAug n te ti D σ H := ⟨x, h, k⟩
theorem x_ipI {f : Int → Int → Int} (k : Q (.int (f i j)) H) : ipI f (.int i) (.int j) H Q := ⟨i, j, rfl, rfl, k⟩
theorem x_dput {td ty tv : TE} (k : tv σ H fun v H1 => td σ H1 fun x H2 => ty σ H2 fun y H3 => ∃ a H4, x = .ref a ∧ DPut H3 a y v H4 ∧ D.nx σ H4) : sDPut td ty tv D σ H := k
theorem x_dget {td ty : TE} (k : td σ H fun x H1 => ty σ H1 fun y H2 => ∃ a v, x = .ref a ∧ DGet H2 a y (some v) ∧ Q v H2) : tDGet td ty σ H Q := k
theorem x_din {td ty : TE} (k : ty σ H fun y H1 => td σ H1 fun x H2 => ∃ a o, x = .ref a ∧ DGet H2 a y o ∧ Q (.bl o.isSome) H2) : tDIn ty td σ H Q := k
theorem x_dnotin {td ty : TE} (k : ty σ H fun y H1 => td σ H1 fun x H2 => ∃ a o, x = .ref a ∧ DGet H2 a y o ∧ Q (.bl (!o.isSome)) H2) : tDNotIn ty td σ H Q := k
theorem x_bm {T : String} {r : V → List V → Hp → VK → Prop} (k : ta σ H fun x H1 => tyV K T x H1 ∧ ag σ H1 fun xs H2 => r x xs H2 Q) : tBM K T r ta ag σ H Q := k
theorem x_bm0 {T : String} {r : V → List V → Hp → VK → Prop} (k : ta σ H fun x H1 => tyV K T x H1 ∧ r x [] H1 Q) : tBM0 K T r ta σ H Q := k
theorem x_sl {r : V → Option Int → Option Int → Hp → VK → Prop} {tl th : TO} (k : te σ H fun x H1 => tl σ H1 fun l H2 => th σ H2 fun u H3 => r x l u H3 Q) : tSl r te tl th σ H Q := k
theorem x_nopart {Q : Option Int → Hp → Prop} (k : Q none H) : tNoPart σ H Q := k
theorem x_part {Q : Option Int → Hp → Prop} (k : te σ H fun x H1 => ∃ i, x = .int i ∧ Q (some i) H1) : tPart te σ H Q := k
theorem x_int {Q : Int → Prop} (k : Q i) : ∃ j, V.int i = .int j ∧ Q j := ⟨i, rfl, k⟩
theorem x_fld {f : Str} (k : te σ H fun x H1 => ∃ a C dx fs v, x = .ref a ∧ H1 a = some (.ins C dx fs) ∧ Cls K C ∧ NoAttr K C f ∧ fs.lookup f = some v ∧ Q v H1) : tFld K te f σ H Q := k
theorem x_start {t : TS} (e : σ = σ') (k : t D σ' H) : t D σ H := by
  rw [e]
  exact k
theorem x_for {wi : TI} {g : TG} {tb : TS} (k : wi σ H fun J H1 => ∃ W : Nat → Nat → L2.St → Hp → Prop, (∃ m, W 0 m σ H1) ∧ ∀ i m σ H, W i m σ H →
  (J.stop i H ∧ D.nx σ H) ∨ (J.go i H ∧ ∃ N : L2.St → Hp → Prop, (∀ σ' H', N σ' H' → ∃ m', m' < m ∧ W (i + 1) m' σ' H') ∧ ∀ x H', J.yld i H x H' → g x σ H' fun σ2 H2 => tb { D with nx := N, ct := N, bk := D.nx } σ2 H2)) : tFor wi g tb D σ H := k
theorem x_iStr {R : It → Hp → Prop} (k : te σ H fun v H1 => ∃ x, v = .str x ∧ R (Its x) H1) : iStr te σ H R := k
theorem x_str {s : Str} {R : Str → Prop} (k : R s) : ∃ x, V.str s = .str x ∧ R x := ⟨s, rfl, k⟩
theorem x_iRng1 {R : It → Hp → Prop} (k : ag σ H fun vs H1 => ∃ j : Int, vs = [.int j] ∧ -(2 ^ 62) ≤ j ∧ j < 2 ^ 62 ∧ R (Itr 0 j.toNat) H1) : iRng1 ag σ H R := k
theorem x_rng1 {R : Int → Prop} (h1 : -(2 ^ 62) ≤ i) (h2 : i < 2 ^ 62) (k : R i) : ∃ j : Int, [V.int i] = [.int j] ∧ -(2 ^ 62) ≤ j ∧ j < 2 ^ 62 ∧ R j := ⟨i, rfl, h1, h2, k⟩
theorem x_iRng2 {R : It → Hp → Prop} (k : ag σ H fun vs H1 => ∃ i j : Int, vs = [.int i, .int j] ∧ (-(2 ^ 62) ≤ i ∧ i < 2 ^ 62 ∧ -(2 ^ 62) ≤ j ∧ j < 2 ^ 62) ∧ R (Itr i (j - i).toNat) H1) : iRng2 ag σ H R := k
theorem x_rng2 {R : Int → Int → Prop} (h : -(2 ^ 62) ≤ i ∧ i < 2 ^ 62 ∧ -(2 ^ 62) ≤ j ∧ j < 2 ^ 62) (k : R i j) : ∃ i' j' : Int, [V.int i, V.int j] = [.int i', .int j'] ∧ (-(2 ^ 62) ≤ i' ∧ i' < 2 ^ 62 ∧ -(2 ^ 62) ≤ j' ∧ j' < 2 ^ 62) ∧ R i' j' := ⟨i, j, rfl, h, k⟩
theorem x_iList {R : It → Hp → Prop} (k : te σ H fun x H1 => ∃ a, x = .ref a ∧ (∃ xs, SqL K H1 a xs) ∧ R (Itl K a) H1) : iList K te σ H R := k
theorem x_itl {a : Addr} {xs : List V} {R : Addr → Prop} (h : SqL K H a xs) (k : R a) : ∃ a', V.ref a = .ref a' ∧ (∃ xs, SqL K H a' xs) ∧ R a' := ⟨a, rfl, ⟨xs, h⟩, k⟩
theorem x_iTup {R : It → Hp → Prop} (k : te σ H fun x H1 => ∃ a, x = .ref a ∧ (∃ xs, SqT K H1 a xs) ∧ R (Itt K a) H1) : iTup K te σ H R := k
theorem x_itt {a : Addr} {xs : List V} {R : Addr → Prop} (h : SqT K H a xs) (k : R a) : ∃ a', V.ref a = .ref a' ∧ (∃ xs, SqT K H a' xs) ∧ R a' := ⟨a, rfl, ⟨xs, h⟩, k⟩
theorem x_iKeys {R : It → Hp → Prop} (k : te σ H fun x H1 => ∃ d o, x = .ref d ∧ ((∃ kvs, H1 d = some (.frz o (.dK kvs)) ∧ R (Itk d o kvs) H1) ∨ ∃ kvs, H1 d = some (.frz o (.dT kvs)) ∧ R (Itkt d o kvs) H1)) : iKeys te σ H R := k
theorem x_itk {d : Addr} {o : Obj} {kvs : List (Key × V)} {R : Addr → Obj → List (Key × V) → Prop} {R' : Addr → Obj → Prop} (h : H d = some (.frz o (.dK kvs))) (k : R d o kvs) : ∃ d' o', V.ref d = .ref d' ∧ ((∃ kvs, H d' = some (.frz o' (.dK kvs)) ∧ R d' o' kvs) ∨ R' d' o') := ⟨d, o, rfl, .inl ⟨kvs, h, k⟩⟩
theorem x_iVals {R : It → Hp → Prop} (k : te σ H fun x H1 => ∃ d o kvs, x = .ref d ∧ H1 d = some (.frz o (.dK kvs)) ∧ R (Itd d o kvs) H1) : iVals te σ H R := k
theorem x_itd {d : Addr} {o : Obj} {kvs : List (Key × V)} {R : Addr → Obj → List (Key × V) → Prop} (h : H d = some (.frz o (.dK kvs))) (k : R d o kvs) : ∃ d' o' kvs', V.ref d = .ref d' ∧ H d' = some (.frz o' (.dK kvs')) ∧ R d' o' kvs' := ⟨d, o, kvs, rfl, h, k⟩
theorem x_iItems {R : It → Hp → Prop} (k : te σ H fun x H1 => ∃ d o kvs, x = .ref d ∧ H1 d = some (.frz o (.dK kvs)) ∧ R (Iti d o kvs) H1) : iItems te σ H R := k
theorem x_iti {d : Addr} {o : Obj} {kvs : List (Key × V)} {R : Addr → Obj → List (Key × V) → Prop} (h : H d = some (.frz o (.dK kvs))) (k : R d o kvs) : ∃ d' o' kvs', V.ref d = .ref d' ∧ H d' = some (.frz o' (.dK kvs')) ∧ R d' o' kvs' := ⟨d, o, kvs, rfl, h, k⟩
theorem x_nt {A B : Prop} (k : B) : if (!true) = true then A else B := iteF k
theorem x_nf {A B : Prop} (k : A) : if (!false) = true then A else B := iteT k
theorem x_true {c : Bool} {A B : Prop} (h : c = true) (k : A) : if c = true then A else B := by
  rw [if_pos h]
  exact k
theorem x_false {c : Bool} {A B : Prop} (h : c = false) (k : B) : if c = true then A else B := by
  rw [h]
  exact iteF k
theorem x_cases {c : Bool} {A B : Prop} (h1 : c = true → A) (h2 : c = false → B) : if c = true then A else B := by
  cases c
  · exact iteF (h2 rfl)
  · exact iteT (h1 rfl)
end

theorem cx_K {CX : CXT} {P : Program} {w : World} {K : PySem.W.Frag} {mg : Str → Option Value} {base : Heap} {N : List Str} {qual : Str} {scope : Scope} {f : Addr} {cd : Value} {A : Around} {outer : List Env} {s : Shared} {H : Hp} {E : XK} :
    (cxOf CX P w K mg base N qual scope f cd A outer s H E).K = K := rfl
theorem cx_w {CX : CXT} {P : Program} {w : World} {K : PySem.W.Frag} {mg : Str → Option Value} {base : Heap} {N : List Str} {qual : Str} {scope : Scope} {f : Addr} {cd : Value} {A : Around} {outer : List Env} {s : Shared} {H : Hp} {E : XK} :
    (cxOf CX P w K mg base N qual scope f cd A outer s H E).w = w := rfl
theorem cx_P {CX : CXT} {P : Program} {w : World} {K : PySem.W.Frag} {mg : Str → Option Value} {base : Heap} {N : List Str} {qual : Str} {scope : Scope} {f : Addr} {cd : Value} {A : Around} {outer : List Env} {s : Shared} {H : Hp} {E : XK} :
    (cxOf CX P w K mg base N qual scope f cd A outer s H E).prog = P := rfl
theorem cx_n {X : Cx} {E : Value → Shared → Prop} : (X.wish E).K = X.K := rfl
/-! ### defs of the top -/
structure FX (K : PySem.W.Frag) (mg : Str → Option Value) (x qual : Str) (st : Stmt) (ps : List Str) where
  f : Addr
  fd : FuncData
  F : Fun K x qual st f fd
  g : mg x = some (.ref f)
  B : Binds K fd ps []
structure MX (K : PySem.W.Frag) (x qual : Str) (st : Stmt) (ps : List Str) where
  f : Addr
  fd : FuncData
  F : Fun K x qual st f fd
  B : Binds K fd ps []

/-! ### readings of plain data -/
abbrev RR (α : Type) := Hp → V → α → Prop
/-- a reading that stays as the heap grows -/
def Mono {α : Type} (R : RR α) : Prop := ∀ A B v x, Le A B → R A v x → R B v x
def rI : RR Int := fun _ v i => v = .int i
def rS : RR Str := fun _ v s => v = .str s
def rB : RR Bool := fun _ v b => v = .bl b
theorem mono_I : Mono rI := fun _ _ _ _ _ h => h
theorem mono_S : Mono rS := fun _ _ _ _ _ h => h
theorem mono_B : Mono rB := fun _ _ _ _ _ h => h
/-- a list, a tuple of alike things -/
def rL (K : PySem.W.Frag) {α : Type} (R : RR α) : RR (List α) := fun H v l => ∃ a xs, v = .ref a ∧ SqL K H a xs ∧ Paired (R H) xs l
def rTL (K : PySem.W.Frag) {α : Type} (R : RR α) : RR (List α) := fun H v l => ∃ a xs, v = .ref a ∧ SqT K H a xs ∧ Paired (R H) xs l
def rP (K : PySem.W.Frag) {α β : Type} (R : RR α) (S : RR β) : RR (α × β) := fun H v p => ∃ a x y, v = .ref a ∧ SqT K H a [x, y] ∧ R H x p.1 ∧ S H y p.2
/-- a dict whose keys are texts -/
def KVs {α : Type} (R : RR α) (H : Hp) : List (Key × V) → List (Str × α) → Prop := Paired fun kv p => kv.1 = Sum.inr p.1 ∧ R H kv.2 p.2
def rD {α : Type} (R : RR α) : RR (List (Str × α)) := fun H v l => ∃ a kvs, v = .ref a ∧ Rd H a (.dK kvs) ∧ KVs R H kvs l
section
variable {K : PySem.W.Frag} {α β : Type} {R : RR α} {S : RR β}
theorem paired_le {A B : Hp} (m : Mono R) (e : Le A B) : ∀ {xs : List V} {l : List α}, Paired (R A) xs l → Paired (R B) xs l
  | _, _, .nil => .nil
  | _, _, .cons h t => .cons (m _ _ _ _ e h) (paired_le m e t)
theorem KVs.le {A B : Hp} (m : Mono R) (e : Le A B) : ∀ {xs : List (Key × V)} {l : List (Str × α)}, KVs R A xs l → KVs R B xs l
  | _, _, .nil => .nil
  | _, _, .cons h t => .cons ⟨h.1, m _ _ _ _ e h.2⟩ (KVs.le m e t)
theorem mono_L (m : Mono R) : Mono (rL K R) := fun A B v l e ⟨a, xs, h1, h2, h3⟩ => ⟨a, xs, h1, e.l h2, paired_le m e h3⟩
theorem mono_TL (m : Mono R) : Mono (rTL K R) := fun A B v l e ⟨a, xs, h1, h2, h3⟩ => ⟨a, xs, h1, e.t h2, paired_le m e h3⟩
theorem mono_P (m : Mono R) (n : Mono S) : Mono (rP K R S) := fun A B v p e ⟨a, x, y, h1, h2, h3, h4⟩ => ⟨a, x, y, h1, e.t h2, m _ _ _ _ e h3, n _ _ _ _ e h4⟩
theorem mono_D (m : Mono R) : Mono (rD R) := fun A B v l e ⟨a, kvs, h1, h2, h3⟩ => ⟨a, kvs, h1, e.rd _ _ trivial h2, KVs.le m e h3⟩
end

/-! ### paired lists -/
section
variable {α β : Type} {F : α → β → Prop}
theorem Paired.get : ∀ {xs : List α} {l : List β} {i : Nat} {y : β}, Paired F xs l → l[i]? = some y → ∃ x, xs[i]? = some x ∧ F x y
  | _, _, _, _, .nil, e => by simp at e
  | _, _, 0, y, .cons h _, e => by simp at e; subst e; exact ⟨_, rfl, h⟩
  | _, _, i + 1, y, .cons _ t, e => by
    obtain ⟨x, h1, h2⟩ := Paired.get (i := i) (y := y) t (by simpa using e)
    exact ⟨x, by simpa using h1, h2⟩
theorem Paired.getL : ∀ {xs : List α} {l : List β} {i : Nat} {x : α}, Paired F xs l → xs[i]? = some x → ∃ y, l[i]? = some y ∧ F x y
  | _, _, _, _, .nil, e => by simp at e
  | _, _, 0, y, .cons h _, e => by simp at e; subst e; exact ⟨_, rfl, h⟩
  | _, _, i + 1, y, .cons _ t, e => by
    obtain ⟨x, h1, h2⟩ := Paired.getL (i := i) (x := y) t (by simpa using e)
    exact ⟨x, by simpa using h1, h2⟩
theorem Paired.app : ∀ {xs xs' : List α} {l l' : List β}, Paired F xs l → Paired F xs' l' → Paired F (xs ++ xs') (l ++ l')
  | _, _, _, _, .nil, h => h
  | _, _, _, _, .cons a t, h => .cons a (Paired.app t h)
theorem Paired.map_right {γ : Type} {g : γ → β} : ∀ {xs : List α} {l : List γ}, Paired (fun x y => F x (g y)) xs l → Paired F xs (l.map g)
  | _, _, .nil => .nil
  | _, _, .cons a t => .cons a (Paired.map_right t)
end
/-- ints, texts in a list are told by what they are -/
theorem paired_I {H : Hp} : ∀ {xs : List V} {l : List Int}, Paired (rI H) xs l → xs = l.map V.int
  | _, _, .nil => rfl
  | _, _, .cons h t => by rw [h, paired_I t]; rfl
theorem paired_S {H : Hp} : ∀ {xs : List V} {l : List Str}, Paired (rS H) xs l → xs = l.map V.str
  | _, _, .nil => rfl
  | _, _, .cons h t => by rw [h, paired_S t]; rfl
theorem paired_B {H : Hp} : ∀ {xs : List V} {l : List Bool}, Paired (rB H) xs l → xs = l.map V.bl
  | _, _, .nil => rfl
  | _, _, .cons h t => by rw [h, paired_B t]; rfl
theorem paired_I' {H : Hp} : ∀ (l : List Int), Paired (rI H) (l.map V.int) l
  | [] => .nil
  | a :: t => .cons rfl (paired_I' t)
theorem paired_S' {H : Hp} : ∀ (l : List Str), Paired (rS H) (l.map V.str) l
  | [] => .nil
  | a :: t => .cons rfl (paired_S' t)
theorem KVs.keys {α : Type} {R : RR α} {H : Hp} : ∀ {kvs : List (Key × V)} {l : List (Str × α)}, KVs R H kvs l → kvs.map (·.1) = (l.map (·.1)).map Sum.inr
  | _, _, .nil => rfl
  | _, _, .cons h t => by
    rw [List.map_cons, List.map_cons, List.map_cons, h.1, KVs.keys t]

/-! ### a dict's look-up by what it holds -/
def lookA {α : Type} : List (Str × α) → Str → Option α
  | [], _ => none
  | (k, a) :: r, x => if k = x then some a else lookA r x
theorem KVs.look {α : Type} {R : RR α} {H : Hp} : ∀ {kvs : List (Key × V)} {l : List (Str × α)} (x : Str), KVs R H kvs l → (∃ v a, valV kvs (Sum.inr x) = some v ∧ lookA l x = some a ∧ R H v a) ∨ (valV kvs (Sum.inr x) = none ∧ lookA l x = none)
  | _, _, x, .nil => .inr ⟨rfl, rfl⟩
  | kv :: kvs, (y, a) :: l, x, .cons h t => by
    by_cases e : y = x
    · left
      refine ⟨kv.2, a, valV_pos (by rw [h.1, e]), ?_, h.2⟩
      unfold lookA
      rw [if_pos e]
    · have n : ¬ kv.1 = (Sum.inr x : Key) := by
        rw [h.1]
        intro q
        exact e (Sum.inr.inj q)
      rw [valV_neg n]
      unfold lookA
      rw [if_neg e]
      exact KVs.look x t
theorem lookA_mem {α : Type} : ∀ {l : List (Str × α)} {x : Str} {a : α}, lookA l x = some a → (x, a) ∈ l
  | (k, b) :: r, x, a, h => by
    unfold lookA at h
    split at h
    · rename_i e
      cases h
      subst e
      exact List.mem_cons_self
    · exact List.mem_cons_of_mem _ (lookA_mem h)
theorem lookA_some {α : Type} : ∀ {l : List (Str × α)} {x : Str}, x ∈ l.map (·.1) → ∃ a, lookA l x = some a
  | (k, b) :: r, x, h => by
    unfold lookA
    by_cases e : k = x
    · exact ⟨b, if_pos e⟩
    · rw [if_neg e]
      rcases List.mem_cons.mp h with h | h
      · exact absurd h.symm e
      · exact lookA_some h
theorem lookA_none {α : Type} : ∀ {l : List (Str × α)} {x : Str}, x ∉ l.map (·.1) → lookA l x = none
  | [], _, _ => rfl
  | (k, b) :: r, x, h => by
    unfold lookA
    rw [if_neg fun e => h (List.mem_cons.mpr (.inl e.symm)), lookA_none fun m => h (List.mem_cons_of_mem _ m)]
theorem lookA_isSome {α : Type} {l : List (Str × α)} {x : Str} : (lookA l x).isSome = true ↔ x ∈ l.map (·.1) := by
  constructor
  · intro h
    by_cases m : x ∈ l.map (·.1)
    · exact m
    · rw [lookA_none m] at h
      cases h
  · intro h
    obtain ⟨a, e⟩ := lookA_some h
    rw [e]
    rfl
theorem lookA_nodup {α : Type} : ∀ {l : List (Str × α)} {x : Str} {a : α}, (l.map (·.1)).Nodup → (x, a) ∈ l → lookA l x = some a
  | (k, b) :: r, x, a, hn, h => by
    have hn : (k :: r.map (·.1)).Nodup := hn
    obtain ⟨h1, h2⟩ := List.nodup_cons.mp hn
    unfold lookA
    rcases List.mem_cons.mp h with h | h
    · cases h
      exact if_pos rfl
    · rw [if_neg]
      · exact lookA_nodup h2 h
      · rintro rfl
        exact h1 (List.mem_map.mpr ⟨_, h, rfl⟩)
/-- d[x] = a -/
def putA {α : Type} : List (Str × α) → Str → α → List (Str × α)
  | [], x, a => [(x, a)]
  | (k, b) :: r, x, a => if k = x then (k, a) :: r else (k, b) :: putA r x a

/-! ### more steps -/
section
variable {K : PySem.W.Frag} {σ σ' : L2.St} {H H' : Hp} {x y z v : V} {Q : VK} {D : Ends} {i : Int}
theorem ty_tup {a : Addr} {xs : List V} (h : SqT K H a xs) : TyX K H (.ref a) (.type "tuple") := by
  rcases h with (h | ⟨o, h⟩) | ⟨o, its, n, h1, h2, _⟩
  · exact .base (.tup h)
  · exact .fTuple h
  · exact .kTuple h1 h2
theorem ty_dict {a : Addr} {kvs : List (Key × V)} (h : Rd H a (.dK kvs)) : TyX K H (.ref a) (.type "dict") := by
  rcases h with h | ⟨o, h⟩
  · exact .base (.dK h)
  · exact .fDict h
theorem ty_list {a : Addr} {xs : List V} (h : SqL K H a xs) : TyX K H (.ref a) (.type "list") := by
  rcases h with (h | ⟨o, h⟩) | ⟨o, its, n, h1, h2, _⟩
  · exact .base (.lst h)
  · exact .base (.frz h)
  · exact .kList h1 h2
theorem x_isi {a b : String} {r : Bool} (ty : TyX K H x (.type a)) (h : kitB a b = some r) (k : Q (.bl r) H) : rIsi K [x, .ty b] H Q := ⟨x, .ty b, _, _, r, rfl, .ty b, ty, kit_ty h, k⟩
theorem x_isiT {a b : String} (ty : TyX K H x (.type a)) (h : kitB a b = some true) (k : Q (.bl true) H) : rIsi K [x, .ty b] H Q := x_isi ty h k
theorem x_isiF {a b : String} (ty : TyX K H x (.type a)) (h : kitB a b = some false) (k : Q (.bl false) H) : rIsi K [x, .ty b] H Q := x_isi ty h k
theorem x_lenS {s : Str} (h : s.length ≤ sizeLine) (k : Q (.int s.length) H) : ∃ x n, [V.str s] = [x] ∧ LenV K x H n ∧ Q (.int n) H := ⟨_, _, rfl, ⟨h, rfl⟩, k⟩
theorem x_lenL {a : Addr} {xs : List V} (h : SqL K H a xs) (k : Q (.int xs.length) H) : ∃ x n, [V.ref a] = [x] ∧ LenV K x H n ∧ Q (.int n) H := ⟨_, _, rfl, .inl ⟨xs, h, rfl⟩, k⟩
theorem x_lenT {a : Addr} {xs : List V} (h : SqT K H a xs) (k : Q (.int xs.length) H) : ∃ x n, [V.ref a] = [x] ∧ LenV K x H n ∧ Q (.int n) H := ⟨_, _, rfl, .inr ⟨xs, h, rfl⟩, k⟩
theorem x_ixT {a : Addr} {xs : List V} (h : SqT K H a xs) (e : atI xs i = some v) (k : Q v H) : rIxT K (.ref a) (.int i) H Q := ⟨a, xs, i, v, rfl, rfl, h, e, k⟩
theorem x_ixL {a : Addr} {xs : List V} (h : SqL K H a xs) (e : atI xs i = some v) (k : Q v H) : rIxL K (.ref a) (.int i) H Q := ⟨a, xs, i, v, rfl, rfl, h, e, k⟩
theorem x_ixS {s : Str} {c : Nat} (h : s.length ≤ sizeLine) (e : atI s.cps.toList i = some c) (k : Q (.str ⟨#[c]⟩) H) : rIxS (.str s) (.int i) H Q := ⟨s, i, c, rfl, rfl, h, e, k⟩
/-- what a dict of texts holds at a text -/
theorem dget_rd {a : Addr} {kvs : List (Key × V)} {s : Str} (h : Rd H a (.dK kvs)) : DGet H a (.str s) (valV kvs (Sum.inr s)) := .inl ⟨kvs, Sum.inr s, h, rfl, rfl⟩
end
/-- len of a dict that may be locked -/
theorem call_lenR {X : Cx} : CallR X (.builtin "len") (fun xs H Q => ∃ a kvs, xs = [V.ref a] ∧ Rd H a (.dK kvs) ∧ Q (.int kvs.length) H) := by
  intro pins s σ H xs us Q I r h
  obtain ⟨a, kvs, rfl, ha, q⟩ := h
  obtain ⟨u, rfl, ru⟩ := vals1 r
  cases ru
  exact d_len I ha fun t s' I' => ⟨.int kvs.length, H, I', ⟨t, rfl⟩, q⟩
/-- H with o (or nothing) at d -/
def put (H : Hp) (d : Addr) (o : Option HO) : Hp := fun b => if b = d then o else H b
theorem put_ne {H : Hp} {d b : Addr} {o : Option HO} (h : b ≠ d) : put H d o b = H b := by
  unfold put
  rw [if_neg h]
theorem put_same {H : Hp} {d : Addr} {o : Option HO} : put H d o d = o := by
  unfold put
  rw [if_pos rfl]
theorem put_upd {H : Hp} {d : Addr} {u : HO} : put H d (some u) = upd H d u := rfl
theorem put_self {H : Hp} {d : Addr} {o : Option HO} (h : H d = o) : put H d o = H := by
  funext b
  unfold put
  split
  · rename_i e
    rw [e, h]
  · rfl
/-- a thing is locked, or it was locked before -/
def tLockR (t : TS) : TS := fun D σ H => ∃ d u, Rd H d u ∧ Mut (some u) ∧ ∀ od HL, HL d = some (.frz od u) → (∀ b, b ≠ d → HL b = H b) →
  t ⟨fun σ' H' => H' d = some (.frz od u) ∧ D.nx σ' (put H' d (H d)), fun v H' => H' d = some (.frz od u) ∧ D.rt v (put H' d (H d)), fun σ' H' => H' d = some (.frz od u) ∧ D.bk σ' (put H' d (H d)), fun σ' H' => H' d = some (.frz od u) ∧ D.ct σ' (put H' d (H d))⟩ σ HL
def tLockRE (t : TE) : TE := fun σ H Q => ∃ d u, Rd H d u ∧ Mut (some u) ∧ ∀ od HL, HL d = some (.frz od u) → (∀ b, b ≠ d → HL b = H b) → t σ HL fun v H' => H' d = some (.frz od u) ∧ Q v (put H' d (H d))
theorem ps_lockR {X : Cx} {st : Stmt} {t : TS} (h : PS X st t) : PS X st (tLockR t) := by
  refine ⟨fun pins s σ H D I hw => ?_⟩
  obtain ⟨d, u, hd, mu, hw⟩ := hw
  rcases hd with hd | ⟨o, hd⟩
  · refine (ps_lock h).run pins s σ H D I ⟨d, u, hd, mu, fun od => ?_⟩
    have q := hw od (upd H d (.frz od u)) upd_same fun b hb => upd_ne hb
    rw [hd] at q
    exact q
  · refine thn (h.run pins s σ _ _ I (hw o H hd fun _ _ => rfl)) fun f s1 q => ?_
    cases f with
    | next => obtain ⟨σ', H', I2, e, q⟩ := q; rw [put_self (e.trans hd.symm)] at q; exact ⟨σ', _, I2, q⟩
    | brk => obtain ⟨σ', H', I2, e, q⟩ := q; rw [put_self (e.trans hd.symm)] at q; exact ⟨σ', _, I2, q⟩
    | cont => obtain ⟨σ', H', I2, e, q⟩ := q; rw [put_self (e.trans hd.symm)] at q; exact ⟨σ', _, I2, q⟩
    | ret v => obtain ⟨x, σ', H', I2, r, e, q⟩ := q; rw [put_self (e.trans hd.symm)] at q; exact ⟨x, σ', _, I2, r, q⟩
theorem pe_lockR {X : Cx} {e : Expr} {t : TE} (h : PE X e t) : PE X e (tLockRE t) := by
  refine ⟨fun pins s σ H Q I hw => ?_⟩
  obtain ⟨d, u, hd, mu, hw⟩ := hw
  rcases hd with hd | ⟨o, hd⟩
  · refine (pe_lock h).run pins s σ H Q I ⟨d, u, hd, mu, fun od => ?_⟩
    have q := hw od (upd H d (.frz od u)) upd_same fun b hb => upd_ne hb
    rw [hd] at q
    exact q
  · refine thn (h.run pins s σ _ _ I (hw o H hd fun _ _ => rfl)) fun v s1 ⟨x, H1, I2, r, e2, q⟩ => ?_
    rw [put_self (e2.trans hd.symm)] at q
    exact ⟨x, _, I2, r, q⟩
section
variable {H HL H' : Hp} {d : Addr} {kvs : List (Key × V)} {od : Obj} {S : List Addr}
theorem lock_le (h : Rd H d (.dK kvs)) (e : HL d = some (.frz od (.dK kvs))) (ne : ∀ b, b ≠ d → HL b = H b) : Le H HL := by
  refine ⟨fun b v p q => ?_, fun b C dx fs q => ?_, fun b xs q => ?_⟩
  · by_cases hb : b = d
    · subst hb
      have z : v = .dK kvs := by
        rcases q with q | ⟨o, q⟩ <;> rcases h with h | ⟨o', h⟩ <;> rw [h] at q <;> cases q
        · rfl
        · exact p.elim
        · rfl
      exact .inr ⟨od, by rw [e, z]⟩
    · unfold Rd
      rw [ne b hb]
      exact q
  · rw [ne]
    · exact q
    · rintro rfl
      rcases h with h | ⟨o', h⟩ <;> rw [h] at q <;> cases q
  · rw [ne]
    · exact q
    · rintro rfl
      rcases h with h | ⟨o', h⟩ <;> rw [h] at q <;> cases q
theorem unlock_sx (ne : ∀ b, b ≠ d → HL b = H b) (a : SX S HL H') : SX S H (put H' d (H d)) := fun b o n q => by
  by_cases hb : b = d
  · subst hb
    rw [put_same]
    exact q
  · rw [put_ne hb]
    exact a b o n (by rw [ne b hb]; exact q)
theorem unlock_le (h : Rd H d (.dK kvs)) (e : H' d = some (.frz od (.dK kvs))) : Le H' (put H' d (H d)) := by
  rcases h with h | ⟨o, h⟩
  · rw [h, put_upd]
    exact le_unlock e
  · refine ⟨fun b v p q => ?_, fun b C dx fs q => ?_, fun b xs q => ?_⟩
    · by_cases hb : b = d
      · subst hb
        have z : v = .dK kvs := by
          rcases q with q | ⟨o, q⟩ <;> rw [e] at q <;> cases q
          · exact p.elim
          · rfl
        refine .inr ⟨o, ?_⟩
        rw [put_same, h, z]
      · unfold Rd
        rw [put_ne hb]
        exact q
    · rw [put_ne]
      · exact q
      · rintro rfl
        rw [e] at q
        cases q
    · rw [put_ne]
      · exact q
      · rintro rfl
        rw [e] at q
        cases q
end

/-! ### names for the readings of operators and calls -/
def rLeS : R2 := fun x y H Q => ∃ i j, x = .str i ∧ y = .str j ∧ Q (.bl (!decide (j.cps.toList < i.cps.toList))) H
def rCatS : R2 := fun x y H Q => ∃ i j, x = .str i ∧ y = .str j ∧ i.length + j.length ≤ sizeLine ∧ Q (.str (i ++ j)) H
def rIsNo : R2 := fun x y H Q => y = .non ∧ Q (.bl (decide (x = .non))) H
def rNotNo : R2 := fun x y H Q => y = .non ∧ Q (.bl (!decide (x = .non))) H
def rInSg (neg : Bool) : R2 := fun x y H Q => ∃ (c : Nat) (z : Str), x = .str ⟨#[c]⟩ ∧ y = .str z ∧ Q (.bl (if neg then !decide (c ∈ z.cps.toList) else decide (c ∈ z.cps.toList))) H
def cLen (K : PySem.W.Frag) : List V → Hp → VK → Prop := fun xs H Q => ∃ x n, xs = [x] ∧ LenV K x H n ∧ Q (.int n) H
def cLenD : List V → Hp → VK → Prop := fun xs H Q => ∃ a kvs, xs = [V.ref a] ∧ Rd H a (.dK kvs) ∧ Q (.int kvs.length) H
def cMin2 : List V → Hp → VK → Prop := fun xs H Q => ∃ i j, xs = [.int i, .int j] ∧ Q (.int (if j < i then j else i)) H
def cMax2 : List V → Hp → VK → Prop := fun xs H Q => ∃ i j, xs = [.int i, .int j] ∧ Q (.int (if j > i then j else i)) H
def cAbs : List V → Hp → VK → Prop := fun xs H Q => ∃ i, xs = [.int i] ∧ Q (.int (if i < 0 then -i else i)) H
def cInt : List V → Hp → VK → Prop := fun xs H Q => (∃ i, xs = [.int i] ∧ Q (.int i) H) ∨ ∃ k, xs = [.bl k] ∧ Q (.int (if k then 1 else 0)) H
def cStr : List V → Hp → VK → Prop := fun xs H Q => ∃ i, xs = [.int i] ∧ i.natAbs.log2 < 1920 ∧ Q (.str (toString i)) H
def cList (K : PySem.W.Frag) : List V → Hp → VK → Prop := fun xs H Q => ∃ p ys, xs = [.ref p] ∧ (SqL K H p ys ∨ SqT K H p ys) ∧ ∀ l, H l = none → Q (.ref l) (upd H l (.lst ys))
def cTup (K : PySem.W.Frag) : List V → Hp → VK → Prop := fun xs H Q => ∃ p ys, xs = [.ref p] ∧ SqL K H p ys ∧ ∀ l, H l = none → Q (.ref l) (upd H l (.tup ys))
def cDict : List V → Hp → VK → Prop := fun xs H Q => ∃ (a : Addr) (kvs : List (Key × V)), xs = [.ref a] ∧ Rd H a (.dK kvs) ∧ ∀ p, H p = none → Q (.ref p) (upd H p (.dK kvs))
def cListD : List V → Hp → VK → Prop := fun xs H Q => ∃ (a : Addr) (kvs : List (Key × V)), xs = [.ref a] ∧ Rd H a (.dK kvs) ∧ ∀ p, H p = none → Q (.ref p) (upd H p (.lst (kvs.map fun kv => kV kv.1)))
section
variable {X : Cx}
theorem op_leS : OpR X (compareOp .LtE) rLeS := op_le_str
theorem op_catS : OpR X (binaryOp .Add) rCatS := op_add_str
theorem op_isNo : OpR X (compareOp .Is) rIsNo := op_isN
theorem op_notNo : OpR X (compareOp .IsNot) rNotNo := op_notN
theorem op_inSg : OpR X (compareOp .In) (rInSg false) := op_in_sign
theorem op_notInSg : OpR X (compareOp .NotIn) (rInSg true) := op_notIn_sign
theorem cl_len : CallR X (.builtin "len") (cLen X.K) := call_len
theorem cl_lenD : CallR X (.builtin "len") cLenD := call_lenR
theorem cl_min2 (hc : X.calm = true) : CallR X (.builtin "min") cMin2 := call_min2 hc
theorem cl_max2 (hc : X.calm = true) : CallR X (.builtin "max") cMax2 := call_max2 hc
theorem cl_abs : CallR X (.builtin "abs") cAbs := call_abs
theorem cl_int : CallR X (.type "int") cInt := call_int1
theorem cl_str : CallR X (.type "str") cStr := call_str_int
theorem cl_list : CallR X (.type "list") (cList X.K) := call_list_of
theorem cl_tup : CallR X (.type "tuple") (cTup X.K) := by
  intro pins s σ H xs us Q I r h
  obtain ⟨p, ys, e, hs, q⟩ := h
  exact call_tuple_of pins s σ H xs us Q I r ⟨p, ys, e, .inl ⟨hs, q⟩⟩
theorem cl_dict : CallR X (.type "dict") cDict := call_dictD
theorem cl_listD (hc : X.calm = true) : CallR X (.type "list") cListD := call_listD hc
end
section
variable {K : PySem.W.Frag} {H : Hp} {Q : VK} {i j : Int} {a : Addr}
theorem x_leS {s t : Str} (k : Q (.bl (!decide (t.cps.toList < s.cps.toList))) H) : rLeS (.str s) (.str t) H Q := ⟨s, t, rfl, rfl, k⟩
theorem x_catS {s t : Str} (h : s.length + t.length ≤ sizeLine) (k : Q (.str (s ++ t)) H) : rCatS (.str s) (.str t) H Q := ⟨s, t, rfl, rfl, h, k⟩
theorem x_isNo {x : V} (k : Q (.bl (decide (x = .non))) H) : rIsNo x .non H Q := ⟨rfl, k⟩
theorem x_notNo {x : V} (k : Q (.bl (!decide (x = .non))) H) : rNotNo x .non H Q := ⟨rfl, k⟩
theorem x_len {x : V} {n : Nat} (h : LenV K x H n) (k : Q (.int n) H) : cLen K [x] H Q := ⟨x, n, rfl, h, k⟩
theorem x_lenL' {xs : List V} (h : SqL K H a xs) (k : Q (.int xs.length) H) : cLen K [.ref a] H Q := ⟨_, _, rfl, .inl ⟨xs, h, rfl⟩, k⟩
theorem x_lenT' {xs : List V} (h : SqT K H a xs) (k : Q (.int xs.length) H) : cLen K [.ref a] H Q := ⟨_, _, rfl, .inr ⟨xs, h, rfl⟩, k⟩
theorem x_lenS' {s : Str} (h : s.length ≤ sizeLine) (k : Q (.int s.length) H) : cLen K [.str s] H Q := ⟨_, _, rfl, ⟨h, rfl⟩, k⟩
theorem x_lenD {kvs : List (Key × V)} (h : Rd H a (.dK kvs)) (k : Q (.int kvs.length) H) : cLenD [.ref a] H Q := ⟨a, kvs, rfl, h, k⟩
theorem x_min2 (k : Q (.int (if j < i then j else i)) H) : cMin2 [.int i, .int j] H Q := ⟨i, j, rfl, k⟩
theorem x_max2 (k : Q (.int (if j > i then j else i)) H) : cMax2 [.int i, .int j] H Q := ⟨i, j, rfl, k⟩
theorem x_abs (k : Q (.int (if i < 0 then -i else i)) H) : cAbs [.int i] H Q := ⟨i, rfl, k⟩
theorem x_cint (k : Q (.int i) H) : cInt [.int i] H Q := .inl ⟨i, rfl, k⟩
theorem x_cintB {b : Bool} (k : Q (.int (if b then 1 else 0)) H) : cInt [.bl b] H Q := .inr ⟨b, rfl, k⟩
theorem x_cstr (h : i.natAbs.log2 < 1920) (k : Q (.str (toString i)) H) : cStr [.int i] H Q := ⟨i, rfl, h, k⟩
theorem x_clist {ys : List V} (h : SqL K H a ys) (k : ∀ l, H l = none → Q (.ref l) (upd H l (.lst ys))) : cList K [.ref a] H Q := ⟨a, ys, rfl, .inl h, k⟩
theorem x_clistT {ys : List V} (h : SqT K H a ys) (k : ∀ l, H l = none → Q (.ref l) (upd H l (.lst ys))) : cList K [.ref a] H Q := ⟨a, ys, rfl, .inr h, k⟩
theorem x_ctup {ys : List V} (h : SqL K H a ys) (k : ∀ l, H l = none → Q (.ref l) (upd H l (.tup ys))) : cTup K [.ref a] H Q := ⟨a, ys, rfl, h, k⟩
theorem x_cdict {kvs : List (Key × V)} (h : Rd H a (.dK kvs)) (k : ∀ p, H p = none → Q (.ref p) (upd H p (.dK kvs))) : cDict [.ref a] H Q := ⟨a, kvs, rfl, h, k⟩
theorem x_clistD {kvs : List (Key × V)} (h : Rd H a (.dK kvs)) (k : ∀ p, H p = none → Q (.ref p) (upd H p (.lst (kvs.map fun kv => kV kv.1)))) : cListD [.ref a] H Q := ⟨a, kvs, rfl, h, k⟩
end

/-! ### walks over what is read -/
section
variable {K : PySem.W.Frag} {α β : Type} {R : RR α} {Hb : Hp} {a d : Addr} {o : Obj}
theorem x_lockR {t : TS} {D : Ends} {σ : L2.St} {H : Hp} {kvs : List (Key × V)} (h : Rd H d (.dK kvs)) (k : ∀ od HL, HL d = some (.frz od (.dK kvs)) → (∀ b, b ≠ d → HL b = H b) →
  t ⟨fun σ' H' => H' d = some (.frz od (.dK kvs)) ∧ D.nx σ' (put H' d (H d)), fun v H' => H' d = some (.frz od (.dK kvs)) ∧ D.rt v (put H' d (H d)), fun σ' H' => H' d = some (.frz od (.dK kvs)) ∧ D.bk σ' (put H' d (H d)), fun σ' H' => H' d = some (.frz od (.dK kvs)) ∧ D.ct σ' (put H' d (H d))⟩ σ HL) : tLockR t D σ H := ⟨d, _, h, trivial, k⟩
theorem x_lockRE {t : TE} {σ : L2.St} {H : Hp} {Q : VK} {kvs : List (Key × V)} (h : Rd H d (.dK kvs)) (k : ∀ od HL, HL d = some (.frz od (.dK kvs)) → (∀ b, b ≠ d → HL b = H b) →
  t σ HL fun v H' => H' d = some (.frz od (.dK kvs)) ∧ Q v (put H' d (H d))) : tLockRE t σ H Q := ⟨d, _, h, trivial, k⟩
theorem walk_itemsR {kvs : List (Key × V)} {l : List (Str × α)} (h : KVs R Hb kvs l) : Walk (Iti d o kvs) l.length (fun H => H d = some (.frz o (.dK kvs)))
    (fun i H x H' => ∃ T p v, l[i]? = some p ∧ R Hb v p.2 ∧ x = .ref T ∧ H T = none ∧ H' = upd H T (.tup [.str p.1, v])) := by
  rw [← Paired.length h]
  refine walk_items.mono (fun _ h => h) fun i H x H' hi _ y => ?_
  obtain ⟨T, k, v, rfl, h2, rfl, h4, h5⟩ := y
  obtain ⟨kv, ekv⟩ : ∃ kv, kvs[i]? = some kv := ⟨kvs[i], by simp [hi]⟩
  obtain ⟨p, ep, e1, r⟩ := Paired.getL h ekv
  dsimp only at h4 h5
  rw [ekv] at h4 h5
  cases h4
  cases h5
  exact ⟨T, p, _, ep, r, rfl, h2, by dsimp only; rw [e1]; rfl⟩
theorem walk_keysR {kvs : List (Key × V)} {l : List (Str × α)} (h : KVs R Hb kvs l) : Walk (Itk d o kvs) l.length (fun H => H d = some (.frz o (.dK kvs)))
    (fun i H x H' => H' = H ∧ ∃ p v, l[i]? = some p ∧ x = .str p.1 ∧ R Hb v p.2) := by
  rw [← Paired.length h]
  refine walk_keys.mono (fun _ h => h) fun i H x H' hi _ y => ?_
  obtain ⟨rfl, k, v, h1, rfl⟩ := y
  obtain ⟨p, ep, e1, r⟩ := Paired.getL h h1
  exact ⟨rfl, p, v, ep, by rw [show k = Sum.inr p.1 from e1]; rfl, r⟩
theorem walk_valsR {kvs : List (Key × V)} {l : List (Str × α)} (h : KVs R Hb kvs l) : Walk (Itd d o kvs) l.length (fun H => H d = some (.frz o (.dK kvs)))
    (fun i H x H' => H' = H ∧ ∃ p, l[i]? = some p ∧ R Hb x p.2) := by
  rw [← Paired.length h]
  refine walk_values.mono (fun _ h => h) fun i H x H' hi _ y => ?_
  obtain ⟨rfl, k, h1⟩ := y
  obtain ⟨p, ep, e1, r⟩ := Paired.getL h h1
  exact ⟨rfl, p, ep, r⟩
theorem walk_listR {xs : List V} {l : List α} (h : Paired (R Hb) xs l) : Walk (Itl K a) l.length (fun H => SqL K H a xs) (fun i H x H' => H' = H ∧ ∃ y, l[i]? = some y ∧ R Hb x y) := by
  rw [← Paired.length h]
  refine walk_list.mono (fun _ h => h) fun i H x H' hi _ y => ?_
  obtain ⟨rfl, h1⟩ := y
  exact ⟨rfl, Paired.getL h h1⟩
theorem walk_tupR {xs : List V} {l : List α} (h : Paired (R Hb) xs l) : Walk (Itt K a) l.length (fun H => SqT K H a xs) (fun i H x H' => H' = H ∧ ∃ y, l[i]? = some y ∧ R Hb x y) := by
  rw [← Paired.length h]
  refine walk_tup.mono (fun _ h => h) fun i H x H' hi _ y => ?_
  obtain ⟨rfl, h1⟩ := y
  exact ⟨rfl, Paired.getL h h1⟩
end
/-! ### the names that a dict has -/
def rK : RR (List Str) := fun H v l => ∃ a kvs, v = .ref a ∧ Rd H a (.dK kvs) ∧ kvs.map (·.1) = l.map Sum.inr
theorem mono_K : Mono rK := fun _ _ _ _ e ⟨a, kvs, h1, h2, h3⟩ => ⟨a, kvs, h1, e.rd _ _ trivial h2, h3⟩
theorem rD.toK {α : Type} {R : RR α} {H : Hp} {v : V} {l : List (Str × α)} (h : rD R H v l) : rK H v (l.map (·.1)) := by
  obtain ⟨a, kvs, h1, h2, h3⟩ := h
  exact ⟨a, kvs, h1, h2, h3.keys⟩
theorem keys_val {kvs : List (Key × V)} {l : List Str} (h : kvs.map (·.1) = l.map Sum.inr) (s : Str) : (valV kvs (Sum.inr s)).isSome = decide (s ∈ l) := by
  rw [← valV_any]
  by_cases m : s ∈ l
  · rw [decide_eq_true m, List.any_eq_true]
    have : (Sum.inr s : Key) ∈ kvs.map (·.1) := by
      rw [h]
      exact List.mem_map.mpr ⟨s, m, rfl⟩
    obtain ⟨kv, h1, h2⟩ := List.mem_map.mp this
    exact ⟨kv, h1, decide_eq_true h2⟩
  · rw [decide_eq_false m, List.any_eq_false]
    intro kv hkv q
    have q := of_decide_eq_true q
    have : (Sum.inr s : Key) ∈ l.map Sum.inr := by
      rw [← h]
      exact List.mem_map.mpr ⟨kv, hkv, q⟩
    obtain ⟨t, h1, h2⟩ := List.mem_map.mp this
    cases h2
    exact m h1
theorem x_din' {H : Hp} {a : Addr} {s : Str} {kvs : List (Key × V)} {R : Option V → Prop} (h : Rd H a (.dK kvs)) (k : R (valV kvs (Sum.inr s))) : ∃ a' o, V.ref a = .ref a' ∧ DGet H a' (.str s) o ∧ R o := ⟨a, _, rfl, dget_rd h, k⟩
theorem x_dni' {H : Hp} {a : Addr} {s : Str} {kvs : List (Key × V)} {R : Option V → Prop} (h : Rd H a (.dK kvs)) (k : R (valV kvs (Sum.inr s))) : ∃ a' o, V.ref a = .ref a' ∧ DGet H a' (.str s) o ∧ R o := ⟨a, _, rfl, dget_rd h, k⟩
theorem x_dg' {H : Hp} {a : Addr} {s : Str} {kvs : List (Key × V)} {v : V} {R : V → Prop} (h : Rd H a (.dK kvs)) (e : valV kvs (Sum.inr s) = some v) (k : R v) : ∃ a' v', V.ref a = .ref a' ∧ DGet H a' (.str s) (some v') ∧ R v' := ⟨a, v, rfl, by rw [← e]; exact dget_rd h, k⟩
theorem Rd.le {A B : Hp} {a : Addr} {kvs : List (Key × V)} (e : Le A B) (h : Rd A a (.dK kvs)) : Rd B a (.dK kvs) := e.rd _ _ trivial h
theorem SX.rd {A B : Hp} {a : Addr} {kvs : List (Key × V)} (e : SX [] A B) (h : Rd A a (.dK kvs)) : Rd B a (.dK kvs) := e.le0.rd _ _ trivial h
theorem nil_sx {S : List Addr} {A B : Hp} (a : SX [] A B) : SX S A B := a.sub fun _ h => absurd h List.not_mem_nil
theorem getLt {α : Type} {l : List α} {i : Nat} {x : α} (h : l[i]? = some x) : i < l.length := (List.getElem?_eq_some_iff.mp h).1
theorem getMem {α : Type} {l : List α} {i : Nat} {x : α} (h : l[i]? = some x) : x ∈ l := List.mem_of_getElem? h
/-! ### works -/
inductive Stand where
  | fin
  | hand (h : Int) (ms : List (Str × Str))
  | chance (ds : List (Str × (Str × Int)))
def rStand (K : PySem.W.Frag) : RR Stand := fun H v s => match s with
  | .fin => ∃ p, v = .ref p ∧ SqT K H p [.str "end"]
  | .hand h ms => ∃ p d, v = .ref p ∧ SqT K H p [.str "hand", .int h, d] ∧ rD rS H d ms
  | .chance ds => ∃ p d, v = .ref p ∧ SqT K H p [.str "chance", d] ∧ rD (rP K rS rI) H d ds
theorem mono_stand (K : PySem.W.Frag) : Mono (rStand K) := fun A B v s e h => by
  cases s with
  | fin => obtain ⟨p, h1, h2⟩ := h; exact ⟨p, h1, e.t h2⟩
  | hand h ms => obtain ⟨p, d, h1, h2, h3⟩ := h; exact ⟨p, d, h1, e.t h2, mono_D mono_S _ _ _ _ e h3⟩
  | chance ds => obtain ⟨p, d, h1, h2, h3⟩ := h; exact ⟨p, d, h1, e.t h2, mono_D (mono_P mono_S mono_I) _ _ _ _ e h3⟩

/-! ### sorted of a dict of texts, of a list of texts, whatever their number -/
def cSortD : List V → Hp → VK → Prop := fun xs H Q => ∃ (a : Addr) (kvs : List (Key × V)) (ks : List Str), xs = [.ref a] ∧ Rd H a (.dK kvs) ∧ kvs.map (·.1) = ks.map Sum.inr ∧
  ∀ ys p, ys.Perm ks → sortedS ys = true → H p = none → Q (.ref p) (upd H p (.lst (ys.map V.str)))
def cSortL (K : PySem.W.Frag) : List V → Hp → VK → Prop := fun xs H Q => ∃ (a : Addr) (ks : List Str), xs = [.ref a] ∧ SqL K H a (ks.map V.str) ∧
  ∀ ys p, ys.Perm ks → sortedS ys = true → H p = none → Q (.ref p) (upd H p (.lst (ys.map V.str)))
section
variable {X : Cx}
theorem cl_sortL : CallR X (.builtin "sorted") (cSortL X.K) := by
  intro pi s0 st Hp0 args us Qk In rel hh
  obtain ⟨lx, ks, rfl, hq, kk⟩ := hh
  obtain ⟨its, rv, hl, hsz⟩ := In.list hq
  rw [Vals.ref1 rel]
  have n0 : ks.length = its.length := by simpa using rv.length
  have nl : its.length ≤ sizeLine := by rw [← n0]; simpa using hsz
  refine PyProof.Rows.sorted_strsAny hl.isList rv.strs nl fun ot ys p1 p2 p3 => ?_
  obtain ⟨ep, at1⟩ := PyProof.Rows.sortedAll_at s0.heap its ot
  have fit : (ys.map V.str).length ≤ sizeLine := by rw [List.length_map, p2.length_eq, n0]; exact nl
  refine ⟨.ref _, upd Hp0 (s0.heap.objs.size + 1) (.lst (ys.map V.str)), ?_, rfl, kk ys _ p2 p3 (In.hok.fresh (Nat.le_succ _))⟩
  exact In.laid (t' := s0.toks) (fun _ _ => PyProof.Rows.sortedAll_old) (Nat.le_succ _) ⟨fit, ot.toList, ep, vals_of_strs p1, at1⟩
theorem cl_sortD (calmly : X.calm = true) : CallR X (.builtin "sorted") cSortD := by
  intro pi s0 st Hp0 args us Qk In rel hh
  obtain ⟨ad, kv0, ks, exs, rd0, names, kk⟩ := hh
  subst exs
  obtain ⟨u0, eu0, r0⟩ := vals1 rel
  subst eu0
  cases r0
  obtain ⟨zd, od0, vv, prs, dof⟩ := dk_rd In.hok rd0
  obtain ⟨epo, dAt⟩ := dof.dictAt
  have nm : vv.map (·.1) = ks.map Sum.inr := by rw [← names, prs.keys]
  have nl : vv.length = ks.length := by simpa using congrArg List.length nm
  have fit0 : vv.length ≤ sizeLine := by rw [← prs.length]; exact zd
  refine Calls.call_function_entry PyProof.Rows.kind_sorted PyProof.Rows.plain_sorted PyProof.Rows.entry_sorted (by exact PyProof.Rows.args_sorted1 _) ?_
  unfold Builtin.«sorted»
  refine wpAny_bind (m := checkCount "sorted" 1 1 _) ?_; refine wpAny_pure ?_
  refine wpAny_bind (PySem.W.kdu_collect (A := X.A.in1) (PySem.W.kdl_dict (knd := mixKind X.prog X.w) (kvs := vv) (ep := epo) od0) (In.ok.hd calmly) dAt fit0 fun hp1 tk1 got keep1 ⟨gsz, gat⟩ => ?_)
  have al : got.toList.length = ks.length := by rw [Array.length_toList, gsz, nl]
  have txt : StrsAre got.toList ks := strs_at al fun n v ev => by
    obtain ⟨kq, xq, f1, f2⟩ := gat n v (by rw [← Array.getElem?_toList]; exact ev)
    have f3 : (ks.map Sum.inr : List Key)[n]? = some kq := by rw [← nm, List.getElem?_map, f1]; rfl
    rw [List.getElem?_map] at f3
    match q4 : ks[n]? with
    | none =>
      rw [q4] at f3
      cases f3
    | some y =>
      rw [q4] at f3
      have f5 : Sum.inr y = kq := Option.some.inj f3
      subst f5
      obtain ⟨tt, f6⟩ := Value.isStrOf_shape (x := y) (v := v) f2
      exact ⟨y, tt, rfl, f6⟩
  have sml : got.toList.length ≤ sizeLine := by rw [al, ← nl]; exact fit0
  have In1 : Inv X pi st Hp0 { s0 with heap := hp1, toks := tk1 } := In.kept keep1
  refine wpAny_bind (wpAny_newList ?_ (by simpa using sml))
  have at0 : (hp1.push (seqObj "list" got.toList.toArray 0)).get? hp1.objs.size = some (seqObj "list" got.toList.toArray 0) := by exact Heap.get?_push_size _ rfl
  show wpAny _ _ _ _ _ { s0 with heap := hp1.push (seqObj "list" got.toList.toArray 0), toks := tk1 }
  refine wpAny_bind (wpAny_holding (wpAny_call_entry PyProof.Rows.slot_list_sort ⟨_, at0, rfl⟩ PyProof.Rows.entry_list_sort
    (PyProof.Rows.list_sort_treeKAny strKind_oneLt (s := { s0 with heap := hp1.push (seqObj "list" got.toList.toArray 0), toks := tk1 }) at0 txt.keysOf (fun _ _ _ e => keyKind_strs (by rw [← e]; exact txt)) sml fun sst p1 p2 => ⟨_, rfl, ?_⟩)
    (by exact PyProof.Rows.args_list_sort _)))
  obtain ⟨ys, g1, g2, g3⟩ := sorted_out_str txt p1 p2
  obtain ⟨ep2, at2⟩ := PyProof.Rows.sortedHeap_at (vs := got.toList) (out := (arrOf sst).map (·.2)) at0
  have fit : (ys.map V.str).length ≤ sizeLine := by rw [List.length_map, g2.length_eq, ← al]; exact sml
  refine wpAny_pure ⟨_, rfl, .ref hp1.objs.size, upd Hp0 hp1.objs.size (.lst (ys.map V.str)), ?_, rfl, kk ys _ g2 g3 (In1.hok.fresh (Nat.le_refl _))⟩
  refine In1.laid (t' := tk1) (fun b u e => ?_) (Nat.le_refl _) (show ObjOk X.prog X.w _ _ _ (.lst (ys.map V.str)) from ⟨fit, ((arrOf sst).map (·.2)).toList, ep2, vals_of_strs g1, ?_⟩)
  · have lt : b < hp1.objs.size := Heap.lt_size e
    rw [PyProof.Rows.sortedHeap_old (Nat.ne_of_lt lt) (Nat.lt_of_lt_of_eq (Nat.lt_succ_of_lt lt) (size_push' _ _).symm)]
    exact Heap.get?_push_of_some _ e
  · rw [Array.toArray_toList]
    exact at2
end
section
variable {K : PySem.W.Frag} {H : Hp} {Q : VK} {a : Addr}
theorem x_sortD {kvs : List (Key × V)} {ks : List Str} (h : Rd H a (.dK kvs)) (e : kvs.map (·.1) = ks.map Sum.inr) (k : ∀ ys p, ys.Perm ks → sortedS ys = true → H p = none → Q (.ref p) (upd H p (.lst (ys.map V.str)))) : cSortD [.ref a] H Q := ⟨a, kvs, ks, rfl, h, e, k⟩
theorem x_sortL {ks : List Str} (h : SqL K H a (ks.map V.str)) (k : ∀ ys p, ys.Perm ks → sortedS ys = true → H p = none → Q (.ref p) (upd H p (.lst (ys.map V.str)))) : cSortL K [.ref a] H Q := ⟨a, ks, rfl, h, k⟩
end

/-- a dict comprehension over a walk: Iv by the turn and the heap (the new dict at D within) -/
theorem dc_walk {J : It} {n : Nat} {G : Hp → Prop} {Y : Nat → Hp → V → Hp → Prop} (wk : Walk J n G Y) {g : TG} {tt : TT} {tk tv : TE} {own : List Nat} {σ : L2.St} {H1 : Hp} {D : Addr} {fin : Hp → Prop} (Iv : Nat → Hp → Prop)
    (ini : Iv 0 (upd H1 D (.dK []))) (std : ∀ i A, i ≤ n → Iv i A → G A)
    (one : ∀ i x A B, i < n → Iv i A → Y i A x B → g x (wipe σ own) B fun σ2 B2 => wipe σ2 own = wipe σ own ∧ tt σ2 B2 fun b B3 =>
      if b = true then tk σ2 B3 fun y B4 => tv σ2 B4 fun z B5 => ∃ kvs k, y = kV k ∧ B5 D = some (.dK kvs) ∧ kvs.length < sizeLine ∧ Iv (i + 1) (upd B5 D (.dK (putK kvs k z))) else Iv (i + 1) B3)
    (all : ∀ A, Iv n A → fin A) :
    ∃ W : Nat → Nat → Hp → Prop, (∃ m, W 0 m (upd H1 D (.dK []))) ∧ ∀ i m A, W i m A →
      (J.stop i A ∧ fin A) ∨ (J.go i A ∧ ∃ Nx : Hp → Prop, (∀ B, Nx B → ∃ m', m' < m ∧ W (i + 1) m' B) ∧ ∀ x B, J.yld i A x B → g x (wipe σ own) B fun σ2 B2 => wipe σ2 own = wipe σ own ∧ tt σ2 B2 fun b B3 =>
        if b = true then tk σ2 B3 fun y B4 => tv σ2 B4 fun z B5 => ∃ kvs k, y = kV k ∧ B5 D = some (.dK kvs) ∧ kvs.length < sizeLine ∧ Nx (upd B5 D (.dK (putK kvs k z))) else Nx B3) := by
  refine ⟨fun i m A => m + i = n ∧ Iv i A, ⟨n, rfl, ini⟩, fun i m A ⟨e, v⟩ => ?_⟩
  have gi := std i A (by omega) v
  rcases Nat.lt_or_ge i n with l | l
  · exact .inr ⟨wk.goes i A l gi, Iv (i + 1), fun B vB => ⟨m - 1, by omega, by omega, vB⟩, fun x B yl => one i x A B l v (wk.yields i A x B l gi yl)⟩
  · obtain rfl : i = n := by omega
    exact .inl ⟨wk.stops A gi, all A v⟩
section
variable {K : PySem.W.Frag} {σ : L2.St} {H : Hp} {Q : VK}
theorem x_lc {wi : TI} {g : TG} {tt : TT} {te : TE} {vs : List Nat} (k : wi σ H fun J H1 => ∀ D, H1 D = none → ∃ W : Nat → Nat → Hp → Prop, (∃ m, W 0 m (upd H1 D (.lst []))) ∧ ∀ i m H, W i m H →
  (J.stop i H ∧ Q (.ref D) H) ∨ (J.go i H ∧ ∃ Nx : Hp → Prop, (∀ H', Nx H' → ∃ m', m' < m ∧ W (i + 1) m' H') ∧ ∀ x H', J.yld i H x H' → g x (wipe σ vs) H' fun σ2 H2 => wipe σ2 vs = wipe σ vs ∧ tt σ2 H2 fun b H3 =>
    if b = true then te σ2 H3 fun y H4 => ∃ acc, H4 D = some (.lst acc) ∧ acc.length < sizeLine ∧ Nx (upd H4 D (.lst (acc ++ [y]))) else Nx H3)) : tLc wi g tt te vs σ H Q := k
theorem x_dc {wi : TI} {g : TG} {tt : TT} {tk tv : TE} {vs : List Nat} (k : wi σ H fun J H1 => ∀ D, H1 D = none → ∃ W : Nat → Nat → Hp → Prop, (∃ m, W 0 m (upd H1 D (.dK []))) ∧ ∀ i m H, W i m H →
  (J.stop i H ∧ Q (.ref D) H) ∨ (J.go i H ∧ ∃ Nx : Hp → Prop, (∀ H', Nx H' → ∃ m', m' < m ∧ W (i + 1) m' H') ∧ ∀ x H', J.yld i H x H' → g x (wipe σ vs) H' fun σ2 H2 => wipe σ2 vs = wipe σ vs ∧ tt σ2 H2 fun b H3 =>
    if b = true then tk σ2 H3 fun y H4 => tv σ2 H4 fun z H5 => ∃ kvs k, y = kV k ∧ H5 D = some (.dK kvs) ∧ kvs.length < sizeLine ∧ Nx (upd H5 D (.dK (putK kvs k z))) else Nx H3)) : tDc wi g tt tk tv vs σ H Q := k
theorem x_yes {QB : Bool → Hp → Prop} (k : QB true H) : tYes σ H QB := k
theorem x_wipe {n : Nat} {r : List Nat} {A : L2.St} {B C : Prop} (e : A = σ) (k : C) : A = σ ∧ C := ⟨e, k⟩
theorem x_sfld {ta tv : TE} {f : Str} {D : Ends} (k : tv σ H fun y H1 => ta σ H1 fun x H2 => ∃ a C dx fs, x = .ref a ∧ H2 a = some (.ins C dx fs) ∧ Cls K C ∧ NoAttr K C f ∧ fs.length < 1000 ∧ D.nx σ (upd H2 a (.ins C dx (putF f y fs)))) : sFld K ta tv f D σ H := k
theorem x_while {c : TT} {tb : TS} {D : Ends} (Pv : L2.St → Hp → Prop) (μ : L2.St → Hp → Nat) (h0 : Pv σ H)
    (hs : ∀ σ H, Pv σ H → c σ H fun b H1 => if b = true then tb { D with nx := fun σ' H' => Pv σ' H' ∧ μ σ' H' < μ σ H, ct := fun σ' H' => Pv σ' H' ∧ μ σ' H' < μ σ H, bk := D.nx } σ H1 else D.nx σ H1)
    (mono : ∀ σ H Q Q', (∀ b H1, Q b H1 → Q' b H1) → c σ H Q → c σ H Q') : tWhile c tb D σ H := while_by Pv μ h0 hs mono
end
/-- sorted by the keys, the same pairs -/
structure Srt {α : Type} (l l' : List (Str × α)) : Prop where
  perm : l'.Perm l
  srt : sortedS (l'.map (·.1)) = true
/-- the pairs of l in the order of ys -/
def pick {α : Type} [Inhabited α] (l : List (Str × α)) (ys : List Str) : List (Str × α) := ys.map fun k => (k, (lookA l k).getD default)
theorem pick_keys {α : Type} [Inhabited α] (l : List (Str × α)) (ys : List Str) : (pick l ys).map (·.1) = ys := by
  unfold pick
  rw [List.map_map]
  exact List.map_id' ys
theorem pick_perm {α : Type} [Inhabited α] {l : List (Str × α)} {ys : List Str} (hn : (l.map (·.1)).Nodup) (h : ys.Perm (l.map (·.1))) : (pick l ys).Perm l := by
  have h1 : (pick l ys).Perm (pick l (l.map (·.1))) := h.map _
  have h2 : pick l (l.map (·.1)) = l := by
    unfold pick
    rw [List.map_map]
    have : ∀ p ∈ l, ((fun k => (k, (lookA l k).getD default)) ∘ fun x => x.1) p = p := fun p hp => by
      show (p.1, (lookA l p.1).getD default) = p
      rw [lookA_nodup hn (show (p.1, p.2) ∈ l from hp)]
      rfl
    exact (List.map_congr_left this).trans (List.map_id' l)
  rw [h2] at h1
  exact h1
theorem pick_srt {α : Type} [Inhabited α] {l : List (Str × α)} {ys : List Str} (hn : (l.map (·.1)).Nodup) (h : ys.Perm (l.map (·.1))) (hs : sortedS ys = true) : Srt l (pick l ys) := ⟨pick_perm hn h, by rw [pick_keys]; exact hs⟩
/-- a new key goes to the end -/
theorem putK_fresh {kvs : List (Key × V)} {l : List Str} {s : Str} (v : V) (e : kvs.map (·.1) = l.map Sum.inr) (n : s ∉ l) : putK kvs (Sum.inr s) v = kvs ++ [(Sum.inr s, v)] := by
  refine putK_new v ?_
  have := keys_val e s
  rw [decide_eq_false n] at this
  cases h : valV kvs (Sum.inr s) with
  | none => rfl
  | some x =>
    rw [h] at this
    cases this
theorem take_succ_of {α : Type} {l : List α} {i : Nat} {x : α} (h : l[i]? = some x) : l.take (i + 1) = l.take i ++ [x] := by
  rw [List.take_add_one, h]
  rfl
theorem nodup_take {α : Type} {l : List α} (hn : l.Nodup) {i : Nat} {x : α} (h : l[i]? = some x) : x ∉ l.take i := by
  intro m
  obtain ⟨j, hj⟩ := List.getElem?_of_mem m
  have hj' := getLt hj
  rw [List.length_take] at hj'
  rw [List.getElem?_take] at hj
  split at hj
  · rename_i hlt
    have := nd_ix hn h hj
    omega
  · cases hj
instance : Inhabited Stand := ⟨.fin⟩

/-! ### {k: d[k] for k in sorted(d)} -/
theorem wipe1 (σ : L2.St) (j : Nat) : wipe σ [j] = σ.set j none := rfl
theorem wipe_set (σ : L2.St) (j : Nat) (v : Option V) : wipe ((wipe σ [j]).set j v) [j] = wipe σ [j] := by
  rw [wipe1, wipe1, List.set_set, List.set_set]
theorem wiped_other {σ : L2.St} {i j : Nat} {x : Option V} {v : Option (Option V)} (h : σ[i]? = v) (n : i ≠ j) : ((wipe σ [j]).set j x)[i]? = v := by
  rw [wipe1, List.set_set, List.getElem?_set_ne (Ne.symm n)]
  exact h
theorem wiped_self {σ : L2.St} {j : Nat} {x : V} (h : j < σ.length) : ((wipe σ [j]).set j (some x))[j]? = some (some x) := by
  rw [wipe1, List.set_set, List.getElem?_set_self h]
theorem lt_size {n : Nat} (h : n ≤ 10000) : n < sizeLine := Nat.lt_of_le_of_lt h (by decide)
theorem sx_nil_of {S : List Addr} {A B : Hp} (a : SX S A B) (h : ∀ b ∈ S, A b = none) : SX [] A B := fun b o _ q => a b o (fun m => by rw [h b m] at q; cases q) q
theorem x_copyD {α : Type} [Inhabited α] {R : RR α} (mR : Mono R) {K : PySem.W.Frag} {σ : L2.St} {H : Hp} {Q : VK} {i j : Nat} {d : Addr} {l : List (Str × α)} {S : List Addr} (hS : ∀ b ∈ S, H b ≠ none) (hi : σ[i]? = some (some (.ref d))) (hj : j < σ.length) (hij : i ≠ j)
    (h : rD R (hid S H) (.ref d) l) (hn : (l.map (·.1)).Nodup) (hl : l.length ≤ 10000) (k : ∀ D H' l', SX [] H H' → H D = none → rD R (hid S H') (.ref D) l' → H' D ≠ none → Srt l l' → Q (.ref D) H') :
    tDc (iList K (tCB cSortD (tCons (tVar i) tNil))) (gName j) tYes (tVar j) (tDGet (tVar i) (tVar j)) [j] σ H Q := by
  obtain ⟨d', kvs, hd, hr0, hk⟩ := h
  cases hd
  have hr : Rd H d (.dK kvs) := le_hid.rd _ _ trivial hr0
  refine x_dc (x_iList (x_CB (x_cons (x_var hi (x_nil ?_)))))
  refine x_sortD hr hk.keys fun ys p hp hs np => ?_
  refine x_itl (sqL upd_same) fun D hD => ?_
  have hDp : D ≠ p := by
    rintro rfl
    rw [upd_same] at hD
    cases hD
  have hD0 : H D = none := by rw [upd_ne hDp] at hD; exact hD
  have ysn : ys.Nodup := hp.nodup_iff.mpr hn
  have hyl : ys.length = l.length := by rw [hp.length_eq, List.length_map]
  refine dc_walk (walk_list (xs := ys.map V.str)) (fun n A => SX [] H A ∧ A p = some (.lst (ys.map V.str)) ∧ ∃ kv, A D = some (.dK kv) ∧ KVs R (hid S H) kv (pick l (ys.take n))) ?_ ?_ ?_ ?_
  · exact ⟨(SX.new np).trans (SX.new hD), by rw [upd_ne (Ne.symm hDp)]; exact upd_same, [], upd_same, .nil⟩
  · exact fun n A _ ⟨_, h2, _⟩ => sqL h2
  · rintro n x A B hn' ⟨s1, s2, kv, s3, s4⟩ ⟨rfl, hx⟩
    rw [List.getElem?_map] at hx
    cases ey : ys[n]? with
    | none => rw [ey] at hx; cases hx
    | some y =>
      rw [ey] at hx
      cases hx
      have ym : y ∈ l.map (·.1) := hp.mem_iff.mp (getMem ey)
      obtain ⟨v, a, e1, e2, r⟩ : ∃ v a, valV kvs (Sum.inr y) = some v ∧ lookA l y = some a ∧ R (hid S H) v a := by
        rcases KVs.look y hk with q | ⟨_, q⟩
        · exact q
        · obtain ⟨a, e⟩ := lookA_some ym
          rw [e] at q
          cases q
      refine x_name rfl ⟨wipe_set σ j _, x_yes (iteT (x_var (wiped_self hj) (x_dget (x_var (wiped_other hi hij) (x_var (wiped_self hj) ?_)))))⟩
      refine x_dg' (s1.rd hr) e1 ⟨kv, Sum.inr y, rfl, s3, ?_, ?_⟩
      · rw [Paired.length s4]
        unfold pick
        rw [List.length_map, List.length_take]
        exact lt_size (by omega)
      have kk : kv.map (·.1) = (ys.take n).map Sum.inr := by rw [s4.keys, pick_keys]
      rw [putK_fresh v kk (nodup_take ysn ey)]
      have nD : p ≠ D := Ne.symm hDp
      refine ⟨sx_nil_of (S := [D]) ((nil_sx s1).trans (SX.mut List.mem_cons_self)) (by simp [hD0]), by rw [upd_ne nD]; exact s2, _, upd_same, ?_⟩
      have : pick l (ys.take (n + 1)) = pick l (ys.take n) ++ [(y, a)] := by
        rw [take_succ_of ey]
        unfold pick
        rw [List.map_append]
        show _ ++ [(y, (lookA l y).getD default)] = _
        rw [e2]
        rfl
      rw [this]
      exact Paired.app s4 (.cons ⟨rfl, r⟩ .nil)
  · rintro A ⟨s1, s2, kv, s3, s4⟩
    rw [List.length_map, List.take_length] at s4
    have nDS : D ∉ S := fun m => hS D m hD0
    exact k D A _ s1 hD0 ⟨D, kv, rfl, .inl (by rw [hid_of nDS]; exact s3), KVs.le mR (nil_sx s1).le s4⟩ (by rw [s3]; exact fun z => nomatch z) (pick_srt hn hp hs)
/-! ### fields -/
theorem putF_fresh : ∀ {fs : List (Str × V)} {f : Str} {v : V}, f ∉ fs.map (·.1) → putF f v fs = fs ++ [(f, v)]
  | [], f, v, _ => rfl
  | (g, w) :: r, f, v, h => by
    have n : ¬ g = f := fun e => h (List.mem_cons.mpr (.inl e.symm))
    show (if g = f then (g, v) :: r else (g, w) :: putF f v r) = _
    rw [if_neg n, putF_fresh fun m => h (List.mem_cons_of_mem _ m)]
    rfl
theorem look_here {f : Str} {v : V} {r : List (Str × V)} : List.lookup f ((f, v) :: r) = some v := by simp [List.lookup]
theorem look_next {f g : Str} {v w : V} {r : List (Str × V)} (n : (f == g) = false) (h : List.lookup f r = some w) : List.lookup f ((g, v) :: r) = some w := by
  simp only [List.lookup, n]
  exact h

/-! ### y = {k: v for ..}, y a local name -/
section
variable {X : Cx}
theorem sw_dc {ke ve : Expr} {gs : List Comprehension} {sco : Scope} {po pn : Pos} {y : Str} {ln : Nat} {en : Env} (f1 : en.scope.kind = .function) (f2 : en.scope.names.lookup y = some .local) (f3 : (pn.line == po.line) = true)
    (f4 : (sco.names.any fun (n, k) => n == y && (k == .local || k == .cell)) = false) : swapsWith (.DictComp ke ve gs sco po) (some (.Name y pn)) ln en = pure true := by
  have g1 : en.kindOf y = some .local := f2
  have g2 : en.blockKind = .function := by unfold Env.blockKind; rw [f1] <;> rfl
  unfold swapsWith
  simp only [g2, g1, f4, Expr.pos, f3]
  rfl
theorem ps_setDc {i : Nat} {y : Str} {py : Pos} {ke ve tgt itr : Expr} {cnd : List Expr} {sco : Scope} {own : List (Str × Nat)} {po sp : Pos} {wi : TI} {g : TG} {tt : TT} {tk tv : TE} (hc : X.calm = true) (hN : X.N.Nodup) (hy : X.N[i]? = some y) (hyl : X.env.scope.names.lookup y = some .local)
    (hsw : swapsWith (.DictComp ke ve [⟨tgt, itr, cnd, 0⟩] sco po) (some (.Name y py)) sp.line X.env = pure true) (hi : PI X tgt itr wi) (ok : BlkOk X.N X.env.scope sco own)
    (hg : ∀ (s : Shared) (H : Hp) (C : Addr) (cl : List (Str × Addr)) (fp : List Addr), PG (X.blk s H sco (compEnvC sco cl C X.env) fp) tgt g) (ht : ∀ (s : Shared) (H : Hp) (C : Addr) (cl : List (Str × Addr)) (fp : List Addr), PTs (X.blk s H sco (compEnvC sco cl C X.env) fp) cnd tt)
    (hk : ∀ (s : Shared) (H : Hp) (C : Addr) (cl : List (Str × Addr)) (fp : List Addr), PE (X.blk s H sco (compEnvC sco cl C X.env) fp) ke tk) (hv : ∀ (s : Shared) (H : Hp) (C : Addr) (cl : List (Str × Addr)) (fp : List Addr), PE (X.blk s H sco (compEnvC sco cl C X.env) fp) ve tv)
    (hs : ∀ x, foldedSetIterable itr X.env x = pure x := by intro _; rfl) :
    PS X (.Assign [.Name y py] (.DictComp ke ve [⟨tgt, itr, cnd, 0⟩] sco po) sp) (tAsg (tDc wi g tt tk tv (own.map (·.2))) (gName i)) := by
  refine ⟨fun pi s0 st A D In hh => ?_⟩
  rw [exec_Assign_Name_used _ _ _ _ hsw]
  refine wpAny_bind (wpAny_standAt ?_)
  refine wpAny_bind ?_
  show wpAny _ X.A (do let _ ← comprehension (.DictComp ke ve [⟨tgt, itr, cnd, 0⟩] sco po) sco X.env (firstIterPos [⟨tgt, itr, cnd, 0⟩] po) newDict false (eval itr X.env) (some (assign (.Name y py) X.env))) _ _ s0
  have h2 : tDc wi g tt tk tv (own.map (·.2)) st A (fun x B => gName i x st B D.nx) := hh
  refine wpAny_bind (thn (dc_core (Qf := fun _ s' => SP X pi D .next s') hc hN In hi ok hg ht hk hv hs h2 fun Ld C s1 m B In1 q hn fr => ?_) fun _ s1 hq => ?_)
  · show wpAny _ _ (assign (.Name y py) X.env (.ref Ld)) _ _ _
    obtain ⟨f0, f1, f2, f3, f4, f5⟩ := fr
    refine wpAny_assign_Name (store_ok2 (v := V.ref Ld) In1 hN hy (.inl hyl) rfl (fun s2 In2 ⟨a, sb, ha⟩ => ?_) (.inr hyl))
    have ne : C ≠ a := by
      rcases ha with z | z
      · exact fun e => f1 (e.trans z)
      · exact fun e => f4 y a z e.symm
    exact ⟨m, hn.sameBut sb ne, fun h3 sb3 => ⟨_, B, In2.turned (t' := s2.toks) (fun b o hb e => (sb3.2 b hb).trans e) f0 f1 f3 f4 f5, q⟩⟩
  · exact wpAny_pure (wpAny_pure hq)
end

theorem KVs.at_ {α : Type} {R : RR α} {H : Hp} {kvs : List (Key × V)} {l : List (Str × α)} {x : Str} {a : α} (h : KVs R H kvs l) (e : lookA l x = some a) : ∃ v, valV kvs (Sum.inr x) = some v ∧ R H v a := by
  rcases KVs.look x h with ⟨v, b, e1, e2, r⟩ | ⟨_, q⟩
  · rw [e] at e2
    cases e2
    exact ⟨v, e1, r⟩
  · rw [e] at q
    cases q
theorem KVs.in_ {α : Type} {R : RR α} {H : Hp} {kvs : List (Key × V)} {l : List (Str × α)} {p : Str × α} (h : KVs R H kvs l) (hn : (l.map (·.1)).Nodup) (m : p ∈ l) : ∃ v, valV kvs (Sum.inr p.1) = some v ∧ R H v p.2 := h.at_ (lookA_nodup hn m)

/-! ### the rules that speak of the written part, by its name -/
section
variable {X : Cx} {K : PySem.W.Frag}
theorem w_ixT (h : X.K = K) : IxR X (rIxT K) := by subst h; exact ix_tup
theorem w_ixL (h : X.K = K) : IxR X (rIxL K) := by subst h; exact ix_list
theorem w_slL (h : X.K = K) : SlR X (rSlL K) := by subst h; exact sl_list
theorem w_slT (h : X.K = K) : SlR X (rSlA K) := by subst h; exact sl_tupA
theorem w_in (h : X.K = K) : OpR X (compareOp .In) (rIn K false) := by subst h; exact op_in_seq
theorem w_nin (h : X.K = K) : OpR X (compareOp .NotIn) (rIn K true) := by subst h; exact op_notIn_seq
theorem w_catT (h : X.K = K) : OpR X (binaryOp .Add) (rCatA K) := by subst h; exact op_catA
theorem w_eqD (h : X.K = K) (hu : X.A.units + 64 < cLine) : OpR X (compareOp .Eq) (rEqD K) := by subst h; exact op_eqD hu
theorem w_neD (h : X.K = K) (hu : X.A.units + 64 < cLine) : OpR X (compareOp .NotEq) (rNeD K) := by subst h; exact op_neD hu
theorem w_ltT (h : X.K = K) (hu : X.A.units < cLine) : OpR X (compareOp .Lt) (rLtT K) := by subst h; exact op_ltT hu
theorem w_len (h : X.K = K) : CallR X (.builtin "len") (cLen K) := by subst h; exact cl_len
theorem w_list (h : X.K = K) : CallR X (.type "list") (cList K) := by subst h; exact cl_list
theorem w_tup (h : X.K = K) : CallR X (.type "tuple") (cTup K) := by subst h; exact cl_tup
theorem w_sortL (h : X.K = K) : CallR X (.builtin "sorted") (cSortL K) := by subst h; exact cl_sortL
theorem w_max (h : X.K = K) (hc : X.calm = true) : CallR X (.builtin "max") (rMax K) := by subst h; exact cr_max hc
theorem w_min (h : X.K = K) (hc : X.calm = true) : CallR X (.builtin "min") (rMin K) := by subst h; exact cr_min hc
theorem w_sum (h : X.K = K) (hc : X.calm = true) : CallR X (.builtin "sum") (rSum K) := by subst h; exact cr_sum hc
theorem w_all (h : X.K = K) (hc : X.calm = true) : CallR X (.builtin "all") (rAll K) := by subst h; exact cr_all hc
theorem w_any (h : X.K = K) (hc : X.calm = true) : CallR X (.builtin "any") (rAny K) := by subst h; exact cr_any hc
theorem w_isi (h : X.K = K) : CallR X (.builtin "isinstance") (rIsi K) := by subst h; exact call_isi
theorem w_isiT (h : X.K = K) : CallR X (.builtin "isinstance") (rIsiT K) := by subst h; exact call_isiT
theorem w_fld {e : Expr} {f : Str} {ta : TE} {pos : Pos} (h : X.K = K) (he : PE X e ta) (hb : attributeBase e f X.env (eval e X.env) = eval e X.env) : PE X (.Attribute e f pos) (tFld K ta f) := by subst h; exact pe_fld he hb
theorem w_pilist {tg l : Expr} {tl : TE} (h : X.K = K) (hl : PE X l tl) : PI X tg l (iList K tl) := by subst h; exact pi_list hl
theorem w_pitup {tg l : Expr} {tl : TE} (h : X.K = K) (hl : PE X l tl) : PI X tg l (iTup K tl) := by subst h; exact pi_tup hl
theorem w_pgtup {es : List Expr} {k n : Nat} {t : TGs} {pos : Pos} (h : X.K = K) (hc : X.calm = true) (ht : PGs X es t) (hn : (assignEach es X.env).length = n) (hst : (assignEach es X.env).findIdx? (·.1) = none) : PG X (.Tuple es k pos) (gTup K n t) := by subst h; exact pg_tup hc ht hn hst
theorem w_truth {a : Expr} {ta : TE} (h : X.K = K) (ha : PE X a ta) (he : ∀ whole, isTrue a X.env whole = (do let v ← whole; standAt a.pos; holding [v] (truthy v))) : PT X a (tTru K ta) := by subst h; exact pt_truth ha he
theorem w_bm {T name id : String} {r : V → List V → Hp → VK → Prop} {o e : Expr} {es : List Expr} {to : TE} {t : TA} {apos cpos : Pos} (h : X.K = K) (pa : PlainAttrs T) (slot : Slot T name id) (hty : typeOf (.builtin id) = pure (.type "method_descriptor")) (hm : MtR X id r) (ho : PE X o to) (ha : PA X (e :: es) t)
    (hp : PE X (.Call (.Attribute o name apos) (e :: es) [] cpos) (tBM X.K T r to t)) : PE X (.Call (.Attribute o name apos) (e :: es) [] cpos) (tBM K T r to t) := by subst h; exact hp
end

/-- what is hidden may grow by what is new -/
theorem le_hidS {S S' : List Addr} {H A : Hp} (a : SX S H A) (h : ∀ b ∈ S', b ∈ S ∨ H b = none) : Le (hid S H) (hid S' A) := le_of fun b o q => by
  obtain ⟨n, q⟩ := hid_at q
  rw [hid_of]
  · exact a b o n q
  · intro m
    rcases h b m with z | z
    · exact n z
    · rw [q] at z
      cases z
theorem hid_new {S : List Addr} {H : Hp} {p : Addr} {o : HO} (hp : H p = none) (hS : ∀ b ∈ S, H b ≠ none) : hid S (upd H p o) p = some o := by
  rw [hid_of fun m => hS p m hp]
  exact upd_same
theorem there {S : List Addr} {A B : Hp} (a : SX [] A B) (h : ∀ b ∈ S, A b ≠ none) : ∀ b ∈ S, B b ≠ none := fun b m e => h b m (a.free e List.not_mem_nil)

/-! ### the one ascending list of texts -/
def leS (a b : Str) : Prop := a.cps.toList ≤ b.cps.toList
theorem leS_trans {a b c : Str} (h1 : leS a b) (h2 : leS b c) : leS a c := List.le_trans h1 h2
theorem leS_antisymm {a b : Str} (h1 : leS a b) (h2 : leS b a) : a = b := by
  have e : a.cps.toList = b.cps.toList := List.le_antisymm h1 h2
  obtain ⟨a⟩ := a
  obtain ⟨b⟩ := b
  have : a = b := Array.toList_inj.mp e
  rw [this]
theorem rising_pw : ∀ (p : Str) (l : List Str), risingS p l = true → (p :: l).Pairwise leS
  | p, [], _ => List.pairwise_singleton _ _
  | p, x :: r, h => by
    have h : (!ltCps x.cps.toList p.cps.toList && risingS x r) = true := h
    rw [Bool.and_eq_true] at h
    have h1 : leS p x := by
      have q := h.1
      rw [PyProof.Rows.ltCps_eq] at q
      exact List.not_lt.mp (by simpa using q)
    have h2 := rising_pw x r h.2
    refine List.pairwise_cons.mpr ⟨fun y hy => ?_, h2⟩
    rcases List.mem_cons.mp hy with rfl | hy
    · exact h1
    · exact leS_trans h1 (List.rel_of_pairwise_cons h2 hy)
theorem sortedS_pw : ∀ {l : List Str}, sortedS l = true → l.Pairwise leS
  | [], _ => .nil
  | x :: r, h => rising_pw x r h
theorem sorted_one {l l' : List Str} (h : sortedS l = true) (h' : sortedS l' = true) (p : l.Perm l') : l = l' :=
  List.Perm.eq_of_pairwise (fun _ _ _ _ a b => leS_antisymm a b) (sortedS_pw h) (sortedS_pw h') p
theorem x_setF {K : PySem.W.Frag} {H : Hp} {C a dx : Addr} {f : Str} {fs : List (Str × V)} {y : V} {R : Hp → Prop} (ns : List Str) (h : H a = some (.ins C dx fs)) (c : Cls K C) (n : NoAttr K C f) (e : fs.map (·.1) = ns) (hl : ns.length < 1000) (hf : decide (f ∈ ns) = false)
    (k : R (upd H a (.ins C dx (fs ++ [(f, y)])))) : ∃ a' C' dx' fs', V.ref a = .ref a' ∧ H a' = some (.ins C' dx' fs') ∧ Cls K C' ∧ NoAttr K C' f ∧ fs'.length < 1000 ∧ R (upd H a' (.ins C' dx' (putF f y fs'))) :=
  ⟨a, C, dx, fs, rfl, h, c, n, by rw [← e, List.length_map] at hl; exact hl, by
    rw [putF_fresh (by rw [e]; exact of_decide_eq_false hf)]
    exact k⟩
theorem x_getF {K : PySem.W.Frag} {H : Hp} {C a dx : Addr} {f : Str} {fs : List (Str × V)} {v : V} {R : V → Prop} (h : H a = some (.ins C dx fs)) (c : Cls K C) (n : NoAttr K C f) (e : fs.lookup f = some v) (k : R v) :
    ∃ a' C' dx' fs' v', V.ref a = .ref a' ∧ H a' = some (.ins C' dx' fs') ∧ Cls K C' ∧ NoAttr K C' f ∧ fs'.lookup f = some v' ∧ R v' := ⟨a, C, dx, fs, v, rfl, h, c, n, e, k⟩

/-! ### d[s] = a, told by what the dict holds -/
section
variable {α : Type} {R : RR α} {H : Hp}
theorem putA_keys (s : Str) (a : α) : ∀ l : List (Str × α), (putA l s a).map (·.1) = if s ∈ l.map (·.1) then l.map (·.1) else l.map (·.1) ++ [s]
  | [] => rfl
  | (k, b) :: r => by
    unfold putA
    by_cases e : k = s
    · subst e
      rw [if_pos rfl, if_pos (by simp)]
      rfl
    · rw [if_neg e]
      show k :: (putA r s a).map (·.1) = _
      rw [putA_keys s a r]
      by_cases m : s ∈ r.map (·.1)
      · rw [if_pos m, List.map_cons, if_pos (List.mem_cons_of_mem _ m)]
      · rw [if_neg m, if_neg (by
          intro q
          rcases List.mem_cons.mp q with q | q
          · exact e q.symm
          · exact m q)]
        rfl
theorem putA_mem {s : Str} {a : α} {p : Str × α} : ∀ {l : List (Str × α)}, p ∈ putA l s a → p ∈ l ∨ p = (s, a)
  | [], h => .inr (List.mem_singleton.mp h)
  | (k, b) :: r, h => by
    unfold putA at h
    split at h
    · rename_i e
      rcases List.mem_cons.mp h with h | h
      · exact .inr (by rw [h, e])
      · exact .inl (List.mem_cons_of_mem _ h)
    · rcases List.mem_cons.mp h with h | h
      · exact .inl (by rw [h]; exact List.mem_cons_self)
      · rcases putA_mem h with h | h
        · exact .inl (List.mem_cons_of_mem _ h)
        · exact .inr h
theorem putA_nodup {s : Str} {a : α} {l : List (Str × α)} (h : (l.map (·.1)).Nodup) : ((putA l s a).map (·.1)).Nodup := by
  rw [putA_keys]
  split
  · exact h
  · exact nd_snoc h (by assumption)
theorem putA_len {s : Str} {a : α} {l : List (Str × α)} : (putA l s a).length ≤ l.length + 1 := by
  have := congrArg List.length (putA_keys s a l)
  rw [List.length_map] at this
  rw [this]
  split
  · simp
  · simp
theorem putA_pos {s : Str} {a : α} {l : List (Str × α)} : 1 ≤ (putA l s a).length := by
  cases l with
  | nil => exact Nat.le_refl _
  | cons p r =>
    obtain ⟨k, b⟩ := p
    unfold putA
    split <;> simp
theorem putA_fresh {s : Str} {a : α} : ∀ {l : List (Str × α)}, s ∉ l.map (·.1) → putA l s a = l ++ [(s, a)]
  | [], _ => rfl
  | (k, b) :: r, h => by
    unfold putA
    rw [if_neg (fun e => h (List.mem_cons.mpr (.inl e.symm))), putA_fresh fun m => h (List.mem_cons_of_mem _ m)]
    rfl
theorem putA_key_in {s : Str} {a : α} {l : List (Str × α)} : s ∈ (putA l s a).map (·.1) := by
  rw [putA_keys]
  split
  · assumption
  · simp
theorem putA_key_mono {s x : Str} {a : α} {l : List (Str × α)} (h : x ∈ l.map (·.1)) : x ∈ (putA l s a).map (·.1) := by
  rw [putA_keys]
  split
  · exact h
  · exact List.mem_append_left _ h
theorem putA_key_of {s x : Str} {a : α} {l : List (Str × α)} (h : x ∈ (putA l s a).map (·.1)) : x ∈ l.map (·.1) ∨ x = s := by
  rw [putA_keys] at h
  split at h
  · exact .inl h
  · rcases List.mem_append.mp h with h | h
    · exact .inl h
    · exact .inr (List.mem_singleton.mp h)
theorem putK_cons_pos {p : Key × V} {r : List (Key × V)} {k : Key} {v : V} (e : p.1 = k) (hn : valV r k = none) : putK (p :: r) k v = (p.1, v) :: r := by
  unfold putK
  rw [if_pos (by rw [List.any_cons, decide_eq_true e]; rfl), List.map_cons, if_pos e]
  congr 1
  have : ∀ q ∈ r, (if q.1 = k then (q.1, v) else q) = q := fun q hq => by
    rw [if_neg]
    intro z
    have : (r.any fun kv => decide (kv.1 = k)) = true := List.any_eq_true.mpr ⟨q, hq, decide_eq_true z⟩
    rw [valV_any, hn] at this
    cases this
  rw [List.map_congr_left this, List.map_id']
theorem putK_cons_neg {p : Key × V} {r : List (Key × V)} {k : Key} {v : V} (e : ¬ p.1 = k) : putK (p :: r) k v = p :: putK r k v := by
  unfold putK
  rw [List.any_cons, decide_eq_false e, Bool.false_or]
  split
  · rw [List.map_cons, if_neg e]
  · rfl
theorem KVs.put {s : Str} {v : V} {a : α} (hr : R H v a) : ∀ {kvs : List (Key × V)} {l : List (Str × α)}, KVs R H kvs l → (l.map (·.1)).Nodup → KVs R H (putK kvs (Sum.inr s) v) (putA l s a)
  | _, _, .nil, _ => .cons ⟨rfl, hr⟩ .nil
  | p :: kvs, (k, b) :: l, .cons h t, hn => by
    have hn : (k :: l.map (·.1)).Nodup := hn
    obtain ⟨n1, n2⟩ := List.nodup_cons.mp hn
    unfold putA
    by_cases e : k = s
    · subst e
      have no : valV kvs (Sum.inr k) = none := by
        have := keys_val (KVs.keys t) k
        rw [decide_eq_false n1] at this
        cases q : valV kvs (Sum.inr k) with
        | none => rfl
        | some x => rw [q] at this; cases this
      rw [putK_cons_pos h.1 no, if_pos rfl]
      exact .cons ⟨h.1, hr⟩ t
    · have ne : ¬ p.1 = (Sum.inr s : Key) := by
        rw [h.1]
        exact fun z => e (Sum.inr.inj z)
      rw [putK_cons_neg ne, if_neg e]
      exact .cons h (KVs.put hr t n2)
end

/-! ### powers of great numbers -/
def CPowB (i j : Int) : Prop := 0 ≤ j ∧ (Builtin.Int.intBits i : Int) * j ≤ 2 ^ 27
theorem op_powB {X : Cx} : OpR X (binaryOp .Pow) (L2.rI CPowB fun i j => V.int (i ^ j.toNat)) := opI fun _ _ _ _ _ _ _ hc q => pow_int hc.1 hc.2 q

theorem walk_rng {n : Nat} : Walk (Itr 0 n) n (fun _ => True) (fun i H x H' => H' = H ∧ x = .int (i : Int)) :=
  walk_range.mono (fun _ h => h) fun i H x H' _ _ y => ⟨y.1, y.2.trans (by show V.int (0 + (i : Int)) = _; rw [Int.zero_add])⟩
end M

set_option Elab.async false
set_option linter.all false
set_option maxRecDepth 100000
set_option maxHeartbeats 2000000
namespace M
open PySem PySem.Spec PyProof.Rows L2
/-! ### enumerate over a list or a tuple -/
section
open PySem.Sem (wp)
set_option maxHeartbeats 4000000 in
theorem meets_enum1 {v : Value} {o : Obj} {G : Heap → Prop} (B : Begins v o G) :
    Meets (Builtin.«enumerate.__new__» ⟨[.type "enumerate", v], []⟩) (fun _ R s => G s.heap ∧
      R (.ok (.ret (.ref (s.heap.push o).objs.size)))
        { s with heap := (s.heap.push o).push { cls := .type "enumerate",
                                                data := .fields #[.none, .bool false, .ref s.heap.objs.size, rawInt 0, .none, .none] } }) :=
  .of_wp fun prog w A R s hh => by
    obtain ⟨hp, gl, di, tk, os⟩ := s
    obtain ⟨hG, hR⟩ := hh
    have hsub := sub_enumerate
    have it1 : ∀ {A1 : Around} {E1 : Value → Shared → Prop} {Q1 : Value → Shared → Prop}, Q1 (.ref hp.objs.size) ⟨hp.push o, gl, di, tk, os⟩ →
        wpAny (model prog w) A1 (pyIter v) Q1 E1 ⟨hp, gl, di, tk, os⟩ := fun q => B.iter prog w _ _ ⟨hp, gl, di, tk, os⟩ _ hG q
    wp_walk using it1
    refine wpAny_stack_any fun st => wpAny_pure ?_
    split
    · rename_i cc _ _ _ _ _
      cases (cc == Value.type "enumerate")
      · wp_walk using it1
        exact ⟨_, rfl, hR⟩
      · wp_walk using it1
        exact ⟨_, rfl, hR⟩
    · wp_walk using it1
      exact ⟨_, rfl, hR⟩
theorem enum_begin1 {prog : Program} {w : World} {A : Around} {E : Value → Shared → Prop} {s : Shared} {v : Value} {o : Obj} {G : Heap → Prop} {Q : Value → Shared → Prop} (B : Begins v o G) (hG : G s.heap)
    (k : ∀ h', IsEnum h' (s.heap.objs.size + 1) s.heap.objs.size 0 .none → h'.get? s.heap.objs.size = some o →
      (∀ b ob, s.heap.get? b = some ob → h'.get? b = some ob) → Q (.ref (s.heap.objs.size + 1)) { s with heap := h' }) : wpAny (model prog w) A (call (.type "enumerate") [v]) Q E s := by
  refine callType_new F.called_enumerate (by decide) (F.typeCall_enumerate_1 _) (F.newCall_enumerate_1 _) (fun ob => F.args_object_init_2 ob _) F.entry_enumerate_new (meets_enum1 B) ⟨hG, ?_⟩
  have sz : (s.heap.push o).objs.size = s.heap.objs.size + 1 := Heap.size_push ..
  show _ ∧ _
  rw [sz]
  have en := Heap.get?_push_size (s.heap.push o) (o := { cls := .type "enumerate", data := .fields #[.none, .bool false, .ref s.heap.objs.size, rawInt 0, .none, .none] }) rfl
  rw [sz] at en
  exact ⟨⟨_, en, rfl⟩, k _ en (Heap.get?_push_of_some _ (Heap.get?_push_size _ B.free)) fun b ob q => Heap.get?_push_of_some _ (Heap.get?_push_of_some _ q)⟩
end
/-- the tuple at a, each item in a new pair with its place -/
def IteT (K : PySem.W.Frag) (a : Addr) : It :=
  ⟨fun i H => ∃ (xs : List V) (x : V), SqT K H a xs ∧ xs[i]? = some x,
   fun i H v H' => ∃ T x, v = .ref T ∧ H T = none ∧ H' = upd H T (.tup [.int (i : Nat), x]) ∧ ∀ xs, SqT K H a xs → xs[i]? = some x,
   fun i H => ∃ xs : List V, SqT K H a xs ∧ xs.length ≤ i⟩
theorem turn_enumT {P : Program} {w : World} {K : PySem.W.Frag} {elts : List Expr} {kk : Nat} {tpos : Pos} (a e it : Addr) :
    Turn P w K (.Tuple elts kk tpos) (IteT K a) [e, it] e (fun i h => (∃ old, IsEnum h e it ((i : Nat) : Int) old) ∧ h.IsTupleIter it a i ∧ e ≠ it) where
  mem := by simp
  obj := fun i h st b hb => by
    obtain ⟨⟨old, he⟩, ⟨o, ho, hc, hd⟩, _⟩ := st
    rcases List.mem_cons.mp hb with rfl | hb
    · exact ⟨_, he, fun v q => nomatch q⟩
    · cases List.mem_singleton.mp hb
      exact ⟨o, ho, fun v q => by rw [hd] at q; cases q⟩
  keep := fun i h h' st k => by
    obtain ⟨⟨old, he⟩, hi, ne⟩ := st
    exact ⟨⟨old, k e (by simp) _ he⟩, hi.at fun o q => k it (by simp) o q, ne⟩
  item := by
    intro X hP hw hK hc i pins s σ H E I hf st hg
    subst hP hw hK
    obtain ⟨⟨old, he⟩, hit, ne⟩ := st
    obtain ⟨xs, x, hq, hx⟩ := hg
    obtain ⟨its, rv, pt, hz⟩ := I.tuple hq
    have pt : s.heap.IsTuple a its.toArray := pt
    obtain ⟨u, hu, ru⟩ := rv.get hx
    have hel : e < s.heap.objs.size := Heap.lt_size he
    have hil : it < s.heap.objs.size := by obtain ⟨_, q, _⟩ := hit; exact Heap.lt_size q
    obtain ⟨h1, h2, h3, h4, h5, h6⟩ := hf e (by simp)
    have nea : e ∉ [it, a] := by
      simp only [List.mem_cons, List.not_mem_nil, or_false, not_or]
      refine ⟨ne, fun q => ?_⟩
      obtain ⟨ob, hob, hcl, _⟩ := pt
      rw [← q, he] at hob
      cases hob
      injection hcl with hcl
      exact absurd hcl (by decide)
    have nai : a ≠ it := fun q => by
      obtain ⟨ob, hob, hcl, _⟩ := pt
      obtain ⟨o2, ho2, hc2, _⟩ := hit
      rw [q, ho2] at hob
      cases hob
      rw [hc2] at hcl
      injection hcl with hcl
      exact absurd hcl (by decide)
    have D := Draws.tuple (prog := X.prog) (w := X.w) (A := X.A.in1) (I.ok.hd hc) it a nai its.toArray
    refine wpAny_pyNext_enum_itemD D he ⟨hit, pt⟩ (getLt (l := its) hu |> fun q => by simpa using q) ne nea fun y h' tk hy ho st' hT hsz hk => ?_
    obtain rfl : y = u := by simpa [hu] using hy.symm
    refine ⟨_, rfl, wpAny_letOwnedTupleGo_enum (s := { s with heap := h', toks := tk + 1 }) ho fun h'' he' sb => ?_⟩
    have hT2 : h''.get? s.heap.objs.size = some { cls := .type "tuple", data := .seq #[.int i tk, y] } := (sb.2 _ (Nat.ne_of_gt hel)).trans hT
    have new : ObjOk X.prog X.w (upd H s.heap.objs.size (.tup [.int (i : Nat), x])) h'' s.heap.objs.size (.tup [.int (i : Nat), x]) :=
      ⟨(by decide : 2 ≤ sizeLine), [.int i tk, y], .cons ⟨_, rfl⟩ (.cons ru .nil), ⟨_, hT2, rfl, _, rfl⟩⟩
    have I1 : Inv X pins σ (upd H s.heap.objs.size (.tup [.int (i : Nat), x])) { s with heap := h'', toks := tk + 1 } :=
      I.turnedNew (ch := [e, it]) (fun b ob hb q => by
        have n1 : b ≠ e := fun z => hb (by simp [z])
        have n2 : b ≠ it := fun z => hb (by simp [z])
        exact (sb.2 b n1).trans (hk b ob n1 n2 q)) hf (Nat.le_refl _) new
    refine ⟨.ref s.heap.objs.size, _, I1, rfl, ⟨_, x, rfl, I.hok.fresh (Nat.le_refl _), rfl, fun ys hys => by rw [I.tuple_inj hys hq]; exact hx⟩, ⟨⟨y, ?_⟩, st'.1.at fun o q => (sb.2 it (Ne.symm ne)).trans q, ne⟩, fun b hb => ?_⟩
    · have e1 : ((i + 1 : Nat) : Int) = (i : Int) + 1 := by omega
      rw [e1]
      exact he'
    · have hb' : b < s.heap.objs.size := by
        rcases List.mem_cons.mp hb with rfl | hb2
        · exact hel
        · cases List.mem_singleton.mp hb2
          exact hil
      rw [upd_ne (Nat.ne_of_lt hb')]
      exact (hf b hb).1
  done := by
    intro X hP hw hK hc i pins s σ H E I hf st hg
    subst hP hw hK
    obtain ⟨⟨old, he⟩, hit, ne⟩ := st
    obtain ⟨xs, hq, hx⟩ := hg
    obtain ⟨its, rv, pt, hz⟩ := I.tuple hq
    have pt : s.heap.IsTuple a its.toArray := pt
    obtain ⟨f0, f1, f2, f3, f4, f5⟩ := hf it (by simp)
    have hl := rv.length
    have hT : s.TypeIs (.ref e) "enumerate" := ⟨_, he, rfl⟩
    have go : wpAny (model X.prog X.w) X.A (pyNext (.ref e)) (fun r s1 => r = none ∧ Inv X pins σ H s1) E s := by
      unfold pyNext
      refine wpAny_bind (wpAny_attempt (wpAny_callSpecial?_slot (name := Str.ofString "__next__") hT F.slot_enumerate_next (wpAny_call_entry F.slot_enumerate_next hT F.entry_enumerate_next ?_ (F.args_enumerate_next_1 _))))
      show wpAny _ _ (field (.ref e) 2 >>= _) _ _ _
      refine wpAny_bind (wpAny_field he rfl (x := .ref it) rfl ?_)
      refine wpAny_bind (wpAny_nextOf_tuple_end (I.ok.hd hc) hit pt (by simp; omega) fun h' z eb hz' => ?_)
      obtain ⟨o, ho, hcl⟩ := hz'
      refine wpAny_bind (wpAny_isInstance (T := "StopIteration") (b := true) ⟨o, ho, hcl⟩ isSubtype_stop ?_)
      exact wpAny_pure ⟨rfl, I.turned (t' := s.toks) (fun b o hb q => eb b o hb q) f0 f1 f3 f4 f5⟩
    exact go
  self := fun A i s Q E st h => by
    obtain ⟨⟨_, he⟩, _⟩ := st
    exact wpAny_pyIter_enum he h
/-- a row: a list or a tuple -/
def RowAt (H : Hp) (a : Addr) (xs : List V) : Prop := H a = some (.lst xs) ∨ H a = some (.tup xs)
theorem RowAt.sx {S : List Addr} {A B : Hp} {a : Addr} {xs : List V} (s : SX S A B) (n : a ∉ S) (h : RowAt A a xs) : RowAt B a xs := h.imp (s _ _ n) (s _ _ n)
theorem RowAt.there {A : Hp} {a : Addr} {xs : List V} (h : RowAt A a xs) : A a ≠ none := by rcases h with h | h <;> rw [h] <;> exact fun z => nomatch z
/-- enumerate(x): x a list or a tuple that is no part of the top's -/
def iEnumA (K : PySem.W.Frag) (ta : TA) : TI := fun σ H R => ta σ H fun vs H1 => ∃ a xs, vs = [.ref a] ∧ RowAt H1 a xs ∧
  ∀ J, Walk J xs.length (fun A => A a = H1 a) (fun i A x A' => ∃ T y, xs[i]? = some y ∧ x = .ref T ∧ A T = none ∧ A' = upd A T (.tup [.int (i : Int), y])) → R J H1
theorem walk_eL {K : PySem.W.Frag} {H : Hp} {a : Addr} {xs : List V} (h : H a = some (.lst xs)) :
    Walk (Ite K a) xs.length (fun A => A a = H a) (fun i A x A' => ∃ T y, xs[i]? = some y ∧ x = .ref T ∧ A T = none ∧ A' = upd A T (.tup [.int (i : Int), y])) :=
  ⟨fun i A hi q => ⟨xs, xs[i], sqL (q.trans h), by simp [hi]⟩, fun A q => ⟨xs, sqL (q.trans h), Nat.le_refl _⟩, fun i A v A' hi q y => by
    obtain ⟨T, x, h1, h2, h3, h4⟩ := y
    exact ⟨T, x, h4 xs (sqL (q.trans h)), h1, h2, h3⟩⟩
theorem walk_eT {K : PySem.W.Frag} {H : Hp} {a : Addr} {xs : List V} (h : H a = some (.tup xs)) :
    Walk (IteT K a) xs.length (fun A => A a = H a) (fun i A x A' => ∃ T y, xs[i]? = some y ∧ x = .ref T ∧ A T = none ∧ A' = upd A T (.tup [.int (i : Int), y])) :=
  ⟨fun i A hi q => ⟨xs, xs[i], sqT (q.trans h), by simp [hi]⟩, fun A q => ⟨xs, sqT (q.trans h), Nat.le_refl _⟩, fun i A v A' hi q y => by
    obtain ⟨T, x, h1, h2, h3, h4⟩ := y
    exact ⟨T, x, h4 xs (sqT (q.trans h)), h1, h2, h3⟩⟩
theorem pi_enumA {X : Cx} {e : Expr} {ta : TA} {p pos tpos : Pos} {elts : List Expr} {kk : Nat} (hg : Gl X "enumerate") (hm : X.mg "enumerate" = none) (ha : PA X [e] ta) (hs : starEach [e] X.env = [(false, eval e X.env)] := by rfl) :
    PI X (.Tuple elts kk tpos) (.Call (.Name "enumerate" p) [e] [] pos) (iEnumA X.K ta) := by
  refine ⟨fun pins s σ H R I h => ?_⟩
  refine Call_ (ld_blt I hg hm boot_enumerate (PyProof.Rows.callWith_type1 (thn (ha.run pos pins s σ H _ I h) fun us s1 ⟨vs, H1, I1, r1, a, xs, ex, hq, q⟩ => ?_) hs rfl))
  subst ex
  cases r1 with
  | cons r rr =>
    cases rr
    cases r
    have fp : ∀ (h' : Heap), Inv X pins σ H1 { s1 with heap := h' } → ∀ b ∈ [s1.heap.objs.size + 1, s1.heap.objs.size], FpOk X pins H1 b := fun h' I2 b hb => by
      have hle : s1.heap.objs.size ≤ b := by
        rcases List.mem_cons.mp hb with rfl | hb
        · exact Nat.le_succ _
        · cases List.mem_singleton.mp hb
          exact Nat.le_refl _
      exact I1.fpOk hle (I1.hok.fresh hle)
    rcases hq with hq | hq
    · obtain ⟨its, rv, pl, hz⟩ := I1.list (sqL (K := X.K) hq)
      refine call_enumerate_list pl.isList fun h' he hit hsz hk => wpAny_pyIter_enum he ?_
      have I2 : Inv X pins σ H1 { s1 with heap := h' } := I1.kept (t' := s1.toks) hk
      exact ⟨s1.heap.objs.size + 1, [s1.heap.objs.size + 1, s1.heap.objs.size], _, _, H1, rfl, I2, turn_enum a (s1.heap.objs.size + 1) s1.heap.objs.size, ⟨⟨.none, he⟩, hit, Nat.succ_ne_self _⟩, fp h' I2, q _ (walk_eL hq)⟩
    · obtain ⟨its, rv, pt, hz⟩ := I1.tuple (sqT (K := X.K) hq)
      refine enum_begin1 (begins_tuple a its.toArray) pt fun h' he hit hk => wpAny_pyIter_enum he ?_
      have I2 : Inv X pins σ H1 { s1 with heap := h' } := I1.kept (t' := s1.toks) hk
      exact ⟨s1.heap.objs.size + 1, [s1.heap.objs.size + 1, s1.heap.objs.size], _, _, H1, rfl, I2, turn_enumT a (s1.heap.objs.size + 1) s1.heap.objs.size, ⟨⟨.none, he⟩, ⟨_, hit, rfl, rfl⟩, Nat.succ_ne_self _⟩, fp h' I2, q _ (walk_eT hq)⟩
section
variable {K : PySem.W.Frag}
theorem w_enumA {X : Cx} {e : Expr} {ta : TA} {p pos tpos : Pos} {elts : List Expr} {kk : Nat} (h : X.K = K) (hg : Gl X "enumerate") (hm : X.mg "enumerate" = none) (ha : PA X [e] ta) (hs : starEach [e] X.env = [(false, eval e X.env)] := by rfl) :
    PI X (.Tuple elts kk tpos) (.Call (.Name "enumerate" p) [e] [] pos) (iEnumA K ta) := by subst h; exact pi_enumA hg hm ha hs
theorem x_iEnumA {ta : TA} {σ : L2.St} {H : Hp} {R : It → Hp → Prop} (k : ta σ H fun vs H1 => ∃ a xs, vs = [.ref a] ∧ RowAt H1 a xs ∧
  ∀ J, Walk J xs.length (fun A => A a = H1 a) (fun i A x A' => ∃ T y, xs[i]? = some y ∧ x = .ref T ∧ A T = none ∧ A' = upd A T (.tup [.int (i : Int), y])) → R J H1) : iEnumA K ta σ H R := k
end
end M

set_option Elab.async false
set_option linter.all false
set_option maxRecDepth 100000
set_option maxHeartbeats 2000000
namespace M
open PySem PySem.Spec PyProof.Rows L2
/-! ### list(d.values()), tuple(d) -/
section
variable {X : Cx}
def tListVals (td : TE) : TE := fun σ H Q => td σ H fun x H1 => ∃ d kvs, x = .ref d ∧ H1 d = some (.dK kvs) ∧ ∀ l, H1 l = none → Q (.ref l) (upd H1 l (.lst (kvs.map (·.2))))
theorem pe_listVals {e : Expr} {td : TE} {p apos cpos pos : Pos} (hc : X.calm = true) (hg : Gl X "list") (hm : X.mg "list" = none) (he : PE X e td)
    (hbase : attributeBase e "values" X.env (eval e X.env) = eval e X.env := by rfl) (hline : (apos.endLine == cpos.line) = true := by rfl)
    (na : starEach [.Call (.Attribute e "values" apos) [] [] cpos] X.env = (false, eval (.Call (.Attribute e "values" apos) [] [] cpos) X.env) :: starEach [] X.env := by rfl) :
    PE X (.Call (.Name "list" p) [.Call (.Attribute e "values" apos) [] [] cpos] [] pos) (tListVals td) := by
  refine ⟨fun pins s σ H Q I h => ?_⟩
  refine Call_ (ld_blt I hg hm boot_list (PyProof.Rows.callWith_type1 (args_cons ?_ na) na))
  refine wpAny_Call_method (T := "dict") (id := "dict.values") hbase rfl hline F.plainAttrs_dict F.slot_dict_values F.type_dict_values (thn (he.run pins s σ H _ I h) fun u s1 ⟨x, H1, I1, rx, d, kvs, ex, hd, q⟩ => ?_)
  subst ex
  obtain rfl : u = Value.ref d := rx
  obtain ⟨z, lo, vs, rk, hdic⟩ := (show ObjOk X.prog X.w H1 s1.heap d (.dK kvs) from I1.hok d _ hd)
  obtain ⟨ep, hat⟩ := hdic.dictAt
  have hl : kvs.length = vs.length := Paired.length rk
  refine ⟨hdic.typeIs, hdic.mapOf.noDict, ?_⟩
  have I2 : Inv X pins σ H1 { s1 with heap := s1.heap.push { cls := .type "dict_values", data := .fields #[.ref d] } } := I1.kept (t' := s1.toks) fun b ob q => Heap.get?_push_of_some _ q
  have fin : wpAny (model X.prog X.w) X.A (spliced (backTo pos (starEach [] X.env))) (fun us s' => wpAny (model X.prog X.w) X.A (call (.type "list") (.ref s1.heap.objs.size :: us)) (EP X pins σ Q) X.xe s') X.xe { s1 with heap := s1.heap.push { cls := .type "dict_values", data := .fields #[.ref d] } } := by
    refine args_nil ?_
    have vw : (s1.heap.push { cls := .type "dict_values", data := .fields #[.ref d] }).IsValuesView s1.heap.objs.size d := ⟨_, Heap.get?_push_size _ rfl, rfl, rfl⟩
    refine PySem.W.kdl_call (PySem.W.kdl_values (knd := mixKind X.prog X.w) (kvs := vs) (ep := ep) (d := d) (r := s1.heap.objs.size)) (I2.ok.hd hc) ⟨vw, hat.push _⟩ (by rw [← hl]; exact z) fun h' tk acc' c' hkeep hS hacc => ?_
    refine ⟨.ref _, upd H1 _ (.lst (kvs.map (·.2))), I2.laid (t' := tk) hkeep (Nat.le_refl _) (show ObjOk X.prog X.w _ _ _ (.lst (kvs.map (·.2))) from ⟨by rw [List.length_map]; exact z, acc'.toList, c', ?_, by rw [Array.toArray_toList]; exact hS⟩), rfl, q _ (I2.hok.fresh (Nat.le_refl _))⟩
    have z1 : acc'.toList.length = acc'.size := by simp
    have z2 : (kvs.map (·.2)).length = acc'.toList.length := by rw [List.length_map, z1, hacc.1, hl]
    refine vals_of_at z2 fun j y w h1 h2 => ?_
    obtain ⟨ky, hky⟩ := hacc.2 j w (by rw [← Array.getElem?_toList]; exact h2)
    rw [List.getElem?_map] at h1
    cases e1 : kvs[j]? with
    | none => rw [e1] at h1; cases h1
    | some kv =>
      rw [e1] at h1
      cases h1
      obtain ⟨vv, e2, _, r2⟩ := Paired.getL rk e1
      rw [hky] at e2
      cases e2
      exact r2
  show wpAny _ _ (callWith cpos (.builtin "dict.values") [.ref d] [] []) _ X.xe s1
  exact method_meetsIn F.slot_dict_values F.entry_dict_values rfl (PySem.evalArgs_none ⟨rfl, hdic.typeIs, F.args_dict_values_1 _, _, meets_dict_values (mixKind X.prog X.w) d lo, ⟨vs, hdic⟩, fin⟩)
/-- tuple(d): its keys -/
def cTupD : List V → Hp → VK → Prop := fun xs H Q => ∃ (p : Addr) (kvs : List (Key × V)), xs = [.ref p] ∧ H p = some (.dK kvs) ∧ ∀ q, H q = none → Q (.ref q) (upd H q (.tup (kvs.map fun kv => kV kv.1)))
theorem new_tup_of {prog : Program} {w : World} {A : Around} {E : Value → Shared → Prop} {s : Shared} {r d : Addr} {n : Nat} {G : Nat → Value → Prop} {OK : Heap → Prop} {Q1 : Value → Shared → Prop} (src : PySem.W.KdlSrc prog w "dict" r d n G OK) (hh : A.handled = none) (ok : OK s.heap) (hn : n ≤ sizeLine)
    (k : ∀ (h' : Heap) (tk : Nat) (acc : Array Value), (∀ b o, s.heap.get? b = some o → h'.get? b = some o) → ItemsOf G acc n →
      Q1 (.ref h'.objs.size) { s with heap := h'.push { cls := .type "tuple", data := .seq acc }, toks := tk }) :
    codeAny (model prog w) A (.call (.builtin "tuple.__new__") ⟨[.type "tuple", .ref r], []⟩) (wants Q1 E) s := by
  have tyT : s.TypeIs (.ref r) "dict" := src.type s ok
  refine codeAny_of_tree ?_
  show wpAny _ A.in1 (checkBuiltinCall "tuple.__new__" ⟨[.type "tuple", .ref r], []⟩ >>= fun _ => again (.builtin "tuple.__new__" ⟨[.type "tuple", .ref r], []⟩)) _ _ s
  refine wpAny_bind (wpAny_of_eq (F.newCall_tuple_1 _) (wpAny_pure ⟨plainId_quiet F.plain_tuple_new _, codeAny_builtin F.entry_tuple_new ?_⟩))
  rw [Around.under_plainId F.plain_tuple_new _]
  have hsub := sub_tuple_self
  have hinit := init_tuple_lookup
  have hmh := madeHere_tuple
  have hh1 : A.in1.handled = none := hh
  wp_walk using wpAny_typeOf tyT, PySem.W.kdu_collect (A := A.in1) src hh1 ok hn
  intro h' tk acc hk hacc
  have e1 : acc.toList.toArray = acc := by simp
  show wpAny _ _ (Builtin.Tuple.tupleExact acc.toList.toArray >>= fun z => ret z) _ _ _
  unfold Builtin.Tuple.tupleExact
  rw [e1]
  refine wpAny_bind (wpAny_newObj_type ?_ (by show acc.size ≤ sizeLine; rw [hacc.1]; exact hn))
  exact wpAny_pure (k h' tk acc hk hacc)
theorem cl_tupD (hc : X.calm = true) : CallR X (.type "tuple") cTupD := by
  intro pins s σ H vs us Q I r h
  obtain ⟨p, kvs, rfl, hk, q⟩ := h
  obtain ⟨u, rfl, ru⟩ := vals1 r
  obtain rfl : u = Value.ref p := ru
  obtain ⟨z, lo, ws, rk, hdic⟩ := (show ObjOk X.prog X.w H s.heap p (.dK kvs) from I.hok p _ hk)
  obtain ⟨ep, hat⟩ := hdic.dictAt
  have hl : kvs.length = ws.length := Paired.length rk
  refine callType_codes (Q₁ := fun ob s1 => s1.TypeIs ob "tuple" ∧ (EP X pins σ Q) ob s1) F.called_tuple (F.typeCall_tuple_1 _) F.entry_object_init
    (new_tup_of (A := X.A.in1) (PySem.W.kdl_dict (knd := mixKind X.prog X.w) (kvs := ws) (ep := ep) lo) (I.ok.hd hc) hat (by rw [← hl]; exact z) fun h' tk acc hkeep hacc => ⟨⟨_, Heap.get?_push_size _ rfl, rfl⟩, ?_⟩) fun ob s1 h1 => ?_
  · have I2 : Inv X pins σ H { s with heap := h', toks := tk } := I.kept hkeep
    have z1 : acc.toList.length = acc.size := by simp
    refine ⟨.ref h'.objs.size, upd H h'.objs.size (.tup (kvs.map fun kv => kV kv.1)), I2.laid (t' := tk) (fun b ob e => Heap.get?_push_of_some _ e) (Nat.le_refl _) (show ObjOk X.prog X.w _ _ _ (.tup (kvs.map fun kv => kV kv.1)) from ⟨by rw [List.length_map]; exact z, acc.toList, ?_, by rw [Array.toArray_toList]; exact IsTup.new _ _⟩), rfl, q _ (I2.hok.fresh (Nat.le_refl _))⟩
    refine vals_of_at (by rw [List.length_map, z1, hacc.1, hl]) fun j x w h1 h2 => ?_
    obtain ⟨ky, yy, hky, hi⟩ := hacc.2 j w (by rw [← Array.getElem?_toList]; exact h2)
    rw [List.getElem?_map] at h1
    cases e1 : kvs[j]? with
    | none => rw [e1] at h1; cases h1
    | some kv =>
      rw [e1] at h1
      cases h1
      obtain ⟨vv, e2, k1, _⟩ := Paired.getL rk e1
      rw [hky] at e2
      cases e2
      have k2 : kv.1 = ky := k1
      show L2.RelV (kV kv.1) w
      rw [k2]
      exact keyIs_rel hi
  · exact ⟨h1.1, F.args_object_init_2 ob _, object_init_meets F.called_tuple.init.lookup F.called_tuple.made (by decide) X.prog X.w X.A.in1 _ s1 ⟨h1.1, rfl, h1.2⟩⟩
end
/-! ### sorted, of tuples of ints of any lengths, the first one empty -/
/-- at v: a tuple of these ints -/
def TupAt (h : Heap) (v : Value) (ns : List Int) : Prop := ∃ a o xs n, v = .ref a ∧ h.get? a = some o ∧ o.cls = .type "tuple" ∧ o.data = .seq xs n ∧ IntsAre xs.toList ns
theorem TupAt.grow {h h' : Heap} {v : Value} {ns : List Int} (t : TupAt h v ns) (g : ∀ b o, h.get? b = some o → o.cls = .type "tuple" → h'.get? b = some o) : TupAt h' v ns := by
  obtain ⟨a, o, xs, n, e, ho, hc, hd, i⟩ := t
  exact ⟨a, o, xs, n, e, g _ _ ho hc, hc, hd, i⟩
section
variable {M : Model} {A : Around} {E : Value → Shared → Prop} {s : Shared}
theorem tup_looks {v : Value} {ns : List Int} (t : TupAt s.heap v ns) : PySem.W.Looks M s.heap (typeOf v) (.type "tuple") := by
  obtain ⟨a, o, xs, n, rfl, ho, hc, hd, i⟩ := t
  rw [← hc]
  exact (PySem.W.Looks.ld ho).andThen .now
theorem tups_firsts {k : Value → List Int} : ∀ (vs : List Value) {Q : List (Option Value) → Shared → Prop}, (∀ v ∈ vs, TupAt s.heap v (k v)) →
    (∀ fs : List (Option Value), fs.length = vs.length → (∀ v r, vs = v :: r → k v = [] → fs[0]? = some none) → Q fs s) → wpAny M A (vs.mapM firstOfTuple') Q E s
  | [], Q, _, h => by
    rw [List.mapM_nil]
    exact wpAny_pure (h [] rfl fun v r e => nomatch e)
  | v :: vs, Q, hv, h => by
    obtain ⟨a, o, xs, n, rfl, ho, hc, hd, i⟩ := hv v List.mem_cons_self
    rw [List.mapM_cons]
    refine wpAny_bind ?_
    rw [PySem.W.kas_first_eq]
    refine wpAny_bind (PySem.W.Looks.here (tup_looks ⟨a, o, xs, n, rfl, ho, hc, hd, i⟩) ?_)
    rw [if_neg (by decide)]
    refine wpAny_bind (listItems_at ho hd (wpAny_pure ?_))
    refine wpAny_bind (tups_firsts vs (Q := fun bs s' => wpAny M A (pure (xs[0]? :: bs)) Q E s') (fun u hu => hv u (List.mem_cons_of_mem _ hu)) fun fs hl _ => wpAny_pure (h _ (by simp [hl]) fun v' r e hk => ?_))
    injection e with e1 e2
    rw [← e1] at hk
    rw [hk] at i
    have : xs.toList.length = 0 := i.length
    have z : xs.size = 0 := by simpa using this
    have : xs[0]? = none := by simp [z]
    rw [this]
    rfl
theorem tups_kind {vs : List Value} {k : Value → List Int} {Q : SortKind → Shared → Prop} (hv : ∀ v ∈ vs, TupAt s.heap v (k v)) {v0 : Value} {r0 : List Value} (e0 : vs = v0 :: r0) (k0 : k v0 = []) (h : Q oneType' s) : wpAny M A (keyKind' vs.toArray) Q E s := by
  rw [keyKind'_eq, List.mapM_toArray, map_eq_pure_bind]
  refine wpAny_bind (wpAny_bind (tups_firsts vs hv fun fs hl hf => wpAny_pure ?_))
  have f0 : fs[0]? = some none := hf v0 r0 e0 k0
  have na : (fs.toArray.all fun x => x.isSome) = false := by
    rw [List.all_toArray, List.all_eq_false]
    exact ⟨none, List.mem_of_getElem? f0, by simp⟩
  rw [na, if_neg (by decide)]
  have nb : ((fs.toArray[0]?).bind id).isSome = false := by
    have : fs.toArray[0]? = some none := by simpa using f0
    rw [this]
    rfl
  rw [nb, if_neg (by decide), oneTypeOnly'_eq, List.mapM_toArray, map_eq_pure_bind]
  refine wpAny_bind (wpAny_bind (wpAny_bind (PySem.W.kas_mapM (r := Value.type "tuple") _ (fun v m Q' hq => (tup_looks (hv v m)).here hq) (wpAny_pure ?_))))
  subst e0
  have al : ((List.map (fun _ => Value.type "tuple") (v0 :: r0)).toArray.all fun x => x == Value.type "tuple") = true := by
    simp only [List.all_toArray, List.all_map, List.all_eq_true]
    intro _ _
    rfl
  have h0 : (List.map (fun _ => Value.type "tuple") (v0 :: r0)).toArray[0]? = some (Value.type "tuple") := by simp
  rw [h0]
  simp only [al, if_true]
  exact wpAny_pure (wpAny_pure h)
end
section
variable {prog : Program} {w : World} {A : Around} {E : Value → Shared → Prop} {s : Shared}
theorem tups_lt {v u : Value} {ns ms : List Int} {Q : Bool → Shared → Prop} (hu : A.units < cLine) (hv : TupAt s.heap v ns) (hw : TupAt s.heap u ms) (h : Q (HT.lexLt ns ms) s) : wpAny (model prog w) A (keyLt' oneType' v u) Q E s := by
  obtain ⟨a, ⟨c1, d1, q1, l1⟩, xs, n, rfl, ho, hc, hd, i⟩ := hv
  obtain ⟨b, ⟨c2, d2, q2, l2⟩, ys, m, rfl, ho2, hc2, hd2, j⟩ := hw
  have hc : c1 = .type "tuple" := hc
  have hc2 : c2 = .type "tuple" := hc2
  have hd : q1 = .seq xs n := hd
  have hd2 : q2 = .seq ys m := hd2
  subst hc hc2 hd hd2
  rw [keyLt'_oneType, oneLt'_eq]
  simp only [if_true]
  refine wpAny_bind (wpAny_cRoomFor hu ?_)
  have tT : s.TypeIs (.ref a) "tuple" := ⟨_, ho, rfl⟩
  refine wpAny_bind (wpAny_callSpecialIfBound?_slot (name := Str.ofString "__lt__") tT PySem.F.slot_tuple_lt (call_meets PySem.F.slot_tuple_lt tT PySem.F.entry_tuple_lt (PySem.F.args_tuple_lt_2 _ _) (HT.tuple_lt_ints a b xs ys n m d1 d2 l1 l2 ns ms i j) ⟨ho, ho2, ?_⟩))
  exact wpAny_truthy_bool h
theorem tups_sortable {a : Addr} {vs : List Value} {k : Value → List Int} (hu : A.units < cLine) (hv : ∀ v ∈ vs, TupAt s.heap v (k v)) {v0 : Value} {r0 : List Value} (e0 : vs = v0 :: r0) (k0 : k v0 = []) (ha : ∀ o, s.heap.get? a = some o → o.cls ≠ .type "tuple") :
    SrtO.SortableO prog w A s a vs fun v u => HT.lexLt (k v) (k u) := by
  intro h' keep
  have hv' : ∀ v ∈ vs, TupAt h' v (k v) := fun v m => (hv v m).grow fun b o q c => keep b o (fun z => ha o (z ▸ q) c) q
  refine ⟨oneType', fun Q E hq => tups_kind (s := { s with heap := h' }) hv' e0 k0 hq, ?_⟩
  intro p q hp hq
  exact tups_lt (s := { s with heap := h' }) (Q := fun r s' => s' = { s with heap := h' } ∧ r = HT.lexLt (k p.1) (k q.1)) (E := fun _ _ => False) hu (hv' p.1 hp) (hv' q.1 hq) ⟨rfl, rfl⟩
end
/-- sorted(xs), xs a list of tuples of ints (k says which), the first one empty -/
def rSortL (K : PySem.W.Frag) : List V → Hp → VK → Prop := fun vs H Q => ∃ (a : Addr) (ts : List Addr) (k : Addr → List Int), vs = [V.ref a] ∧ SqL K H a (ts.map V.ref) ∧ (∀ t ∈ ts, H t = some (.tup ((k t).map V.int))) ∧ (∃ t0 r0, ts = t0 :: r0 ∧ k t0 = []) ∧
  ∀ (ts' : List Addr) (p : Addr), ts'.Perm ts → ts'.Pairwise (fun p q => HT.lexLt (k q) (k p) = false) → H p = none → Q (.ref p) (upd H p (.lst (ts'.map V.ref)))
section
variable {X : Cx}
theorem cr_sortL (hu : X.A.units + 64 < cLine) : CallR X (.builtin "sorted") (rSortL X.K) := by
  intro pins s σ H vs us Q I r h
  obtain ⟨a, ts, k, rfl, hs, hx, ⟨t0, r0, e0, k0⟩, q⟩ := h
  obtain ⟨its, rv, hl, hz⟩ := I.list hs
  obtain ⟨u, rfl, ru⟩ := vals1 r
  obtain rfl : u = Value.ref a := ru
  have ei := L2.nts_of rv
  have hv : ∀ v ∈ its, TupAt s.heap v (k (L2.adO v)) := fun v m => by
    rw [ei] at m
    obtain ⟨t, ht, rfl⟩ := List.mem_map.mp m
    obtain ⟨_, its2, r2, o, ho, hc, n, hd⟩ := I.hok _ _ (hx t ht)
    exact ⟨t, o, its2.toArray, n, rfl, ho, hc, hd, intsAre_of r2⟩
  have eh : its = Value.ref t0 :: r0.map Value.ref := by rw [ei, e0]; rfl
  refine SrtO.sorted_ord (NtL.swo_lexL fun v => k (L2.adO v)) hl.isList (by rw [← rv.length]; exact hz) (fun h2 h1 b hb kk => ?_) fun out hs1 hb1 => ?_
  · refine tups_sortable (s := { s with heap := h1 }) (by show X.A.units + 2 < cLine; omega) (fun v m => (hv v m).grow fun c o e _ => (kk c o e).2) eh k0 fun o e => ?_
    have e' : some o = some (seqObj "list" its.toArray 0) := e.symm.trans hb
    cases e'
    intro c
    exact absurd (Value.type.inj c) (by decide)
  · have eo : out = (out.map L2.adO).map Value.ref := L2.ref_map fun v m => by
      have m' : v ∈ its := hb1.perm.mem_iff.mp m
      rw [ei] at m'
      obtain ⟨t, _, e⟩ := List.mem_map.mp m'
      exact ⟨t, e.symm⟩
    have hp : (out.map L2.adO).Perm ts := by
      have p1 := hb1.perm.map L2.adO
      rw [ei, L2.ad_map] at p1
      exact p1
    have hs2 : (out.map L2.adO).Pairwise (fun p q => HT.lexLt (k q) (k p) = false) := List.pairwise_map.mpr (hs1.imp fun {x y} z => z)
    have fit : ((out.map L2.adO).map V.ref).length ≤ sizeLine := by
      rw [List.length_map, hp.length_eq]
      rw [List.length_map] at hz
      exact hz
    have rvo : Vals ((out.map L2.adO).map V.ref) out := by
      have z := L2.of_nts (out.map L2.adO)
      rw [← eo] at z
      exact z
    obtain ⟨ep, at2⟩ := PyProof.Rows.sortedAll_at s.heap its out.toArray
    have dn : H (s.heap.objs.size + 1) = none := I.hok.fresh (Nat.le_succ _)
    exact ⟨.ref (s.heap.objs.size + 1), upd H _ (.lst ((out.map L2.adO).map V.ref)), I.laid (t' := s.toks) (fun b o e => sortedAll_old e) (Nat.le_succ _) ⟨fit, out, ep, rvo, at2⟩, rfl, q _ _ hp hs2 dn⟩
theorem w_sortT {K : PySem.W.Frag} (h : X.K = K) (hu : X.A.units + 64 < cLine) : CallR X (.builtin "sorted") (rSortL K) := by subst h; exact cr_sortL hu
end
section
variable {K : PySem.W.Frag} {X : Cx} {pos : Pos}
theorem w_pglst {es : List Expr} {k : Nat} {t : TGs} {n : Nat} (h : X.K = K) (hc : X.calm = true) (ht : PGs X es t) (hn : (assignEach es X.env).length = n) (hst : (assignEach es X.env).findIdx? (·.1) = none) : PG X (.Tuple es k pos) (gLst K n t) := by subst h; exact pg_lst hc ht hn hst
theorem w_revL {e : Expr} {te : TE} {k : Nat} {p1 p2 p3 : Pos} (h : X.K = K) (he : PE X e te) : PE X (.Subscript e (.Slice none none (some (.UnaryOp .USub (.Constant (.int 1) k p1) p2)) p3) pos) (tRevL K te) := by subst h; exact pe_revL he
end
end M

set_option Elab.async false
set_option linter.all false
set_option maxRecDepth 100000
set_option maxHeartbeats 2000000
/-! sorted(d, reverse=True) of a dict of texts; == of dicts of plain data; going through a list or a tuple. -/
namespace M
open PySem PySem.Spec PyProof.Rows L2
def svOf : Value → List Nat
  | .str x _ => x.cps.toList
  | _ => []
def ltSv (v u : Value) : Bool := decide (svOf v < svOf u)
theorem swo_sv : SrtO.Swo ltSv := ⟨fun x y h => by
    have := of_decide_eq_true h
    exact decide_eq_false fun z => List.lt_irrefl _ (List.lt_trans this z),
  fun x y z h1 h2 => by
    have a := of_decide_eq_false h1
    have b := of_decide_eq_false h2
    exact decide_eq_false (List.not_lt.mpr (List.le_trans (List.not_lt.mp a) (List.not_lt.mp b)))⟩
def toS : Value → Str
  | .str x _ => x
  | _ => Str.empty
theorem strs_mem : ∀ {vs : List Value} {ss : List Str}, StrsAre vs ss → ∀ v ∈ vs, ∃ x t, v = Value.str x t
  | _, _, .nil, v, h => absurd h (by simp)
  | _, _, .cons n t r, v, h => by
    rcases List.mem_cons.mp h with e | h
    · exact ⟨n, t, e⟩
    · exact strs_mem r v h
theorem strs_of : ∀ {vs : List Value}, (∀ v ∈ vs, ∃ x t, v = Value.str x t) → StrsAre vs (vs.map toS)
  | [], _ => .nil
  | v :: vs, h => by
    obtain ⟨i, t, e⟩ := h v List.mem_cons_self
    subst e
    exact .cons i t (strs_of fun u hu => h u (List.mem_cons_of_mem _ hu))
theorem toS_strs : ∀ {vs : List Value} {ss : List Str}, StrsAre vs ss → vs.map toS = ss
  | _, _, .nil => rfl
  | _, _, .cons n t r => congrArg (n :: ·) (toS_strs r)
theorem strs_sortable {prog : Program} {w : World} {A : Around} {s : Shared} {a : Addr} {vs : List Value} {ss : List Str} (hI : StrsAre vs ss) (h2 : 2 ≤ vs.length) : SrtO.SortableO prog w A s a vs ltSv := by
  intro h' _
  refine ⟨oneType', fun Q E hq => ?_, fun p q hm hm' => ?_⟩
  · match vs, hI, h2 with
    | v1 :: v2 :: rest, hI, _ =>
      rw [keyKind_strs hI]
      exact wpAny_pure hq
    | [], _, h => exact absurd h (by decide)
    | [v], _, h => exact absurd h (by simp)
  · obtain ⟨a, t, e⟩ := strs_mem hI _ hm
    obtain ⟨b, u, e'⟩ := strs_mem hI _ hm'
    show wpAny (model prog w) A (keyLt' oneType' p.1 q.1) (fun r s' => s' = { s with heap := h' } ∧ r = ltSv p.1 q.1) (fun _ _ => False) { s with heap := h' }
    rw [e, e', keyLt'_oneType]
    exact oneLt_str ⟨rfl, rfl⟩
/-- sorted(d, reverse=True): the keys in some order -/
def rSortDR : List V → List V → Hp → VK → Prop := fun xs zs H Q => ∃ (a : Addr) (kvs : List (Key × V)) (ks : List Str), xs = [.ref a] ∧ zs = [.bl true] ∧ Rd H a (.dK kvs) ∧ kvs.map (·.1) = ks.map Sum.inr ∧
  ∀ (ys : List Str) (p : Addr), ys.Perm ks → H p = none → Q (.ref p) (upd H p (.lst (ys.map V.str)))
section
variable {X : Cx}
theorem cl_sortDR (calmly : X.calm = true) : CallRK X (.builtin "sorted") [Str.ofString "reverse"] rSortDR := by
  intro pi s0 st Hp0 args zs us ws Qk In rel rz hh
  obtain ⟨ad, kv0, ks, exs, ezs, rd0, names, kk⟩ := hh
  subst exs
  subst ezs
  obtain ⟨u0, eu0, r0⟩ := vals1 rel
  subst eu0
  cases r0
  obtain ⟨w1, rfl, e1⟩ := vals1 rz
  obtain rfl : w1 = Value.bool true := e1
  obtain ⟨zd, od0, vv, prs, dof⟩ := dk_rd In.hok rd0
  obtain ⟨epo, dAt⟩ := dof.dictAt
  have nm : vv.map (·.1) = ks.map Sum.inr := by rw [← names, prs.keys]
  have nl : vv.length = ks.length := by simpa using congrArg List.length nm
  have fit0 : vv.length ≤ sizeLine := by rw [← prs.length]; exact zd
  refine call_function_entry_kw kind_sorted plain_sorted entry_sorted (args_sorted_rev _ _) ?_
  unfold Builtin.«sorted»
  refine wpAny_bind (m := checkCount "sorted" 1 1 _) (wpAny_pure ?_)
  refine wpAny_bind (PySem.W.kdu_collect (A := X.A.in1) (PySem.W.kdl_dict (knd := mixKind X.prog X.w) (kvs := vv) (ep := epo) od0) (In.ok.hd calmly) dAt fit0 fun hp1 tk1 got keep1 ⟨gsz, gat⟩ => ?_)
  have al : got.toList.length = ks.length := by rw [Array.length_toList, gsz, nl]
  have txt : StrsAre got.toList ks := strs_at al fun n v ev => by
    obtain ⟨kq, xq, f1, f2⟩ := gat n v (by rw [← Array.getElem?_toList]; exact ev)
    have f3 : (ks.map Sum.inr : List Key)[n]? = some kq := by rw [← nm, List.getElem?_map, f1]; rfl
    rw [List.getElem?_map] at f3
    match q4 : ks[n]? with
    | none =>
      rw [q4] at f3
      cases f3
    | some y =>
      rw [q4] at f3
      have f5 : Sum.inr y = kq := Option.some.inj f3
      subst f5
      obtain ⟨tt, f6⟩ := Value.isStrOf_shape (x := y) (v := v) f2
      exact ⟨y, tt, rfl, f6⟩
  have sml : got.toList.length ≤ sizeLine := by rw [al, ← nl]; exact fit0
  have In1 : Inv X pi st Hp0 { s0 with heap := hp1, toks := tk1 } := In.kept keep1
  refine wpAny_bind (wpAny_newList ?_ (by simpa using sml))
  have at0 : (hp1.push (seqObj "list" got.toList.toArray 0)).get? hp1.objs.size = some (seqObj "list" got.toList.toArray 0) := by exact Heap.get?_push_size _ rfl
  show wpAny _ _ _ _ _ { s0 with heap := hp1.push (seqObj "list" got.toList.toArray 0), toks := tk1 }
  refine wpAny_bind (wpAny_holding (wpAny_call_entry_kw slot_list_sort ⟨_, at0, rfl⟩ entry_list_sort ?_ (args_list_sort_rev _ _)))
  refine SrtR.list_sort_ordR (b := true) (s := { s0 with heap := hp1.push (seqObj "list" got.toList.toArray 0), toks := tk1 }) swo_sv at0 sml (fun h2 => strs_sortable txt h2) fun out hs hb => ⟨_, rfl, ?_⟩
  have pm : out.reverse.Perm got.toList := (List.reverse_perm _).trans (hb.perm.trans (List.reverse_perm _))
  have g1 : StrsAre out.reverse (out.reverse.map toS) := strs_of fun v hv => strs_mem txt v (pm.mem_iff.mp hv)
  have g2 : (out.reverse.map toS).Perm ks := by
    have := pm.map toS
    rw [toS_strs txt] at this
    exact this
  have ea : (if true = true then out.toArray.reverse else out.toArray) = out.reverse.toArray := by
    rw [if_pos rfl]
    simp
  rw [ea]
  obtain ⟨ep2, at2⟩ := PyProof.Rows.sortedHeap_at (vs := got.toList) (out := out.reverse.toArray) at0
  have fit : ((out.reverse.map toS).map V.str).length ≤ sizeLine := by rw [List.length_map, g2.length_eq, ← al]; exact sml
  refine wpAny_pure ⟨_, rfl, .ref hp1.objs.size, upd Hp0 hp1.objs.size (.lst ((out.reverse.map toS).map V.str)), ?_, rfl, kk _ _ g2 (In1.hok.fresh (Nat.le_refl _))⟩
  refine In1.laid (t' := tk1) (fun b u e => ?_) (Nat.le_refl _) (show ObjOk X.prog X.w _ _ _ (.lst ((out.reverse.map toS).map V.str)) from ⟨fit, out.reverse, ep2, vals_of_strs g1, ?_⟩)
  · have lt : b < hp1.objs.size := Heap.lt_size e
    rw [PyProof.Rows.sortedHeap_old (Nat.ne_of_lt lt) (Nat.lt_of_lt_of_eq (Nat.lt_succ_of_lt lt) (size_push' _ _).symm)]
    exact Heap.get?_push_of_some _ e
  · exact at2
end
/-! ### a list or a tuple, whichever a name holds -/
def iAny (K : PySem.W.Frag) (i : Nat) : TI := fun σ H R => iList K (tVar i) σ H R ∨ iTup K (tVar i) σ H R
theorem w_piany {K : PySem.W.Frag} {X : Cx} {i : Nat} {tg l : Expr} (h : X.K = K) (hl : PE X l (tVar i)) : PI X tg l (iAny K i) := by
  subst h
  refine ⟨fun pins s σ H R I q => ?_⟩
  rcases q with q | q
  · exact (pi_list hl).run pins s σ H R I q
  · exact (pi_tup hl).run pins s σ H R I q
theorem x_iAnyL {K : PySem.W.Frag} {i : Nat} {σ : L2.St} {H : Hp} {R : It → Hp → Prop} (k : iList K (tVar i) σ H R) : iAny K i σ H R := .inl k
theorem x_iAnyT {K : PySem.W.Frag} {i : Nat} {σ : L2.St} {H : Hp} {R : It → Hp → Prop} (k : iTup K (tVar i) σ H R) : iAny K i σ H R := .inr k
/-! ### dicts of plain data that are equal -/
structure DKeq (K : PySem.W.Frag) (H : Hp) (a b : Addr) (ks ls : List (Key × V)) : Prop where
  l : H a = some (.dK ks)
  r : H b = some (.dK ls)
  len : ks.length = ls.length
  all : ∀ p ∈ ks, ∃ u d e, valV ls p.1 = some u ∧ Dp K H p.2 d ∧ Dp K H u e ∧ d.canLay0 = true ∧ e.canLay0 = true ∧ d.depth ≤ 50 ∧ PyData.eqv d e = true
def rDEq (K : PySem.W.Frag) (neg : Bool) : R2 := fun x y H Q => (x = .non ∧ y = .non ∧ Q (.bl (!neg)) H) ∨ (∃ a b ks ls, x = .ref a ∧ y = .ref b ∧ DKeq K H a b ks ls ∧ Q (.bl (!neg)) H)
section
variable {X : Cx}
theorem dk_hits {pins : List (Addr × Obj)} {σ : L2.St} {H : Hp} {s : Shared} (I : Inv X pins σ H s) (hu : X.A.units + 64 < cLine) {ls : List (Key × V)} {vb : List (Key × Value)} (rb : KV ls vb) {ks : List (Key × V)} {va : List (Key × Value)} (ra : KV ks va)
    (h : ∀ p ∈ ks, ∃ u d e, valV ls p.1 = some u ∧ Dp X.K H p.2 d ∧ Dp X.K H u e ∧ d.canLay0 = true ∧ e.canLay0 = true ∧ d.depth ≤ 50 ∧ PyData.eqv d e = true) : PySem.W.KeqHits X.A.in1 s vb va true := by
  unfold KV at ra
  induction ra with
  | nil => exact .nil
  | @cons p q ps qs h0 t k =>
    obtain ⟨h1, h2⟩ := h0
    obtain ⟨u, d, e, ev, hd, he, cd, ce, dd, eqv⟩ := h p List.mem_cons_self
    have rr : RelO (some u) (valueAt vb p.1) := by rw [← ev]; exact rb.val p.1
    obtain ⟨y, hy, ry⟩ := rr.some_of
    obtain ⟨key, v⟩ := q
    have h1' : p.1 = key := h1
    rw [h1'] at hy
    obtain ⟨as, r1⟩ := Dp.reads I d p.2 v hd h2
    obtain ⟨bs, r2⟩ := Dp.reads I e u y he ry
    show PySem.W.KeqHits X.A.in1 s vb ((key, v) :: qs) (true && true)
    refine .hit hy ?_ (k fun p' hm => h p' (List.mem_cons_of_mem _ hm))
    have := SeqAt.eqAt_reads d e X.A.in1 s v y as bs r1 r2 cd ce (by show X.A.units + 1 + min d.depth e.depth < cLine; omega)
    rw [eqv] at this
    exact this
theorem op_dEq (hu : X.A.units + 64 < cLine) : OpR X (compareOp .Eq) (rDEq X.K false) := by
  intro pins s σ H x y v u Q I rx ry h
  rcases h with ⟨rfl, rfl, q⟩ | ⟨a, b, ks, ls, rfl, rfl, D, q⟩
  · exact op_eqD hu pins s σ H .non .non v u Q I rx ry ⟨.none, .none, .non, .non, by rfl, by rfl, q⟩
  · cases (show v = Value.ref a from rx)
    cases (show u = Value.ref b from ry)
    obtain ⟨_, ya, va, ra, da⟩ := (show ObjOk X.prog X.w H s.heap a (.dK ks) from I.hok a _ D.l)
    obtain ⟨_, yb, vb, rb, db⟩ := (show ObjOk X.prog X.w H s.heap b (.dK ls) from I.hok b _ D.r)
    have e : va.length = vb.length := by rw [← ra.length, ← rb.length]; exact D.len
    refine PySem.W.keq_eq (knd := mixKind X.prog X.w) (r := true) ya yb da db (by omega) (fun _ => dk_hits I hu rb ra D.all) ?_
    rw [show (va.length == vb.length && true) = true from by rw [e]; simp]
    exact ⟨.bl true, H, I, rfl, q⟩
theorem op_dNe (hu : X.A.units + 64 < cLine) : OpR X (compareOp .NotEq) (rDEq X.K true) := by
  intro pins s σ H x y v u Q I rx ry h
  rcases h with ⟨rfl, rfl, q⟩ | ⟨a, b, ks, ls, rfl, rfl, D, q⟩
  · exact op_neD hu pins s σ H .non .non v u Q I rx ry ⟨.none, .none, .non, .non, by rfl, by rfl, q⟩
  · cases (show v = Value.ref a from rx)
    cases (show u = Value.ref b from ry)
    obtain ⟨_, ya, va, ra, da⟩ := (show ObjOk X.prog X.w H s.heap a (.dK ks) from I.hok a _ D.l)
    obtain ⟨_, yb, vb, rb, db⟩ := (show ObjOk X.prog X.w H s.heap b (.dK ls) from I.hok b _ D.r)
    have e : va.length = vb.length := by rw [← ra.length, ← rb.length]; exact D.len
    refine PySem.W.keq_ne (knd := mixKind X.prog X.w) (r := true) ya yb da db (by omega) (fun _ => dk_hits I hu rb ra D.all) ?_
    rw [show (va.length == vb.length && true) = true from by rw [e]; simp]
    exact ⟨.bl false, H, I, rfl, q⟩
theorem w_dEq {K : PySem.W.Frag} (h : X.K = K) (hu : X.A.units + 64 < cLine) : OpR X (compareOp .Eq) (rDEq K false) := by subst h; exact op_dEq hu
theorem w_dNe {K : PySem.W.Frag} (h : X.K = K) (hu : X.A.units + 64 < cLine) : OpR X (compareOp .NotEq) (rDEq K true) := by subst h; exact op_dNe hu
theorem w_dclear {K : PySem.W.Frag} {o : Expr} {to : TE} {apos cpos : Pos} (h : X.K = K) (ho : PE X o to) (hbase : attributeBase o "clear" X.env (eval o X.env) = eval o X.env := by rfl) (hline : (apos.endLine == cpos.line) = true := by rfl) :
    PE X (.Call (.Attribute o "clear" apos) [] [] cpos) (tBM0 K "dict" rDClear to) := by subst h; exact pe_dclear ho hbase hline
end
end M

set_option Elab.async false
set_option linter.all false
set_option maxRecDepth 100000
set_option maxHeartbeats 2000000
/-! {t: v}, t a tuple; setdefault; join; index -/
namespace M
open PySem PySem.Spec PyProof.Rows L2
def tDispT (tk tv : TE) : TE := fun σ H Q => ∀ p, H p = none → tk σ (upd H p (.dT [])) fun x H1 => tv σ H1 fun y H2 => ∃ (b : Addr) (k : List Key), x = .ref b ∧ H2 p = some (.dT []) ∧ H2 b = some (.tup (k.map kV)) ∧ Q (.ref p) (upd H2 p (.dT [(k, y)]))
theorem pe_dispT {X : Cx} {pos : Pos} {k v : Expr} {tk tv : TE} (hu : X.A.units + 1 < cLine) (hk : PE X k tk) (hv : PE X v tv) : PE X (.Dict [some k] [v] pos) (tDispT tk tv) := by
  refine ⟨fun pins s σ H Q I q => ?_⟩
  have hn := I.hok.fresh (Nat.le_refl s.heap.objs.size)
  have I1 := I.laid (a := s.heap.objs.size) (o := .dT []) (h' := s.heap.push { cls := .type "dict", data := .dict #[] }) (t' := s.toks) (fun _ _ q => Heap.get?_push_of_some _ q) (Nat.le_refl _) (dt_empty s.heap I.big)
  have hl := pairTrees_length [some k] [v] X.env pos rfl rfl
  have hz := zip_pairTrees [some k] [v] X.env pos rfl rfl
  rw [arm_eval_Dict, hz, dictDisplay_pairs _ (fun e => by rw [e] at hl; cases hl) (by rw [hl]; exact Nat.le_of_ble_eq_true rfl)]
  refine wpAny_bind (wpAny_standAt (wpAny_bind (wpAny_subDictH (knd := tupleKind (mixKind X.prog X.w)) (Q := fun d s' => wpAny (model X.prog X.w) X.A (pure (Value.ref d)) (EP X pins σ Q) X.xe s') (Nat.lt_of_succ_lt hu) (by rw [hl]; exact Nat.le_of_ble_eq_true rfl) ?_)))
  refine pairTrees_cons_walk (thn (hk.run pins _ σ _ _ I1 (q _ hn)) fun u s1 ⟨x, H1, I2, rx, q1⟩ => thn (hv.run pins s1 σ H1 _ I2 q1) fun w2 s2 ⟨y, H2, I3, ry, b, ky, ex, hp, hb, q2⟩ => pairTrees_nil_walk ?_)
  subst ex
  obtain rfl : u = Value.ref b := rx
  obtain ⟨z, hd, xs0, r0, dd⟩ := dt_of I3.hok hp
  cases r0
  refine ⟨[(ky, b, w2)], ⟨rfl, rfl, key_of I3.hok hb, trivial⟩, dd, fun h' tk' dd' hs => wpAny_pure ?_⟩
  refine ⟨.ref s.heap.objs.size, upd H2 s.heap.objs.size (.dT [(ky, y)]), ?_, rfl, q2⟩
  have e1 : storedAllH ([] : List (List Key × Addr × Value)) [(ky, b, w2)] = [(ky, b, w2)] := rfl
  rw [e1] at dd'
  obtain ⟨o, es, ep, hq, h2, h3, h4, _, h5⟩ := dd'
  refine d_write I3 (by rw [hp]; exact True.intro) hs ⟨o, hq⟩ ⟨Nat.le_of_ble_eq_true rfl, hd, [(ky, b, w2)], .cons ⟨rfl, ?_, ry⟩ .nil, o, es, ep, hq, h2, h3, h4, h5⟩
  rw [upd_ne (ne_of hb hp (fun z => nomatch z))]
  exact hb
def rJoin (K : PySem.W.Frag) : V → List V → Hp → VK → Prop := fun x xs H Q => ∃ a p, ∃ ys : List Str, x = .str a ∧ xs = [.ref p] ∧ (SqL K H p (ys.map V.str) ∨ SqT K H p (ys.map V.str)) ∧
    (ys.map (·.length)).sum + ys.length * a.length ≤ 16777216 ∧ Q (.str (Txt.join a ys)) H
section
variable {X : Cx} {K : PySem.W.Frag} {o e : Expr} {to : TE} {t : TA} {apos cpos : Pos}
theorem w_join (h : X.K = K) (ho : PE X o to) (ha : PA X [e] t)
    (hbase : attributeBase o "join" X.env (eval o X.env) = eval o X.env := by rfl)
    (hfew : ((backTo cpos (starEach [e] X.env)).all (fun x => !x.1) && (backToKw cpos (keywordEach [] X.env)).all (fun x => x.1.isSome)
      && decide (([e] : List Expr).length + ([] : List Keyword).length + (if ([] : List Keyword).isEmpty then 0 else 1) < 30)) = true := by rfl)
    (hline : (apos.endLine == cpos.line) = true := by rfl) (hs : starEach [e] X.env = (false, eval e X.env) :: starEach [] X.env := by rfl) (hplain : (backTo cpos (starEach [] X.env)).any (·.1) = false := by rfl) :
    PE X (.Call (.Attribute o "join" apos) [e] [] cpos) (tBM K "str" (rJoin K) to t) := by
  subst h
  exact pe_bm PySem.F.plainAttrs_str PySem.F.slot_str_join PySem.F.type_str_join mt_join ho ha hbase hfew hline hs hplain
theorem w_index (h : X.K = K) (ho : PE X o to) (ha : PA X [e] t)
    (hbase : attributeBase o "index" X.env (eval o X.env) = eval o X.env := by rfl)
    (hfew : ((backTo cpos (starEach [e] X.env)).all (fun x => !x.1) && (backToKw cpos (keywordEach [] X.env)).all (fun x => x.1.isSome)
      && decide (([e] : List Expr).length + ([] : List Keyword).length + (if ([] : List Keyword).isEmpty then 0 else 1) < 30)) = true := by rfl)
    (hline : (apos.endLine == cpos.line) = true := by rfl) (hs : starEach [e] X.env = (false, eval e X.env) :: starEach [] X.env := by rfl) (hplain : (backTo cpos (starEach [] X.env)).any (·.1) = false := by rfl) :
    PE X (.Call (.Attribute o "index" apos) [e] [] cpos) (tBM K "list" (rIndex K) to t) := by
  subst h
  exact pe_bm PySem.F.plainAttrs_list PySem.F.slot_list_index PySem.F.type_list_index mt_index ho ha hbase hfew hline hs hplain
end
section
variable {K : PySem.W.Frag} {σ : L2.St} {H : Hp} {Q : VK}
theorem x_dispT {tk tv : TE} (k : ∀ p, H p = none → tk σ (upd H p (.dT [])) fun x H1 => tv σ H1 fun y H2 => ∃ (b : Addr) (k : List Key), x = .ref b ∧ H2 p = some (.dT []) ∧ H2 b = some (.tup (k.map kV)) ∧ Q (.ref p) (upd H2 p (.dT [(k, y)]))) : tDispT tk tv σ H Q := k
theorem x_dsetd {td ty tx : TE} (k : td σ H fun x H1 => ∃ a, x = .ref a ∧ IsD H1 a ∧ ty σ H1 fun y H2 => tx σ H2 fun z H3 => ∃ (kvs : List (Key × V)) (k : Key), H3 a = some (.dK kvs) ∧ y = kV k ∧ kvs.length < sizeLine ∧
  (∀ v, valV kvs k = some v → Q v H3) ∧ (valV kvs k = none → Q z (upd H3 a (.dK (putK kvs k z))))) : tDSetd td ty tx σ H Q := k
theorem x_join {a : Str} {p : Addr} {ys : List Str} (h : SqL K H p (ys.map V.str)) (hz : (ys.map (·.length)).sum + ys.length * a.length ≤ 16777216) (k : Q (.str (Txt.join a ys)) H) : rJoin K (.str a) [.ref p] H Q := ⟨a, p, ys, rfl, rfl, .inl h, hz, k⟩
end
end M

set_option Elab.async false
set_option linter.all false
set_option maxRecDepth 100000
set_option maxHeartbeats 2000000
/-! repr of data at any depth; a def that is run where no repr is under way -/
namespace ReR
open PySem PySem.Spec PyProof.Rows L2
def SysIs (base : Heap) : Prop := ∃ mm, base.Ns sysModules mm
def kD : Key → PyData
  | .inl i => .int i
  | .inr x => .str x
mutual
/-- the data that stands at a value -/
inductive DpD (H : Hp) : V → PyData → Prop
  | non : DpD H .non .none
  | bl (b : Bool) : DpD H (.bl b) (.bool b)
  | int (i : Int) : DpD H (.int i) (.int i)
  | str (x : Str) : DpD H (.str x) (.str x)
  | lst {a : Addr} {xs : List V} {ds : List PyData} : H a = some (.lst xs) → DpDs H xs ds → DpD H (.ref a) (.list ds)
  | tup {a : Addr} {xs : List V} {ds : List PyData} : H a = some (.tup xs) → DpDs H xs ds → DpD H (.ref a) (.tuple ds)
  | dic {a : Addr} {kvs : List (Key × V)} {ds : List (PyData × PyData)} : Rd H a (.dK kvs) → DpDk H kvs ds → DpD H (.ref a) (.dict ds)
inductive DpDs (H : Hp) : List V → List PyData → Prop
  | nil : DpDs H [] []
  | cons {v : V} {vs : List V} {d : PyData} {ds : List PyData} : DpD H v d → DpDs H vs ds → DpDs H (v :: vs) (d :: ds)
inductive DpDk (H : Hp) : List (Key × V) → List (PyData × PyData) → Prop
  | nil : DpDk H [] []
  | cons {k : Key} {v : V} {r : List (Key × V)} {d : PyData} {ds : List (PyData × PyData)} : DpD H v d → DpDk H r ds → DpDk H ((k, v) :: r) ((kD k, d) :: ds)
end
section
variable {A B : Hp}
mutual
theorem DpD.mono (e : ∀ b o, A b = some o → B b = some o) : ∀ {v : V} {d : PyData}, DpD A v d → DpD B v d
  | _, _, .non => .non
  | _, _, .bl b => .bl b
  | _, _, .int i => .int i
  | _, _, .str x => .str x
  | _, _, .lst h r => .lst (e _ _ h) (r.mono e)
  | _, _, .tup h r => .tup (e _ _ h) (r.mono e)
  | _, _, .dic h r => .dic (h.elim (fun h => .inl (e _ _ h)) fun ⟨o, h⟩ => .inr ⟨o, e _ _ h⟩) (r.mono e)
theorem DpDs.mono (e : ∀ b o, A b = some o → B b = some o) : ∀ {v : List V} {d : List PyData}, DpDs A v d → DpDs B v d
  | _, _, .nil => .nil
  | _, _, .cons h r => .cons (h.mono e) (r.mono e)
theorem DpDk.mono (e : ∀ b o, A b = some o → B b = some o) : ∀ {v : List (Key × V)} {d : List (PyData × PyData)}, DpDk A v d → DpDk B v d
  | _, _, .nil => .nil
  | _, _, .cons h r => .cons (h.mono e) (r.mono e)
end
end
theorem readsAll_key {h : Heap} {k : Key} {u : Value} (e : keyIs k u = true) : Reads h u (kD k) [] := by
  rcases keyIs_shape e with ⟨i, t, rfl, rfl⟩ | ⟨x, t, rfl, rfl⟩
  · exact Reads.int i t
  · exact Reads.str x t
section
variable {X : Cx} {pins : List (Addr × Obj)} {σ : L2.St} {H : Hp} {s : Shared}
theorem no_sys (hb : SysIs X.base) (I : Inv X pins σ H s) {a : Addr} (h : H a ≠ none) : a ≠ sysModules := by
  obtain ⟨mm, o, es, ep, e, _⟩ := hb
  intro z
  rw [z] at h
  exact h (I.bs _ _ e).2
mutual
theorem DpD.reads (hb : SysIs X.base) (I : Inv X pins σ H s) : ∀ {v : V} {d : PyData} {u : Value}, DpD H v d → RelV v u → ∃ as, Reads s.heap u d as ∧ sysModules ∉ as
  | _, _, u, .non, r => by
    cases (show u = Value.none from r)
    exact ⟨_, .none, List.not_mem_nil⟩
  | _, _, u, .bl b, r => by
    cases (show u = Value.bool b from r)
    exact ⟨_, .bool b, List.not_mem_nil⟩
  | _, _, u, .int i, r => by
    obtain ⟨t, rfl⟩ := (show ∃ t, u = Value.int i t from r)
    exact ⟨_, .int i t, List.not_mem_nil⟩
  | _, _, u, .str x, r => by
    obtain ⟨t, rfl⟩ := (show ∃ t, u = Value.str x t from r)
    exact ⟨_, .str x t, List.not_mem_nil⟩
  | _, _, u, .lst (a := a) (xs := xs) e h, r => by
    cases (show u = Value.ref a from r)
    obtain ⟨z, its, n, rv, g⟩ : xs.length ≤ sizeLine ∧ ∃ (its : List Value) (n : Nat), Vals xs its ∧ s.heap.get? a = some { cls := .type "list", data := .seq its.toArray n } := I.hok _ _ e
    obtain ⟨as, q, ns⟩ := h.reads hb I rv
    have na := no_sys hb I (a := a) (by rw [e]; exact fun z => nomatch z)
    exact ⟨_, .list g rfl rfl (by simpa using q), fun m => (List.mem_cons.mp m).elim (fun z => na z.symm) ns⟩
  | _, _, u, .tup (a := a) (xs := xs) e h, r => by
    cases (show u = Value.ref a from r)
    obtain ⟨z, its, rv, o, g, hc, n, hd⟩ : xs.length ≤ sizeLine ∧ ∃ its : List Value, Vals xs its ∧ IsTup s.heap a its.toArray := I.hok _ _ e
    obtain ⟨as, q, ns⟩ := h.reads hb I rv
    exact ⟨_, .tuple g hc hd (by simpa using q), ns⟩
  | _, _, u, .dic (a := a) (kvs := kvs) e h, r => by
    cases (show u = Value.ref a from r)
    obtain ⟨z, hS, vs, rel, o, es, ep, g, hx, hd, hk, pr, nd⟩ := dk_rd I.hok e
    obtain ⟨as, bs, q1, q2, n1, n2⟩ := h.reads hb I rel pr
    exact ⟨_, .dict g hx.1 hd q1 q2, fun m => (List.mem_append.mp m).elim (fun m => (List.mem_cons.mp m).elim (fun z => (beq_eq_false_iff_ne.mp hS) z.symm) n1) n2⟩
theorem DpDs.reads (hb : SysIs X.base) (I : Inv X pins σ H s) : ∀ {v : List V} {d : List PyData} {u : List Value}, DpDs H v d → Vals v u → ∃ as, ReadsAll s.heap u d as ∧ sysModules ∉ as
  | _, _, _, .nil, r => by
    cases r
    exact ⟨_, .nil, List.not_mem_nil⟩
  | _, _, _, .cons h hs, r => by
    cases r with
    | cons r1 r2 =>
      obtain ⟨as, q1, n1⟩ := h.reads hb I r1
      obtain ⟨bs, q2, n2⟩ := hs.reads hb I r2
      exact ⟨_, .cons q1 q2, fun m => (List.mem_append.mp m).elim n1 n2⟩
theorem DpDk.reads (hb : SysIs X.base) (I : Inv X pins σ H s) : ∀ {v : List (Key × V)} {d : List (PyData × PyData)} {vs : List (Key × Value)} {es : List DictEntry}, DpDk H v d → KV v vs → Pairs (mixKind X.prog X.w) es vs →
    ∃ as bs, ReadsAll s.heap (es.map (·.key)) (d.map (·.1)) as ∧ ReadsAll s.heap (es.map (·.val)) (d.map (·.2)) bs ∧ sysModules ∉ as ∧ sysModules ∉ bs
  | _, _, _, _, .nil, r, p => by
    cases r
    cases p
    exact ⟨_, _, .nil, .nil, List.not_mem_nil, List.not_mem_nil⟩
  | _, _, _, _, .cons h hs, r, p => by
    cases r with
    | cons r1 r2 =>
      cases p with
      | cons p1 p2 p3 =>
        obtain ⟨k1, rv⟩ := r1
        obtain ⟨as, q1, n1⟩ := h.reads hb I rv
        obtain ⟨bs, cs, q2, q3, n2, n3⟩ := hs.reads hb I r2 p3
        rw [← p2] at q1
        rw [← k1] at p1
        exact ⟨_, _, .cons (readsAll_key p1) q2, .cons q1 q3, fun m => n2 (by simpa using m), fun m => (List.mem_append.mp m).elim n1 n3⟩
end
end
/-- data whose text is short -/
def okD (d : PyData) : Prop := d.showable = true ∧ d.depth ≤ 60 ∧ d.leavesShort 40 = true ∧ d.bulk ≤ 100000
theorem okD.len {d : PyData} (h : okD d) : d.shown.length ≤ sizeLine := by
  have q := PyData.shown_le_bulk 40 (by decide) d h.2.2.1
  have b := h.2.2.2
  have e := sizeLine_eq
  rw [e]
  omega
def rRepr : List V → Hp → VK → Prop := fun xs H Q => ∃ v d, xs = [v] ∧ DpD H v d ∧ okD d ∧ Q (.str d.shown) H
theorem cr_repr {X : Cx} (hg : X.A.guards = some []) (hu : X.A.units + 64 < cLine) (hb : SysIs X.base) : CallR X (.builtin "repr") rRepr := by
  intro pins s σ H xs us Q I r h
  obtain ⟨v, d, rfl, hd, ok, q⟩ := h
  obtain ⟨u, rfl, ru⟩ := vals1 r
  obtain ⟨as, rd, ns⟩ := hd.reads hb I ru
  have hl := ok.len
  cases rd with
  | none => exact PySem.P.repr_of_none ⟨.str _, H, I.tok _, ⟨_, rfl⟩, q⟩
  | bool b => exact PySem.P.repr_of_bool ⟨.str _, H, I.tok _, ⟨_, rfl⟩, q⟩
  | int i t => exact PySem.P.repr_of_int (by simpa [PyData.showable] using ok.1) ⟨.str _, H, I.tok _, ⟨_, rfl⟩, q⟩
  | str x t => exact PySem.P.repr_of_str ⟨.str _, H, I.tok _, ⟨_, rfl⟩, q⟩ (by simpa only [PyData.shown] using hl)
  | list h1 h2 h3 h4 => exact repr_of_reads' (.list h1 h2 h3 h4) ok.1 (fun _ => ns) hg (by have := ok.2.1; omega) (fun _ _ e => e) (fun h' u tk hk => ⟨.str _, H, I.kept hk, ⟨_, rfl⟩, q⟩) hl
  | tuple h1 h2 h3 h4 => exact repr_of_reads' (.tuple h1 h2 h3 h4) ok.1 (fun _ => ns) hg (by have := ok.2.1; omega) (fun _ _ e => e) (fun h' u tk hk => ⟨.str _, H, I.kept hk, ⟨_, rfl⟩, q⟩) hl
  | dict h1 h2 h3 h4 h5 => exact repr_of_reads' (.dict h1 h2 h3 h4 h5) ok.1 (fun _ => ns) hg (by have := ok.2.1; omega) (fun _ _ e => e) (fun h' u tk hk => ⟨.str _, H, I.kept hk, ⟨_, rfl⟩, q⟩) hl

/-! ### a def that is run where no repr is under way -/
structure FnG (P : Program) (w : World) (K : PySem.W.Frag) (mg : Str → Option Value) (base : Heap) (CX : CXT) (k : Nat) (f : Addr) (fd : FuncData) (ps : List Str) (sp : Sp) : Prop where
  len : ∀ vs H Q E, sp vs H Q E → vs.length = ps.length
  run : ∀ (A : Around) (outer : List Env) (s : Shared) (H : Hp) (args : Args) (us : List Value) (vs : List V) (Q : VK) (E : XK), Room k A → A.guards = some [] → Env0 P w K mg base A outer s H → BindsTo s fd args (ps.zip us) → Vals vs us → sp vs H Q E →
    codeAny (model P w) A (.call (.ref f) args) (CR CX outer P w H s Q E) s
section
variable {P : Program} {w : World} {K : PySem.W.Frag} {mg : Str → Option Value} {base : Heap}
theorem _root_.L2.Fun.okG {x qual : Str} {st : Stmt} {f : Addr} {fd : FuncData} {N ps : List Str} {k : Nat} {sp : Sp} (F : Fun K x qual st f fd) (S : FnScope N ps (defScope st)) (len : ∀ vs H Q E, sp vs H Q E → vs.length = ps.length)
    (hbody : ∀ (cdv : Value) (A : Around) (outer : List Env) (s : Shared) (H : Hp) (vs : List V) (Q : VK) (E : XK), Room k (A.deeper (envOfC qual (defScope st) s.heap.objs.size f cdv)) → (A.deeper (envOfC qual (defScope st) s.heap.objs.size f cdv)).guards = some [] → sp vs H Q E →
      ∃ t, PSs (cxOf CX0 P w K mg base N qual (defScope st) f cdv A outer s H E).nox (defBody st) t ∧ t { nx := fun _ H' => Q .non H', rt := Q } (start N vs) H) : FnG P w K mg base CX0 (k + 1) f fd ps sp := by
  obtain ⟨oc, od, kV, doc, pm, an, cdv, ct, osl, rfl, lk, hcd⟩ := F.ex
  refine ⟨len, fun A outer s H args us vs Q E hr hg e0 hb r hsp => ?_⟩
  have kept := fun b o e => (e0.bs b o e).1
  have KX : K.In s.heap := e0.mod.kin.keeps kept
  have free : s.heap.NoLimit := e0.mod.nolimit.keeps kept
  have there : ∀ y ∈ ps.zip us, (defScope st).names.lookup y.1 = some .local ∨ ((defScope st).names.lookup y.1 = some .cell ∧ ((cellsFrom (s.heap.objs.size + 1) (defScope st).names []).lookup y.1).isSome = true) := by
    intro y hy
    rcases S.par y.1 (List.of_mem_zip (a := y.1) (b := y.2) hy).1 with q | q
    · exact .inl q
    · exact .inr ⟨q, PySem.W.cellsFrom_some _ _ _ (.inl q)⟩
  refine codeAny_call_function hr.depth (KX _ _ lk) rfl S.co S.gen rfl (PySem.W.codeRec_of KX hcd) (hb _ _ _ _ ?_)
  refine wpAny_newFunctionEnv_cells S.kind there fun env he s1 x => ?_
  subst he
  refine ⟨free.keeps x.toInCall.keep, codeAny_func ?_⟩
  obtain ⟨t, ht, hq⟩ := hbody cdv A outer s H vs Q E (hr.deeper _) hg hsp
  refine wpAny_mono (ht.nox.run [] s1 (start N vs) H _ (inv_start S hr.hd e0 (len _ _ _ _ hsp) r x) hq) (fun fl s' hs => ?_) fun e s' hs => hs
  cases fl with
  | ret u =>
    obtain ⟨v, σ', H', J, rv, q⟩ := hs
    exact ⟨v, H', J.os, J.bare, J.base, J.hok, rv, q⟩
  | next =>
    obtain ⟨σ', H', J, q⟩ := hs
    exact ⟨V.non, H', J.os, J.bare, J.base, J.hok, rfl, q⟩
  | brk => exact False.elim hs.choose_spec.choose_spec.2
  | cont => exact False.elim hs.choose_spec.choose_spec.2
end
/-- the head: the law's promise at the state behind the top -/
theorem law_callG {P : Program} {w : World} {K : PySem.W.Frag} {mg mb : Str → Option Value} {CX : CXT} {k : Nat} {fa a : Addr} {fd : FuncData} {x : Str} {sp : Sp} {s₁ : Shared} {vs : List Value} {ns : List Int}
    (KX : K.In s₁.heap) (hns : s₁.heap.Ns mainGlobals mg) (hb : s₁.heap.Ns builtinsNs mb) (hbb : ∀ x : Str, x ≠ "__name__" → mb x = bootBuiltins x) (hlim : s₁.heap.NoLimit) (hsy : SysIs s₁.heap) (hg : s₁.gens = #[])
    (ha : s₁.heap.get? a = some { cls := .type "list", data := .seq vs.toArray }) (hi : IntsAre vs ns) (hl : ns.length ≤ sizeLine) (hr : Room k callerA)
    (F : ∀ base : Heap, K.In base → base.Ns mainGlobals mg → SysIs base → FnG P w K mg base CX k fa fd [x] sp) (hbind : ∀ (s : Shared) (u : Value), BindsTo s fd ⟨[u], []⟩ [(x, u)])
    (hsp : ∀ H : Hp, Only H → SqL K H a (ns.map V.int) → sp [.ref a] H (fun v _ => v = .bl true) fun _ _ _ => False)
    (hCX : ∀ H e s', CX [] H s₁ (fun _ _ _ => False) e s' → False) :
    codeAny (model P w) callerA (.call (.ref fa) ⟨[.ref a], []⟩) (fun r s' => r = .ok (.ret (.bool true)) ∧ OldK s₁.heap s'.heap ∧ s'.os = s₁.os ∧ AllBare s'.gens) s₁ := by
  have rv := vals_ints hi
  have lv := hi.length
  -- the start's abstract heap: the script alone, as it lies; nothing where it is an object of the module
  have pick : ∃ H : Hp, Only H ∧ SqL K H a (ns.map V.int) ∧ HOk P w H s₁.heap ∧ (∀ b, H b ≠ none → b = a) ∧ (H a ≠ none → K.lookup a = none) := by
    cases hk : K.lookup a with
    | some o =>
      have e := KX a o hk
      rw [ha] at e
      cases e
      exact ⟨fun _ => none, fun _ => .inl rfl, .inr ⟨_, vs.toArray, _, hk, rfl, rfl, rfl, by rw [List.size_toArray, lv]; exact hl, by simpa using rv⟩, (fun b u z => nomatch (show (none : Option HO) = some u from z)), fun b z => absurd rfl z, fun z => absurd rfl z⟩
    | none =>
      refine ⟨fun b => if b = a then some (.frz { cls := .type "list", data := .seq vs.toArray } (.lst (ns.map V.int))) else none, fun b => ?_, .inl (.inr ⟨_, if_pos rfl⟩), fun b u z => ?_, fun b z => ?_, fun _ => rfl⟩
      · by_cases c : b = a
        · exact .inr ⟨_, _, if_pos c⟩
        · exact .inl (if_neg c)
      · by_cases c : b = a
        · cases (if_pos c).symm.trans z
          rw [c]
          exact ⟨ha, by rw [List.length_map]; exact hl, vs, _, rv, ha⟩
        · cases (if_neg c).symm.trans z
      · exact Decidable.byContradiction fun c => z (if_neg c)
  obtain ⟨H, hO, hS, hok, one, notK⟩ := pick
  have clear : ∀ {b : Addr} {o : Obj}, s₁.heap.get? b = some o → b ≠ a → H b = none := fun {b o} _ n => Decidable.byContradiction fun z => n (one b z)
  have ns_ne : ∀ {b : Addr} {m : Str → Option Value}, s₁.heap.Ns b m → b ≠ a := fun {b m} ⟨o, es, ep, e, d, _⟩ z => by
    rw [z, ha] at e
    cases e
    cases (show Data.seq vs.toArray _ = Data.dict es ep from d)
  have nsK : ∀ {b : Addr} {m : Str → Option Value}, s₁.heap.Ns b m → (hidT s₁.heap H).Ns b m := fun {b m} n => by
    have ne := ns_ne n
    obtain ⟨o, es, ep, e, r⟩ := n
    exact ⟨o, es, ep, hidT_get e (clear e ne), r⟩
  have hKb : K.In (hidT s₁.heap H) := fun b o e => hidT_get (KX b o e) (Decidable.byContradiction fun z => by
    have := one b z
    subst this
    rw [notK z] at e
    cases e)
  obtain ⟨mc, c1, c2⟩ := hlim
  obtain ⟨mm, m1⟩ := hsy
  have hM : Mod K mg (hidT s₁.heap H) := ⟨hKb, nsK hns, ⟨mb, nsK hb, hbb⟩, mc, nsK c1, c2⟩
  have e0 : Env0 P w K mg (hidT s₁.heap H) callerA [] s₁ H := ⟨rfl, hM, fun b o e => of_hidT e, Nat.le_of_eq (hidT_size _ _), trivial, (fun b z => nomatch (show b ∈ ([] : List Addr) from z)), hok, .of_eq hg⟩
  refine codeAny_mono ((F _ hKb (nsK hns) ⟨mm, nsK m1⟩).run callerA [] s₁ H ⟨[.ref a], []⟩ [.ref a] [.ref a] _ _ hr rfl e0 (hbind s₁ (.ref a)) (.cons rfl .nil) (hsp H hO hS)) fun r s' h => ?_
  cases r with
  | error e => exact (hCX H e s' h).elim
  | ok fl =>
    cases fl with
    | next => exact False.elim h
    | brk => exact False.elim h
    | cont => exact False.elim h
    | ret u =>
      obtain ⟨v, H', os, bare, un, hok', r', q⟩ := h
      subst q
      obtain rfl : u = Value.bool true := r'
      refine ⟨rfl, OldK.of_keep fun b o e => ?_, os, bare⟩
      by_cases n : H b = none
      · exact un.keep b o e n (fun z => nomatch (show b ∈ ([] : List Addr) from z)) (by simp)
      · rcases hO b with z | ⟨ob, xs, z⟩
        · exact absurd z n
        · obtain ⟨e1, _⟩ := hok b _ z
          obtain ⟨e2, _⟩ := hok' b _ (un.frzs b ob _ z)
          rw [e] at e1
          cases e1
          exact e2
theorem walk_ofG {l : PySem.W.OpenLaw} {n k : Nat} {q : Program} {loose : List Str} {XP : (Str → Option Value) → Heap → Prop} {YP : World → Heap → Prop} {d : DefRec} {K : Params → PySem.W.Frag} {CX : World → CXT} {sp : World → Sp} {x : Str}
    (hn : l.most = some n) (hn2 : n ≤ sizeLine) (hdf : d.params.defaults = []) (hr : Room k callerA) (him : importsNone q = true)
    (hY : ∀ (w : World) (h : Heap), YP w h → (K w.params).In h)
    (F : ∀ (w : World) (mg : Str → Option Value) (fa : Addr) (h : Heap), (K w.params).In h → h.Ns mainGlobals mg → mg d.name = some (.ref fa) →
      ∃ fd : FuncData, (∀ (s : Shared) (u : Value), BindsTo s fd ⟨[u], []⟩ [(x, u)]) ∧
        ∀ base : Heap, (K w.params).In base → base.Ns mainGlobals mg → SysIs base → FnG l.prog w (K w.params) mg base (CX w) k fa fd [x] (sp w))
    (hsp : ∀ (w : World) (H : Hp) (a : Addr) (ns : List Int), ns.length ≤ n → Only H → SqL (K w.params) H a (ns.map V.int) → sp w [.ref a] H (fun v _ => v = .bl true) fun _ _ _ => False)
    (hCX : ∀ (w : World) (H : Hp) (s : Shared) (e : Value) (s' : Shared), CX w [] H s (fun _ _ _ => False) e s' → False) :
    PySem.W.WalkO q loose XP YP l.row.toRowW d [] (fun f vs => PySem.call f vs) := by
  refine Att.attach_call hn hdf fun w s₀ s₁ mg mb fa o pm cd doc a vs ns G Y ho hd hcd hmg hobj hints hlen hg => ?_
  obtain ⟨fd, hb, hF⟩ := F w mg fa _ (hY w _ Y) G.T.g hmg
  obtain ⟨mm, m1, _⟩ := (G.T.seer him).mods
  exact law_callG (hY w _ Y) G.T.g G.T.b G.T.builtins G.T.nolimit ⟨mm, m1⟩ hg hobj hints (Nat.le_trans hlen hn2) hr hF hb (fun H hO hS => hsp w H a ns hlen hO hS) fun H e s' => hCX w H s₁ e s'
end ReR

set_option Elab.async false
set_option linter.all false
set_option maxRecDepth 100000
set_option maxHeartbeats 2000000
/-! a tuple whose first item is a text, compared with a tuple of one text -/
namespace L2
open PySem PySem.Spec PyProof.Rows
def rEqH (K : PySem.W.Frag) : R2 := fun x y H Q => ∃ a b s t xs, x = .ref a ∧ y = .ref b ∧ SqT K H a (.str s :: xs) ∧ SqT K H b [.str t] ∧ Q (.bl (decide (s = t) && xs.isEmpty)) H
theorem op_eqH {X : Cx} (hu : X.A.units < cLine) : OpR X (compareOp .Eq) (rEqH X.K) := by
  intro pins s σ H x y v u Q I rx ry h
  obtain ⟨a, b, s0, t0, xs, rfl, rfl, h1, h2, q⟩ := h
  cases (show v = Value.ref a from rx)
  cases (show u = Value.ref b from ry)
  obtain ⟨us, r1, ⟨o1, e1, c1, n1, d1⟩, _⟩ := I.tuple h1
  obtain ⟨ws, r2, ⟨o2, e2, c2, n2, d2⟩, _⟩ := I.tuple h2
  cases r1 with
  | @cons _ u0 _ ur ru rr =>
    cases r2 with
    | @cons _ w0 _ wr rw0 rrw =>
      cases rrw
      obtain ⟨tu, rfl⟩ := (show ∃ t, u0 = Value.str s0 t from ru)
      obtain ⟨tw, rfl⟩ := (show ∃ t, w0 = Value.str t0 t from rw0)
      have lx : xs.length = ur.length := rr.length
      refine SeqAt.RcAt.tuples ⟨o1, e1, c1, n1, d1⟩ ⟨o2, e2, c2, n2, d2⟩ hu (e := fun _ => s0 == t0) (fun j g1 g2 => ?_) X.prog X.w _ _ ?_
      · have g2 : j < 1 := by simpa using g2
        obtain rfl : j = 0 := by omega
        exact SeqAt.EqAt.str_str s0 tu t0 tw
      · have e9 : ((List.range (min (Value.str s0 tu :: ur).toArray.size (#[Value.str t0 tw] : Array Value).size)).all (fun _ => s0 == t0) && (Value.str s0 tu :: ur).toArray.size == (#[Value.str t0 tw] : Array Value).size) = (decide (s0 = t0) && xs.isEmpty) := by
          have m1 : min (Value.str s0 tu :: ur).toArray.size (#[Value.str t0 tw] : Array Value).size = 1 := by
            rw [List.size_toArray, List.length_cons]
            show min (ur.length + 1) 1 = 1
            omega
          rw [m1, List.size_toArray, List.length_cons, ← lx]
          cases xs with
          | nil => by_cases h : s0 = t0 <;> simp [h]
          | cons z zs => simp
        first
          | (rw [e9]; exact ⟨.bl _, H, I, rfl, q⟩)
          | (have e8 := e9; simp only [List.size_toArray] at e8 ⊢; rw [e8]; exact ⟨.bl _, H, I, rfl, q⟩)
end L2
namespace M
open PySem PySem.Spec PyProof.Rows L2
theorem w_eqH {X : Cx} {K : PySem.W.Frag} (h : X.K = K) (hu : X.A.units < cLine) : OpR X (compareOp .Eq) (rEqH K) := by subst h; exact op_eqH hu
end M

set_option Elab.async false
set_option linter.all false
set_option maxRecDepth 100000
set_option maxHeartbeats 4000000
/-! dict comprehensions for any kind of new dict: what the new dict is (`o0`) and what a turn's store does (`Put`) are told by the user; one such kind: keys None, ints or texts, told by the number of entries alone -/
namespace L2
open PySem PySem.Spec PyProof.Rows
/-- a kind of new dict: how it begins, what a store may do -/
structure DictKind (X : Cx) where
  o0 : Addr → HO
  Put : Addr → V → V → Hp → Hp → Prop
  new : ∀ {H : Hp} (h : Heap), sysModules < h.objs.size → ObjOk X.prog X.w H (h.push { cls := .type "dict", data := .dict #[] }) h.objs.size (o0 h.objs.size)
  set : ∀ {Y : Cx} {pn : List (Addr × Obj)} {σ : St} {H H' : Hp} {s : Shared} {E : Value → Shared → Prop} {D : Addr} {y z : V} {u r : Value} {Q : Unit → Shared → Prop}, Y.prog = X.prog → Y.w = X.w → Inv Y pn σ H s → Put D y z H H' → RelV y u → RelV z r →
    (∀ s', Inv Y pn σ H' s' → Q () s') → wpAny (model Y.prog Y.w) Y.A (dictSet D u r) Q E s
section
variable {X : Cx}
/-- one more turn, or the end -/
def TurnG (C : DictKind X) (g : TG) (tt : TT) (tk tv : TE) (vs : List Nat) (σ : St) (D : Addr) (J : It) (Q : VK) (W : Nat → Nat → Hp → Prop) : Prop := ∀ i m H, W i m H →
  (J.stop i H ∧ Q (.ref D) H) ∨ (J.go i H ∧ ∃ Nx : Hp → Prop, (∀ H', Nx H' → ∃ m', m' < m ∧ W (i + 1) m' H') ∧ ∀ x H', J.yld i H x H' → g x (wipe σ vs) H' fun σ2 H2 => wipe σ2 vs = wipe σ vs ∧ tt σ2 H2 fun b H3 =>
    if b = true then tk σ2 H3 fun y H4 => tv σ2 H4 fun z H5 => ∃ H6, C.Put D y z H5 H6 ∧ Nx H6 else Nx H3)
def tDcG (C : DictKind X) (wi : TI) (g : TG) (tt : TT) (tk tv : TE) (vs : List Nat) : TE := fun σ H Q => wi σ H fun J H1 => ∀ D, H1 D = none → ∃ W : Nat → Nat → Hp → Prop, (∃ m, W 0 m (upd H1 D (C.o0 D))) ∧ TurnG C g tt tk tv vs σ D J Q W
/-- the turns, in the comprehension's block -/
theorem dcG_loop (C : DictKind X) (calmly : X.calm = true) {sb : Shared} {Hb : Hp} {sco : Scope} {ce : Env} {own : List Addr} {it D : Addr} {tn : Nat → Heap → Prop} {J : It} {tg itx kx vx : Expr} {ifs : List Expr} {po : Pos} {σ : St} {vs : List Nat} {Q : VK} {W : Nat → Nat → Hp → Prop} {g : TG} {tt : TT} {tk tv : TE} {R : Result → Shared → Prop}
    (T : Turn X.prog X.w X.K tg J own it tn) (turn : TurnG C g tt tk tv vs σ D J Q W) (pg : PG (X.blk sb Hb sco ce own) tg g) (pt : PTs (X.blk sb Hb sco ce own) ifs tt) (pk : PE (X.blk sb Hb sco ce own) kx tk) (pv : PE (X.blk sb Hb sco ce own) vx tv)
    (fin : ∀ s H, Inv (X.blk sb Hb sco ce own) [] (wipe σ vs) H s → Q (.ref D) H → R (.ok .next) s) {m0 : Nat} {s0 : Shared} (I0 : Inv (X.blk sb Hb sco ce own) [] (wipe σ vs) Hb s0) (t0 : tn 0 s0.heap) (f0 : ∀ b ∈ own, Hb b = none) (w0 : W 0 m0 Hb) :
    codeAny (model X.prog X.w) X.A (.compLoop (.DictComp kx vx [⟨tg, itx, ifs, 0⟩] sco po) 0 (.ref it) (.ref D) ce) R s0 := by
  have own_ok : ∀ {σ' : St} {A : Hp} {s : Shared}, Inv (X.blk sb Hb sco ce own) [] σ' A s → (∀ b ∈ own, A b = none) → ∀ b ∈ own, FpOk (X.blk sb Hb sco ce own) [] A b := fun I n b hb =>
    ⟨n b hb, (I.ok.exf b hb).1, I.ok.exfs b hb, .inl hb, fun x c e => (I.ok.exf b hb).2 x c e, fun p hp => absurd (show p ∈ ([] : List (Addr × Obj)) ++ [] from hp) (by simp)⟩
  refine compLoop_anyD (fun n s => ∃ i A, Inv (X.blk sb Hb sco ce own) [] (wipe σ vs) A s ∧ tn i s.heap ∧ (∀ b ∈ own, A b = none) ∧ W i n A) ?_ m0 ⟨0, Hb, I0, t0, f0, w0⟩
  rintro n s1 ⟨i, A, I1, t1, n1, w1⟩
  cases turn i n A w1 with
  | inl e =>
    refine thnF (T.done (X.blk sb Hb sco ce own) rfl rfl rfl calmly i [] s1 _ A (fun _ _ => False) I1 (own_ok I1 n1) t1 e.1) fun r s2 z => ?_
    cases z.1
    exact fin s2 A z.2 e.2
  | inr e =>
    obtain ⟨go, Nx, hNx, step⟩ := e
    refine thnF (T.item (X.blk sb Hb sco ce own) rfl rfl rfl calmly i [] s1 _ A (fun _ _ => False) I1 (own_ok I1 n1) t1 go) fun r s2 ⟨u, er, z2⟩ => ?_
    cases er
    refine thnF z2 fun _ s3 ⟨x, B, I3, rx, yx, t3, n3⟩ => ?_
    refine thnF (pg.run _ s3 _ B x u _ (I3.pinned (own_ok I3 n3) (T.obj _ _ t3)) rx (step x B yx)) fun _ s4 ⟨σ4, B4, I4, hw, q4⟩ => ?_
    refine thnF (pt.run _ s4 σ4 B4 _ I4 q4) fun b s5 ⟨B5, I5, q5⟩ => ?_
    -- the turn's end
    have done : ∀ {s : Shared} {A' : Hp}, Inv (X.blk sb Hb sco ce own) ([] ++ pinsAt own s3.heap) σ4 A' s → Nx A' → ∃ m, m < n ∧ ∃ i A, Inv (X.blk sb Hb sco ce own) [] (wipe σ vs) A s ∧ tn i s.heap ∧ (∀ b ∈ own, A b = none) ∧ W i m A := fun {s A'} I nx => by
      obtain ⟨m, lt, w'⟩ := hNx A' nx
      have kept : ∀ b ∈ own, ∀ o, s3.heap.get? b = some o → s.heap.get? b = some o ∧ A' b = none := fun b hb o e =>
        have z := I.pin (b, o) (List.mem_append_right _ (List.mem_append_right _ (mem_pinsAt hb e)))
        ⟨z.1, z.2.1⟩
      refine ⟨m, lt, i + 1, A', (I.unpinned (pins := [])).weak (by rw [← hw, wipe_length]) (fun j v e => ?_), T.keep _ _ _ t3 fun b hb o e => (kept b hb o e).1, fun b hb => ?_, w'⟩
      · rw [← hw] at e
        exact (wipe_some e).1
      · obtain ⟨o, e, _⟩ := T.obj _ _ t3 b hb
        exact (kept b hb o e).2
    cases b with
    | false =>
      rw [if_neg Bool.false_ne_true] at q5 ⊢
      exact done I5 q5
    | true =>
      rw [if_pos rfl] at q5 ⊢
      refine thnF (pk.run _ s5 σ4 B5 _ I5 q5) fun ku s6 ⟨y, B6, I6, ry, q6⟩ => ?_
      refine thnF (pv.run _ s6 σ4 B6 _ I6 q6) fun vu s7 ⟨z, B7, I7, rz, B8, put, nx⟩ => ?_
      exact C.set (Y := X.blk sb Hb sco ce own) rfl rfl I7 put ry rz fun s8 I8 => done I8 nx
theorem dcG_core (C : DictKind X) {pins : List (Addr × Obj)} {s : Shared} {σ : St} {H : Hp} {Q : VK} {kx vx tg itx : Expr} {ifs : List Expr} {sco : Scope} {own : List (Str × Nat)} {po pn : Pos} {wi : TI} {g : TG} {tt : TT} {tk tv : TE} {use : Option (Value → Sem Unit)} {Qf : Value → Shared → Prop}
    (calmly : X.calm = true) (hN : X.N.Nodup) (I : Inv X pins σ H s) (hi : PI X tg itx wi) (ok : BlkOk X.N X.env.scope sco own)
    (hg : ∀ (s : Shared) (H : Hp) (c : Addr) (cl : List (Str × Addr)) (fp : List Addr), PG (X.blk s H sco (compEnvC sco cl c X.env) fp) tg g) (ht : ∀ (s : Shared) (H : Hp) (c : Addr) (cl : List (Str × Addr)) (fp : List Addr), PTs (X.blk s H sco (compEnvC sco cl c X.env) fp) ifs tt)
    (hk : ∀ (s : Shared) (H : Hp) (c : Addr) (cl : List (Str × Addr)) (fp : List Addr), PE (X.blk s H sco (compEnvC sco cl c X.env) fp) kx tk) (hv : ∀ (s : Shared) (H : Hp) (c : Addr) (cl : List (Str × Addr)) (fp : List Addr), PE (X.blk s H sco (compEnvC sco cl c X.env) fp) vx tv)
    (hs : ∀ x, foldedSetIterable itx X.env x = pure x) (h : tDcG C wi g tt tk tv (own.map (·.2)) σ H Q)
    (out : ∀ D c s' m A, Inv X pins σ A s' → Q (.ref D) A → s'.heap.Ns c m → FpOk X pins A c → compPost (model X.prog X.w) X.A X.xe use Qf (.ref D) c (.ok .next) s') :
    wpAny (model X.prog X.w) X.A (comprehension (.DictComp kx vx [⟨tg, itx, ifs, 0⟩] sco po) sco X.env pn newDict false (eval itx X.env) use) Qf X.xe s := by
  have free : ∀ y ∈ sco.names, y.2 = .free → ∃ c, X.env.cells.lookup y.1 = some c := fun y hy e => (ok.free y hy e).elim (fun k => I.ok.has _ (.inl k)) fun k => I.ok.has _ (.inr k)
  refine wpAny_comprehension_free (use := use) rfl hs (closure_ok free) ok.kind (fun y hy e => by rw [ok.uniq y hy, e]) (thn (hi.run pins s σ H _ I h) fun xv s1 z1 => thn z1 fun _ s2 ⟨it, fp, tn, J, A, eit, I2, T, t2, f2, q⟩ => ?_)
  cases eit
  refine wpAny_newObj_type (newEnv_comp ?_)
  obtain ⟨W, ⟨m0, w0⟩, turn⟩ := q s2.heap.objs.size (I2.hok.fresh (Nat.le_refl _))
  -- the new dict
  have I3 : Inv X pins σ (upd A s2.heap.objs.size (C.o0 s2.heap.objs.size)) { s2 with heap := s2.heap.push { cls := .type "dict", data := .dict #[] } } :=
    I2.laid (t' := s2.toks) (fun b o e => Heap.get?_push_of_some _ e) (Nat.le_refl _) (C.new s2.heap I2.big)
  have lt : ∀ b ∈ fp, b < s2.heap.objs.size := fun b hb => (T.obj _ _ t2 b hb).elim fun o e => Heap.lt_size e.1
  have f3 : ∀ b ∈ fp, FpOk X pins (upd A s2.heap.objs.size (C.o0 s2.heap.objs.size)) b ∧ b < (s2.heap.push { cls := .type "dict", data := .dict #[] }).objs.size := fun b hb =>
    ⟨⟨by rw [upd_ne (Nat.ne_of_lt (lt b hb))]; exact (f2 b hb).1, (f2 b hb).2⟩, by rw [Heap.size_push]; exact Nat.lt_succ_of_lt (lt b hb)⟩
  have t3 : tn 0 (s2.heap.push { cls := .type "dict", data := .dict #[] }) := T.keep _ _ _ t2 fun b _ o e => Heap.get?_push_of_some _ e
  generalize s2.heap.objs.size = D at I3 turn w0 f3 ⊢
  generalize upd A D (C.o0 D) = B at I3 w0 f3
  generalize eh : s2.heap.push { cls := .type "dict", data := .dict #[] } = h3 at I3 f3 t3 ⊢
  generalize es : ({ s2 with heap := h3 } : Shared) = s3 at I3
  have hp : s3.heap = h3 := by rw [← es]
  have f4 : ∀ b ∈ fp, FpOk X pins B b ∧ b < s3.heap.objs.size := fun b hb => by rw [hp]; exact f3 b hb
  have t4 : tn 0 s3.heap := by rw [hp]; exact t3
  clear f3 t3 hp es eh
  have I4 := block_start I3 ok hN f4
  have pg := hg s3 B s3.heap.objs.size (cellsFrom (s3.heap.objs.size + 1) sco.names (cloFrom X.env.cells sco.names [])) fp
  have pt := ht s3 B s3.heap.objs.size (cellsFrom (s3.heap.objs.size + 1) sco.names (cloFrom X.env.cells sco.names [])) fp
  have pk := hk s3 B s3.heap.objs.size (cellsFrom (s3.heap.objs.size + 1) sco.names (cloFrom X.env.cells sco.names [])) fp
  have pv := hv s3 B s3.heap.objs.size (cellsFrom (s3.heap.objs.size + 1) sco.names (cloFrom X.env.cells sco.names [])) fp
  show codeAny _ _ (.compStart (.DictComp kx vx [⟨tg, itx, ifs, 0⟩] sco po) 0 (.ref it) (.ref D) (compEnvC sco (cellsFrom (s3.heap.objs.size + 1) sco.names (cloFrom X.env.cells sco.names [])) s3.heap.objs.size X.env)) (compPost (model X.prog X.w) X.A X.xe use Qf (.ref D) s3.heap.objs.size) { s3 with heap := pushCells (s3.heap.push { cls := .type "dict", data := .dict #[] }) sco.names }
  generalize ec : compEnvC sco (cellsFrom (s3.heap.objs.size + 1) sco.names (cloFrom X.env.cells sco.names [])) s3.heap.objs.size X.env = ce at I4 pg pt pk pv ⊢
  have loc : ce.locals = s3.heap.objs.size := by rw [← ec]; rfl
  clear ec
  generalize e4 : ({ s3 with heap := pushCells (s3.heap.push { cls := .type "dict", data := .dict #[] }) sco.names } : Shared) = s4 at I4 ⊢
  have t5 : tn 0 s4.heap := T.keep _ _ _ t4 fun b _ o e => by rw [← e4]; exact pushCells_keeps _ _ _ _ (Heap.get?_push_of_some _ e)
  have loop : codeAny (model X.prog X.w) X.A (.compLoop (.DictComp kx vx [⟨tg, itx, ifs, 0⟩] sco po) 0 (.ref it) (.ref D) ce) (compPost (model X.prog X.w) X.A X.xe use Qf (.ref D) s3.heap.objs.size) s4 := by
    refine dcG_loop C calmly T turn pg pt pk pv (fun s A I5 qa => ?_) I4 t5 (fun b hb => (f4 b hb).1.1) w0
    have nC : A s3.heap.objs.size = none := by
      have z : A ce.locals = none := I5.free
      rw [loc] at z
      exact z
    obtain ⟨m, hn, _⟩ := I5.loc
    have hn : s.heap.Ns ce.locals m := hn
    rw [loc] at hn
    exact out D _ s m A (I3.call' (ch := fp) I5.os I5.base I5.hok I5.bare fun b hb => ⟨(f4 b hb).1.2.2.2.1, (f4 b hb).1.2.1, (f4 b hb).1.2.2.2.2.1, (f4 b hb).1.2.2.2.2.2⟩) qa hn (I3.fpOk (Nat.le_refl _) nC)
  exact codeAny_compStart_dict loop (T.self X.A 0 _ _ _ t5 loop)
/-- as a value -/
theorem pe_dcG (C : DictKind X) {kx vx tg itx : Expr} {ifs : List Expr} {sco : Scope} {own : List (Str × Nat)} {po : Pos} {wi : TI} {g : TG} {tt : TT} {tk tv : TE} (calmly : X.calm = true) (hN : X.N.Nodup) (hi : PI X tg itx wi) (ok : BlkOk X.N X.env.scope sco own)
    (hg : ∀ (s : Shared) (H : Hp) (c : Addr) (cl : List (Str × Addr)) (fp : List Addr), PG (X.blk s H sco (compEnvC sco cl c X.env) fp) tg g) (ht : ∀ (s : Shared) (H : Hp) (c : Addr) (cl : List (Str × Addr)) (fp : List Addr), PTs (X.blk s H sco (compEnvC sco cl c X.env) fp) ifs tt)
    (hk : ∀ (s : Shared) (H : Hp) (c : Addr) (cl : List (Str × Addr)) (fp : List Addr), PE (X.blk s H sco (compEnvC sco cl c X.env) fp) kx tk) (hv : ∀ (s : Shared) (H : Hp) (c : Addr) (cl : List (Str × Addr)) (fp : List Addr), PE (X.blk s H sco (compEnvC sco cl c X.env) fp) vx tv)
    (hs : ∀ x, foldedSetIterable itx X.env x = pure x := by intro _; rfl) : PE X (.DictComp kx vx [⟨tg, itx, ifs, 0⟩] sco po) (tDcG C wi g tt tk tv (own.map (·.2))) := by
  refine ⟨fun pins s σ H Q I h => ?_⟩
  rw [arm_eval_DictComp]
  exact dcG_core C calmly hN I hi ok hg ht hk hv hs h fun D c s' m A I' q hn ⟨f0, f1, f2, f3, f4, f5⟩ => ⟨m, hn, fun h'' sb => ⟨.ref D, A, I'.turned (t' := s'.toks) (fun b o hb e => (sb.2 b hb).trans e) f0 f1 f3 f4 f5, rfl, q⟩⟩
/-- y = {k: v for ..}, y a local name -/
theorem ps_setDcG (C : DictKind X) {i : Nat} {y : Str} {py : Pos} {kx vx tg itx : Expr} {ifs : List Expr} {sco : Scope} {own : List (Str × Nat)} {po sp : Pos} {wi : TI} {g : TG} {tt : TT} {tk tv : TE} (calmly : X.calm = true) (hN : X.N.Nodup) (hy : X.N[i]? = some y) (hyl : X.env.scope.names.lookup y = some .local)
    (hsw : swapsWith (.DictComp kx vx [⟨tg, itx, ifs, 0⟩] sco po) (some (.Name y py)) sp.line X.env = pure true) (hi : PI X tg itx wi) (ok : BlkOk X.N X.env.scope sco own)
    (hg : ∀ (s : Shared) (H : Hp) (c : Addr) (cl : List (Str × Addr)) (fp : List Addr), PG (X.blk s H sco (compEnvC sco cl c X.env) fp) tg g) (ht : ∀ (s : Shared) (H : Hp) (c : Addr) (cl : List (Str × Addr)) (fp : List Addr), PTs (X.blk s H sco (compEnvC sco cl c X.env) fp) ifs tt)
    (hk : ∀ (s : Shared) (H : Hp) (c : Addr) (cl : List (Str × Addr)) (fp : List Addr), PE (X.blk s H sco (compEnvC sco cl c X.env) fp) kx tk) (hv : ∀ (s : Shared) (H : Hp) (c : Addr) (cl : List (Str × Addr)) (fp : List Addr), PE (X.blk s H sco (compEnvC sco cl c X.env) fp) vx tv)
    (hs : ∀ x, foldedSetIterable itx X.env x = pure x := by intro _; rfl) : PS X (.Assign [.Name y py] (.DictComp kx vx [⟨tg, itx, ifs, 0⟩] sco po) sp) (tAsg (tDcG C wi g tt tk tv (own.map (·.2))) (gName i)) := by
  refine ⟨fun pi s0 st A D In hh => ?_⟩
  rw [exec_Assign_Name_used _ _ _ _ hsw]
  refine wpAny_bind (wpAny_standAt (wpAny_bind ?_))
  show wpAny _ X.A (do let _ ← comprehension (.DictComp kx vx [⟨tg, itx, ifs, 0⟩] sco po) sco X.env (firstIterPos [⟨tg, itx, ifs, 0⟩] po) newDict false (eval itx X.env) (some (assign (.Name y py) X.env))) _ _ s0
  refine wpAny_bind (thn (dcG_core C (Qf := fun _ s' => SP X pi D .next s') (Q := fun x B => gName i x st B D.nx) calmly hN In hi ok hg ht hk hv hs hh fun Ld c s1 m B In1 q hn ⟨f0, f1, f2, f3, f4, f5⟩ => ?_) fun _ s1 hq => wpAny_pure (wpAny_pure hq))
  show wpAny _ _ (assign (.Name y py) X.env (.ref Ld)) _ _ _
  refine wpAny_assign_Name (store_ok2 (v := V.ref Ld) In1 hN hy (.inl hyl) rfl (fun s2 In2 ⟨a, sb, ha⟩ => ?_) (.inr hyl))
  have ne : c ≠ a := ha.elim (fun z e => f1 (e.trans z)) fun z e => f4 y a z e.symm
  exact ⟨m, hn.sameBut sb ne, fun h3 sb3 => ⟨_, B, In2.turned (t' := s2.toks) (fun b o hb e => (sb3.2 b hb).trans e) f0 f1 f3 f4 f5, q⟩⟩
end
/-- a dict comprehension over a walk -/
theorem dcG_walk {X : Cx} (C : DictKind X) {J : It} {n : Nat} {G : Hp → Prop} {Y : Nat → Hp → V → Hp → Prop} (wk : Walk J n G Y) {g : TG} {tt : TT} {tk tv : TE} {own : List Nat} {σ : L2.St} {A : Hp} {D : Addr} {Q : VK} (Iv : Nat → Hp → Prop)
    (ini : Iv 0 (upd A D (C.o0 D))) (std : ∀ i A, i ≤ n → Iv i A → G A)
    (one : ∀ i x A B, i < n → Iv i A → Y i A x B → g x (wipe σ own) B fun σ2 B2 => wipe σ2 own = wipe σ own ∧ tt σ2 B2 fun b B3 => if b = true then tk σ2 B3 fun y B4 => tv σ2 B4 fun z B5 => ∃ B6, C.Put D y z B5 B6 ∧ Iv (i + 1) B6 else Iv (i + 1) B3)
    (all : ∀ A, Iv n A → Q (.ref D) A) : ∃ W : Nat → Nat → Hp → Prop, (∃ m, W 0 m (upd A D (C.o0 D))) ∧ TurnG C g tt tk tv own σ D J Q W := by
  refine ⟨fun i m B => i + m = n ∧ Iv i B, ⟨n, Nat.zero_add _, ini⟩, fun i m B z => ?_⟩
  have gi := std i B (by have := z.1; omega) z.2
  by_cases l : i < n
  · exact .inr ⟨wk.goes i B l gi, Iv (i + 1), fun B' v => ⟨n - (i + 1), by have := z.1; omega, by omega, v⟩, fun x B' yl => one i x B B' l z.2 (wk.yields i B x B' l gi yl)⟩
  · obtain rfl : i = n := by have := z.1; omega
    exact .inl ⟨wk.stops B gi, all B z.2⟩
theorem x_dcG {X : Cx} {C : DictKind X} {wi : TI} {g : TG} {tt : TT} {tk tv : TE} {vs : List Nat} {σ : L2.St} {H : Hp} {Q : VK} (k : wi σ H fun J H1 => ∀ D, H1 D = none → ∃ W : Nat → Nat → Hp → Prop, (∃ m, W 0 m (upd H1 D (C.o0 D))) ∧ TurnG C g tt tk tv vs σ D J Q W) : tDcG C wi g tt tk tv vs σ H Q := k
/-! ### keys None, ints, texts -/
/-- a dict of at most n entries whose keys are whole numbers, texts, None -/
def LfO (P : Program) (w : World) (D : Addr) (n : Nat) : HO := .ext fun h => (D == sysModules) = false ∧ ∃ vs : List (Leaf × Value), vs.length ≤ n ∧ h.DictOf (leafKind P w) D vs
theorem lf_ok {P : Program} {w : World} {H : Hp} {h : Heap} {D : Addr} {n : Nat} {vs : List (Leaf × Value)} (hd : (D == sysModules) = false) (l : vs.length ≤ n) (dd : h.DictOf (leafKind P w) D vs) : ObjOk P w H h D (LfO P w D n) :=
  ⟨⟨hd, vs, l, dd⟩, let ⟨o, es, ep, e, _⟩ := dd; ⟨o, e⟩, fun _ _ ⟨hd, vs, l, o, es, ep, e, r⟩ k => ⟨hd, vs, l, o, es, ep, k _ e, r⟩⟩
/-- None or a text -/
def KeyL (y : V) : Prop := y = .non ∨ ∃ s, y = .str s
theorem keyL_is {P : Program} {w : World} {y : V} {u : Value} (k : KeyL y) (r : RelV y u) : ∃ x : Leaf, (leafKind P w).is x u = true := by
  rcases k with rfl | ⟨s, rfl⟩
  · cases (show u = Value.none from r)
    exact ⟨.none, rfl⟩
  · obtain ⟨t, rfl⟩ := (show ∃ t, u = Value.str s t from r)
    exact ⟨.text s, by show (s == s) = true; simp⟩
def leafDict (X : Cx) : DictKind X where
  o0 := fun D => LfO X.prog X.w D 0
  Put := fun D y _ A B => KeyL y ∧ ∃ n, A D = some (LfO X.prog X.w D n) ∧ n < sizeLine ∧ B = upd A D (LfO X.prog X.w D (n + 1))
  new := fun {H} h hb => lf_ok (beq_eq_false_iff_ne.mpr (Ne.symm (Nat.ne_of_lt hb))) (Nat.le_refl _) (Heap.DictOf.new h)
  set := fun {Y pn σ H H' s E D y z u r Q} eP eW I put ry rz k => by
    obtain ⟨ky, n, hD, hz, rfl⟩ := put
    rw [← eP, ← eW] at hD k
    obtain ⟨⟨hd, vs, l, dd⟩, _, _⟩ := (show ObjOk Y.prog Y.w H s.heap D (LfO Y.prog Y.w D n) from I.hok D _ hD)
    obtain ⟨x, hx⟩ := keyL_is (P := Y.prog) (w := Y.w) ky ry
    refine wpAny_dictSet_pairs (hsz := by omega) hx dd fun h' dd' hs => k _ ?_
    have he : ∃ q, h'.get? D = some q := let ⟨q, _, _, hq, _⟩ := dd'; ⟨q, hq⟩
    exact d_write I (by rw [hD]; exact True.intro) hs he (lf_ok hd (by have := stored_length_le vs x r; omega) dd')
end L2

set_option Elab.async false
set_option linter.all false
set_option maxRecDepth 100000
set_option maxHeartbeats 4000000
/-! dicts whose keys are any nested keys (None, ints, bools, texts, tuples of such), mixed in one dict -/
namespace PySem
open Sem (wp)
open SeqAt
namespace NK
/-- an entry: the key, the value that stands for it, what it leads to -/
abbrev En := NestedKey × Value × Value
def ent (w : World) (x : En) : DictEntry := ⟨x.1.hash w, x.2.1, x.2.2⟩
def KeyOk (h : Heap) (k : NestedKey) (v : Value) : Prop := NestedIs h k v ∧ k.depth ≤ 8
structure Ents (w : World) (h : Heap) (es : Array DictEntry) (xs : List En) : Prop where
  lay : es.toList = xs.map (ent w)
  key : ∀ x ∈ xs, KeyOk h x.1 x.2.1
  nd : (xs.map (·.1)).Nodup
/-- the i-th key is k -/
def AtK (xs : List En) (k : NestedKey) (i : Nat) : Prop := ∃ p, xs[i]? = some (k, p)
section
variable {prog : Program} {w : World} {A : Around} {E : Value → Shared → Prop} {s : Shared} {es : Array DictEntry} {xs : List En}
theorem Ents.at_ {h : Heap} (e : Ents w h es xs) (i : Nat) : es[i]? = (xs[i]?).map (ent w) := by rw [← Array.getElem?_toList, e.lay, List.getElem?_map]
theorem Ents.size {h : Heap} (e : Ents w h es xs) : es.size = xs.length := by rw [← Array.length_toList, e.lay, List.length_map]
theorem Ents.uniq {h : Heap} (e : Ents w h es xs) {k : NestedKey} {i j : Nat} (a : AtK xs k i) (b : AtK xs k j) : i = j := by
  obtain ⟨p, ha⟩ := a
  obtain ⟨q, hb⟩ := b
  have ha' : (xs.map (·.1))[i]? = some k := by rw [List.getElem?_map, ha]; rfl
  have hb' : (xs.map (·.1))[j]? = some k := by rw [List.getElem?_map, hb]; rfl
  exact (List.getElem?_inj (List.getElem?_eq_some_iff.mp ha').1 e.nd).mp (ha'.trans hb'.symm)
theorem Ents.place {h : Heap} (e : Ents w h es xs) {k : NestedKey} {i : Nat} (a : AtK xs k i) : i ∈ placesWithHash es.size (fun i => es[i]?.map (·.hash)) (k.hash w) := by
  obtain ⟨p, ha⟩ := a
  unfold placesWithHash
  refine List.mem_filter.mpr ⟨List.mem_range.mpr ?_, ?_⟩
  · rw [e.size]
    exact (List.getElem?_eq_some_iff.mp ha).1
  · show ((es[i]?).map (·.hash) == some (k.hash w)) = true
    rw [e.at_ i, ha]
    simp [ent]
theorem places_nodup {n : Nat} {f : Nat → Option Int} {h : Int} : (placesWithHash n f h).Nodup := List.nodup_range.sublist List.filter_sublist
/-- one question: is the key at x the key -/
theorem Ents.ask {d : Addr} {o : Obj} {ep : Nat} {k : NestedKey} {v : Value} (e : Ents w s.heap es xs) (hu : A.units + 8 < cLine) (hk : KeyOk s.heap k v) (ho : s.heap.get? d = some o) (hd : o.data = .dict es ep) {x : Nat} {y : En} (hy : xs[x]? = some y) {kp : Option Value} {Q : Bool → Shared → Prop} (q : Q (decide (y.1 = k)) s) :
    wpAny (model prog w) A (eqBool (ent w y).key v) Q E s :=
  eqAt_key y.1 k A s _ _ (e.key y (List.mem_of_getElem? hy)).1 hk.1 (by have := hk.2; have : min y.1.depth k.depth ≤ k.depth := Nat.min_le_right ..; omega) _ _ _ _ (by rw [← NestedKey.decide_eq]; exact q)
/-- what is kept of a walk: the places still to come hold the key, if any does -/
theorem walk_plain {d : Addr} {o : Obj} {ep : Nat} {k : NestedKey} {v : Value} {Q : Option Nat → Shared → Prop} (e : Ents w s.heap es xs) (hu : A.units + 8 < cLine) (hk : KeyOk s.heap k v) (ho : s.heap.get? d = some o) (hd : o.data = .dict es ep)
    (no : (∀ i, ¬ AtK xs k i) → Q none s) (yes : ∀ i, AtK xs k i → Q (some i) s) {pl : List Nat} (hp : ∀ i, AtK xs k i → i ∈ pl) : wpAny (model prog w) A (dictWalkPlain d v (k.hash w) es pl) Q E s := by
  unfold dictWalkPlain
  refine wpAny_bind ?_
  refine wpAny_forIn_list _ (fun rest b s' => s' = s ∧ b = (none, ()) ∧ ∀ i, AtK xs k i → i ∈ rest) _ ?_ ?_ _ _ ⟨rfl, rfl, hp⟩
  · rintro x rest b s' ⟨rfl, rfl, hr⟩
    have go : ¬ AtK xs k x → ∀ i, AtK xs k i → i ∈ rest := fun n i a => (List.mem_cons.mp (hr i a)).elim (fun z => absurd (z ▸ a) n) id
    cases hx : xs[x]? with
    | none =>
      rw [e.at_ x, hx]
      exact wpAny_pure ⟨rfl, rfl, go fun ⟨p, z⟩ => by rw [hx] at z; cases z⟩
    | some y =>
      rw [e.at_ x, hx]
      show wpAny _ _ (if ((ent w y).hash == k.hash w) = true then _ else _) _ E _
      by_cases hh : ((ent w y).hash == k.hash w) = true
      · rw [if_pos hh]
        refine wpAny_bind (wpAny_dictEpoch ho hd (wpAny_bind (e.ask hu hk ho hd hx (kp := none) (wpAny_bind (wpAny_dictEpoch ho hd ?_)))))
        show wpAny _ _ (if (ep != ep) = true then _ else _) _ E _
        rw [if_neg (by simp)]
        by_cases c : y.1 = k
        · rw [decide_eq_true c]
          exact wpAny_bind (wpAny_rule (wpAny_pure (wpAny_pure (yes x ⟨y.2, by rw [hx, ← c]⟩))))
        · rw [decide_eq_false c]
          exact wpAny_bind (wpAny_rule (wpAny_pure ⟨rfl, rfl, go fun ⟨p, z⟩ => c (by rw [hx] at z; cases z; rfl)⟩))
      · rw [if_neg hh]
        refine wpAny_pure ⟨rfl, rfl, go fun ⟨p, z⟩ => hh ?_⟩
        rw [hx] at z
        cases z
        simp [ent]
  · rintro b s' ⟨rfl, rfl, hr⟩
    exact wpAny_pure (no fun i a => List.not_mem_nil (hr i a))
theorem tell_quiet {k : NestedKey} {v : Value} {st : List Value} {Q : Bool → Shared → Prop} (hk : KeyOk s.heap k v) (hst : ∀ u ∈ st, ∃ k', KeyOk s.heap k' u) (h : Q false s) : wpAny (model prog w) A (tableMayTell v st) Q E s := by
  unfold tableMayTell
  split
  · exact wpAny_pure h
  · refine wpAny_bind (quiet_key k v 8 s hk.1 hk.2 A E _ ?_)
    simp only [Bool.not_true, Bool.false_eq_true, if_false]
    refine wpAny_bind (wpAny_forIn_list _ (fun rest r s' => s' = s ∧ r = (none, ()) ∧ ∀ u ∈ rest, ∃ k', KeyOk s.heap k' u) _ ?_ ?_ _ _ ⟨rfl, rfl, hst⟩)
    · rintro x rest r s' ⟨rfl, rfl, hr⟩
      obtain ⟨k', hb⟩ := hr x List.mem_cons_self
      refine wpAny_bind (quiet_key k' x 8 s' hb.1 hb.2 A E _ ?_)
      simp only [Bool.not_true, Bool.false_eq_true, if_false]
      exact wpAny_pure ⟨rfl, rfl, fun v hv => hr v (List.mem_cons_of_mem _ hv)⟩
    · rintro r s' ⟨rfl, rfl, _⟩
      exact wpAny_pure h
theorem shape {h : Heap} {k : NestedKey} {v : Value} (hk : KeyOk h k v) : v = .none ∨ (∃ b, v = .bool b) ∨ (∃ i t, v = .int i t) ∨ (∃ x t, v = .str x t) ∨ ∃ a, v = .ref a := by
  cases hk.1 with
  | none => exact .inl rfl
  | bool _ => exact .inr (.inl ⟨_, rfl⟩)
  | int i t => exact .inr (.inr (.inl ⟨_, _, rfl⟩))
  | text x t => exact .inr (.inr (.inr (.inl ⟨_, _, rfl⟩)))
  | tup _ _ _ _ => exact .inr (.inr (.inr (.inr ⟨_, rfl⟩)))
theorem isStr_iff {h : Heap} {k : NestedKey} {u : Value} {x : Str} (hk : KeyOk h k u) : u.isStr x = true ↔ k = .text x := by
  constructor
  · intro z
    rcases shape hk with rfl | ⟨b, rfl⟩ | ⟨i, t, rfl⟩ | ⟨y, t, rfl⟩ | ⟨a, rfl⟩
    all_goals first
      | cases z
      | (have : y = x := by simpa [Value.isStr] using z
         rw [this] at hk
         cases hk.1
         rfl)
  · rintro rfl
    cases hk.1
    simp [Value.isStr]
theorem find {d : Addr} {o : Obj} {ep : Nat} {k : NestedKey} {v : Value} {Q : Option Nat → Shared → Prop} (e : Ents w s.heap es xs) (hu : A.units + 8 < cLine) (hk : KeyOk s.heap k v) (ho : s.heap.get? d = some o) (hd : o.data = .dict es ep)
    (no : (∀ i, ¬ AtK xs k i) → Q none s) (yes : ∀ i, AtK xs k i → Q (some i) s) : wpAny (model prog w) A (dictFind d v (k.hash w)) Q E s := by
  have hst : ∀ u ∈ (placesWithHash es.size (fun i => es[i]?.map (·.hash)) (k.hash w)).filterMap (fun i => es[i]?.map (·.key)), ∃ k', KeyOk s.heap k' u := fun u hu' => by
    obtain ⟨i, _, hi⟩ := List.mem_filterMap.mp hu'
    rw [e.at_ i] at hi
    cases hx : xs[i]? with
    | none => rw [hx] at hi; cases hi
    | some y =>
      rw [hx] at hi
      cases hi
      exact ⟨y.1, e.key y (List.mem_of_getElem? hx)⟩
  have hany : ¬ (es.any fun e => e.key == v && e.hash != k.hash w) = true := by
    rw [← Array.any_toList, e.lay, List.any_eq_true]
    rintro ⟨z, hz, hc⟩
    obtain ⟨y, hy, rfl⟩ := List.mem_map.mp hz
    simp only [ent, Bool.and_eq_true, beq_iff_eq, bne_iff_ne, ne_eq] at hc
    have h1 := (e.key y hy).1
    rw [hc.1] at h1
    exact hc.2 (by rw [NestedIs.inj _ _ _ h1 hk.1])
  have tl : ∀ Q' : Bool → Shared → Prop, Q' false s → wpAny (model prog w) A (tableMayTell v ((placesWithHash es.size (fun i => es[i]?.map (·.hash)) (k.hash w)).filterMap (fun i => es[i]?.map (·.key)))) Q' E s := fun Q' q => tell_quiet hk hst q
  unfold dictFind
  try with_reducible refine wpAny_holding ?_
  refine wpAny_bind (wpAny_dictEntries ho hd ?_)
  dsimp only
  by_cases hs : (∃ x t, v = .str x t) ∧ (es.all fun e => isExactStrKey e.key) = true
  · obtain ⟨⟨x, t, rfl⟩, hstr⟩ := hs
    obtain rfl : k = .text x := by
      cases hk.1
      rfl
    dsimp only
    rw [if_pos hstr]
    unfold foundByValue
    cases hf : es.findIdx? (fun e => e.key.isStr x) with
    | none =>
      refine wpAny_pure (no fun i ⟨p, z⟩ => ?_)
      have h1 := Array.findIdx?_eq_none_iff.mp hf (ent w (.text x, p)) (by
        have : es[i]? = some (ent w (.text x, p)) := by rw [e.at_ i, z]; rfl
        exact Array.mem_of_getElem? this)
      have h2 : (ent w (.text x, p)).key.isStr x = true := (isStr_iff (e.key _ (List.mem_of_getElem? z))).mpr rfl
      rw [h2] at h1
      cases h1
    | some i =>
      obtain ⟨hlt, hi, _⟩ := Array.findIdx?_eq_some_iff_getElem.mp hf
      obtain ⟨y, hy⟩ : ∃ y, xs[i]? = some y := ⟨xs[i]'(by rw [← e.size]; exact hlt), List.getElem?_eq_getElem _⟩
      have ei : es[i]? = some (ent w y) := by rw [e.at_ i, hy]; rfl
      have ei2 : es[i] = ent w y := by
        rw [Array.getElem?_eq_getElem hlt] at ei
        exact Option.some.inj ei
      rw [ei2] at hi
      have c : y.1 = .text x := (isStr_iff (e.key _ (List.mem_of_getElem? hy))).mp hi
      simp only [ei]
      refine wpAny_bind (wpAny_dictEpoch ho hd (wpAny_bind (e.ask hu hk ho hd hy (kp := none) (wpAny_bind (wpAny_dictEpoch ho hd ?_)))))
      show wpAny _ _ (if (ep != ep) = true then _ else _) _ E _
      rw [if_neg (by simp), decide_eq_true c]
      exact wpAny_bind (wpAny_rule (wpAny_pure (yes i ⟨y.2, by rw [hy, ← c]⟩)))
  · by_cases hall : ((v :: (placesWithHash es.size (fun i => es[i]?.map (·.hash)) (k.hash w)).filterMap fun i => es[i]?.map (·.key)).all carriedByValue) = true
    · rcases shape hk with rfl | ⟨b, rfl⟩ | ⟨i, t, rfl⟩ | ⟨y, t, rfl⟩ | ⟨a, rfl⟩
      case' inr.inr.inr.inl => refine (?_ : wpAny _ _ (if (es.all fun e => isExactStrKey e.key) = true then _ else _) _ _ _)
      case' inr.inr.inr.inl => rw [if_neg (fun z => hs ⟨⟨_, _, rfl⟩, z⟩)]
      all_goals
        rw [if_pos hall]
        exact walk_plain e hu hk ho hd no yes fun i a => e.place a
    · by_cases hone : (((placesWithHash es.size (fun i => es[i]?.map (·.hash)) (k.hash w)).filterMap fun i => es[i]?.map (·.key)) == [v]) = true
      all_goals
        rcases shape hk with rfl | ⟨b, rfl⟩ | ⟨i, t, rfl⟩ | ⟨y, t, rfl⟩ | ⟨a, rfl⟩
        case' inr.inr.inr.inl => refine (?_ : wpAny _ _ (if (es.all fun e => isExactStrKey e.key) = true then _ else _) _ _ _)
        case' inr.inr.inr.inl => rw [if_neg (fun z => hs ⟨⟨_, _, rfl⟩, z⟩)]
        all_goals rw [if_neg hall]
        case' inr.inr.inr.inr => refine (?_ : wpAny _ _ (if (es.any fun e => e.key == Value.ref a && e.hash != k.hash w) = true then _ else _) _ _ _)
        case' inr.inr.inr.inr => rw [if_neg hany]
        all_goals
          first | rw [if_pos hone] | rw [if_neg hone]
          first | refine wpAny_bind (wpAny_pure ?_) | refine wpAny_bind (tl _ ?_)
          rw [if_neg (by simp)]
          refine wpAny_bind (wpAny_forIn_list _ (fun rest b s' => s' = s ∧ rest.Nodup ∧ b.1 = none ∧ ((b.2 = none ∧ ∀ i, AtK xs k i → i ∈ rest) ∨ ∃ j, b.2 = some j ∧ AtK xs k j ∧ ∀ i ∈ rest, ¬ AtK xs k i)) _ ?_ ?_ _ _ ⟨rfl, places_nodup, rfl, .inl ⟨rfl, fun i a => e.place a⟩⟩)
          · rintro x rest ⟨b1, hit⟩ s' ⟨rfl, nd, e1, hr⟩
            obtain rfl : b1 = none := e1
            obtain ⟨nx, nr⟩ := List.nodup_cons.mp nd
            have go : ¬ AtK xs k x → (hit = none ∧ ∀ i, AtK xs k i → i ∈ rest) ∨ ∃ j, hit = some j ∧ AtK xs k j ∧ ∀ i ∈ rest, ¬ AtK xs k i := fun n => hr.elim
              (fun z => .inl ⟨z.1, fun i a => (List.mem_cons.mp (z.2 i a)).elim (fun q => absurd (q ▸ a) n) id⟩) fun ⟨j, h1, h2, h3⟩ => .inr ⟨j, h1, h2, fun i hi => h3 i (List.mem_cons_of_mem _ hi)⟩
            cases hx : xs[x]? with
            | none =>
              rw [e.at_ x, hx]
              exact wpAny_pure ⟨rfl, nr, rfl, go fun ⟨p, z⟩ => by rw [hx] at z; cases z⟩
            | some y =>
              rw [e.at_ x, hx]
              refine (?_ : wpAny _ _ (if ((ent w y).hash == k.hash w) = true then _ else _) _ E _)
              by_cases hh : ((ent w y).hash == k.hash w) = true
              · rw [if_pos hh]
                refine wpAny_bind (wpAny_dictEpoch ho hd (wpAny_bind (e.ask hu hk ho hd hx (kp := none) (wpAny_bind (wpAny_dictEpoch ho hd ?_)))))
                refine (?_ : wpAny _ _ (if (ep != ep) = true then _ else _) _ E _)
                rw [if_neg (by simp)]
                by_cases c : y.1 = k
                · rw [decide_eq_true c]
                  have ax : AtK xs k x := ⟨y.2, by rw [hx, ← c]⟩
                  obtain ⟨rfl, hr⟩ : hit = none ∧ ∀ i, AtK xs k i → i ∈ x :: rest := hr.elim id fun ⟨j, _, _, h3⟩ => absurd ax (h3 x List.mem_cons_self)
                  rw [if_pos rfl]
                  refine (?_ : wpAny _ _ (if (Option.isSome (none : Option Nat)) = true then _ else _) _ E _)
                  rw [if_neg (by simp)]
                  refine wpAny_bind (wpAny_rule ?_)
                  split
                  · exact wpAny_pure (wpAny_pure (yes x ax))
                  · exact wpAny_pure ⟨rfl, nr, rfl, .inr ⟨x, rfl, ax, fun i hi a => nx (e.uniq a ax ▸ hi)⟩⟩
                · rw [decide_eq_false c]
                  rw [if_neg Bool.false_ne_true]
                  refine wpAny_bind (wpAny_rule ?_)
                  have n : ¬ AtK xs k x := fun ⟨p, z⟩ => c (by rw [hx] at z; cases z; rfl)
                  rw [if_neg (by simp)]
                  exact wpAny_pure ⟨rfl, nr, rfl, go n⟩
              · rw [if_neg hh]
                refine wpAny_pure ⟨rfl, nr, rfl, go fun ⟨p, z⟩ => hh ?_⟩
                rw [hx] at z
                cases z
                simp [ent]
          · rintro ⟨b1, hit⟩ s' ⟨rfl, _, e1, hr⟩
            obtain rfl : b1 = none := e1
            rcases hr with ⟨rfl, hr⟩ | ⟨j, rfl, aj, _⟩
            · exact wpAny_pure (no fun i a => List.not_mem_nil (hr i a))
            · exact wpAny_pure (yes j aj)
/-- at d stands a dict with these entries -/
def Dict (w : World) (h : Heap) (d : Addr) (xs : List En) : Prop := ∃ o es ep, h.get? d = some o ∧ o.ExactDict ∧ o.data = .dict es ep ∧ Ents w h es xs
def valN {α : Type} (xs : List (NestedKey × α)) (k : NestedKey) : Option α := (xs.find? fun x => decide (x.1 = k)).map (·.2)
def putN {α β : Type} (xs : List (NestedKey × α × β)) (k : NestedKey) (u : α) (v : β) : List (NestedKey × α × β) :=
  if (valN xs k).isSome then xs.map fun x => if x.1 = k then (x.1, x.2.1, v) else x else xs ++ [(k, u, v)]
theorem valN_at {α : Type} {xs : List (NestedKey × α)} (nd : (xs.map (·.1)).Nodup) {k : NestedKey} {p : α} (h : (k, p) ∈ xs) : valN xs k = some p := by
  induction xs with
  | nil => cases h
  | cons x r ih =>
    have nd : (x.1 :: r.map (·.1)).Nodup := nd
    obtain ⟨n1, n2⟩ := List.nodup_cons.mp nd
    unfold valN
    rw [List.find?_cons]
    by_cases c : x.1 = k
    · rw [decide_eq_true c]
      rcases List.mem_cons.mp h with h | h
      · rw [← h]
        rfl
      · exact absurd (List.mem_map.mpr ⟨_, h, rfl⟩) (by rw [c] at n1; exact n1)
    · rw [decide_eq_false c]
      rcases List.mem_cons.mp h with h | h
      · rw [← h] at c
        exact absurd rfl c
      · exact ih n2 h
theorem valN_none {α : Type} {xs : List (NestedKey × α)} {k : NestedKey} (h : k ∉ xs.map (·.1)) : valN xs k = none := by
  unfold valN
  rw [Option.map_eq_none_iff, List.find?_eq_none]
  intro x hx c
  exact h (List.mem_map.mpr ⟨x, hx, of_decide_eq_true c⟩)
theorem valN_some {α : Type} {xs : List (NestedKey × α)} {k : NestedKey} : (valN xs k).isSome = decide (k ∈ xs.map (·.1)) := by
  by_cases h : k ∈ xs.map (·.1)
  · rw [decide_eq_true h]
    unfold valN
    rw [Option.isSome_map, List.find?_isSome]
    obtain ⟨x, hx, e⟩ := List.mem_map.mp h
    exact ⟨x, hx, decide_eq_true e⟩
  · rw [decide_eq_false h, valN_none h]
    rfl
theorem AtK.val {h : Heap} (e : Ents w h es xs) {k : NestedKey} {i : Nat} (a : AtK xs k i) : ∃ p, xs[i]? = some (k, p) ∧ valN xs k = some p := by
  obtain ⟨p, hp⟩ := a
  exact ⟨p, hp, valN_at e.nd (List.mem_of_getElem? hp)⟩
theorem noAt {k : NestedKey} (h : ∀ i, ¬ AtK xs k i) : k ∉ xs.map (·.1) := fun m => by
  obtain ⟨x, hx, rfl⟩ := List.mem_map.mp m
  obtain ⟨j, hj⟩ := List.mem_iff_getElem?.mp hx
  exact h j ⟨x.2, hj⟩
theorem KeyOk.keeps {h h' : Heap} {k : NestedKey} {v : Value} {d : Addr} {o : Obj} {ep : Nat} (x : KeyOk h k v) (ho : h.get? d = some o) (hd : o.data = .dict es ep) (hs : Heap.SameBut d h h') : KeyOk h' k v :=
  ⟨NestedIs.at (fun b ob vs n hb hc => by
    refine (hs.2 b fun z => ?_).trans hb
    subst z
    rw [ho] at hb
    cases hb
    rw [hd] at hc
    cases hc) k _ x.1, x.2⟩
theorem get {d : Addr} {k : NestedKey} {v : Value} {Q : Option Value → Shared → Prop} (hu : A.units + 8 < cLine) (hk : KeyOk s.heap k v) (hm : Dict w s.heap d xs) (h : Q ((valN xs k).map (·.2)) { s with toks := s.toks + k.draws }) :
    wpAny (model prog w) A (dictGet d v) Q E s := by
  obtain ⟨o, es, ep, ho, _, hd, e⟩ := hm
  unfold dictGet
  try with_reducible refine wpAny_holding ?_
  refine wpAny_bind (pyHash_key k v A s _ hk.1 (by have := hk.2; omega) (wpAny_bind (find (s := { s with toks := s.toks + k.draws }) e hu hk ho hd (fun no => ?_) fun i a => ?_)))
  · rw [valN_none (noAt no)] at h
    exact wpAny_pure h
  · obtain ⟨p, hp, hv⟩ := a.val e
    rw [hv] at h
    refine wpAny_bind (wpAny_dictEntries (s := { s with toks := s.toks + k.draws }) ho hd ?_)
    rw [e.at_ i, hp]
    exact wpAny_pure h
theorem put_map {k : NestedKey} {v : Value} : ∀ {xs : List En} {i : Nat} {p : Value × Value}, (xs.map (·.1)).Nodup → xs[i]? = some (k, p) → (xs.map (ent w)).modify i (fun z => { z with val := v }) = (xs.map fun x => if x.1 = k then (x.1, x.2.1, v) else x).map (ent w)
  | [], i, p, _, h => by simp at h
  | x :: r, 0, p, nd, h => by
    simp only [List.getElem?_cons_zero, Option.some.injEq] at h
    subst h
    have nd : (k :: r.map (·.1)).Nodup := nd
    obtain ⟨n1, _⟩ := List.nodup_cons.mp nd
    have er : (r.map fun x : En => if x.1 = k then (x.1, x.2.1, v) else x) = r := (List.map_congr_left fun q hq => if_neg fun z => n1 (List.mem_map.mpr ⟨q, hq, z⟩)).trans (List.map_id r)
    rw [List.map_cons, List.map_cons, er, if_pos rfl, List.map_cons]
    rfl
  | x :: r, i + 1, p, nd, h => by
    simp only [List.getElem?_cons_succ] at h
    have nd : (x.1 :: r.map (·.1)).Nodup := nd
    obtain ⟨n1, n2⟩ := List.nodup_cons.mp nd
    have ne : ¬ x.1 = k := fun z => n1 (by rw [z]; exact List.mem_map.mpr ⟨(k, p), List.mem_of_getElem? h, rfl⟩)
    rw [List.map_cons, List.map_cons, if_neg ne, List.map_cons]
    show ent w x :: (r.map (ent w)).modify i _ = ent w x :: _
    rw [put_map n2 h]
theorem set {d : Addr} {k : NestedKey} {u v : Value} {Q : Unit → Shared → Prop} (hu : A.units + 8 < cLine) (hk : KeyOk s.heap k u) (hm : Dict w s.heap d xs) (hz : xs.length ≤ sizeLine)
    (h : ∀ h', Dict w h' d (putN xs k u v) → Heap.SameBut d s.heap h' → Q () { s with heap := h', toks := s.toks + k.draws }) : wpAny (model prog w) A (dictSet d u v) Q E s := by
  obtain ⟨o, es, ep, ho, hc, hd, e⟩ := hm
  unfold dictSet
  try with_reducible refine wpAny_holding ?_
  refine wpAny_bind (pyHash_key k u A s _ hk.1 (by have := hk.2; omega) ?_)
  unfold dictSetHashed
  try with_reducible refine wpAny_holding ?_
  refine wpAny_bind (find (s := { s with toks := s.toks + k.draws }) e hu hk ho hd (fun no => ?_) fun i a => ?_)
  · have nk := noAt no
    have ep : putN xs k u v = xs ++ [(k, u, v)] := by
      unfold putN
      rw [valN_none nk]
      rfl
    rw [ep] at h
    refine wpAny_bind (wpAny_rule (wpAny_updateDictKeys (hz := by rw [e.size]; exact hz) (s := { s with toks := s.toks + k.draws }) ho hd (h _ ⟨_, _, _, Heap.get?_update_self _ ho (Obj.isFreed_of_dict (Obj.data_mapDictKeys hd _)), hc.mapDictKeys _, Obj.data_mapDictKeys hd _, ⟨?_, fun x hx => ?_, ?_⟩⟩ (Heap.SameBut.update ..))))
    · rw [Array.toList_push, e.lay, List.map_append]
      rfl
    · rcases List.mem_append.mp hx with hx | hx
      · exact (e.key x hx).keeps ho hd (Heap.SameBut.update ..)
      · cases List.mem_singleton.mp hx
        exact hk.keeps ho hd (Heap.SameBut.update ..)
    · rw [List.map_append, List.nodup_append]
      refine ⟨e.nd, List.nodup_cons.mpr ⟨List.not_mem_nil, List.nodup_nil⟩, fun x hx y hy z => ?_⟩
      cases List.mem_singleton.mp hy
      have z : x = k := z
      rw [z] at hx
      exact nk hx
  · obtain ⟨p, hp, hv⟩ := a.val e
    have ep : putN xs k u v = xs.map fun x => if x.1 = k then (x.1, x.2.1, v) else x := by
      unfold putN
      rw [hv]
      rfl
    rw [ep] at h
    have keys : (xs.map fun x : En => if x.1 = k then (x.1, x.2.1, v) else x).map (·.1) = xs.map (·.1) := by
      rw [List.map_map]
      refine List.map_congr_left fun x _ => ?_
      show (if x.1 = k then (x.1, x.2.1, v) else x).1 = x.1
      split <;> rfl
    refine wpAny_bind (wpAny_rule (wpAny_bind (wpAny_updateDict (s := { s with toks := s.toks + k.draws }) ho hd (wpAny_point (h _ ⟨_, _, _, Heap.get?_update_self _ ho (Obj.isFreed_of_dict (Obj.data_mapDict hd _)), hc.mapDict _, Obj.data_mapDict hd _, ⟨?_, fun x hx => ?_, ?_⟩⟩ (Heap.SameBut.update ..))))))
    · have := put_map (w := w) (v := v) e.nd hp
      rw [← e.lay] at this
      obtain ⟨l⟩ := es
      simpa using this
    · obtain ⟨y, hy, rfl⟩ := List.mem_map.mp hx
      split <;> exact (e.key y hy).keeps ho hd (Heap.SameBut.update ..)
    · rw [keys]
      exact e.nd
theorem Dict.typeIs {d : Addr} (hm : Dict w s.heap d xs) : s.TypeIs (.ref d) "dict" := let ⟨o, _, _, ho, hc, _⟩ := hm; ⟨o, ho, hc.1⟩
/-- d[k], there -/
theorem getItem {d : Addr} {k : NestedKey} {u : Value} {p : Value × Value} {Q : Value → Shared → Prop} (hu : A.in1.units + 8 < cLine) (hk : KeyOk s.heap k u) (hm : Dict w s.heap d xs) (hp : valN xs k = some p) (h : Q p.2 { s with toks := s.toks + k.draws }) :
    wpAny (model prog w) A (PySem.getItem (.ref d) u) Q E s := by
  unfold PySem.getItem
  try with_reducible refine wpAny_holding ?_
  refine wpAny_bind (wpAny_sequenceKey hm.typeIs (by decide) ?_)
  refine wpAny_bind (wpAny_callSpecial?_slot (name := Str.ofString "__getitem__") hm.typeIs slot_dict_getitem
    (wpAny_call_entry slot_dict_getitem hm.typeIs entry_dict_getitem ?_ (args_dict_getitem _ _)))
  show wpAny _ _ (dictGet d u >>= _) _ _ s
  refine wpAny_bind (get hu hk hm ?_)
  rw [hp]
  exact wpAny_pure ⟨p.2, rfl, wpAny_pure h⟩
/-- k in d -/
theorem isIn {d : Addr} {k : NestedKey} {u : Value} {Q : Value → Shared → Prop} (hu : A.in1.units + 8 < cLine) (hd : (d == sysModules) = false) (hk : KeyOk s.heap k u) (hm : Dict w s.heap d xs) (h : Q (.bool (valN xs k).isSome) { s with toks := s.toks + k.draws }) :
    wpAny (model prog w) A (compareOp .In u (.ref d)) Q E s := by
  show wpAny _ _ (do return .bool (← contains (.ref d) u)) Q E s
  refine wpAny_bind ?_
  unfold contains
  try with_reducible refine wpAny_holding ?_
  refine wpAny_bind (wpAny_specialOf hm.typeIs slot_dict_contains.lookup ?_)
  show wpAny _ _ (if (some (Value.builtin "dict.__contains__") == some Value.none) = true then _ else _) _ E s
  rw [if_neg (by rw [beq_builtin_none]; exact Bool.false_ne_true)]
  refine wpAny_bind (wpAny_callSpecialUnlessNone?_slot (name := Str.ofString "__contains__") hm.typeIs slot_dict_contains
    (wpAny_call_entry slot_dict_contains hm.typeIs entry_dict_contains ?_ (args_dict_contains _ _)))
  show wpAny _ _ (dictGet d u >>= _) _ _ s
  refine wpAny_bind (get hu hk hm ?_)
  cases hf : valN xs k with
  | some p =>
    rw [hf] at h
    show wpAny _ _ (ret (.bool true)) _ _ _
    exact wpAny_pure ⟨_, rfl, wpAny_truthy_bool (wpAny_pure h)⟩
  | none =>
    rw [hf] at h
    show wpAny _ _ (Builtin.Dict.pendingKey? d u >>= _) _ _ _
    exact wpAny_bind (wpAny_pendingKey_other hd (wpAny_pure ⟨_, rfl, wpAny_truthy_bool (wpAny_pure h)⟩))
/-- k not in d -/
theorem notIn {d : Addr} {k : NestedKey} {u : Value} {Q : Value → Shared → Prop} (hu : A.in1.units + 8 < cLine) (hd : (d == sysModules) = false) (hk : KeyOk s.heap k u) (hm : Dict w s.heap d xs) (h : Q (.bool (!(valN xs k).isSome)) { s with toks := s.toks + k.draws }) :
    wpAny (model prog w) A (compareOp .NotIn u (.ref d)) Q E s := by
  show wpAny _ _ (do return .bool (!(← contains (.ref d) u))) Q E s
  refine wpAny_bind ?_
  unfold contains
  try with_reducible refine wpAny_holding ?_
  refine wpAny_bind (wpAny_specialOf hm.typeIs slot_dict_contains.lookup ?_)
  show wpAny _ _ (if (some (Value.builtin "dict.__contains__") == some Value.none) = true then _ else _) _ E s
  rw [if_neg (by rw [beq_builtin_none]; exact Bool.false_ne_true)]
  refine wpAny_bind (wpAny_callSpecialUnlessNone?_slot (name := Str.ofString "__contains__") hm.typeIs slot_dict_contains
    (wpAny_call_entry slot_dict_contains hm.typeIs entry_dict_contains ?_ (args_dict_contains _ _)))
  show wpAny _ _ (dictGet d u >>= _) _ _ s
  refine wpAny_bind (get hu hk hm ?_)
  cases hf : valN xs k with
  | some p =>
    rw [hf] at h
    show wpAny _ _ (ret (.bool true)) _ _ _
    exact wpAny_pure ⟨_, rfl, wpAny_truthy_bool (wpAny_pure h)⟩
  | none =>
    rw [hf] at h
    show wpAny _ _ (Builtin.Dict.pendingKey? d u >>= _) _ _ _
    exact wpAny_bind (wpAny_pendingKey_other hd (wpAny_pure ⟨_, rfl, wpAny_truthy_bool (wpAny_pure h)⟩))
/-- d[k] = v -/
theorem setItem {d : Addr} {k : NestedKey} {u v : Value} {Q : Unit → Shared → Prop} (hu : A.in1.units + 8 < cLine) (hk : KeyOk s.heap k u) (hm : Dict w s.heap d xs) (hz : xs.length ≤ sizeLine)
    (h : ∀ h', Dict w h' d (putN xs k u v) → Heap.SameBut d s.heap h' → Q () { s with heap := h', toks := s.toks + k.draws }) : wpAny (model prog w) A (PySem.setItem (.ref d) u v) Q E s := by
  unfold PySem.setItem
  try with_reducible refine wpAny_holding ?_
  refine wpAny_bind (wpAny_sequenceKey hm.typeIs (by decide) ?_)
  refine wpAny_bind (wpAny_callSpecial?_slot (name := Str.ofString "__setitem__") hm.typeIs slot_dict_setitem
    (wpAny_call_entry slot_dict_setitem hm.typeIs entry_dict_setitem ?_ (args_dict_setitem _ _ _)))
  show wpAny _ _ (Builtin.Dict.notOrdered "__setitem__" ⟨[.ref d, u, v], []⟩ >>= _) _ _ s
  refine wpAny_bind (wpAny_notOrdered_dict hm.typeIs ?_)
  show wpAny _ _ (dictSet d u v >>= _) _ _ s
  exact wpAny_bind (set hu hk hm hz fun h' hm' hs' => wpAny_pure ⟨.none, rfl, wpAny_pure (h h' hm' hs')⟩)
end
end NK
end PySem

set_option Elab.async false
set_option linter.all false
set_option maxRecDepth 100000
set_option maxHeartbeats 4000000
/-! dicts whose keys are any nested keys, over the abstract heap -/
namespace L2
open PySem PySem.Spec PyProof.Rows
mutual
/-- the value v is the key k -/
inductive HN (H : Hp) : NestedKey → V → Prop
  | non : HN H .none .non
  | bl (b : Bool) : HN H (.num (if b = true then 1 else 0)) (.bl b)
  | int (i : Int) : HN H (.num i) (.int i)
  | str (x : Str) : HN H (.text x) (.str x)
  | tup {a : Addr} {vs : List V} {ks : List NestedKey} : H a = some (.tup vs) → HNs H ks vs → HN H (.tup ks) (.ref a)
inductive HNs (H : Hp) : List NestedKey → List V → Prop
  | nil : HNs H [] []
  | cons {k : NestedKey} {v : V} {ks : List NestedKey} {vs : List V} : HN H k v → HNs H ks vs → HNs H (k :: ks) (v :: vs)
end
mutual
theorem HN.mono {A B : Hp} (e : ∀ t xs, A t = some (.tup xs) → B t = some (.tup xs)) : ∀ {k : NestedKey} {v : V}, HN A k v → HN B k v
  | _, _, .non => .non
  | _, _, .bl b => .bl b
  | _, _, .int i => .int i
  | _, _, .str x => .str x
  | _, _, .tup h r => .tup (e _ _ h) (r.mono e)
theorem HNs.mono {A B : Hp} (e : ∀ t xs, A t = some (.tup xs) → B t = some (.tup xs)) : ∀ {k : List NestedKey} {v : List V}, HNs A k v → HNs B k v
  | _, _, .nil => .nil
  | _, _, .cons h r => .cons (h.mono e) (r.mono e)
end
mutual
theorem HN.is {P : Program} {w : World} {H : Hp} {h : Heap} (ok : HOk P w H h) : ∀ {k : NestedKey} {v : V} {u : Value}, HN H k v → RelV v u → NestedIs h k u
  | _, _, u, .non, r => by
    cases (show u = Value.none from r)
    exact .none
  | _, _, u, .bl b, r => by
    cases (show u = Value.bool b from r)
    exact .bool rfl
  | _, _, u, .int i, r => by
    obtain ⟨t, rfl⟩ := (show ∃ t, u = Value.int i t from r)
    exact .int _ _
  | _, _, u, .str x, r => by
    obtain ⟨t, rfl⟩ := (show ∃ t, u = Value.str x t from r)
    exact .text _ _
  | _, _, u, .tup (a := a) (vs := vs) e hs, r => by
    cases (show u = Value.ref a from r)
    obtain ⟨_, its, rv, o, h1, h2, n, h3⟩ := (show ObjOk P w H h a (.tup vs) from ok a _ e)
    exact .tup h1 h2 h3 (by simpa using hs.is ok rv)
theorem HNs.is {P : Program} {w : World} {H : Hp} {h : Heap} (ok : HOk P w H h) : ∀ {k : List NestedKey} {v : List V} {u : List Value}, HNs H k v → Vals v u → NestedAll h k u
  | _, _, _, .nil, .nil => .nil
  | _, _, _, .cons h1 hs, .cons r rs => .cons (h1.is ok r) (hs.is ok rs)
end
theorem HN.text {H : Hp} {s : Str} {v : V} (h : HN H (.text s) v) : v = .str s := by cases h; rfl
/-- a dict with these keys (what each is, what stands for it) and values -/
abbrev KVN := List (NestedKey × V × V)
def NdO (P : Program) (w : World) (D : Addr) (kvs : KVN) : HO := .ext fun h => (D == sysModules) = false ∧ kvs.length ≤ sizeLine ∧ ∃ o es ep, h.get? D = some o ∧ o.ExactDict ∧ o.data = .dict es ep ∧
  Paired (fun (kv : NestedKey × V × V) (e : DictEntry) => e.hash = kv.1.hash w ∧ RelV kv.2.1 e.key ∧ RelV kv.2.2 e.val) kvs es.toList
structure KeysN (H : Hp) (kvs : KVN) : Prop where
  is : ∀ x ∈ kvs, HN H x.1 x.2.1 ∧ x.1.depth ≤ 8
  nd : (kvs.map (·.1)).Nodup
theorem KeysN.mono {A B : Hp} {kvs : KVN} (e : ∀ t xs, A t = some (.tup xs) → B t = some (.tup xs)) (k : KeysN A kvs) : KeysN B kvs := ⟨fun x hx => ⟨(k.is x hx).1.mono e, (k.is x hx).2⟩, k.nd⟩
def nk : Key → NestedKey
  | .inl i => .num i
  | .inr x => .text x
theorem nk_inj {a b : Key} (h : nk a = nk b) : a = b := by
  cases a <;> cases b <;> simp_all [nk]
theorem nk_hn {H : Hp} (k : Key) : HN H (nk k) (kV k) := by
  cases k with
  | inl i => exact .int i
  | inr x => exact .str x
theorem nk_depth (k : Key) : (nk k).depth ≤ 8 := by
  cases k with
  | inl i => exact Nat.zero_le _
  | inr x => exact Nat.zero_le _
theorem nk_hash (w : World) (k : Key) : (nk k).hash w = keyH w k := by
  cases k with
  | inl i => rfl
  | inr x => rfl
def liftK (kk : List (Key × V)) : KVN := kk.map fun kv => (nk kv.1, kV kv.1, kv.2)
/-- a dict of any kind, to be read -/
def AnyD (P : Program) (w : World) (H : Hp) (a : Addr) (kvs : KVN) : Prop := (Rd H a (NdO P w a kvs) ∧ KeysN H kvs) ∨ ∃ kk, Rd H a (.dK kk) ∧ kvs = liftK kk
def RelN : KVN → List NK.En → Prop := Paired fun kv x => kv.1 = x.1 ∧ RelV kv.2.1 x.2.1 ∧ RelV kv.2.2 x.2.2
theorem RelN.val {kvs : KVN} {xs : List NK.En} (r : RelN kvs xs) (k : NestedKey) : (∀ y v, NK.valN kvs k = some (y, v) → ∃ p, NK.valN xs k = some p ∧ RelV v p.2) ∧ (NK.valN xs k).isSome = (NK.valN kvs k).isSome := by
  induction r with
  | nil => exact ⟨fun y v h => (by cases h), rfl⟩
  | @cons a b l m h t ih =>
    unfold NK.valN at ih ⊢
    rw [List.find?_cons, List.find?_cons, ← h.1]
    by_cases c : a.1 = k
    · rw [decide_eq_true c]
      refine ⟨fun y v e => ?_, rfl⟩
      have : a.2 = (y, v) := Option.some.inj e
      refine ⟨b.2, rfl, ?_⟩
      have h3 := h.2.2
      rw [this] at h3
      exact h3
    · rw [decide_eq_false c]
      exact ih
theorem RelN.keys {kvs : KVN} {xs : List NK.En} (r : RelN kvs xs) : kvs.map (·.1) = xs.map (·.1) := by
  induction r with
  | nil => rfl
  | cons h t ih => rw [List.map_cons, List.map_cons, h.1, ih]
theorem RelN.over {kvs : KVN} {xs : List NK.En} (r : RelN kvs xs) (k : NestedKey) {v : V} {z : Value} (rv : RelV v z) : RelN (kvs.map fun x => if x.1 = k then (x.1, x.2.1, v) else x) (xs.map fun x => if x.1 = k then (x.1, x.2.1, z) else x) := by
  induction r with
  | nil => exact .nil
  | @cons a b l m h t ih =>
    rw [List.map_cons, List.map_cons]
    refine .cons ?_ ih
    show (if a.1 = k then (a.1, a.2.1, v) else a).1 = (if b.1 = k then (b.1, b.2.1, z) else b).1 ∧ RelV (if a.1 = k then (a.1, a.2.1, v) else a).2.1 (if b.1 = k then (b.1, b.2.1, z) else b).2.1 ∧ RelV (if a.1 = k then (a.1, a.2.1, v) else a).2.2 (if b.1 = k then (b.1, b.2.1, z) else b).2.2
    rw [← h.1]
    by_cases c : a.1 = k
    · rw [if_pos c, if_pos c]
      exact ⟨rfl, h.2.1, rv⟩
    · rw [if_neg c, if_neg c]
      exact h
theorem RelN.put {kvs : KVN} {xs : List NK.En} (r : RelN kvs xs) (k : NestedKey) {y v : V} {u z : Value} (ry : RelV y u) (rv : RelV v z) : RelN (NK.putN kvs k y v) (NK.putN xs k u z) := by
  unfold NK.putN
  rw [(r.val k).2]
  split
  · exact r.over k rv
  · exact M.Paired.app r (.cons ⟨rfl, ry, rv⟩ .nil)
theorem putN_len {α β : Type} (xs : List (NestedKey × α × β)) (k : NestedKey) (u : α) (v : β) : (NK.putN xs k u v).length ≤ xs.length + 1 := by
  unfold NK.putN
  split
  · rw [List.length_map]
    exact Nat.le_succ _
  · rw [List.length_append]
    exact Nat.le_refl _
theorem putN_keys {kvs : KVN} {H : Hp} {k : NestedKey} {y v : V} (K : KeysN H kvs) (hk : HN H k y) (d8 : k.depth ≤ 8) : KeysN H (NK.putN kvs k y v) := by
  unfold NK.putN
  split
  · refine ⟨fun x hx => ?_, ?_⟩
    · obtain ⟨z, hz, rfl⟩ := List.mem_map.mp hx
      have := K.is z hz
      split
      · exact this
      · exact this
    · rw [List.map_map]
      have : ((fun x : NestedKey × V × V => x.1) ∘ fun x => if x.1 = k then (x.1, x.2.1, v) else x) = (·.1) := by
        funext x
        show (if x.1 = k then (x.1, x.2.1, v) else x).1 = x.1
        split <;> rfl
      rw [this]
      exact K.nd
  · rename_i c
    refine ⟨fun x hx => ?_, ?_⟩
    · rcases List.mem_append.mp hx with hx | hx
      · exact K.is x hx
      · cases List.mem_singleton.mp hx
        exact ⟨hk, d8⟩
    · rw [List.map_append, List.nodup_append]
      refine ⟨K.nd, List.nodup_cons.mpr ⟨List.not_mem_nil, List.nodup_nil⟩, fun a ha b hb z => c ?_⟩
      cases List.mem_singleton.mp hb
      have z : a = k := z
      rw [NK.valN_some]
      exact decide_eq_true (z ▸ ha)
section
variable {X : Cx} {pins : List (Addr × Obj)} {σ : St} {H : Hp} {s : Shared} {a : Addr} {kvs : KVN} {A : Around} {E : Value → Shared → Prop}
theorem HN.ok {k : NestedKey} {y : V} {u : Value} (I : Inv X pins σ H s) (h : HN H k y) (d8 : k.depth ≤ 8) (r : RelV y u) : NK.KeyOk s.heap k u := ⟨h.is I.hok r, d8⟩
theorem nodup_nk : ∀ {l : List Key}, l.Nodup → (l.map nk).Nodup
  | [], _ => List.nodup_nil
  | a :: l, nd => by
    obtain ⟨n1, n2⟩ := List.nodup_cons.mp nd
    refine List.nodup_cons.mpr ⟨fun m => ?_, nodup_nk n2⟩
    obtain ⟨b, hb, e⟩ := List.mem_map.mp m
    exact n1 (nk_inj e ▸ hb)
theorem kv_keys {kk : List (Key × V)} {vs : List (Key × Value)} (rel : KV kk vs) : kk.map (·.1) = vs.map (·.1) := by
  induction rel with
  | nil => rfl
  | cons h t ih => rw [List.map_cons, List.map_cons, h.1, ih]
theorem keyOks (I : Inv X pins σ H s) {l : KVN} {xs : List NK.En} (r : RelN l xs) (K : ∀ x ∈ l, HN H x.1 x.2.1 ∧ x.1.depth ≤ 8) : ∀ x ∈ xs, NK.KeyOk s.heap x.1 x.2.1 := by
  induction r with
  | nil => intro x hx; cases hx
  | @cons kv y l m h t ih =>
    intro x hx
    rcases List.mem_cons.mp hx with rfl | hx
    · have := K kv List.mem_cons_self
      rw [← h.1]
      exact HN.ok I this.1 this.2 h.2.1
    · exact ih (fun x hx => K x (List.mem_cons_of_mem _ hx)) x hx
theorem lift_keys {kk : List (Key × V)} (nd : (kk.map (·.1)).Nodup) : KeysN H (liftK kk) := by
  refine ⟨fun x hx => ?_, ?_⟩
  · obtain ⟨z, _, rfl⟩ := List.mem_map.mp hx
    exact ⟨nk_hn _, nk_depth _⟩
  · have e : (liftK kk).map (·.1) = (kk.map (·.1)).map nk := by
      unfold liftK
      rw [List.map_map, List.map_map]
      rfl
    rw [e]
    exact nodup_nk nd
theorem anyD_dict (I : Inv X pins σ H s) (g : AnyD X.prog X.w H a kvs) : (a == sysModules) = false ∧ kvs.length ≤ sizeLine ∧ KeysN H kvs ∧ ∃ xs, NK.Dict X.w s.heap a xs ∧ RelN kvs xs := by
  rcases g with ⟨e, K⟩ | ⟨kk, e, rfl⟩
  · obtain ⟨⟨hd, z, o, es, ep, h1, h2, h3, rel⟩, _, _⟩ := (show ObjOk X.prog X.w H s.heap a (NdO X.prog X.w a kvs) from rd_of I.hok e)
    refine ⟨hd, z, K, ?_⟩
    have : ∀ {l : KVN} {m : List DictEntry}, Paired (fun (kv : NestedKey × V × V) (e : DictEntry) => e.hash = kv.1.hash X.w ∧ RelV kv.2.1 e.key ∧ RelV kv.2.2 e.val) l m → ∃ xs, m = xs.map (NK.ent X.w) ∧ RelN l xs := by
      intro l m p
      induction p with
      | nil => exact ⟨[], rfl, .nil⟩
      | @cons kv e l m h t ih =>
        obtain ⟨xs, e1, r⟩ := ih
        refine ⟨(kv.1, e.key, e.val) :: xs, ?_, .cons ⟨rfl, h.2.1, h.2.2⟩ r⟩
        rw [List.map_cons, e1]
        show e :: _ = NK.ent X.w (kv.1, e.key, e.val) :: _
        unfold NK.ent
        rw [← h.1]
    obtain ⟨xs, e1, r⟩ := this rel
    refine ⟨xs, ⟨o, es, ep, h1, h2, h3, e1, fun x hx => ?_, by rw [← r.keys]; exact K.nd⟩, r⟩
    exact keyOks I r K.is x hx
  · obtain ⟨z, hd, vs, rel, o, es, ep, h1, h2, h3, hk, ps, nd⟩ := dk_rd I.hok e
    have ndk : (kk.map (·.1)).Nodup := by
      rw [kv_keys rel]
      exact nd
    have K := lift_keys (H := H) ndk
    refine ⟨hd, by unfold liftK; rw [List.length_map]; exact z, K, ?_⟩
    have key : ∀ {kk : List (Key × V)} {vs : List (Key × Value)} {m : List DictEntry}, KV kk vs → Pairs (mixKind X.prog X.w) m vs → (∀ e ∈ m, ∃ k, keyIs k e.key = true ∧ e.hash = keyH X.w k) → ∃ xs, m = xs.map (NK.ent X.w) ∧ RelN (liftK kk) xs := by
      intro kk vs m rel
      induction rel generalizing m with
      | nil => intro p _; cases p; exact ⟨[], rfl, .nil⟩
      | @cons kv x l n h t ih =>
        intro p hk
        cases p with
        | @cons e _ es _ h1 h2 h3 =>
          obtain ⟨xs, e1, r⟩ := ih h3 fun e he => hk e (List.mem_cons_of_mem _ he)
          obtain ⟨k', hk1, hk2⟩ := hk e List.mem_cons_self
          have ek : kv.1 = k' := by
            rw [h.1]
            exact (mixKind X.prog X.w).inj _ _ _ h1 hk1
          refine ⟨(nk kv.1, e.key, e.val) :: xs, ?_, .cons ⟨rfl, ?_, by rw [h2]; exact h.2⟩ r⟩
          · rw [List.map_cons, e1]
            show e :: _ = NK.ent X.w (nk kv.1, e.key, e.val) :: _
            unfold NK.ent
            show _ = (⟨(nk kv.1).hash X.w, e.key, e.val⟩ : DictEntry) :: _
            rw [nk_hash, ek, ← hk2]
          · have h1' : keyIs kv.1 e.key = true := by rw [h.1]; exact h1
            rcases keyIs_shape h1' with ⟨i, t, ei, e2⟩ | ⟨y, t, ei, e2⟩
            · show RelV (kV kv.1) e.key
              rw [ei, e2]
              exact ⟨t, rfl⟩
            · show RelV (kV kv.1) e.key
              rw [ei, e2]
              exact ⟨t, rfl⟩
    obtain ⟨xs, e1, r⟩ := key rel ps fun e he => by
      obtain ⟨k, h9, h8⟩ := hk e (Array.mem_toList_iff.mp he)
      exact ⟨k, h9, h8⟩
    refine ⟨xs, ⟨o, es, ep, h1, h2, h3, e1, fun x hx => ?_, by rw [← r.keys]; exact K.nd⟩, r⟩
    exact keyOks I r K.is x hx
/-- what a dict of any kind holds at y -/
def NGet (P : Program) (w : World) (H : Hp) (a : Addr) (y : V) (r : Option V) : Prop := ∃ kvs k, AnyD P w H a kvs ∧ HN H k y ∧ k.depth ≤ 8 ∧ r = (NK.valN kvs k).map (·.2)
/-- the heap behind a[y] = v, a dict of any kind -/
def NPut (P : Program) (w : World) (H : Hp) (a : Addr) (y v : V) (H' : Hp) : Prop := ∃ kvs k, ((H a = some (NdO P w a kvs) ∧ KeysN H kvs) ∨ ∃ kk, H a = some (.dK kk) ∧ kvs = liftK kk) ∧ HN H k y ∧ k.depth ≤ 8 ∧ kvs.length < sizeLine ∧ H' = upd H a (NdO P w a (NK.putN kvs k y v))
theorem in1_units (hu : A.units + 64 < cLine) : A.in1.units + 8 < cLine := by
  have : A.in1.units = A.units + 1 := rfl
  omega
theorem n_getItem {y v : V} {u : Value} {Q : Value → Shared → Prop} (hu : A.units + 64 < cLine) (I : Inv X pins σ H s) (g : NGet X.prog X.w H a y (some v)) (ry : RelV y u) (h : ∀ w' s', Inv X pins σ H s' → RelV v w' → Q w' s') :
    wpAny (model X.prog X.w) A (getItem (.ref a) u) Q E s := by
  obtain ⟨kvs, k, g, hk, d8, e⟩ := g
  obtain ⟨_, _, _, xs, hm, r⟩ := anyD_dict I g
  obtain ⟨p, hp, ep⟩ := Option.map_eq_some_iff.mp e.symm
  obtain ⟨q, hq, rv⟩ := (r.val k).1 p.1 p.2 hp
  rw [ep] at rv
  exact NK.getItem (in1_units hu) (HN.ok I hk d8 ry) hm hq (h q.2 _ (I.tok _) rv)
theorem n_in {y : V} {u : Value} {o : Option V} {Q : Value → Shared → Prop} (hu : A.units + 64 < cLine) (I : Inv X pins σ H s) (g : NGet X.prog X.w H a y o) (ry : RelV y u) (h : ∀ s', Inv X pins σ H s' → Q (.bool o.isSome) s') :
    wpAny (model X.prog X.w) A (compareOp .In u (.ref a)) Q E s := by
  obtain ⟨kvs, k, g, hk, d8, e⟩ := g
  obtain ⟨hd, _, _, xs, hm, r⟩ := anyD_dict I g
  refine NK.isIn (in1_units hu) hd (HN.ok I hk d8 ry) hm ?_
  rw [(r.val k).2]
  rw [e, Option.isSome_map] at h
  exact h _ (I.tok _)
theorem n_notIn {y : V} {u : Value} {o : Option V} {Q : Value → Shared → Prop} (hu : A.units + 64 < cLine) (I : Inv X pins σ H s) (g : NGet X.prog X.w H a y o) (ry : RelV y u) (h : ∀ s', Inv X pins σ H s' → Q (.bool (!o.isSome)) s') :
    wpAny (model X.prog X.w) A (compareOp .NotIn u (.ref a)) Q E s := by
  obtain ⟨kvs, k, g, hk, d8, e⟩ := g
  obtain ⟨hd, _, _, xs, hm, r⟩ := anyD_dict I g
  refine NK.notIn (in1_units hu) hd (HN.ok I hk d8 ry) hm ?_
  rw [(r.val k).2]
  rw [e, Option.isSome_map] at h
  exact h _ (I.tok _)
theorem nd_ok {P : Program} {w : World} {H : Hp} {h : Heap} {a : Addr} {kvs : KVN} {xs : List NK.En} (hd : (a == sysModules) = false) (z : kvs.length ≤ sizeLine) (r : RelN kvs xs) (hm : NK.Dict w h a xs) : ObjOk P w H h a (NdO P w a kvs) := by
  obtain ⟨o, es, ep, h1, h2, h3, e⟩ := hm
  refine ⟨⟨hd, z, o, es, ep, h1, h2, h3, ?_⟩, ⟨o, h1⟩, fun _ _ ⟨hd, z, o, es, ep, h1, h2, h3, r⟩ k => ⟨hd, z, o, es, ep, k _ h1, h2, h3, r⟩⟩
  rw [e.lay]
  have : ∀ {l : KVN} {m : List NK.En}, RelN l m → Paired (fun (kv : NestedKey × V × V) (e : DictEntry) => e.hash = kv.1.hash w ∧ RelV kv.2.1 e.key ∧ RelV kv.2.2 e.val) l (m.map (NK.ent w)) := by
    intro l m r
    induction r with
    | nil => exact .nil
    | @cons kv x l m h t ih =>
      rw [List.map_cons]
      exact .cons ⟨by rw [h.1]; rfl, h.2.1, h.2.2⟩ ih
  exact this r
theorem n_setItem {y v : V} {u z : Value} {H' : Hp} {Q : Unit → Shared → Prop} (hu : A.units + 64 < cLine) (I : Inv X pins σ H s) (g : NPut X.prog X.w H a y v H') (ry : RelV y u) (rv : RelV v z) (h : ∀ s', Inv X pins σ H' s' → Q () s') :
    wpAny (model X.prog X.w) A (setItem (.ref a) u z) Q E s := by
  obtain ⟨kvs, k, g, hk, d8, lt, rfl⟩ := g
  have mu : Mut (H a) := by
    rcases g with ⟨e, _⟩ | ⟨kk, e, _⟩
    · rw [e]; exact True.intro
    · rw [e]; exact True.intro
  have g' : AnyD X.prog X.w H a kvs := g.elim (fun z => .inl ⟨.inl z.1, z.2⟩) fun ⟨kk, e, q⟩ => .inr ⟨kk, .inl e, q⟩
  obtain ⟨hd, hz, _, xs, hm, r⟩ := anyD_dict I g'
  have len : xs.length = kvs.length := (Paired.length r).symm
  refine NK.setItem (in1_units hu) (HN.ok I hk d8 ry) hm (by omega) fun h' hm' hs => h _ ?_
  have he : ∃ q, h'.get? a = some q := let ⟨q, _, _, hq, _⟩ := hm'; ⟨q, hq⟩
  exact d_write I mu hs he (nd_ok hd (by have := putN_len kvs k y v; omega) (r.put k ry rv) hm')
theorem any_typeIs (I : Inv X pins σ H s) (g : AnyD X.prog X.w H a kvs) : s.TypeIs (.ref a) "dict" := by
  obtain ⟨_, _, _, xs, hm, _⟩ := anyD_dict I g
  exact hm.typeIs
/-- d[y], y in d, y not in d, d[y] = v for dicts of any kind -/
def tNGet (P : Program) (w : World) (td ty : TE) : TE := fun σ H Q => td σ H fun x H1 => ty σ H1 fun y H2 => ∃ a v, x = .ref a ∧ NGet P w H2 a y (some v) ∧ Q v H2
def tNIn (P : Program) (w : World) (ty td : TE) : TE := fun σ H Q => ty σ H fun y H1 => td σ H1 fun x H2 => ∃ a o, x = .ref a ∧ NGet P w H2 a y o ∧ Q (.bl o.isSome) H2
def tNNotIn (P : Program) (w : World) (ty td : TE) : TE := fun σ H Q => ty σ H fun y H1 => td σ H1 fun x H2 => ∃ a o, x = .ref a ∧ NGet P w H2 a y o ∧ Q (.bl (!o.isSome)) H2
def sNPut (P : Program) (w : World) (td ty tv : TE) : TS := fun D σ H => tv σ H fun v H1 => td σ H1 fun x H2 => ty σ H2 fun y H3 => ∃ a H4, x = .ref a ∧ NPut P w H3 a y v H4 ∧ D.nx σ H4
end
section
variable {X : Cx} {o i e value : Expr} {pos pos' tpos : Pos} {td ty tv : TE}
theorem pe_nget (hu : X.A.units + 64 < cLine) (ho : PE X o td) (hi : PE X i ty) (hs : NoSl i) : PE X (.Subscript o i pos) (tNGet X.prog X.w td ty) := by
  refine ⟨fun pins s σ H Q I h => ?_⟩
  refine subD_of PySem.F.slot_dict_getitem.lookup hs (thn (ho.run pins s σ H _ I h) fun u s1 ⟨x, H1, I1, rx, q1⟩ => thn (hi.run pins s1 σ H1 _ I1 q1) fun iv s2 ⟨y, H2, I2, ry, a, v, ex, g, q2⟩ => ?_)
  subst ex
  obtain rfl : u = Value.ref a := rx
  have ⟨kvs, k, g', _⟩ := g
  exact ⟨any_typeIs I2 g', n_getItem hu I2 g ry fun w' s3 I3 rw' => ⟨v, H2, I3, rw', q2⟩⟩
theorem pc_nin (hu : X.A.units + 64 < cLine) (hi : PE X i ty) (ho : PE X o td) : PC X .In i o (tNIn X.prog X.w ty td) := by
  refine ⟨fun pins s σ H Q I h => ?_⟩
  refine thn (hi.run pins s σ H _ I h) fun iv s1 ⟨y, H1, I1, ry, q1⟩ => thn (ho.run pins s1 σ H1 _ I1 q1) fun u s2 ⟨x, H2, I2, rx, a, ov, ex, g, q2⟩ => ?_
  subst ex
  obtain rfl : u = Value.ref a := rx
  exact n_in hu I2 g ry fun s3 I3 => ⟨.bl ov.isSome, H2, I3, rfl, q2⟩
theorem pc_nnotin (hu : X.A.units + 64 < cLine) (hi : PE X i ty) (ho : PE X o td) : PC X .NotIn i o (tNNotIn X.prog X.w ty td) := by
  refine ⟨fun pins s σ H Q I h => ?_⟩
  refine thn (hi.run pins s σ H _ I h) fun iv s1 ⟨y, H1, I1, ry, q1⟩ => thn (ho.run pins s1 σ H1 _ I1 q1) fun u s2 ⟨x, H2, I2, rx, a, ov, ex, g, q2⟩ => ?_
  subst ex
  obtain rfl : u = Value.ref a := rx
  exact n_notIn hu I2 g ry fun s3 I3 => ⟨.bl (!ov.isSome), H2, I3, rfl, q2⟩
theorem ps_nput (hu : X.A.units + 64 < cLine) (ho : PE X o td) (hi : PE X i ty) (hv : PE X value tv) (hs : swapsWith value (some (.Subscript o i pos')) pos.line X.env = pure false) :
    PS X (.Assign [.Subscript o i pos'] value pos) (sNPut X.prog X.w td ty tv) := by
  refine ⟨fun pins s σ H D I h => ?_⟩
  refine wpAny_Assign_Subscript (thn (hv.run pins s σ H _ I h) fun r s1 ⟨v, H1, I1, rv, q1⟩ => thn (ho.run pins s1 σ H1 _ I1 q1) fun u s2 ⟨x, H2, I2, rx, q2⟩ => thn (hi.run pins s2 σ H2 _ I2 q2) fun iv s3 ⟨y, H3, I3, ry, a, H4, ex, g, q3⟩ => ?_) hs
  subst ex
  obtain rfl : u = Value.ref a := rx
  exact n_setItem hu I3 g ry rv fun s4 I4 => ⟨σ, H4, I4, q3⟩
end
section
variable {X : Cx} {P : Program} {w : World} {o i e value : Expr} {pos pos' tpos : Pos} {td ty tv : TE}
theorem wN_get (hP : X.prog = P) (hw : X.w = w) (hu : X.A.units + 64 < cLine) (ho : PE X o td) (hi : PE X i ty) (hs : NoSl i) : PE X (.Subscript o i pos) (tNGet P w td ty) := by subst hP hw; exact pe_nget hu ho hi hs
theorem wN_in (hP : X.prog = P) (hw : X.w = w) (hu : X.A.units + 64 < cLine) (hi : PE X i ty) (ho : PE X o td) : PC X .In i o (tNIn P w ty td) := by subst hP hw; exact pc_nin hu hi ho
theorem wN_notin (hP : X.prog = P) (hw : X.w = w) (hu : X.A.units + 64 < cLine) (hi : PE X i ty) (ho : PE X o td) : PC X .NotIn i o (tNNotIn P w ty td) := by subst hP hw; exact pc_nnotin hu hi ho
theorem wN_put (hP : X.prog = P) (hw : X.w = w) (hu : X.A.units + 64 < cLine) (ho : PE X o td) (hi : PE X i ty) (hv : PE X value tv) (hs : swapsWith value (some (.Subscript o i pos')) pos.line X.env = pure false) : PS X (.Assign [.Subscript o i pos'] value pos) (sNPut P w td ty tv) := by subst hP hw; exact ps_nput hu ho hi hv hs
end
/-! ### len, isinstance, repr -/
section
variable {X : Cx}
def rLenN (P : Program) (w : World) : List V → Hp → VK → Prop := fun xs H Q => ∃ a kvs, xs = [.ref a] ∧ AnyD P w H a kvs ∧ Q (.int kvs.length) H
theorem cl_lenN : CallR X (.builtin "len") (rLenN X.prog X.w) := by
  intro pins s σ H xs us Q I r h
  obtain ⟨a, kvs, rfl, g, q⟩ := h
  cases Vals.ref1 r
  obtain ⟨hd, z, _, xs, hm, rel⟩ := anyD_dict I g
  obtain ⟨o, es, ep, h1, h2, h3, e⟩ := id hm
  have lx : kvs.length = xs.length := Paired.length rel
  have sz : es.size = kvs.length := by rw [e.size, lx]
  have fit : (kvs.length : Int) < 2 ^ 63 := by rw [sizeLine_eq] at z; omega
  refine Calls.call_function_entry PySem.kind_len PySem.plain_len PySem.entry_len (PySem.args_len1 _) ?_
  unfold Builtin.«len»
  refine wpAny_bind (m := oneArg "len" _) (wpAny_pure ?_)
  refine wpAny_bind (m := callSpecial? (.ref a) (Str.ofString "__len__")) (wpAny_callSpecial?_slot (name := Str.ofString "__len__") hm.typeIs PySem.F.slot_dict_len (call_len_raw hd ⟨o, h1, h2, h3⟩ ?_))
  refine wpAny_bind (wpAny_holding (wpAny_pure ?_))
  refine wpAny_bind (wpAny_letGo ?_)
  rw [sz]
  show wpAny _ _ (if ((kvs.length : Nat) : Int) < 0 then _ else _) _ _ _
  rw [if_neg (by omega)]
  show wpAny _ _ (if ((kvs.length : Nat) : Int) ≥ 2 ^ 63 then _ else _) _ _ _
  rw [if_neg (by omega)]
  exact wpAny_bind (wpAny_mkInt (wpAny_pure ⟨_, rfl, .int kvs.length, H, (I.tok _).tok _, ⟨_, rfl⟩, q⟩))
/-- isinstance, the thing a dict of any kind or else what can be told -/
def rIsiN (P : Program) (w : World) (K : PySem.W.Frag) : List V → Hp → VK → Prop := fun xs H Q => rIsi K xs H Q ∨ ∃ a kvs c u b, xs = [.ref a, c] ∧ ClsV c u ∧ AnyD P w H a kvs ∧ PySem.W.kitOne K (.type "dict") u = some b ∧ Q (.bl b) H
theorem call_isiN : CallR X (.builtin "isinstance") (rIsiN X.prog X.w X.K) := by
  intro pins s σ H xs us Q I r h
  rcases h with h | ⟨a, kvs, c, u, b, rfl, k, g, e, q⟩
  · exact call_isi pins s σ H xs us Q I r h
  · obtain ⟨u1, u2, rfl, r1, r2⟩ := vals2 r
    have e2 := k.eq r2
    subst e2
    cases (show u1 = Value.ref a from r1)
    obtain ⟨_, _, _, xs, ⟨o, es, ep, h1, h2, h3, _⟩, _⟩ := anyD_dict I g
    exact PySem.W.kia_one PySem.W.kitx_dict I.kIn ⟨o, h1, h2.1⟩ e (fun z => nomatch z) fun tk => ⟨.bl b, H, I.tok tk, rfl, q⟩
end
end L2
namespace ReR
open PySem PySem.Spec PyProof.Rows L2
/-- the keys and the values as data -/
def DpP (H : Hp) (kvs : KVN) (ds : List (PyData × PyData)) : Prop := Paired (fun (kv : NestedKey × V × V) (d : PyData × PyData) => DpD H kv.2.1 d.1 ∧ DpD H kv.2.2 d.2) kvs ds
mutual
/-- data that may hold dicts of any kind -/
inductive DpN (P : Program) (w : World) (H : Hp) : V → PyData → Prop
  | base {v : V} {d : PyData} : DpD H v d → DpN P w H v d
  | lst {a : Addr} {xs : List V} {ds : List PyData} : H a = some (.lst xs) → DpNs P w H xs ds → DpN P w H (.ref a) (.list ds)
  | dic {a : Addr} {kvs : KVN} {ds : List (PyData × PyData)} : AnyD P w H a kvs → DpP H kvs ds → DpN P w H (.ref a) (.dict ds)
inductive DpNs (P : Program) (w : World) (H : Hp) : List V → List PyData → Prop
  | nil : DpNs P w H [] []
  | cons {v : V} {vs : List V} {d : PyData} {ds : List PyData} : DpN P w H v d → DpNs P w H vs ds → DpNs P w H (v :: vs) (d :: ds)
end
section
variable {X : Cx} {pins : List (Addr × Obj)} {σ : L2.St} {H : Hp} {s : Shared}
theorem DpP.reads (hb : SysIs X.base) (I : Inv X pins σ H s) {kvs : KVN} {ds : List (PyData × PyData)} {xs : List NK.En} (h : DpP H kvs ds) (r : RelN kvs xs) :
    ∃ as bs, ReadsAll s.heap ((xs.map (NK.ent X.w)).map (·.key)) (ds.map (·.1)) as ∧ ReadsAll s.heap ((xs.map (NK.ent X.w)).map (·.val)) (ds.map (·.2)) bs ∧ sysModules ∉ as ∧ sysModules ∉ bs := by
  unfold DpP at h
  induction h generalizing xs with
  | nil =>
    cases r
    exact ⟨_, _, .nil, .nil, List.not_mem_nil, List.not_mem_nil⟩
  | cons h t ih =>
    cases r with
    | cons r1 r2 =>
      obtain ⟨as, bs, q2, q3, n2, n3⟩ := ih r2
      obtain ⟨cs, q1, n1⟩ := h.1.reads hb I r1.2.1
      obtain ⟨es, q4, n4⟩ := h.2.reads hb I r1.2.2
      exact ⟨_, _, .cons q1 q2, .cons q4 q3, fun m => (List.mem_append.mp m).elim n1 n2, fun m => (List.mem_append.mp m).elim n4 n3⟩
mutual
theorem DpN.reads (hb : SysIs X.base) (I : Inv X pins σ H s) : ∀ {v : V} {d : PyData} {u : Value}, DpN X.prog X.w H v d → RelV v u → ∃ as, Reads s.heap u d as ∧ sysModules ∉ as
  | _, _, _, .base h, r => h.reads hb I r
  | _, _, u, .lst (a := a) (xs := xs) e h, r => by
    cases (show u = Value.ref a from r)
    obtain ⟨z, its, n, rv, g⟩ : xs.length ≤ sizeLine ∧ ∃ (its : List Value) (n : Nat), Vals xs its ∧ s.heap.get? a = some { cls := .type "list", data := .seq its.toArray n } := I.hok _ _ e
    obtain ⟨as, q, ns⟩ := h.reads hb I rv
    have na := no_sys hb I (a := a) (by rw [e]; exact fun z => nomatch z)
    exact ⟨_, .list g rfl rfl (by simpa using q), fun m => (List.mem_cons.mp m).elim (fun z => na z.symm) ns⟩
  | _, _, u, .dic (a := a) (kvs := kvs) g h, r => by
    cases (show u = Value.ref a from r)
    obtain ⟨hS, _, _, xs, ⟨o, es, ep, h1, h2, h3, e⟩, rel⟩ := anyD_dict I g
    obtain ⟨as, bs, q1, q2, n1, n2⟩ := h.reads hb I rel
    rw [← e.lay] at q1 q2
    exact ⟨_, .dict h1 h2.1 h3 q1 q2, fun m => (List.mem_append.mp m).elim (fun m => (List.mem_cons.mp m).elim (fun z => (beq_eq_false_iff_ne.mp hS) z.symm) n1) n2⟩
theorem DpNs.reads (hb : SysIs X.base) (I : Inv X pins σ H s) : ∀ {v : List V} {d : List PyData} {u : List Value}, DpNs X.prog X.w H v d → Vals v u → ∃ as, ReadsAll s.heap u d as ∧ sysModules ∉ as
  | _, _, _, .nil, r => by
    cases r
    exact ⟨_, .nil, List.not_mem_nil⟩
  | _, _, _, .cons h hs, r => by
    cases r with
    | cons r1 r2 =>
      obtain ⟨as, q1, n1⟩ := h.reads hb I r1
      obtain ⟨bs, q2, n2⟩ := hs.reads hb I r2
      exact ⟨_, .cons q1 q2, fun m => (List.mem_append.mp m).elim n1 n2⟩
end
end
def rReprN (P : Program) (w : World) : List V → Hp → VK → Prop := fun xs H Q => ∃ v d, xs = [v] ∧ DpN P w H v d ∧ okD d ∧ Q (.str d.shown) H
theorem cr_reprN {X : Cx} (hg : X.A.guards = some []) (hu : X.A.units + 64 < cLine) (hb : SysIs X.base) : CallR X (.builtin "repr") (rReprN X.prog X.w) := by
  intro pins s σ H xs us Q I r h
  obtain ⟨v, d, rfl, hd, ok, q⟩ := h
  obtain ⟨u, rfl, ru⟩ := vals1 r
  obtain ⟨as, rd, ns⟩ := hd.reads hb I ru
  have hl := ok.len
  cases rd with
  | none => exact PySem.P.repr_of_none ⟨.str _, H, I.tok _, ⟨_, rfl⟩, q⟩
  | bool b => exact PySem.P.repr_of_bool ⟨.str _, H, I.tok _, ⟨_, rfl⟩, q⟩
  | int i t => exact PySem.P.repr_of_int (by simpa [PyData.showable] using ok.1) ⟨.str _, H, I.tok _, ⟨_, rfl⟩, q⟩
  | str x t => exact PySem.P.repr_of_str ⟨.str _, H, I.tok _, ⟨_, rfl⟩, q⟩ (by simpa only [PyData.shown] using hl)
  | list h1 h2 h3 h4 => exact repr_of_reads' (.list h1 h2 h3 h4) ok.1 (fun _ => ns) hg (by have := ok.2.1; omega) (fun _ _ e => e) (fun h' u tk hk => ⟨.str _, H, I.kept hk, ⟨_, rfl⟩, q⟩) hl
  | tuple h1 h2 h3 h4 => exact repr_of_reads' (.tuple h1 h2 h3 h4) ok.1 (fun _ => ns) hg (by have := ok.2.1; omega) (fun _ _ e => e) (fun h' u tk hk => ⟨.str _, H, I.kept hk, ⟨_, rfl⟩, q⟩) hl
  | dict h1 h2 h3 h4 h5 => exact repr_of_reads' (.dict h1 h2 h3 h4 h5) ok.1 (fun _ => ns) hg (by have := ok.2.1; omega) (fun _ _ e => e) (fun h' u tk hk => ⟨.str _, H, I.kept hk, ⟨_, rfl⟩, q⟩) hl
end ReR

set_option Elab.async false
set_option linter.all false
set_option maxRecDepth 100000
set_option maxHeartbeats 4000000
/-! dicts of any kind: what gen.py prints -/
namespace L2
open PySem PySem.Spec PyProof.Rows
section
variable {X : Cx} {P : Program} {w : World} {K : PySem.W.Frag}
theorem wN_isi (hP : X.prog = P) (hw : X.w = w) (hK : X.K = K) : CallR X (.builtin "isinstance") (rIsiN P w K) := by subst hP hw hK; exact call_isiN
theorem wN_len (hP : X.prog = P) (hw : X.w = w) : CallR X (.builtin "len") (rLenN P w) := by subst hP hw; exact cl_lenN
theorem wN_repr (hP : X.prog = P) (hw : X.w = w) (hg : X.A.guards = some []) (hu : X.A.units + 64 < cLine) (hb : ReR.SysIs X.base) : CallR X (.builtin "repr") (ReR.rReprN P w) := by subst hP hw; exact ReR.cr_reprN hg hu hb
end
theorem n_put {P : Program} {w : World} {td ty tv : TE} {D : Ends} {σ : L2.St} {H : Hp} (k : tv σ H fun v H1 => td σ H1 fun x H2 => ty σ H2 fun y H3 => ∃ a H4, x = .ref a ∧ NPut P w H3 a y v H4 ∧ D.nx σ H4) : sNPut P w td ty tv D σ H := k
theorem n_notin {P : Program} {w : World} {td ty : TE} {σ : L2.St} {H : Hp} {Q : VK} (k : ty σ H fun y H1 => td σ H1 fun x H2 => ∃ a o, x = .ref a ∧ NGet P w H2 a y o ∧ Q (.bl (!o.isSome)) H2) : tNNotIn P w ty td σ H Q := k
theorem n_inn {P : Program} {w : World} {td ty : TE} {σ : L2.St} {H : Hp} {Q : VK} (k : ty σ H fun y H1 => td σ H1 fun x H2 => ∃ a o, x = .ref a ∧ NGet P w H2 a y o ∧ Q (.bl o.isSome) H2) : tNIn P w ty td σ H Q := k
theorem n_get {P : Program} {w : World} {td ty : TE} {σ : L2.St} {H : Hp} {Q : VK} (k : td σ H fun x H1 => ty σ H1 fun y H2 => ∃ a v, x = .ref a ∧ NGet P w H2 a y (some v) ∧ Q v H2) : tNGet P w td ty σ H Q := k
/-- what is told stays: every fact of the heap but those of lists and dicts that are written -/
def Ext (A B : Hp) : Prop := ∀ b o, A b = some o → B b = some o
/-- what is told stays, though dicts may have been locked -/
structure ExtR (A B : Hp) : Prop where
  lst : ∀ a xs, A a = some (.lst xs) → B a = some (.lst xs)
  tup : ∀ a xs, A a = some (.tup xs) → B a = some (.tup xs)
  dK : ∀ a kk, Rd A a (.dK kk) → Rd B a (.dK kk)
  ext : ∀ a f, Rd A a (.ext f) → Rd B a (.ext f)
theorem Ext.r {A B : Hp} (e : Ext A B) : ExtR A B :=
  ⟨fun _ _ h => e _ _ h, fun _ _ h => e _ _ h, fun _ _ h => h.imp (e _ _) fun ⟨u, h⟩ => ⟨u, e _ _ h⟩, fun _ _ h => h.imp (e _ _) fun ⟨u, h⟩ => ⟨u, e _ _ h⟩⟩
theorem ExtR.trans {A B C : Hp} (e : ExtR A B) (f : ExtR B C) : ExtR A C :=
  ⟨fun _ _ h => f.lst _ _ (e.lst _ _ h), fun _ _ h => f.tup _ _ (e.tup _ _ h), fun _ _ h => f.dK _ _ (e.dK _ _ h), fun _ _ h => f.ext _ _ (e.ext _ _ h)⟩
theorem ExtR.lock {A B : Hp} {d : Addr} {kvs : List (Key × V)} {od : Obj} (h : Rd A d (.dK kvs)) (e : B d = some (.frz od (.dK kvs))) (ne : ∀ b, b ≠ d → B b = A b) : ExtR A B := by
  have n1 : ∀ {a o}, A a = some o → (∀ kk, o ≠ .dK kk) → (∀ u kk, o ≠ .frz u (.dK kk)) → a ≠ d := fun q x y z => by
    rw [z] at q
    rcases h with h | ⟨u, h⟩
    · rw [h] at q; cases q; exact x _ rfl
    · rw [h] at q; cases q; exact y _ _ rfl
  refine ⟨fun a xs q => ?_, fun a xs q => ?_, fun a kk q => ?_, fun a f q => ?_⟩
  · rw [ne a (n1 q (fun _ z => nomatch z) fun _ _ z => nomatch z)]; exact q
  · rw [ne a (n1 q (fun _ z => nomatch z) fun _ _ z => nomatch z)]; exact q
  · by_cases z : a = d
    · subst z
      have : kk = kvs := by
        rcases h with h | ⟨u, h⟩ <;> rcases q with q | ⟨u2, q⟩ <;> rw [h] at q <;> cases q <;> rfl
      subst this
      exact .inr ⟨od, e⟩
    · unfold Rd
      rw [ne a z]
      exact q
  · have z : a ≠ d := by
      rcases q with q | ⟨u, q⟩
      · exact n1 q (fun _ z => nomatch z) fun _ _ z => nomatch z
      · exact n1 q (fun _ z => nomatch z) fun _ _ z => nomatch z
    unfold Rd
    rw [ne a z]
    exact q
theorem AnyD.mono {P : Program} {w : World} {A B : Hp} {a : Addr} {kvs : KVN} (e : ExtR A B) (h : AnyD P w A a kvs) : AnyD P w B a kvs := by
  rcases h with ⟨h1, h2⟩ | ⟨kk, h1, h2⟩
  · exact .inl ⟨e.ext _ _ h1, h2.mono e.tup⟩
  · exact .inr ⟨kk, e.dK _ _ h1, h2⟩
theorem paired_rel {α β : Type} {R S : α → β → Prop} (h : ∀ a b, R a b → S a b) : ∀ {xs : List α} {ys : List β}, Paired R xs ys → Paired S xs ys
  | [], [], .nil => .nil
  | _ :: _, _ :: _, .cons a r => .cons (h _ _ a) (paired_rel h r)
end L2
namespace ReR
open PySem PySem.Spec PyProof.Rows L2
section
variable {A B : Hp}
mutual
theorem DpD.monoR (e : ExtR A B) : ∀ {v : V} {d : PyData}, DpD A v d → DpD B v d
  | _, _, .non => .non
  | _, _, .bl b => .bl b
  | _, _, .int i => .int i
  | _, _, .str x => .str x
  | _, _, .lst h r => .lst (e.lst _ _ h) (r.monoR e)
  | _, _, .tup h r => .tup (e.tup _ _ h) (r.monoR e)
  | _, _, .dic h r => .dic (e.dK _ _ h) (r.monoR e)
theorem DpDs.monoR (e : ExtR A B) : ∀ {v : List V} {d : List PyData}, DpDs A v d → DpDs B v d
  | _, _, .nil => .nil
  | _, _, .cons h r => .cons (h.monoR e) (r.monoR e)
theorem DpDk.monoR (e : ExtR A B) : ∀ {v : List (Key × V)} {d : List (PyData × PyData)}, DpDk A v d → DpDk B v d
  | _, _, .nil => .nil
  | _, _, .cons h r => .cons (h.monoR e) (r.monoR e)
end
end
theorem DpP.mono {A B : Hp} (e : ExtR A B) {kvs : KVN} {ds : List (PyData × PyData)} (h : DpP A kvs ds) : DpP B kvs ds := paired_rel (fun _ _ h => ⟨h.1.monoR e, h.2.monoR e⟩) h
/-- a thing of which all is told: data, or a dict whose keys are any nested keys -/
inductive Thg (P : Program) (w : World) (H : Hp) : V → PyData → Option KVN → Prop
  | odd {v : V} {d : PyData} : DpD H v d → (∀ ds, d ≠ .dict ds) → Thg P w H v d none
  | dic {a : Addr} {kvs : KVN} {ds : List (PyData × PyData)} : AnyD P w H a kvs → DpP H kvs ds → Thg P w H (.ref a) (.dict ds) (some kvs)
theorem Thg.mono {P : Program} {w : World} {A B : Hp} {v : V} {d : PyData} {o : Option KVN} (e : ExtR A B) (h : Thg P w A v d o) : Thg P w B v d o := by
  cases h with
  | odd h n => exact .odd (h.monoR e) n
  | dic h1 h2 => exact .dic (h1.mono e) (h2.mono e)
theorem Thg.dn {P : Program} {w : World} {H : Hp} {v : V} {d : PyData} {o : Option KVN} (h : Thg P w H v d o) : DpN P w H v d := by
  cases h with
  | odd h n => exact .base h
  | dic h1 h2 => exact .dic h1 h2
end ReR

set_option Elab.async false
set_option linter.all false
set_option maxRecDepth 100000
set_option maxHeartbeats 2000000
/-! own errors whose __init__ says super().__init__('..') and keeps one field -/
namespace SupX
open PySem PySem.Spec PyProof.Rows L2 NdefX PySem.W PySem.Calls
/-! ### the text of such an __init__ -/
def sA (fld : Str) (p1 p2 : Pos) : Arguments := { posonlyargs := [], args := [{ arg := "self", annotation := none, pos := p1 }, { arg := fld, annotation := none, pos := p2 }], vararg := none, kwonlyargs := [], kw_defaults := [], kwarg := none, defaults := [] }
def sB (fld msg : Str) (k : Nat) (q1 q2 q3 q4 q5 q6 q7 q8 q9 q10 : Pos) : List Stmt :=
  [.Expr (.Call (.Attribute (.Call (.Name "super" q1) [] [] q2) "__init__" q3) [.Constant (.str msg) k q4] [] q5) q6, .Assign [.Attribute (.Name "self" q7) fld q8] (.Name fld q9) q10]
def sS (fld : Str) : Scope := { kind := .function, names := [("self", .local), (fld, .local), ("__class__", .free), ("super", .globalImplicit)], isGenerator := false, isCoroutine := false, more := [] }
theorem sup_eval (env : Env) {msg : Str} {k : Nat} {q1 q2 q3 q4 q5 : Pos} (hq : (q3.endLine == q5.line) = true) :
    eval (.Call (.Attribute (.Call (.Name "super" q1) [] [] q2) "__init__" q3) [.Constant (.str msg) k q4] [] q5) env = (do
      let ov ← attributeBase (.Call (.Name "super" q1) [] [] q2) "__init__" env (eval (.Call (.Name "super" q1) [] [] q2) env)
      standAt q3.atName
      let (f, first) ← holding [ov] (getMethod ov "__init__" (do return (← importBound (.Call (.Name "super" q1) [] [] q2) env).getD true))
      callWith q5 f first (backTo q5 (starEach [.Constant (.str msg) k q4] env)) []) := by
  show (do
      let ov ← attributeBase (.Call (.Name "super" q1) [] [] q2) "__init__" env (eval (.Call (.Name "super" q1) [] [] q2) env)
      standAt q3.atName
      methodCall (.Call (.Name "super" q1) [] [] q2) "__init__" q3 q5 env ov 1 (backTo q5 (starEach [.Constant (.str msg) k q4] env)) []) = _
  unfold methodCall calleeOf methodCallPos
  have f : methodCallForm 1 (backTo q5 (starEach [.Constant (.str msg) k q4] env)) [] = true := rfl
  simp only [f, hq, if_true, Bool.not_true, Bool.false_or, pure_bind]
/-- what is asked of the program -/
class PX (P : Program) : Prop where
  top : (P.main.scope.names.lookup ("super" : Str)).isSome = false
  file : P.main.file = "/claim/cut.py"
/-- what the written part says of the class at C, and of its __init__ at fI -/
structure SupTxt (K : Frag) (mg : Str → Option Value) (C fI : Addr) (fd : FuncData) (qual fld : Str) : Prop where
  oex : OexC K C
  xf : XfC K C
  noN : findIn K (.ref C) fld = some none
  iC : findIn K (.ref C) "__init__" = some (some (.ref fI))
  tI : typeIn K (.ref fI) = some (.type "function")
  sup : ks_superIn K C C "__init__" = some (some (.builtin "ValueError.__init__"))
  mro : mroIn K C (.ref C) = some true
  sub : subIn K (.ref C) (.type "ValueError") = some true
  nsu : mg "super" = none
  bnd : Binds K fd ["self", fld] []
  any : nsIn K cStatics "thirdparty.any" = some none
  sc : NScope ["self", fld, "__class__"] ["self", fld] ["__class__"] (sS fld)
  d1 : (fld == ("__debug__" : Str)) = false
  d2 : (fld == ("__classdict__" : Str)) = false
  scs : (sS fld).names.lookup ("super" : Str) = some .globalImplicit
  fn : ∃ (oc : Value) (od : Option Addr) (dV kV doc pm : Value) (an : Option Addr) (cda cc : Addr) (ct : Value) (osl : Array (Option Value)) (p1 p2 : Pos) (msg : Str) (k : Nat) (q1 q2 q3 q4 q5 q6 q7 q8 q9 q10 : Pos),
    fd = ksFn "__init__" qual (sA fld p1 p2) (sB fld msg k q1 q2 q3 q4 q5 q6 q7 q8 q9 q10) (sS fld) dV kV doc pm an (.ref cda) ct cc ∧ (q3.endLine == q5.line) = true ∧ K.lookup fI = some ⟨oc, od, .func fd, osl⟩ ∧ codeIn K (.ref cda) qual = true ∧
    (∃ (cl : Value) (cld : Option Addr) (csl : Array (Option Value)), K.lookup cc = some ⟨cl, cld, .cell (some (.ref C)), csl⟩) ∧
    ∃ (cl : Value) (cld : Option Addr) (csl : Array (Option Value)) (vs : Array Value) (tf : Tok), K.lookup cda = some ⟨cl, cld, .fields vs, csl⟩ ∧ vs[2]? = some (.str "/claim/cut.py" tf)
/-- what such an __init__ promises -/
def spSup (C : Addr) (fld : Str) : Sp := fun vs H Q _ => ∃ (a : Addr) (v : V), vs = [.ref a, v] ∧ H a = some (exo a C none) ∧ ∀ dx, H dx = none → dx ≠ a → Q .non (upd (upd H dx (exd dx [(fld, v)])) a (exo a C (some dx)))
section
variable {P : Program} {w : World} {A : Around} {E : Value → Shared → Prop} {hp : Heap} {g : Array GenState} {d : Drawn} {t : Nat} {os : OsState}
/-- the bound built-in __init__ called: the error's args are laid anew -/
theorem bw_call {nm q : Str} {C N u x t0 : Addr} {bs bm : List Value} {hdct : Bool} {sn : List Str} {sub : List Value} {ab : Bool} {col : Option Bool} {dd : Option Addr} {k0 k1 k2 k3 k5 : Option Value} {us : List Value} {Q : Value → Shared → Prop}
    (hC : hp.get? C = some (excClassObj nm q C N bs bm hdct sn sub ab col dd k0 k1 k2 k3 k5 "ValueError.__new__")) (hx : hp.get? x = some (PySem.HandSPX.excO C t0)) (hu : hp.get? u = some (kxs_mw "ValueError.__init__" x)) (hz : us.length ≤ sizeLine)
    (h : ∀ h' t1, (∀ b o, b ≠ x → hp.get? b = some o → h'.get? b = some o) → h'.get? x = some (PySem.HandSPX.excO C t1) → Q .none ⟨h', g, d, t, os⟩) : wpAny (model P w) A (call (.ref u) us) Q E ⟨hp, g, d, t, os⟩ := by
  have isMw : (Value.type "method-wrapper" == Value.type "method" || Value.type "method-wrapper" == Value.type "builtin_function_or_method" || Value.type "method-wrapper" == Value.type "method-wrapper") = true := by decide
  refine wpAny_call (codeAny_of_tree ?_)
  show wpAny _ A.in1 (callAny (.ref u) ⟨us, []⟩) _ _ _
  simp only [callAny]
  refine wpAny_bind (wpAny_load hu ?_)
  simp only [kxs_mw, isMw, if_true]
  refine KFB.if_so (by decide) (wpAny_bind (check_bound_init F.excBase_ValueError.toExcCallFacts hC hx rfl (wpAny_bind (wpAny_pure (wpAny_pure ?_)))))
  exact ⟨plainId_quiet F.excBase_ValueError.init.plain _, codeAny_builtin F.excBase_ValueError.initEntry (exc_init_tree (cls := .ref C) (t0 := t0) (dv := none) (c2 := .none) (c3 := .none) (b4 := .bool false) hx hz fun h' k e _ => h h' _ k e)⟩
end
section
variable {P : Program} {w : World} {K : Frag} {mg : Str → Option Value} {base : Heap} {CX : CXT} {C fI : Addr} {fd : FuncData} {qual fld : Str}
theorem sup_ok [px : PX P] (T : SupTxt K mg C fI fd qual fld) : FnOk P w K mg base CX 1 fI fd ["self", fld] (spSup C fld) := by
  refine ⟨fun vs H Q E h => ?_, fun A outer s H args us vs Q E hr e0 hb r h => ?_⟩
  · obtain ⟨a, v, rfl, _⟩ := h
    rfl
  obtain ⟨oc, od, dV, kV, doc, pm, an, cda, cc, ct, osl, p1, p2, msg, k, q1, q2, q3, q4, q5, q6, q7, q8, q9, q10, rfl, hln, hfI, hcd, ⟨cl1, cld1, csl1, hcc⟩, cl2, cld2, csl2, fv, tf, hcda, hfv⟩ := T.fn
  have hfile : ((P.main.file : Str) == "/claim/cut.py") = true := by rw [px.file]; decide +kernel
  have kin : K.In s.heap := e0.mod.kin.keeps fun b o e => (e0.bs b o e).1
  have lim : s.heap.NoLimit := e0.mod.nolimit.keeps fun b o e => (e0.bs b o e).1
  let NFm : NF := ⟨"__init__", qual, sA fld p1 p2, sB fld msg k q1 q2 q3 q4 q5 q6 q7 q8 q9 q10, sS fld, [("__class__", cc)], cda⟩
  refine ks_codeAny_call_defAt hr.depth (kin _ _ hfI) rfl lim (codeRec_of kin hcd) rfl hb T.sc.nocell (fun y hy => T.sc.par _ (List.of_mem_zip hy).1) (fun h₁ hns kp => ?_) rfl rfl rfl
  obtain ⟨a, v, rfl, ea, hq⟩ := h
  cases r with
  | @cons _ u0 _ ur ra rr =>
  obtain rfl : u0 = Value.ref a := ra
  cases rr with
  | @cons _ u1 _ ur' rv rn =>
  cases rn
  have hcell : s.heap.IsCell cc (some (.ref C)) := ⟨_, kin _ _ hcc, rfl⟩
  have ncc : H cc = none := (e0.bs cc _ (e0.mod.kin _ _ hcc)).2
  have CA : CellsAt NFm.cl ["__class__"] [some (V.ref C)] s.heap H := by
    refine ⟨rfl, fun y c e => ?_, fun x y c e1 e2 => ?_, fun i y e => ?_⟩
    · have z := PySem.mem_of_lookup e
      cases List.mem_singleton.mp z
      exact ⟨ncc, _, hcell⟩
    · have z1 := PySem.mem_of_lookup e1
      have z2 := PySem.mem_of_lookup e2
      cases List.mem_singleton.mp z1
      cases List.mem_singleton.mp z2
      rfl
    · cases i with
      | zero =>
        cases e
        exact ⟨cc, rfl, fun w e => by cases e; exact ⟨_, rfl, hcell⟩⟩
      | succ i => cases e
  have I : L2.Inv (ncx CX P w K mg base [("self" : Str), fld, "__class__"] NFm fI A outer s H E) [] (startF [("self" : Str), fld, "__class__"] [V.ref a, v] [some (V.ref C)]) H { s with heap := h₁, toks := s.toks + ([("self" : Str), fld].zip [Value.ref a, u1]).length } :=
    inv_startN T.sc hr.hd e0 rfl (.cons (show L2.RelV (.ref a) (.ref a) from rfl) (.cons rv .nil)) CA hns kp
  have kin1 : K.In h₁ := kin.keeps kp
  obtain ⟨nm, q, N, bs, bm, sn, sub, ab, col, dd, k0, k1, k2, k3, k5, hC, hbm⟩ := T.oex.cls
  have hcl : clsIn K C = some { name := nm, bases := bs, mro := .ref C :: bm, ns := N, qualname := q, hasDict := true, slotNames := sn, subclasses := sub, abstract := ab, collection := col, hasDel := false } := by unfold clsIn; rw [hC] <;> rfl
  have hself : ([("self" : Str), fld].zip [Value.ref a, u1]).reverse.lookup ("self" : Str) = some (.ref a) := by
    have nd : (["self", fld] : List Str).Nodup := by
      have q := T.sc.nd.sublist (List.take_sublist 2 _)
      exact q
    exact zip_look (i := 0) nd rfl rfl
  obtain ⟨t1, hx1⟩ := exo_at I.hok ea
  have gl1 := I.mod.glob.keeps I.bk
  obtain ⟨mb, hb1, hb2⟩ := I.mod.blt
  refine ks_wpAt_execs_cons (ks_wpAt_Expr_any (ks_wpAt_MethodCall (he := sup_eval _ hln) (ks_wpAt_super_base (f := fI) (cc := cda) (ar := { arg := "self", annotation := none, pos := p1 }) T.scs (T.sc.frk _ List.mem_cons_self) (by decide) rfl (kin1 _ _ hfI) rfl rfl rfl (kin1 _ _ hcda) rfl hfv hfile px.top ?_)))
  refine ks_loadName_global rfl T.scs (loadGlobal_builtin gl1 T.nsu (hb1.keeps I.bk) ((hb2 _ (by decide)).trans (by decide +kernel)) ⟨rfl, ?_⟩)
  refine wpAny_loadName_free rfl (T.sc.frk _ List.mem_cons_self) rfl ⟨_, kin1 _ _ hcc, rfl⟩ ?_
  refine wpAny_loadName_local rfl (T.sc.par _ List.mem_cons_self) hns hself ?_
  obtain ⟨oC, hoC, hdC⟩ : ∃ oC, h₁.get? C = some oC ∧ oC.data = .cls _ := ⟨_, kin1 _ _ hC, rfl⟩
  refine ks_wpAny_isType_cls hoC hdC ⟨rfl, ?_⟩
  refine ks_wpAny_call_super hoC hdC hx1 rfl (fun c z => by cases z) (looks_mroIn kin1 T.mro) (fun h2 so2 kp2 => ?_)
  have kin2 := kin1.keeps kp2
  have hx2 := kp2 _ _ hx1
  have IA : InstAt h2 a (PySem.HandSPX.excO C t1) C none := ⟨hx2, rfl, rfl, trivial⟩
  refine kxs_getMethod kxs_ValueError so2 (looks_opaque kin2 T.any) (l₀ := .ref C :: bm) (fun A Q E s k q => wpAny_bind ((looks_clsIn kin2 hcl) A _ E s k (wpAny_pure q))) rfl kin2 (by
    have z := T.sup
    unfold ks_superIn at z
    rw [hcl] at z
    exact z) (IA.type.andThen (looks_subIn kin2 T.sub)) (ks_ne kin2 IA hcl) (by decide) ?_
  have kp3 : ∀ b o, h₁.get? b = some o → (h2.push (kxs_mw "ValueError.__init__" a)).get? b = some o := fun b o e => Heap.get?_push_of_some _ (kp2 b o e)
  have I2 := I.kept (h' := h2.push (kxs_mw "ValueError.__init__" a)) (t' := s.toks + ([("self" : Str), fld].zip [Value.ref a, u1]).length + 1) kp3
  have sz : h₁.objs.size ≤ h2.objs.size := Nat.le_of_lt (Heap.lt_size so2)
  have I3 : L2.Inv (ncx CX P w K mg base [("self" : Str), fld, "__class__"] NFm fI A outer s H E) [(h2.objs.size, kxs_mw "ValueError.__init__" a)] (startF [("self" : Str), fld, "__class__"] [V.ref a, v] [some (V.ref C)]) H ⟨h2.push (kxs_mw "ValueError.__init__" a), s.gens, s.drawn, s.toks + ([("self" : Str), fld].zip [Value.ref a, u1]).length + 1, s.os⟩ := by
    refine I2.pins_of fun p hp => ?_
    cases List.mem_singleton.mp hp
    exact ⟨Heap.get?_push_size _ rfl, I.hok.fresh sz, fun z => absurd (Nat.lt_of_lt_of_le I.lt sz) (by rw [← z]; exact Nat.lt_irrefl _), I.nofs sz, fun v z => by cases z⟩
  refine kxs_callWith (i := "ValueError.__init__") (x := a) rfl (evalArgs_plain ?_)
  refine wpAny_mono ((pa_cons (X := ncx CX P w K mg base [("self" : Str), fld, "__class__"] NFm fI A outer s H E) (pe_str (x := msg) (j := k) (pos := q4)) pa_nil).run q5 _ _ _ H (fun vs H1 => vs = [.str msg] ∧ H1 = H) I3 ⟨rfl, rfl⟩) (fun us s1 h1 => ?_) fun e s' he => he
  obtain ⟨vs1, H1, I4, r1, rfl, rfl⟩ := h1
  obtain ⟨pin1, _⟩ := I4.pin _ (List.mem_append_right _ List.mem_cons_self)
  refine ⟨pin1, ?_⟩
  obtain ⟨t4, hx4⟩ := exo_at I4.hok ea
  have kin4 : K.In s1.heap := I4.kIn
  obtain ⟨hp4, g4, d4, tk4, os4⟩ := s1
  refine bw_call (kin4 _ _ hC) hx4 pin1 (by show us.length ≤ sizeLine; rw [← r1.length, sizeLine_eq]; exact (by decide : 1 ≤ 16777216)) fun h5 t5 k5 hx5 => ?_
  have J := I4.write (t' := tk4) (x := a) (e := a) (o := exo a C none) (by rw [ea]; exact True.intro) (.inl rfl) k5 ⟨_, hx5⟩ (exo_ok hx5)
  have eu : upd H1 a (exo a C none) = H1 := by
    funext b
    by_cases hb : b = a
    · rw [hb, upd_same, ea]
    · rw [upd_ne hb]
  rw [eu] at J
  have J0 := J.pins_of (pins' := []) fun p hp => absurd hp (by simp)
  have vis : ∀ x, x ∈ [("self" : Str), fld] → Vis (sS fld) x := fun x hx => .inl (T.sc.par x hx)
  refine wpAt_of_wpAny ?_
  refine wpAny_mono ((pss_one (ps_ost (X := ncx CX P w K mg base [("self" : Str), fld, "__class__"] NFm fI A outer s H1 E) (p' := q8) (pos := q10) (pe_var (i := 0) (pos := q7) rfl (vis _ List.mem_cons_self)) (pe_var (i := 1) (pos := q9) rfl (vis _ (List.mem_cons_of_mem _ List.mem_cons_self)) T.d1 T.d2))).run [] _ _ H1 { nx := fun _ H' => Q .non H', rt := Q } J0 ⟨_, rfl, _, rfl, a, C, rfl, T.oex, T.noN, .inl ⟨ea, fun dx n ne => hq dx n ne⟩⟩) (fun fl s' hs => ?_) fun e s' he => he
  have fin : ∀ {σ' : L2.St} {H' : Hp} {v' : V} {u : Value}, L2.Inv (ncx CX P w K mg base [("self" : Str), fld, "__class__"] NFm fI A outer s H1 E) [] σ' H' s' → L2.RelV v' u → Q v' H' → CE outer P w H1 s Q u s' :=
    fun {σ' H' v' u} J rv q => ⟨v', H', J.os, J.bare, J.base, J.hok, rv, q⟩
  cases fl with
  | ret u =>
    obtain ⟨v', σ', H', J, rv, q⟩ := hs
    exact fin J rv q
  | next =>
    obtain ⟨σ', H', J, q⟩ := hs
    exact fin (v' := V.non) (u := Value.none) J rfl q
  | brk => exact hs.elim fun _ z => z.elim fun _ z => False.elim z.2
  | cont => exact hs.elim fun _ z => z.elim fun _ z => False.elim z.2
end
/-- X(e) made, to be raised -/
def tMkS (C : Addr) (fld : Str) (ta : TA) : L2.St → Hp → XK → Prop := tMkO C (spSup C fld) [] ta
theorem pmk_sup {X : Cx} {P : Program} [px : PX P] (hp : X.prog = P) {C fI : Addr} {fd : FuncData} {qual fld x : Str} {e : Expr} {ta : TA} {p pos : Pos} (T : SupTxt X.K X.mg C fI fd qual fld) (hr : Room 2 X.A) (hg : Gl X x) (hm : X.mg x = some (.ref C)) (ha : PA X [e] ta)
    (hdb : (x == ("__debug__" : Str)) = false := by decide) (he : starEach [e] X.env = (false, eval e X.env) :: starEach [] X.env := by rfl) (hpl : (backTo pos (starEach [] X.env)).any (·.1) = false := by rfl) :
    PMk X (.Call (.Name x p) [e] [] pos) (tMkS C fld ta) := by
  subst hp
  exact pmk_oex (CX := CX0) (ds := []) (dvs := []) T.oex T.iC T.tI (sup_ok T) hr T.bnd .nil pass0 hg hm ha hdb he hpl
/-- what is left to show of it, its argument read -/
theorem x_mkS {C : Addr} {fld : Str} {v : V} {G : Hp} {Q : XK} (h : ∀ d, G d = none → Q (.ref C) (some d) (upd G d (.xd [(fld, v)]))) :
    [v].length ≤ 1000 ∧ ∀ a, G a = none → spSup C fld (.ref a :: ([v] ++ [])) (upd G a (exo a C none)) (fun u H2 => u = .non ∧ ∃ (d : Addr) (fs : List (Str × V)), H2 a = some (exo a C (some d)) ∧ H2 d = some (exd d fs) ∧ G d = none ∧ Q (.ref C) (some d) (upd (del H2 a) d (.xd fs))) (fun _ _ _ => False) := by
  refine ⟨Nat.le_of_ble_eq_true rfl, fun a na => ⟨a, v, rfl, upd_same, fun dx ndx ne => ⟨rfl, dx, [(fld, v)], upd_same, ?_, ?_, ?_⟩⟩⟩
  · rw [upd_ne ne, upd_same]
  · rwa [upd_ne ne] at ndx
  · have nd : G dx = none := by rwa [upd_ne ne] at ndx
    have e : upd (del (upd (upd (upd G a (exo a C none)) dx (exd dx [(fld, v)])) a (exo a C (some dx))) a) dx (.xd [(fld, v)]) = upd G dx (.xd [(fld, v)]) := by
      funext b
      by_cases h1 : b = dx
      · rw [h1, upd_same, upd_same]
      · rw [upd_ne h1, upd_ne h1]
        by_cases h2 : b = a
        · rw [h2, del_same, na]
        · rw [del_ne h2, upd_ne h2, upd_ne h1, upd_ne h2]
    rw [e]
    exact h dx nd
theorem x_tMkS {C : Addr} {fld : Str} {ta : TA} {τ : L2.St} {G : Hp} {Q : XK} (h : ta τ G fun vs H1 => vs.length ≤ 1000 ∧ ∀ a, H1 a = none → spSup C fld (.ref a :: (vs ++ [])) (upd H1 a (exo a C none))
    (fun v H2 => v = .non ∧ ∃ (d : Addr) (fs : List (Str × V)), H2 a = some (exo a C (some d)) ∧ H2 d = some (exd d fs) ∧ H1 d = none ∧ Q (.ref C) (some d) (upd (del H2 a) d (.xd fs))) (fun _ _ _ => False)) : tMkS C fld ta τ G Q := h
section
variable {X : Cx} {CX : CXT} {k : Nat} {f C : Addr} {fd : FuncData} {ps : List Str} {sp : Sp} {E : L2.St → XK} {m : Str} {p pos apos : Pos} {e o : Expr} {es : List Expr} {ta : TE} {t : TA}
/-- o.m(e, ..), what it may raise wished by the slots -/
def tMethX (C : Addr) (m : Str) (sp : Sp) (E : L2.St → XK) (ta : TE) (t : TA) : TE := fun τ G Q => ta τ G fun x G1 => ∃ a dx fs, x = .ref a ∧ G1 a = some (.ins C dx fs) ∧ fs.lookup m = none ∧ t τ G1 fun vs G2 => sp (x :: vs) G2 Q (E τ)
theorem pe_methX {pl : Sem Bool} (he : PE X o ta) (c : Cls X.K C) (hm : Meth X.K C m f) (F : FnOk X.prog X.w X.K X.mg X.base CX k f fd ps sp) (hr : Room k X.A) (hb : Binds X.K fd ps []) (hx : ∀ τ, PassesAt CX X τ (E τ)) (ha : PA X (e :: es) t)
    (hst : starEach (e :: es) X.env = (false, eval e X.env) :: starEach es X.env := by rfl) (hpl : (backTo pos (starEach es X.env)).any (·.1) = false := by rfl)
    (ht : eval (.Call (.Attribute o m apos) (e :: es) [] pos) X.env = (do
      let ov ← eval o X.env
      standAt apos.atName
      let (g, first) ← holding [ov] (getMethod ov m pl)
      callWith pos g first (backTo pos (starEach (e :: es) X.env)) (backToKw pos (keywordEach [] X.env))) := by rfl) :
    PE X (.Call (.Attribute o m apos) (e :: es) [] pos) (tMethX C m sp E ta t) := by
  refine ⟨fun pins s τ G Q I rd => PySem.W.methodCall_KW (pl := pl) (thn (he.run pins s τ G _ I rd) fun u s1 h1 => ?_) ht⟩
  obtain ⟨x, G1, I1, rx, a, dx, fs, rfl, ea, l, q⟩ := h1
  cases (show u = Value.ref a from rx)
  refine getmeth_ok I1 ea c hm l (PySem.W.callWith_K (first := [.ref a]) (h₀ := X.base) I.ok.mod.kin hm.kp (thn (ha.run pos pins s1 τ G1 _ I1 q) fun us s2 h2 => ?_) hst hpl)
  obtain ⟨vs, G2, I2, r, q2⟩ := h2
  exact ⟨I2.kIn, run_fnS (us := .ref a :: us) (vs := .ref a :: vs) F hr hb (hx τ) I2 (.cons rfl r) q2⟩
end
end SupX

/-! ### try with several clauses, each with or without a name -/
namespace L2
open PySem PySem.Spec PyProof.Rows
/-- the ends of a suite whose name's slot is emptied behind it -/
def Ends.gone (D : Ends) : Option Nat → Ends
  | none => D
  | some i => { nx := fun τ G => D.nx (τ.set i none) G, rt := D.rt, bk := fun τ G => D.bk (τ.set i none) G, ct := fun τ G => D.ct (τ.set i none) G }
def held (τ : St) (a : Addr) : Option Nat → St
  | none => τ
  | some i => τ.set i (some (.ref a))
structure MixC where
  cls : Value
  slot : Option Nat
  suite : Addr → Value → Option Addr → TS
def wMix (K : PySem.W.Frag) (Wout : WX) (D : Ends) : List MixC → WX
  | [] => Wout
  | m :: r => fun cv dv τ G => ∃ b, PySem.W.exmOne K cv m.cls = some b ∧ (b = true → ∀ a, G a = none → m.suite a cv dv (D.gone m.slot) (held τ a m.slot) G) ∧ (b = false → wMix K Wout D r cv dv τ G)
/-- a clause's name: none, or a local name in its slot -/
def NameAt (X : Cx) : Option Str → Option Nat → Prop
  | none, none => True
  | some n, some i => X.N[i]? = some n ∧ X.env.kindOf n = some .local
  | _, _ => False
inductive MixOk (X : Cx) : List ExceptHandler → List MixC → Prop
  | nil : MixOk X [] []
  | cons {x : Str} {m : MixC} {o : Option Str} {st₀ : Stmt} {sts : List Stmt} {p₁ p₂ : Pos} {hds : List ExceptHandler} {l : List MixC} (hc : Names X x m.cls) (hn : NameAt X o m.slot)
      (hs : ∀ (a : Addr) (ob : Obj) (cv : Value) (dv : Option Addr) (pn : List (Addr × Obj)), Zc cv dv ob → (∃ vs, ob.data = .fields vs) → PSs (X.suite a ((a, ob) :: pn)) (st₀ :: sts) (m.suite a cv dv)) (r : MixOk X hds l) :
      MixOk X (.ExceptHandler (some (.Name x p₁)) o (st₀ :: sts) p₂ :: hds) (m :: l)
section
variable {X : Cx} {body : List Stmt} {hd₀ : ExceptHandler} {hds : List ExceptHandler} {l : List MixC} {pos : Pos} {tb : WX → TS} {Wout : WX}
theorem ps_try_mix (hstk : X.stack = X.env :: X.outer) (hfr : X.env.frame = some X.env.locals) (nd : X.N.Nodup) (tk : Takes X Wout)
    (hb : ∀ (W : WX) (pn : List (Addr × Obj)) (xe : Value → Shared → Prop), Takes (X.tr pn xe) W → PassesOwn (model X.prog X.w) X.A X.env xe → PSs (X.tr pn xe) body (tb W))
    (hh : MixOk X (hd₀ :: hds) l) : PS X (.Try body (hd₀ :: hds) [] [] pos) (fun D τ G => tb (wMix X.K Wout D l) D τ G) := by
  refine ⟨fun pins s τ G D I rd => ?_⟩
  have okX := I.ok
  have framesX : X.A.frames = some (X.env :: X.outer) := okX.frames.trans (congrArg some hstk)
  refine wpAny_Try_except ?_
  let xe : Value → Shared → Prop := fun e s₁ => wpAny (model X.prog X.w) X.A (noteFrame e X.env) (fun _ s₂ =>
      wpAny (model X.prog X.w) X.A (setFlight e none) (fun _ s₃ =>
        wpAny (model X.prog X.w) X.A (handleBy e X.env (hd₀ :: hds)) (SP X pins D) X.xe s₃) X.xe s₂) X.xe s₁
  have tkB : Takes (X.tr (X.pn ++ pins) xe) (wMix X.K Wout D l) := by
    intro u s' caught
    obtain ⟨a, B, sI, pins', τ', G', cv, dv, rfl, J', nb, up, sky, na, os, ag, wsh⟩ := caught
    have J : Inv X pins τ' G' sI := J'.ofTry okX
    have skyX : Sky B (X.env :: X.outer) a (Zc cv dv) X.env.locals s'.heap := hstk ▸ sky
    show wpAny (model X.prog X.w) X.A (noteFrame (.ref a) X.env) _ _ _
    refine Sky.land Zc.steady framesX hfr skyX fun g3 fl3 up3 => ?_
    have J3 : Inv X pins τ' G' { s' with heap := g3 } := J.landed nb fl3.1 (up.trans up3) os ag
    obtain ⟨o3, vs3, e3, z3, d3⟩ := fl3.there
    have nfr : a ∉ frs (X.env :: X.outer) := fun m => by
      obtain ⟨_, o', e', hnf⟩ := fl3.2.2.1.mem m
      rw [e3] at e'
      cases e'
      exact hnf _ d3
    have nL : a ≠ X.env.locals := fun z => nfr (List.mem_filterMap.mpr ⟨X.env, List.mem_cons_self, hfr.trans (congrArg some z.symm)⟩)
    have nF : a ∉ X.fs := fun m => by
      obtain ⟨ev, hev, q⟩ := List.mem_filterMap.mp m
      exact nfr (List.mem_filterMap.mpr ⟨ev, List.mem_cons_of_mem _ hev, q⟩)
    have S3 := J3.suite e3 d3 na nL nF
    have go : ∀ {hs' : List ExceptHandler} {l' : List MixC}, MixOk X hs' l' → wMix X.K Wout D l' cv dv τ' G' →
        wpAny (model X.prog X.w) X.A (handleBy (.ref a) X.env hs') (SP X pins D) X.xe { s' with heap := g3 } := by
      intro hs' l' mo
      induction mo with
      | nil =>
        intro wsh
        refine wpAny_handleBy_nil ?_
        obtain ⟨_, _, _, oe, vs, T, oT, ts', he, hz, hdt, h1, hr⟩ := id fl3
        unfold PySem.passOn
        refine wpAny_bind (wpAny_field he hdt h1 ?_)
        rw [if_neg (show ¬ ((Value.ref T == Value.none) = true) from by simp)]
        have up_ : wpAny (model X.prog X.w) X.A (setFlight (.ref a) X.env.frame) (fun _ s4 =>
            wpAny (model X.prog X.w) X.A (throw (.ref a) : Sem Flow) (SP X pins D) X.xe s4) X.xe { s' with heap := g3 } := by
          rw [hfr]
          exact HandSPX.setFlight_upZ fl3 fun g4 hg4 up4 => wpAny_throw (tk _ _
            ⟨a, B, sI, pins, τ', G', cv, dv, rfl, J, nb, (up.trans up3).trans up4, .inr (.inr (hstk.symm ▸ hg4)), na, os, ag, wsh⟩)
        first
          | exact wpAny_bind (wpAny_pure (wpAny_bind up_))
          | exact wpAny_bind up_
      | @cons x m o st₀ sts p₁ p₂ hds2 l2 hc hn hsu r ih =>
        intro wsh
        obtain ⟨b, hb1, yes, no⟩ := wsh
        refine wpAny_handleBy_cons (codeAny_handlers_test ?_) (by intro q; cases q)
        have tyA : PySem.W.Looks (model X.prog X.w) g3 (typeOf (.ref a)) cv := fun A Q E s k q => wpAny_typeOf_ref (k _ _ e3) (by rw [z3.1]; exact q)
        have isA := PySem.W.exm_one (M := model X.prog X.w) (J3.kIn) tyA hb1
        have test : ∀ {Q E : Value → Shared → Prop}, Q m.cls { s' with heap := g3 } →
            wpAny (model X.prog X.w) (X.A.mark (some (.ref a))) (eval (.Name x p₁) X.env) Q E { s' with heap := g3 } := fun {Q E} q => by
          obtain ⟨hg, hdb, hm | ⟨hm, hv, hnn⟩⟩ := hc
          · exact ld_glob (X := X.suite a ((a, o3) :: (X.pn ++ pins))) S3 hg hm q hdb
          · exact ld_blt (X := X.suite a ((a, o3) :: (X.pn ++ pins))) S3 hg hm hv q hnn hdb
        refine test (isA.here ?_)
        cases b with
        | false =>
          show wpAny _ X.A (handleBy (.ref a) X.env hds2) _ _ _
          exact ih (no rfl)
        | true =>
          have rdS := yes rfl a na
          obtain ⟨mc, ms, mt⟩ := m
          cases o with
          | none =>
            cases ms with
            | some i => exact hn.elim
            | none =>
              refine codeAny_handlers_suite ?_
              refine HandSPX.lands_againZ fl3 fun g4 fl4 up4 => ?_
              have J4 : Inv X pins τ' G' { s' with heap := g4 } := J.landed nb fl4.1 ((up.trans up3).trans up4) os ag
              obtain ⟨o4, vs4, e4, z4, d4⟩ := fl4.there
              refine wpAny_mono ((hsu a o4 cv dv (X.pn ++ pins) z4 ⟨_, d4⟩).run [] _ _ G' _ (J4.suite e4 d4 na nL nF) rdS) (fun f s6 hsp => ?_) (fun _ _ z => False.elim z)
              cases f with
              | ret u => exact let ⟨v6, τ6, G6, S6, r6, q6⟩ := hsp; ⟨v6, τ6, G6, S6.unsuite okX, r6, q6⟩
              | next => exact let ⟨τ6, G6, S6, q6⟩ := hsp; ⟨τ6, G6, S6.unsuite okX, q6⟩
              | brk => exact let ⟨τ6, G6, S6, q6⟩ := hsp; ⟨τ6, G6, S6.unsuite okX, q6⟩
              | cont => exact let ⟨τ6, G6, S6, q6⟩ := hsp; ⟨τ6, G6, S6.unsuite okX, q6⟩
          | some n =>
            cases ms with
            | none => exact hn.elim
            | some i =>
              obtain ⟨hi, hln⟩ := hn
              refine codeAny_handlers_suite_as ?_
              refine HandSPX.lands_againZ fl3 fun g4 fl4 up4 => ?_
              have J4 : Inv X pins τ' G' { s' with heap := g4 } := J.landed nb fl4.1 ((up.trans up3).trans up4) os ag
              obtain ⟨o4, vs4, e4, z4, d4⟩ := fl4.there
              refine store_ok (X := X.suite a ((a, o4) :: (X.pn ++ pins))) (v := .ref a) (J4.suite e4 d4 na nL nF) nd hi (.inl hln) rfl (fun s5 S5 => ?_) (.inr hln)
              refine wpAny_mono ((hsu a o4 cv dv (X.pn ++ pins) z4 ⟨_, d4⟩).run [] s5 _ G' _ S5 rdS) (fun f s6 hsp => ?_) (fun _ _ z => False.elim z)
              have close : ∀ {τ6 : St} {G6 : Hp} {Q : Shared → Prop}, Inv (X.suite a ((a, o4) :: (X.pn ++ pins))) [] τ6 G6 s6 → (∀ s7, Inv X pins (τ6.set i none) G6 s7 → Q s7) →
                  wpAny (model X.prog X.w) X.A (do bindName X.env n .none; unbindBehindTheSuite X.env n p₂) (fun _ s7 => Q s7) X.xe s6 := fun {τ6 G6 Q} S6 hq =>
                gone_ok (S6.unsuite okX) nd hi hln hq
              cases f with
              | ret u => exact let ⟨v6, τ6, G6, S6, r6, q6⟩ := hsp; close S6 fun s7 J7 => ⟨_, _, _, J7, r6, q6⟩
              | next => exact let ⟨τ6, G6, S6, q6⟩ := hsp; close S6 fun s7 J7 => ⟨_, _, J7, q6⟩
              | brk => exact let ⟨τ6, G6, S6, q6⟩ := hsp; close S6 fun s7 J7 => ⟨_, _, J7, q6⟩
              | cont => exact let ⟨τ6, G6, S6, q6⟩ := hsp; close S6 fun s7 J7 => ⟨_, _, J7, q6⟩
    exact go hh wsh
  refine wpAny_mono ((hb (wMix X.K Wout D l) (X.pn ++ pins) xe tkB PassesOwn.looking).run [] s τ G D (I.toTry _) rd) (fun f s1 hsp => ?_) (fun e s1 he => he)
  cases f with
  | ret u => exact let ⟨v, τ', G', J', r, q⟩ := hsp; ⟨v, τ', G', J'.ofTry okX, r, q⟩
  | next => exact let ⟨τ', G', J', q⟩ := hsp; wpAny_execs_nil ⟨τ', G', J'.ofTry okX, q⟩
  | brk => exact let ⟨τ', G', J', q⟩ := hsp; ⟨τ', G', J'.ofTry okX, q⟩
  | cont => exact let ⟨τ', G', J', q⟩ := hsp; ⟨τ', G', J'.ofTry okX, q⟩
end
end L2

/-! ### tuples of the same items compared -/
namespace L2
open PySem PySem.Spec PyProof.Rows
def plainV : V → Bool
  | .non | .bl _ | .int _ | .str _ | .ref _ => true
  | _ => false
theorem eqAt_plain {A : Around} {s : Shared} {v : V} {u w : Value} (h : plainV v = true) (ru : RelV v u) (rw' : RelV v w) : SeqAt.EqAt A s u w true := by
  cases v with
  | non =>
    cases (show u = Value.none from ru)
    cases (show w = Value.none from rw')
    exact SeqAt.EqAt.same _
  | bl b =>
    cases (show u = Value.bool b from ru)
    cases (show w = Value.bool b from rw')
    exact SeqAt.EqAt.same _
  | ref a =>
    cases (show u = Value.ref a from ru)
    cases (show w = Value.ref a from rw')
    exact SeqAt.EqAt.same _
  | int i =>
    obtain ⟨t, rfl⟩ := (show ∃ t, u = Value.int i t from ru)
    obtain ⟨t', rfl⟩ := (show ∃ t, w = Value.int i t from rw')
    have := SeqAt.EqAt.int_int (A := A) (s := s) i t i t'
    rwa [beq_self_eq_true] at this
  | str x =>
    obtain ⟨t, rfl⟩ := (show ∃ t, u = Value.str x t from ru)
    obtain ⟨t', rfl⟩ := (show ∃ t, w = Value.str x t from rw')
    have := SeqAt.EqAt.str_str (A := A) (s := s) x t x t'
    rwa [beq_self_eq_true] at this
  | byt b => cases h
  | flt b => cases h
  | ty n => cases h
def rEqS (K : PySem.W.Frag) : R2 := fun x y H Q => ∃ a b xs, x = .ref a ∧ y = .ref b ∧ SqT K H a xs ∧ SqT K H b xs ∧ (∀ v ∈ xs, plainV v = true) ∧ Q (.bl true) H
def rNeS (K : PySem.W.Frag) : R2 := fun x y H Q => ∃ a b xs, x = .ref a ∧ y = .ref b ∧ SqT K H a xs ∧ SqT K H b xs ∧ (∀ v ∈ xs, plainV v = true) ∧ Q (.bl false) H
section
variable {X : Cx} {pins : List (Addr × Obj)} {σ : St} {H : Hp} {s : Shared}
theorem tup_same {a b : Addr} {xs : List V} (I : Inv X pins σ H s) (h1 : SqT X.K H a xs) (h2 : SqT X.K H b xs) (ok : ∀ v ∈ xs, plainV v = true) :
    ∃ us ws : List Value, s.heap.IsTuple a us.toArray ∧ s.heap.IsTuple b ws.toArray ∧ us.length = ws.length ∧ ∀ A j (g1 : j < us.toArray.size) (g2 : j < ws.toArray.size), SeqAt.EqAt A s us.toArray[j] ws.toArray[j] ((fun _ => true) j) := by
  obtain ⟨us, r1, ⟨o1, e1, c1, n1, d1⟩, _⟩ := I.tuple h1
  obtain ⟨ws, r2, ⟨o2, e2, c2, n2, d2⟩, _⟩ := I.tuple h2
  refine ⟨us, ws, ⟨o1, e1, c1, n1, d1⟩, ⟨o2, e2, c2, n2, d2⟩, r1.length.symm.trans r2.length, fun A j g1 g2 => ?_⟩
  have g1' : j < us.length := by simpa using g1
  have hj : j < xs.length := by rw [r1.length]; exact g1'
  obtain ⟨u, hu, ru⟩ := r1.get (List.getElem?_eq_getElem hj)
  obtain ⟨w, hw, rw'⟩ := r2.get (List.getElem?_eq_getElem hj)
  obtain ⟨_, eu⟩ := List.getElem?_eq_some_iff.mp hu
  obtain ⟨_, ew⟩ := List.getElem?_eq_some_iff.mp hw
  have e3 : us.toArray[j] = u := by simpa using eu
  have e4 : ws.toArray[j] = w := by simpa using ew
  rw [e3, e4]
  exact eqAt_plain (ok _ (List.getElem_mem hj)) ru rw'
theorem all_true {n m : Nat} (h : n = m) : ((List.range (min n m)).all (fun _ => true) && n == m) = true := by
  subst h
  simp
theorem op_eqS (hu : X.A.units < cLine) : OpR X (compareOp .Eq) (rEqS X.K) := by
  intro pins s σ H x y v u Q I rx ry h
  obtain ⟨a, b, xs, rfl, rfl, h1, h2, ok, q⟩ := h
  cases (show v = Value.ref a from rx)
  cases (show u = Value.ref b from ry)
  obtain ⟨us, ws, t1, t2, l, e⟩ := tup_same I h1 h2 ok
  refine SeqAt.RcAt.tuples t1 t2 hu (e := fun _ => true) (fun j g1 g2 => e _ j g1 g2) X.prog X.w _ _ ?_
  rw [all_true (by simpa using l)]
  exact ⟨.bl true, H, I, rfl, q⟩
theorem op_neS (hu : X.A.units < cLine) : OpR X (compareOp .NotEq) (rNeS X.K) := by
  intro pins s σ H x y v u Q I rx ry h
  obtain ⟨a, b, xs, rfl, rfl, h1, h2, ok, q⟩ := h
  cases (show v = Value.ref a from rx)
  cases (show u = Value.ref b from ry)
  obtain ⟨us, ws, t1, t2, l, e⟩ := tup_same I h1 h2 ok
  refine SeqAt.RcNeAt.tuples t1 t2 hu (e := fun _ => true) (fun j g1 g2 => e _ j g1 g2) X.prog X.w _ _ ?_
  rw [all_true (by simpa using l)]
  exact ⟨.bl false, H, I, rfl, q⟩
end
end L2
namespace M
open PySem PySem.Spec PyProof.Rows L2
theorem w_eqS {X : Cx} {K : PySem.W.Frag} (h : X.K = K) (hu : X.A.units < cLine) : OpR X (compareOp .Eq) (rEqS K) := by subst h; exact op_eqS hu
theorem w_neS {X : Cx} {K : PySem.W.Frag} (h : X.K = K) (hu : X.A.units < cLine) : OpR X (compareOp .NotEq) (rNeS K) := by subst h; exact op_neS hu
theorem x_tryMix {c : Value} {K : PySem.W.Frag} {D : Ends} {l : List MixC} {m : MixC} {Wout : WX} {cv : Value} {dv : Option Addr} {τ : L2.St} {G : Hp} (e : PySem.W.exmOne K cv m.cls = some true) (h : ∀ a, G a = none → m.suite a cv dv (D.gone m.slot) (held τ a m.slot) G) : wMix K Wout D (m :: l) cv dv τ G :=
  ⟨true, e, fun _ => h, fun z => nomatch z⟩
theorem x_tryMixN {K : PySem.W.Frag} {D : Ends} {l : List MixC} {m : MixC} {Wout : WX} {cv : Value} {dv : Option Addr} {τ : L2.St} {G : Hp} (e : PySem.W.exmOne K cv m.cls = some false) (h : wMix K Wout D l cv dv τ G) : wMix K Wout D (m :: l) cv dv τ G :=
  ⟨false, e, (fun z => nomatch z), fun _ => h⟩
theorem exm_pair {K : PySem.W.Frag} {x y : Addr} {b : Bool} (h1 : PySem.W.subIn K (.ref y) (.type "BaseException") = some true) (h2 : PySem.W.isClsIn K y = true) (h3 : PySem.W.typeIn K (.ref y) = some (.type "type")) (h4 : PySem.W.subIn K (.ref x) (.ref y) = some b) :
    PySem.W.exmOne K (.ref x) (.ref y) = some b := by
  unfold PySem.W.exmOne
  rw [h1]
  show PySem.W.kitCls K (.ref x) (.ref y) = some b
  unfold PySem.W.kitCls
  show (if ((PySem.W.clsIn K y).isSome && PySem.W.typeIn K (.ref y) == some (.type "type")) = true then _ else _) = _
  rw [h3]
  have : (PySem.W.clsIn K y).isSome = true := h2
  rw [this]
  exact h4
end M

set_option Elab.async false
set_option linter.all false
set_option maxRecDepth 100000
set_option maxHeartbeats 2000000
/-! own errors without an __init__ of their own; isinstance of a caught one -/
namespace SupX
open PySem PySem.Spec PyProof.Rows L2 PySem.W PySem.Calls
abbrev bmVE : List Value := [.type "ValueError", .type "Exception", .type "BaseException", .type "object"]
/-- what the written part says of such a class -/
structure PlnTxt (K : Frag) (C : Addr) : Prop where
  exc : excIn K C bmVE "ValueError.__new__" = true
  kp : keepIn K (.ref C) = true
  sb : subIn K (.ref C) (.type "BaseException") = some true
  ty : typeIn K (.ref C) = some (.type "type")
  isc : L2.ExcC K C
section
variable {X : Cx} {C : Addr}
/-- X() -/
theorem pmk_own0 {K : Frag} {x : Str} {p pos : Pos} (hK : X.K = K) (T : PlnTxt K C) (gC : X.mg x = some (.ref C)) (hg : Gl X x) (hdb : (x == ("__debug__" : Str)) = false := by decide) :
    PMk X (.Call (.Name x p) [] [] pos) (fun _ H Q => Q (.ref C) none H) := by
  subst hK
  intro pins s σ H Q I h
  refine wpAny_Call_Name_kw (ld_glob I hg gC ?_ hdb)
  refine PySem.W.callWith_K0 I.kIn T.kp ?_
  show wpAny _ _ (call (.ref C) []) _ _ _
  obtain ⟨bm, N, nm, qn, bs, hdct, sn, sub, ab, col, dd, k0, k1, k2, k3, k5, mN, hC, hN, hni, TT⟩ := exc_obj I.kIn T.exc
  refine wpAny_call_exc_subT PySem.F.excBase_ValueError TT hC hN hni (fun h' e hm => ?_) (Nat.zero_le _)
  exact mk_of I hm (raises_own T.sb T.ty) h (I.hok.gone hm.new)
/-- isinstance(e, c), e the error that the suite holds, of whatever class it is -/
def rIsX (K : Frag) (cv : Value) (dv : Option Addr) (a : Addr) : List V → Hp → VK → Prop := fun xs H Q => ∃ (D : Addr) (c : V) (u : Value) (b : Bool), cv = .ref D ∧ dv = none ∧ L2.ExcC K D ∧ xs = [.ref a, c] ∧ (∀ z, RelV c z → z = u) ∧ kitOne K (.ref D) u = some b ∧ Q (.bl b) H
theorem cl_isX {K : Frag} {a : Addr} {cv : Value} {dv : Option Addr} {oe : Obj} {pn : List (Addr × Obj)} (hK : X.K = K) (hz : Zc cv dv oe) (hf : ∃ vs, oe.data = .fields vs) : CallR (X.suite a ((a, oe) :: pn)) (.builtin "isinstance") (rIsX K cv dv a) := by
  subst hK
  intro pins s σ H xs us Q I r h
  obtain ⟨D, c, u, b, rfl, rfl, C, rfl, hcv, e, q⟩ := h
  exact call_isE C hz hf pins s σ H [.ref a, c] us Q I r ⟨c, u, b, rfl, hcv, e, q⟩
theorem x_isX {K : Frag} {D E a : Addr} {Q : VK} {H : Hp} {b : Bool} (C : L2.ExcC K D) (e : kitOne K (.ref D) (.ref E) = some b) (q : Q (.bl b) H) : rIsX K (.ref D) none a [.ref a, .ref E] H Q := ⟨D, _, .ref E, b, rfl, rfl, C, rfl, (fun z h => h), e, q⟩
theorem x_isXT {K : Frag} {D a : Addr} {n : String} {Q : VK} {H : Hp} {b : Bool} (C : L2.ExcC K D) (e : kitOne K (.ref D) (.type n) = some b) (q : Q (.bl b) H) : rIsX K (.ref D) none a [.ref a, .ty n] H Q := ⟨D, _, .type n, b, rfl, rfl, C, rfl, (fun z h => h), e, q⟩
end
theorem kit_own {K : Frag} {D E : Addr} (h1 : isClsIn K E = true) (h2 : typeIn K (.ref E) = some (.type "type")) (h3 : subIn K (.ref D) (.ref E) = some true) : kitOne K (.ref D) (.ref E) = some true := by
  unfold kitOne
  split
  · rfl
  · unfold kitCls
    show (if ((clsIn K E).isSome && typeIn K (.ref E) == some (.type "type")) = true then _ else _) = _
    rw [h2]
    have : (clsIn K E).isSome = true := h1
    rw [this]
    exact h3
theorem kit_VE {K : Frag} {D : Addr} (h3 : subIn K (.ref D) (.type "ValueError") = some true) : kitOne K (.ref D) (.type "ValueError") = some true := by
  unfold kitOne
  split
  · rfl
  · show (if kitMeta "ValueError" = true then subIn K (.ref D) (.type "ValueError") else none) = _
    rw [if_pos (by decide +kernel : kitMeta "ValueError" = true)]
    exact h3
end SupX

set_option Elab.async false
set_option linter.all false
set_option maxRecDepth 100000
set_option maxHeartbeats 2000000
/-! t[::-1] of a tuple -/
namespace HT
open PySem PyProof.Rows PySem.MeetsSeq
theorem rev_adjust (n : Nat) : Builtin.Slice.sliceAdjust none none (-1) (n : Int) = ((n : Int) - 1, -1) := by
  unfold Builtin.Slice.sliceAdjust
  simp
theorem rev_places (n : Nat) : Builtin.Slice.slicePlaces ((n : Int) - 1) (-1) (-1) = n := by
  unfold Builtin.Slice.slicePlaces
  rw [if_neg (by omega)]
  by_cases h : n = 0
  · subst h; rfl
  · rw [if_pos (by omega)]
    have : ((n : Int) - 1 - -1 - 1) / (- -1) + 1 = n := by
      have e : (- -1 : Int) = 1 := by decide
      rw [e, Int.ediv_one]; omega
    rw [this, Int.toNat_natCast]
theorem rev_pick (xs : Array Value) : ((List.range xs.size).filterMap fun (k : Nat) => xs[((xs.size : Int) - 1 + (k : Int) * (-1)).toNat]?).toArray = xs.toList.reverse.toArray := by
  have e : ∀ k ∈ List.range xs.size, xs[((xs.size : Int) - 1 + (k : Int) * (-1)).toNat]? = xs[xs.size - 1 - k]? := fun k hk => by
    have := List.mem_range.mp hk
    have : ((xs.size : Int) - 1 + (k : Int) * (-1)).toNat = xs.size - 1 - k := by omega
    rw [this]
  have e2 : ((List.range xs.size).filterMap fun (k : Nat) => xs[((xs.size : Int) - 1 + (k : Int) * (-1)).toNat]?) = ((List.range xs.size).map fun k => xs.size - 1 - k).filterMap (xs[·]?) := by
    rw [List.filterMap_map]
    have : ∀ l : List Nat, (∀ k ∈ l, xs[((xs.size : Int) - 1 + (k : Int) * (-1)).toNat]? = xs[xs.size - 1 - k]?) → (l.filterMap fun (k : Nat) => xs[((xs.size : Int) - 1 + (k : Int) * (-1)).toNat]?) = l.filterMap ((fun x => xs[x]?) ∘ fun k => xs.size - 1 - k) := by
      intro l
      induction l with
      | nil => intro _; rfl
      | cons a l ih =>
        intro h
        rw [List.filterMap_cons, List.filterMap_cons, h a List.mem_cons_self, ih fun k hk => h k (List.mem_cons_of_mem _ hk)]
        rfl
    exact this _ e
  rw [e2, PySem.W.krv_range, List.filterMap_reverse, PySem.W.krv_all]
section
variable {prog : Program} {w : World} {A : Around} {E : Value → Shared → Prop} {s : Shared}
theorem getItem_tuple_rev {t sl : Addr} {items : Array Value} {vs : Value} {Q : Value → Shared → Prop} (ht : IsTup s.heap t items) (hs : s.heap.IsSliceOf sl .none .none vs) (ps : IsPart vs (some (-1)))
    (h : Q (.ref s.heap.objs.size) { s with heap := s.heap.push { cls := .type "tuple", data := .seq items.toList.reverse.toArray } })
    (hsz : items.size ≤ sizeLine) : wpAny (model prog w) A (getItem (.ref t) (.ref sl)) Q E s := by
  have htake : sizeOk (.seq items.toList.reverse.toArray) := by
    show items.toList.reverse.toArray.size ≤ sizeLine
    rw [List.size_toArray, List.length_reverse, Array.length_toList]
    exact hsz
  obtain ⟨os, hos, hcs, hds⟩ := id hs
  have hTs : s.TypeIs (.ref sl) "slice" := ⟨os, hos, hcs⟩
  unfold getItem
  try with_reducible refine wpAny_holding ?_
  first | refine wpAny_bind (wpAny_pure ?_) | skip
  refine wpAny_bind (wpAny_sequenceKey ht.typeIs (by decide) ?_)
  refine wpAny_bind (wpAny_callSpecial?_slot (name := Str.ofString "__getitem__") ht.typeIs PyProof.Rows.slot_tuple_getitem
    (wpAny_call_entry PyProof.Rows.slot_tuple_getitem ht.typeIs entry_tuple_getitem ?_ (args_tuple_getitem _ _)))
  show wpAny _ _ (Builtin.Tuple.tupleItemsOf (.ref t) >>= _) _ _ s
  refine wpAny_bind (tupleItemsOf_ ht ?_)
  refine wpAny_bind (wpAny_typeOf hTs ?_)
  rw [if_pos (by decide)]
  have ap : ∀ {Q' : Int × Int × Nat → Shared → Prop} {A' : Around} {E' : Value → Shared → Prop}, Q' ((items.size : Int) - 1, -1, items.size) s → wpAny (model prog w) A' (Builtin.Slice.sliceApplied (.ref sl) (pure (items.size : Int))) Q' E' s := by
    intro Q' A' E' q
    unfold Builtin.Slice.sliceApplied Builtin.Slice.sliceFields
    refine wpAny_bind (wpAny_bind (wpAny_field hos hds (x := .none) rfl (wpAny_bind (wpAny_field hos hds (x := .none) rfl (wpAny_bind (wpAny_field hos hds (x := vs) rfl (wpAny_pure ?_)))))))
    refine wpAny_bind (slicePart_ ps ?_)
    show wpAny _ _ (if ((-1 : Int) == 0) = true then _ else _) _ _ s
    rw [if_neg (by decide)]
    refine wpAny_bind (slicePart_none (wpAny_bind (slicePart_none (wpAny_bind (wpAny_pure ?_)))))
    show wpAny _ _ (match Builtin.Slice.sliceAdjust none none (-1) (items.size : Int) with | (lo, hi) => pure (lo, (-1 : Int), Builtin.Slice.slicePlaces lo hi (-1))) _ _ s
    rw [rev_adjust]
    show wpAny _ _ (pure ((items.size : Int) - 1, (-1 : Int), Builtin.Slice.slicePlaces ((items.size : Int) - 1) (-1) (-1))) _ _ s
    rw [rev_places]
    exact wpAny_pure q
  refine wpAny_bind (ap ?_)
  have hno : ¬ (((items.size : Int) - 1 == 0 && (-1 : Int) == 1 && items.size == items.size) = true) := by simp
  show wpAny _ _ (if ((items.size : Int) - 1 == 0 && (-1 : Int) == 1 && items.size == items.size) = true then _ else _) _ _ s
  rw [if_neg hno, rev_pick]
  first
    | exact wpAny_bind (m := Builtin.Tuple.tupleExact _) (wpAny_newObj_type (wpAny_pure ⟨_, rfl, wpAny_pure h⟩) htake)
    | exact wpAny_bind (m := Builtin.Tuple.tupleExact _) (wpAny_newObj_type (wpAny_bind (wpAny_pure (wpAny_pure ⟨_, rfl, wpAny_pure h⟩))) htake)
    | exact wpAny_bind (wpAny_bind (m := Builtin.Tuple.tupleExact _) (wpAny_newObj_type (wpAny_pure (wpAny_pure ⟨_, rfl, wpAny_pure h⟩)) htake))
    | exact wpAny_bind (wpAny_bind (m := Builtin.Tuple.tupleExact _) (wpAny_newObj_type (wpAny_pure ⟨_, rfl, wpAny_pure h⟩) htake))
end
end HT
namespace L2
open PySem PySem.Spec PyProof.Rows
variable {X : Cx}
def tRevT (K : PySem.W.Frag) (te : TE) : TE := fun σ H Q => te σ H fun x H1 => ∃ a xs, x = .ref a ∧ SqT K H1 a xs ∧ ∀ p, H1 p = none → Q (.ref p) (upd H1 p (.tup xs.reverse))
theorem pe_revT {e : Expr} {te : TE} {k : Nat} {p1 p2 p3 pos : Pos} (he : PE X e te) : PE X (.Subscript e (.Slice none none (some (.UnaryOp .USub (.Constant (.int 1) k p1) p2)) p3) pos) (tRevT X.K te) := by
  refine ⟨fun pins s σ H Q I h => ?_⟩
  refine Subscript_ (thn (he.run pins s σ H _ I h) fun v s1 ⟨x, H1, I1, r1, q1⟩ => ?_)
  obtain ⟨a, xs, ex, hx, q⟩ := q1
  subst ex
  cases r1
  have hst : PO X (some (.UnaryOp .USub (.Constant (.int 1) k p1) p2)) (tPart (tUn (rU fun i => .int (-i)) (tC (.int 1)))) := po_some (pe_un un_neg pe_int)
  refine wpAny_Slice ?_
  refine wpAny_mono (po_none.run pins s1 σ H1 (fun o H2 => o = none ∧ H2 = H1) I1 ⟨rfl, rfl⟩) (fun vl s2 hh => ?_) fun _ _ z => z
  obtain ⟨l, H2, I2, pl, el, e2⟩ := hh
  subst el e2
  refine thn (po_none.run pins s2 σ H2 (fun o H3 => o = none ∧ H3 = H2) I2 ⟨rfl, rfl⟩) fun vu s3 ⟨u, H3, I3, pu, eu, e3⟩ => ?_
  subst eu e3
  refine thn (hst.run pins s3 σ H3 (fun o H4 => o = some (-1) ∧ H4 = H3) I3 ⟨1, rfl, -1, rfl, rfl, rfl⟩) fun vs s4 ⟨o, H4, I4, ps, eo, e4⟩ => ?_
  subst eo e4
  have I5 : Inv X pins σ H4 { s4 with heap := s4.heap.push { cls := .type "slice", data := .fields #[vl, vu, vs] } } := I4.kept (t' := s4.toks) fun b ob q => Heap.get?_push_of_some _ q
  obtain ⟨its, r, ht, hz⟩ := I5.tuple hx
  have hlen := r.length
  have ev : vl = .none := by cases pl; rfl
  have eu : vu = .none := by cases pu; rfl
  subst ev eu
  show wpAny (model X.prog X.w) X.A (subscriptTail e (.Slice none none (some (.UnaryOp .USub (.Constant (.int 1) k p1) p2)) p3) (.ref a) (.ref s4.heap.objs.size)) (EP X pins σ Q) X.xe { s4 with heap := s4.heap.push { cls := .type "slice", data := .fields #[.none, .none, vs] } }
  refine tail_any (ops := [.ref a, .ref s4.heap.objs.size]) ht.typeIs (PyProof.Rows.slot_tuple_getitem.lookup) ?_ (by with_unfolding_all rfl)
  refine HT.getItem_tuple_rev ht (Heap.IsSliceOf.new _ .none .none vs) ps ?_ (by rw [List.size_toArray, ← hlen]; exact hz)
  refine ⟨.ref _, _, I5.laid (t' := s4.toks) (o := .tup xs.reverse) (fun b ob q => Heap.get?_push_of_some _ q) (Nat.le_refl _) ?_, rfl, q _ (I5.hok.fresh (Nat.le_refl _))⟩
  exact ⟨by rw [List.length_reverse]; exact hz, _, r.reverse, IsTup.new _ _⟩
theorem w_revT {K : PySem.W.Frag} {e : Expr} {te : TE} {k : Nat} {p1 p2 p3 pos : Pos} (h : X.K = K) (he : PE X e te) : PE X (.Subscript e (.Slice none none (some (.UnaryOp .USub (.Constant (.int 1) k p1) p2)) p3) pos) (tRevT K te) := by subst h; exact pe_revT he
end L2

open PySem PySem.Spec PyProof.Rows L2 M
/-! one step of a reading that asks nothing -/
local macro_rules | `(tactic| walk_at "rd1") => `(tactic| first
  | with_reducible (refine x_seq ?_)
  | with_reducible (refine x_c ?_)
  | ((with_reducible refine' x_var ?h ?k); (case h => exact rfl))
  | with_reducible (refine x_op ?_)
  | with_reducible (refine x_I0 ?_)
  | with_reducible (refine x_asg ?_)
  | ((with_reducible refine' x_name ?h ?k); (case h => (first | (simp only [List.set_cons_zero, List.set_cons_succ]; rfl) | simp only [List.set_cons_zero, List.set_cons_succ] | rfl)))
  | with_reducible (refine x_ifS ?_)
  | with_reducible (refine x_test ?_)
  | with_reducible (refine x_bl ?_)
  | with_reducible (refine x_B ?_)
  | ((with_reducible refine x_eq ?h ?k); (case h => exact rfl))
  | ((with_reducible refine x_ne ?h ?k); (case h => exact rfl))
  | with_reducible (refine x_and ?_)
  | with_reducible (refine x_or ?_)
  | with_reducible (refine x_not ?_)
  | with_reducible (refine x_andV ?_)
  | with_reducible (refine x_orV ?_)
  | with_reducible (refine x_notV ?_)
  | with_reducible (refine x_if ?_)
  | with_reducible (refine x_chain ?_)
  | with_reducible (refine x_CB ?_)
  | with_reducible (refine x_cons ?_)
  | with_reducible (refine x_nil ?_)
  | with_reducible (refine x_tup ?_)
  | with_reducible (refine x_lst ?_)
  | with_reducible (refine x_call ?_)
  | with_reducible (refine x_ret ?_)
  | with_reducible (refine x_retN ?_)
  | with_reducible (refine x_drop ?_)
  | with_reducible (refine x_next ?_)
  | with_reducible (refine x_break ?_)
  | with_reducible (refine x_cont ?_)
  | with_reducible (refine x_sub ?_)
  | with_reducible (refine x_gnil ?_)
  | with_reducible (refine x_gcons ?_)
  | with_reducible (refine x_par ?_)
  | with_reducible (refine x_un ?_)
  | with_reducible (refine x_U ?_)
  | ((with_reducible refine' x_aug ?h ?k); (case h => exact rfl))
  | with_reducible (refine x_ipI ?_)
  | with_reducible (refine x_dput ?_)
  | with_reducible (refine x_dget ?_)
  | with_reducible (refine x_din ?_)
  | with_reducible (refine x_dnotin ?_)
  | with_reducible (refine x_bm ?_)
  | with_reducible (refine x_bm0 ?_)
  | with_reducible (refine x_sl ?_)
  | with_reducible (refine x_nopart ?_)
  | with_reducible (refine x_part ?_)
  | with_reducible (refine x_int ?_)
  | with_reducible (refine x_leS ?_)
  | with_reducible (refine x_isNo ?_)
  | with_reducible (refine x_notNo ?_)
  | with_reducible (refine x_min2 ?_)
  | with_reducible (refine x_max2 ?_)
  | with_reducible (refine x_abs ?_)
  | with_reducible (refine x_cint ?_)
  | with_reducible (refine x_cintB ?_)
  | with_reducible (refine x_par2 ?_)
  | with_reducible (refine x_for ?_)
  | with_reducible (refine x_iStr ?_)
  | with_reducible (refine x_str ?_)
  | with_reducible (refine x_iRng1 ?_)
  | with_reducible (refine x_iRng2 ?_)
  | with_reducible (refine x_iList ?_)
  | with_reducible (refine x_iTup ?_)
  | with_reducible (refine x_iKeys ?_)
  | with_reducible (refine x_iVals ?_)
  | with_reducible (refine x_iItems ?_)
  | (refine x_gtup (Or.inl (Or.inl upd_same)) rfl ?_)
  | with_reducible (refine x_lc ?_)
  | with_reducible (refine x_yes ?_)
  | with_reducible (refine x_sfld ?_)
  | with_reducible (refine x_fld ?_)
  | with_reducible (refine x_nt ?_)
  | with_reducible (refine x_nf ?_)
  | with_reducible (refine iteT ?_)
  | with_reducible (refine iteF ?_))
local macro_rules | `(tactic| walk_at "rd") => `(tactic| repeat (walk_at "rd1"))
local macro_rules | `(tactic| walk_at "if!") => `(tactic| first
  | refine x_true (by decide +kernel) ?_
  | refine x_false (by decide +kernel) ?_
  | refine x_true (by rfl) ?_
  | refine x_false (by rfl) ?_)

namespace M
open PySem PySem.Spec PyProof.Rows L2
def topS (i : Nat) : Stmt := PySem.Challenge.pw_ownshares_k47_what_comes_after.main.body.getD i (.Pass ⟨0, 0, 0, 0⟩)
abbrev s_is_integer : Stmt := topS 1
abbrev N_is_integer : List Str := ["thing"]
abbrev P_is_integer : List Str := ["thing"]
theorem sc_is_integer : FnScope N_is_integer P_is_integer (defScope s_is_integer) := ⟨rfl, rfl, rfl, by decide +kernel, rfl, by decide +kernel, by decide +kernel⟩
abbrev s_is_name : Stmt := topS 2
abbrev N_is_name : List Str := ["thing", "char"]
abbrev P_is_name : List Str := ["thing"]
theorem sc_is_name : FnScope N_is_name P_is_name (defScope s_is_name) := ⟨rfl, rfl, rfl, by decide +kernel, rfl, by decide +kernel, by decide +kernel⟩
abbrev s_is_pair : Stmt := topS 3
abbrev N_is_pair : List Str := ["thing"]
abbrev P_is_pair : List Str := ["thing"]
theorem sc_is_pair : FnScope N_is_pair P_is_pair (defScope s_is_pair) := ⟨rfl, rfl, rfl, by decide +kernel, rfl, by decide +kernel, by decide +kernel⟩
abbrev s_is_moves : Stmt := topS 20
abbrev N_is_moves : List Str := ["thing", "names", "move", "to"]
abbrev P_is_moves : List Str := ["thing", "names"]
theorem sc_is_moves : FnScope N_is_moves P_is_moves (defScope s_is_moves) := ⟨rfl, rfl, rfl, by decide +kernel, rfl, by decide +kernel, by decide +kernel⟩
abbrev s_is_draws : Stmt := topS 21
abbrev N_is_draws : List Str := ["thing", "names", "draw", "pair"]
abbrev P_is_draws : List Str := ["thing", "names"]
theorem sc_is_draws : FnScope N_is_draws P_is_draws (defScope s_is_draws) := ⟨rfl, rfl, rfl, by decide +kernel, rfl, by decide +kernel, by decide +kernel⟩
abbrev s_is_stand : Stmt := topS 22
abbrev N_is_stand : List Str := ["thing", "hands", "names"]
abbrev P_is_stand : List Str := ["thing", "hands", "names"]
theorem sc_is_stand : FnScope N_is_stand P_is_stand (defScope s_is_stand) := ⟨rfl, rfl, rfl, by decide +kernel, rfl, by decide +kernel, by decide +kernel⟩
abbrev s_are_stands : Stmt := topS 23
abbrev N_are_stands : List Str := ["thing", "hands", "name", "stand"]
abbrev P_are_stands : List Str := ["thing", "hands"]
theorem sc_are_stands : FnScope N_are_stands P_are_stands (defScope s_are_stands) := ⟨rfl, rfl, rfl, by decide +kernel, rfl, by decide +kernel, by decide +kernel⟩
abbrev s_copied : Stmt := topS 24
abbrev N_copied : List Str := ["stand", "steps", "ordered", "step"]
abbrev P_copied : List Str := ["stand"]
theorem sc_copied : FnScope N_copied P_copied (defScope s_copied) := ⟨rfl, rfl, rfl, by decide +kernel, rfl, by decide +kernel, by decide +kernel⟩
abbrev s_leads : Stmt := topS 25
abbrev N_leads : List Str := ["work", "stand", "row", "step"]
abbrev P_leads : List Str := ["work", "stand"]
theorem sc_leads : FnScope N_leads P_leads (defScope s_leads) := ⟨rfl, rfl, rfl, by decide +kernel, rfl, by decide +kernel, by decide +kernel⟩
abbrev s_is_ringless : Stmt := topS 26
abbrev N_is_ringless : List Str := ["work", "left", "settled", "going", "rest", "name", "to"]
abbrev P_is_ringless : List Str := ["work"]
theorem sc_is_ringless : FnScope N_is_ringless P_is_ringless (defScope s_is_ringless) := ⟨rfl, rfl, rfl, by decide +kernel, rfl, by decide +kernel, by decide +kernel⟩
abbrev s_Work_init : Stmt := inClass (topS 27) 0
abbrev N_Work_init : List Str := ["self", "hands", "start", "stands", "name"]
abbrev P_Work_init : List Str := ["self", "hands", "start", "stands"]
theorem sc_Work_init : FnScope N_Work_init P_Work_init (defScope s_Work_init) := ⟨rfl, rfl, rfl, by decide +kernel, rfl, by decide +kernel, by decide +kernel⟩
abbrev s_Work_row : Stmt := inClass (topS 27) 3
abbrev N_Work_row : List Str := ["self", "stand"]
abbrev P_Work_row : List Str := ["self", "stand"]
theorem sc_Work_row : FnScope N_Work_row P_Work_row (defScope s_Work_row) := ⟨rfl, rfl, rfl, by decide +kernel, rfl, by decide +kernel, by decide +kernel⟩
abbrev s_Work_kind : Stmt := inClass (topS 27) 4
abbrev N_Work_kind : List Str := ["self", "stand"]
abbrev P_Work_kind : List Str := ["self", "stand"]
theorem sc_Work_kind : FnScope N_Work_kind P_Work_kind (defScope s_Work_kind) := ⟨rfl, rfl, rfl, by decide +kernel, rfl, by decide +kernel, by decide +kernel⟩
abbrev s_Work_mover : Stmt := inClass (topS 27) 5
abbrev N_Work_mover : List Str := ["self", "stand", "row"]
abbrev P_Work_mover : List Str := ["self", "stand"]
theorem sc_Work_mover : FnScope N_Work_mover P_Work_mover (defScope s_Work_mover) := ⟨rfl, rfl, rfl, by decide +kernel, rfl, by decide +kernel, by decide +kernel⟩
abbrev s_Work_steps : Stmt := inClass (topS 27) 6
abbrev N_Work_steps : List Str := ["self", "stand", "row"]
abbrev P_Work_steps : List Str := ["self", "stand"]
theorem sc_Work_steps : FnScope N_Work_steps P_Work_steps (defScope s_Work_steps) := ⟨rfl, rfl, rfl, by decide +kernel, rfl, by decide +kernel, by decide +kernel⟩
abbrev s_Work_to : Stmt := inClass (topS 27) 7
abbrev N_Work_to : List Str := ["self", "stand", "step", "row"]
abbrev P_Work_to : List Str := ["self", "stand", "step"]
theorem sc_Work_to : FnScope N_Work_to P_Work_to (defScope s_Work_to) := ⟨rfl, rfl, rfl, by decide +kernel, rfl, by decide +kernel, by decide +kernel⟩
abbrev s_law_open : Stmt := topS 29
abbrev N_law_open : List Str := ["script", "k", "cell"]
abbrev P_law_open : List Str := ["script", "k"]
theorem sc_law_open : FnScope N_law_open P_law_open (defScope s_law_open) := ⟨rfl, rfl, rfl, by decide +kernel, rfl, by decide +kernel, by decide +kernel⟩
abbrev s_law_draw : Stmt := topS 30
abbrev N_law_draw : List Str := ["drawer", "many", "number"]
abbrev P_law_draw : List Str := ["drawer", "many"]
theorem sc_law_draw : FnScope N_law_draw P_law_draw (defScope s_law_draw) := ⟨rfl, rfl, rfl, by decide +kernel, rfl, by decide +kernel, by decide +kernel⟩
abbrev s_law_names : Stmt := topS 31
abbrev N_law_names : List Str := ["drawer", "many", "names", "k", "letter"]
abbrev P_law_names : List Str := ["drawer", "many"]
theorem sc_law_names : FnScope N_law_names P_law_names (defScope s_law_names) := ⟨rfl, rfl, rfl, by decide +kernel, rfl, by decide +kernel, by decide +kernel⟩
abbrev s_law_target : Stmt := topS 32
abbrev N_law_target : List Str := ["drawer", "names", "k", "rings"]
abbrev P_law_target : List Str := ["drawer", "names", "k", "rings"]
theorem sc_law_target : FnScope N_law_target P_law_target (defScope s_law_target) := ⟨rfl, rfl, rfl, by decide +kernel, rfl, by decide +kernel, by decide +kernel⟩
abbrev s_law_menu : Stmt := topS 33
abbrev N_law_menu : List Str := ["drawer", "letter", "menus"]
abbrev P_law_menu : List Str := ["drawer"]
theorem sc_law_menu : FnScope N_law_menu P_law_menu (defScope s_law_menu) := ⟨rfl, rfl, rfl, by decide +kernel, rfl, by decide +kernel, by decide +kernel⟩
abbrev s_law_stand : Stmt := topS 34
abbrev N_law_stand : List Str := ["drawer", "names", "k", "hands", "menu", "rings", "sort", "count", "shift", "steps", "hand", "j", "weight"]
abbrev P_law_stand : List Str := ["drawer", "names", "k", "hands", "menu", "rings"]
theorem sc_law_stand : FnScope N_law_stand P_law_stand (defScope s_law_stand) := ⟨rfl, rfl, rfl, by decide +kernel, rfl, by decide +kernel, by decide +kernel⟩
abbrev s_law_stands : Stmt := topS 35
abbrev N_law_stands : List Str := ["drawer", "names", "hands", "rings", "menu", "stands", "k"]
abbrev P_law_stands : List Str := ["drawer", "names", "hands", "rings"]
theorem sc_law_stands : FnScope N_law_stands P_law_stands (defScope s_law_stands) := ⟨rfl, rfl, rfl, by decide +kernel, rfl, by decide +kernel, by decide +kernel⟩
abbrev s_law_build : Stmt := topS 36
abbrev N_law_build : List Str := ["script", "drawer", "hands", "many", "rings", "names"]
abbrev P_law_build : List Str := ["script"]
theorem sc_law_build : FnScope N_law_build P_law_build (defScope s_law_build) := ⟨rfl, rfl, rfl, by decide +kernel, rfl, by decide +kernel, by decide +kernel⟩
abbrev s_law_steps : Stmt := topS 37
abbrev N_law_steps : List Str := ["stands", "stand", "row"]
abbrev P_law_steps : List Str := ["stands", "stand"]
theorem sc_law_steps : FnScope N_law_steps P_law_steps (defScope s_law_steps) := ⟨rfl, rfl, rfl, by decide +kernel, rfl, by decide +kernel, by decide +kernel⟩
abbrev s_law_to : Stmt := topS 38
abbrev N_law_to : List Str := ["stands", "stand", "step", "row"]
abbrev P_law_to : List Str := ["stands", "stand", "step"]
theorem sc_law_to : FnScope N_law_to P_law_to (defScope s_law_to) := ⟨rfl, rfl, rfl, by decide +kernel, rfl, by decide +kernel, by decide +kernel⟩
abbrev s_law_mover : Stmt := topS 39
abbrev N_law_mover : List Str := ["stands", "stand"]
abbrev P_law_mover : List Str := ["stands", "stand"]
theorem sc_law_mover : FnScope N_law_mover P_law_mover (defScope s_law_mover) := ⟨rfl, rfl, rfl, by decide +kernel, rfl, by decide +kernel, by decide +kernel⟩
abbrev s_sight_sort : Stmt := topS 13
abbrev N_sight_sort : List Str := ["work", "lot", "stand"]
abbrev P_sight_sort : List Str := ["work", "lot", "stand"]
theorem sc_sight_sort : FnScope N_sight_sort P_sight_sort (defScope s_sight_sort) := ⟨rfl, rfl, rfl, by decide +kernel, rfl, by decide +kernel, by decide +kernel⟩
abbrev s_is_looks : Stmt := topS 14
abbrev N_is_looks : List Str := ["work", "lot", "thing", "sorts", "stand", "found"]
abbrev P_is_looks : List Str := ["work", "lot", "thing"]
theorem sc_is_looks : FnScope N_is_looks P_is_looks (defScope s_is_looks) := ⟨rfl, rfl, rfl, by decide +kernel, rfl, by decide +kernel, by decide +kernel⟩
abbrev s_is_knowledge : Stmt := topS 15
abbrev N_is_knowledge : List Str := ["looks", "thing", "at", "stand"]
abbrev P_is_knowledge : List Str := ["looks", "thing"]
theorem sc_is_knowledge : FnScope N_is_knowledge P_is_knowledge (defScope s_is_knowledge) := ⟨rfl, rfl, rfl, by decide +kernel, rfl, by decide +kernel, by decide +kernel⟩
abbrev s_is_own : Stmt := topS 16
abbrev N_is_own : List Str := ["work", "lot", "knowledge", "mover"]
abbrev P_is_own : List Str := ["work", "lot", "knowledge"]
theorem sc_is_own : FnScope N_is_own P_is_own (defScope s_is_own) := ⟨rfl, rfl, rfl, by decide +kernel, rfl, by decide +kernel, by decide +kernel⟩
abbrev s_groups_after : Stmt := topS 17
abbrev N_groups_after : List Str := ["work", "looks", "knowledge", "move", "found", "stand", "step", "goal", "goals", "look"]
abbrev P_groups_after : List Str := ["work", "looks", "knowledge", "move"]
theorem sc_groups_after : FnScope N_groups_after P_groups_after (defScope s_groups_after) := ⟨rfl, rfl, rfl, by decide +kernel, rfl, by decide +kernel, by decide +kernel⟩
abbrev s_after : Stmt := topS 18
abbrev N_after : List Str := ["work", "lot", "looks", "knowledge", "move", "look"]
abbrev P_after : List Str := ["work", "lot", "looks", "knowledge", "move", "look"]
theorem sc_after : FnScope N_after P_after (defScope s_after) := ⟨rfl, rfl, rfl, by decide +kernel, rfl, by decide +kernel, by decide +kernel⟩
abbrev s_law_lot : Stmt := topS 40
abbrev N_law_lot : List Str := ["drawer", "hands", "bits", "hand"]
abbrev P_law_lot : List Str := ["drawer", "hands"]
theorem sc_law_lot : FnScope N_law_lot P_law_lot (defScope s_law_lot) := ⟨rfl, rfl, rfl, by decide +kernel, rfl, by decide +kernel, by decide +kernel⟩
abbrev s_law_sort : Stmt := topS 41
abbrev N_law_sort : List Str := ["stands", "lot", "stand"]
abbrev P_law_sort : List Str := ["stands", "lot", "stand"]
theorem sc_law_sort : FnScope N_law_sort P_law_sort (defScope s_law_sort) := ⟨rfl, rfl, rfl, by decide +kernel, rfl, by decide +kernel, by decide +kernel⟩
abbrev s_law_looks : Stmt := topS 42
abbrev N_law_looks : List Str := ["drawer", "stands", "lot", "sorts", "looks", "stand", "many", "letter", "sort"]
abbrev P_law_looks : List Str := ["drawer", "stands", "lot"]
theorem sc_law_looks : FnScope N_law_looks P_law_looks (defScope s_law_looks) := ⟨rfl, rfl, rfl, by decide +kernel, rfl, by decide +kernel, by decide +kernel⟩
abbrev s_law_asked : Stmt := topS 43
abbrev N_law_asked : List Str := ["work", "lot", "looks", "knowledge", "move", "look", "found", "told", "e"]
abbrev P_law_asked : List Str := ["work", "lot", "looks", "knowledge", "move", "look"]
theorem sc_law_asked : FnScope N_law_asked P_law_asked (defScope s_law_asked) := ⟨rfl, rfl, rfl, by decide +kernel, rfl, by decide +kernel, by decide +kernel⟩
abbrev s_law_due : Stmt := topS 44
abbrev N_law_due : List Str := ["stands", "lot", "looks", "knowledge", "move", "look", "own", "found", "stand", "step", "to"]
abbrev P_law_due : List Str := ["stands", "lot", "looks", "knowledge", "move", "look"]
theorem sc_law_due : FnScope N_law_due P_law_due (defScope s_law_due) := ⟨rfl, rfl, rfl, by decide +kernel, rfl, by decide +kernel, by decide +kernel⟩
abbrev s_law_near_looks : Stmt := topS 45
abbrev N_law_near_looks : List Str := ["drawer", "stands", "lot", "looks", "found", "stand", "names", "one", "others", "choice"]
abbrev P_law_near_looks : List Str := ["drawer", "stands", "lot", "looks"]
theorem sc_law_near_looks : FnScope N_law_near_looks P_law_near_looks (defScope s_law_near_looks) := ⟨rfl, rfl, rfl, by decide +kernel, rfl, by decide +kernel, by decide +kernel⟩
abbrev s_law_odd_move : Stmt := topS 46
abbrev N_law_odd_move : List Str := ["drawer", "stands", "knowledge", "own", "steps", "others", "stand", "step"]
abbrev P_law_odd_move : List Str := ["drawer", "stands", "knowledge", "own"]
theorem sc_law_odd_move : FnScope N_law_odd_move P_law_odd_move (defScope s_law_odd_move) := ⟨rfl, rfl, rfl, by decide +kernel, rfl, by decide +kernel, by decide +kernel⟩
abbrev s_law_odd_knowledge : Stmt := topS 47
abbrev N_law_odd_knowledge : List Str := ["drawer", "stands", "looks", "knowledge", "choice", "stand"]
abbrev P_law_odd_knowledge : List Str := ["drawer", "stands", "looks", "knowledge"]
theorem sc_law_odd_knowledge : FnScope N_law_odd_knowledge P_law_odd_knowledge (defScope s_law_odd_knowledge) := ⟨rfl, rfl, rfl, by decide +kernel, rfl, by decide +kernel, by decide +kernel⟩
abbrev s_law : Stmt := topS 48
abbrev N_law : List Str := ["script", "drawer", "bad", "part", "hands", "names", "stands", "work", "lot", "looks", "seen", "knowledge", "stand", "own", "move", "steps", "look", "due", "before", "odd", "told"]
abbrev P_law : List Str := ["script"]
theorem sc_law : FnScope N_law P_law (defScope s_law) := ⟨rfl, rfl, rfl, by decide +kernel, rfl, by decide +kernel, by decide +kernel⟩
/-- what the top has written, as the walk asks it -/
structure Tx (K : PySem.W.Frag) (mg : Str → Option Value) where
  is_integer : FX K mg "is_integer" "is_integer" s_is_integer P_is_integer
  is_name : FX K mg "is_name" "is_name" s_is_name P_is_name
  is_pair : FX K mg "is_pair" "is_pair" s_is_pair P_is_pair
  is_moves : FX K mg "is_moves" "is_moves" s_is_moves P_is_moves
  is_draws : FX K mg "is_draws" "is_draws" s_is_draws P_is_draws
  is_stand : FX K mg "is_stand" "is_stand" s_is_stand P_is_stand
  are_stands : FX K mg "are_stands" "are_stands" s_are_stands P_are_stands
  copied : FX K mg "copied" "copied" s_copied P_copied
  leads : FX K mg "leads" "leads" s_leads P_leads
  is_ringless : FX K mg "is_ringless" "is_ringless" s_is_ringless P_is_ringless
  Work_init : MX K "__init__" "Work.__init__" s_Work_init P_Work_init
  Work_row : MX K "row" "Work.row" s_Work_row P_Work_row
  Work_kind : MX K "kind" "Work.kind" s_Work_kind P_Work_kind
  Work_mover : MX K "mover" "Work.mover" s_Work_mover P_Work_mover
  Work_steps : MX K "steps" "Work.steps" s_Work_steps P_Work_steps
  Work_to : MX K "to" "Work.to" s_Work_to P_Work_to
  law_open : FX K mg "_law_open" "_law_open" s_law_open P_law_open
  law_draw : FX K mg "_law_draw" "_law_draw" s_law_draw P_law_draw
  law_names : FX K mg "_law_names" "_law_names" s_law_names P_law_names
  law_target : FX K mg "_law_target" "_law_target" s_law_target P_law_target
  law_menu : FX K mg "_law_menu" "_law_menu" s_law_menu P_law_menu
  law_stand : FX K mg "_law_stand" "_law_stand" s_law_stand P_law_stand
  law_stands : FX K mg "_law_stands" "_law_stands" s_law_stands P_law_stands
  law_build : FX K mg "_law_build" "_law_build" s_law_build P_law_build
  law_steps : FX K mg "_law_steps" "_law_steps" s_law_steps P_law_steps
  law_to : FX K mg "_law_to" "_law_to" s_law_to P_law_to
  law_mover : FX K mg "_law_mover" "_law_mover" s_law_mover P_law_mover
  sight_sort : FX K mg "sight_sort" "sight_sort" s_sight_sort P_sight_sort
  is_looks : FX K mg "is_looks" "is_looks" s_is_looks P_is_looks
  is_knowledge : FX K mg "is_knowledge" "is_knowledge" s_is_knowledge P_is_knowledge
  is_own : FX K mg "is_own" "is_own" s_is_own P_is_own
  groups_after : FX K mg "groups_after" "groups_after" s_groups_after P_groups_after
  after : FX K mg "after" "after" s_after P_after
  law_lot : FX K mg "_law_lot" "_law_lot" s_law_lot P_law_lot
  law_sort : FX K mg "_law_sort" "_law_sort" s_law_sort P_law_sort
  law_looks : FX K mg "_law_looks" "_law_looks" s_law_looks P_law_looks
  law_asked : FX K mg "_law_asked" "_law_asked" s_law_asked P_law_asked
  law_due : FX K mg "_law_due" "_law_due" s_law_due P_law_due
  law_near_looks : FX K mg "_law_near_looks" "_law_near_looks" s_law_near_looks P_law_near_looks
  law_odd_move : FX K mg "_law_odd_move" "_law_odd_move" s_law_odd_move P_law_odd_move
  law_odd_knowledge : FX K mg "_law_odd_knowledge" "_law_odd_knowledge" s_law_odd_knowledge P_law_odd_knowledge
  law : FX K mg "law" "law" s_law P_law
  b_ValueError : mg "ValueError" = none
  b_all : mg "all" = none
  b_bool : mg "bool" = none
  b_dict : mg "dict" = none
  b_enumerate : mg "enumerate" = none
  b_int : mg "int" = none
  b_isinstance : mg "isinstance" = none
  b_len : mg "len" = none
  b_list : mg "list" = none
  b_range : mg "range" = none
  b_repr : mg "repr" = none
  b_sorted : mg "sorted" = none
  b_str : mg "str" = none
  b_tuple : mg "tuple" = none
  a_Work : Addr
  g_Work : mg "Work" = some (.ref a_Work)
  cl_Work : Cls K a_Work
  m_Work : Mk K a_Work Work_init.f
  n_Work_hands : NoAttr K a_Work "hands"
  n_Work_start : NoAttr K a_Work "start"
  n_Work_table : NoAttr K a_Work "table"
  n_Work_names : NoAttr K a_Work "names"
  n_Work_ends : NoAttr K a_Work "ends"
  n_Work_ringless : NoAttr K a_Work "ringless"
  me_Work_row : Meth K a_Work "row" Work_row.f
  me_Work_kind : Meth K a_Work "kind" Work_kind.f
  me_Work_mover : Meth K a_Work "mover" Work_mover.f
  me_Work_steps : Meth K a_Work "steps" Work_steps.f
  me_Work_to : Meth K a_Work "to" Work_to.f
  c_NoStep : Addr
  i_NoStep : Addr
  d_NoStep : FuncData
  g_NoStep : mg "NoStep" = some (.ref c_NoStep)
  s_NoStep : SupX.SupTxt K mg c_NoStep i_NoStep d_NoStep "NoStep.__init__" "name"
  c_BadLooks : Addr
  g_BadLooks : mg "BadLooks" = some (.ref c_BadLooks)
  p_BadLooks : SupX.PlnTxt K c_BadLooks
  c_BadKnowledge : Addr
  g_BadKnowledge : mg "BadKnowledge" = some (.ref c_BadKnowledge)
  p_BadKnowledge : SupX.PlnTxt K c_BadKnowledge
  c_BadLook : Addr
  g_BadLook : mg "BadLook" = some (.ref c_BadLook)
  p_BadLook : SupX.PlnTxt K c_BadLook
  c_OwnError : Addr
  g_OwnError : mg "OwnError" = some (.ref c_OwnError)
  is_BadLooks_OwnError : PySem.W.kitOne K (.ref c_BadLooks) (.ref c_OwnError) = some true
  is_BadKnowledge_OwnError : PySem.W.kitOne K (.ref c_BadKnowledge) (.ref c_OwnError) = some true
  is_BadLook_ValueError : PySem.W.kitOne K (.ref c_BadLook) (.type "ValueError") = some true
  xp_BadLooks_BadLooks : PySem.W.exmOne K (.ref c_BadLooks) (.ref c_BadLooks) = some true
  xp_BadKnowledge_BadLooks : PySem.W.exmOne K (.ref c_BadKnowledge) (.ref c_BadLooks) = some false
  xp_BadKnowledge_BadKnowledge : PySem.W.exmOne K (.ref c_BadKnowledge) (.ref c_BadKnowledge) = some true
  xp_NoStep_BadLooks : PySem.W.exmOne K (.ref c_NoStep) (.ref c_BadLooks) = some false
  xp_NoStep_BadKnowledge : PySem.W.exmOne K (.ref c_NoStep) (.ref c_BadKnowledge) = some false
  xp_NoStep_NoStep : PySem.W.exmOne K (.ref c_NoStep) (.ref c_NoStep) = some true
  xp_BadLook_BadLooks : PySem.W.exmOne K (.ref c_BadLook) (.ref c_BadLooks) = some false
  xp_BadLook_BadKnowledge : PySem.W.exmOne K (.ref c_BadLook) (.ref c_BadKnowledge) = some false
  xp_BadLook_NoStep : PySem.W.exmOne K (.ref c_BadLook) (.ref c_NoStep) = some false
  xp_BadLook_BadLook : PySem.W.exmOne K (.ref c_BadLook) (.ref c_BadLook) = some true
end M

namespace M
open PySem PySem.Spec PyProof.Rows L2
/-! ### names -/
def lowB (c : Nat) : Bool := decide (97 ≤ c) && decide (c ≤ 122)
def digB (c : Nat) : Bool := decide (48 ≤ c) && decide (c ≤ 57)
def nameL (l : List Nat) : Bool := decide (1 ≤ l.length) && decide (l.length ≤ 8) && lowB (l.getD 0 0) && l.all fun c => lowB c || digB c
def nameB (s : Str) : Bool := nameL s.cps.toList
theorem lt1 (a b : Nat) : decide (([a] : List Nat) < [b]) = decide (a < b) := by
  by_cases h : a < b
  · rw [decide_eq_true h, decide_eq_true]
    exact List.Lex.rel h
  · rw [decide_eq_false h, decide_eq_false]
    intro q
    cases q with
    | rel q => exact h q
    | cons q => cases q
section
variable {P : Program} {w : World} {K : PySem.W.Frag} {mg : Str → Option Value} {base : Heap}
def sp_is_integer (T : Tx K mg) : Sp := fun vs H Q _ => ∃ i, vs = [.int i] ∧ Q (.bl true) H
theorem ok_is_integer (T : Tx K mg) : FnOk P w K mg base CX0 1 T.is_integer.f T.is_integer.fd P_is_integer (sp_is_integer T) := by
  refine T.is_integer.F.ok sc_is_integer (fun vs H Q E h => ?_) (fun cdv A outer s H vs Q E hr h => ?_)
  · obtain ⟨i, rfl, k⟩ := h
    rfl
  have hu := hu_of hr
  have nd := sc_is_integer.nd
  obtain ⟨i, rfl, k⟩ := h
  refine ⟨_, (pss_one (ps_ret (pe_and (pe_callB (w_isi (K := K) rfl) (by rfl) T.b_isinstance (by decide +kernel) (pa_cons (pv 0) (pa_cons (pe_bltn (v := .ty "int") (by rfl) T.b_int (by decide +kernel) rfl) pa_nil))) (pe_one (pe_not (pe_callB (w_isi (K := K) rfl) (by rfl) T.b_isinstance (by decide +kernel) (pa_cons (pv 0) (pa_cons (pe_bltn (v := .ty "bool") (by rfl) T.b_bool (by decide +kernel) rfl) pa_nil)))))))), ?_⟩
  refine x_start (σ' := [some _]) rfl ?_
  try simp only [cx_n, cx_K, cx_w, cx_P]
  walk_at "rd"
  refine x_isiT (.base (.int i)) (by decide +kernel) ?_
  walk_at "rd"
  refine x_isiF (.base (.int i)) (by decide +kernel) ?_
  walk_at "rd"
  exact k
def sp_is_name (T : Tx K mg) : Sp := fun vs H Q _ => ∃ s, vs = [.str s] ∧ s.length ≤ 10000 ∧ Q (.bl (nameB s)) H
theorem nameB_len {s : Str} (h : ¬ (1 ≤ s.length ∧ s.length ≤ 8)) : nameB s = false := by
  unfold nameB nameL
  have e : s.cps.toList.length = s.length := by simp [Str.length]
  rw [e]
  by_cases h1 : 1 ≤ s.length
  · have h2 : ¬ s.length ≤ 8 := fun q => h ⟨h1, q⟩
    simp [h2]
  · simp [h1]
theorem nameB_low {s : Str} (h : lowB (s.cps.toList.getD 0 0) = false) : nameB s = false := by
  unfold nameB nameL
  rw [h]
  simp
theorem nameB_all {s : Str} {c : Nat} (hc : c ∈ s.cps.toList) (h : (lowB c || digB c) = false) : nameB s = false := by
  unfold nameB nameL
  have : (s.cps.toList.all fun c => lowB c || digB c) = false := by
    rw [List.all_eq_false]
    exact ⟨c, hc, by simpa using h⟩
  rw [this]
  simp
theorem nameB_yes {s : Str} (h1 : 1 ≤ s.length ∧ s.length ≤ 8) (h2 : lowB (s.cps.toList.getD 0 0) = true) (h3 : ∀ c ∈ s.cps.toList, (lowB c || digB c) = true) : nameB s = true := by
  unfold nameB nameL
  have e : s.cps.toList.length = s.length := by simp [Str.length]
  rw [e, h2, List.all_eq_true.mpr h3]
  simp [h1.1, h1.2]
theorem sz10 {n : Nat} (h : n ≤ 10000) : n ≤ sizeLine := Nat.le_trans h (by decide)
/-- 'a' <= c, c <= 'z' and the like -/
theorem le_lit (a c : Nat) : (!decide ((⟨#[c]⟩ : Str).cps.toList < (⟨#[a]⟩ : Str).cps.toList)) = decide (a ≤ c) := by
  show (!decide (([c] : List Nat) < [a])) = decide (a ≤ c)
  rw [lt1]
  by_cases h : a ≤ c
  · rw [decide_eq_true h, decide_eq_false (by omega)]
    rfl
  · rw [decide_eq_false h, decide_eq_true (by omega)]
    rfl
theorem lit_a : ("a" : Str) = ⟨#[97]⟩ := by decide +kernel
theorem lit_z : ("z" : Str) = ⟨#[122]⟩ := by decide +kernel
theorem lit_0 : ("0" : Str) = ⟨#[48]⟩ := by decide +kernel
theorem lit_9 : ("9" : Str) = ⟨#[57]⟩ := by decide +kernel
theorem ok_is_name (T : Tx K mg) : FnOk P w K mg base CX0 1 T.is_name.f T.is_name.fd P_is_name (sp_is_name T) := by
  refine T.is_name.F.ok sc_is_name (fun vs H Q E h => ?_) (fun cdv A outer s H vs Q E hr h => ?_)
  · obtain ⟨s, rfl, hs, k⟩ := h
    rfl
  have hu := hu_of hr
  have nd := sc_is_name.nd
  obtain ⟨s, rfl, hs, k⟩ := h
  refine ⟨_, (pss_cons (ps_if (PW.pt (pw_or (pt_not (pt_val (pe_callB (w_isi (K := K) rfl) (by rfl) T.b_isinstance (by decide +kernel) (pa_cons (pv 0) (pa_cons (pe_bltn (v := .ty "str") (by rfl) T.b_str (by decide +kernel) rfl) pa_nil))))) (pw_or1 (pt_not (pt_chain op_le op_le pe_int (pe_callB (w_len (K := K) rfl) (by rfl) T.b_len (by decide +kernel) (pa_cons (pv 0) pa_nil)) pe_int))))) (pss_one (ps_ret pe_bl)) pss_nil)
      (pss_cons (ps_if (pt_not (pt_chain op_leS op_leS pe_str (pe_ix ix_str (pv 0) pe_int (fun _ _ => rfl)) pe_str)) (pss_one (ps_ret pe_bl)) pss_nil)
      (pss_cons (ps_for PassesOwn.never rfl (pi_str (pv 0)) (pg_name (i := 1) nd rfl (Or.inl rfl)) (pss_one (ps_if (PW.pt (pw_and (pt_not (pt_chain op_leS op_leS pe_str (pv 1) pe_str)) (pw_and1 (pt_not (pt_chain op_leS op_leS pe_str (pv 1) pe_str))))) (pss_one (ps_ret pe_bl)) pss_nil)))
      (pss_one (ps_ret pe_bl))))), ?_⟩
  refine x_start (σ' := [some _, none]) rfl ?_
  try simp only [cx_n, cx_K, cx_w, cx_P]
  simp only [lit_a, lit_z, lit_0, lit_9]
  walk_at "rd"
  refine x_isiT (.base (.str s)) (by decide +kernel) ?_
  walk_at "rd"
  refine x_lenS' (sz10 hs) ?_
  walk_at "rd"
  have es : s.cps.toList.length = s.length := by simp [Str.length]
  have kf : nameB s = false → Q (.bl false) H := fun e => by
    rw [e] at k
    exact k
  refine x_cases (fun h1 => ?_) (fun h1 => ?_)
  rotate_left
  · walk_at "rd"
    exact kf (nameB_len fun q => by simp at h1; omega)
  walk_at "rd"
  refine x_cases (fun h2 => ?_) (fun h2 => ?_)
  · walk_at "rd"
    exact kf (nameB_len fun q => by simp at h2; omega)
  walk_at "rd"
  have hlen : 1 ≤ s.length ∧ s.length ≤ 8 := by simp at h1 h2; omega
  obtain ⟨c0, hc0⟩ : ∃ c, s.cps.toList[0]? = some c := ⟨s.cps.toList[0]'(by omega), by simp⟩
  have hd0 : s.cps.toList.getD 0 0 = c0 := by rw [List.getD_eq_getElem?_getD, hc0]; rfl
  refine x_ixS (sz10 hs) (atI_nat (j := 0) hc0) ?_
  walk_at "rd"
  rw [le_lit]
  refine x_cases (fun h3 => ?_) (fun h3 => ?_)
  rotate_left
  · walk_at "rd"
    exact kf (nameB_low (by rw [hd0]; unfold lowB; rw [h3]; rfl))
  walk_at "rd"
  rw [le_lit]
  refine x_cases (fun h4 => ?_) (fun h4 => ?_)
  · walk_at "rd"
    exact kf (nameB_low (by rw [hd0]; unfold lowB; simp at h4; simp [h4]))
  walk_at "rd"
  have hlow : lowB (s.cps.toList.getD 0 0) = true := by
    rw [hd0]
    unfold lowB
    simp at h3 h4
    simp [h3, h4]
  refine for_it walk_str (fun i σ H' => H' = H ∧ ∃ c, σ = [some (.str s), c] ∧ ∀ j, j < i → ∀ c, s.cps.toList[j]? = some c → (lowB c || digB c) = true) ⟨rfl, _, rfl, fun j hj => absurd hj (Nat.not_lt_zero _)⟩ (fun _ _ _ _ _ => trivial) ?_ ?_
  · rintro i x σ H0 H1 hi ⟨rfl, cc, rfl, hj⟩ ⟨rfl, c, hc, rfl⟩
    walk_at "rd"
    rw [le_lit]
    have mem : c ∈ s.cps.toList := by
      rw [Array.mem_toList_iff]
      exact Array.mem_of_getElem? hc
    have next : (lowB c || digB c) = true → ∀ j, j < i + 1 → ∀ c, s.cps.toList[j]? = some c → (lowB c || digB c) = true := fun h j hj' d hd => by
      by_cases e : j = i
      · subst e
        have : some c = some d := by rw [← hc, ← hd]; simp
        cases this
        exact h
      · exact hj j (by omega) d hd
    refine x_cases (fun h5 => ?_) (fun h5 => ?_)
    · walk_at "rd"
      rw [le_lit]
      refine x_cases (fun h6 => ?_) (fun h6 => ?_)
      · walk_at "rd"
        rw [le_lit]
        refine x_cases (fun h7 => ?_) (fun h7 => ?_)
        · walk_at "rd"
          rw [le_lit]
          refine x_cases (fun h8 => ?_) (fun h8 => ?_)
          · walk_at "rd"
            exact kf (nameB_all mem (by simp at h5 h6 h7 h8; simp [lowB, digB]; omega))
          · walk_at "rd"
            exact ⟨rfl, _, rfl, next (by simp at h5 h6 h7 h8; simp [lowB, digB]; omega)⟩
        · walk_at "rd"
          exact kf (nameB_all mem (by simp at h5 h6 h7; simp [lowB, digB]; omega))
      · walk_at "rd"
        exact ⟨rfl, _, rfl, next (by simp at h5 h6; simp [lowB, digB]; omega)⟩
    · walk_at "rd"
      rw [le_lit]
      refine x_cases (fun h7 => ?_) (fun h7 => ?_)
      · walk_at "rd"
        rw [le_lit]
        refine x_cases (fun h8 => ?_) (fun h8 => ?_)
        · walk_at "rd"
          exact kf (nameB_all mem (by simp at h5 h7 h8; simp [lowB, digB]; omega))
        · walk_at "rd"
          exact ⟨rfl, _, rfl, next (by simp at h5 h7 h8; simp [lowB, digB]; omega)⟩
      · walk_at "rd"
        exact kf (nameB_all mem (by simp at h5 h7; simp [lowB, digB]; omega))
  · rintro σ H1 ⟨rfl, c, rfl, hj⟩
    walk_at "rd"
    have e : nameB s = true := nameB_yes hlen hlow fun c hc => by
      obtain ⟨j, hj'⟩ := List.getElem?_of_mem hc
      refine hj j ?_ c hj'
      have := (List.getElem?_eq_some_iff.mp hj').1
      simpa using this
    rw [e] at k
    exact k
end
end M

namespace M
open PySem PySem.Spec PyProof.Rows L2
/-- a stand that is right, of so many hands, all steps to names -/
def StandOk (hands : Int) (names : List Str) : Stand → Prop
  | .fin => True
  | .hand h ms => 0 ≤ h ∧ h < hands ∧ 1 ≤ ms.length ∧ ms.length ≤ 4 ∧ (ms.map (·.1)).Nodup ∧ ∀ p ∈ ms, nameB p.1 = true ∧ nameB p.2 = true ∧ p.2 ∈ names
  | .chance ds => 1 ≤ ds.length ∧ ds.length ≤ 4 ∧ (ds.map (·.1)).Nodup ∧ ∀ p ∈ ds, nameB p.1 = true ∧ nameB p.2.1 = true ∧ p.2.1 ∈ names ∧ 1 ≤ p.2.2 ∧ p.2.2 ≤ 9
theorem nameB_size {s : Str} (h : nameB s = true) : s.length ≤ 10000 := by
  by_cases q : 1 ≤ s.length ∧ s.length ≤ 8
  · omega
  · rw [nameB_len q] at h
    cases h
section
variable {P : Program} {w : World} {K : PySem.W.Frag} {mg : Str → Option Value} {base : Heap}
def sp_is_pair (T : Tx K mg) : Sp := fun vs H Q _ => ∃ a xs, vs = [.ref a] ∧ SqT K H a xs ∧ Q (.bl (decide (xs.length = 2))) H
theorem ok_is_pair (T : Tx K mg) : FnOk P w K mg base CX0 1 T.is_pair.f T.is_pair.fd P_is_pair (sp_is_pair T) := by
  refine T.is_pair.F.ok sc_is_pair (fun vs H Q E h => ?_) (fun cdv A outer s H vs Q E hr h => ?_)
  · obtain ⟨a, xs, rfl, hx, k⟩ := h
    rfl
  have hu := hu_of hr
  have nd := sc_is_pair.nd
  obtain ⟨a, xs, rfl, hx, k⟩ := h
  refine ⟨_, (pss_one (ps_ret (pe_and (pe_callB (w_isi (K := K) rfl) (by rfl) T.b_isinstance (by decide +kernel) (pa_cons (pv 0) (pa_cons (pe_bltn (v := .ty "tuple") (by rfl) T.b_tuple (by decide +kernel) rfl) pa_nil))) (pe_one (pe_cmpR op_eq (pe_callB (w_len (K := K) rfl) (by rfl) T.b_len (by decide +kernel) (pa_cons (pv 0) pa_nil)) pe_int (nomark _)))))), ?_⟩
  refine x_start (σ' := [some _]) rfl ?_
  try simp only [cx_n, cx_K, cx_w, cx_P]
  walk_at "rd"
  refine x_isiT (ty_tup hx) (by decide +kernel) ?_
  walk_at "rd"
  refine x_lenT' hx ?_
  walk_at "rd"
  have e : decide (V.int (xs.length : Int) = V.int 2) = decide (xs.length = 2) := by
    by_cases h : xs.length = 2
    · rw [decide_eq_true h, decide_eq_true]
      rw [h]
      rfl
    · rw [decide_eq_false h, decide_eq_false]
      intro q
      injection q with q
      omega
  rw [e]
  exact k
def sp_is_moves (T : Tx K mg) : Sp := fun vs H Q _ => ∃ v u ms names, vs = [v, u] ∧ rD rS H v ms ∧ rK H u names ∧ 1 ≤ ms.length ∧ ms.length ≤ 4 ∧
  (∀ p ∈ ms, nameB p.1 = true ∧ nameB p.2 = true ∧ p.2 ∈ names) ∧ ∀ H', SX [] H H' → Q (.bl true) H'
theorem ok_is_moves (T : Tx K mg) : FnOk P w K mg base CX0 2 T.is_moves.f T.is_moves.fd P_is_moves (sp_is_moves T) := by
  refine T.is_moves.F.ok sc_is_moves (fun vs H Q E h => ?_) (fun cdv A outer s H vs Q E hr h => ?_)
  · obtain ⟨v, u, ms, names, rfl, ⟨d, kvs, hv, hd, hk⟩, ⟨e, kvs2, hu2, he, hn⟩, h1, h4, hall, k⟩ := h
    rfl
  have hu := hu_of hr
  have nd := sc_is_moves.nd
  obtain ⟨v, u, ms, names, rfl, ⟨d, kvs, hv, hd, hk⟩, ⟨e, kvs2, hu2, he, hn⟩, h1, h4, hall, k⟩ := h
  refine ⟨_, (pss_cons (ps_if (PW.pt (pw_or (pt_not (pt_val (pe_callB (w_isi (K := K) rfl) (by rfl) T.b_isinstance (by decide +kernel) (pa_cons (pv 0) (pa_cons (pe_bltn (v := .ty "dict") (by rfl) T.b_dict (by decide +kernel) rfl) pa_nil))))) (pw_or1 (pt_not (pt_chain op_le op_le pe_int (pe_callB cl_lenD (by rfl) T.b_len (by decide +kernel) (pa_cons (pv 0) pa_nil)) pe_int))))) (pss_one (ps_ret pe_bl)) pss_nil)
      (pss_cons (ps_lockR (ps_for PassesOwn.never rfl (pi_items (pv 0)) (w_pgtup (K := K) (n := 2) rfl (by rfl) (pgs_cons (pg_name (i := 2) nd rfl (Or.inl rfl)) (pgs_cons (pg_name (i := 3) nd rfl (Or.inl rfl)) pgs_nil)) (by rfl) (by rfl)) (pss_one (ps_if (PW.pt (pw_or (pt_not (pt_val (pe_call (ok_is_name (P := P) (w := w) T) (hr.mono (by decide)) (by rfl) T.is_name.g T.is_name.F.kp T.is_name.B .nil pass0 (pa_cons (pv 2) pa_nil)))) (pw_or (pt_not (pt_val (pe_call (ok_is_name (P := P) (w := w) T) (hr.mono (by decide)) (by rfl) T.is_name.g T.is_name.F.kp T.is_name.B .nil pass0 (pa_cons (pv 3) pa_nil)))) (pw_or1 (pt_cmp (pc_dnotin hu (pv 3) (pv 1))))))) (pss_one (ps_ret pe_bl)) pss_nil))))
      (pss_one (ps_ret pe_bl)))), ?_⟩
  refine x_start (σ' := [some _, some _, none, none]) rfl ?_
  try simp only [cx_n, cx_K, cx_w, cx_P]
  subst hv hu2
  walk_at "rd"
  refine x_isiT (ty_dict hd) (by decide +kernel) ?_
  walk_at "rd"
  have hl : kvs.length = ms.length := Paired.length hk
  refine x_lenD hd ?_
  walk_at "rd"
  rw [hl]
  refine x_true (decide_eq_true (by omega)) ?_
  walk_at "rd"
  rw [decide_eq_true (show (ms.length : Int) ≤ 4 by omega)]
  walk_at "rd"
  refine x_lockR hd fun od HL eL ne => ?_
  walk_at "rd"
  refine x_iti eL ?_
  have leL : Le H HL := lock_le hd eL ne
  refine for_it (walk_itemsR (KVs.le mono_S leL hk)) (fun i σ H' => SX [] HL H' ∧ ∃ a b, σ = [some (.ref d), some (.ref e), a, b]) ⟨SX.refl _, _, _, rfl⟩ (fun _ _ _ _ h => h.1 _ _ List.not_mem_nil eL) ?_ ?_
  · rintro i x σ H0 H1 hi ⟨sx, a, b, rfl⟩ ⟨T1, p, v, hp, rfl, rfl, hT, rfl⟩
    obtain ⟨n1, n2, n3⟩ := hall p (getMem hp)
    walk_at "rd"
    refine ⟨_, rfl, nameB_size n1, ?_⟩
    rw [n1]
    walk_at "rd"
    refine ⟨_, rfl, nameB_size n2, ?_⟩
    rw [n2]
    walk_at "rd"
    have sx1 : SX [] HL (upd H0 T1 (.tup [.str p.1, .str p.2])) := sx.trans (SX.new hT)
    refine x_dni' (sx1.rd (Rd.le leL he)) ?_
    rw [keys_val hn, decide_eq_true n3]
    walk_at "rd"
    exact ⟨sx1, _, _, rfl⟩
  · rintro σ H1 ⟨sx, a, b, rfl⟩
    refine ⟨sx _ _ List.not_mem_nil eL, ?_⟩
    walk_at "rd"
    exact k _ (unlock_sx ne sx)
def sp_is_draws (T : Tx K mg) : Sp := fun vs H Q _ => ∃ v u ds names, vs = [v, u] ∧ rD (rP K rS rI) H v ds ∧ rK H u names ∧ 1 ≤ ds.length ∧ ds.length ≤ 4 ∧
  (∀ p ∈ ds, nameB p.1 = true ∧ nameB p.2.1 = true ∧ p.2.1 ∈ names ∧ 1 ≤ p.2.2 ∧ p.2.2 ≤ 9) ∧ ∀ H', SX [] H H' → Q (.bl true) H'
theorem ok_is_draws (T : Tx K mg) : FnOk P w K mg base CX0 2 T.is_draws.f T.is_draws.fd P_is_draws (sp_is_draws T) := by
  refine T.is_draws.F.ok sc_is_draws (fun vs H Q E h => ?_) (fun cdv A outer s H vs Q E hr h => ?_)
  · obtain ⟨v, u, ds, names, rfl, ⟨d, kvs, hv, hd, hk⟩, ⟨e, kvs2, hu2, he, hn⟩, h1, h4, hall, k⟩ := h
    rfl
  have hu := hu_of hr
  have nd := sc_is_draws.nd
  obtain ⟨v, u, ds, names, rfl, ⟨d, kvs, hv, hd, hk⟩, ⟨e, kvs2, hu2, he, hn⟩, h1, h4, hall, k⟩ := h
  refine ⟨_, (pss_cons (ps_if (PW.pt (pw_or (pt_not (pt_val (pe_callB (w_isi (K := K) rfl) (by rfl) T.b_isinstance (by decide +kernel) (pa_cons (pv 0) (pa_cons (pe_bltn (v := .ty "dict") (by rfl) T.b_dict (by decide +kernel) rfl) pa_nil))))) (pw_or1 (pt_not (pt_chain op_le op_le pe_int (pe_callB cl_lenD (by rfl) T.b_len (by decide +kernel) (pa_cons (pv 0) pa_nil)) pe_int))))) (pss_one (ps_ret pe_bl)) pss_nil)
      (pss_cons (ps_lockR (ps_for PassesOwn.never rfl (pi_items (pv 0)) (w_pgtup (K := K) (n := 2) rfl (by rfl) (pgs_cons (pg_name (i := 2) nd rfl (Or.inl rfl)) (pgs_cons (pg_name (i := 3) nd rfl (Or.inl rfl)) pgs_nil)) (by rfl) (by rfl)) (pss_cons (ps_if (PW.pt (pw_or (pt_not (pt_val (pe_call (ok_is_name (P := P) (w := w) T) (hr.mono (by decide)) (by rfl) T.is_name.g T.is_name.F.kp T.is_name.B .nil pass0 (pa_cons (pv 2) pa_nil)))) (pw_or1 (pt_not (pt_val (pe_call (ok_is_pair (P := P) (w := w) T) (hr.mono (by decide)) (by rfl) T.is_pair.g T.is_pair.F.kp T.is_pair.B .nil pass0 (pa_cons (pv 3) pa_nil))))))) (pss_one (ps_ret pe_bl)) pss_nil)
      (pss_cons (ps_if (PW.pt (pw_or (pt_not (pt_val (pe_call (ok_is_name (P := P) (w := w) T) (hr.mono (by decide)) (by rfl) T.is_name.g T.is_name.F.kp T.is_name.B .nil pass0 (pa_cons (pe_ix (w_ixT (K := K) rfl) (pv 3) pe_int (fun _ _ => rfl)) pa_nil)))) (pw_or1 (pt_cmp (pc_dnotin hu (pe_ix (w_ixT (K := K) rfl) (pv 3) pe_int (fun _ _ => rfl)) (pv 1)))))) (pss_one (ps_ret pe_bl)) pss_nil)
      (pss_one (ps_if (PW.pt (pw_or (pt_not (pt_val (pe_call (ok_is_integer (P := P) (w := w) T) (hr.mono (by decide)) (by rfl) T.is_integer.g T.is_integer.F.kp T.is_integer.B .nil pass0 (pa_cons (pe_ix (w_ixT (K := K) rfl) (pv 3) pe_int (fun _ _ => rfl)) pa_nil)))) (pw_or1 (pt_not (pt_chain op_le op_le pe_int (pe_ix (w_ixT (K := K) rfl) (pv 3) pe_int (fun _ _ => rfl)) pe_int))))) (pss_one (ps_ret pe_bl)) pss_nil))))))
      (pss_one (ps_ret pe_bl)))), ?_⟩
  refine x_start (σ' := [some _, some _, none, none]) rfl ?_
  try simp only [cx_n, cx_K, cx_w, cx_P]
  subst hv hu2
  walk_at "rd"
  refine x_isiT (ty_dict hd) (by decide +kernel) ?_
  walk_at "rd"
  have hl : kvs.length = ds.length := Paired.length hk
  refine x_lenD hd ?_
  walk_at "rd"
  rw [hl]
  refine x_true (decide_eq_true (by omega)) ?_
  walk_at "rd"
  rw [decide_eq_true (show (ds.length : Int) ≤ 4 by omega)]
  walk_at "rd"
  refine x_lockR hd fun od HL eL ne => ?_
  walk_at "rd"
  refine x_iti eL ?_
  have leL : Le H HL := lock_le hd eL ne
  refine for_it (walk_itemsR (KVs.le (mono_P mono_S mono_I) leL hk)) (fun i σ H' => SX [] HL H' ∧ ∃ a b, σ = [some (.ref d), some (.ref e), a, b]) ⟨SX.refl _, _, _, rfl⟩ (fun _ _ _ _ h => h.1 _ _ List.not_mem_nil eL) ?_ ?_
  · rintro i x σ H0 H1 hi ⟨sx, a, b, rfl⟩ ⟨T1, p, v, hp, ⟨t, x1, x2, rfl, ht, rfl, rfl⟩, rfl, hT, rfl⟩
    obtain ⟨n1, n2, n3, n4, n5⟩ := hall p (getMem hp)
    have sx1 : SX [] HL (upd H0 T1 (.tup [.str p.1, .ref t])) := sx.trans (SX.new hT)
    have ht1 := sx1.le0.t ht
    walk_at "rd"
    refine ⟨_, rfl, nameB_size n1, ?_⟩
    rw [n1]
    walk_at "rd"
    refine ⟨_, _, rfl, ht1, ?_⟩
    walk_at "rd"
    walk_at "if!"
    walk_at "rd"
    refine x_ixT ht1 (atI_nat (j := 0) rfl) ?_
    walk_at "rd"
    refine ⟨_, rfl, nameB_size n2, ?_⟩
    rw [n2]
    walk_at "rd"
    refine x_ixT ht1 (atI_nat (j := 0) rfl) ?_
    walk_at "rd"
    refine x_dni' (sx1.rd (Rd.le leL he)) ?_
    rw [keys_val hn, decide_eq_true n3]
    walk_at "rd"
    refine x_ixT ht1 (atI_nat (j := 1) rfl) ?_
    walk_at "rd"
    refine ⟨_, rfl, ?_⟩
    walk_at "rd"
    refine x_ixT ht1 (atI_nat (j := 1) rfl) ?_
    walk_at "rd"
    refine x_true (decide_eq_true n4) ?_
    walk_at "rd"
    rw [decide_eq_true n5]
    walk_at "rd"
    exact ⟨sx1, _, _, rfl⟩
  · rintro σ H1 ⟨sx, a, b, rfl⟩
    refine ⟨sx _ _ List.not_mem_nil eL, ?_⟩
    walk_at "rd"
    exact k _ (unlock_sx ne sx)
def sp_is_stand (T : Tx K mg) : Sp := fun vs H Q _ => ∃ v u n st names, vs = [v, .int n, u] ∧ rStand K H v st ∧ rK H u names ∧ StandOk n names st ∧ ∀ H', SX [] H H' → Q (.bl true) H'
theorem ok_is_stand (T : Tx K mg) : FnOk P w K mg base CX0 3 T.is_stand.f T.is_stand.fd P_is_stand (sp_is_stand T) := by
  refine T.is_stand.F.ok sc_is_stand (fun vs H Q E h => ?_) (fun cdv A outer s H vs Q E hr h => ?_)
  · obtain ⟨v, u, n, st, names, rfl, hst, hu2, hok, k⟩ := h
    rfl
  have hu := hu_of hr
  have nd := sc_is_stand.nd
  obtain ⟨v, u, n, st, names, rfl, hst, hu2, hok, k⟩ := h
  refine ⟨_, (pss_cons (ps_if (PW.pt (pw_or (pt_not (pt_val (pe_callB (w_isi (K := K) rfl) (by rfl) T.b_isinstance (by decide +kernel) (pa_cons (pv 0) (pa_cons (pe_bltn (v := .ty "tuple") (by rfl) T.b_tuple (by decide +kernel) rfl) pa_nil))))) (pw_or (pt_cmpR op_eq (pe_callB (w_len (K := K) rfl) (by rfl) T.b_len (by decide +kernel) (pa_cons (pv 0) pa_nil)) pe_int (nomark _)) (pw_or1 (pt_not (pt_val (pe_callB (w_isi (K := K) rfl) (by rfl) T.b_isinstance (by decide +kernel) (pa_cons (pe_ix (w_ixT (K := K) rfl) (pv 0) pe_int (fun _ _ => rfl)) (pa_cons (pe_bltn (v := .ty "str") (by rfl) T.b_str (by decide +kernel) rfl) pa_nil))))))))) (pss_one (ps_ret pe_bl)) pss_nil)
      (pss_cons (ps_if (pt_cmpR op_eq (pe_ix (w_ixT (K := K) rfl) (pv 0) pe_int (fun _ _ => rfl)) pe_str (nomark _)) (pss_one (ps_ret (pe_cmpR op_eq (pe_callB (w_len (K := K) rfl) (by rfl) T.b_len (by decide +kernel) (pa_cons (pv 0) pa_nil)) pe_int (nomark _)))) pss_nil)
      (pss_cons (ps_if (pt_cmpR op_eq (pe_ix (w_ixT (K := K) rfl) (pv 0) pe_int (fun _ _ => rfl)) pe_str (nomark _)) (pss_one (ps_ret (pe_and (pe_cmpR op_eq (pe_callB (w_len (K := K) rfl) (by rfl) T.b_len (by decide +kernel) (pa_cons (pv 0) pa_nil)) pe_int (nomark _)) (pe_one (pe_call (ok_is_draws (P := P) (w := w) T) (hr.mono (by decide)) (by rfl) T.is_draws.g T.is_draws.F.kp T.is_draws.B .nil pass0 (pa_cons (pe_ix (w_ixT (K := K) rfl) (pv 0) pe_int (fun _ _ => rfl)) (pa_cons (pv 2) pa_nil))))))) pss_nil)
      (pss_cons (ps_if (PW.pt (pw_or (pt_cmpR op_ne (pe_ix (w_ixT (K := K) rfl) (pv 0) pe_int (fun _ _ => rfl)) pe_str (nomark _)) (pw_or1 (pt_cmpR op_ne (pe_callB (w_len (K := K) rfl) (by rfl) T.b_len (by decide +kernel) (pa_cons (pv 0) pa_nil)) pe_int (nomark _))))) (pss_one (ps_ret pe_bl)) pss_nil)
      (pss_cons (ps_if (PW.pt (pw_or (pt_not (pt_val (pe_call (ok_is_integer (P := P) (w := w) T) (hr.mono (by decide)) (by rfl) T.is_integer.g T.is_integer.F.kp T.is_integer.B .nil pass0 (pa_cons (pe_ix (w_ixT (K := K) rfl) (pv 0) pe_int (fun _ _ => rfl)) pa_nil)))) (pw_or1 (pt_not (pt_chain op_le op_lt pe_int (pe_ix (w_ixT (K := K) rfl) (pv 0) pe_int (fun _ _ => rfl)) (pv 1)))))) (pss_one (ps_ret pe_bl)) pss_nil)
      (pss_one (ps_ret (pe_call (ok_is_moves (P := P) (w := w) T) (hr.mono (by decide)) (by rfl) T.is_moves.g T.is_moves.F.kp T.is_moves.B .nil pass0 (pa_cons (pe_ix (w_ixT (K := K) rfl) (pv 0) pe_int (fun _ _ => rfl)) (pa_cons (pv 2) pa_nil)))))))))), ?_⟩
  refine x_start (σ' := [some _, some _, some _]) rfl ?_
  try simp only [cx_n, cx_K, cx_w, cx_P]
  cases st with
  | fin =>
    obtain ⟨p, rfl, hp⟩ := hst
    walk_at "rd"
    refine x_isiT (ty_tup hp) (by decide +kernel) ?_
    walk_at "rd"
    refine x_lenT' hp ?_
    walk_at "rd"
    walk_at "if!"
    walk_at "rd"
    refine x_ixT hp (atI_nat (j := 0) rfl) ?_
    walk_at "rd"
    refine x_isiT (.base (.str _)) (by decide +kernel) ?_
    walk_at "rd"
    refine x_ixT hp (atI_nat (j := 0) rfl) ?_
    walk_at "rd"
    walk_at "if!"
    walk_at "rd"
    refine x_lenT' hp ?_
    walk_at "rd"
    exact k H (SX.refl H)
  | chance ds =>
    obtain ⟨p, d, rfl, hp, hd⟩ := hst
    obtain ⟨h1, h4, hnd, hall⟩ := hok
    walk_at "rd"
    refine x_isiT (ty_tup hp) (by decide +kernel) ?_
    walk_at "rd"
    refine x_lenT' hp ?_
    walk_at "rd"
    walk_at "if!"
    walk_at "rd"
    refine x_ixT hp (atI_nat (j := 0) rfl) ?_
    walk_at "rd"
    refine x_isiT (.base (.str _)) (by decide +kernel) ?_
    walk_at "rd"
    refine x_ixT hp (atI_nat (j := 0) rfl) ?_
    walk_at "rd"
    walk_at "if!"
    walk_at "rd"
    refine x_ixT hp (atI_nat (j := 0) rfl) ?_
    walk_at "rd"
    walk_at "if!"
    walk_at "rd"
    refine x_lenT' hp ?_
    walk_at "rd"
    walk_at "if!"
    walk_at "rd"
    refine x_ixT hp (atI_nat (j := 1) rfl) ?_
    walk_at "rd"
    exact ⟨_, _, ds, names, rfl, hd, hu2, h1, h4, hall, k⟩
  | hand h ms =>
    obtain ⟨p, d, rfl, hp, hd⟩ := hst
    obtain ⟨hh0, hh1, h1, h4, hnd, hall⟩ := hok
    walk_at "rd"
    refine x_isiT (ty_tup hp) (by decide +kernel) ?_
    walk_at "rd"
    refine x_lenT' hp ?_
    walk_at "rd"
    walk_at "if!"
    walk_at "rd"
    refine x_ixT hp (atI_nat (j := 0) rfl) ?_
    walk_at "rd"
    refine x_isiT (.base (.str _)) (by decide +kernel) ?_
    walk_at "rd"
    refine x_ixT hp (atI_nat (j := 0) rfl) ?_
    walk_at "rd"
    walk_at "if!"
    walk_at "rd"
    refine x_ixT hp (atI_nat (j := 0) rfl) ?_
    walk_at "rd"
    walk_at "if!"
    walk_at "rd"
    refine x_ixT hp (atI_nat (j := 0) rfl) ?_
    walk_at "rd"
    walk_at "if!"
    walk_at "rd"
    refine x_lenT' hp ?_
    walk_at "rd"
    walk_at "if!"
    walk_at "rd"
    refine x_ixT hp (atI_nat (j := 1) rfl) ?_
    walk_at "rd"
    refine ⟨_, rfl, ?_⟩
    walk_at "rd"
    refine x_ixT hp (atI_nat (j := 1) rfl) ?_
    walk_at "rd"
    refine x_true (decide_eq_true hh0) ?_
    walk_at "rd"
    rw [decide_eq_true hh1]
    walk_at "rd"
    refine x_ixT hp (atI_nat (j := 2) rfl) ?_
    walk_at "rd"
    exact ⟨_, _, ms, names, rfl, hd, hu2, h1, h4, hall, k⟩
def sp_are_stands (T : Tx K mg) : Sp := fun vs H Q _ => ∃ v n sts, vs = [v, .int n] ∧ rD (rStand K) H v sts ∧ 1 ≤ sts.length ∧ sts.length ≤ 100 ∧
  (∀ p ∈ sts, nameB p.1 = true ∧ StandOk n (sts.map (·.1)) p.2) ∧ ∀ H', SX [] H H' → Q (.bl true) H'
theorem ok_are_stands (T : Tx K mg) : FnOk P w K mg base CX0 4 T.are_stands.f T.are_stands.fd P_are_stands (sp_are_stands T) := by
  refine T.are_stands.F.ok sc_are_stands (fun vs H Q E h => ?_) (fun cdv A outer s H vs Q E hr h => ?_)
  · obtain ⟨v, n, sts, rfl, ⟨d, kvs, hv, hd, hk⟩, h1, h100, hall, k⟩ := h
    rfl
  have hu := hu_of hr
  have nd := sc_are_stands.nd
  obtain ⟨v, n, sts, rfl, ⟨d, kvs, hv, hd, hk⟩, h1, h100, hall, k⟩ := h
  refine ⟨_, (pss_cons (ps_if (PW.pt (pw_or (pt_not (pt_val (pe_callB (w_isi (K := K) rfl) (by rfl) T.b_isinstance (by decide +kernel) (pa_cons (pv 0) (pa_cons (pe_bltn (v := .ty "dict") (by rfl) T.b_dict (by decide +kernel) rfl) pa_nil))))) (pw_or1 (pt_not (pt_chain op_le op_le pe_int (pe_callB cl_lenD (by rfl) T.b_len (by decide +kernel) (pa_cons (pv 0) pa_nil)) pe_int))))) (pss_one (ps_ret pe_bl)) pss_nil)
      (pss_cons (ps_lockR (ps_for PassesOwn.never rfl (pi_keys (pv 0)) (pg_name (i := 2) nd rfl (Or.inl rfl)) (pss_one (ps_if (pt_not (pt_val (pe_call (ok_is_name (P := P) (w := w) T) (hr.mono (by decide)) (by rfl) T.is_name.g T.is_name.F.kp T.is_name.B .nil pass0 (pa_cons (pv 2) pa_nil)))) (pss_one (ps_ret pe_bl)) pss_nil))))
      (pss_cons (ps_lockR (ps_for PassesOwn.never rfl (pi_values (pv 0)) (pg_name (i := 3) nd rfl (Or.inl rfl)) (pss_one (ps_if (pt_not (pt_val (pe_call (ok_is_stand (P := P) (w := w) T) (hr.mono (by decide)) (by rfl) T.is_stand.g T.is_stand.F.kp T.is_stand.B .nil pass0 (pa_cons (pv 3) (pa_cons (pv 1) (pa_cons (pv 0) pa_nil)))))) (pss_one (ps_ret pe_bl)) pss_nil))))
      (pss_one (ps_ret pe_bl))))), ?_⟩
  refine x_start (σ' := [some _, some _, none, none]) rfl ?_
  try simp only [cx_n, cx_K, cx_w, cx_P]
  subst hv
  walk_at "rd"
  refine x_isiT (ty_dict hd) (by decide +kernel) ?_
  walk_at "rd"
  have hl : kvs.length = sts.length := Paired.length hk
  refine x_lenD hd ?_
  walk_at "rd"
  rw [hl]
  refine x_true (decide_eq_true (by omega)) ?_
  walk_at "rd"
  rw [decide_eq_true (show (sts.length : Int) ≤ 100 by omega)]
  walk_at "rd"
  refine x_lockR hd fun od HL eL ne => ?_
  walk_at "rd"
  refine ⟨d, od, rfl, .inl ⟨kvs, eL, ?_⟩⟩
  have leL : Le H HL := lock_le hd eL ne
  refine for_it (walk_keysR (KVs.le (mono_stand K) leL hk)) (fun i σ H' => SX [] HL H' ∧ ∃ a, σ = [some (.ref d), some (.int n), a, none]) ⟨SX.refl _, _, rfl⟩ (fun _ _ _ _ h => h.1 _ _ List.not_mem_nil eL) ?_ ?_
  · rintro i x σ H0 H1 hi ⟨sx, a, rfl⟩ ⟨rfl, p, v, hp, rfl, hv⟩
    obtain ⟨n1, n2⟩ := hall p (getMem hp)
    walk_at "rd"
    refine ⟨_, rfl, nameB_size n1, ?_⟩
    rw [n1]
    walk_at "rd"
    exact ⟨sx, _, rfl⟩
  rintro σ H1 ⟨sx, a, rfl⟩
  refine ⟨sx _ _ List.not_mem_nil eL, ?_⟩
  have sx1 : SX [] H (put H1 d (H d)) := unlock_sx ne sx
  generalize put H1 d (H d) = H2 at sx1
  walk_at "rd"
  refine x_lockR (sx1.rd hd) fun od2 HL2 eL2 ne2 => ?_
  walk_at "rd"
  refine ⟨d, od2, kvs, rfl, eL2, ?_⟩
  have leL2 : Le H HL2 := sx1.le0.trans (lock_le (sx1.rd hd) eL2 ne2)
  refine for_it (walk_valsR (KVs.le (mono_stand K) leL2 hk)) (fun i σ H' => SX [] HL2 H' ∧ ∃ b, σ = [some (.ref d), some (.int n), a, b]) ⟨SX.refl _, _, rfl⟩ (fun _ _ _ _ h => h.1 _ _ List.not_mem_nil eL2) ?_ ?_
  · rintro i x σ H0 H1 hi ⟨sx, b, rfl⟩ ⟨rfl, p, hp, hv⟩
    obtain ⟨n1, n2⟩ := hall p (getMem hp)
    walk_at "rd"
    refine ⟨_, _, n, p.2, sts.map (·.1), rfl, mono_stand K _ _ _ _ sx.le0 hv, ⟨d, kvs, rfl, sx.rd (Rd.le leL2 hd), hk.keys⟩, n2, fun H' sx' => ?_⟩
    walk_at "rd"
    exact ⟨sx.trans sx', _, rfl⟩
  · rintro σ H1 ⟨sx, b, rfl⟩
    refine ⟨sx _ _ List.not_mem_nil eL2, ?_⟩
    walk_at "rd"
    exact k _ (sx1.trans (unlock_sx ne2 sx))
end
end M

namespace M
open PySem PySem.Spec PyProof.Rows L2
/-- the same stand, its steps ascending -/
def SrtStand : Stand → Stand → Prop
  | .fin, .fin => True
  | .hand h ms, .hand h' ms' => h = h' ∧ Srt ms ms'
  | .chance ds, .chance ds' => Srt ds ds'
  | _, _ => False
/-- the stands to which steps lead -/
def Stand.tos : Stand → List Str
  | .fin => []
  | .hand _ ms => ms.map (·.2)
  | .chance ds => ds.map (·.2.1)
def Stand.size : Stand → Nat
  | .fin => 0
  | .hand _ ms => ms.length
  | .chance ds => ds.length
def Stand.nd : Stand → Prop
  | .fin => True
  | .hand _ ms => (ms.map (·.1)).Nodup
  | .chance ds => (ds.map (·.1)).Nodup
theorem SrtStand.tos {a b : Stand} (h : SrtStand a b) : b.tos.Perm a.tos := by
  cases a <;> cases b <;> first | exact h.elim | exact .refl _ | exact (h.2.perm.map _) | exact (Srt.perm h).map _
section
variable {P : Program} {w : World} {K : PySem.W.Frag} {mg : Str → Option Value} {base : Heap}
def sp_copied (T : Tx K mg) : Sp := fun vs H Q _ => ∃ v st S, vs = [v] ∧ (∀ b ∈ S, H b ≠ none) ∧ rStand K (hid S H) v st ∧ st.nd ∧ st.size ≤ 100 ∧ ∀ v' H' st', SX [] H H' → rStand K (hid S H') v' st' → SrtStand st st' → Q v' H'
theorem ok_copied (T : Tx K mg) : FnOk P w K mg base CX0 1 T.copied.f T.copied.fd P_copied (sp_copied T) := by
  refine T.copied.F.ok sc_copied (fun vs H Q E h => ?_) (fun cdv A outer s H vs Q E hr h => ?_)
  · obtain ⟨v, st, S, rfl, hS, hst, hnd, hsz, k⟩ := h
    rfl
  have hu := hu_of hr
  have nd := sc_copied.nd
  obtain ⟨v, st, S, rfl, hS, hst, hnd, hsz, k⟩ := h
  refine ⟨_, (pss_cons (ps_if (pt_cmpR op_eq (pe_ix (w_ixT (K := K) rfl) (pv 0) pe_int (fun _ _ => rfl)) pe_str (nomark _)) (pss_one (ps_ret (pe_tup (pa_cons pe_str pa_nil)))) pss_nil)
      (pss_cons (ps_set (i := 1) nd rfl (Or.inr rfl) (pe_ix (w_ixT (K := K) rfl) (pv 0) (pe_op op_sub (pe_callB (w_len (K := K) rfl) (by rfl) T.b_len (by decide +kernel) (pa_cons (pv 0) pa_nil)) pe_int) (fun _ _ => rfl)))
      (pss_cons (ps_setDc (i := 2) (own := [("step", 3)]) rfl nd rfl rfl (sw_dc rfl rfl rfl (by decide +kernel)) (w_pilist (K := K) rfl (pe_callB (cl_sortD rfl) (by rfl) T.b_sorted (by decide +kernel) (pa_cons (pv 1) pa_nil))) (blkOk_by (own := [("step", 3)]) (N := N_copied) (sc := defScope s_copied) (by decide +kernel)) (fun _ _ _ _ _ => (pg_name (i := 3) nd rfl (Or.inl rfl))) (fun _ _ _ _ _ => pts_nil) (fun _ _ _ _ _ => (pv 3)) (fun _ _ _ _ _ => (pe_dget hu (pv 1) (pv 3) (fun _ _ => rfl))))
      (pss_cons (ps_if (pt_cmpR op_eq (pe_ix (w_ixT (K := K) rfl) (pv 0) pe_int (fun _ _ => rfl)) pe_str (nomark _)) (pss_one (ps_ret (pe_tup (pa_cons pe_str (pa_cons (pe_ix (w_ixT (K := K) rfl) (pv 0) pe_int (fun _ _ => rfl)) (pa_cons (pv 2) pa_nil)))))) pss_nil)
      (pss_one (ps_ret (pe_tup (pa_cons pe_str (pa_cons (pv 2) pa_nil))))))))), ?_⟩
  refine x_start (σ' := [some _, none, none, none]) rfl ?_
  try simp only [cx_n, cx_K, cx_w, cx_P]
  cases st with
  | fin =>
    obtain ⟨p, rfl, hp0⟩ := hst
    have hp := le_hid.t hp0
    walk_at "rd"
    refine x_ixT hp (atI_nat (j := 0) rfl) ?_
    walk_at "rd"
    walk_at "if!"
    walk_at "rd"
    refine ⟨Nat.le_of_ble_eq_true rfl, fun q hq => ?_⟩
    exact k _ _ .fin (SX.new hq) ⟨q, rfl, sqT (hid_new hq hS)⟩ trivial
  | hand h ms =>
    obtain ⟨p, d, rfl, hp0, hd⟩ := hst
    have hp := le_hid.t hp0
    obtain ⟨dd, kvs, rfl, hd1, hd2⟩ := id hd
    walk_at "rd"
    refine x_ixT hp (atI_nat (j := 0) rfl) ?_
    walk_at "rd"
    walk_at "if!"
    walk_at "rd"
    refine x_lenT' hp ?_
    walk_at "rd"
    refine x_ixT hp (v := .ref dd) (atI_nat (j := 2) rfl) ?_
    walk_at "rd"
    refine x_copyD (S := S) (i := 1) (j := 3) mono_S hS (by rfl) (by simp) (by decide) hd hnd (by show ms.length ≤ 10000; exact Nat.le_trans hsz (by decide)) fun D H' l' s1 hD r1 hD' sr => ?_
    walk_at "rd"
    refine x_ixT (s1.le0.t hp) (atI_nat (j := 0) rfl) ?_
    walk_at "rd"
    walk_at "if!"
    walk_at "rd"
    refine x_ixT (s1.le0.t hp) (atI_nat (j := 1) rfl) ?_
    walk_at "rd"
    refine ⟨Nat.le_of_ble_eq_true rfl, fun q hq => ?_⟩
    have s2 : SX [] H' (upd H' q (.tup [.str "hand", .int h, .ref D])) := SX.new hq
    exact k _ _ (.hand h l') (s1.trans s2) ⟨q, .ref D, rfl, sqT (hid_new hq (there s1 hS)), mono_D mono_S _ _ _ _ (nil_sx s2).le r1⟩ ⟨rfl, sr⟩
  | chance ds =>
    obtain ⟨p, d, rfl, hp0, hd⟩ := hst
    have hp := le_hid.t hp0
    obtain ⟨dd, kvs, rfl, hd1, hd2⟩ := id hd
    walk_at "rd"
    refine x_ixT hp (atI_nat (j := 0) rfl) ?_
    walk_at "rd"
    walk_at "if!"
    walk_at "rd"
    refine x_lenT' hp ?_
    walk_at "rd"
    refine x_ixT hp (v := .ref dd) (atI_nat (j := 1) rfl) ?_
    walk_at "rd"
    refine x_copyD (S := S) (i := 1) (j := 3) (mono_P mono_S mono_I) hS (by rfl) (by simp) (by decide) hd hnd (by show ds.length ≤ 10000; exact Nat.le_trans hsz (by decide)) fun D H' l' s1 hD r1 hD' sr => ?_
    walk_at "rd"
    refine x_ixT (s1.le0.t hp) (atI_nat (j := 0) rfl) ?_
    walk_at "rd"
    walk_at "if!"
    walk_at "rd"
    refine ⟨Nat.le_of_ble_eq_true rfl, fun q hq => ?_⟩
    have s2 : SX [] H' (upd H' q (.tup [.str "chance", .ref D])) := SX.new hq
    exact k _ _ (.chance l') (s1.trans s2) ⟨q, .ref D, rfl, sqT (hid_new hq (there s1 hS)), mono_D (mono_P mono_S mono_I) _ _ _ _ (nil_sx s2).le r1⟩ sr
/-- a work at x: its table -/
def TableAt (T : Tx K mg) (H : Hp) (x : Addr) (tbl : List (Str × Stand)) : Prop := ∃ dx fs d, H x = some (.ins T.a_Work dx fs) ∧ fs.lookup ("table" : Str) = some (V.ref d) ∧ rD (rStand K) H (.ref d) tbl
theorem TableAt.le {T : Tx K mg} {A B : Hp} {x : Addr} {tbl : List (Str × Stand)} (e : Le A B) (h : TableAt T A x tbl) : TableAt T B x tbl := by
  obtain ⟨dx, fs, d, h1, h2, h3⟩ := h
  exact ⟨dx, fs, d, e.ins _ _ _ _ h1, h2, mono_D (mono_stand K) _ _ _ _ e h3⟩
def sp_leads (T : Tx K mg) : Sp := fun vs H Q _ => ∃ x s tbl st, vs = [.ref x, .str s] ∧ TableAt T H x tbl ∧ lookA tbl s = some st ∧ st.nd ∧ st.size ≤ 100 ∧
  ∀ p H', SX [] H H' → H p = none → H' p = some (.lst (st.tos.map V.str)) → Q (.ref p) H'
theorem ok_leads (T : Tx K mg) : FnOk P w K mg base CX0 1 T.leads.f T.leads.fd P_leads (sp_leads T) := by
  refine T.leads.F.ok sc_leads (fun vs H Q E h => ?_) (fun cdv A outer s H vs Q E hr h => ?_)
  · obtain ⟨x, s, tbl, st, rfl, ⟨dx, fs, d, h1, h2, h3⟩, hs, hnd, hsz, k⟩ := h
    rfl
  have hu := hu_of hr
  have nd := sc_leads.nd
  obtain ⟨x, s, tbl, st, rfl, ⟨dx, fs, d, h1, h2, h3⟩, hs, hnd, hsz, k⟩ := h
  refine ⟨_, (pss_cons (ps_set (i := 2) nd rfl (Or.inr rfl) (pe_dget hu (w_fld (K := K) rfl (pv 0) rfl) (pv 1) (fun _ _ => rfl)))
      (pss_cons (ps_if (pt_cmpR op_eq (pe_ix (w_ixT (K := K) rfl) (pv 2) pe_int (fun _ _ => rfl)) pe_str (nomark _)) (pss_one (ps_ret (pe_lst pa_nil))) pss_nil)
      (pss_cons (ps_if (pt_cmpR op_eq (pe_ix (w_ixT (K := K) rfl) (pv 2) pe_int (fun _ _ => rfl)) pe_str (nomark _)) (pss_one (ps_ret (pe_lockR (pe_lc (own := [("step", 3)]) rfl nd (pi_keys (pe_ix (w_ixT (K := K) rfl) (pv 2) pe_int (fun _ _ => rfl))) (blkOk_by (own := [("step", 3)]) (N := N_leads) (sc := defScope s_leads) (by decide +kernel)) (fun _ _ _ _ _ => (pg_name (i := 3) nd rfl (Or.inl rfl))) (fun _ _ _ _ _ => pts_nil) (fun _ _ _ _ _ => (pe_dget hu (pe_ix (w_ixT (K := K) rfl) (pv 2) pe_int (fun _ _ => rfl)) (pv 3) (fun _ _ => rfl))))))) pss_nil)
      (pss_one (ps_ret (pe_lockR (pe_lc (own := [("step", 3)]) rfl nd (pi_keys (pe_ix (w_ixT (K := K) rfl) (pv 2) pe_int (fun _ _ => rfl))) (blkOk_by (own := [("step", 3)]) (N := N_leads) (sc := defScope s_leads) (by decide +kernel)) (fun _ _ _ _ _ => (pg_name (i := 3) nd rfl (Or.inl rfl))) (fun _ _ _ _ _ => pts_nil) (fun _ _ _ _ _ => (pe_ix (w_ixT (K := K) rfl) (pe_dget hu (pe_ix (w_ixT (K := K) rfl) (pv 2) pe_int (fun _ _ => rfl)) (pv 3) (fun _ _ => rfl)) pe_int (fun _ _ => rfl)))))))))), ?_⟩
  refine x_start (σ' := [some _, some _, none, none]) rfl ?_
  try simp only [cx_n, cx_K, cx_w, cx_P]
  obtain ⟨d', kvs, hd', hr, hk⟩ := h3
  cases hd'
  obtain ⟨v, e1, hst⟩ := hk.at_ hs
  walk_at "rd"
  refine ⟨x, _, dx, fs, _, rfl, h1, T.cl_Work, T.n_Work_table, h2, ?_⟩
  walk_at "rd"
  refine x_dg' hr e1 ?_
  walk_at "rd"
  cases st with
  | fin =>
    obtain ⟨p, rfl, hp⟩ := hst
    refine x_ixT hp (atI_nat (j := 0) rfl) ?_
    walk_at "rd"
    walk_at "if!"
    walk_at "rd"
    exact ⟨Nat.le_of_ble_eq_true rfl, fun q hq => k q _ (SX.new hq) hq upd_same⟩
  | hand h ms =>
    obtain ⟨p, dd, rfl, hp, d1, kv1, rfl, hr1, hk1⟩ := hst
    refine x_ixT hp (atI_nat (j := 0) rfl) ?_
    walk_at "rd"
    walk_at "if!"
    walk_at "rd"
    refine x_ixT hp (atI_nat (j := 0) rfl) ?_
    walk_at "rd"
    walk_at "if!"
    walk_at "rd"
    refine x_lockRE hr1 fun od HL eL ne => ?_
    have leL : Le H HL := lock_le hr1 eL ne
    walk_at "rd"
    refine x_ixT (leL.t hp) (v := .ref d1) (atI_nat (j := 2) rfl) ?_
    refine ⟨d1, od, rfl, .inl ⟨kv1, eL, fun D hD => ?_⟩⟩
    have hDd : d1 ≠ D := ne_of_none eL hD
    have hD0 : H D = none := by rw [← ne D (Ne.symm hDd)]; exact hD
    refine lc_it (walk_keysR hk1) (fun n A => SX [] HL A ∧ A D = some (.lst ((ms.take n).map fun p => V.str p.2))) ⟨SX.new hD, upd_same⟩ (fun _ _ _ h => h.1 _ _ List.not_mem_nil eL) ?_ ?_
    · rintro n y A B hn ⟨s1, s2⟩ ⟨rfl, q, v, hq, rfl, rfl⟩
      walk_at "rd"
      refine ⟨rfl, ?_⟩
      walk_at "rd"
      refine x_ixT (s1.le0.t (leL.t hp)) (v := .ref d1) (atI_nat (j := 2) rfl) ?_
      walk_at "rd"
      obtain ⟨v3, e3, rfl⟩ := hk1.in_ hnd (getMem hq)
      refine x_dg' (s1.rd (Rd.le leL hr1)) e3 ?_
      refine ⟨_, s2, lt_size (by rw [List.length_map, List.length_take]; have : ms.length ≤ 100 := hsz; omega), sx_nil_of (S := [D]) ((nil_sx s1).trans (SX.mut List.mem_cons_self)) (by simp [hD]), ?_⟩
      rw [upd_same, take_succ_of hq, List.map_append]
      rfl
    · rintro A ⟨s1, s2⟩
      refine ⟨s1 _ _ List.not_mem_nil eL, ?_⟩
      rw [List.take_length] at s2
      refine k D _ (unlock_sx ne s1) hD0 ?_
      rw [put_ne (Ne.symm hDd), s2]
      show _ = some (HO.lst ((ms.map (·.2)).map V.str))
      rw [List.map_map]
      rfl
  | chance ds =>
    obtain ⟨p, dd, rfl, hp, d1, kv1, rfl, hr1, hk1⟩ := hst
    refine x_ixT hp (atI_nat (j := 0) rfl) ?_
    walk_at "rd"
    walk_at "if!"
    walk_at "rd"
    refine x_ixT hp (atI_nat (j := 0) rfl) ?_
    walk_at "rd"
    walk_at "if!"
    walk_at "rd"
    refine x_lockRE hr1 fun od HL eL ne => ?_
    have leL : Le H HL := lock_le hr1 eL ne
    walk_at "rd"
    refine x_ixT (leL.t hp) (v := .ref d1) (atI_nat (j := 1) rfl) ?_
    refine ⟨d1, od, rfl, .inl ⟨kv1, eL, fun D hD => ?_⟩⟩
    have hDd : d1 ≠ D := ne_of_none eL hD
    have hD0 : H D = none := by rw [← ne D (Ne.symm hDd)]; exact hD
    refine lc_it (walk_keysR hk1) (fun n A => SX [] HL A ∧ A D = some (.lst ((ds.take n).map fun p => V.str p.2.1))) ⟨SX.new hD, upd_same⟩ (fun _ _ _ h => h.1 _ _ List.not_mem_nil eL) ?_ ?_
    · rintro n y A B hn ⟨s1, s2⟩ ⟨rfl, q, v, hq, rfl, _⟩
      walk_at "rd"
      refine ⟨rfl, ?_⟩
      walk_at "rd"
      refine x_ixT (s1.le0.t (leL.t hp)) (v := .ref d1) (atI_nat (j := 1) rfl) ?_
      walk_at "rd"
      obtain ⟨v3, e3, a, x1, x2, rfl, ha, rfl, rfl⟩ := hk1.in_ hnd (getMem hq)
      refine x_dg' (s1.rd (Rd.le leL hr1)) e3 ?_
      walk_at "rd"
      refine x_ixT (s1.le0.t (leL.t ha)) (atI_nat (j := 0) rfl) ?_
      refine ⟨_, s2, lt_size (by rw [List.length_map, List.length_take]; have : ds.length ≤ 100 := hsz; omega), sx_nil_of (S := [D]) ((nil_sx s1).trans (SX.mut List.mem_cons_self)) (by simp [hD]), ?_⟩
      rw [upd_same, take_succ_of hq, List.map_append]
      rfl
    · rintro A ⟨s1, s2⟩
      refine ⟨s1 _ _ List.not_mem_nil eL, ?_⟩
      rw [List.take_length] at s2
      refine k D _ (unlock_sx ne s1) hD0 ?_
      rw [put_ne (Ne.symm hDd), s2]
      show _ = some (HO.lst ((ds.map (·.2.1)).map V.str))
      rw [List.map_map]
      rfl
end
end M

namespace M
open PySem PySem.Spec PyProof.Rows L2
/-! ### settling, round by round -/
def addS (s : List Str) (n : Str) : List Str := if n ∈ s then s else s ++ [n]
def tosOf (tbl : List (Str × Stand)) (n : Str) : List Str := ((lookA tbl n).map Stand.tos).getD []
def turnR (f : Str → List Str) (rs : List Str × List Str) (n : Str) : List Str × List Str := if ((f n).all fun t => decide (t ∈ rs.2)) = true then (rs.1, addS rs.2 n) else (rs.1 ++ [n], rs.2)
def roundR (f : Str → List Str) (left s : List Str) : List Str × List Str := left.foldl (turnR f) ([], s)
def ringR (f : Str → List Str) : Nat → List Str → List Str → List Str
  | 0, left, _ => left
  | n + 1, left, s => if (roundR f left s).1.length < left.length then ringR f n (roundR f left s).1 (roundR f left s).2 else (roundR f left s).1
def ringB (tbl : List (Str × Stand)) : Bool := decide ((ringR (tosOf tbl) (tbl.length + 1) (tbl.map (·.1)) []).length = 0)
theorem ringR_succ (f : Str → List Str) (n : Nat) (left s : List Str) : ringR f (n + 1) left s = if (roundR f left s).1.length < left.length then ringR f n (roundR f left s).1 (roundR f left s).2 else (roundR f left s).1 := rfl
def muR (σ : L2.St) (A : Hp) : Nat := match σ with
  | [_, some (.ref L), _, some (.bl true), _, _, _] => (match A L with | some (.lst l) => l.length + 1 | _ => 0)
  | _ => 0
theorem muR_true {A : Hp} {L : Addr} {l : List V} {a b c d e : Option V} (h : A L = some (.lst l)) : muR [a, some (.ref L), b, some (.bl true), c, d, e] A = l.length + 1 := by
  show (match A L with | some (.lst l) => l.length + 1 | _ => 0) = _
  rw [h]
theorem muR_false {A : Hp} {L : Addr} {a b c d e : Option V} : muR [a, some (.ref L), b, some (.bl false), c, d, e] A = 0 := rfl
theorem tos_len (st : Stand) : st.tos.length = st.size := by
  cases st with
  | fin => rfl
  | hand h ms => exact List.length_map _
  | chance ds => exact List.length_map _
theorem ringR_fuel (f : Str → List Str) : ∀ (n m : Nat) (left s : List Str), left.length < n → left.length < m → ringR f n left s = ringR f m left s
  | 0, _, _, _, h, _ => absurd h (Nat.not_lt_zero _)
  | _, 0, _, _, _, h => absurd h (Nat.not_lt_zero _)
  | n + 1, m + 1, left, s, h1, h2 => by
    unfold ringR
    split
    · exact ringR_fuel f n m _ _ (by omega) (by omega)
    · rfl
theorem addS_len (s : List Str) (n : Str) : (addS s n).length ≤ s.length + 1 := by
  unfold addS
  split
  · omega
  · simp
theorem turnR_len (f : Str → List Str) (rs : List Str × List Str) (n : Str) : (turnR f rs n).1.length + (turnR f rs n).2.length ≤ rs.1.length + rs.2.length + 1 := by
  unfold turnR
  split
  · have := addS_len rs.2 n
    show rs.1.length + (addS rs.2 n).length ≤ _
    omega
  · show (rs.1 ++ [n]).length + rs.2.length ≤ _
    rw [List.length_append]
    show rs.1.length + 1 + rs.2.length ≤ _
    omega
theorem foldR_len (f : Str → List Str) : ∀ (l : List Str) (rs : List Str × List Str), (l.foldl (turnR f) rs).1.length + (l.foldl (turnR f) rs).2.length ≤ rs.1.length + rs.2.length + l.length
  | [], rs => Nat.le_refl _
  | n :: l, rs => by
    have h1 := foldR_len f l (turnR f rs n)
    have h2 := turnR_len f rs n
    show (l.foldl (turnR f) (turnR f rs n)).1.length + (l.foldl (turnR f) (turnR f rs n)).2.length ≤ _
    rw [List.length_cons]
    omega
theorem foldR_take (f : Str → List Str) {l : List Str} {i : Nat} {n : Str} (h : l[i]? = some n) (rs : List Str × List Str) : (l.take (i + 1)).foldl (turnR f) rs = turnR f ((l.take i).foldl (turnR f) rs) n := by
  rw [take_succ_of h, List.foldl_append]
  rfl
theorem foldR_sub (f : Str → List Str) : ∀ (l : List Str) (rs : List Str × List Str) (x : Str), x ∈ (l.foldl (turnR f) rs).1 → x ∈ rs.1 ∨ x ∈ l
  | [], rs, x, h => .inl h
  | n :: l, rs, x, h => by
    rcases foldR_sub f l (turnR f rs n) x h with h | h
    · unfold turnR at h
      split at h
      · exact .inl h
      · rcases List.mem_append.mp h with h | h
        · exact .inl h
        · exact .inr (List.mem_cons.mpr (.inl (List.mem_singleton.mp h)))
    · exact .inr (List.mem_cons_of_mem _ h)
theorem keys_put {kv : List (Key × V)} {l : List Str} {s : Str} {v : V} (e : kv.map (·.1) = l.map Sum.inr) : (putK kv (Sum.inr s) v).map (·.1) = (addS l s).map Sum.inr := by
  unfold addS
  by_cases m : s ∈ l
  · rw [if_pos m, ← e]
    unfold putK
    have h : (kv.any fun p => decide (p.1 = (Sum.inr s : Key))) = true := by rw [valV_any, keys_val e, decide_eq_true m]
    rw [if_pos h, List.map_map]
    apply List.map_congr_left
    intro p hp
    show (if p.1 = (Sum.inr s : Key) then (p.1, v) else p).1 = p.1
    split <;> rfl
  · rw [if_neg m, putK_fresh v e m, List.map_append, List.map_append, e]
    rfl
section
variable {P : Program} {w : World} {K : PySem.W.Frag} {mg : Str → Option Value} {base : Heap}
def sp_is_ringless (T : Tx K mg) : Sp := fun vs H Q _ => ∃ x tbl dx fs d nm, vs = [.ref x] ∧ H x = some (.ins T.a_Work dx fs) ∧ fs.lookup ("table" : Str) = some (V.ref d) ∧ rD (rStand K) H (.ref d) tbl ∧
  fs.lookup ("names" : Str) = some (V.ref nm) ∧ SqT K H nm ((tbl.map (·.1)).map V.str) ∧ tbl.length ≤ 100 ∧ (∀ p ∈ tbl, p.2.nd ∧ p.2.size ≤ 100) ∧ ∀ H', SX [] H H' → Q (.bl (ringB tbl)) H'
theorem ok_is_ringless (T : Tx K mg) : FnOk P w K mg base CX0 2 T.is_ringless.f T.is_ringless.fd P_is_ringless (sp_is_ringless T) := by
  refine T.is_ringless.F.ok sc_is_ringless (fun vs H Q E h => ?_) (fun cdv A outer s H vs Q E hr h => ?_)
  · obtain ⟨x, tbl, dx, fs, d, nm, rfl, h1, h2, h3, h4, h5, h100, hall, k⟩ := h
    rfl
  have hu := hu_of hr
  have nd := sc_is_ringless.nd
  obtain ⟨x, tbl, dx, fs, d, nm, rfl, h1, h2, h3, h4, h5, h100, hall, k⟩ := h
  refine ⟨_, (pss_cons (ps_set (i := 1) nd rfl (Or.inl rfl) (pe_callTy (w_list (K := K) rfl) (by rfl) T.b_list (by decide +kernel) (pa_cons (w_fld (K := K) rfl (pv 0) rfl) pa_nil)))
      (pss_cons (ps_set (i := 2) nd rfl (Or.inr rfl) pe_dnewK)
      (pss_cons (ps_set (i := 3) nd rfl (Or.inl rfl) pe_bl)
      (pss_cons (ps_while PassesOwn.never (pt_val (pv 3)) (pss_cons (ps_set (i := 4) nd rfl (Or.inl rfl) (pe_lst pa_nil))
      (pss_cons (ps_for PassesOwn.never rfl (w_pilist (K := K) rfl (pv 1)) (pg_name (i := 5) nd rfl (Or.inl rfl)) (pss_one (ps_if (pt_val (pe_callB (w_all (K := K) rfl rfl) (by rfl) T.b_all (by decide +kernel) (pa_cons (pe_lc (own := [("to", 6)]) rfl nd (w_pilist (K := K) rfl (pe_call (ok_leads (P := P) (w := w) T) (hr.mono (by decide)) (by rfl) T.leads.g T.leads.F.kp T.leads.B .nil pass0 (pa_cons (pv 0) (pa_cons (pv 5) pa_nil)))) (blkOk_by (own := [("to", 6)]) (N := N_is_ringless) (sc := defScope s_is_ringless) (by decide +kernel)) (fun _ _ _ _ _ => (pg_name (i := 6) nd rfl (Or.inl rfl))) (fun _ _ _ _ _ => pts_nil) (fun _ _ _ _ _ => (pe_cmp (pc_din hu (pv 6) (pv 2)) rfl))) pa_nil))) (pss_one (ps_dput hu (pv 2) (pv 5) pe_bl rfl)) (pss_one (ps_expr (pe_bm PySem.F.plainAttrs_list PySem.F.slot_list_append PySem.F.type_list_append mt_append (pv 4) (pa_cons (pv 5) pa_nil)))))))
      (pss_cons (ps_set (i := 3) nd rfl (Or.inl rfl) (pe_cmpR op_lt (pe_callB (w_len (K := K) rfl) (by rfl) T.b_len (by decide +kernel) (pa_cons (pv 4) pa_nil)) (pe_callB (w_len (K := K) rfl) (by rfl) T.b_len (by decide +kernel) (pa_cons (pv 1) pa_nil)) (nomark _)))
      (pss_one (ps_set (i := 1) nd rfl (Or.inl rfl) (pv 4)))))))
      (pss_one (ps_ret (pe_cmpR op_eq (pe_callB (w_len (K := K) rfl) (by rfl) T.b_len (by decide +kernel) (pa_cons (pv 1) pa_nil)) pe_int (nomark _)))))))), ?_⟩
  refine x_start (σ' := [some _, none, none, none, none, none, none]) rfl ?_
  try simp only [cx_n, cx_K, cx_w, cx_P]
  walk_at "rd"
  refine ⟨x, _, dx, fs, _, rfl, h1, T.cl_Work, T.n_Work_names, h4, ?_⟩
  walk_at "rd"
  refine x_clistT h5 fun L0 hL0 => ?_
  walk_at "rd"
  intro S hS
  walk_at "rd"
  have hSL : S ≠ L0 := by
    rintro rfl
    rw [upd_same] at hS
    cases hS
  have hS0 : H S = none := by rw [upd_ne hSL] at hS; exact hS
  refine x_while (fun σ A => ∃ (L : Addr) (left settled : List Str) (going : Bool) (a b : Option V) (kv : List (Key × V)), σ = [some (.ref x), some (.ref L), some (.ref S), some (.bl going), a, b, none] ∧ SX [] H A ∧ A L = some (.lst (left.map V.str)) ∧ A S = some (.dK kv) ∧ kv.map (·.1) = settled.map Sum.inr ∧
      left.length + settled.length ≤ 100 ∧ (∀ n ∈ left, n ∈ tbl.map (·.1)) ∧ (going = true → ringR (tosOf tbl) (left.length + 1) left settled = ringR (tosOf tbl) (tbl.length + 1) (tbl.map (·.1)) []) ∧ (going = false → left = ringR (tosOf tbl) (tbl.length + 1) (tbl.map (·.1)) []))
    muR ?_ ?_ ?_
  · refine ⟨L0, tbl.map (·.1), [], true, none, none, [], rfl, (SX.new hL0).trans (SX.new hS), by rw [upd_ne (Ne.symm hSL)]; exact upd_same, upd_same, rfl, ?_, fun _ h => h, fun _ => ?_, fun h => nomatch h⟩
    · rw [List.length_map]
      exact h100
    · rw [List.length_map]
  · rintro σ A ⟨L, left, settled, going, a, b, kv, rfl, sx, hL, hK, hkeys, hlen, hin, hgo, hend⟩
    walk_at "rd"
    cases going with
    | false =>
      walk_at "rd"
      refine x_len (n := left.length) (.inl ⟨left.map V.str, sqL hL, by rw [List.length_map]⟩) ?_
      walk_at "rd"
      have e : decide (V.int (left.length : Int) = V.int 0) = ringB tbl := by
        unfold ringB
        rw [← hend rfl]
        by_cases h : left.length = 0
        · rw [decide_eq_true h, decide_eq_true (by rw [h]; rfl)]
        · rw [decide_eq_false h, decide_eq_false (by intro q; injection q with q; omega)]
      rw [e]
      exact k A sx
    | true =>
      walk_at "rd"
      refine ⟨Nat.le_of_ble_eq_true rfl, fun R hR => ?_⟩
      walk_at "rd"
      have hRL : L ≠ R := ne_of_none hL hR
      have hRS : S ≠ R := ne_of_none hK hR
      have hLS : L ≠ S := ne_of hL hK (by intro z; cases z)
      refine x_itl (sqL (by rw [upd_ne hRL]; exact hL)) ?_
      have hR0 : H R = none := (SX.free sx hR List.not_mem_nil)
      refine for_it (walk_listR (R := rS) (Hb := H) (paired_S' left)) (fun i σ B => ∃ (b : Option V) (kv : List (Key × V)), σ = [some (.ref x), some (.ref L), some (.ref S), some (.bl true), some (.ref R), b, none] ∧ SX [] H B ∧ B L = some (.lst (left.map V.str)) ∧ B S = some (.dK kv) ∧
        kv.map (·.1) = ((left.take i).foldl (turnR (tosOf tbl)) ([], settled)).2.map Sum.inr ∧ B R = some (.lst (((left.take i).foldl (turnR (tosOf tbl)) ([], settled)).1.map V.str))) ?_ ?_ ?_ ?_
      · exact ⟨_, kv, rfl, sx.trans (SX.new hR), by rw [upd_ne hRL]; exact hL, by rw [upd_ne hRS]; exact hK, hkeys, upd_same⟩
      · rintro i σ B _ ⟨_, _, rfl, _, hB, _⟩
        exact sqL hB
      · rintro i y σ B0 B hi ⟨b, kv2, rfl, s2, hL2, hS2, hk2, hR2⟩ ⟨rfl, n, hn, rfl⟩
        generalize hrs : (left.take i).foldl (turnR (tosOf tbl)) ([], settled) = rs at hk2 hR2
        have hlen2 : rs.1.length + rs.2.length ≤ 100 := by
          have := foldR_len (tosOf tbl) (left.take i) ([], settled)
          rw [hrs, List.length_take] at this
          simp only [List.length_nil] at this
          omega
        obtain ⟨st, hst⟩ := lookA_some (hin n (getMem hn))
        obtain ⟨c1, c2⟩ := hall _ (lookA_mem hst)
        have htos : tosOf tbl n = st.tos := by
          unfold tosOf
          rw [hst]
          rfl
        have hstep := foldR_take (tosOf tbl) hn ([], settled)
        rw [hrs] at hstep
        walk_at "rd"
        refine ⟨x, n, tbl, st, rfl, ⟨dx, fs, d, s2 _ _ List.not_mem_nil h1, h2, mono_D (mono_stand K) _ _ _ _ s2.le0 h3⟩, hst, c1, c2, fun p B1 sx1 hp hp1 => ?_⟩
        refine x_itl (sqL hp1) fun D hD => ?_
        have hDp : p ≠ D := ne_of_none hp1 hD
        have k1 := sx1 _ _ List.not_mem_nil hS2
        have hDS : S ≠ D := ne_of_none k1 hD
        refine lc_it (walk_listR (R := rS) (Hb := H) (paired_S' st.tos)) (fun m C => SX [] B1 C ∧ C D = some (.lst ((st.tos.take m).map fun t => V.bl (decide (t ∈ rs.2))))) ⟨SX.new hD, upd_same⟩ (fun m C _ h => sqL (h.1 _ _ List.not_mem_nil hp1)) ?_ ?_
        · rintro m y C C' hm ⟨s3, s4⟩ ⟨rfl, t, ht, rfl⟩
          walk_at "rd"
          refine ⟨rfl, ?_⟩
          walk_at "rd"
          refine x_din' (.inl (s3 _ _ List.not_mem_nil k1)) ?_
          rw [keys_val hk2]
          refine ⟨_, s4, lt_size (by rw [List.length_map, List.length_take]; have := tos_len st; have c3 : st.size ≤ 100 := c2; omega), sx_nil_of (S := [D]) ((nil_sx s3).trans (SX.mut List.mem_cons_self)) (by simp [hD]), ?_⟩
          rw [upd_same, take_succ_of ht, List.map_append]
          rfl
        · rintro C ⟨s3, s4⟩
          rw [List.take_length] at s4
          have sBC : SX [] B C := sx1.trans s3
          refine ⟨D, st.tos.map fun t => decide (t ∈ rs.2), rfl, sqL (by rw [s4, List.map_map]; rfl), ?_⟩
          walk_at "rd"
          have eall : ((st.tos.map fun t => decide (t ∈ rs.2)).all id) = ((tosOf tbl n).all fun t => decide (t ∈ rs.2)) := by
            rw [htos, List.all_map]
            rfl
          rw [eall]
          refine x_cases (fun hc => ?_) (fun hc => ?_)
          · walk_at "rd"
            refine ⟨S, _, rfl, DPut.k (k := Sum.inr n) (sBC _ _ List.not_mem_nil hS2) (lt_size (by have := congrArg List.length hk2; simp at this; omega)), ?_⟩
            have e2 : turnR (tosOf tbl) rs n = (rs.1, addS rs.2 n) := if_pos hc
            rw [hstep, e2]
            refine ⟨_, _, rfl, sx_nil_of (S := [S]) ((nil_sx (s2.trans sBC)).trans (SX.mut List.mem_cons_self)) (by simp [hS0]), by rw [upd_ne hLS]; exact sBC _ _ List.not_mem_nil hL2, upd_same, keys_put hk2, by rw [upd_ne (Ne.symm hRS)]; exact sBC _ _ List.not_mem_nil hR2⟩
          · walk_at "rd"
            have hR3 := sBC _ _ List.not_mem_nil hR2
            refine ⟨.inl ⟨rfl, _, sqL hR3⟩, ?_⟩
            walk_at "rd"
            refine ⟨R, _, _, rfl, rfl, hR3, lt_size (by rw [List.length_map]; omega), ?_⟩
            have e2 : turnR (tosOf tbl) rs n = (rs.1 ++ [n], rs.2) := if_neg (by rw [hc]; exact Bool.false_ne_true)
            rw [hstep, e2]
            refine ⟨_, _, rfl, sx_nil_of (S := [R]) ((nil_sx (s2.trans sBC)).trans (SX.mut List.mem_cons_self)) (by simp [hR0]), by rw [upd_ne hRL]; exact sBC _ _ List.not_mem_nil hL2, by rw [upd_ne hRS]; exact sBC _ _ List.not_mem_nil hS2, hk2, ?_⟩
            rw [upd_same, List.map_append]
            rfl
      · rintro σ B ⟨b, kv2, rfl, s2, hL2, hS2, hk2, hR2⟩
        rw [List.take_length] at hk2 hR2
        generalize hrs : left.foldl (turnR (tosOf tbl)) ([], settled) = rs at hk2 hR2
        have hround : roundR (tosOf tbl) left settled = rs := hrs
        walk_at "rd"
        refine x_len (n := rs.1.length) (.inl ⟨_, sqL hR2, by rw [List.length_map]⟩) ?_
        walk_at "rd"
        refine x_len (n := left.length) (.inl ⟨_, sqL hL2, by rw [List.length_map]⟩) ?_
        walk_at "rd"
        have hl2 : rs.1.length + rs.2.length ≤ 100 := by
          have := foldR_len (tosOf tbl) left ([], settled)
          rw [hrs] at this
          simp only [List.length_nil] at this
          omega
        have hg := hgo rfl
        rw [ringR_succ (tosOf tbl) left.length left settled] at hg
        rw [hround] at hg
        refine ⟨⟨R, rs.1, rs.2, _, _, _, kv2, rfl, s2, hR2, hS2, hk2, hl2, fun n hn => ?_, fun h => ?_, fun h => ?_⟩, ?_⟩
        · rcases foldR_sub (tosOf tbl) left ([], settled) n (by rw [hrs]; exact hn) with q | q
          · cases q
          · exact hin n q
        · have h : rs.1.length < left.length := by simpa using h
          rw [if_pos h] at hg
          rw [← hg]
          exact ringR_fuel _ _ _ _ _ (Nat.lt_succ_self _) h
        · have h : ¬ rs.1.length < left.length := by simpa using h
          rw [if_neg h] at hg
          exact hg
        · rw [muR_true hL, List.length_map]
          by_cases h : rs.1.length < left.length
          · rw [decide_eq_true (show (rs.1.length : Int) < left.length by omega), muR_true hR2, List.length_map]
            omega
          · rw [decide_eq_false (show ¬ (rs.1.length : Int) < left.length by omega), muR_false]
            omega
  · rintro σ A Q1 Q2 hm ⟨v, hv, c, hc, q⟩
    exact ⟨v, hv, c, hc, hm _ _ q⟩
end
end M

namespace M
open PySem PySem.Spec PyProof.Rows L2
/-- the fields of a work -/
def workF (hands : Int) (start : Str) (d nm en : Addr) (b : Bool) : List (Str × V) := [("hands", .int hands), ("start", .str start), ("table", .ref d), ("names", .ref nm), ("ends", .ref en), ("ringless", .bl b)]
/-- the table of a work, by its stands -/
structure Tbl (sts tbl : List (Str × Stand)) : Prop where
  srt : sortedS (tbl.map (·.1)) = true
  perm : (tbl.map (·.1)).Perm (sts.map (·.1))
  all : ∀ p ∈ tbl, ∃ st, lookA sts p.1 = some st ∧ SrtStand st p.2
def endsOf (tbl : List (Str × Stand)) : List Str := (tbl.filter fun p => match p.2 with | .fin => true | _ => false).map (·.1)
structure WorkOk (hands : Int) (start : Str) (sts : List (Str × Stand)) : Prop where
  h : 1 ≤ hands ∧ hands ≤ 4
  len : 1 ≤ sts.length ∧ sts.length ≤ 100
  nd : (sts.map (·.1)).Nodup
  all : ∀ p ∈ sts, nameB p.1 = true ∧ StandOk hands (sts.map (·.1)) p.2
  st : start ∈ sts.map (·.1)
theorem StandOk.nd {h : Int} {names : List Str} {st : Stand} (o : StandOk h names st) : st.nd := by
  cases st with
  | fin => exact trivial
  | hand h ms => exact o.2.2.2.2.1
  | chance ds => exact o.2.2.1
theorem StandOk.size {h : Int} {names : List Str} {st : Stand} (o : StandOk h names st) : st.size ≤ 4 := by
  cases st with
  | fin => exact Nat.zero_le _
  | hand h ms => exact o.2.2.2.1
  | chance ds => exact o.2.1
theorem SrtStand.size {a b : Stand} (h : SrtStand a b) : b.size = a.size := by rw [← tos_len, ← tos_len, (SrtStand.tos h).length_eq]
theorem SrtStand.nd {a b : Stand} (h : SrtStand a b) (n : a.nd) : b.nd := by
  cases a <;> cases b <;> first | exact h.elim | exact trivial | exact (h.2.perm.map _).nodup_iff.mpr n | exact ((Srt.perm h).map _).nodup_iff.mpr n
section
variable {P : Program} {w : World} {K : PySem.W.Frag} {mg : Str → Option Value} {base : Heap}
structure WorkAt (T : Tx K mg) (H : Hp) (x : Addr) (hands : Int) (start : Str) (tbl : List (Str × Stand)) : Prop where
  ex : ∃ dx d nm en, H x = some (.ins T.a_Work dx (workF hands start d nm en (ringB tbl))) ∧ rD (rStand K) H (.ref d) tbl ∧ SqT K H nm ((tbl.map (·.1)).map V.str) ∧ SqT K H en ((endsOf tbl).map V.str)
theorem WorkAt.le {T : Tx K mg} {A B : Hp} {x : Addr} {hands : Int} {start : Str} {tbl : List (Str × Stand)} (e : Le A B) (h : WorkAt T A x hands start tbl) : WorkAt T B x hands start tbl := by
  obtain ⟨dx, d, nm, en, h1, h2, h3, h4⟩ := h.ex
  exact ⟨dx, d, nm, en, e.ins _ _ _ _ h1, mono_D (mono_stand K) _ _ _ _ e h2, e.t h3, e.t h4⟩
theorem memF {f : Str} {fs : List (Str × V)} (h : (fs.map (·.1)).all (fun g => decide (g ≠ f)) = true) : f ∉ fs.map (·.1) := fun m => by
  have := List.all_eq_true.mp h f m
  simp at this
theorem ne_ref {H : Hp} {a b : Addr} {o u : HO} (h : H a = some o) (h' : H b = some u) (d : o ≠ u) : a ≠ b := ne_of h h' d
def sp_Work_init (T : Tx K mg) : Sp := fun vs H Q _ => ∃ x dx v hands start sts, vs = [.ref x, .int hands, .str start, v] ∧ H x = some (.ins T.a_Work dx []) ∧ rD (rStand K) (hid [x] H) v sts ∧ WorkOk hands start sts ∧
  ∀ H' tbl, SX [x] H H' → WorkAt T H' x hands start tbl → Tbl sts tbl → Q .non H'
theorem ok_Work_init (T : Tx K mg) : FnOk P w K mg base CX0 5 T.Work_init.f T.Work_init.fd P_Work_init (sp_Work_init T) := by
  refine T.Work_init.F.ok sc_Work_init (fun vs H Q E h => ?_) (fun cdv A outer s H vs Q E hr h => ?_)
  · obtain ⟨x, dx, v, hands, start, sts, rfl, hx, hv, ok, k⟩ := h
    rfl
  have hu := hu_of hr
  have nd := sc_Work_init.nd
  obtain ⟨x, dx, v, hands, start, sts, rfl, hx, hv, ok, k⟩ := h
  refine ⟨_, (pss_cons (ps_if (PW.pt (pw_or (pt_not (pt_val (pe_call (ok_is_integer (P := P) (w := w) T) (hr.mono (by decide)) (by rfl) T.is_integer.g T.is_integer.F.kp T.is_integer.B .nil pass0 (pa_cons (pv 1) pa_nil)))) (pw_or1 (pt_not (pt_chain op_le op_le pe_int (pv 1) pe_int))))) (pss_one ps_never) pss_nil)
      (pss_cons (ps_if (pt_not (pt_val (pe_call (ok_are_stands (P := P) (w := w) T) (hr.mono (by decide)) (by rfl) T.are_stands.g T.are_stands.F.kp T.are_stands.B .nil pass0 (pa_cons (pv 3) (pa_cons (pv 1) pa_nil))))) (pss_one ps_never) pss_nil)
      (pss_cons (ps_if (PW.pt (pw_or (pt_not (pt_val (pe_call (ok_is_name (P := P) (w := w) T) (hr.mono (by decide)) (by rfl) T.is_name.g T.is_name.F.kp T.is_name.B .nil pass0 (pa_cons (pv 2) pa_nil)))) (pw_or1 (pt_cmp (pc_dnotin hu (pv 2) (pv 3)))))) (pss_one ps_never) pss_nil)
      (pss_cons (ps_fld (pv 0) (pv 1) rfl)
      (pss_cons (ps_fld (pv 0) (pv 2) rfl)
      (pss_cons (ps_fld (pv 0) (pe_dc (own := [("name", 4)]) rfl nd (w_pilist (K := K) rfl (pe_callB (cl_sortD rfl) (by rfl) T.b_sorted (by decide +kernel) (pa_cons (pv 3) pa_nil))) (blkOk_by (own := [("name", 4)]) (N := N_Work_init) (sc := defScope s_Work_init) (by decide +kernel)) (fun _ _ _ _ _ => (pg_name (i := 4) nd rfl (Or.inl rfl))) (fun _ _ _ _ _ => pts_nil) (fun _ _ _ _ _ => (pv 4)) (fun _ _ _ _ _ => (pe_call (ok_copied (P := P) (w := w) T) (hr.mono (by decide)) (by rfl) T.copied.g T.copied.F.kp T.copied.B .nil pass0 (pa_cons (pe_dget hu (pv 3) (pv 4) (fun _ _ => rfl)) pa_nil)))) rfl)
      (pss_cons (ps_fld (pv 0) (pe_callTy (w_tup (K := K) rfl) (by rfl) T.b_tuple (by decide +kernel) (pa_cons (pe_callB (cl_sortD rfl) (by rfl) T.b_sorted (by decide +kernel) (pa_cons (pv 3) pa_nil)) pa_nil)) rfl)
      (pss_cons (ps_fld (pv 0) (pe_callTy (w_tup (K := K) rfl) (by rfl) T.b_tuple (by decide +kernel) (pa_cons (pe_lc (own := [("name", 4)]) rfl nd (w_pitup (K := K) rfl (w_fld (K := K) rfl (pv 0) rfl)) (blkOk_by (own := [("name", 4)]) (N := N_Work_init) (sc := defScope s_Work_init) (by decide +kernel)) (fun _ _ _ _ _ => (pg_name (i := 4) nd rfl (Or.inl rfl))) (fun _ _ _ _ _ => pts_one (pt_cmpR op_eq (pe_ix (w_ixT (K := K) rfl) (pe_dget hu (w_fld (K := K) rfl (pv 0) rfl) (pv 4) (fun _ _ => rfl)) pe_int (fun _ _ => rfl)) pe_str (nomark _))) (fun _ _ _ _ _ => (pv 4))) pa_nil)) rfl)
      (pss_one (ps_fld (pv 0) (pe_call (ok_is_ringless (P := P) (w := w) T) (hr.mono (by decide)) (by rfl) T.is_ringless.g T.is_ringless.F.kp T.is_ringless.B .nil pass0 (pa_cons (pv 0) pa_nil)) rfl)))))))))), ?_⟩
  refine x_start (σ' := [some _, some _, some _, some _, none]) rfl ?_
  try simp only [cx_n, cx_K, cx_w, cx_P]
  obtain ⟨⟨hh1, hh4⟩, ⟨hl1, hl100⟩, hnd, hall, hst⟩ := ok
  obtain ⟨d0, kvs, rfl, hr0, hk⟩ := id hv
  have hname : nameB start = true := by
    obtain ⟨p, hp, e⟩ := List.mem_map.mp hst
    rw [← e]
    exact (hall p hp).1
  walk_at "rd"
  refine ⟨_, rfl, ?_⟩
  walk_at "rd"
  refine x_true (decide_eq_true hh1) ?_
  walk_at "rd"
  rw [decide_eq_true hh4]
  walk_at "rd"
  refine ⟨_, hands, sts, rfl, mono_D (mono_stand K) _ _ _ _ le_hid hv, hl1, hl100, hall, fun H1 s1 => ?_⟩
  walk_at "rd"
  refine ⟨_, rfl, nameB_size hname, ?_⟩
  rw [hname]
  walk_at "rd"
  refine x_dni' (s1.rd (le_hid.rd _ _ trivial hr0)) ?_
  rw [keys_val hk.keys, decide_eq_true hst]
  walk_at "rd"
  refine x_setF [] (s1 _ _ List.not_mem_nil hx) T.cl_Work T.n_Work_hands rfl (by decide) (by decide) ?_
  walk_at "rd"
  refine x_setF ["hands"] upd_same T.cl_Work T.n_Work_start rfl (by decide) (by decide +kernel) ?_
  rw [upd_upd]
  -- the table
  generalize hH2 : upd H1 x (.ins T.a_Work dx (([] ++ [(("hands" : Str), V.int hands)]) ++ [(("start" : Str), V.str start)])) = H2
  have s2 : SX [x] H H2 := by rw [← hH2]; exact (nil_sx s1).trans (SX.mut List.mem_cons_self)
  have x2 : H2 x = some (.ins T.a_Work dx [("hands", .int hands), ("start", .str start)]) := by rw [← hH2, upd_same]; rfl
  clear hH2
  have lk : ∀ {b : Addr} {u : HO}, H b = some u → b ≠ x → H2 b = some u := fun h n => s2 _ _ (by simpa using n) h
  have r2 : Rd H2 d0 (.dK kvs) := s2.leH.rd _ _ trivial hr0
  walk_at "rd"
  refine x_dc (x_iList (x_CB (x_cons (x_var (by rfl) (x_nil ?_)))))
  refine x_sortD r2 hk.keys fun ys p hp hs np => ?_
  refine x_itl (sqL upd_same) fun D hD => ?_
  have hDp : D ≠ p := by
    rintro rfl
    rw [upd_same] at hD
    cases hD
  have hD2 : H2 D = none := by rw [upd_ne hDp] at hD; exact hD
  have hDx : D ≠ x := by
    rintro rfl
    rw [x2] at hD2
    cases hD2
  have hD0 : H D = none := s2.free hD2 (by simpa using hDx)
  have ysn : ys.Nodup := hp.nodup_iff.mpr hnd
  have hyl : ys.length = sts.length := by rw [hp.length_eq, List.length_map]
  refine dc_walk (walk_listR (R := rS) (Hb := H) (paired_S' ys)) (fun n A => SX [] H2 A ∧ A p = some (.lst (ys.map V.str)) ∧ ∃ kv tb, A D = some (.dK kv) ∧ KVs (rStand K) (hid [D, x] A) kv tb ∧ tb.map (·.1) = ys.take n ∧
    ∀ q ∈ tb, ∃ st, lookA sts q.1 = some st ∧ SrtStand st q.2) ?_ ?_ ?_ ?_
  · exact ⟨(SX.new np).trans (SX.new hD), by rw [upd_ne (Ne.symm hDp)]; exact upd_same, [], [], upd_same, .nil, rfl, fun _ h => nomatch h⟩
  · exact fun n A _ h => sqL h.2.1
  · rintro n y A0 A hn ⟨sA, pA, kv, tb, dA, kA, eA, allA⟩ ⟨rfl, s, hs', rfl⟩
    have sm : s ∈ sts.map (·.1) := hp.mem_iff.mp (getMem hs')
    obtain ⟨st, hst'⟩ := lookA_some sm
    obtain ⟨v, e1, rv⟩ := hk.at_ hst'
    obtain ⟨_, sok⟩ := hall _ (lookA_mem hst')
    walk_at "rd"
    refine ⟨rfl, ?_⟩
    walk_at "rd"
    refine x_dg' (sA.rd r2) e1 ?_
    walk_at "rd"
    have sHA : SX [x] H A := s2.trans (nil_sx sA)
    refine ⟨v, st, [D, x], rfl, ?_, mono_stand K _ _ _ _ (le_hidS sHA ?_) rv, sok.nd, Nat.le_trans sok.size (by decide), fun v' A' st' sx' rv' sr => ?_⟩
    · intro b hb
      rcases List.mem_cons.mp hb with rfl | hb
      · rw [dA]
        exact fun z => nomatch z
      · rcases List.mem_cons.mp hb with rfl | hb
        · rw [sA _ _ List.not_mem_nil x2]
          exact fun z => nomatch z
        · cases hb
    · intro b hb
      rcases List.mem_cons.mp hb with rfl | hb
      · exact .inr hD0
      · exact .inl hb
    have dA' := sx' _ _ List.not_mem_nil dA
    have hkl : kv.length = (ys.take n).length := by rw [Paired.length kA, ← eA, List.length_map]
    refine ⟨kv, Sum.inr s, rfl, dA', lt_size (by rw [hkl, List.length_take]; omega), ?_⟩
    have kk : kv.map (·.1) = (ys.take n).map Sum.inr := by rw [kA.keys, eA]
    rw [putK_fresh v' kk (nodup_take ysn hs')]
    have le1 : Le (hid [D, x] A) (hid [D, x] (upd A' D (.dK (kv ++ [(Sum.inr s, v')])))) := (nil_sx sx').le.trans (SX.mut (by simp)).le
    refine ⟨sx_nil_of (S := [D]) ((nil_sx (sA.trans sx')).trans (SX.mut List.mem_cons_self)) (by simp [hD2]), by rw [upd_ne (Ne.symm hDp)]; exact sx' _ _ List.not_mem_nil pA, _, tb ++ [(s, st')], upd_same, ?_, ?_, ?_⟩
    · exact Paired.app (KVs.le (mono_stand K) le1 kA) (.cons ⟨rfl, mono_stand K _ _ _ _ (SX.mut (by simp)).le rv'⟩ .nil)
    · rw [List.map_append, eA, take_succ_of hs']
      rfl
    · intro q hq
      rcases List.mem_append.mp hq with hq | hq
      · exact allA q hq
      · cases List.mem_singleton.mp hq
        exact ⟨st, hst', sr⟩
  rintro A ⟨sA, pA, kv, tb, dA, kA, eA, allA⟩
  rw [List.take_length] at eA
  have htb : Tbl sts tb := ⟨by rw [eA]; exact hs, by rw [eA]; exact hp, allA⟩
  walk_at "rd"
  refine x_setF ["hands", "start"] (sA _ _ List.not_mem_nil x2) T.cl_Work T.n_Work_table rfl (by decide) (by decide +kernel) ?_
  generalize hH3 : upd A x (.ins T.a_Work dx ([(("hands" : Str), V.int hands), (("start" : Str), V.str start)] ++ [(("table" : Str), V.ref D)])) = H3
  have x3 : H3 x = some (.ins T.a_Work dx [("hands", .int hands), ("start", .str start), ("table", .ref D)]) := by rw [← hH3, upd_same]; rfl
  have sA3 : SX [x] A H3 := by rw [← hH3]; exact SX.mut List.mem_cons_self
  have s3 : SX [x] H H3 := (s2.trans (nil_sx sA)).trans sA3
  have tb3 : rD (rStand K) (hid [x] H3) (.ref D) tb := by
    refine ⟨D, kv, rfl, .inl ?_, KVs.le (mono_stand K) ((le_hid2 (S := [x]) (by simp)).trans sA3.le) kA⟩
    rw [hid_of (by simpa using hDx)]
    exact sA3 _ _ (by simpa using hDx) dA
  clear hH3
  walk_at "rd"
  have r3 : Rd H3 d0 (.dK kvs) := s3.leH.rd _ _ trivial hr0
  refine x_sortD r3 hk.keys fun ys2 p2 hp2 hs2 np2 => ?_
  have ey : ys2 = ys := sorted_one hs2 hs (hp2.trans hp.symm)
  subst ey
  walk_at "rd"
  refine x_ctup (sqL upd_same) fun nm hnm => ?_
  walk_at "rd"
  have xp2 : x ≠ p2 := ne_of_none x3 np2
  have hnp : nm ≠ p2 := by
    rintro rfl
    rw [upd_same] at hnm
    cases hnm
  have hnm3 : H3 nm = none := by rw [upd_ne hnp] at hnm; exact hnm
  have xnm : x ≠ nm := ne_of_none x3 hnm3
  refine x_setF ["hands", "start", "table"] (by rw [upd_ne xnm, upd_ne xp2]; exact x3) T.cl_Work T.n_Work_names rfl (by decide) (by decide +kernel) ?_
  generalize hH4 : upd (upd (upd H3 p2 (.lst (ys2.map V.str))) nm (.tup (ys2.map V.str))) x (.ins T.a_Work dx ([(("hands" : Str), V.int hands), (("start" : Str), V.str start), (("table" : Str), V.ref D)] ++ [(("names" : Str), V.ref nm)])) = H4
  have x4 : H4 x = some (.ins T.a_Work dx [("hands", .int hands), ("start", .str start), ("table", .ref D), ("names", .ref nm)]) := by rw [← hH4, upd_same]; rfl
  have s34 : SX [x] H3 H4 := by rw [← hH4]; exact (nil_sx ((SX.new np2).trans (SX.new hnm))).trans (SX.mut List.mem_cons_self)
  have s4 : SX [x] H H4 := s3.trans s34
  have tb4 : rD (rStand K) (hid [x] H4) (.ref D) tb := mono_D (mono_stand K) _ _ _ _ s34.le tb3
  have nm4 : SqT K (hid [x] H4) nm (ys2.map V.str) := by
    refine sqT ?_
    rw [hid_of (by simpa using Ne.symm xnm), ← hH4, upd_ne (Ne.symm xnm), upd_same]
  clear hH4
  walk_at "rd"
  refine x_getF x4 T.cl_Work T.n_Work_names (look_next (by decide +kernel) (look_next (by decide +kernel) (look_next (by decide +kernel) look_here))) ?_
  refine x_itt (le_hid.t nm4) fun E1 hE1 => ?_
  have lt : tb.length = ys2.length := by rw [← eA, List.length_map]
  have xE : x ≠ E1 := ne_of_none x4 hE1
  obtain ⟨_, kv4, eD, rD4, kD4⟩ := id tb4
  cases eD
  refine lc_it (walk_tupR (R := rS) (Hb := H) (paired_S' ys2)) (fun n A => SX [] H4 A ∧ A E1 = some (.lst ((endsOf (tb.take n)).map V.str))) ⟨SX.new hE1, upd_same⟩ (fun n A _ h => h.1.le0.t (le_hid.t nm4)) ?_ ?_
  · rintro n y A0 A5 hn ⟨sA5, eA5⟩ ⟨rfl, s, hs5, rfl⟩
    obtain ⟨q, hq, eq⟩ : ∃ q, tb[n]? = some q ∧ q.1 = s := by
      rw [← eA, List.getElem?_map] at hs5
      cases h : tb[n]? with
      | none => rw [h] at hs5; cases hs5
      | some q => rw [h] at hs5; cases hs5; exact ⟨q, rfl, rfl⟩
    have tnd : (tb.map (·.1)).Nodup := by rw [eA]; exact ysn
    obtain ⟨v5, ev5, rv5⟩ := kD4.in_ tnd (getMem hq)
    rw [eq] at ev5
    walk_at "rd"
    refine ⟨rfl, ?_⟩
    walk_at "rd"
    refine x_getF (sA5 _ _ List.not_mem_nil x4) T.cl_Work T.n_Work_table (look_next (by decide +kernel) (look_next (by decide +kernel) look_here)) ?_
    walk_at "rd"
    refine x_dg' (sA5.le0.rd _ _ trivial (le_hid.rd _ _ trivial rD4)) ev5 ?_
    walk_at "rd"
    have step : endsOf (tb.take (n + 1)) = endsOf (tb.take n) ++ endsOf [q] := by
      rw [take_succ_of hq]
      unfold endsOf
      rw [List.filter_append, List.map_append]
    have h5 : Le (hid [x] H4) A5 := le_hid.trans sA5.le0
    have fit : ((endsOf (tb.take n)).map V.str).length < sizeLine := by
      refine lt_size ?_
      rw [List.length_map]
      unfold endsOf
      rw [List.length_map]
      have := List.length_filter_le (fun p : Str × Stand => match p.2 with | .fin => true | _ => false) (tb.take n)
      rw [List.length_take] at this
      omega
    cases hq2 : q.2 with
    | fin =>
      rw [hq2] at rv5
      obtain ⟨p5, rfl, hp5⟩ := rv5
      refine x_ixT (h5.t hp5) (atI_nat (j := 0) rfl) ?_
      walk_at "rd"
      walk_at "if!"
      walk_at "rd"
      have one : endsOf [q] = [s] := by
        unfold endsOf
        rw [← eq]
        obtain ⟨q1, q2⟩ := q
        cases hq2
        rfl
      refine ⟨_, eA5, fit, sx_nil_of (S := [E1]) ((nil_sx sA5).trans (SX.mut List.mem_cons_self)) (by simp [hE1]), ?_⟩
      rw [upd_same, step, one, List.map_append]
      rfl
    | hand h5' ms =>
      rw [hq2] at rv5
      obtain ⟨p5, d5, rfl, hp5, _⟩ := rv5
      refine x_ixT (h5.t hp5) (atI_nat (j := 0) rfl) ?_
      walk_at "rd"
      walk_at "if!"
      have one : endsOf [q] = [] := by
        unfold endsOf
        obtain ⟨q1, q2⟩ := q
        cases hq2
        rfl
      refine ⟨sA5, ?_⟩
      rw [step, one, List.append_nil]
      exact eA5
    | chance ds =>
      rw [hq2] at rv5
      obtain ⟨p5, d5, rfl, hp5, _⟩ := rv5
      refine x_ixT (h5.t hp5) (atI_nat (j := 0) rfl) ?_
      walk_at "rd"
      walk_at "if!"
      have one : endsOf [q] = [] := by
        unfold endsOf
        obtain ⟨q1, q2⟩ := q
        cases hq2
        rfl
      refine ⟨sA5, ?_⟩
      rw [step, one, List.append_nil]
      exact eA5
  rintro A5 ⟨sA5, eA5⟩
  rw [← lt, List.take_length] at eA5
  walk_at "rd"
  refine x_ctup (sqL eA5) fun en hen => ?_
  walk_at "rd"
  have x5 := sA5 _ _ List.not_mem_nil x4
  have xen : x ≠ en := ne_of_none x5 hen
  refine x_setF ["hands", "start", "table", "names"] (by rw [upd_ne xen]; exact x5) T.cl_Work T.n_Work_ends rfl (by decide) (by decide +kernel) ?_
  generalize hH6 : upd (upd A5 en (.tup ((endsOf tb).map V.str))) x (.ins T.a_Work dx ([(("hands" : Str), V.int hands), (("start" : Str), V.str start), (("table" : Str), V.ref D), (("names" : Str), V.ref nm)] ++ [(("ends" : Str), V.ref en)])) = H6
  have x6 : H6 x = some (.ins T.a_Work dx [("hands", .int hands), ("start", .str start), ("table", .ref D), ("names", .ref nm), ("ends", .ref en)]) := by rw [← hH6, upd_same]; rfl
  have s46 : SX [x] H4 H6 := by rw [← hH6]; exact (nil_sx (sA5.trans (SX.new hen))).trans (SX.mut List.mem_cons_self)
  have tb6 : rD (rStand K) (hid [x] H6) (.ref D) tb := mono_D (mono_stand K) _ _ _ _ s46.le tb4
  have nm6 : SqT K (hid [x] H6) nm ((tb.map (·.1)).map V.str) := by rw [eA]; exact s46.le.t nm4
  have en6 : SqT K (hid [x] H6) en ((endsOf tb).map V.str) := by
    refine sqT ?_
    rw [hid_of (by simpa using Ne.symm xen), ← hH6, upd_ne (Ne.symm xen), upd_same]
  clear hH6
  walk_at "rd"
  refine ⟨x, tb, dx, _, D, nm, rfl, x6, look_next (by decide +kernel) (look_next (by decide +kernel) look_here), mono_D (mono_stand K) _ _ _ _ le_hid tb6,
    look_next (by decide +kernel) (look_next (by decide +kernel) (look_next (by decide +kernel) look_here)), le_hid.t nm6, by omega, fun q hq => ?_, fun H7 s7 => ?_⟩
  · obtain ⟨st, e1, sr⟩ := allA q hq
    obtain ⟨_, sok⟩ := hall _ (lookA_mem e1)
    exact ⟨sr.nd sok.nd, by rw [sr.size]; exact Nat.le_trans sok.size (by decide)⟩
  walk_at "rd"
  refine x_setF ["hands", "start", "table", "names", "ends"] (s7 _ _ List.not_mem_nil x6) T.cl_Work T.n_Work_ringless rfl (by decide) (by decide +kernel) ?_
  have s78 : SX [x] H6 (upd H7 x (.ins T.a_Work dx ([(("hands" : Str), V.int hands), (("start" : Str), V.str start), (("table" : Str), V.ref D), (("names" : Str), V.ref nm), (("ends" : Str), V.ref en)] ++ [(("ringless" : Str), V.bl (ringB tb))]))) := (nil_sx s7).trans (SX.mut List.mem_cons_self)
  refine k _ tb ((s4.trans s46).trans s78) ⟨dx, D, nm, en, upd_same, mono_D (mono_stand K) _ _ _ _ s78.leH tb6, s78.leH.t nm6, s78.leH.t en6⟩ htb
end
end M

namespace M
open PySem PySem.Spec PyProof.Rows L2
theorem at_map {ns : List Int} {i : Nat} {n : Int} (h : ns[i]? = some n) : atI (ns.map V.int) (i : Int) = some (.int n) := atI_nat (by rw [List.getElem?_map, h]; rfl)
theorem ixN_nat {n j : Nat} (h : j < n) : ixN n (j : Int) = some j := by
  unfold ixN
  rw [if_pos (by omega), if_pos (by omega)]
  rfl
theorem app_cps (a b : Str) : (a ++ b : Str).cps.toList = a.cps.toList ++ b.cps.toList := by
  show (a.cps ++ b.cps).toList = _
  exact Array.toList_append
theorem app_len (a b : Str) : (a ++ b : Str).length = a.length + b.length := by
  have := congrArg List.length (app_cps a b)
  simpa [Str.length] using this
theorem str_len (a : Str) : a.cps.toList.length = a.length := by simp [Str.length]
theorem letters_at : ∀ i, i < 26 → ((("abcdefghijklmnopqrstuvwxyz" : Str).cps.toList[i]?).map lowB) = some true := by decide +kernel
theorem signs_at : ∀ i, i < 36 → (((("abcdefghijklmnopqrstuvwxyz" : Str) ++ ("0123456789" : Str) : Str).cps.toList[i]?).map fun c => lowB c || digB c) = some true := by decide +kernel
theorem at_opt {l : List Nat} {f : Nat → Bool} {i : Nat} (h : (l[i]?).map f = some true) : ∃ c, l[i]? = some c ∧ f c = true := by
  cases e : l[i]? with
  | none => rw [e] at h; cases h
  | some c => rw [e] at h; exact ⟨c, rfl, Option.some.inj h⟩
theorem at_ints {ns : List Int} {r : Int} (h0 : 0 ≤ r) (h1 : r < ns.length) : ∃ n, atI (ns.map V.int) r = some (.int n) ∧ n ∈ ns := by
  obtain ⟨i, rfl⟩ : ∃ i : Nat, r = (i : Int) := ⟨r.toNat, by omega⟩
  have hi : i < ns.length := by omega
  exact ⟨ns[i], at_map (by simp [hi]), List.getElem_mem hi⟩
theorem at_strs {ns : List Str} {r : Int} (h0 : 0 ≤ r) (h1 : r < ns.length) : ∃ n, atI (ns.map V.str) r = some (.str n) ∧ n ∈ ns := by
  obtain ⟨i, rfl⟩ : ∃ i : Nat, r = (i : Int) := ⟨r.toNat, by omega⟩
  have hi : i < ns.length := by omega
  exact ⟨ns[i], atI_nat (by rw [List.getElem?_map]; simp [hi]), List.getElem_mem hi⟩
theorem flat_strs (l : List Str) : (l.map V.str).all flatV = true := by
  rw [List.all_map]
  exact List.all_eq_true.mpr fun _ _ => rfl
/-- the first is a letter, all are letters or digits -/
structure WordOk (s : Str) : Prop where
  low : lowB (s.cps.toList.getD 0 0) = true
  all : ∀ c ∈ s.cps.toList, (lowB c || digB c) = true
theorem WordOk.name {s : Str} (h : WordOk s) (h1 : 1 ≤ s.length ∧ s.length ≤ 8) : nameB s = true := nameB_yes h1 h.low h.all
theorem WordOk.app {s : Str} {c : Nat} (h : WordOk s) (h1 : 1 ≤ s.length) (hc : (lowB c || digB c) = true) : WordOk (s ++ ⟨#[c]⟩) := by
  refine ⟨?_, fun d hd => ?_⟩
  · rw [app_cps, List.getD_eq_getElem?_getD, List.getElem?_append_left (by rw [str_len]; exact h1), ← List.getD_eq_getElem?_getD]
    exact h.low
  · rw [app_cps] at hd
    rcases List.mem_append.mp hd with hd | hd
    · exact h.all d hd
    · cases List.mem_singleton.mp hd
      exact hc
theorem n_names : ∀ j, j < 60 → nameB (("n" : Str) ++ (toString ((j : Nat) : Int) : Str)) = true := by decide +kernel
theorem small_log {j : Nat} (h : j < 1000000) : ((j : Int)).natAbs.log2 < 1920 := by
  have : ((j : Int)).natAbs = j := rfl
  rw [this]
  by_cases h0 : j = 0
  · subst h0
    decide
  · exact Nat.lt_of_lt_of_le ((Nat.log2_lt h0).mpr (show j < 2 ^ 20 by omega)) (by decide)
theorem cut_from {xs : List V} {k : Nat} : cutV xs (some (k : Int)) none = xs.drop k := by
  unfold cutV
  rw [HT.sIx_nat, HT.sIx_none]
  by_cases h : k ≤ xs.length
  · rw [Nat.min_eq_left h]
    exact List.take_of_length_le (by rw [List.length_drop]; exact Nat.le_refl _)
  · rw [Nat.min_eq_right (by omega), List.drop_length, List.drop_eq_nil_of_le (by omega), List.take_nil]
theorem lock_leS {S : List Addr} {H HL : Hp} {d : Addr} {kvs : List (Key × V)} {od : Obj} (h : Rd (hid S H) d (.dK kvs)) (e : HL d = some (.frz od (.dK kvs))) (ne : ∀ b, b ≠ d → HL b = H b) : Le (hid S H) (hid S HL) := by
  have dS : d ∉ S := by
    rcases h with h | ⟨o, h⟩ <;> exact (hid_at h).1
  refine lock_le (d := d) (kvs := kvs) (od := od) h (by rw [hid_of dS]; exact e) fun b hb => ?_
  unfold hid
  rw [ne b hb]
theorem unlock_leS {S : List Addr} {H H' : Hp} {d : Addr} {kvs : List (Key × V)} {od : Obj} (h : Rd H d (.dK kvs)) (e : H' d = some (.frz od (.dK kvs))) : Le (hid S H') (hid S (put H' d (H d))) := by
  have l := unlock_le h e
  have hp : ∀ b, hid S (put H' d (H d)) b = if b ∈ S then none else put H' d (H d) b := fun _ => rfl
  refine ⟨fun b u p q => ?_, fun b C dx fs q => ?_, fun b xs q => ?_⟩
  · have n : b ∉ S := by rcases q with q | ⟨o, q⟩ <;> exact (hid_at q).1
    have q2 : Rd H' b u := le_hid.rd b u p q
    have := l.rd b u p q2
    unfold Rd
    rw [hid_of n]
    exact this
  · obtain ⟨n, q⟩ := hid_at q
    rw [hid_of n]
    exact l.ins _ _ _ _ q
  · obtain ⟨n, q⟩ := hid_at q
    rw [hid_of n]
    exact l.tup _ _ q
theorem rd_there {H : Hp} {d : Addr} {u : HO} (h : Rd H d u) : H d ≠ none := by
  rcases h with h | ⟨o, h⟩ <;> rw [h] <;> exact fun z => nomatch z
/-- the stands of drawn names -/
structure StandsOk (hands : Int) (names : List Str) (sts : List (Str × Stand)) : Prop where
  nd : (sts.map (·.1)).Nodup
  keys : ∀ n, n ∈ sts.map (·.1) ↔ n ∈ names
  all : ∀ q ∈ sts, StandOk hands names q.2
  len : sts.length ≤ names.length
theorem StandOk.sub {h : Int} {ns ms : List Str} {st : Stand} (o : StandOk h ns st) (s : ∀ x ∈ ns, x ∈ ms) : StandOk h ms st := by
  cases st with
  | fin => exact trivial
  | hand a b => exact ⟨o.1, o.2.1, o.2.2.1, o.2.2.2.1, o.2.2.2.2.1, fun q hq => ⟨(o.2.2.2.2.2 q hq).1, (o.2.2.2.2.2 q hq).2.1, s _ (o.2.2.2.2.2 q hq).2.2⟩⟩
  | chance b => exact ⟨o.1, o.2.1, o.2.2.1, fun q hq => ⟨(o.2.2.2 q hq).1, (o.2.2.2 q hq).2.1, s _ (o.2.2.2 q hq).2.2.1, (o.2.2.2 q hq).2.2.2⟩⟩
def isEnd : Stand → Bool
  | .fin => true
  | _ => false
theorem endsOf_snoc {l : List (Str × Stand)} {q : Str × Stand} : endsOf (l ++ [q]) = endsOf l ++ (if isEnd q.2 = true then [q.1] else []) := by
  unfold endsOf
  rw [List.filter_append, List.map_append]
  obtain ⟨a, b⟩ := q
  cases b <;> rfl
theorem endsOf_sub {l : List (Str × Stand)} {x : Str} (h : x ∈ endsOf l) : x ∈ l.map (·.1) := by
  unfold endsOf at h
  obtain ⟨q, h1, h2⟩ := List.mem_map.mp h
  exact List.mem_map.mpr ⟨q, (List.mem_filter.mp h1).1, h2⟩
theorem endsOf_len (l : List (Str × Stand)) : (endsOf l).length ≤ l.length := by
  unfold endsOf
  rw [List.length_map]
  exact List.length_filter_le _ _
theorem key_fresh {α : Type} {l : List (Str × α)} (hn : (l.map (·.1)).Nodup) {i : Nat} {q : Str × α} (h : l[i]? = some q) : q.1 ∉ (l.take i).map (·.1) := by
  have h2 : (l.map (·.1))[i]? = some q.1 := by rw [List.getElem?_map, h]; rfl
  rw [List.map_take]
  exact nodup_take hn h2
theorem sx_drop {p wd : Addr} {A B C : Hp} (a : SX [p] A B) (b : SX [p, wd] B C) (h : A wd = none) : SX [p] A C := fun x o n q => b x o (by
  simp only [List.mem_cons, List.not_mem_nil, or_false, not_or] at n ⊢
  exact ⟨n, fun e => by rw [e, h] at q; cases q⟩) (a x o n q)
/-- steps of a stand by their names, with where they lead -/
def Stand.rows : Stand → List (Str × Str)
  | .fin => []
  | .hand _ ms => ms
  | .chance ds => ds.map fun q => (q.1, q.2.1)
theorem rows_tos (st : Stand) : st.rows.map (·.2) = st.tos := by
  cases st with
  | fin => rfl
  | hand h ms => rfl
  | chance ds => show (ds.map _).map _ = _; rw [List.map_map]; rfl
theorem pick_take {α : Type} [Inhabited α] {l : List (Str × α)} {ys : List Str} {n : Nat} {s : Str} {a : α} (h : ys[n]? = some s) (e : lookA l s = some a) : pick l (ys.take (n + 1)) = pick l (ys.take n) ++ [(s, a)] := by
  rw [take_succ_of h]
  unfold pick
  rw [List.map_append]
  show _ ++ [(s, (lookA l s).getD default)] = _
  rw [e]
  rfl
theorem pick_len {α : Type} [Inhabited α] (l : List (Str × α)) (ys : List Str) : (pick l ys).length = ys.length := List.length_map _
theorem Srt.map_snd {α β : Type} {l l' : List (Str × α)} {g : α → β} (h : Srt l l') : Srt (l.map fun q => (q.1, g q.2)) (l'.map fun q => (q.1, g q.2)) := ⟨h.perm.map _, by
  have := h.srt
  rw [List.map_map]
  exact this⟩
section
variable {P : Program} {w : World} {K : PySem.W.Frag} {mg : Str → Option Value} {base : Heap}
theorem hid_nn {S : List Addr} {H : Hp} {d : Addr} (hS : ∀ b ∈ S, H b ≠ none) (hd : H d ≠ none) : ∀ b ∈ d :: S, H b ≠ none := fun b hb => by
  rcases List.mem_cons.mp hb with rfl | hb
  · exact hd
  · exact hS b hb
theorem sx_there {S : List Addr} {A B : Hp} {p : Addr} (a : SX [p] A B) (hp : B p ≠ none) (h : ∀ b ∈ S, A b ≠ none) : ∀ b ∈ S, B b ≠ none := fun b hb z => by
  by_cases e : b = p
  · exact hp (e ▸ z)
  · exact h b hb (a.free z (by simpa using e))
/-- the word of a stand's kind -/
def kindS : Stand → Str
  | .fin => "end"
  | .hand _ _ => "hand"
  | .chance _ => "chance"
theorem rStand.kind {H : Hp} {v : V} {st : Stand} (h : rStand K H v st) : ∃ p xs, v = .ref p ∧ SqT K H p xs ∧ atI xs 0 = some (.str (kindS st)) := by
  cases st with
  | fin => obtain ⟨p, h1, h2⟩ := h; exact ⟨p, _, h1, h2, rfl⟩
  | hand a b => obtain ⟨p, d, h1, h2, _⟩ := h; exact ⟨p, _, h1, h2, rfl⟩
  | chance b => obtain ⟨p, d, h1, h2, _⟩ := h; exact ⟨p, _, h1, h2, rfl⟩
theorem kind_end {st : Stand} : decide (V.str (kindS st) = V.str "end") = isEnd st := by
  cases st with
  | fin => decide +kernel
  | hand a b => show decide (V.str "hand" = V.str "end") = false; decide +kernel
  | chance b => show decide (V.str "chance" = V.str "end") = false; decide +kernel
end
end M

namespace M
open PySem PySem.Spec PyProof.Rows L2
/-! ### the drawer that a law draws from -/
structure DrawOk (c z t : Int) : Prop where
  c0 : 0 ≤ c
  z0 : 0 ≤ z
  z1 : z < 2147483647
  t0 : 0 ≤ t
def Drw (H : Hp) (p : Addr) : Prop := ∃ (c : Int) (f : Bool) (z t : Int), H p = some (.lst [.int c, .bl f, .int z, .int t]) ∧ DrawOk c z t
theorem Drw.there {H : Hp} {p : Addr} (h : Drw H p) : H p ≠ none := by
  obtain ⟨c, f, z, t, e, _⟩ := h
  rw [e]
  exact fun z => nomatch z
theorem Drw.sx {S : List Addr} {A B : Hp} {p : Addr} (h : Drw A p) (a : SX S A B) (n : p ∉ S) : Drw B p := by
  obtain ⟨c, f, z, t, e, o⟩ := h
  exact ⟨c, f, z, t, a _ _ n e, o⟩
theorem Drw.lst {H : Hp} {p : Addr} (h : Drw H p) : ∃ ys, H p = some (.lst ys) := by
  obtain ⟨c, f, z, t, e, o⟩ := h
  exact ⟨_, e⟩
theorem bits60 : ((Builtin.Int.intBits (10 ^ (60 : Int).toNat) : Nat) : Int) * 6 ≤ 2 ^ 27 := by decide +kernel
section
variable {P : Program} {w : World} {K : PySem.W.Frag} {mg : Str → Option Value} {base : Heap}
def sp_law_open (T : Tx K mg) : Sp := fun vs H Q _ => ∃ (a : Addr) (ns : List Int) (k : Int), vs = [.ref a, .int k] ∧ SqL K H a (ns.map V.int) ∧ ns.length ≤ 10000 ∧ 0 ≤ k ∧ k ≤ 10000 ∧ ∀ p H', H p = none → SX [] H H' → Drw H' p → Q (.ref p) H'
theorem ok_law_open (T : Tx K mg) : FnOk P w K mg base CX0 1 T.law_open.f T.law_open.fd P_law_open (sp_law_open T) := by
  refine T.law_open.F.ok sc_law_open (fun vs H Q E h => ?_) (fun cdv A outer s H vs Q E hr h => ?_)
  · obtain ⟨a, ns, k0, rfl, ha, hlen, hk0, hk1, k⟩ := h
    rfl
  have hu := hu_of hr
  have nd := sc_law_open.nd
  obtain ⟨a, ns, k0, rfl, ha, hlen, hk0, hk1, k⟩ := h
  refine ⟨_, (pss_cons (ps_set (i := 2) nd rfl (Or.inl rfl) pe_int)
      (pss_cons (ps_if (pt_cmpR op_lt (pv 1) (pe_callB (w_len (K := K) rfl) (by rfl) T.b_len (by decide +kernel) (pa_cons (pv 0) pa_nil)) (nomark _)) (pss_one (ps_set (i := 2) nd rfl (Or.inl rfl) (pe_op op_mod (pe_callTy cl_int (by rfl) T.b_int (by decide +kernel) (pa_cons (pe_ix (w_ixL (K := K) rfl) (pv 0) (pv 1) (fun _ _ => rfl)) pa_nil)) (pe_op op_powB (pe_op op_powB pe_int pe_int) pe_int)))) pss_nil)
      (pss_one (ps_ret (pe_lst (pa_cons (pv 2) (pa_cons (pe_cmpR op_ge (pv 2) (pe_op op_powB pe_int pe_int) (nomark _)) (pa_cons (pe_op op_mod (pe_op op_add (pv 2) (pe_op op_mul pe_int (pe_op op_add (pv 1) pe_int))) pe_int) (pa_cons pe_int pa_nil))))))))), ?_⟩
  refine x_start (σ' := [some _, some _, none]) rfl ?_
  try simp only [cx_n, cx_K, cx_w, cx_P]
  walk_at "rd"
  refine x_lenL' ha ?_
  walk_at "rd"
  rw [List.length_map]
  have fin : ∀ c : Int, 0 ≤ c → ∀ b : Bool, ∀ q, H q = none → Q (.ref q) (upd H q (.lst [.int c, .bl b, .int ((c + 104729 * (k0 + 1)) % 2147483647), .int 0])) := fun c c0 b q hq =>
    k q _ hq (SX.new hq) ⟨c, b, _, 0, upd_same, c0, by omega, by omega, Int.le_refl _⟩
  refine x_cases (fun h => ?_) (fun h => ?_)
  · obtain ⟨j, rfl⟩ : ∃ j : Nat, k0 = (j : Int) := ⟨k0.toNat, by omega⟩
    have hj : j < ns.length := by simpa using h
    obtain ⟨z, hz⟩ : ∃ z, ns[j]? = some z := ⟨ns[j], by simp [hj]⟩
    walk_at "rd"
    refine x_ixL ha (at_map hz) ?_
    walk_at "rd"
    refine x_I ⟨by decide, by decide +kernel⟩ ?_
    walk_at "rd"
    refine x_I ⟨by decide, bits60⟩ ?_
    walk_at "rd"
    have m0 : (0 : Int) < (10 ^ (60 : Int).toNat) ^ (6 : Int).toNat := by decide +kernel
    refine x_I m0 ?_
    walk_at "rd"
    generalize hc : z % (10 ^ (60 : Int).toNat) ^ (6 : Int).toNat = c
    have c0 : 0 ≤ c := by rw [← hc]; exact Int.emod_nonneg _ (by omega)
    refine x_I ⟨by decide, by decide +kernel⟩ ?_
    walk_at "rd"
    refine x_I (.inl ⟨by decide, by decide⟩) ?_
    walk_at "rd"
    refine x_I (by decide) ?_
    walk_at "rd"
    exact ⟨Nat.le_of_ble_eq_true rfl, fun q hq => fin c c0 _ q hq⟩
  · walk_at "rd"
    refine x_I ⟨by decide, by decide +kernel⟩ ?_
    walk_at "rd"
    refine x_I (.inl ⟨by decide, by decide⟩) ?_
    walk_at "rd"
    refine x_I (by decide) ?_
    walk_at "rd"
    exact ⟨Nat.le_of_ble_eq_true rfl, fun q hq => fin 0 (Int.le_refl _) _ q hq⟩
def sp_law_draw (T : Tx K mg) : Sp := fun vs H Q _ => ∃ p n, vs = [.ref p, .int n] ∧ Drw H p ∧ 0 < n ∧ n < 2 ^ 200 ∧ ∀ r H', 0 ≤ r → r < n → SX [p] H H' → Drw H' p → Q (.int r) H'
theorem ok_law_draw (T : Tx K mg) : FnOk P w K mg base CX0 1 T.law_draw.f T.law_draw.fd P_law_draw (sp_law_draw T) := by
  refine T.law_draw.F.ok sc_law_draw (fun vs H Q E h => ?_) (fun cdv A outer s H vs Q E hr h => ?_)
  · obtain ⟨p, n, rfl, ⟨c, f, z, t, hp, o⟩, hn0, hn1, k⟩ := h
    rfl
  have hu := hu_of hr
  have nd := sc_law_draw.nd
  obtain ⟨p, n, rfl, ⟨c, f, z, t, hp, o⟩, hn0, hn1, k⟩ := h
  refine ⟨_, (pss_cons (ps_if (PW.pt (pw_and (pt_val (pe_ix (w_ixL (K := K) rfl) (pv 0) pe_int (fun _ _ => rfl))) (pw_and1 (pt_cmpR op_gt (pe_ix (w_ixL (K := K) rfl) (pv 0) pe_int (fun _ _ => rfl)) pe_int (nomark _))))) (pss_cons (ps_set (i := 2) nd rfl (Or.inl rfl) (pe_op op_mod (pe_callTy cl_int (by rfl) T.b_int (by decide +kernel) (pa_cons (pe_ix (w_ixL (K := K) rfl) (pv 0) pe_int (fun _ _ => rfl)) pa_nil)) (pv 1)))
      (pss_cons (ps_asg (pe_op op_fdivW (pe_ix (w_ixL (K := K) rfl) (pv 0) pe_int (fun _ _ => rfl)) (pv 1)) (pg_sub (pv 0) pe_int set_list))
      (pss_one (ps_ret (pv 2))))) pss_nil)
      (pss_cons (ps_asg (pe_op op_add (pe_ix (w_ixL (K := K) rfl) (pv 0) pe_int (fun _ _ => rfl)) pe_int) (pg_sub (pv 0) pe_int set_list))
      (pss_cons (ps_set (i := 2) nd rfl (Or.inl rfl) (pe_op op_mod (pe_callTy cl_int (by rfl) T.b_int (by decide +kernel) (pa_cons (pe_op op_mul (pe_op op_add (pe_op op_add (pe_ix (w_ixL (K := K) rfl) (pv 0) pe_int (fun _ _ => rfl)) (pe_op op_mul pe_int (pe_ix (w_ixL (K := K) rfl) (pv 0) pe_int (fun _ _ => rfl)))) pe_int) pe_int) pa_nil)) pe_int))
      (pss_cons (ps_set (i := 2) nd rfl (Or.inl rfl) (pe_op op_mod (pe_callTy cl_int (by rfl) T.b_int (by decide +kernel) (pa_cons (pe_op op_mul (pv 2) (pe_op op_add (pe_op op_fdivW (pv 2) pe_int) pe_int)) pa_nil)) pe_int))
      (pss_cons (ps_set (i := 2) nd rfl (Or.inl rfl) (pe_op op_mod (pe_callTy cl_int (by rfl) T.b_int (by decide +kernel) (pa_cons (pe_op op_mul (pv 2) (pe_op op_add (pe_op op_fdivW (pv 2) pe_int) pe_int)) pa_nil)) pe_int))
      (pss_one (ps_ret (pe_op op_mod (pe_callTy cl_int (by rfl) T.b_int (by decide +kernel) (pa_cons (pe_op op_fdivW (pv 2) pe_int) pa_nil)) (pv 1))))))))), ?_⟩
  refine x_start (σ' := [some _, some _, none]) rfl ?_
  try simp only [cx_n, cx_K, cx_w, cx_P]
  have divN : CDivW c n := wide_div (b := 200) hn0 (by omega) (by decide) (by decide)
  walk_at "rd"
  refine x_ixL (sqL hp) (v := .bl f) (atI_nat (j := 1) rfl) ?_
  walk_at "rd"
  refine x_cases (fun h => ?_) (fun h => ?_)
  all_goals walk_at "rd"
  · refine x_ixL (sqL hp) (v := .int c) (atI_nat (j := 0) rfl) ?_
    walk_at "rd"
    refine x_cases (fun h2 => ?_) (fun h2 => ?_)
    · walk_at "rd"
      refine x_ixL (sqL hp) (v := .int c) (atI_nat (j := 0) rfl) ?_
      walk_at "rd"
      refine x_I hn0 ?_
      walk_at "rd"
      refine x_ixL (sqL hp) (v := .int c) (atI_nat (j := 0) rfl) ?_
      walk_at "rd"
      refine x_I divN ?_
      walk_at "rd"
      refine ⟨p, _, _, 0, rfl, rfl, hp, ixN_nat (j := 0) (by simp), ?_⟩
      walk_at "rd"
      exact k _ _ (Int.emod_nonneg _ (by omega)) (Int.emod_lt_of_pos _ hn0) (SX.mut List.mem_cons_self) ⟨c / n, f, z, t, upd_same, Int.ediv_nonneg o.c0 (by omega), o.z0, o.z1, o.t0⟩
    · walk_at "rd"
      refine x_ixL (sqL hp) (v := .int t) (atI_nat (j := 3) rfl) ?_
      walk_at "rd"
      refine ⟨p, _, _, 3, rfl, rfl, hp, ixN_nat (j := 3) (by simp), ?_⟩
      have e : ([V.int c, .bl f, .int z, .int t] : List V).set 3 (V.int (t + 1)) = [.int c, .bl f, .int z, .int (t + 1)] := rfl
      rw [e]
      walk_at "rd"
      refine x_ixL (sqL upd_same) (v := .int z) (atI_nat (j := 2) rfl) ?_
      walk_at "rd"
      refine x_ixL (sqL upd_same) (v := .int (t + 1)) (atI_nat (j := 3) rfl) ?_
      refine x_I (.inl ⟨by decide, by decide⟩) ?_
      walk_at "rd"
      refine x_I (.inr ⟨by decide, by decide⟩) ?_
      walk_at "rd"
      refine x_I (by decide) ?_
      generalize hy : ((z + 7919 * (t + 1) + 1) * 48271) % 2147483647 = y
      have y0 : 0 ≤ y := by rw [← hy]; exact Int.emod_nonneg _ (by decide)
      have y1 : y < 2147483647 := by rw [← hy]; exact Int.emod_lt_of_pos _ (by decide)
      walk_at "rd"
      refine x_I ⟨by decide, by decide⟩ ?_
      walk_at "rd"
      refine x_I (.inl ⟨by omega, by omega⟩) ?_
      walk_at "rd"
      refine x_I (by decide) ?_
      generalize hy2 : (y * (y / 1009 + 69621)) % 2147483647 = y2
      have y20 : 0 ≤ y2 := by rw [← hy2]; exact Int.emod_nonneg _ (by decide)
      have y21 : y2 < 2147483647 := by rw [← hy2]; exact Int.emod_lt_of_pos _ (by decide)
      walk_at "rd"
      refine x_I ⟨by decide, by decide⟩ ?_
      walk_at "rd"
      refine x_I (.inl ⟨by omega, by omega⟩) ?_
      walk_at "rd"
      refine x_I (by decide) ?_
      walk_at "rd"
      refine x_I ⟨by decide, by decide⟩ ?_
      walk_at "rd"
      refine x_I hn0 ?_
      exact k _ _ (Int.emod_nonneg _ (by omega)) (Int.emod_lt_of_pos _ hn0) (SX.mut List.mem_cons_self) ⟨c, f, z, t + 1, upd_same, o.c0, o.z0, o.z1, by have := o.t0; omega⟩
  · refine x_ixL (sqL hp) (v := .int t) (atI_nat (j := 3) rfl) ?_
    walk_at "rd"
    refine ⟨p, _, _, 3, rfl, rfl, hp, ixN_nat (j := 3) (by simp), ?_⟩
    have e : ([V.int c, .bl f, .int z, .int t] : List V).set 3 (V.int (t + 1)) = [.int c, .bl f, .int z, .int (t + 1)] := rfl
    rw [e]
    walk_at "rd"
    refine x_ixL (sqL upd_same) (v := .int z) (atI_nat (j := 2) rfl) ?_
    walk_at "rd"
    refine x_ixL (sqL upd_same) (v := .int (t + 1)) (atI_nat (j := 3) rfl) ?_
    refine x_I (.inl ⟨by decide, by decide⟩) ?_
    walk_at "rd"
    refine x_I (.inr ⟨by decide, by decide⟩) ?_
    walk_at "rd"
    refine x_I (by decide) ?_
    generalize hy : ((z + 7919 * (t + 1) + 1) * 48271) % 2147483647 = y
    have y0 : 0 ≤ y := by rw [← hy]; exact Int.emod_nonneg _ (by decide)
    have y1 : y < 2147483647 := by rw [← hy]; exact Int.emod_lt_of_pos _ (by decide)
    walk_at "rd"
    refine x_I ⟨by decide, by decide⟩ ?_
    walk_at "rd"
    refine x_I (.inl ⟨by omega, by omega⟩) ?_
    walk_at "rd"
    refine x_I (by decide) ?_
    generalize hy2 : (y * (y / 1009 + 69621)) % 2147483647 = y2
    have y20 : 0 ≤ y2 := by rw [← hy2]; exact Int.emod_nonneg _ (by decide)
    have y21 : y2 < 2147483647 := by rw [← hy2]; exact Int.emod_lt_of_pos _ (by decide)
    walk_at "rd"
    refine x_I ⟨by decide, by decide⟩ ?_
    walk_at "rd"
    refine x_I (.inl ⟨by omega, by omega⟩) ?_
    walk_at "rd"
    refine x_I (by decide) ?_
    walk_at "rd"
    refine x_I ⟨by decide, by decide⟩ ?_
    walk_at "rd"
    refine x_I hn0 ?_
    exact k _ _ (Int.emod_nonneg _ (by omega)) (Int.emod_lt_of_pos _ hn0) (SX.mut List.mem_cons_self) ⟨c, f, z, t + 1, upd_same, o.c0, o.z0, o.z1, by have := o.t0; omega⟩
end
end M

namespace M
open PySem PySem.Spec PyProof.Rows L2
theorem digits_ok : ∀ j, j < 10 → ((toString ((j : Nat) : Int) : Str)).cps.toList = [48 + j] := by decide +kernel
theorem pow8 : ∀ c, c < 128 → lowB c = true → (lowB c || digB c) = true := by decide +kernel
/-- letter, digit, tail -/
theorem name_of {c j : Nat} {s : Str} (hc : lowB c = true) (hj : j < 10) (hs : s.length ≤ 4) (ha : ∀ x ∈ s.cps.toList, (lowB x || digB x) = true) : nameB ((⟨#[c]⟩ ++ (toString ((j : Nat) : Int) : Str) : Str) ++ s) = true := by
  have e : ((⟨#[c]⟩ ++ (toString ((j : Nat) : Int) : Str) : Str) ++ s).cps.toList = c :: (48 + j) :: s.cps.toList := by
    rw [app_cps, app_cps, digits_ok j hj]
    rfl
  have el : ((⟨#[c]⟩ ++ (toString ((j : Nat) : Int) : Str) : Str) ++ s).length = s.length + 2 := by
    rw [← str_len, e, List.length_cons, List.length_cons, str_len]
  refine nameB_yes ⟨by omega, by omega⟩ (by rw [e]; exact hc) fun x hx => ?_
  rw [e] at hx
  rcases List.mem_cons.mp hx with rfl | hx
  · rw [hc]; rfl
  rcases List.mem_cons.mp hx with rfl | hx
  · have : digB (48 + j) = true := by simp [digB]; omega
    rw [this, Bool.or_true]
  · exact ha x hx
theorem tails_ok : ∀ s ∈ (["", "", "q", "zz7x"] : List Str), s.length ≤ 4 ∧ s.cps.toList.all (fun x => lowB x || digB x) = true := by decide +kernel
theorem menu1 : ∀ s ∈ (["go", "a1", "stay", "b"] : List Str), nameB s = true := by decide +kernel
theorem menu2 : ∀ s ∈ (["x", "yy", "z", "w0"] : List Str), nameB s = true := by decide +kernel
theorem menu3 : ∀ c, c < 26 → ∀ s ∈ ([⟨#[97 + c]⟩ ++ ("2" : Str), ⟨#[97 + c]⟩ ++ ("10" : Str), ⟨#[97 + c]⟩, ("m" : Str) ++ (⟨#[97 + c]⟩ : Str)] : List Str), nameB s = true := by decide +kernel
theorem menu1L : ∀ s ∈ (["go", "a1", "stay", "b"] : List Str), s.length ≤ 4 := by decide +kernel
theorem menu2L : ∀ s ∈ (["x", "yy", "z", "w0"] : List Str), s.length ≤ 4 := by decide +kernel
theorem menu3L : ∀ c, c < 26 → ∀ s ∈ ([⟨#[97 + c]⟩ ++ ("2" : Str), ⟨#[97 + c]⟩ ++ ("10" : Str), ⟨#[97 + c]⟩, ("m" : Str) ++ (⟨#[97 + c]⟩ : Str)] : List Str), s.length ≤ 4 := by decide +kernel
theorem name_zz {c j : Nat} {s : Str} (hj : j < 10) : ((⟨#[c]⟩ ++ (toString ((j : Nat) : Int) : Str) : Str) ++ s) ≠ "zz" := fun z => by
  have e : ((⟨#[c]⟩ ++ (toString ((j : Nat) : Int) : Str) : Str) ++ s).cps.toList = c :: (48 + j) :: s.cps.toList := by
    rw [app_cps, app_cps, digits_ok j hj]
    rfl
  rw [z] at e
  have e2 : ("zz" : Str).cps.toList = [122, 122] := by decide +kernel
  rw [e2] at e
  injection e with e3 e4
  injection e4 with e5 e6
  omega
/-- the names of its steps are short -/
def StL (st : Stand) : Prop := ∀ s ∈ st.rows.map (·.1), s.length ≤ 4
theorem letter_is : ∀ i, i < 26 → ("abcdefghijklmnopqrstuvwxyz" : Str).cps.toList[i]? = some (97 + i) := by decide +kernel
section
variable {P : Program} {w : World} {K : PySem.W.Frag} {mg : Str → Option Value} {base : Heap}
def sp_law_names (T : Tx K mg) : Sp := fun vs H Q _ => ∃ p n, vs = [.ref p, .int n] ∧ Drw H p ∧ 0 ≤ n ∧ n ≤ 10 ∧
  ∀ (q : Addr) (ws : List Str) (H' : Hp), H q = none → SX [p] H H' → Drw H' p → H' q = some (.lst (ws.map V.str)) → (ws.length : Int) = n → (∀ s ∈ ws, nameB s = true ∧ s ≠ "zz") → Q (.ref q) H'
theorem ok_law_names (T : Tx K mg) : FnOk P w K mg base CX0 2 T.law_names.f T.law_names.fd P_law_names (sp_law_names T) := by
  refine T.law_names.F.ok sc_law_names (fun vs H Q E h => ?_) (fun cdv A outer s H vs Q E hr h => ?_)
  · obtain ⟨p, n, rfl, hp, hn0, hn1, k⟩ := h
    rfl
  have hu := hu_of hr
  have nd := sc_law_names.nd
  obtain ⟨p, n, rfl, hp, hn0, hn1, k⟩ := h
  refine ⟨_, (pss_cons (ps_set (i := 2) nd rfl (Or.inl rfl) (pe_lst pa_nil))
      (pss_cons (ps_for PassesOwn.never rfl (pi_range1 (by rfl) T.b_range (pa_cons (pv 1) pa_nil)) (pg_name (i := 3) nd rfl (Or.inl rfl)) (pss_cons (ps_set (i := 4) nd rfl (Or.inl rfl) (pe_ix ix_str pe_str (pe_call (ok_law_draw (P := P) (w := w) T) (hr.mono (by decide)) (by rfl) T.law_draw.g T.law_draw.F.kp T.law_draw.B .nil pass0 (pa_cons (pv 0) (pa_cons pe_int pa_nil))) (fun _ _ => rfl)))
      (pss_one (ps_expr (pe_bm PySem.F.plainAttrs_list PySem.F.slot_list_append PySem.F.type_list_append mt_append (pv 2) (pa_cons (pe_op op_catS (pe_op op_catS (pv 4) (pe_callTy cl_str (by rfl) T.b_str (by decide +kernel) (pa_cons (pv 3) pa_nil))) (pe_ix (w_ixL (K := K) rfl) (pe_lst (pa_cons pe_str (pa_cons pe_str (pa_cons pe_str (pa_cons pe_str pa_nil))))) (pe_call (ok_law_draw (P := P) (w := w) T) (hr.mono (by decide)) (by rfl) T.law_draw.g T.law_draw.F.kp T.law_draw.B .nil pass0 (pa_cons (pv 0) (pa_cons pe_int pa_nil))) (fun _ _ => rfl))) pa_nil))))))
      (pss_one (ps_ret (pv 2))))), ?_⟩
  refine x_start (σ' := [some _, some _, none, none, none]) rfl ?_
  try simp only [cx_n, cx_K, cx_w, cx_P]
  walk_at "rd"
  refine ⟨Nat.le_of_ble_eq_true rfl, fun q hq => ?_⟩
  walk_at "rd"
  refine x_rng1 (by omega) (by omega) ?_
  have npq : p ≠ q := fun e => hp.there (e ▸ hq)
  refine for_it walk_rng (fun i σ A => SX [p] H A ∧ Drw A p ∧ ∃ (ws : List Str) (a b : Option V), A q = some (.lst (ws.map V.str)) ∧ ws.length = i ∧ (∀ s ∈ ws, nameB s = true ∧ s ≠ "zz") ∧ σ = [some (.ref p), some (.int n), some (.ref q), a, b])
    ⟨SX.new hq, hp.sx (SX.new (S := []) hq) List.not_mem_nil, [], none, none, upd_same, rfl, (fun _ h => nomatch h), rfl⟩ (fun _ _ _ _ _ => trivial) ?_ ?_
  · rintro i x σ A0 A hi ⟨sA, pA, ws, a, b, eA, lA, allA, rfl⟩ ⟨rfl, rfl⟩
    walk_at "rd"
    refine ⟨p, 26, rfl, pA, by decide, by decide, fun r H1 r0 r1 s1 p1 => ?_⟩
    obtain ⟨g, rfl⟩ : ∃ g : Nat, r = (g : Int) := ⟨r.toNat, by omega⟩
    obtain ⟨c, hc, lc⟩ := at_opt (letters_at g (by omega))
    refine x_ixS (by decide +kernel) (atI_nat hc) ?_
    walk_at "rd"
    have e1 := s1 _ _ (by simpa using Ne.symm npq) eA
    refine ⟨.inl ⟨rfl, _, sqL e1⟩, ?_⟩
    walk_at "rd"
    have hi10 : i < 10 := by omega
    refine x_cstr (small_log (by omega)) ?_
    walk_at "rd"
    have dl := congrArg List.length (digits_ok i hi10)
    rw [str_len] at dl
    refine x_catS (by rw [dl]; exact Nat.le_trans (show 1 + 1 ≤ 10000 by decide) (by decide)) ?_
    walk_at "rd"
    refine ⟨Nat.le_of_ble_eq_true rfl, fun l hl => ?_⟩
    walk_at "rd"
    have npl : l ≠ p := fun e => p1.there (e ▸ hl)
    refine ⟨p, 4, rfl, p1.sx (SX.new (S := []) hl) List.not_mem_nil, by decide, by decide, fun r2 H2 r20 r21 s2 p2 => ?_⟩
    obtain ⟨tl, et, mt⟩ := at_strs (ns := ["", "", "q", "zz7x"]) r20 r21
    refine x_ixL (sqL (s2 _ _ (by simpa using npl) upd_same)) et ?_
    obtain ⟨t4, ta⟩ := tails_ok tl mt
    have nm := name_of (j := i) lc hi10 t4 (List.all_eq_true.mp ta)
    have nl8 := nameB_size nm
    rw [app_len] at nl8
    refine x_catS (Nat.le_of_lt (lt_size nl8)) ?_
    walk_at "rd"
    have sAll : SX [p] A H2 := (s1.trans (SX.new hl)).trans s2
    have e2 := sAll _ _ (by simpa using Ne.symm npq) eA
    refine ⟨q, _, _, rfl, rfl, e2, lt_size (by rw [List.length_map]; omega), ?_⟩
    refine ⟨?_, p2.sx (SX.mut (S := [q]) List.mem_cons_self) (by simpa using npq), ws ++ [_], _, _, by rw [upd_same, List.map_append]; rfl, by simp [lA], fun t ht => ?_, rfl⟩
    · intro b o nb hb
      have hbq : b ≠ q := fun e => by rw [e, hq] at hb; cases hb
      rw [upd_ne hbq]
      exact (sA.trans sAll) b o nb hb
    · rcases List.mem_append.mp ht with ht | ht
      · exact allA t ht
      · cases List.mem_singleton.mp ht
        exact ⟨nm, name_zz hi10⟩
  · rintro σ A ⟨sA, pA, ws, a, b, eA, lA, allA, rfl⟩
    walk_at "rd"
    exact k q ws A hq sA pA eA (by omega) allA
def sp_law_target (T : Tx K mg) : Sp := fun vs H Q _ => ∃ (p nl : Addr) (j : Int) (rings : Bool) (names : List Str), vs = [.ref p, .ref nl, .int j, .bl rings] ∧ Drw H p ∧ SqL K (hid [p] H) nl (names.map V.str) ∧ names.length ≤ 10000 ∧ 0 ≤ j ∧ j + 1 < names.length ∧
  ∀ s H', s ∈ names → SX [p] H H' → Drw H' p → Q (.str s) H'
theorem ok_law_target (T : Tx K mg) : FnOk P w K mg base CX0 2 T.law_target.f T.law_target.fd P_law_target (sp_law_target T) := by
  refine T.law_target.F.ok sc_law_target (fun vs H Q E h => ?_) (fun cdv A outer s H vs Q E hr h => ?_)
  · obtain ⟨p, nl, j, rings, names, rfl, hp, hnl, hn2, hj0, hj1, k⟩ := h
    rfl
  have hu := hu_of hr
  have nd := sc_law_target.nd
  obtain ⟨p, nl, j, rings, names, rfl, hp, hnl, hn2, hj0, hj1, k⟩ := h
  refine ⟨_, (pss_cons (ps_if (pt_val (pv 3)) (pss_one (ps_ret (pe_ix (w_ixL (K := K) rfl) (pv 1) (pe_call (ok_law_draw (P := P) (w := w) T) (hr.mono (by decide)) (by rfl) T.law_draw.g T.law_draw.F.kp T.law_draw.B .nil pass0 (pa_cons (pv 0) (pa_cons (pe_callB (w_len (K := K) rfl) (by rfl) T.b_len (by decide +kernel) (pa_cons (pv 1) pa_nil)) pa_nil))) (fun _ _ => rfl)))) pss_nil)
      (pss_one (ps_ret (pe_ix (w_ixL (K := K) rfl) (pv 1) (pe_op op_add (pe_op op_add (pv 2) pe_int) (pe_call (ok_law_draw (P := P) (w := w) T) (hr.mono (by decide)) (by rfl) T.law_draw.g T.law_draw.F.kp T.law_draw.B .nil pass0 (pa_cons (pv 0) (pa_cons (pe_op op_sub (pe_op op_sub (pe_callB (w_len (K := K) rfl) (by rfl) T.b_len (by decide +kernel) (pa_cons (pv 1) pa_nil)) pe_int) (pv 2)) pa_nil)))) (fun _ _ => rfl))))), ?_⟩
  refine x_start (σ' := [some _, some _, some _, some _]) rfl ?_
  try simp only [cx_n, cx_K, cx_w, cx_P]
  walk_at "rd"
  refine x_cases (fun c => ?_) (fun c => ?_)
  · walk_at "rd"
    refine x_lenL' (le_hid.l hnl) ?_
    walk_at "rd"
    rw [List.length_map]
    refine ⟨p, (names.length : Int), rfl, hp, by omega, by omega, fun r H1 r0 r1 s1 p1 => ?_⟩
    obtain ⟨to, eto, mto⟩ := at_strs r0 r1
    refine x_ixL (s1.leH.l hnl) eto ?_
    exact k to H1 mto s1 p1
  · walk_at "rd"
    refine x_lenL' (le_hid.l hnl) ?_
    walk_at "rd"
    rw [List.length_map]
    refine ⟨p, _, rfl, hp, by omega, by omega, fun r H1 r0 r1 s1 p1 => ?_⟩
    walk_at "rd"
    obtain ⟨to, eto, mto⟩ := at_strs (ns := names) (r := j + 1 + r) (by omega) (by omega)
    refine x_ixL (s1.leH.l hnl) eto ?_
    exact k to H1 mto s1 p1
def sp_law_menu (T : Tx K mg) : Sp := fun vs H Q _ => ∃ (p : Addr), vs = [.ref p] ∧ Drw H p ∧ ∀ (q : Addr) (ws : List Str) (H' : Hp), H q = none → SX [p] H H' → Drw H' p → H' q = some (.lst (ws.map V.str)) → ws.length = 4 → (∀ s ∈ ws, nameB s = true ∧ s.length ≤ 4) → Q (.ref q) H'
theorem ok_law_menu (T : Tx K mg) : FnOk P w K mg base CX0 2 T.law_menu.f T.law_menu.fd P_law_menu (sp_law_menu T) := by
  refine T.law_menu.F.ok sc_law_menu (fun vs H Q E h => ?_) (fun cdv A outer s H vs Q E hr h => ?_)
  · obtain ⟨p, rfl, hp, k⟩ := h
    rfl
  have hu := hu_of hr
  have nd := sc_law_menu.nd
  obtain ⟨p, rfl, hp, k⟩ := h
  refine ⟨_, (pss_cons (ps_set (i := 1) nd rfl (Or.inl rfl) (pe_ix ix_str pe_str (pe_call (ok_law_draw (P := P) (w := w) T) (hr.mono (by decide)) (by rfl) T.law_draw.g T.law_draw.F.kp T.law_draw.B .nil pass0 (pa_cons (pv 0) (pa_cons pe_int pa_nil))) (fun _ _ => rfl)))
      (pss_cons (ps_set (i := 2) nd rfl (Or.inl rfl) (pe_lst (pa_cons (pe_lst (pa_cons pe_str (pa_cons pe_str (pa_cons pe_str (pa_cons pe_str pa_nil))))) (pa_cons (pe_lst (pa_cons pe_str (pa_cons pe_str (pa_cons pe_str (pa_cons pe_str pa_nil))))) (pa_cons (pe_lst (pa_cons (pe_op op_catS (pv 1) pe_str) (pa_cons (pe_op op_catS (pv 1) pe_str) (pa_cons (pv 1) (pa_cons (pe_op op_catS pe_str (pv 1)) pa_nil))))) pa_nil)))))
      (pss_one (ps_ret (pe_ix (w_ixL (K := K) rfl) (pv 2) (pe_call (ok_law_draw (P := P) (w := w) T) (hr.mono (by decide)) (by rfl) T.law_draw.g T.law_draw.F.kp T.law_draw.B .nil pass0 (pa_cons (pv 0) (pa_cons pe_int pa_nil))) (fun _ _ => rfl)))))), ?_⟩
  refine x_start (σ' := [some _, none, none]) rfl ?_
  try simp only [cx_n, cx_K, cx_w, cx_P]
  walk_at "rd"
  refine ⟨p, 26, rfl, hp, by decide, by decide, fun r H1 r0 r1 s1 p1 => ?_⟩
  obtain ⟨g, rfl⟩ : ∃ g : Nat, r = (g : Int) := ⟨r.toNat, by omega⟩
  refine x_ixS (by decide +kernel) (atI_nat (letter_is g (by omega))) ?_
  walk_at "rd"
  refine ⟨Nat.le_of_ble_eq_true rfl, fun l1 h1 => ?_⟩
  walk_at "rd"
  refine ⟨Nat.le_of_ble_eq_true rfl, fun l2 h2 => ?_⟩
  walk_at "rd"
  refine x_catS (Nat.le_of_ble_eq_true rfl) ?_
  walk_at "rd"
  refine x_catS (Nat.le_of_ble_eq_true rfl) ?_
  walk_at "rd"
  refine x_catS (Nat.le_of_ble_eq_true rfl) ?_
  walk_at "rd"
  refine ⟨Nat.le_of_ble_eq_true rfl, fun l3 h3 => ?_⟩
  walk_at "rd"
  refine ⟨Nat.le_of_ble_eq_true rfl, fun l4 h4 => ?_⟩
  walk_at "rd"
  have z1 : SX [] H1 (upd H1 l1 (.lst [.str "go", .str "a1", .str "stay", .str "b"])) := SX.new h1
  have e1 : (upd H1 l1 (.lst [.str "go", .str "a1", .str "stay", .str "b"])) l1 = _ := upd_same
  generalize upd H1 l1 (.lst [.str "go", .str "a1", .str "stay", .str "b"]) = B1 at *
  have z2 : SX [] B1 (upd B1 l2 (.lst [.str "x", .str "yy", .str "z", .str "w0"])) := SX.new h2
  have e2 : (upd B1 l2 (.lst [.str "x", .str "yy", .str "z", .str "w0"])) l2 = _ := upd_same
  generalize upd B1 l2 (.lst [.str "x", .str "yy", .str "z", .str "w0"]) = B2 at *
  have z3 : SX [] B2 (upd B2 l3 (.lst [.str (⟨#[97 + g]⟩ ++ ("2" : Str)), .str (⟨#[97 + g]⟩ ++ ("10" : Str)), .str ⟨#[97 + g]⟩, .str (("m" : Str) ++ ⟨#[97 + g]⟩)])) := SX.new h3
  have e3 : (upd B2 l3 (.lst [.str (⟨#[97 + g]⟩ ++ ("2" : Str)), .str (⟨#[97 + g]⟩ ++ ("10" : Str)), .str ⟨#[97 + g]⟩, .str (("m" : Str) ++ ⟨#[97 + g]⟩)])) l3 = _ := upd_same
  generalize upd B2 l3 (.lst [.str (⟨#[97 + g]⟩ ++ ("2" : Str)), .str (⟨#[97 + g]⟩ ++ ("10" : Str)), .str ⟨#[97 + g]⟩, .str (("m" : Str) ++ ⟨#[97 + g]⟩)]) = B3 at *
  have z4 : SX [] B3 (upd B3 l4 (.lst [.ref l1, .ref l2, .ref l3])) := SX.new h4
  have e4 : (upd B3 l4 (.lst [.ref l1, .ref l2, .ref l3])) l4 = _ := upd_same
  generalize upd B3 l4 (.lst [.ref l1, .ref l2, .ref l3]) = B4 at *
  have s14 : SX [] H1 B4 := ((z1.trans z2).trans z3).trans z4
  have p4 : Drw B4 p := p1.sx s14 List.not_mem_nil
  have nf : ∀ l, H1 l = none → l ≠ p := fun l h e => p1.there (e ▸ h)
  have f1 : H1 l1 = none := h1
  have f2 : H1 l2 = none := z1.free h2 List.not_mem_nil
  have f3 : H1 l3 = none := (z1.trans z2).free h3 List.not_mem_nil
  have f4 : H1 l4 = none := ((z1.trans z2).trans z3).free h4 List.not_mem_nil
  refine ⟨p, 3, rfl, p4, by decide, by decide, fun r2 H2 r20 r21 s2 p2 => ?_⟩
  have g4 := s2 _ _ (by simpa using nf l4 f4) e4
  have sAll : SX [p] H H2 := (s1.trans (nil_sx s14)).trans s2
  have hf : ∀ l, H1 l = none → H l = none := fun l h => s1.free h (by simpa using nf l h)
  have hg : g < 26 := by omega
  rcases (by omega : r2 = 0 ∨ r2 = 1 ∨ r2 = 2) with rfl | rfl | rfl
  · refine x_ixL (sqL g4) (v := .ref l1) (atI_nat (j := 0) rfl) ?_
    exact k l1 ["go", "a1", "stay", "b"] H2 (hf _ f1) sAll p2 (s2 _ _ (by simpa using nf l1 f1) (((z2.trans z3).trans z4) _ _ List.not_mem_nil e1)) rfl (fun s hs => ⟨menu1 s hs, menu1L s hs⟩)
  · refine x_ixL (sqL g4) (v := .ref l2) (atI_nat (j := 1) rfl) ?_
    exact k l2 ["x", "yy", "z", "w0"] H2 (hf _ f2) sAll p2 (s2 _ _ (by simpa using nf l2 f2) ((z3.trans z4) _ _ List.not_mem_nil e2)) rfl (fun s hs => ⟨menu2 s hs, menu2L s hs⟩)
  · refine x_ixL (sqL g4) (v := .ref l3) (atI_nat (j := 2) rfl) ?_
    exact k l3 [⟨#[97 + g]⟩ ++ ("2" : Str), ⟨#[97 + g]⟩ ++ ("10" : Str), ⟨#[97 + g]⟩, ("m" : Str) ++ (⟨#[97 + g]⟩ : Str)] H2 (hf _ f3) sAll p2 (s2 _ _ (by simpa using nf l3 f3) (z4 _ _ List.not_mem_nil e3)) rfl (fun s hs => ⟨menu3 g hg s hs, menu3L g hg s hs⟩)
end
end M

namespace M
open PySem PySem.Spec PyProof.Rows L2
theorem stl_hand {h : Int} {ds : List (Str × Str)} {P : Str × Str → Prop} (a : ∀ q ∈ ds, q.1.length ≤ 4 ∧ P q) : StL (.hand h ds) := fun s hs => by
  obtain ⟨q, hq, rfl⟩ := List.mem_map.mp hs
  exact (a q hq).1
theorem stl_chance {ds : List (Str × (Str × Int))} {P : Str × (Str × Int) → Prop} (a : ∀ q ∈ ds, q.1.length ≤ 4 ∧ P q) : StL (.chance ds) := fun s hs => by
  obtain ⟨q', hq', rfl⟩ := List.mem_map.mp hs
  obtain ⟨q, hq, rfl⟩ := List.mem_map.mp hq'
  exact (a q hq).1
section
variable {P : Program} {w : World} {K : PySem.W.Frag} {mg : Str → Option Value} {base : Heap}
def sp_law_stand (T : Tx K mg) : Sp := fun vs H Q _ => ∃ (p nl wl : Addr) (g hands : Int) (rings : Bool) (names wds : List Str) (S : List Addr), vs = [.ref p, .ref nl, .int g, .int hands, .ref wl, .bl rings] ∧ Drw H p ∧ p ∈ S ∧ (∀ b ∈ S, H b ≠ none) ∧
  SqL K (hid S H) nl (names.map V.str) ∧ SqL K (hid S H) wl (wds.map V.str) ∧ 0 ≤ g ∧ g < names.length ∧ names.length ≤ 10000 ∧ (∀ s ∈ names, nameB s = true) ∧ wds.length = 4 ∧ (∀ s ∈ wds, nameB s = true ∧ s.length ≤ 4) ∧ 1 ≤ hands ∧ hands ≤ 4 ∧
  ∀ v H' st, SX [p] H H' → Drw H' p → rStand K (hid S H') v st → StandOk hands names st → (g + 1 = names.length → st = .fin) → StL st → Q v H'
theorem ok_law_stand (T : Tx K mg) : FnOk P w K mg base CX0 3 T.law_stand.f T.law_stand.fd P_law_stand (sp_law_stand T) := by
  refine T.law_stand.F.ok sc_law_stand (fun vs H Q E h => ?_) (fun cdv A outer s H vs Q E hr h => ?_)
  · obtain ⟨p, nl, wl, g, hands, rings, names, wds, S, rfl, hp, pS, hS, hnl, hwl, hg0, hg1, hn2, hnn, hw4, hwn, hh1, hh4, k⟩ := h
    rfl
  have hu := hu_of hr
  have nd := sc_law_stand.nd
  obtain ⟨p, nl, wl, g, hands, rings, names, wds, S, rfl, hp, pS, hS, hnl, hwl, hg0, hg1, hn2, hnn, hw4, hwn, hh1, hh4, k⟩ := h
  refine ⟨_, (pss_cons (ps_set (i := 6) nd rfl (Or.inl rfl) (pe_call (ok_law_draw (P := P) (w := w) T) (hr.mono (by decide)) (by rfl) T.law_draw.g T.law_draw.F.kp T.law_draw.B .nil pass0 (pa_cons (pv 0) (pa_cons pe_int pa_nil))))
      (pss_cons (ps_set (i := 7) nd rfl (Or.inl rfl) (pe_ix (w_ixL (K := K) rfl) (pe_lst (pa_cons pe_int (pa_cons pe_int (pa_cons pe_int (pa_cons pe_int (pa_cons pe_int (pa_cons pe_int (pa_cons pe_int (pa_cons pe_int pa_nil))))))))) (pe_call (ok_law_draw (P := P) (w := w) T) (hr.mono (by decide)) (by rfl) T.law_draw.g T.law_draw.F.kp T.law_draw.B .nil pass0 (pa_cons (pv 0) (pa_cons pe_int pa_nil))) (fun _ _ => rfl)))
      (pss_cons (ps_set (i := 8) nd rfl (Or.inl rfl) (pe_call (ok_law_draw (P := P) (w := w) T) (hr.mono (by decide)) (by rfl) T.law_draw.g T.law_draw.F.kp T.law_draw.B .nil pass0 (pa_cons (pv 0) (pa_cons pe_int pa_nil))))
      (pss_cons (ps_if (PW.pt (pw_or (pt_cmpR op_eq (pv 2) (pe_op op_sub (pe_callB (w_len (K := K) rfl) (by rfl) T.b_len (by decide +kernel) (pa_cons (pv 1) pa_nil)) pe_int) (nomark _)) (pw_or1 (PW.pt (pw_and (pt_cmpR op_eq (pv 6) pe_int (nomark _)) (pw_and1 (pt_cmpR op_gt (pv 2) pe_int (nomark _)))))))) (pss_one (ps_ret (pe_tup (pa_cons pe_str pa_nil)))) pss_nil)
      (pss_cons (ps_set (i := 9) nd rfl (Or.inl rfl) pe_dnewK)
      (pss_cons (ps_if (pt_cmpR op_lt (pv 6) pe_int (nomark _)) (pss_cons (ps_set (i := 10) nd rfl (Or.inl rfl) (pe_call (ok_law_draw (P := P) (w := w) T) (hr.mono (by decide)) (by rfl) T.law_draw.g T.law_draw.F.kp T.law_draw.B .nil pass0 (pa_cons (pv 0) (pa_cons (pv 3) pa_nil))))
      (pss_cons (ps_for PassesOwn.never rfl (pi_range1 (by rfl) T.b_range (pa_cons (pv 7) pa_nil)) (pg_name (i := 11) nd rfl (Or.inl rfl)) (pss_one (ps_dput hu (pv 9) (pe_ix (w_ixL (K := K) rfl) (pv 4) (pe_op op_mod (pe_op op_add (pv 11) (pv 8)) pe_int) (fun _ _ => rfl)) (pe_call (ok_law_target (P := P) (w := w) T) (hr.mono (by decide)) (by rfl) T.law_target.g T.law_target.F.kp T.law_target.B .nil pass0 (pa_cons (pv 0) (pa_cons (pv 1) (pa_cons (pv 2) (pa_cons (pv 5) pa_nil))))) rfl)))
      (pss_one (ps_ret (pe_tup (pa_cons pe_str (pa_cons (pv 10) (pa_cons (pv 9) pa_nil)))))))) pss_nil)
      (pss_cons (ps_for PassesOwn.never rfl (pi_range1 (by rfl) T.b_range (pa_cons (pv 7) pa_nil)) (pg_name (i := 11) nd rfl (Or.inl rfl)) (pss_cons (ps_set (i := 12) nd rfl (Or.inl rfl) (pe_op op_add pe_int (pe_call (ok_law_draw (P := P) (w := w) T) (hr.mono (by decide)) (by rfl) T.law_draw.g T.law_draw.F.kp T.law_draw.B .nil pass0 (pa_cons (pv 0) (pa_cons pe_int pa_nil)))))
      (pss_one (ps_dput hu (pv 9) (pe_ix (w_ixL (K := K) rfl) (pv 4) (pe_op op_mod (pe_op op_add (pv 11) (pv 8)) pe_int) (fun _ _ => rfl)) (pe_tup (pa_cons (pe_call (ok_law_target (P := P) (w := w) T) (hr.mono (by decide)) (by rfl) T.law_target.g T.law_target.F.kp T.law_target.B .nil pass0 (pa_cons (pv 0) (pa_cons (pv 1) (pa_cons (pv 2) (pa_cons (pv 5) pa_nil))))) (pa_cons (pv 12) pa_nil))) rfl))))
      (pss_one (ps_ret (pe_tup (pa_cons pe_str (pa_cons (pv 9) pa_nil)))))))))))), ?_⟩
  refine x_start (σ' := [some _, some _, some _, some _, some _, some _, none, none, none, none, none, none, none]) rfl ?_
  try simp only [cx_n, cx_K, cx_w, cx_P]
  have subS : ∀ b ∈ [p], b ∈ S := fun b hb => by cases List.mem_singleton.mp hb; exact pS
  walk_at "rd"
  refine ⟨p, 8, rfl, hp, by decide, by decide, fun sort H1 so0 so1 s1 p1 => ?_⟩
  walk_at "rd"
  refine ⟨Nat.le_of_ble_eq_true rfl, fun l0 hl0 => ?_⟩
  walk_at "rd"
  refine ⟨p, 8, rfl, p1.sx (SX.new (S := []) hl0) List.not_mem_nil, by decide, by decide, fun r H2 r0 r1 s2 p2 => ?_⟩
  have npl : l0 ≠ p := fun e => p1.there (e ▸ hl0)
  obtain ⟨m, em, hm⟩ := at_ints (ns := [2, 1, 2, 3, 3, 2, 1, 4]) r0 r1
  have hm2 : 1 ≤ m ∧ m ≤ 4 := by simp at hm; omega
  refine x_ixL (sqL (s2 _ _ (by simpa using npl) upd_same)) em ?_
  walk_at "rd"
  refine ⟨p, 2, rfl, p2, by decide, by decide, fun shift H3 sh0 sh1 s3 p3 => ?_⟩
  walk_at "rd"
  have sH3 : SX [p] H H3 := ((s1.trans (SX.new hl0)).trans s2).trans s3
  -- what is read stays to be read
  have rdN : ∀ {A : Hp}, SX [p] H A → SqL K A nl (names.map V.str) := fun s => (s.sub subS).leH.l hnl
  have rdW : ∀ {A : Hp}, SX [p] H A → SqL K A wl (wds.map V.str) := fun s => (s.sub subS).leH.l hwl
  have rdP : ∀ {A : Hp}, SX [p] H A → SqL K (hid [p] A) nl (names.map V.str) := fun s => ((s.sub subS).le.trans (le_hid2 subS)).l hnl
  have finE : ∀ t, H3 t = none → Q (.ref t) (upd H3 t (.tup [.str "end"])) := fun t ht => by
    have tS : t ∉ S := fun mem => sx_there sH3 p3.there hS t mem ht
    exact k _ _ .fin (sH3.trans (SX.new ht)) (p3.sx (SX.new (S := []) ht) List.not_mem_nil) ⟨t, rfl, sqT (by rw [hid_of tS, upd_same])⟩ trivial (fun _ => rfl) (fun _ h => nomatch h)
  refine x_lenL' (rdN sH3) ?_
  walk_at "rd"
  rw [List.length_map]
  refine x_cases (fun c1 => ?_) (fun c1 => ?_)
  · walk_at "rd"
    exact ⟨Nat.le_of_ble_eq_true rfl, fun t ht => finE t ht⟩
  have gne : g + 1 ≠ names.length := fun e => by
    have : decide (V.int g = V.int ((names.length : Int) - 1)) = true := decide_eq_true (by rw [← e]; congr 1; omega)
    rw [this] at c1
    cases c1
  walk_at "rd"
  refine x_cases (fun c2 => ?_) (fun c2 => ?_)
  · walk_at "rd"
    refine x_cases (fun c3 => ?_) (fun c3 => ?_)
    · walk_at "rd"
      exact ⟨Nat.le_of_ble_eq_true rfl, fun t ht => finE t ht⟩
    · walk_at "rd"
      intro d hd
      walk_at "rd"
      have npd : d ≠ p := fun e => p3.there (e ▸ hd)
      have hd0 : H d = none := sH3.free hd (by simpa using npd)
      have ndS : d ∉ S := fun m => hS d m hd0
      have subD : ∀ b ∈ [p], b ∈ d :: S := fun b hb => List.mem_cons_of_mem _ (subS b hb)
      by_cases hk5 : sort < 5
      · rw [decide_eq_true hk5]
        walk_at "rd"
        refine ⟨p, hands, rfl, p3.sx (SX.new (S := []) hd) List.not_mem_nil, by omega, by omega, fun hand H4 h0 h1 s4 p4 => ?_⟩
        walk_at "rd"
        have sH4 : SX [p] H H4 := (sH3.trans (SX.new hd)).trans s4
        refine x_rng1 (by omega) (by omega) ?_
        refine for_it walk_rng (fun i σ A => SX [p] H A ∧ Drw A p ∧ ∃ (kv : List (Key × V)) (ds : List (Str × Str)) (a b : Option V), A d = some (.dK kv) ∧ KVs rS (hid (d :: S) A) kv ds ∧ ds.length ≤ i ∧ (0 < i → 1 ≤ ds.length) ∧ (ds.map (·.1)).Nodup ∧
          (∀ q ∈ ds, q.1.length ≤ 4 ∧ nameB q.1 = true ∧ nameB q.2 = true ∧ q.2 ∈ names) ∧
          σ = [some (.ref p), some (.ref nl), some (.int g), some (.int hands), some (.ref wl), some (.bl rings), some (.int sort), some (.int m), some (.int shift), some (.ref d), some (.int hand), a, b])
          ⟨sH4, p4, [], [], none, none, s4 _ _ (by simpa using npd) upd_same, .nil, Nat.le_refl _, fun h => absurd h (Nat.lt_irrefl _), List.nodup_nil, (fun _ h => nomatch h), rfl⟩ (fun _ _ _ _ _ => trivial) ?_ ?_
        · rintro i x σ A0 A hi ⟨sA, pA, kv, ds, a, b, dA, kA, lA, lA1, nA, allA, rfl⟩ ⟨rfl, rfl⟩
          walk_at "rd"
          refine ⟨p, nl, g, rings, names, rfl, pA, rdP sA, hn2, hg0, by omega, fun to B1 mto t1 q1 => ?_⟩
          walk_at "rd"
          have sB := sA.trans t1
          refine x_I (by decide) ?_
          obtain ⟨wd, ewd, mwd⟩ := at_strs (ns := wds) (r := ((i : Int) + shift) % 4) (by omega) (by rw [hw4]; omega)
          refine x_ixL (rdW sB) ewd ?_
          have dB : B1 d = some (.dK kv) := t1 _ _ (by simpa using npd) dA
          have hkl : kv.length = ds.length := Paired.length kA
          refine ⟨d, _, rfl, DPut.k (k := Sum.inr wd) dB (lt_size (by omega)), ?_⟩
          have le1 : Le (hid (d :: S) A) (hid (d :: S) (upd B1 d (.dK (putK kv (Sum.inr wd) (.str to))))) := ((t1.sub subD).trans (SX.mut List.mem_cons_self)).le
          refine ⟨?_, ?_, _, putA ds wd to, _, _, upd_same, ?_, ?_, fun _ => putA_pos, putA_nodup nA, fun q hq => ?_, rfl⟩
          · intro b o nb hb
            have hbd : b ≠ d := fun e => by rw [e, hd0] at hb; cases hb
            rw [upd_ne hbd]
            exact sB b o nb hb
          · exact q1.sx (SX.mut (S := [d]) List.mem_cons_self) (by simpa using Ne.symm npd)
          · exact KVs.put rfl (KVs.le mono_S le1 kA) nA
          · have := putA_len (s := wd) (a := to) (l := ds)
            omega
          · rcases putA_mem hq with hq | rfl
            · exact allA q hq
            · exact ⟨(hwn _ mwd).2, (hwn _ mwd).1, hnn _ mto, mto⟩
        · rintro σ A ⟨sA, pA, kv, ds, a, b, dA, kA, lA, lA1, nA, allA, rfl⟩
          walk_at "rd"
          refine ⟨Nat.le_of_ble_eq_true rfl, fun t ht => ?_⟩
          have tS : t ∉ S := fun mem => sx_there sA pA.there hS t mem ht
          refine k _ _ (.hand hand ds) (sA.trans (SX.new ht)) (pA.sx (SX.new (S := []) ht) List.not_mem_nil) ⟨t, .ref d, rfl, sqT ?_, d, kv, rfl, .inl ?_, ?_⟩ ⟨h0, h1, lA1 (by omega), by omega, nA, fun q hq => (allA q hq).2⟩ (fun e => absurd e gne) (stl_hand allA)
          · rw [hid_of tS, upd_same]
          · rw [hid_of ndS, upd_ne (ne_of_none dA ht)]
            exact dA
          · exact KVs.le mono_S ((le_hid2 fun b hb => List.mem_cons_of_mem _ hb).trans (SX.new ht).le) kA
      · rw [decide_eq_false hk5]
        walk_at "rd"
        refine x_rng1 (by omega) (by omega) ?_
        refine for_it walk_rng (fun i σ A => SX [p] H A ∧ Drw A p ∧ ∃ (kv : List (Key × V)) (ds : List (Str × (Str × Int))) (a b : Option V), A d = some (.dK kv) ∧ KVs (rP K rS rI) (hid (d :: S) A) kv ds ∧ ds.length ≤ i ∧ (0 < i → 1 ≤ ds.length) ∧ (ds.map (·.1)).Nodup ∧
          (∀ q ∈ ds, q.1.length ≤ 4 ∧ nameB q.1 = true ∧ nameB q.2.1 = true ∧ q.2.1 ∈ names ∧ 1 ≤ q.2.2 ∧ q.2.2 ≤ 9) ∧
          σ = [some (.ref p), some (.ref nl), some (.int g), some (.int hands), some (.ref wl), some (.bl rings), some (.int sort), some (.int m), some (.int shift), some (.ref d), none, a, b])
          ⟨sH3.trans (SX.new hd), p3.sx (SX.new (S := []) hd) List.not_mem_nil, [], [], none, none, upd_same, .nil, Nat.le_refl _, fun h => absurd h (Nat.lt_irrefl _), List.nodup_nil, (fun _ h => nomatch h), rfl⟩ (fun _ _ _ _ _ => trivial) ?_ ?_
        · rintro i x σ A0 A hi ⟨sA, pA, kv, ds, a, b, dA, kA, lA, lA1, nA, allA, rfl⟩ ⟨rfl, rfl⟩
          walk_at "rd"
          refine ⟨p, 3, rfl, pA, by decide, by decide, fun wt B0 w0 w1 t0 q0 => ?_⟩
          walk_at "rd"
          refine ⟨p, nl, g, rings, names, rfl, q0, rdP (sA.trans t0), hn2, hg0, by omega, fun to B1 mto t1 q1 => ?_⟩
          walk_at "rd"
          refine ⟨Nat.le_of_ble_eq_true rfl, fun t ht => ?_⟩
          have tB : SX [p] A (upd B1 t (.tup [.str to, .int (1 + wt)])) := (t0.trans t1).trans (SX.new ht)
          have sB := sA.trans tB
          walk_at "rd"
          refine x_I (by decide) ?_
          obtain ⟨wd, ewd, mwd⟩ := at_strs (ns := wds) (r := ((i : Int) + shift) % 4) (by omega) (by rw [hw4]; omega)
          refine x_ixL (rdW sB) ewd ?_
          have dB : (upd B1 t (.tup [.str to, .int (1 + wt)])) d = some (.dK kv) := tB _ _ (by simpa using npd) dA
          have hkl : kv.length = ds.length := Paired.length kA
          refine ⟨d, _, rfl, DPut.k (k := Sum.inr wd) dB (lt_size (by omega)), ?_⟩
          have le1 : Le (hid (d :: S) A) (hid (d :: S) (upd (upd B1 t (.tup [.str to, .int (1 + wt)])) d (.dK (putK kv (Sum.inr wd) (.ref t))))) := ((tB.sub subD).trans (SX.mut List.mem_cons_self)).le
          have d1 : B1 d ≠ none := by rw [(t0.trans t1) _ _ (by simpa using npd) dA]; exact fun z => nomatch z
          have tS : t ∉ d :: S := fun mem => hid_nn (H := B1) (sx_there (t0.trans t1) q1.there (sx_there sA pA.there hS)) d1 t mem ht
          have td : t ≠ d := fun e => tS (by rw [e]; exact List.mem_cons_self)
          refine ⟨?_, ?_, _, putA ds wd (to, 1 + wt), _, _, upd_same, ?_, ?_, fun _ => putA_pos, putA_nodup nA, fun q hq => ?_, rfl⟩
          · intro b o nb hb
            have hbd : b ≠ d := fun e => by rw [e, hd0] at hb; cases hb
            rw [upd_ne hbd]
            exact sB b o nb hb
          · exact (q1.sx (SX.new (S := []) ht) List.not_mem_nil).sx (SX.mut (S := [d]) List.mem_cons_self) (by simpa using Ne.symm npd)
          · refine KVs.put ⟨t, .str to, .int (1 + wt), rfl, sqT ?_, rfl, rfl⟩ (KVs.le (mono_P mono_S mono_I) le1 kA) nA
            rw [hid_of tS, upd_ne td, upd_same]
          · have := putA_len (s := wd) (a := (to, 1 + wt)) (l := ds)
            omega
          · rcases putA_mem hq with hq | rfl
            · exact allA q hq
            · exact ⟨(hwn _ mwd).2, (hwn _ mwd).1, hnn _ mto, mto, by show 1 ≤ 1 + wt; omega, by show 1 + wt ≤ 9; omega⟩
        · rintro σ A ⟨sA, pA, kv, ds, a, b, dA, kA, lA, lA1, nA, allA, rfl⟩
          walk_at "rd"
          refine ⟨Nat.le_of_ble_eq_true rfl, fun t ht => ?_⟩
          have tS : t ∉ S := fun mem => sx_there sA pA.there hS t mem ht
          refine k _ _ (.chance ds) (sA.trans (SX.new ht)) (pA.sx (SX.new (S := []) ht) List.not_mem_nil) ⟨t, .ref d, rfl, sqT ?_, d, kv, rfl, .inl ?_, ?_⟩ ⟨lA1 (by omega), by omega, nA, fun q hq => (allA q hq).2⟩ (fun e => absurd e gne) (stl_chance allA)
          · rw [hid_of tS, upd_same]
          · rw [hid_of ndS, upd_ne (ne_of_none dA ht)]
            exact dA
          · exact KVs.le (mono_P mono_S mono_I) ((le_hid2 fun b hb => List.mem_cons_of_mem _ hb).trans (SX.new ht).le) kA
  · walk_at "rd"
    intro d hd
    walk_at "rd"
    have npd : d ≠ p := fun e => p3.there (e ▸ hd)
    have hd0 : H d = none := sH3.free hd (by simpa using npd)
    have ndS : d ∉ S := fun m => hS d m hd0
    have subD : ∀ b ∈ [p], b ∈ d :: S := fun b hb => List.mem_cons_of_mem _ (subS b hb)
    by_cases hk5 : sort < 5
    · rw [decide_eq_true hk5]
      walk_at "rd"
      refine ⟨p, hands, rfl, p3.sx (SX.new (S := []) hd) List.not_mem_nil, by omega, by omega, fun hand H4 h0 h1 s4 p4 => ?_⟩
      walk_at "rd"
      have sH4 : SX [p] H H4 := (sH3.trans (SX.new hd)).trans s4
      refine x_rng1 (by omega) (by omega) ?_
      refine for_it walk_rng (fun i σ A => SX [p] H A ∧ Drw A p ∧ ∃ (kv : List (Key × V)) (ds : List (Str × Str)) (a b : Option V), A d = some (.dK kv) ∧ KVs rS (hid (d :: S) A) kv ds ∧ ds.length ≤ i ∧ (0 < i → 1 ≤ ds.length) ∧ (ds.map (·.1)).Nodup ∧
        (∀ q ∈ ds, q.1.length ≤ 4 ∧ nameB q.1 = true ∧ nameB q.2 = true ∧ q.2 ∈ names) ∧
        σ = [some (.ref p), some (.ref nl), some (.int g), some (.int hands), some (.ref wl), some (.bl rings), some (.int sort), some (.int m), some (.int shift), some (.ref d), some (.int hand), a, b])
        ⟨sH4, p4, [], [], none, none, s4 _ _ (by simpa using npd) upd_same, .nil, Nat.le_refl _, fun h => absurd h (Nat.lt_irrefl _), List.nodup_nil, (fun _ h => nomatch h), rfl⟩ (fun _ _ _ _ _ => trivial) ?_ ?_
      · rintro i x σ A0 A hi ⟨sA, pA, kv, ds, a, b, dA, kA, lA, lA1, nA, allA, rfl⟩ ⟨rfl, rfl⟩
        walk_at "rd"
        refine ⟨p, nl, g, rings, names, rfl, pA, rdP sA, hn2, hg0, by omega, fun to B1 mto t1 q1 => ?_⟩
        walk_at "rd"
        have sB := sA.trans t1
        refine x_I (by decide) ?_
        obtain ⟨wd, ewd, mwd⟩ := at_strs (ns := wds) (r := ((i : Int) + shift) % 4) (by omega) (by rw [hw4]; omega)
        refine x_ixL (rdW sB) ewd ?_
        have dB : B1 d = some (.dK kv) := t1 _ _ (by simpa using npd) dA
        have hkl : kv.length = ds.length := Paired.length kA
        refine ⟨d, _, rfl, DPut.k (k := Sum.inr wd) dB (lt_size (by omega)), ?_⟩
        have le1 : Le (hid (d :: S) A) (hid (d :: S) (upd B1 d (.dK (putK kv (Sum.inr wd) (.str to))))) := ((t1.sub subD).trans (SX.mut List.mem_cons_self)).le
        refine ⟨?_, ?_, _, putA ds wd to, _, _, upd_same, ?_, ?_, fun _ => putA_pos, putA_nodup nA, fun q hq => ?_, rfl⟩
        · intro b o nb hb
          have hbd : b ≠ d := fun e => by rw [e, hd0] at hb; cases hb
          rw [upd_ne hbd]
          exact sB b o nb hb
        · exact q1.sx (SX.mut (S := [d]) List.mem_cons_self) (by simpa using Ne.symm npd)
        · exact KVs.put rfl (KVs.le mono_S le1 kA) nA
        · have := putA_len (s := wd) (a := to) (l := ds)
          omega
        · rcases putA_mem hq with hq | rfl
          · exact allA q hq
          · exact ⟨(hwn _ mwd).2, (hwn _ mwd).1, hnn _ mto, mto⟩
      · rintro σ A ⟨sA, pA, kv, ds, a, b, dA, kA, lA, lA1, nA, allA, rfl⟩
        walk_at "rd"
        refine ⟨Nat.le_of_ble_eq_true rfl, fun t ht => ?_⟩
        have tS : t ∉ S := fun mem => sx_there sA pA.there hS t mem ht
        refine k _ _ (.hand hand ds) (sA.trans (SX.new ht)) (pA.sx (SX.new (S := []) ht) List.not_mem_nil) ⟨t, .ref d, rfl, sqT ?_, d, kv, rfl, .inl ?_, ?_⟩ ⟨h0, h1, lA1 (by omega), by omega, nA, fun q hq => (allA q hq).2⟩ (fun e => absurd e gne) (stl_hand allA)
        · rw [hid_of tS, upd_same]
        · rw [hid_of ndS, upd_ne (ne_of_none dA ht)]
          exact dA
        · exact KVs.le mono_S ((le_hid2 fun b hb => List.mem_cons_of_mem _ hb).trans (SX.new ht).le) kA
    · rw [decide_eq_false hk5]
      walk_at "rd"
      refine x_rng1 (by omega) (by omega) ?_
      refine for_it walk_rng (fun i σ A => SX [p] H A ∧ Drw A p ∧ ∃ (kv : List (Key × V)) (ds : List (Str × (Str × Int))) (a b : Option V), A d = some (.dK kv) ∧ KVs (rP K rS rI) (hid (d :: S) A) kv ds ∧ ds.length ≤ i ∧ (0 < i → 1 ≤ ds.length) ∧ (ds.map (·.1)).Nodup ∧
        (∀ q ∈ ds, q.1.length ≤ 4 ∧ nameB q.1 = true ∧ nameB q.2.1 = true ∧ q.2.1 ∈ names ∧ 1 ≤ q.2.2 ∧ q.2.2 ≤ 9) ∧
        σ = [some (.ref p), some (.ref nl), some (.int g), some (.int hands), some (.ref wl), some (.bl rings), some (.int sort), some (.int m), some (.int shift), some (.ref d), none, a, b])
        ⟨sH3.trans (SX.new hd), p3.sx (SX.new (S := []) hd) List.not_mem_nil, [], [], none, none, upd_same, .nil, Nat.le_refl _, fun h => absurd h (Nat.lt_irrefl _), List.nodup_nil, (fun _ h => nomatch h), rfl⟩ (fun _ _ _ _ _ => trivial) ?_ ?_
      · rintro i x σ A0 A hi ⟨sA, pA, kv, ds, a, b, dA, kA, lA, lA1, nA, allA, rfl⟩ ⟨rfl, rfl⟩
        walk_at "rd"
        refine ⟨p, 3, rfl, pA, by decide, by decide, fun wt B0 w0 w1 t0 q0 => ?_⟩
        walk_at "rd"
        refine ⟨p, nl, g, rings, names, rfl, q0, rdP (sA.trans t0), hn2, hg0, by omega, fun to B1 mto t1 q1 => ?_⟩
        walk_at "rd"
        refine ⟨Nat.le_of_ble_eq_true rfl, fun t ht => ?_⟩
        have tB : SX [p] A (upd B1 t (.tup [.str to, .int (1 + wt)])) := (t0.trans t1).trans (SX.new ht)
        have sB := sA.trans tB
        walk_at "rd"
        refine x_I (by decide) ?_
        obtain ⟨wd, ewd, mwd⟩ := at_strs (ns := wds) (r := ((i : Int) + shift) % 4) (by omega) (by rw [hw4]; omega)
        refine x_ixL (rdW sB) ewd ?_
        have dB : (upd B1 t (.tup [.str to, .int (1 + wt)])) d = some (.dK kv) := tB _ _ (by simpa using npd) dA
        have hkl : kv.length = ds.length := Paired.length kA
        refine ⟨d, _, rfl, DPut.k (k := Sum.inr wd) dB (lt_size (by omega)), ?_⟩
        have le1 : Le (hid (d :: S) A) (hid (d :: S) (upd (upd B1 t (.tup [.str to, .int (1 + wt)])) d (.dK (putK kv (Sum.inr wd) (.ref t))))) := ((tB.sub subD).trans (SX.mut List.mem_cons_self)).le
        have d1 : B1 d ≠ none := by rw [(t0.trans t1) _ _ (by simpa using npd) dA]; exact fun z => nomatch z
        have tS : t ∉ d :: S := fun mem => hid_nn (H := B1) (sx_there (t0.trans t1) q1.there (sx_there sA pA.there hS)) d1 t mem ht
        have td : t ≠ d := fun e => tS (by rw [e]; exact List.mem_cons_self)
        refine ⟨?_, ?_, _, putA ds wd (to, 1 + wt), _, _, upd_same, ?_, ?_, fun _ => putA_pos, putA_nodup nA, fun q hq => ?_, rfl⟩
        · intro b o nb hb
          have hbd : b ≠ d := fun e => by rw [e, hd0] at hb; cases hb
          rw [upd_ne hbd]
          exact sB b o nb hb
        · exact (q1.sx (SX.new (S := []) ht) List.not_mem_nil).sx (SX.mut (S := [d]) List.mem_cons_self) (by simpa using Ne.symm npd)
        · refine KVs.put ⟨t, .str to, .int (1 + wt), rfl, sqT ?_, rfl, rfl⟩ (KVs.le (mono_P mono_S mono_I) le1 kA) nA
          rw [hid_of tS, upd_ne td, upd_same]
        · have := putA_len (s := wd) (a := (to, 1 + wt)) (l := ds)
          omega
        · rcases putA_mem hq with hq | rfl
          · exact allA q hq
          · exact ⟨(hwn _ mwd).2, (hwn _ mwd).1, hnn _ mto, mto, by show 1 ≤ 1 + wt; omega, by show 1 + wt ≤ 9; omega⟩
      · rintro σ A ⟨sA, pA, kv, ds, a, b, dA, kA, lA, lA1, nA, allA, rfl⟩
        walk_at "rd"
        refine ⟨Nat.le_of_ble_eq_true rfl, fun t ht => ?_⟩
        have tS : t ∉ S := fun mem => sx_there sA pA.there hS t mem ht
        refine k _ _ (.chance ds) (sA.trans (SX.new ht)) (pA.sx (SX.new (S := []) ht) List.not_mem_nil) ⟨t, .ref d, rfl, sqT ?_, d, kv, rfl, .inl ?_, ?_⟩ ⟨lA1 (by omega), by omega, nA, fun q hq => (allA q hq).2⟩ (fun e => absurd e gne) (stl_chance allA)
        · rw [hid_of tS, upd_same]
        · rw [hid_of ndS, upd_ne (ne_of_none dA ht)]
          exact dA
        · exact KVs.le (mono_P mono_S mono_I) ((le_hid2 fun b hb => List.mem_cons_of_mem _ hb).trans (SX.new ht).le) kA
end
end M

namespace M
open PySem PySem.Spec PyProof.Rows L2
theorem putA_has {α : Type} {s : Str} {a : α} : ∀ {l : List (Str × α)}, (s, a) ∈ putA l s a
  | [] => List.mem_singleton_self _
  | (k, b) :: r => by
    unfold putA
    split
    · rename_i h
      rw [h]
      exact List.mem_cons_self
    · exact List.mem_cons_of_mem _ putA_has
section
variable {P : Program} {w : World} {K : PySem.W.Frag} {mg : Str → Option Value} {base : Heap}
def sp_law_stands (T : Tx K mg) : Sp := fun vs H Q _ => ∃ (p nl : Addr) (hands : Int) (rl : Bool) (names : List Str) (S : List Addr), vs = [.ref p, .ref nl, .int hands, .bl rl] ∧ Drw H p ∧ p ∈ S ∧ (∀ b ∈ S, H b ≠ none) ∧
  SqL K (hid S H) nl (names.map V.str) ∧ names.length ≤ 1000 ∧ (∀ s ∈ names, nameB s = true) ∧ 1 ≤ hands ∧ hands ≤ 4 ∧
  ∀ d H' sts, H d = none → SX [p] H H' → Drw H' p → rD (rStand K) (hid S H') (.ref d) sts → StandsOk hands names sts → (1 ≤ names.length → ∃ z ∈ sts, z.2 = .fin) → (∀ z ∈ sts, StL z.2) → (∃ kv, H' d = some (.dK kv) ∧ KVs (rStand K) (hid (d :: S) H') kv sts) → Q (.ref d) H'
theorem ok_law_stands (T : Tx K mg) : FnOk P w K mg base CX0 4 T.law_stands.f T.law_stands.fd P_law_stands (sp_law_stands T) := by
  refine T.law_stands.F.ok sc_law_stands (fun vs H Q E h => ?_) (fun cdv A outer s H vs Q E hr h => ?_)
  · obtain ⟨p, nl, hands, rl, names, S, rfl, hp, pS, hS, hnl, hn2, hnn, hh1, hh4, k⟩ := h
    rfl
  have hu := hu_of hr
  have nd := sc_law_stands.nd
  obtain ⟨p, nl, hands, rl, names, S, rfl, hp, pS, hS, hnl, hn2, hnn, hh1, hh4, k⟩ := h
  refine ⟨_, (pss_cons (ps_set (i := 4) nd rfl (Or.inl rfl) (pe_call (ok_law_menu (P := P) (w := w) T) (hr.mono (by decide)) (by rfl) T.law_menu.g T.law_menu.F.kp T.law_menu.B .nil pass0 (pa_cons (pv 0) pa_nil)))
      (pss_cons (ps_set (i := 5) nd rfl (Or.inl rfl) pe_dnewK)
      (pss_cons (ps_for PassesOwn.never rfl (pi_range1 (by rfl) T.b_range (pa_cons (pe_callB (w_len (K := K) rfl) (by rfl) T.b_len (by decide +kernel) (pa_cons (pv 1) pa_nil)) pa_nil)) (pg_name (i := 6) nd rfl (Or.inl rfl)) (pss_one (ps_dput hu (pv 5) (pe_ix (w_ixL (K := K) rfl) (pv 1) (pv 6) (fun _ _ => rfl)) (pe_call (ok_law_stand (P := P) (w := w) T) (hr.mono (by decide)) (by rfl) T.law_stand.g T.law_stand.F.kp T.law_stand.B .nil pass0 (pa_cons (pv 0) (pa_cons (pv 1) (pa_cons (pv 6) (pa_cons (pv 2) (pa_cons (pv 4) (pa_cons (pv 3) pa_nil))))))) rfl)))
      (pss_one (ps_ret (pv 5)))))), ?_⟩
  refine x_start (σ' := [some _, some _, some _, some _, none, none, none]) rfl ?_
  try simp only [cx_n, cx_K, cx_w, cx_P]
  have subS : ∀ b ∈ [p], b ∈ S := fun b hb => by cases List.mem_singleton.mp hb; exact pS
  walk_at "rd"
  refine ⟨p, rfl, hp, fun wl wds H1 hwl s1 p1 ewl lw4 hwn => ?_⟩
  walk_at "rd"
  intro d hd
  walk_at "rd"
  have npd : d ≠ p := fun e => p1.there (e ▸ hd)
  have hd0 : H d = none := s1.free hd (by simpa using npd)
  have ndS : d ∉ S := fun m => hS d m hd0
  have nwp : wl ≠ p := fun e => hp.there (e ▸ hwl)
  have nwS : wl ∉ S := fun m => hS wl m hwl
  have ndw : d ≠ wl := Ne.symm (ne_of_none ewl hd)
  have rdN : ∀ {A : Hp}, SX [p] H A → SqL K A nl (names.map V.str) := fun s => (s.sub subS).leH.l hnl
  have subD : ∀ b ∈ [p], b ∈ d :: S := fun b hb => List.mem_cons_of_mem _ (subS b hb)
  have s1d : SX [p] H (upd H1 d (.dK [])) := s1.trans (SX.new hd)
  refine x_lenL' (rdN s1d) ?_
  walk_at "rd"
  rw [List.length_map]
  refine x_rng1 (by omega) (by omega) ?_
  refine for_it walk_rng (fun i σ A => SX [p] H A ∧ Drw A p ∧ ∃ (kv : List (Key × V)) (sts : List (Str × Stand)) (a : Option V), A d = some (.dK kv) ∧ A wl = some (.lst (wds.map V.str)) ∧ KVs (rStand K) (hid (d :: S) A) kv sts ∧ sts.length ≤ i ∧ (sts.map (·.1)).Nodup ∧
      (∀ q ∈ sts, StandOk hands names q.2 ∧ StL q.2) ∧ (∀ n, n ∈ sts.map (·.1) ↔ n ∈ names.take i) ∧ (1 ≤ names.length → i = names.length → ∃ z ∈ sts, z.2 = .fin) ∧
      σ = [some (.ref p), some (.ref nl), some (.int hands), some (.bl rl), some (.ref wl), some (.ref d), a])
      ⟨s1d, p1.sx (SX.new (S := []) hd) List.not_mem_nil, [], [], none, upd_same, by rw [upd_ne (Ne.symm ndw)]; exact ewl, .nil, Nat.le_refl _, List.nodup_nil, (fun _ h => nomatch h), (fun n => ⟨(fun h => nomatch h), (fun h => nomatch h)⟩), (fun a b => by omega), rfl⟩ (fun _ _ _ _ _ => trivial) ?_ ?_
  · rintro i x σ A0 A hi ⟨sA, pA, kv, sts, a, dA, wA, kA, lA, nA, allA, keyA, finA, rfl⟩ ⟨rfl, rfl⟩
    have hi2 : i < names.length := by omega
    obtain ⟨nm, hnm⟩ : ∃ nm, names[i]? = some nm := ⟨names[i], by simp [hi2]⟩
    have anm : atI (names.map V.str) (i : Int) = some (.str nm) := atI_nat (by rw [List.getElem?_map, hnm]; rfl)
    have thereA := sx_there sA pA.there hS
    have hkl : kv.length = sts.length := Paired.length kA
    have ndA : A d ≠ none := by rw [dA]; exact fun z => nomatch z
    walk_at "rd"
    refine ⟨p, nl, wl, i, hands, rl, names, wds, d :: S, rfl, pA, List.mem_cons_of_mem _ pS, hid_nn thereA ndA, ?_, ?_, by omega, by omega, by omega, hnn, lw4, hwn, hh1, hh4, fun v B st tB pB rv sok fn sl => ?_⟩
    · refine (le_hidS (sA.sub subS) fun b hb => ?_).l hnl
      rcases List.mem_cons.mp hb with rfl | hb
      · exact .inr hd0
      · exact .inl hb
    · refine sqL ?_
      rw [hid_of (by simp only [List.mem_cons, not_or]; exact ⟨Ne.symm ndw, nwS⟩)]
      exact wA
    walk_at "rd"
    refine x_ixL (rdN (sA.trans tB)) anm ?_
    have dB : B d = some (.dK kv) := tB _ _ (by simpa using npd) dA
    refine ⟨d, _, rfl, DPut.k (k := Sum.inr nm) dB (lt_size (by omega)), ?_⟩
    have le1 : Le (hid (d :: S) A) (hid (d :: S) (upd B d (.dK (putK kv (Sum.inr nm) v)))) := ((tB.sub subD).trans (SX.mut List.mem_cons_self)).le
    refine ⟨?_, pB.sx (SX.mut (S := [d]) List.mem_cons_self) (by simpa using Ne.symm npd), _, putA sts nm st, _, upd_same, ?_, ?_, ?_, putA_nodup nA, fun q hq => ?_, fun n => ?_, fun _ e => ?_, rfl⟩
    · intro b o nb hb
      have hbd : b ≠ d := fun e => by rw [e, hd0] at hb; cases hb
      rw [upd_ne hbd]
      exact (sA.trans tB) b o nb hb
    · rw [upd_ne (Ne.symm ndw)]
      exact tB _ _ (by simpa using nwp) wA
    · exact KVs.put (mono_stand K _ _ _ _ (SX.mut List.mem_cons_self).le rv) (KVs.le (mono_stand K) le1 kA) nA
    · have := putA_len (s := nm) (a := st) (l := sts)
      omega
    · rcases putA_mem hq with hq | rfl
      · exact allA q hq
      · exact ⟨sok, sl⟩
    · rw [take_succ_of hnm, List.mem_append, List.mem_singleton]
      constructor
      · intro h
        rcases putA_key_of h with h | h
        · exact .inl ((keyA n).mp h)
        · exact .inr h
      · rintro (h | rfl)
        · exact putA_key_mono ((keyA n).mpr h)
        · exact putA_key_in
    · exact ⟨_, putA_has, fn (by omega)⟩
  · rintro σ A ⟨sA, pA, kv, sts, a, dA, wA, kA, lA, nA, allA, keyA, finA, rfl⟩
    walk_at "rd"
    have e : (names.length : Int).toNat = names.length := by omega
    rw [e] at lA keyA finA
    rw [List.take_length] at keyA
    refine k d A sts hd0 sA pA ⟨d, kv, rfl, .inl (by rw [hid_of ndS]; exact dA), KVs.le (mono_stand K) (le_hid2 fun b hb => List.mem_cons_of_mem _ hb) kA⟩ ⟨nA, keyA, fun q hq => (allA q hq).1, lA⟩ (fun h => finA h rfl) (fun q hq => (allA q hq).2) ⟨kv, dA, kA⟩
end
end M

namespace M
open PySem PySem.Spec PyProof.Rows L2
section
variable {P : Program} {w : World} {K : PySem.W.Frag} {mg : Str → Option Value} {base : Heap}
def sp_law_build (T : Tx K mg) : Sp := fun vs H Q _ => ∃ (a : Addr) (ns : List Int), vs = [.ref a] ∧ SqL K H a (ns.map V.int) ∧ ns.length ≤ 10000 ∧
  ∀ (q : Addr) (H' : Hp) (hands : Int) (nl : Addr) (names : List Str) (d : Addr) (sts : List (Str × Stand)) (n0 : Str), H q = none → SX [] H H' → H' q = some (.lst [.int hands, .ref nl, .ref d]) → H' nl = some (.lst (names.map V.str)) → H nl = none → rD (rStand K) H' (.ref d) sts → WorkOk hands n0 sts → names[0]? = some n0 → names.length ≤ 8 →
    (∀ n, n ∈ sts.map (·.1) ↔ n ∈ names) → (∃ z ∈ sts, z.2 = .fin) → (∀ n ∈ names, n ≠ "zz") → (∀ z ∈ sts, StL z.2) → (∃ kv, H' d = some (.dK kv) ∧ KVs (rStand K) (hid [d] H') kv sts) → Q (.ref q) H'
theorem ok_law_build (T : Tx K mg) : FnOk P w K mg base CX0 5 T.law_build.f T.law_build.fd P_law_build (sp_law_build T) := by
  refine T.law_build.F.ok sc_law_build (fun vs H Q E h => ?_) (fun cdv A outer s H vs Q E hr h => ?_)
  · obtain ⟨a, ns, rfl, ha, hlen, k⟩ := h
    rfl
  have hu := hu_of hr
  have nd := sc_law_build.nd
  obtain ⟨a, ns, rfl, ha, hlen, k⟩ := h
  refine ⟨_, (pss_cons (ps_set (i := 1) nd rfl (Or.inl rfl) (pe_call (ok_law_open (P := P) (w := w) T) (hr.mono (by decide)) (by rfl) T.law_open.g T.law_open.F.kp T.law_open.B .nil pass0 (pa_cons (pv 0) (pa_cons pe_int pa_nil))))
      (pss_cons (ps_set (i := 2) nd rfl (Or.inl rfl) (pe_ix (w_ixL (K := K) rfl) (pe_lst (pa_cons pe_int (pa_cons pe_int (pa_cons pe_int (pa_cons pe_int (pa_cons pe_int (pa_cons pe_int (pa_cons pe_int (pa_cons pe_int pa_nil))))))))) (pe_call (ok_law_draw (P := P) (w := w) T) (hr.mono (by decide)) (by rfl) T.law_draw.g T.law_draw.F.kp T.law_draw.B .nil pass0 (pa_cons (pv 1) (pa_cons pe_int pa_nil))) (fun _ _ => rfl)))
      (pss_cons (ps_set (i := 3) nd rfl (Or.inl rfl) (pe_ix (w_ixL (K := K) rfl) (pe_lst (pa_cons pe_int (pa_cons pe_int (pa_cons pe_int (pa_cons pe_int (pa_cons pe_int (pa_cons pe_int (pa_cons pe_int (pa_cons pe_int (pa_cons pe_int (pa_cons pe_int (pa_cons pe_int (pa_cons pe_int (pa_cons pe_int (pa_cons pe_int (pa_cons pe_int (pa_cons pe_int pa_nil))))))))))))))))) (pe_call (ok_law_draw (P := P) (w := w) T) (hr.mono (by decide)) (by rfl) T.law_draw.g T.law_draw.F.kp T.law_draw.B .nil pass0 (pa_cons (pv 1) (pa_cons pe_int pa_nil))) (fun _ _ => rfl)))
      (pss_cons (ps_set (i := 4) nd rfl (Or.inl rfl) (pe_cmpR op_eq (pe_call (ok_law_draw (P := P) (w := w) T) (hr.mono (by decide)) (by rfl) T.law_draw.g T.law_draw.F.kp T.law_draw.B .nil pass0 (pa_cons (pv 1) (pa_cons pe_int pa_nil))) pe_int (nomark _)))
      (pss_cons (ps_set (i := 5) nd rfl (Or.inl rfl) (pe_call (ok_law_names (P := P) (w := w) T) (hr.mono (by decide)) (by rfl) T.law_names.g T.law_names.F.kp T.law_names.B .nil pass0 (pa_cons (pv 1) (pa_cons (pv 3) pa_nil))))
      (pss_one (ps_ret (pe_lst (pa_cons (pv 2) (pa_cons (pv 5) (pa_cons (pe_call (ok_law_stands (P := P) (w := w) T) (hr.mono (by decide)) (by rfl) T.law_stands.g T.law_stands.F.kp T.law_stands.B .nil pass0 (pa_cons (pv 1) (pa_cons (pv 5) (pa_cons (pv 2) (pa_cons (pv 4) pa_nil))))) pa_nil))))))))))), ?_⟩
  refine x_start (σ' := [some _, none, none, none, none, none]) rfl ?_
  try simp only [cx_n, cx_K, cx_w, cx_P]
  walk_at "rd"
  refine ⟨a, ns, 1, rfl, ha, hlen, by decide, by decide, fun p H1 hp s1 p1 => ?_⟩
  walk_at "rd"
  refine ⟨Nat.le_of_ble_eq_true rfl, fun l0 hl0 => ?_⟩
  walk_at "rd"
  have npl : l0 ≠ p := fun e => p1.there (e ▸ hl0)
  refine ⟨p, 8, rfl, p1.sx (SX.new (S := []) hl0) List.not_mem_nil, by decide, by decide, fun r H2 r0 r1 s2 p2 => ?_⟩
  obtain ⟨hands, em, hm⟩ := at_ints (ns := [1, 2, 3, 2, 3, 4, 2, 1]) r0 r1
  have hm2 : 1 ≤ hands ∧ hands ≤ 4 := by simp at hm; omega
  refine x_ixL (sqL (s2 _ _ (by simpa using npl) upd_same)) em ?_
  walk_at "rd"
  have s12 : SX [p] H H2 := (nil_sx s1).trans ((SX.new hl0).trans s2)
  refine ⟨Nat.le_of_ble_eq_true rfl, fun l1 hl1 => ?_⟩
  walk_at "rd"
  have npl1 : l1 ≠ p := fun e => p2.there (e ▸ hl1)
  refine ⟨p, 16, rfl, p2.sx (SX.new (S := []) hl1) List.not_mem_nil, by decide, by decide, fun r H3 r0 r1 s3 p3 => ?_⟩
  obtain ⟨many, em2, hmm⟩ := at_ints (ns := [4, 5, 6, 7, 8, 5, 6, 3, 4, 2, 1, 7, 8, 6, 5, 4]) r0 r1
  have hm3 : 1 ≤ many ∧ many ≤ 8 := by simp at hmm; omega
  refine x_ixL (sqL (s3 _ _ (by simpa using npl1) upd_same)) em2 ?_
  walk_at "rd"
  have s13 : SX [p] H H3 := s12.trans ((SX.new hl1).trans s3)
  refine ⟨p, 2, rfl, p3, by decide, by decide, fun r4 H4 r40 r41 s4 p4 => ?_⟩
  walk_at "rd"
  refine ⟨p, many, rfl, p4, by omega, by omega, fun nl names H5 hnl s5 p5 enl lnl nn2 => ?_⟩
  walk_at "rd"
  have nn : ∀ s ∈ names, nameB s = true := fun s h => (nn2 s h).1
  have npn : nl ≠ p := fun e => p4.there (e ▸ hnl)
  have nnS : nl ∉ [p] := by simpa using npn
  refine ⟨p, nl, hands, _, names, [p], rfl, p5, List.mem_cons_self, (by intro b hb; cases List.mem_singleton.mp hb; exact p5.there), sqL (by rw [hid_of nnS]; exact enl), by omega, nn, hm2.1, hm2.2, fun d H6 sts hd s6 p6 rd6 so fn sl ⟨kvD, dkD, kkD⟩ => ?_⟩
  walk_at "rd"
  refine ⟨Nat.le_of_ble_eq_true rfl, fun q hq => ?_⟩
  have sAll : SX [p] H H6 := ((s13.trans s4).trans s5).trans s6
  have nqp : q ≠ p := fun e => p6.there (e ▸ hq)
  have hpn : ∀ b ∈ [p], H b = none := fun b hb => by cases List.mem_singleton.mp hb; exact hp
  obtain ⟨n0, hn0⟩ : ∃ n0, names[0]? = some n0 := ⟨names[0]'(by omega), by simp⟩
  have enl6 := s6 _ _ nnS enl
  have nqn : nl ≠ q := ne_of_none enl6 hq
  refine k q _ hands nl names d sts n0 (sAll.free hq (by simpa using nqp)) (sx_nil_of (sAll.trans (SX.new hq)) hpn) upd_same (by rw [upd_ne nqn]; exact enl6) ((s13.trans s4).free hnl nnS)
    (mono_D (mono_stand K) _ _ _ _ ((SX.new (S := [p]) hq).leH) rd6) ⟨hm2, ⟨?_, by have := so.len; omega⟩, so.nd, fun z hz => ⟨nn _ ((so.keys _).mp (List.mem_map.mpr ⟨z, hz, rfl⟩)), (so.all z hz).sub fun x hx => (so.keys x).mpr hx⟩, (so.keys _).mpr (getMem hn0)⟩ hn0 (by omega) so.keys (fn (by omega)) (fun n h => (nn2 n h).2) sl ⟨kvD, by rw [upd_ne (ne_of_none dkD hq)]; exact dkD, KVs.le (mono_stand K) ((le_hid2 (by simp)).trans (SX.new (S := [d]) hq).le) kkD⟩
  rcases Nat.eq_zero_or_pos sts.length with h | h
  · have := (so.keys n0).mpr (getMem hn0)
    rw [List.eq_nil_of_length_eq_zero h] at this
    cases this
  · exact h
end
end M

namespace M
open PySem PySem.Spec PyProof.Rows L2
theorem nodup_sub : ∀ {l m : List Str}, l.Nodup → (∀ x ∈ l, x ∈ m) → l.length ≤ m.length
  | [], _, _, _ => Nat.zero_le _
  | a :: l, m, hn, hs => by
    obtain ⟨h1, h2⟩ := List.nodup_cons.mp hn
    have ha := hs a List.mem_cons_self
    have := nodup_sub (m := m.erase a) h2 fun x hx => (List.mem_erase_of_ne (by rintro rfl; exact h1 hx)).mpr (hs x (List.mem_cons_of_mem _ hx))
    rw [List.length_erase_of_mem ha] at this
    have : 0 < m.length := List.length_pos_of_mem ha
    rw [List.length_cons]
    omega
/-- all that a law asks of a dict of stands -/
structure Closed (sts : List (Str × Stand)) : Prop where
  nd : (sts.map (·.1)).Nodup
  len : sts.length ≤ 1000
  all : ∀ q ∈ sts, q.2.nd ∧ q.2.size ≤ 4 ∧ ∀ t ∈ q.2.tos, t ∈ sts.map (·.1)
theorem Closed.look {sts : List (Str × Stand)} (C : Closed sts) {s : Str} (h : s ∈ sts.map (·.1)) : ∃ st, lookA sts s = some st ∧ st.nd ∧ st.size ≤ 4 ∧ tosOf sts s = st.tos ∧ (∀ t ∈ st.tos, t ∈ sts.map (·.1)) := by
  obtain ⟨st, e⟩ := lookA_some h
  obtain ⟨a, b, c⟩ := C.all _ (lookA_mem e)
  exact ⟨st, e, a, b, by unfold tosOf; rw [e]; rfl, c⟩
theorem Closed.tos {sts : List (Str × Stand)} (C : Closed sts) : ∀ n ∈ sts.map (·.1), ∀ t ∈ tosOf sts n, t ∈ sts.map (·.1) := fun n hn t ht => by
  obtain ⟨st, _, _, _, e, h⟩ := C.look hn
  rw [e] at ht
  exact h t ht
theorem WorkOk.closed {hands : Int} {start : Str} {sts : List (Str × Stand)} (o : WorkOk hands start sts) : Closed sts :=
  ⟨o.nd, Nat.le_trans o.len.2 (by decide), fun q hq => ⟨(o.all q hq).2.nd, (o.all q hq).2.size, fun t ht => by
    have h := (o.all q hq).2
    generalize q.2 = st at h ht
    cases st with
    | fin => cases ht
    | hand a b =>
      obtain ⟨z, hz, rfl⟩ := List.mem_map.mp ht
      exact (h.2.2.2.2.2 z hz).2.2
    | chance b =>
      obtain ⟨z, hz, rfl⟩ := List.mem_map.mp ht
      exact (h.2.2.2 z hz).2.2.1⟩⟩
theorem Tbl.tos {sts tbl : List (Str × Stand)} (t : Tbl sts tbl) (n x : Str) : x ∈ tosOf tbl n ↔ x ∈ tosOf sts n := by
  by_cases h : n ∈ tbl.map (·.1)
  · obtain ⟨b, eb⟩ := lookA_some h
    obtain ⟨a, ea, s⟩ := t.all _ (lookA_mem eb)
    unfold tosOf
    rw [eb, ea]
    exact (SrtStand.tos s).mem_iff
  · unfold tosOf
    rw [lookA_none h, lookA_none fun z => h (t.perm.mem_iff.mpr z)]
end M

namespace M
open PySem PySem.Spec PyProof.Rows L2
/-! ### methods of a work -/
def moverV : Stand → V
  | .hand h _ => .int h
  | _ => .non
theorem lookup_none {m : Str} : ∀ {fs : List (Str × V)}, m ∉ fs.map (·.1) → fs.lookup m = none
  | [], _ => rfl
  | (k, v) :: r, h => by
    have h1 : m ≠ k := fun e => h (by rw [e]; exact List.mem_cons_self)
    rw [List.lookup_cons]
    have : (m == k) = false := by simpa using h1
    rw [this]
    exact lookup_none fun q => h (List.mem_cons_of_mem _ q)
theorem work_none {m : Str} {hands : Int} {start : Str} {d nm en : Addr} {b : Bool} (h : m ∉ (["hands", "start", "table", "names", "ends", "ringless"] : List Str)) : (workF hands start d nm en b).lookup m = none := lookup_none h
theorem work_table {hands : Int} {start : Str} {d nm en : Addr} {b : Bool} : List.lookup ("table" : Str) (workF hands start d nm en b) = some (.ref d) := look_next (by decide +kernel) (look_next (by decide +kernel) look_here)
theorem work_start {hands : Int} {start : Str} {d nm en : Addr} {b : Bool} : List.lookup ("start" : Str) (workF hands start d nm en b) = some (.str start) := look_next (by decide +kernel) look_here
theorem work_hands {hands : Int} {start : Str} {d nm en : Addr} {b : Bool} : List.lookup ("hands" : Str) (workF hands start d nm en b) = some (.int hands) := look_here
section
variable {P : Program} {w : World} {K : PySem.W.Frag} {mg : Str → Option Value} {base : Heap}
theorem x_meth {C : Addr} {m : Str} {sp : Sp} {dvs : List V} {E : XK} {ta : TE} {t : TA} {σ : L2.St} {H : Hp} {Q : VK}
    (k : ta σ H fun x H1 => ∃ a dx fs, x = .ref a ∧ H1 a = some (.ins C dx fs) ∧ fs.lookup m = none ∧ t σ H1 fun vs H2 => sp (x :: (vs ++ dvs)) H2 Q E) : tMeth C m sp dvs E ta t σ H Q := k
theorem x_me {H : Hp} {C a dx : Addr} {m : Str} {fs : List (Str × V)} {R : Prop} (h : H a = some (.ins C dx fs)) (l : fs.lookup m = none) (k : R) : ∃ a' dx' fs', V.ref a = .ref a' ∧ H a' = some (.ins C dx' fs') ∧ fs'.lookup m = none ∧ R := ⟨a, dx, fs, rfl, h, l, k⟩
def sp_Work_row (T : Tx K mg) : Sp := fun vs H Q _ => ∃ (x : Addr) (hands : Int) (start s : Str) (tbl : List (Str × Stand)) (st : Stand), vs = [.ref x, .str s] ∧ WorkAt T H x hands start tbl ∧ lookA tbl s = some st ∧ ∀ v, rStand K H v st → Q v H
theorem ok_Work_row (T : Tx K mg) : FnOk P w K mg base CX0 1 T.Work_row.f T.Work_row.fd P_Work_row (sp_Work_row T) := by
  refine T.Work_row.F.ok sc_Work_row (fun vs H Q E h => ?_) (fun cdv A outer s H vs Q E hr h => ?_)
  · obtain ⟨x, hands, start, s, tbl, st, rfl, wa, hs, k⟩ := h
    rfl
  have hu := hu_of hr
  have nd := sc_Work_row.nd
  obtain ⟨x, hands, start, s, tbl, st, rfl, wa, hs, k⟩ := h
  refine ⟨_, (pss_cons (ps_if (PW.pt (pw_or (pt_not (pt_val (pe_callB (w_isi (K := K) rfl) (by rfl) T.b_isinstance (by decide +kernel) (pa_cons (pv 1) (pa_cons (pe_bltn (v := .ty "str") (by rfl) T.b_str (by decide +kernel) rfl) pa_nil))))) (pw_or1 (pt_cmp (pc_dnotin hu (pv 1) (w_fld (K := K) rfl (pv 0) rfl)))))) (pss_one ps_never) pss_nil)
      (pss_one (ps_ret (pe_dget hu (w_fld (K := K) rfl (pv 0) rfl) (pv 1) (fun _ _ => rfl))))), ?_⟩
  refine x_start (σ' := [some _, some _]) rfl ?_
  try simp only [cx_n, cx_K, cx_w, cx_P]
  obtain ⟨dx, d, nm, en, hx, ⟨d', kvs, ed, hrd, hk⟩, _⟩ := wa.ex
  cases ed
  obtain ⟨v, ev, rv⟩ := hk.at_ hs
  walk_at "rd"
  refine x_isiT (.base (.str _)) (by decide +kernel) ?_
  walk_at "rd"
  refine x_getF hx T.cl_Work T.n_Work_table work_table ?_
  refine x_dni' hrd ?_
  rw [ev]
  walk_at "rd"
  walk_at "if!"
  walk_at "rd"
  refine x_getF hx T.cl_Work T.n_Work_table work_table ?_
  walk_at "rd"
  refine x_dg' hrd ev ?_
  exact k v rv
def sp_Work_kind (T : Tx K mg) : Sp := fun vs H Q _ => ∃ (x : Addr) (hands : Int) (start s : Str) (tbl : List (Str × Stand)) (st : Stand), vs = [.ref x, .str s] ∧ WorkAt T H x hands start tbl ∧ lookA tbl s = some st ∧ Q (.str (kindS st)) H
theorem ok_Work_kind (T : Tx K mg) : FnOk P w K mg base CX0 2 T.Work_kind.f T.Work_kind.fd P_Work_kind (sp_Work_kind T) := by
  refine T.Work_kind.F.ok sc_Work_kind (fun vs H Q E h => ?_) (fun cdv A outer s H vs Q E hr h => ?_)
  · obtain ⟨x, hands, start, s, tbl, st, rfl, wa, hs, k⟩ := h
    rfl
  have hu := hu_of hr
  have nd := sc_Work_kind.nd
  obtain ⟨x, hands, start, s, tbl, st, rfl, wa, hs, k⟩ := h
  refine ⟨_, (pss_one (ps_ret (pe_ix (w_ixT (K := K) rfl) (pe_meth (pv 0) T.cl_Work T.me_Work_row (ok_Work_row (P := P) (w := w) T) (hr.mono (by decide)) T.Work_row.B .nil pass0 (pa_cons (pv 1) pa_nil)) pe_int (fun _ _ => rfl)))), ?_⟩
  refine x_start (σ' := [some _, some _]) rfl ?_
  try simp only [cx_n, cx_K, cx_w, cx_P]
  obtain ⟨dx, d, nm, en, hx, _⟩ := id wa.ex
  walk_at "rd"
  refine x_meth ?_
  walk_at "rd"
  refine x_me hx (work_none (by decide +kernel)) ?_
  walk_at "rd"
  refine ⟨x, hands, start, s, tbl, st, rfl, wa, hs, fun v rv => ?_⟩
  walk_at "rd"
  cases st with
  | fin =>
    obtain ⟨p5, rfl, hp5⟩ := rv
    exact x_ixT hp5 (atI_nat (j := 0) rfl) k
  | hand h ms =>
    obtain ⟨p5, _, rfl, hp5, _⟩ := rv
    exact x_ixT hp5 (atI_nat (j := 0) rfl) k
  | chance ds =>
    obtain ⟨p5, _, rfl, hp5, _⟩ := rv
    exact x_ixT hp5 (atI_nat (j := 0) rfl) k
def sp_Work_mover (T : Tx K mg) : Sp := fun vs H Q _ => ∃ (x : Addr) (hands : Int) (start s : Str) (tbl : List (Str × Stand)) (st : Stand), vs = [.ref x, .str s] ∧ WorkAt T H x hands start tbl ∧ lookA tbl s = some st ∧ Q (moverV st) H
theorem ok_Work_mover (T : Tx K mg) : FnOk P w K mg base CX0 2 T.Work_mover.f T.Work_mover.fd P_Work_mover (sp_Work_mover T) := by
  refine T.Work_mover.F.ok sc_Work_mover (fun vs H Q E h => ?_) (fun cdv A outer s H vs Q E hr h => ?_)
  · obtain ⟨x, hands, start, s, tbl, st, rfl, wa, hs, k⟩ := h
    rfl
  have hu := hu_of hr
  have nd := sc_Work_mover.nd
  obtain ⟨x, hands, start, s, tbl, st, rfl, wa, hs, k⟩ := h
  refine ⟨_, (pss_cons (ps_set (i := 2) nd rfl (Or.inl rfl) (pe_meth (pv 0) T.cl_Work T.me_Work_row (ok_Work_row (P := P) (w := w) T) (hr.mono (by decide)) T.Work_row.B .nil pass0 (pa_cons (pv 1) pa_nil)))
      (pss_cons (ps_if (pt_cmpR op_eq (pe_ix (w_ixT (K := K) rfl) (pv 2) pe_int (fun _ _ => rfl)) pe_str (nomark _)) (pss_one (ps_ret (pe_ix (w_ixT (K := K) rfl) (pv 2) pe_int (fun _ _ => rfl)))) pss_nil)
      (pss_one (ps_ret pe_non)))), ?_⟩
  refine x_start (σ' := [some _, some _, none]) rfl ?_
  try simp only [cx_n, cx_K, cx_w, cx_P]
  obtain ⟨dx, d, nm, en, hx, _⟩ := id wa.ex
  walk_at "rd"
  refine x_meth ?_
  walk_at "rd"
  refine x_me hx (work_none (by decide +kernel)) ?_
  walk_at "rd"
  refine ⟨x, hands, start, s, tbl, st, rfl, wa, hs, fun v rv => ?_⟩
  walk_at "rd"
  cases st with
  | fin =>
    obtain ⟨p5, rfl, hp5⟩ := rv
    refine x_ixT hp5 (atI_nat (j := 0) rfl) ?_
    walk_at "rd"
    walk_at "if!"
    walk_at "rd"
    exact k
  | hand h ms =>
    obtain ⟨p5, _, rfl, hp5, _⟩ := rv
    refine x_ixT hp5 (atI_nat (j := 0) rfl) ?_
    walk_at "rd"
    walk_at "if!"
    walk_at "rd"
    exact x_ixT hp5 (atI_nat (j := 1) rfl) k
  | chance ds =>
    obtain ⟨p5, _, rfl, hp5, _⟩ := rv
    refine x_ixT hp5 (atI_nat (j := 0) rfl) ?_
    walk_at "rd"
    walk_at "if!"
    walk_at "rd"
    exact k
def sp_Work_steps (T : Tx K mg) : Sp := fun vs H Q _ => ∃ (x : Addr) (hands : Int) (start s : Str) (tbl : List (Str × Stand)) (st : Stand), vs = [.ref x, .str s] ∧ WorkAt T H x hands start tbl ∧ lookA tbl s = some st ∧
  ∀ p H' ys, H p = none → SX [] H H' → H' p = some (.lst (ys.map V.str)) → ys.Perm (st.rows.map (·.1)) → sortedS ys = true → Q (.ref p) H'
theorem ok_Work_steps (T : Tx K mg) : FnOk P w K mg base CX0 2 T.Work_steps.f T.Work_steps.fd P_Work_steps (sp_Work_steps T) := by
  refine T.Work_steps.F.ok sc_Work_steps (fun vs H Q E h => ?_) (fun cdv A outer s H vs Q E hr h => ?_)
  · obtain ⟨x, hands, start, s, tbl, st, rfl, wa, hs, k⟩ := h
    rfl
  have hu := hu_of hr
  have nd := sc_Work_steps.nd
  obtain ⟨x, hands, start, s, tbl, st, rfl, wa, hs, k⟩ := h
  refine ⟨_, (pss_cons (ps_set (i := 2) nd rfl (Or.inl rfl) (pe_meth (pv 0) T.cl_Work T.me_Work_row (ok_Work_row (P := P) (w := w) T) (hr.mono (by decide)) T.Work_row.B .nil pass0 (pa_cons (pv 1) pa_nil)))
      (pss_cons (ps_if (pt_cmpR op_eq (pe_ix (w_ixT (K := K) rfl) (pv 2) pe_int (fun _ _ => rfl)) pe_str (nomark _)) (pss_one (ps_ret (pe_lst pa_nil))) pss_nil)
      (pss_one (ps_ret (pe_callB (cl_sortD rfl) (by rfl) T.b_sorted (by decide +kernel) (pa_cons (pe_ix (w_ixT (K := K) rfl) (pv 2) (pe_op op_sub (pe_callB (w_len (K := K) rfl) (by rfl) T.b_len (by decide +kernel) (pa_cons (pv 2) pa_nil)) pe_int) (fun _ _ => rfl)) pa_nil)))))), ?_⟩
  refine x_start (σ' := [some _, some _, none]) rfl ?_
  try simp only [cx_n, cx_K, cx_w, cx_P]
  obtain ⟨dx, d, nm, en, hx, _⟩ := id wa.ex
  walk_at "rd"
  refine x_meth ?_
  walk_at "rd"
  refine x_me hx (work_none (by decide +kernel)) ?_
  walk_at "rd"
  refine ⟨x, hands, start, s, tbl, st, rfl, wa, hs, fun v rv => ?_⟩
  walk_at "rd"
  cases st with
  | fin =>
    obtain ⟨p5, rfl, hp5⟩ := rv
    refine x_ixT hp5 (atI_nat (j := 0) rfl) ?_
    walk_at "rd"
    walk_at "if!"
    walk_at "rd"
    exact ⟨Nat.le_of_ble_eq_true rfl, fun q hq => k q _ [] hq (SX.new hq) upd_same (.refl _) rfl⟩
  | hand h ms =>
    obtain ⟨p5, _, rfl, hp5, d5, kv5, rfl, r5, k5⟩ := rv
    refine x_ixT hp5 (atI_nat (j := 0) rfl) ?_
    walk_at "rd"
    walk_at "if!"
    walk_at "rd"
    refine x_lenT' hp5 ?_
    walk_at "rd"
    refine x_ixT hp5 (v := .ref d5) (atI_nat (j := 2) rfl) ?_
    walk_at "rd"
    refine x_sortD r5 k5.keys fun ys py hp hsy np => ?_
    exact k py _ ys np (SX.new np) upd_same hp hsy
  | chance ds =>
    obtain ⟨p5, _, rfl, hp5, d5, kv5, rfl, r5, k5⟩ := rv
    refine x_ixT hp5 (atI_nat (j := 0) rfl) ?_
    walk_at "rd"
    walk_at "if!"
    walk_at "rd"
    refine x_lenT' hp5 ?_
    walk_at "rd"
    refine x_ixT hp5 (v := .ref d5) (atI_nat (j := 1) rfl) ?_
    walk_at "rd"
    refine x_sortD r5 k5.keys fun ys py hp hsy np => ?_
    exact k py _ ys np (SX.new np) upd_same (by show ys.Perm ((ds.map _).map _); rw [List.map_map]; exact hp) hsy
def sp_Work_to (T : Tx K mg) : Sp := fun vs H Q _ => ∃ (x : Addr) (hands : Int) (start s step to : Str) (tbl : List (Str × Stand)) (st : Stand), vs = [.ref x, .str s, .str step] ∧ WorkAt T H x hands start tbl ∧ lookA tbl s = some st ∧ lookA st.rows step = some to ∧ Q (.str to) H
theorem rows_chance {ds : List (Str × (Str × Int))} {step to : Str} (h : lookA (Stand.rows (.chance ds)) step = some to) : ∃ n, lookA ds step = some (to, n) := by
  change lookA (ds.map fun q => (q.1, q.2.1)) step = some to at h
  induction ds with
  | nil => cases h
  | cons q r ih =>
    rw [List.map_cons] at h
    unfold lookA at h ⊢
    by_cases e : q.1 = step
    · rw [if_pos e] at h ⊢
      cases h
      exact ⟨q.2.2, rfl⟩
    · rw [if_neg e] at h ⊢
      exact ih h
theorem ok_Work_to (T : Tx K mg) : FnOk P w K mg base CX0 2 T.Work_to.f T.Work_to.fd P_Work_to (sp_Work_to T) := by
  refine T.Work_to.F.ok sc_Work_to (fun vs H Q E h => ?_) (fun cdv A outer s H vs Q E hr h => ?_)
  · obtain ⟨x, hands, start, s, step, to, tbl, st, rfl, wa, hs, hst, k⟩ := h
    rfl
  have hu := hu_of hr
  have nd := sc_Work_to.nd
  obtain ⟨x, hands, start, s, step, to, tbl, st, rfl, wa, hs, hst, k⟩ := h
  refine ⟨_, (pss_cons (ps_set (i := 3) nd rfl (Or.inl rfl) (pe_meth (pv 0) T.cl_Work T.me_Work_row (ok_Work_row (P := P) (w := w) T) (hr.mono (by decide)) T.Work_row.B .nil pass0 (pa_cons (pv 1) pa_nil)))
      (pss_cons (ps_if (PW.pt (pw_or (pt_cmpR op_eq (pe_ix (w_ixT (K := K) rfl) (pv 3) pe_int (fun _ _ => rfl)) pe_str (nomark _)) (pw_or (pt_not (pt_val (pe_callB (w_isi (K := K) rfl) (by rfl) T.b_isinstance (by decide +kernel) (pa_cons (pv 2) (pa_cons (pe_bltn (v := .ty "str") (by rfl) T.b_str (by decide +kernel) rfl) pa_nil))))) (pw_or1 (pt_cmp (pc_dnotin hu (pv 2) (pe_ix (w_ixT (K := K) rfl) (pv 3) (pe_op op_sub (pe_callB (w_len (K := K) rfl) (by rfl) T.b_len (by decide +kernel) (pa_cons (pv 3) pa_nil)) pe_int) (fun _ _ => rfl)))))))) (pss_one ps_never) pss_nil)
      (pss_cons (ps_if (pt_cmpR op_eq (pe_ix (w_ixT (K := K) rfl) (pv 3) pe_int (fun _ _ => rfl)) pe_str (nomark _)) (pss_one (ps_ret (pe_dget hu (pe_ix (w_ixT (K := K) rfl) (pv 3) pe_int (fun _ _ => rfl)) (pv 2) (fun _ _ => rfl)))) pss_nil)
      (pss_one (ps_ret (pe_ix (w_ixT (K := K) rfl) (pe_dget hu (pe_ix (w_ixT (K := K) rfl) (pv 3) pe_int (fun _ _ => rfl)) (pv 2) (fun _ _ => rfl)) pe_int (fun _ _ => rfl))))))), ?_⟩
  refine x_start (σ' := [some _, some _, some _, none]) rfl ?_
  try simp only [cx_n, cx_K, cx_w, cx_P]
  obtain ⟨dx, d, nm, en, hx, _⟩ := id wa.ex
  walk_at "rd"
  refine x_meth ?_
  walk_at "rd"
  refine x_me hx (work_none (by decide +kernel)) ?_
  walk_at "rd"
  refine ⟨x, hands, start, s, tbl, st, rfl, wa, hs, fun v rv => ?_⟩
  walk_at "rd"
  cases st with
  | fin => cases hst
  | hand h ms =>
    obtain ⟨p5, _, rfl, hp5, d5, kv5, rfl, r5, k5⟩ := rv
    obtain ⟨v1, e1, rfl⟩ := k5.at_ hst
    refine x_ixT hp5 (atI_nat (j := 0) rfl) ?_
    walk_at "rd"
    walk_at "if!"
    walk_at "rd"
    refine x_isiT (.base (.str _)) (by decide +kernel) ?_
    walk_at "rd"
    refine x_lenT' hp5 ?_
    walk_at "rd"
    refine x_ixT hp5 (v := .ref d5) (atI_nat (j := 2) rfl) ?_
    refine x_dni' r5 ?_
    rw [e1]
    walk_at "rd"
    walk_at "if!"
    walk_at "rd"
    refine x_ixT hp5 (atI_nat (j := 0) rfl) ?_
    walk_at "rd"
    walk_at "if!"
    walk_at "rd"
    refine x_ixT hp5 (v := .ref d5) (atI_nat (j := 2) rfl) ?_
    walk_at "rd"
    exact x_dg' r5 e1 k
  | chance ds =>
    obtain ⟨p5, _, rfl, hp5, d5, kv5, rfl, r5, k5⟩ := rv
    obtain ⟨n, hn⟩ := rows_chance hst
    obtain ⟨v1, e1, q1, z1, z2, rfl, hq1, rfl, rfl⟩ := k5.at_ hn
    refine x_ixT hp5 (atI_nat (j := 0) rfl) ?_
    walk_at "rd"
    walk_at "if!"
    walk_at "rd"
    refine x_isiT (.base (.str _)) (by decide +kernel) ?_
    walk_at "rd"
    refine x_lenT' hp5 ?_
    walk_at "rd"
    refine x_ixT hp5 (v := .ref d5) (atI_nat (j := 1) rfl) ?_
    refine x_dni' r5 ?_
    rw [e1]
    walk_at "rd"
    walk_at "if!"
    walk_at "rd"
    refine x_ixT hp5 (atI_nat (j := 0) rfl) ?_
    walk_at "rd"
    walk_at "if!"
    walk_at "rd"
    refine x_ixT hp5 (v := .ref d5) (atI_nat (j := 1) rfl) ?_
    walk_at "rd"
    refine x_dg' r5 e1 ?_
    walk_at "rd"
    exact x_ixT hq1 (atI_nat (j := 0) rfl) k
end
end M

namespace M
open PySem PySem.Spec PyProof.Rows L2
theorem endsOf_eq {sts : List (Str × Stand)} (hn : (sts.map (·.1)).Nodup) : endsOf sts = (sts.map (·.1)).filter fun n => match lookA sts n with | some st => isEnd st | none => false := by
  have key : ∀ l : List (Str × Stand), (∀ q ∈ l, lookA sts q.1 = some q.2) → endsOf l = (l.map (·.1)).filter fun n => match lookA sts n with | some st => isEnd st | none => false := by
    intro l
    induction l with
    | nil => intro _; rfl
    | cons q r ih =>
      intro h
      have e := ih fun z hz => h z (List.mem_cons_of_mem _ hz)
      have hq := h q List.mem_cons_self
      have : endsOf (q :: r) = (if isEnd q.2 = true then [q.1] else []) ++ endsOf r := by
        have h2 := endsOf_snoc (l := []) (q := q)
        unfold endsOf isEnd
        rw [List.filter_cons]
        cases q.2 <;> rfl
      rw [this, e, List.map_cons, List.filter_cons, hq]
      by_cases c : isEnd q.2 = true <;> simp [c]
  exact key sts fun q hq => lookA_nodup hn hq
section
variable {P : Program} {w : World} {K : PySem.W.Frag} {mg : Str → Option Value} {base : Heap}
def sp_law_steps (T : Tx K mg) : Sp := fun vs H Q _ => ∃ (d : Addr) (s : Str) (sts : List (Str × Stand)) (st : Stand), vs = [.ref d, .str s] ∧ rD (rStand K) H (.ref d) sts ∧ lookA sts s = some st ∧
  ∀ p H' ys, H p = none → SX [] H H' → H' p = some (.lst (ys.map V.str)) → ys.Perm (st.rows.map (·.1)) → sortedS ys = true → Q (.ref p) H'
theorem ok_law_steps (T : Tx K mg) : FnOk P w K mg base CX0 1 T.law_steps.f T.law_steps.fd P_law_steps (sp_law_steps T) := by
  refine T.law_steps.F.ok sc_law_steps (fun vs H Q E h => ?_) (fun cdv A outer s H vs Q E hr h => ?_)
  · obtain ⟨d, s, sts, st, rfl, ⟨d', kvs, ed, hrd, hk⟩, hs, k⟩ := h
    rfl
  have hu := hu_of hr
  have nd := sc_law_steps.nd
  obtain ⟨d, s, sts, st, rfl, ⟨d', kvs, ed, hrd, hk⟩, hs, k⟩ := h
  refine ⟨_, (pss_cons (ps_set (i := 2) nd rfl (Or.inl rfl) (pe_dget hu (pv 0) (pv 1) (fun _ _ => rfl)))
      (pss_cons (ps_if (pt_cmpR op_eq (pe_ix (w_ixT (K := K) rfl) (pv 2) pe_int (fun _ _ => rfl)) pe_str (nomark _)) (pss_one (ps_ret (pe_lst pa_nil))) pss_nil)
      (pss_one (ps_ret (pe_callB (cl_sortD rfl) (by rfl) T.b_sorted (by decide +kernel) (pa_cons (pe_ix (w_ixT (K := K) rfl) (pv 2) (pe_op op_sub (pe_callB (w_len (K := K) rfl) (by rfl) T.b_len (by decide +kernel) (pa_cons (pv 2) pa_nil)) pe_int) (fun _ _ => rfl)) pa_nil)))))), ?_⟩
  refine x_start (σ' := [some _, some _, none]) rfl ?_
  try simp only [cx_n, cx_K, cx_w, cx_P]
  cases ed
  obtain ⟨v, ev, rv⟩ := hk.at_ hs
  walk_at "rd"
  refine x_dg' hrd ev ?_
  walk_at "rd"
  cases st with
  | fin =>
    obtain ⟨p5, rfl, hp5⟩ := rv
    refine x_ixT hp5 (atI_nat (j := 0) rfl) ?_
    walk_at "rd"
    walk_at "if!"
    walk_at "rd"
    exact ⟨Nat.le_of_ble_eq_true rfl, fun q hq => k q _ [] hq (SX.new hq) upd_same (.refl _) rfl⟩
  | hand h ms =>
    obtain ⟨p5, _, rfl, hp5, d5, kv5, rfl, r5, k5⟩ := rv
    refine x_ixT hp5 (atI_nat (j := 0) rfl) ?_
    walk_at "rd"
    walk_at "if!"
    walk_at "rd"
    refine x_lenT' hp5 ?_
    walk_at "rd"
    refine x_ixT hp5 (v := .ref d5) (atI_nat (j := 2) rfl) ?_
    walk_at "rd"
    refine x_sortD r5 k5.keys fun ys py hp hsy np => ?_
    exact k py _ ys np (SX.new np) upd_same hp hsy
  | chance ds =>
    obtain ⟨p5, _, rfl, hp5, d5, kv5, rfl, r5, k5⟩ := rv
    refine x_ixT hp5 (atI_nat (j := 0) rfl) ?_
    walk_at "rd"
    walk_at "if!"
    walk_at "rd"
    refine x_lenT' hp5 ?_
    walk_at "rd"
    refine x_ixT hp5 (v := .ref d5) (atI_nat (j := 1) rfl) ?_
    walk_at "rd"
    refine x_sortD r5 k5.keys fun ys py hp hsy np => ?_
    exact k py _ ys np (SX.new np) upd_same (by show ys.Perm ((ds.map _).map _); rw [List.map_map]; exact hp) hsy
def sp_law_to (T : Tx K mg) : Sp := fun vs H Q _ => ∃ (d : Addr) (s step to : Str) (sts : List (Str × Stand)) (st : Stand), vs = [.ref d, .str s, .str step] ∧ rD (rStand K) H (.ref d) sts ∧ lookA sts s = some st ∧ lookA st.rows step = some to ∧ Q (.str to) H
theorem ok_law_to (T : Tx K mg) : FnOk P w K mg base CX0 1 T.law_to.f T.law_to.fd P_law_to (sp_law_to T) := by
  refine T.law_to.F.ok sc_law_to (fun vs H Q E h => ?_) (fun cdv A outer s H vs Q E hr h => ?_)
  · obtain ⟨d, s, step, to, sts, st, rfl, ⟨d', kvs, ed, hrd, hk⟩, hs, hst, k⟩ := h
    rfl
  have hu := hu_of hr
  have nd := sc_law_to.nd
  obtain ⟨d, s, step, to, sts, st, rfl, ⟨d', kvs, ed, hrd, hk⟩, hs, hst, k⟩ := h
  refine ⟨_, (pss_cons (ps_set (i := 3) nd rfl (Or.inl rfl) (pe_dget hu (pv 0) (pv 1) (fun _ _ => rfl)))
      (pss_cons (ps_if (pt_cmpR op_eq (pe_ix (w_ixT (K := K) rfl) (pv 3) pe_int (fun _ _ => rfl)) pe_str (nomark _)) (pss_one (ps_ret (pe_dget hu (pe_ix (w_ixT (K := K) rfl) (pv 3) pe_int (fun _ _ => rfl)) (pv 2) (fun _ _ => rfl)))) pss_nil)
      (pss_one (ps_ret (pe_ix (w_ixT (K := K) rfl) (pe_dget hu (pe_ix (w_ixT (K := K) rfl) (pv 3) pe_int (fun _ _ => rfl)) (pv 2) (fun _ _ => rfl)) pe_int (fun _ _ => rfl)))))), ?_⟩
  refine x_start (σ' := [some _, some _, some _, none]) rfl ?_
  try simp only [cx_n, cx_K, cx_w, cx_P]
  cases ed
  obtain ⟨v, ev, rv⟩ := hk.at_ hs
  walk_at "rd"
  refine x_dg' hrd ev ?_
  walk_at "rd"
  cases st with
  | fin => cases hst
  | hand h ms =>
    obtain ⟨p5, _, rfl, hp5, d5, kv5, rfl, r5, k5⟩ := rv
    obtain ⟨v1, e1, rfl⟩ := k5.at_ hst
    refine x_ixT hp5 (atI_nat (j := 0) rfl) ?_
    walk_at "rd"
    walk_at "if!"
    walk_at "rd"
    refine x_ixT hp5 (v := .ref d5) (atI_nat (j := 2) rfl) ?_
    walk_at "rd"
    exact x_dg' r5 e1 k
  | chance ds =>
    obtain ⟨p5, _, rfl, hp5, d5, kv5, rfl, r5, k5⟩ := rv
    obtain ⟨n, hn⟩ := rows_chance hst
    obtain ⟨v1, e1, q1, z1, z2, rfl, hq1, rfl, rfl⟩ := k5.at_ hn
    refine x_ixT hp5 (atI_nat (j := 0) rfl) ?_
    walk_at "rd"
    walk_at "if!"
    walk_at "rd"
    refine x_ixT hp5 (v := .ref d5) (atI_nat (j := 1) rfl) ?_
    walk_at "rd"
    refine x_dg' r5 e1 ?_
    walk_at "rd"
    exact x_ixT hq1 (atI_nat (j := 0) rfl) k
def sp_law_mover (T : Tx K mg) : Sp := fun vs H Q _ => ∃ (d : Addr) (s : Str) (sts : List (Str × Stand)) (st : Stand), vs = [.ref d, .str s] ∧ rD (rStand K) H (.ref d) sts ∧ lookA sts s = some st ∧ Q (moverV st) H
theorem ok_law_mover (T : Tx K mg) : FnOk P w K mg base CX0 1 T.law_mover.f T.law_mover.fd P_law_mover (sp_law_mover T) := by
  refine T.law_mover.F.ok sc_law_mover (fun vs H Q E h => ?_) (fun cdv A outer s H vs Q E hr h => ?_)
  · obtain ⟨d, s, sts, st, rfl, ⟨d', kvs, ed, hrd, hk⟩, hs, k⟩ := h
    rfl
  have hu := hu_of hr
  have nd := sc_law_mover.nd
  obtain ⟨d, s, sts, st, rfl, ⟨d', kvs, ed, hrd, hk⟩, hs, k⟩ := h
  refine ⟨_, (pss_cons (ps_if (pt_cmpR op_eq (pe_ix (w_ixT (K := K) rfl) (pe_dget hu (pv 0) (pv 1) (fun _ _ => rfl)) pe_int (fun _ _ => rfl)) pe_str (nomark _)) (pss_one (ps_ret (pe_ix (w_ixT (K := K) rfl) (pe_dget hu (pv 0) (pv 1) (fun _ _ => rfl)) pe_int (fun _ _ => rfl)))) pss_nil)
      (pss_one (ps_ret pe_non))), ?_⟩
  refine x_start (σ' := [some _, some _]) rfl ?_
  try simp only [cx_n, cx_K, cx_w, cx_P]
  cases ed
  obtain ⟨v, ev, rv⟩ := hk.at_ hs
  walk_at "rd"
  refine x_dg' hrd ev ?_
  walk_at "rd"
  cases st with
  | fin =>
    obtain ⟨p5, rfl, hp5⟩ := rv
    refine x_ixT hp5 (atI_nat (j := 0) rfl) ?_
    walk_at "rd"
    walk_at "if!"
    walk_at "rd"
    exact k
  | hand h ms =>
    obtain ⟨p5, _, rfl, hp5, _⟩ := rv
    refine x_ixT hp5 (atI_nat (j := 0) rfl) ?_
    walk_at "rd"
    walk_at "if!"
    walk_at "rd"
    refine x_dg' hrd ev ?_
    walk_at "rd"
    exact x_ixT hp5 (atI_nat (j := 1) rfl) k
  | chance ds =>
    obtain ⟨p5, _, rfl, hp5, _⟩ := rv
    refine x_ixT hp5 (atI_nat (j := 0) rfl) ?_
    walk_at "rd"
    walk_at "if!"
    walk_at "rd"
    exact k
end
end M

namespace M
open PySem PySem.Spec PyProof.Rows L2
/-- a lot of a work of so many hands -/
def LotOk (hands : Int) (ns : List Int) : Prop := ns.Pairwise (· < ·) ∧ ∀ n ∈ ns, 0 ≤ n ∧ n < hands
end M

namespace M
open PySem PySem.Spec PyProof.Rows L2
/-! ### runs -/
def goS (sts : List (Str × Stand)) (at_ s : Str) : Option Str := (lookA sts at_).bind fun st => lookA st.rows s
def atF (sts : List (Str × Stand)) (a : Str) (run : List Str) : Str := run.foldl (fun x s => (goS sts x s).getD x) a
def RunOk (sts : List (Str × Stand)) (a : Str) (run : List Str) : Prop := ∀ i s, run[i]? = some s → ∃ b, goS sts (atF sts a (run.take i)) s = some b
def upN (f : Nat → Str) (n : Nat) : List Str := (List.range n).map f
theorem upN_succ (f : Nat → Str) (n : Nat) : upN f (n + 1) = upN f n ++ [f n] := by
  unfold upN
  rw [List.range_succ, List.map_append]
  rfl
theorem upN_len (f : Nat → Str) (n : Nat) : (upN f n).length = n := by simp [upN]
theorem upN_at {f : Nat → Str} {n i : Nat} (h : i < n) : (upN f n)[i]? = some (f i) := by
  unfold upN
  rw [List.getElem?_map, List.getElem?_range h]
  rfl
theorem upN_take {f : Nat → Str} {n m : Nat} (h : m ≤ n) : (upN f n).take m = upN f m := by
  unfold upN
  rw [← List.map_take, List.take_range, Nat.min_eq_left h]
theorem upN_all {f : Nat → Str} {n : Nat} {p : Str → Prop} (h : ∀ i, i < n → p (f i)) : ∀ s ∈ upN f n, p s := fun s hs => by
  obtain ⟨i, hi, rfl⟩ := List.mem_map.mp hs
  exact h i (List.mem_range.mp hi)
/-- where a run leads, step by step -/
def trail (sts : List (Str × Stand)) (a : Str) (run : List Str) : List Str := upN (fun i => atF sts a (run.take i)) (run.length + 1)
theorem atF_succ {sts : List (Str × Stand)} {a : Str} {run : List Str} {i : Nat} {s b : Str} (h : run[i]? = some s) (g : goS sts (atF sts a (run.take i)) s = some b) : atF sts a (run.take (i + 1)) = b := by
  rw [take_succ_of h]
  unfold atF at *
  rw [List.foldl_append]
  show (goS sts _ s).getD _ = b
  rw [g]
  rfl
theorem goS_look {sts : List (Str × Stand)} {a s b : Str} (g : goS sts a s = some b) : ∃ st, lookA sts a = some st ∧ lookA st.rows s = some b := by
  unfold goS at g
  cases e : lookA sts a with
  | none => rw [e] at g; cases g
  | some st => rw [e] at g; exact ⟨st, rfl, g⟩
theorem key_of {α : Type} {l : List (Str × α)} {s : Str} {a : α} (h : lookA l s = some a) : s ∈ l.map (·.1) := List.mem_map.mpr ⟨(s, a), lookA_mem h, rfl⟩
theorem rows_nodup {st : Stand} (h : st.nd) : (st.rows.map (·.1)).Nodup := by
  cases st with
  | fin => exact List.nodup_nil
  | hand a b => exact h
  | chance b => show ((b.map _).map _).Nodup; rw [List.map_map]; exact h
theorem rows_tos_mem {st : Stand} {s t : Str} (h : lookA st.rows s = some t) : t ∈ st.tos := by
  rw [← rows_tos]
  exact List.mem_map.mpr ⟨(s, t), lookA_mem h, rfl⟩
/-- all that a run comes to is a stand -/
theorem at_key {sts : List (Str × Stand)} {a : Str} {run : List Str} (C : ∀ q ∈ sts, ∀ t ∈ q.2.tos, t ∈ sts.map (·.1)) (ha : a ∈ sts.map (·.1)) (R : RunOk sts a run) : ∀ i, i ≤ run.length → atF sts a (run.take i) ∈ sts.map (·.1)
  | 0, _ => ha
  | i + 1, h => by
    obtain ⟨s, hs⟩ : ∃ s, run[i]? = some s := ⟨run[i]'(by omega), by simp⟩
    obtain ⟨b, g⟩ := R i s hs
    rw [atF_succ hs g]
    obtain ⟨st, e1, e2⟩ := goS_look g
    exact C _ (lookA_mem e1) b (rows_tos_mem e2)
theorem RunOk.snoc {sts : List (Str × Stand)} {a s b : Str} {run : List Str} (R : RunOk sts a run) (g : goS sts (atF sts a run) s = some b) : RunOk sts a (run ++ [s]) := fun i t h => by
  by_cases hi : i < run.length
  · rw [List.getElem?_append_left hi] at h
    rw [List.take_append_of_le_length (by omega)]
    exact R i t h
  · have := getLt h
    rw [List.length_append] at this
    have e : i = run.length := by simp at this; omega
    subst e
    rw [List.take_left]
    simp at h
    subst h
    exact ⟨b, g⟩
theorem atF_snoc {sts : List (Str × Stand)} {a s b : Str} {run : List Str} (g : goS sts (atF sts a run) s = some b) : atF sts a (run ++ [s]) = b := by
  unfold atF at *
  rw [List.foldl_append]
  show (goS sts _ s).getD _ = b
  rw [g]
  rfl
theorem pick_one {l : List (Str × Str)} {s b : Str} : (l.map (·.1)).Nodup → lookA l s = some b → (l.filter fun q => decide (q.1 = s)).map (·.2) = [b] := by
  induction l with
  | nil => intro _ h; cases h
  | cons q r ih =>
    intro hn h
    have hn : (q.1 :: r.map (·.1)).Nodup := hn
    obtain ⟨h1, h2⟩ := List.nodup_cons.mp hn
    unfold lookA at h
    rw [List.filter_cons]
    by_cases e : q.1 = s
    · rw [if_pos e] at h
      rw [if_pos (decide_eq_true e), List.map_cons]
      cases h
      have : r.filter (fun q => decide (q.1 = s)) = [] := List.filter_eq_nil_iff.mpr fun x hx z => h1 (List.mem_map.mpr ⟨x, hx, (of_decide_eq_true z).trans e.symm⟩)
      rw [this]
      rfl
    · rw [if_neg e] at h
      rw [if_neg (by simpa using e)]
      exact ih h2 h
theorem perm_look {α : Type} {l m : List (Str × α)} (hn : (l.map (·.1)).Nodup) (p : m.Perm l) (s : Str) : lookA m s = lookA l s := by
  by_cases h : s ∈ l.map (·.1)
  · obtain ⟨a, e⟩ := lookA_some h
    rw [e]
    exact lookA_nodup ((p.map _).nodup_iff.mpr hn) (p.mem_iff.mpr (lookA_mem e))
  · rw [lookA_none h, lookA_none fun z => h ((p.map _).mem_iff.mp z)]
theorem SrtStand.rowsPerm {a b : Stand} (h : SrtStand a b) : b.rows.Perm a.rows := by
  cases a <;> cases b <;> first | exact h.elim | exact .refl _ | exact h.2.perm | exact (Srt.perm h).map _
theorem SrtStand.kind {a b : Stand} (h : SrtStand a b) : kindS b = kindS a := by
  cases a <;> cases b <;> first | exact h.elim | rfl
theorem SrtStand.mover {a b : Stand} (h : SrtStand a b) : moverV b = moverV a := by
  cases a <;> cases b <;> first | exact h.elim | rfl | exact congrArg V.int h.1.symm | exact congrArg V.int h.1
theorem Tbl.look {sts tbl : List (Str × Stand)} (t : Tbl sts tbl) {n : Str} {st : Stand} (h : lookA sts n = some st) : ∃ st', lookA tbl n = some st' ∧ SrtStand st st' := by
  obtain ⟨b, eb⟩ := lookA_some (t.perm.mem_iff.mpr (key_of h))
  obtain ⟨a, ea, s⟩ := t.all _ (lookA_mem eb)
  rw [h] at ea
  cases ea
  exact ⟨b, eb, s⟩
theorem Tbl.go {sts tbl : List (Str × Stand)} (t : Tbl sts tbl) (nd : ∀ q ∈ sts, q.2.nd) (n s : Str) : goS tbl n s = goS sts n s := by
  unfold goS
  by_cases h : n ∈ sts.map (·.1)
  · obtain ⟨st, e⟩ := lookA_some h
    obtain ⟨st', e', ss⟩ := t.look e
    rw [e, e']
    exact perm_look (rows_nodup (nd _ (lookA_mem e))) ss.rowsPerm s
  · rw [lookA_none h, lookA_none fun z => h (t.perm.mem_iff.mp z)]
theorem Tbl.atF {sts tbl : List (Str × Stand)} (t : Tbl sts tbl) (nd : ∀ q ∈ sts, q.2.nd) (a : Str) (run : List Str) : M.atF tbl a run = M.atF sts a run := by
  unfold M.atF
  have : (fun x s => (goS tbl x s).getD x) = fun x s => (goS sts x s).getD x := funext fun x => funext fun s => by rw [t.go nd]
  rw [this]
theorem Tbl.run {sts tbl : List (Str × Stand)} (t : Tbl sts tbl) (nd : ∀ q ∈ sts, q.2.nd) {a : Str} {run : List Str} (R : RunOk sts a run) : RunOk tbl a run := fun i s h => by
  obtain ⟨b, g⟩ := R i s h
  exact ⟨b, by rw [t.atF nd, t.go nd]; exact g⟩
theorem Tbl.trail {sts tbl : List (Str × Stand)} (t : Tbl sts tbl) (nd : ∀ q ∈ sts, q.2.nd) (a : Str) (run : List Str) : M.trail tbl a run = M.trail sts a run := by
  unfold M.trail
  have : (fun i => M.atF tbl a (run.take i)) = fun i => M.atF sts a (run.take i) := funext fun i => t.atF nd a _
  rw [this]
section
variable {P : Program} {w : World} {K : PySem.W.Frag} {mg : Str → Option Value} {base : Heap}
theorem sqT_hidL {H : Hp} {p t : Addr} {ys xs : List V} (hp : H p = some (.lst ys)) (h : SqT K H t xs) : SqT K (hid [p] H) t xs := by
  rcases h with h | h
  · have n : t ≠ p := by
      rintro rfl
      rcases h with h | ⟨o, h⟩ <;> rw [h] at hp <;> cases hp
    refine .inl ?_
    unfold Rd
    rw [hid_of (by simpa using n)]
    exact h
  · exact .inr h
theorem pairs_hidL {H : Hp} {p : Addr} {ys : List V} (hp : H p = some (.lst ys)) : ∀ {xs : List V} {l : List (Str × Str)}, Paired (rP K rS rS H) xs l → Paired (rP K rS rS (hid [p] H)) xs l
  | _, _, .nil => .nil
  | _, _, .cons ⟨t, z1, z2, e, ht, a, b⟩ r => .cons ⟨t, z1, z2, e, sqT_hidL hp ht, a, b⟩ (pairs_hidL hp r)
theorem x_isi2 {a b c : String} {H : Hp} {Q : VK} {x : V} {t : Addr} (ty : TyX K H x (.type a)) (ht : H t = some (.tup [.ty b, .ty c])) (h : kitB a b = some true ∨ (kitB a b = some false ∧ kitB a c = some true)) (k : Q (.bl true) H) : rIsiT K [x, .ref t] H Q := by
  refine ⟨x, t, _, _, _, true, rfl, ht, .cons (.ty b) (.cons (.ty c) .nil), ty, ?_, k⟩
  unfold PySem.W.kitAny
  rcases h with h | ⟨h, h2⟩
  · rw [kit_ty h]
  · rw [kit_ty h]
    show PySem.W.kitAny K _ _ = _
    unfold PySem.W.kitAny
    rw [kit_ty h2]
end
end M

namespace M
open PySem PySem.Spec PyProof.Rows L2
/-! ### deep comparing of lists of flat items -/
def dv : V → PyData
  | .str s => .str s
  | .int i => .int i
  | .bl b => .bool b
  | _ => .none
def okV : V → Bool
  | .str s => PyData.strOk s
  | .int _ | .bl _ | .non => true
  | _ => false
theorem dp_all {K : PySem.W.Frag} {H : Hp} : ∀ {xs : List V}, (∀ x ∈ xs, okV x = true) → DpAll K H xs (xs.map dv)
  | [], _ => .nil
  | x :: xs, h => by
    refine .cons ?_ (dp_all fun y hy => h y (List.mem_cons_of_mem _ hy))
    have := h x List.mem_cons_self
    cases x with
    | str s => exact .str s
    | int i => exact .int i
    | bl b => exact .bl b
    | non => exact .non
    | _ => cases this
theorem lay_all : ∀ {xs : List V}, (∀ x ∈ xs, okV x = true) → PyData.canLayAll0 (xs.map dv) = true ∧ PyData.depthAll (xs.map dv) = 0
  | [], _ => ⟨by simp [PyData.canLayAll0], by simp [PyData.depthAll]⟩
  | x :: xs, h => by
    obtain ⟨a, b⟩ := lay_all fun y hy => h y (List.mem_cons_of_mem _ hy)
    have := h x List.mem_cons_self
    rw [List.map_cons]
    refine ⟨?_, ?_⟩
    · rw [PyData.canLayAll0, a, Bool.and_true]
      cases x <;> first | exact this | rfl | cases this
    · rw [PyData.depthAll, b]
      cases x <;> first | rfl | cases this | simp [dv, PyData.depth]
theorem shaped_flat {xs : List V} (h : ∀ x ∈ xs, okV x = true) : SeqAt.shaped (.list (xs.map dv)) = true := by
  obtain ⟨a, b⟩ := lay_all h
  unfold SeqAt.shaped
  rw [Bool.and_eq_true]
  refine ⟨?_, decide_eq_true ?_⟩
  · rw [PyData.canLay0]
    exact a
  · rw [PyData.depth, b]
    decide
theorem eqv_flat {xs : List V} (h : ∀ x ∈ xs, okV x = true) : PyData.eqv (.list (xs.map dv)) (.list (xs.map dv)) = true := by
  refine SeqAt.eqv_refl _ ?_
  rw [PyData.canLay0]
  exact (lay_all h).1
theorem x_neSame {K : PySem.W.Frag} {H : Hp} {Q : VK} {a b : Addr} {xs : List V} (h1 : SqL K H a xs) (h2 : SqL K H b xs) (ok : ∀ x ∈ xs, okV x = true) (k : Q (.bl false) H) : rNeD K (.ref a) (.ref b) H Q :=
  ⟨_, _, .lst h1 (dp_all ok), .lst h2 (dp_all ok), shaped_flat ok, shaped_flat ok, by rw [eqv_flat ok]; exact k⟩
theorem x_eqSame {K : PySem.W.Frag} {H : Hp} {Q : VK} {a b : Addr} {xs : List V} (h1 : SqL K H a xs) (h2 : SqL K H b xs) (ok : ∀ x ∈ xs, okV x = true) (k : Q (.bl true) H) : rEqD K (.ref a) (.ref b) H Q :=
  ⟨_, _, .lst h1 (dp_all ok), .lst h2 (dp_all ok), shaped_flat ok, shaped_flat ok, by rw [eqv_flat ok]; exact k⟩
theorem nameB_strOk {s : Str} (h : nameB s = true) : PyData.strOk s = true := by
  unfold nameB nameL at h
  simp only [Bool.and_eq_true, List.all_eq_true] at h
  unfold PyData.strOk
  rw [Array.all_eq_true_iff_forall_mem]
  intro c hc
  have := h.2 c (by simpa using hc)
  simp [lowB, digB] at this
  simp
  omega
theorem shaped_flatT {xs : List V} (h : ∀ x ∈ xs, okV x = true) : SeqAt.shaped (.tuple (xs.map dv)) = true := by
  obtain ⟨a, b⟩ := lay_all h
  unfold SeqAt.shaped
  rw [Bool.and_eq_true]
  refine ⟨?_, decide_eq_true ?_⟩
  · rw [PyData.canLay0]
    exact a
  · rw [PyData.depth, b]
    decide
theorem eqv_flatT {xs : List V} (h : ∀ x ∈ xs, okV x = true) : PyData.eqv (.tuple (xs.map dv)) (.tuple (xs.map dv)) = true := by
  refine SeqAt.eqv_refl _ ?_
  rw [PyData.canLay0]
  exact (lay_all h).1
theorem x_neSameT {K : PySem.W.Frag} {H : Hp} {Q : VK} {a b : Addr} {xs : List V} (h1 : SqT K H a xs) (h2 : SqT K H b xs) (ok : ∀ x ∈ xs, okV x = true) (k : Q (.bl false) H) : rNeD K (.ref a) (.ref b) H Q :=
  ⟨_, _, .tup h1 (dp_all ok), .tup h2 (dp_all ok), shaped_flatT ok, shaped_flatT ok, by rw [eqv_flatT ok]; exact k⟩
end M

namespace M
open PySem PySem.Spec PyProof.Rows L2
/-! ### duties -/
def moverIn (ns : List Int) : Stand → Bool
  | .hand h _ => decide (h ∈ ns)
  | _ => false
theorem inV_int {i : Int} : ∀ {ns : List Int}, inV (.int i) (ns.map V.int) = decide (i ∈ ns)
  | [] => by simp [inV]
  | n :: ns => by
    have ih := inV_int (i := i) (ns := ns)
    unfold inV at ih ⊢
    rw [List.map_cons, List.any_cons, ih]
    show ((n == i) || _) = _
    by_cases e : n = i
    · subst e
      simp
    · have : (n == i) = false := by simpa using e
      rw [this, Bool.false_or]
      have : ¬ i = n := fun z => e z.symm
      simp [this]
theorem inV_non : ∀ {ns : List Int}, inV .non (ns.map V.int) = false
  | [] => rfl
  | n :: ns => by
    have ih := inV_non (ns := ns)
    unfold inV at ih ⊢
    rw [List.map_cons, List.any_cons, ih]
    rfl
theorem inV_mover {ns : List Int} (st : Stand) : inV (moverV st) (ns.map V.int) = moverIn ns st := by
  cases st with
  | hand h ms => exact inV_int
  | fin => exact inV_non
  | chance ds => exact inV_non
theorem flat_ints (ns : List Int) : (ns.map V.int).all flatV = true := by
  rw [List.all_map]
  exact List.all_eq_true.mpr fun _ _ => rfl
theorem rows_nodupB {st : Stand} (h : st.nd) : (st.rows.map (·.1)).Nodup := by
  cases st with
  | fin => exact List.nodup_nil
  | hand a b => exact h
  | chance b => show ((b.map _).map _).Nodup; rw [List.map_map]; exact h
/-- drawn into bad by one step -/
def drawnB (ns : List Int) (bad : List Str) (st : Stand) : Bool :=
  if st.rows.length = 0 then false else if moverIn ns st = true then st.tos.all fun t => decide (t ∈ bad) else st.tos.any fun t => decide (t ∈ bad)
theorem key_of' {α : Type} {l : List (Str × α)} {s : Str} {a : α} (h : lookA l s = some a) : s ∈ l.map (·.1) := List.mem_map.mpr ⟨(s, a), lookA_mem h, rfl⟩
theorem x_prop {C : Addr} {sp : Sp} {dvs : List V} {E : XK} {ta : TE} {σ : L2.St} {H : Hp} {Q : VK} (k : ta σ H fun x H1 => ∃ a dx fs, x = .ref a ∧ H1 a = some (.ins C dx fs) ∧ sp (.ref a :: dvs) H1 Q E) : tProp C sp dvs E ta σ H Q := k
end M

namespace M
open PySem PySem.Spec PyProof.Rows L2
/-- where what the lot would keep off can't be kept off -/
inductive BadP (bel : Str → Prop) (ns : List Int) (sts : List (Str × Stand)) : Str → Prop
  | base {n : Str} : lookA sts n = some .fin → bel n → BadP bel ns sts n
  | all {n : Str} {st : Stand} : lookA sts n = some st → moverIn ns st = true → st.rows.length ≠ 0 → (∀ t ∈ st.tos, BadP bel ns sts t) → BadP bel ns sts n
  | any {n t : Str} {st : Stand} : lookA sts n = some st → moverIn ns st = false → t ∈ st.tos → BadP bel ns sts t → BadP bel ns sts n
theorem rows_tos_len (st : Stand) : st.rows.length = st.tos.length := by rw [← rows_tos, List.length_map]
theorem badP_drawn {bel : Str → Prop} {ns : List Int} {sts : List (Str × Stand)} {bad : List Str} {n : Str} {st : Stand} (h : ∀ t ∈ bad, BadP bel ns sts t) (e : lookA sts n = some st) (d : drawnB ns bad st = true) : BadP bel ns sts n := by
  unfold drawnB at d
  split at d
  · cases d
  · rename_i h0
    split at d
    · rename_i m
      rw [List.all_eq_true] at d
      exact .all e m h0 fun t ht => h t (of_decide_eq_true (d t ht))
    · rename_i m
      rw [List.any_eq_true] at d
      obtain ⟨t, ht, q⟩ := d
      exact .any e (by simpa using m) ht (h t (of_decide_eq_true q))
theorem badP_in {bel : Str → Prop} {ns : List Int} {sts : List (Str × Stand)} {bad : List Str} (base : ∀ n, lookA sts n = some .fin → bel n → n ∈ bad) (cl : ∀ n st, lookA sts n = some st → drawnB ns bad st = true → n ∈ bad) {n : Str} (h : BadP bel ns sts n) : n ∈ bad := by
  induction h with
  | base e b => exact base _ e b
  | all e m h0 _ ih =>
    refine cl _ _ e ?_
    unfold drawnB
    rw [if_neg h0, if_pos m, List.all_eq_true]
    exact fun t ht => decide_eq_true (ih t ht)
  | @any n t st e m ht _ ih =>
    refine cl _ _ e ?_
    unfold drawnB
    have h0 : ¬ st.rows.length = 0 := fun z => by
      rw [rows_tos_len] at z
      rw [List.eq_nil_of_length_eq_zero z] at ht
      cases ht
    rw [if_neg h0, if_neg (by rw [m]; exact Bool.false_ne_true), List.any_eq_true]
    exact ⟨_, ht, decide_eq_true ih⟩
/-- a table's own stands lead on as the drawn ones -/
theorem badP_tbl {bel : Str → Prop} {ns : List Int} {sts tbl : List (Str × Stand)} (h : ∀ n st, lookA sts n = some st → ∃ st', lookA tbl n = some st' ∧ SrtStand st st') {n : Str} (b : BadP bel ns sts n) : BadP bel ns tbl n := by
  induction b with
  | base e b =>
    obtain ⟨st', e', ss⟩ := h _ _ e
    cases st' with
    | fin => exact .base e' b
    | hand a c => exact ss.elim
    | chance c => exact ss.elim
  | @all n st e m h0 _ ih =>
    obtain ⟨st', e', ss⟩ := h _ _ e
    have mv : moverIn ns st' = moverIn ns st := by
      cases st <;> cases st' <;> first | exact ss.elim | rfl | (have := ss.1; subst this; rfl)
    refine .all e' (by rw [mv]; exact m) (by rw [rows_tos_len, (SrtStand.tos ss).length_eq, ← rows_tos_len]; exact h0) fun t ht => ih t ((SrtStand.tos ss).mem_iff.mp ht)
  | @any n t st e m ht _ ih =>
    obtain ⟨st', e', ss⟩ := h _ _ e
    have mv : moverIn ns st' = moverIn ns st := by
      cases st <;> cases st' <;> first | exact ss.elim | rfl | (have := ss.1; subst this; rfl)
    exact .any e' (by rw [mv]; exact m) ((SrtStand.tos ss).mem_iff.mpr ht) ih
end M

namespace M
open PySem PySem.Spec PyProof.Rows L2
/-- what is known of a work's table -/
structure TbOk (start : Str) (tbl : List (Str × Stand)) : Prop where
  nd : (tbl.map (·.1)).Nodup
  len : tbl.length ≤ 100
  all : ∀ q ∈ tbl, q.2.nd ∧ q.2.size ≤ 4 ∧ (∀ t ∈ q.2.tos, t ∈ tbl.map (·.1)) ∧ (isEnd q.2 = false → 1 ≤ q.2.size)
  nm : ∀ n ∈ tbl.map (·.1), nameB n = true
  st : start ∈ tbl.map (·.1)
  srt : sortedS (tbl.map (·.1)) = true
theorem TbOk.of {hands : Int} {start : Str} {sts tbl : List (Str × Stand)} (o : WorkOk hands start sts) (t : Tbl sts tbl) : TbOk start tbl := by
  have C := o.closed
  have km : ∀ n, n ∈ tbl.map (·.1) ↔ n ∈ sts.map (·.1) := fun n => t.perm.mem_iff
  refine ⟨t.perm.nodup_iff.mpr o.nd, ?_, fun q hq => ?_, fun n hn => ?_, (km _).mpr o.st, t.srt⟩
  · have h1 := t.perm.length_eq
    rw [List.length_map, List.length_map] at h1
    have := o.len.2
    omega
  · obtain ⟨st, e, s⟩ := t.all q hq
    obtain ⟨c1, c2, c3⟩ := C.all _ (lookA_mem e)
    refine ⟨s.nd c1, by rw [s.size]; exact c2, fun x hx => (km x).mpr (c3 x ((SrtStand.tos s).mem_iff.mp hx)), fun hm => ?_⟩
    have so := (o.all _ (lookA_mem e)).2
    generalize q.2 = b at s hm
    rw [s.size]
    cases st with
    | fin => cases b <;> first | exact s.elim | (exact absurd hm (by decide))
    | hand a c => exact so.2.2.1
    | chance c => exact so.1
  · obtain ⟨z, hz, rfl⟩ := List.mem_map.mp ((km n).mp hn)
    exact (o.all z hz).1
theorem TbOk.ends {start : Str} {tbl : List (Str × Stand)} (t : TbOk start tbl) : ∀ n ∈ endsOf tbl, nameB n = true := fun n h => t.nm n (endsOf_sub h)
theorem TbOk.look {start : Str} {tbl : List (Str × Stand)} (t : TbOk start tbl) {n : Str} {st : Stand} (e : lookA tbl n = some st) : st.nd ∧ st.size ≤ 4 ∧ (∀ t ∈ st.tos, t ∈ tbl.map (·.1)) ∧ (isEnd st = false → 1 ≤ st.size) := t.all _ (lookA_mem e)
/-- a wish for a table -/
structure TwOk (tbl : List (Str × Stand)) (tb : List (Str × Int)) : Prop where
  key : tb.map (·.1) = endsOf tbl
  bd : ∀ q ∈ tb, -99 ≤ q.2 ∧ q.2 ≤ 99
theorem inV_strD {s : Str} : ∀ {l : List Str}, inV (.str s) (l.map V.str) = decide (s ∈ l)
  | [] => by simp [inV]
  | n :: ns => by
    have ih := inV_strD (s := s) (l := ns)
    unfold inV at ih ⊢
    rw [List.map_cons, List.any_cons, ih]
    show ((n == s) || _) = _
    by_cases e : n = s
    · subst e
      simp
    · have : (n == s) = false := by simpa using e
      rw [this, Bool.false_or]
      have : ¬ s = n := fun z => e z.symm
      simp [this]
/-- texts in a tuple that lies in the heap -/
def rTS : RR (List Str) := fun H v l => ∃ t, v = .ref t ∧ H t = some (.tup (l.map V.str))
theorem mono_TS : Mono rTS := fun _ _ _ _ e ⟨t, h1, h2⟩ => ⟨t, h1, e.tup _ _ h2⟩
def ltS (a b : Str) : Prop := a.cps.toList < b.cps.toList
theorem strict_of : ∀ {l : List Str}, l.Pairwise leS → l.Nodup → l.Pairwise ltS
  | [], _, _ => .nil
  | a :: l, h, n => by
    obtain ⟨h1, h2⟩ := List.pairwise_cons.mp h
    obtain ⟨n1, n2⟩ := List.nodup_cons.mp n
    refine List.pairwise_cons.mpr ⟨fun b hb => ?_, strict_of h2 n2⟩
    refine Classical.byContradiction fun c => ?_
    have e : a = b := leS_antisymm (h1 b hb) (List.not_lt.mp c)
    exact n1 (e ▸ hb)
/-- a book of moves between safe stands -/
structure BookOk (bel : Str → Prop) (ns : List Int) (tbl : List (Str × Stand)) (bk : List (Str × List Str)) : Prop where
  nd : (bk.map (·.1)).Nodup
  each : ∀ q ∈ bk, ∃ st, lookA tbl q.1 = some st ∧ moverIn ns st = true ∧ ¬ BadP bel ns tbl q.1 ∧ q.2 ≠ [] ∧ q.2.length ≤ 4 ∧ q.2.Pairwise ltS ∧ ∀ z, z ∈ q.2 ↔ ∃ to, lookA st.rows z = some to ∧ ¬ BadP bel ns tbl to
  all : ∀ n st, lookA tbl n = some st → moverIn ns st = true → ¬ BadP bel ns tbl n → n ∈ bk.map (·.1)
theorem safe_move {bel : Str → Prop} {ns : List Int} {tbl : List (Str × Stand)} {n : Str} {st : Stand} (hnd : st.nd) (e : lookA tbl n = some st) (m : moverIn ns st = true) (h1 : 1 ≤ st.size) (nb : ¬ BadP bel ns tbl n) : ∃ z t, lookA st.rows z = some t ∧ ¬ BadP bel ns tbl t := by
  refine Classical.byContradiction fun c => nb (.all e m (by rw [rows_tos_len, tos_len]; omega) fun t ht => ?_)
  rw [← rows_tos] at ht
  obtain ⟨q, hq, rfl⟩ := List.mem_map.mp ht
  exact Classical.byContradiction fun z => c ⟨q.1, q.2, lookA_nodup (rows_nodupB hnd) hq, z⟩
theorem moverIn_end {ns : List Int} {st : Stand} (m : moverIn ns st = true) : isEnd st = false := by cases st <;> first | rfl | cases m
end M

namespace M
open PySem PySem.Spec PyProof.Rows L2
theorem lookA_perm {α : Type} {l m : List (Str × α)} (p : l.Perm m) (hn : (m.map (·.1)).Nodup) (n : Str) : lookA l n = lookA m n := by
  cases e : lookA l n with
  | some a => exact (lookA_nodup hn (p.mem_iff.mp (lookA_mem e))).symm
  | none =>
    have : n ∉ m.map (·.1) := fun h => by
      obtain ⟨a, ea⟩ := lookA_some ((p.map (·.1)).mem_iff.mpr h)
      rw [e] at ea
      cases ea
    exact (lookA_none this).symm
theorem srt_mover {ns : List Int} {st st' : Stand} (ss : SrtStand st st') : moverIn ns st' = moverIn ns st := by
  cases st <;> cases st' <;> first | exact ss.elim | rfl | (have := ss.1; subst this; rfl)
theorem srt_end {st st' : Stand} (ss : SrtStand st st') : isEnd st' = isEnd st := by
  cases st <;> cases st' <;> first | exact ss.elim | rfl
theorem badP_back {bel : Str → Prop} {ns : List Int} {sts tbl : List (Str × Stand)} (h : ∀ n st, lookA tbl n = some st → ∃ st', lookA sts n = some st' ∧ SrtStand st' st) {n : Str} (b : BadP bel ns tbl n) : BadP bel ns sts n := by
  induction b with
  | base e b =>
    obtain ⟨st', e', ss⟩ := h _ _ e
    cases st' with
    | fin => exact .base e' b
    | hand a c => exact ss.elim
    | chance c => exact ss.elim
  | @all n st e m h0 _ ih =>
    obtain ⟨st', e', ss⟩ := h _ _ e
    refine .all e' (by rw [← srt_mover ss]; exact m) (by rw [rows_tos_len, ← (SrtStand.tos ss).length_eq, ← rows_tos_len]; exact h0) fun t ht => ih t ((SrtStand.tos ss).mem_iff.mpr ht)
  | @any n t st e m ht _ ih =>
    obtain ⟨st', e', ss⟩ := h _ _ e
    exact .any e' (by rw [← srt_mover ss]; exact m) ((SrtStand.tos ss).mem_iff.mp ht) ih
section
variable {hands : Int} {start : Str} {sts tbl : List (Str × Stand)} {wl tb : List (Str × Int)}
theorem Tbl.back (t : Tbl sts tbl) (n : Str) (st : Stand) (e : lookA tbl n = some st) : ∃ st', lookA sts n = some st' ∧ SrtStand st' st := t.all _ (lookA_mem e)
theorem Tbl.on (t : Tbl sts tbl) (n : Str) (st : Stand) (e : lookA sts n = some st) : ∃ st', lookA tbl n = some st' ∧ SrtStand st st' := by
  obtain ⟨st', e'⟩ := lookA_some (t.perm.mem_iff.mpr (key_of' e))
  obtain ⟨st2, e2, ss⟩ := t.back n st' e'
  rw [e] at e2
  cases e2
  exact ⟨st', e', ss⟩
theorem ends_tbl (o : WorkOk hands start sts) (t : Tbl sts tbl) (h : (wl.map (·.1)).Perm (endsOf sts)) (s : Srt wl tb) : tb.map (·.1) = endsOf tbl := by
  have tnd : (tbl.map (·.1)).Nodup := t.perm.nodup_iff.mpr o.nd
  refine List.Perm.eq_of_pairwise (fun a b _ _ h1 h2 => leS_antisymm h1 h2) (sortedS_pw s.srt) ((sortedS_pw t.srt).sublist (List.filter_sublist.map _)) ((s.perm.map _).trans (h.trans ?_))
  rw [endsOf_eq o.nd, endsOf_eq tnd]
  have e : (sts.map (·.1)).filter (fun n => match lookA sts n with | some st => isEnd st | none => false) = (sts.map (·.1)).filter (fun n => match lookA tbl n with | some st => isEnd st | none => false) := by
    refine List.filter_congr fun n hn => ?_
    obtain ⟨st, e1⟩ := lookA_some hn
    obtain ⟨st', e2, ss⟩ := t.on n st e1
    rw [e1, e2]
    exact (srt_end ss).symm
  exact (List.Perm.of_eq e).trans (t.perm.symm.filter _)
theorem rg_full {n : Int} (h : 0 ≤ n) : rgV 0 n = ((List.range n.toNat).map fun i => ((i : Nat) : Int)).map V.int := by
  unfold rgV
  rw [List.map_map, Int.sub_zero]
  refine List.map_congr_left fun i _ => ?_
  show V.int (0 + (i : Int)) = V.int (i : Int)
  rw [Int.zero_add]
end
end M

namespace M
open PySem PySem.Spec PyProof.Rows L2
theorem pows_at : ∀ i, i < 4 → ∃ m, ([1, 2, 4, 8] : List Int)[i]? = some m ∧ 0 < m ∧ m ≤ 8 := by
  intro i hi
  match i, hi with
  | 0, _ => exact ⟨1, rfl, by decide, by decide⟩
  | 1, _ => exact ⟨2, rfl, by decide, by decide⟩
  | 2, _ => exact ⟨4, rfl, by decide, by decide⟩
  | 3, _ => exact ⟨8, rfl, by decide, by decide⟩
theorem int_log {i : Int} (h0 : 0 ≤ i) (h1 : i < 1000000) : i.natAbs.log2 < 1920 := by
  obtain ⟨j, rfl⟩ : ∃ j : Nat, i = (j : Int) := ⟨i.toNat, by omega⟩
  exact small_log (by omega)
theorem cut_to' {xs : List V} {n : Nat} (h : n ≤ xs.length) : cutV xs none (some (n : Int)) = xs.take n := by
  unfold cutV
  rw [HT.sIx_nat, HT.sIx_none, List.drop_zero, Nat.sub_zero, Nat.min_eq_left h]
section
variable {P : Program} {w : World} {K : PySem.W.Frag} {mg : Str → Option Value} {base : Heap}
theorem x_ckw {r : List V → List V → Hp → VK → Prop} {t tk : TA} {σ : L2.St} {H : Hp} {Q : VK} (k : t σ H fun vs H1 => tk σ H1 fun zs H2 => r vs zs H2 Q) : tCKw r t tk σ H Q := k
def sp_law_lot (T : Tx K mg) : Sp := fun vs H Q _ => ∃ (p : Addr) (hands : Int), vs = [.ref p, .int hands] ∧ Drw H p ∧ 0 ≤ hands ∧ hands ≤ 4 ∧
  ∀ (q : Addr) (H' : Hp) (ns : List Int), H q = none → SX [p] H H' → Drw H' p → H' q = some (.tup (ns.map V.int)) → LotOk hands ns → Q (.ref q) H'
theorem ok_law_lot (T : Tx K mg) : FnOk P w K mg base CX0 2 T.law_lot.f T.law_lot.fd P_law_lot (sp_law_lot T) := by
  refine T.law_lot.F.ok sc_law_lot (fun vs H Q E h => ?_) (fun cdv A outer s H vs Q E hr h => ?_)
  · obtain ⟨p, hands, rfl, hp, h0, h4, k⟩ := h
    rfl
  have hu := hu_of hr
  have nd := sc_law_lot.nd
  obtain ⟨p, hands, rfl, hp, h0, h4, k⟩ := h
  refine ⟨_, (pss_cons (ps_set (i := 2) nd rfl (Or.inr rfl) (pe_call (ok_law_draw (P := P) (w := w) T) (hr.mono (by decide)) (by rfl) T.law_draw.g T.law_draw.F.kp T.law_draw.B .nil pass0 (pa_cons (pv 0) (pa_cons (pe_op op_powB pe_int pe_int) pa_nil))))
      (pss_one (ps_ret (pe_callTy (w_tup (K := K) rfl) (by rfl) T.b_tuple (by decide +kernel) (pa_cons (pe_lc (own := [("hand", 3)]) rfl nd (pi_range1 (by rfl) T.b_range (pa_cons (pv 1) pa_nil)) (blkOk_by (own := [("hand", 3)]) (N := N_law_lot) (sc := defScope s_law_lot) (by decide +kernel)) (fun _ _ _ _ _ => (pg_name (i := 3) nd rfl (Or.inl rfl))) (fun _ _ _ _ _ => pts_one (pt_cmpR op_eq (pe_op op_mod (pe_op op_fdivW (pv 2) (pe_ix (w_ixL (K := K) rfl) (pe_lst (pa_cons pe_int (pa_cons pe_int (pa_cons pe_int (pa_cons pe_int pa_nil))))) (pv 3) (fun _ _ => rfl))) pe_int) pe_int (nomark _))) (fun _ _ _ _ _ => (pv 3))) pa_nil))))), ?_⟩
  refine x_start (σ' := [some _, some _, none, none]) rfl ?_
  try simp only [cx_n, cx_K, cx_w, cx_P]
  walk_at "rd"
  refine x_I ⟨by decide, by decide +kernel⟩ ?_
  walk_at "rd"
  refine ⟨p, _, rfl, hp, by decide, by decide, fun bits H1 b0 b1 s1 p1 => ?_⟩
  have b1 : bits < 16 := b1
  walk_at "rd"
  refine x_rng1 (by omega) (by omega) ?_
  intro D hD
  refine lc_it walk_rng (fun n A => SX [] H1 A ∧ ∃ zs : List Int, A D = some (.lst (zs.map V.int)) ∧ zs.length ≤ n ∧ zs.Pairwise (· < ·) ∧ ∀ z ∈ zs, 0 ≤ z ∧ z < (n : Int)) ⟨SX.new hD, [], upd_same, Nat.le_refl _, .nil, (fun _ h => nomatch h)⟩ (fun _ _ _ _ => trivial) ?_ ?_
  · rintro i y A0 A hi ⟨sA, zs, eA, lz, pz, bz⟩ ⟨rfl, rfl⟩
    obtain ⟨m, em, m0, m8⟩ := pows_at i (by omega)
    walk_at "rd"
    refine ⟨rfl, ?_⟩
    walk_at "rd"
    refine ⟨Nat.le_of_ble_eq_true rfl, fun l hl => ?_⟩
    have sl : SX [] A (upd A l (.lst [.int 1, .int 2, .int 4, .int 8])) := SX.new hl
    walk_at "rd"
    refine x_ixL (xs := ([1, 2, 4, 8] : List Int).map V.int) (sqL upd_same) (at_map em) ?_
    refine x_I ⟨m0, Nat.lt_trans (int_log (i := m) (by omega) (by omega)) (by decide)⟩ ?_
    walk_at "rd"
    refine x_I (by decide) ?_
    walk_at "rd"
    refine x_cases (fun c => ?_) (fun c => ?_)
    · walk_at "rd"
      refine ⟨_, sl _ _ List.not_mem_nil eA, lt_size (by rw [List.length_map]; omega), sx_nil_of (S := [D]) ((nil_sx (sA.trans sl)).trans (SX.mut List.mem_cons_self)) (by simp [hD]), zs ++ [(i : Int)], by rw [upd_same, List.map_append]; rfl, by rw [List.length_append]; exact Nat.succ_le_succ lz, ?_, fun z hz => ?_⟩
      · exact List.pairwise_append.mpr ⟨pz, List.pairwise_singleton _ _, fun x hx y hy => by
          cases List.mem_singleton.mp hy
          exact (bz x hx).2⟩
      · rcases List.mem_append.mp hz with h | h
        · have := bz z h
          omega
        · cases List.mem_singleton.mp h
          omega
    · exact ⟨sA.trans sl, zs, sl _ _ List.not_mem_nil eA, by omega, pz, fun z hz => by have := bz z hz; omega⟩
  rintro A ⟨sA, zs, eA, lz, pz, bz⟩
  walk_at "rd"
  refine x_ctup (sqL eA) fun q hq => ?_
  have sq : SX [] A (upd A q (.tup (zs.map V.int))) := SX.new hq
  have sAll : SX [p] H (upd A q (.tup (zs.map V.int))) := s1.trans (nil_sx (sA.trans sq))
  have nqp : q ≠ p := fun e => (p1.sx sA List.not_mem_nil).there (e ▸ hq)
  exact k q _ zs ((s1.trans (nil_sx sA)).free hq (by simpa using nqp)) sAll (p1.sx (sA.trans sq) List.not_mem_nil) upd_same ⟨pz, fun z hz => by have := bz z hz; omega⟩
end
end M

namespace M
open PySem PySem.Spec PyProof.Rows L2
/-! ### looks: what is plain -/
def srtL (l : List Str) : List Str := l.mergeSort fun a b => decide (a.cps.toList ≤ b.cps.toList)
theorem srtL_perm (l : List Str) : (srtL l).Perm l := List.mergeSort_perm _ _
theorem srtL_pw (l : List Str) : (srtL l).Pairwise leS := by
  refine (List.pairwise_mergeSort (le := fun a b => decide (a.cps.toList ≤ b.cps.toList)) (fun a b c h1 h2 => ?_) (fun a b => ?_) l).imp fun {a b} h => (of_decide_eq_true h : a.cps.toList ≤ b.cps.toList)
  · exact decide_eq_true (List.le_trans (of_decide_eq_true h1) (of_decide_eq_true h2))
  · rcases List.le_total a.cps.toList b.cps.toList with h | h
    · simp [h]
    · simp [h]
theorem srtL_eq {l m : List Str} (p : l.Perm m) : srtL l = srtL m :=
  List.Perm.eq_of_pairwise (fun a b _ _ h1 h2 => leS_antisymm h1 h2) (srtL_pw l) (srtL_pw m) ((srtL_perm l).trans (p.trans (srtL_perm m).symm))
theorem srtL_of {ys l : List Str} (p : ys.Perm l) (s : sortedS ys = true) : ys = srtL l :=
  List.Perm.eq_of_pairwise (fun a b _ _ h1 h2 => leS_antisymm h1 h2) (sortedS_pw s) (srtL_pw l) (p.trans (srtL_perm l).symm)
theorem srtL_mem {l : List Str} {x : Str} : x ∈ srtL l ↔ x ∈ l := (srtL_perm l).mem_iff
/-- a work, as a lot sees it -/
structure Gr where
  steps : Str → List Str
  to : Str → Str → Str
  fin : Str → Bool
  own : Str → Bool
def grOf (ns : List Int) (tbl : List (Str × Stand)) : Gr where
  steps n := match lookA tbl n with
    | some st => srtL (st.rows.map (·.1))
    | none => []
  to n z := match lookA tbl n with
    | some st => (lookA st.rows z).getD default
    | none => default
  fin n := match lookA tbl n with
    | some st => isEnd st
    | none => false
  own n := match lookA tbl n with
    | some st => moverIn ns st
    | none => false
section
variable {ns : List Int} {tbl : List (Str × Stand)} {n : Str} {st : Stand}
theorem gr_steps (e : lookA tbl n = some st) : (grOf ns tbl).steps n = srtL (st.rows.map (·.1)) := by unfold grOf; simp only [e]
theorem gr_to (e : lookA tbl n = some st) (z : Str) : (grOf ns tbl).to n z = (lookA st.rows z).getD default := by unfold grOf; simp only [e]
theorem gr_fin (e : lookA tbl n = some st) : (grOf ns tbl).fin n = isEnd st := by unfold grOf; simp only [e]
theorem gr_own (e : lookA tbl n = some st) : (grOf ns tbl).own n = moverIn ns st := by unfold grOf; simp only [e]
end
theorem gr_tbl {hands : Int} {start : Str} {sts tbl : List (Str × Stand)} (ns : List Int) (o : WorkOk hands start sts) (t : Tbl sts tbl) : grOf ns tbl = grOf ns sts := by
  have non : ∀ n, lookA sts n = none → lookA tbl n = none := fun n h => by
    cases e : lookA tbl n with
    | none => rfl
    | some st =>
      obtain ⟨st', e', _⟩ := t.back n st e
      rw [h] at e'
      cases e'
  unfold grOf
  congr 1
  · funext n
    cases e : lookA sts n with
    | none => rw [non n e]
    | some st =>
      obtain ⟨st', e', ss⟩ := t.on n st e
      rw [e']
      exact srtL_eq (ss.rowsPerm.map _)
  · funext n z
    cases e : lookA sts n with
    | none => rw [non n e]
    | some st =>
      obtain ⟨st', e', ss⟩ := t.on n st e
      rw [e']
      have hn := (o.all _ (lookA_mem e)).2.nd
      show (lookA st'.rows z).getD default = (lookA st.rows z).getD default
      rw [perm_look (rows_nodup hn) ss.rowsPerm]
  · funext n
    cases e : lookA sts n with
    | none => rw [non n e]
    | some st =>
      obtain ⟨st', e', ss⟩ := t.on n st e
      rw [e']
      exact srt_end ss
  · funext n
    cases e : lookA sts n with
    | none => rw [non n e]
    | some st =>
      obtain ⟨st', e', ss⟩ := t.on n st e
      rw [e']
      exact srt_mover ss
/-! ### goals by their looks -/
def mvOk (mv : Option Str) (z : Str) : Bool := match mv with
  | none => true
  | some m => decide (z = m)
def goalsAt (gr : Gr) (mv : Option Str) (s : Str) : List Str := ((gr.steps s).filter (mvOk mv)).map (gr.to s)
def goals (gr : Gr) (K : List Str) (mv : Option Str) : List Str := K.flatMap (goalsAt gr mv)
def addM (r : List Str) (g : Str) : List Str := if g ∈ r then r else r ++ [g]
def addG (look : Str → Str) (rows : List (Str × List Str)) (g : Str) : List (Str × List Str) := putA rows (look g) (addM ((lookA rows (look g)).getD []) g)
def rowsOf (look : Str → Str) (gs : List Str) : List (Str × List Str) := gs.foldl (addG look) []
theorem rowsOf_snoc (look : Str → Str) (gs : List Str) (g : Str) : rowsOf look (gs ++ [g]) = addG look (rowsOf look gs) g := by
  unfold rowsOf
  rw [List.foldl_append]
  rfl
theorem putA_mem' {α : Type} {s : Str} {a : α} {p : Str × α} : ∀ {l : List (Str × α)}, (l.map (·.1)).Nodup → p ∈ putA l s a → (p ∈ l ∧ p.1 ≠ s) ∨ p = (s, a)
  | [], _, h => .inr (List.mem_singleton.mp h)
  | (k, b) :: r, hn, h => by
    have hn : (k :: r.map (·.1)).Nodup := hn
    obtain ⟨n1, n2⟩ := List.nodup_cons.mp hn
    unfold putA at h
    split at h
    · rename_i e
      rcases List.mem_cons.mp h with h | h
      · exact .inr (by rw [h, e])
      · refine .inl ⟨List.mem_cons_of_mem _ h, fun z => n1 ?_⟩
        rw [e, ← z]
        exact List.mem_map.mpr ⟨p, h, rfl⟩
    · rename_i e
      rcases List.mem_cons.mp h with h | h
      · exact .inl ⟨by rw [h]; exact List.mem_cons_self, by rw [h]; exact e⟩
      · exact (putA_mem' n2 h).imp (fun h => ⟨List.mem_cons_of_mem _ h.1, h.2⟩) id
structure RowsOk (look : Str → Str) (gs : List Str) (rows : List (Str × List Str)) : Prop where
  nd : (rows.map (·.1)).Nodup
  each : ∀ q ∈ rows, q.2 ≠ [] ∧ q.2.Nodup ∧ ∀ g ∈ q.2, g ∈ gs ∧ look g = q.1
  all : ∀ g ∈ gs, ∃ r, (look g, r) ∈ rows ∧ g ∈ r
theorem RowsOk.snoc {look : Str → Str} {gs : List Str} {rows : List (Str × List Str)} (o : RowsOk look gs rows) (g : Str) : RowsOk look (gs ++ [g]) (addG look rows g) := by
  have mg : ∀ {r : List Str} {x : Str}, x ∈ addM r g ↔ x ∈ r ∨ x = g := fun {r x} => by
    unfold addM
    split
    · rename_i h
      exact ⟨.inl, fun z => z.elim id fun e => e ▸ h⟩
    · rw [List.mem_append, List.mem_singleton]
  have ndS : ∀ {r : List Str}, r.Nodup → (addM r g).Nodup := fun {r} h => by
    unfold addM
    split
    · exact h
    · rename_i c
      exact nd_snoc h c
  refine ⟨putA_nodup o.nd, fun q hq => ?_, fun x hx => ?_⟩
  · rcases putA_mem' o.nd hq with ⟨h, _⟩ | rfl
    · obtain ⟨h1, h2, h3⟩ := o.each q h
      exact ⟨h1, h2, fun x hx => ⟨List.mem_append_left _ (h3 x hx).1, (h3 x hx).2⟩⟩
    · have ne : addM ((lookA rows (look g)).getD []) g ≠ [] := fun e => by
        have : g ∈ addM ((lookA rows (look g)).getD []) g := mg.mpr (.inr rfl)
        rw [e] at this
        cases this
      cases e : lookA rows (look g) with
      | none =>
        rw [e] at ne
        refine ⟨ne, ndS List.nodup_nil, fun x hx => ?_⟩
        rcases mg.mp (show x ∈ addM [] g from hx) with h | rfl
        · cases h
        · exact ⟨List.mem_append_right _ List.mem_cons_self, rfl⟩
      | some r =>
        rw [e] at ne
        obtain ⟨h1, h2, h3⟩ := o.each _ (lookA_mem e)
        refine ⟨ne, ndS h2, fun x hx => ?_⟩
        rcases mg.mp (show x ∈ addM r g from hx) with h | rfl
        · exact ⟨List.mem_append_left _ (h3 x h).1, (h3 x h).2⟩
        · exact ⟨List.mem_append_right _ List.mem_cons_self, rfl⟩
  · have new : (look g, addM ((lookA rows (look g)).getD []) g) ∈ addG look rows g := putA_has
    have old : ∀ y, y ∈ gs → ∃ r, (look y, r) ∈ addG look rows g ∧ y ∈ r := fun y hy => by
      obtain ⟨r, h1, h2⟩ := o.all y hy
      by_cases c : look y = look g
      · refine ⟨_, by rw [c]; exact new, mg.mpr (.inl ?_)⟩
        rw [← c, lookA_nodup o.nd h1]
        exact h2
      · refine ⟨r, ?_, h2⟩
        have : ∀ (l : List (Str × List Str)), (look y, r) ∈ l → (look y, r) ∈ putA l (look g) (addM ((lookA rows (look g)).getD []) g) := fun l => by
          induction l with
          | nil => intro h; cases h
          | cons q l ih =>
            intro h
            unfold putA
            split
            · rename_i e
              rcases List.mem_cons.mp h with h | h
              · rw [← h] at e
                exact absurd e c
              · exact List.mem_cons_of_mem _ h
            · rcases List.mem_cons.mp h with h | h
              · rw [h]
                exact List.mem_cons_self
              · exact List.mem_cons_of_mem _ (ih h)
        exact this rows h1
    rcases List.mem_append.mp hx with h | h
    · exact old x h
    · cases List.mem_singleton.mp h
      exact ⟨_, new, mg.mpr (.inr rfl)⟩
theorem rows_ok (look : Str → Str) : ∀ gs more : List Str, ∀ rows, RowsOk look gs rows → RowsOk look (gs ++ more) (more.foldl (addG look) rows)
  | gs, [], rows, h => by rw [List.append_nil]; exact h
  | gs, g :: r, rows, h => by
    have := rows_ok look (gs ++ [g]) r _ (h.snoc g)
    rw [List.append_assoc] at this
    exact this
theorem rowsOf_ok (look : Str → Str) (gs : List Str) : RowsOk look gs (rowsOf look gs) := by
  have := rows_ok look [] gs [] ⟨List.nodup_nil, (fun _ h => nomatch h), (fun _ h => nomatch h)⟩
  rw [List.nil_append] at this
  exact this
theorem rowsOf_len (look : Str → Str) (gs : List Str) : (rowsOf look gs).length ≤ gs.length := by
  have : ∀ more : List Str, ∀ rows, (more.foldl (addG look) rows).length ≤ rows.length + more.length := fun more => by
    induction more with
    | nil => intro rows; exact Nat.le_refl _
    | cons g r ih =>
      intro rows
      have h1 := ih (addG look rows g)
      have h2 : (addG look rows g).length ≤ rows.length + 1 := putA_len
      rw [List.foldl_cons, List.length_cons]
      omega
  have := this gs []
  simpa [rowsOf] using this
def afterL (gr : Gr) (look : Str → Str) (K : List Str) (mv : Option Str) : List (Str × List Str) := (rowsOf look (goals gr K mv)).map fun q => (q.1, srtL q.2)
theorem after_keys {gr : Gr} {look : Str → Str} {K : List Str} {mv : Option Str} : (afterL gr look K mv).map (·.1) = (rowsOf look (goals gr K mv)).map (·.1) := by
  unfold afterL
  rw [List.map_map]
  rfl
theorem after_nd {gr : Gr} {look : Str → Str} {K : List Str} {mv : Option Str} : ((afterL gr look K mv).map (·.1)).Nodup := by
  rw [after_keys]
  exact (rowsOf_ok _ _).nd
theorem after_each {gr : Gr} {look : Str → Str} {K : List Str} {mv : Option Str} {q : Str × List Str} (h : q ∈ afterL gr look K mv) : q.2 ≠ [] ∧ q.2.Pairwise ltS ∧ ∀ g ∈ q.2, g ∈ goals gr K mv ∧ look g = q.1 := by
  obtain ⟨p, hp, rfl⟩ := List.mem_map.mp h
  obtain ⟨h1, h2, h3⟩ := (rowsOf_ok look (goals gr K mv)).each p hp
  refine ⟨fun e => h1 ?_, strict_of (srtL_pw _) ((srtL_perm _).nodup_iff.mpr h2), fun g hg => h3 g (srtL_mem.mp hg)⟩
  have := (srtL_perm p.2).length_eq
  change srtL p.2 = [] at e
  rw [e] at this
  exact List.eq_nil_of_length_eq_zero this.symm
theorem after_all {gr : Gr} {look : Str → Str} {K : List Str} {mv : Option Str} {g : Str} (h : g ∈ goals gr K mv) : ∃ r, lookA (afterL gr look K mv) (look g) = some r ∧ g ∈ r := by
  obtain ⟨r, h1, h2⟩ := (rowsOf_ok look (goals gr K mv)).all g h
  refine ⟨srtL r, lookA_nodup after_nd (List.mem_map.mpr ⟨_, h1, rfl⟩), srtL_mem.mpr h2⟩
theorem after_some {gr : Gr} {look : Str → Str} {K : List Str} {mv : Option Str} {g : Str} (h : g ∈ goals gr K mv) : afterL gr look K mv ≠ [] := fun e => by
  obtain ⟨r, h1, _⟩ := after_all (look := look) h
  rw [e] at h1
  cases h1
def hd (K : List Str) : Str := K.headD default
def moves (gr : Gr) (K : List Str) : List (Option Str) := if gr.own (hd K) = true then (gr.steps (hd K)).map some else [none]
/-! ### what can be brought about -/
def goF (gr : Gr) (look : Str → Str) (wl : Str → Bool) (arr : Bool) (S : List Str → Prop) (K : List Str) : Prop :=
  if gr.fin (hd K) = true then K.all wl = arr else if arr = true then ∃ mv ∈ moves gr K, ∀ q ∈ afterL gr look K mv, S q.2 else ∀ mv ∈ moves gr K, ∃ q ∈ afterL gr look K mv, S q.2
def Lfp (gr : Gr) (look : Str → Str) (wl : Str → Bool) (arr : Bool) (K : List Str) : Prop := ∀ S : List Str → Prop, (∀ K', goF gr look wl arr S K' → S K') → S K
section
variable {gr : Gr} {look : Str → Str} {wl : Str → Bool} {arr : Bool}
theorem goF_mono {S S' : List Str → Prop} {K : List Str} (h : ∀ mv ∈ moves gr K, ∀ q ∈ afterL gr look K mv, S q.2 → S' q.2) (g : goF gr look wl arr S K) : goF gr look wl arr S' K := by
  unfold goF at *
  split at g
  · rename_i c
    rw [if_pos c]
    exact g
  · rename_i c
    rw [if_neg c]
    split at g
    · rename_i d
      rw [if_pos d]
      obtain ⟨mv, hm, g⟩ := g
      exact ⟨mv, hm, fun q hq => h mv hm q hq (g q hq)⟩
    · rename_i d
      rw [if_neg d]
      intro mv hm
      obtain ⟨q, hq, g⟩ := g mv hm
      exact ⟨q, hq, h mv hm q hq g⟩
theorem lfp_step {R : List Str → Prop} (hR : ∀ K, R K → Lfp gr look wl arr K) {K : List Str} (g : goF gr look wl arr R K) : Lfp gr look wl arr K := fun S cl => cl K (goF_mono (fun _ _ _ _ h => hR _ h S cl) g)
theorem lfp_in {T R : List Str → Prop} (tc : ∀ K, T K → ∀ mv ∈ moves gr K, ∀ q ∈ afterL gr look K mv, T q.2) (cl : ∀ K, T K → goF gr look wl arr R K → R K) {K : List Str} (hK : T K) (l : Lfp gr look wl arr K) : R K :=
  l (fun K' => T K' → R K') (fun K' g h => cl K' h (goF_mono (fun mv hm q hq z => z (tc K' h mv hm q hq)) g)) hK
end
open Classical in
noncomputable def knB (gr : Gr) (look : Str → Str) (wl : Str → Bool) (arr : Bool) (K : List Str) : Bool := decide (Lfp gr look wl arr K) == arr
theorem knB_of {gr : Gr} {look : Str → Str} {wl : Str → Bool} {arr : Bool} {K : List Str} {b : Bool} (h : b = true ↔ Lfp gr look wl arr K) : (b == arr) = knB gr look wl arr K := by
  unfold knB
  congr 1
  rw [Bool.eq_iff_iff, h]
  exact (@decide_eq_true_iff _ (Classical.propDecidable _)).symm
/-! ### knowledges -/
def GoodK (look : Str → Str) (names : List Str) (K : List Str) : Prop := K ≠ [] ∧ K.Pairwise ltS ∧ (∀ s ∈ K, s ∈ names) ∧ ∀ s ∈ K, look s = look (hd K)
theorem GoodK.hd {look : Str → Str} {names K : List Str} (g : GoodK look names K) : hd K ∈ K ∧ K[0]? = some (M.hd K) := by
  cases K with
  | nil => exact absurd rfl g.1
  | cons a r => exact ⟨List.mem_cons_self, rfl⟩
theorem ltS_irrefl (a : Str) : ¬ ltS a a := List.lt_irrefl _
theorem ltS_nodup {l : List Str} (h : l.Pairwise ltS) : l.Nodup := List.Pairwise.imp (R := ltS) (fun {a b} (h : ltS a b) (e : a = b) => ltS_irrefl a (by rw [← e] at h; exact h)) h
theorem nodup_subA {α : Type} [DecidableEq α] : ∀ {l m : List α}, l.Nodup → (∀ x ∈ l, x ∈ m) → l.length ≤ m.length
  | [], _, _, _ => Nat.zero_le _
  | a :: l, m, hn, hs => by
    obtain ⟨h1, h2⟩ := List.nodup_cons.mp hn
    have h3 := nodup_subA (m := m.erase a) h2 fun x hx => (List.mem_erase_of_ne (by rintro rfl; exact h1 hx)).mpr (hs x (List.mem_cons_of_mem _ hx))
    have h4 := List.length_erase_of_mem (hs a List.mem_cons_self)
    have h5 := List.length_pos_of_mem (hs a List.mem_cons_self)
    rw [List.length_cons]
    omega
theorem ltS_le {a b : Str} (h : ltS a b) : leS a b := List.le_of_lt h
def subsL : List Str → List (List Str)
  | [] => [[]]
  | a :: l => subsL l ++ (subsL l).map (a :: ·)
theorem subsL_len : ∀ l : List Str, (subsL l).length = 2 ^ l.length
  | [] => rfl
  | a :: l => by
    show (subsL l ++ (subsL l).map (a :: ·)).length = _
    rw [List.length_append, List.length_map, subsL_len l, List.length_cons, Nat.pow_succ]
    omega
theorem subsL_mem : ∀ {l K : List Str}, K.Sublist l → K ∈ subsL l
  | [], K, h => by
    rw [List.sublist_nil.mp h]
    exact List.mem_singleton_self _
  | a :: l, K, h => by
    unfold subsL
    rw [List.mem_append]
    cases h with
    | cons _ h => exact .inl (subsL_mem h)
    | cons_cons _ h => exact .inr (List.mem_map.mpr ⟨_, subsL_mem h, rfl⟩)
theorem good_sub {look : Str → Str} {names K : List Str} (hn : names.Nodup) (hs : names.Pairwise leS) (g : GoodK look names K) : K ∈ subsL names := by
  refine subsL_mem ?_
  have nd := ltS_nodup g.2.1
  have pm : K.Perm (names.filter fun s => decide (s ∈ K)) := by
    refine (List.perm_ext_iff_of_nodup nd (List.Nodup.sublist List.filter_sublist hn)).mpr fun s => ?_
    rw [List.mem_filter, decide_eq_true_iff]
    exact ⟨fun h => ⟨g.2.2.1 s h, h⟩, fun h => h.2⟩
  have e : K = names.filter fun s => decide (s ∈ K) := List.Perm.eq_of_pairwise (fun a b _ _ h1 h2 => leS_antisymm h1 h2) (g.2.1.imp ltS_le) (hs.sublist List.filter_sublist) pm
  rw [e]
  exact List.filter_sublist
theorem good_count {look : Str → Str} {names : List Str} {L : List (List Str)} (hn : names.Nodup) (hs : names.Pairwise leS) (h8 : names.length ≤ 8) (nd : L.Nodup) (g : ∀ K ∈ L, GoodK look names K) : L.length ≤ 256 := by
  have h := nodup_subA nd (m := subsL names) fun K h => good_sub hn hs (g K h)
  rw [subsL_len] at h
  exact Nat.le_trans h (Nat.pow_le_pow_right (by decide) h8)
end M

namespace M
open PySem PySem.Spec PyProof.Rows L2
/-! ### what a lot sees of a stand -/
def sortK (ns : List Int) : Stand → Option (Option (Int × List Str))
  | .fin => none
  | .hand h ms => if h ∈ ns then some (some (h, srtL ((Stand.hand h ms).rows.map (·.1)))) else some none
  | .chance _ => some none
theorem sortK_in {ns : List Int} {a : Int} {ms : List (Str × Str)} (h : a ∈ ns) : sortK ns (.hand a ms) = some (some (a, srtL ((Stand.hand a ms).rows.map (·.1)))) := by
  show (if a ∈ ns then _ else _) = _
  rw [if_pos h]
theorem sortK_out {ns : List Int} {a : Int} {ms : List (Str × Str)} (h : a ∉ ns) : sortK ns (.hand a ms) = some none := by
  show (if a ∈ ns then _ else _) = _
  rw [if_neg h]
theorem sortK_eq {ns : List Int} {st st' : Stand} (h : sortK ns st = sortK ns st') : isEnd st = isEnd st' ∧ moverIn ns st = moverIn ns st' ∧ (moverIn ns st = true → srtL (st.rows.map (·.1)) = srtL (st'.rows.map (·.1))) := by
  have fn : sortK ns .fin = none := rfl
  have cn : ∀ c, sortK ns (.chance c) = some none := fun _ => rfl
  cases st with
  | fin =>
    cases st' with
    | fin => exact ⟨rfl, rfl, fun _ => rfl⟩
    | hand a b =>
      rw [fn] at h
      by_cases m : a ∈ ns
      · rw [sortK_in m] at h; cases h
      · rw [sortK_out m] at h; cases h
    | chance b => rw [fn, cn] at h; cases h
  | chance c =>
    cases st' with
    | fin => rw [fn, cn] at h; cases h
    | hand a b =>
      by_cases m : a ∈ ns
      · rw [cn, sortK_in m] at h; cases h
      · exact ⟨rfl, (decide_eq_false m).symm, fun z => by cases z⟩
    | chance b => exact ⟨rfl, rfl, fun z => by cases z⟩
  | hand c d =>
    by_cases m : c ∈ ns
    · rw [sortK_in m] at h
      cases st' with
      | fin => rw [fn] at h; cases h
      | chance b => rw [cn] at h; cases h
      | hand a b =>
        by_cases m' : a ∈ ns
        · rw [sortK_in m'] at h
          injection h with h
          injection h with h
          injection h with h1 h2
          exact ⟨rfl, by show decide (c ∈ ns) = decide (a ∈ ns); rw [h1], fun _ => h2⟩
        · rw [sortK_out m'] at h; cases h
    · rw [sortK_out m] at h
      cases st' with
      | fin => rw [fn] at h; cases h
      | chance b => exact ⟨rfl, decide_eq_false m, fun z => absurd (of_decide_eq_true z) m⟩
      | hand a b =>
        by_cases m' : a ∈ ns
        · rw [sortK_in m'] at h; cases h
        · exact ⟨rfl, (decide_eq_false m).trans (decide_eq_false m').symm, fun z => absurd (of_decide_eq_true z) m⟩
theorem sortK_srt {ns : List Int} {st st' : Stand} (ss : SrtStand st st') : sortK ns st' = sortK ns st := by
  cases st with
  | fin => cases st' <;> first | exact ss.elim | rfl
  | chance c => cases st' <;> first | exact ss.elim | rfl
  | hand c d =>
    cases st' with
    | fin => exact ss.elim
    | chance b => exact ss.elim
    | hand a b =>
      have h1 : a = c := by first | exact ss.1 | exact ss.1.symm
      subst h1
      by_cases m : a ∈ ns
      · rw [sortK_in m, sortK_in m, srtL_eq (ss.rowsPerm.map _)]
      · rw [sortK_out m, sortK_out m]
def sortV (k : Option (Option (Int × List Str))) (u : Addr) : List V := match k with
  | none => [.str "end"]
  | some none => [.str "other"]
  | some (some (h, _)) => [.str "own", .int h, .ref u]
def sortYs (k : Option (Option (Int × List Str))) : List Str := match k with
  | some (some (_, ys)) => ys
  | _ => []
def rSrt : RR (Option (Option (Int × List Str))) := fun H v k => ∃ t u, v = .ref t ∧ H t = some (.tup (sortV k u)) ∧ ((∃ h ys, k = some (some (h, ys))) → H u = some (.tup ((sortYs k).map V.str)))
theorem mono_Srt : Mono rSrt := fun _ _ _ _ e ⟨t, u, h1, h2, h3⟩ => ⟨t, u, h1, e.tup _ _ h2, fun z => e.tup _ _ (h3 z)⟩
def sortD (k : Option (Option (Int × List Str))) : PyData := match k with
  | none => .tuple [.str "end"]
  | some none => .tuple [.str "other"]
  | some (some (h, ys)) => .tuple [.str "own", .int h, .tuple ((ys.map V.str).map dv)]
def SortOk (k : Option (Option (Int × List Str))) : Prop := ∀ s ∈ sortYs k, nameB s = true
theorem okS {ys : List Str} (h : ∀ s ∈ ys, nameB s = true) : ∀ x ∈ ys.map V.str, okV x = true := fun x hx => by
  obtain ⟨s, hs, rfl⟩ := List.mem_map.mp hx
  exact nameB_strOk (h s hs)
theorem dp_srt {K : PySem.W.Frag} {H : Hp} {v : V} {k : Option (Option (Int × List Str))} (h : rSrt H v k) (ok : SortOk k) : Dp K H v (sortD k) := by
  obtain ⟨t, u, rfl, h1, h2⟩ := h
  cases k with
  | none => exact .tup (sqT h1) (.cons (.str _) .nil)
  | some k =>
    cases k with
    | none => exact .tup (sqT h1) (.cons (.str _) .nil)
    | some p => exact .tup (sqT h1) (.cons (.str _) (.cons (.int _) (.cons (.tup (sqT (h2 ⟨_, _, rfl⟩)) (dp_all (okS ok))) .nil)))
theorem lay_srt {k : Option (Option (Int × List Str))} (ok : SortOk k) : (sortD k).canLay0 = true ∧ (sortD k).depth ≤ 2 := by
  cases k with
  | none => exact ⟨by decide +kernel, by decide +kernel⟩
  | some k =>
    cases k with
    | none => exact ⟨by decide +kernel, by decide +kernel⟩
    | some p =>
      obtain ⟨a, b⟩ := lay_all (okS ok)
      refine ⟨?_, ?_⟩
      · show PyData.canLay0 (.tuple [.str "own", .int p.1, .tuple ((p.2.map V.str).map dv)]) = true
        simp only [PyData.canLay0, PyData.canLayAll0, Bool.and_true]
        rw [show ((sortYs (some (some p))).map V.str).map dv = (p.2.map V.str).map dv from rfl] at a
        rw [a]
        decide +kernel
      · show PyData.depth (.tuple [.str "own", .int p.1, .tuple ((p.2.map V.str).map dv)]) ≤ 2
        simp only [PyData.depth, PyData.depthAll]
        rw [show ((sortYs (some (some p))).map V.str).map dv = (p.2.map V.str).map dv from rfl] at b
        rw [b]
        decide
theorem x_neSrt {K : PySem.W.Frag} {H : Hp} {Q : VK} {v u : V} {k : Option (Option (Int × List Str))} (h1 : rSrt H v k) (h2 : rSrt H u k) (ok : SortOk k) (q : Q (.bl false) H) : rNeD K v u H Q := by
  obtain ⟨a, b⟩ := lay_srt ok
  have sh : SeqAt.shaped (sortD k) = true := by
    unfold SeqAt.shaped
    rw [Bool.and_eq_true]
    exact ⟨a, decide_eq_true (by omega)⟩
  exact ⟨_, _, dp_srt h1 ok, dp_srt h2 ok, sh, sh, by rw [SeqAt.eqv_refl _ a]; exact q⟩
theorem StandOk.rows {h : Int} {names : List Str} {st : Stand} (o : StandOk h names st) : ∀ z ∈ st.rows.map (·.1), nameB z = true := by
  cases st with
  | fin => intro z hz; cases hz
  | hand a ms =>
    intro z hz
    obtain ⟨q, hq, rfl⟩ := List.mem_map.mp hz
    exact (o.2.2.2.2.2 q hq).1
  | chance ds =>
    intro z hz
    obtain ⟨q, hq, rfl⟩ := List.mem_map.mp hz
    obtain ⟨p, hp, rfl⟩ := List.mem_map.mp hq
    exact (o.2.2.2 p hp).1
/-- the names of all steps are names -/
def RowNm (tbl : List (Str × Stand)) : Prop := ∀ q ∈ tbl, ∀ z ∈ q.2.rows.map (·.1), nameB z = true
theorem WorkOk.rowNm {hands : Int} {start : Str} {sts : List (Str × Stand)} (o : WorkOk hands start sts) : RowNm sts := fun q hq => (o.all q hq).2.rows
theorem RowNm.tbl {sts tbl : List (Str × Stand)} (r : RowNm sts) (t : Tbl sts tbl) : RowNm tbl := fun q hq z hz => by
  obtain ⟨st, e, ss⟩ := t.all q hq
  exact r _ (lookA_mem e) z ((ss.rowsPerm.map _).mem_iff.mp hz)
theorem sortK_ok {ns : List Int} {tbl : List (Str × Stand)} {n : Str} {st : Stand} (r : RowNm tbl) (e : lookA tbl n = some st) : SortOk (sortK ns st) := fun s hs => by
  cases st with
  | fin => cases hs
  | chance c => cases hs
  | hand a ms =>
    by_cases m : a ∈ ns
    · rw [sortK_in m] at hs
      exact r _ (lookA_mem e) s (srtL_mem.mp hs)
    · rw [sortK_out m] at hs
      cases hs
def lookOf (looks : List (Str × Str)) (n : Str) : Str := (lookA looks n).getD default
/-- looks that fit -/
structure LooksOk (ns : List Int) (tbl : List (Str × Stand)) (looks : List (Str × Str)) : Prop where
  nd : (looks.map (·.1)).Nodup
  key : ∀ n, n ∈ looks.map (·.1) ↔ n ∈ tbl.map (·.1)
  nm : ∀ q ∈ looks, nameB q.2 = true
  same : ∀ s t st st', lookA tbl s = some st → lookA tbl t = some st' → lookOf looks s = lookOf looks t → sortK ns st = sortK ns st'
theorem LooksOk.at_ {ns : List Int} {tbl : List (Str × Stand)} {looks : List (Str × Str)} (o : LooksOk ns tbl looks) {n : Str} (h : n ∈ tbl.map (·.1)) : lookA looks n = some (lookOf looks n) := by
  obtain ⟨l, e⟩ := lookA_some ((o.key n).mpr h)
  unfold lookOf
  rw [e]
  rfl
theorem LooksOk.tbl {hands : Int} {start : Str} {ns : List Int} {sts tbl : List (Str × Stand)} {looks : List (Str × Str)} (l : LooksOk ns sts looks) (o : WorkOk hands start sts) (t : Tbl sts tbl) : LooksOk ns tbl looks := by
  refine ⟨l.nd, fun n => (l.key n).trans t.perm.mem_iff.symm, l.nm, fun s u st st' h1 h2 e => ?_⟩
  obtain ⟨a, ea, sa⟩ := t.back _ _ h1
  obtain ⟨b, eb, sb⟩ := t.back _ _ h2
  rw [sortK_srt sa, sortK_srt sb]
  exact l.same s u a b ea eb e
/-! ### rows of goals in the heap -/
def rCell (o : List Str → HO → Prop) : RR (List Str) := fun H v row => ∃ d ob, v = .ref d ∧ H d = some ob ∧ o row ob
structure GI (o : List Str → HO → Prop) (fr : Addr → Prop) (A : Hp) (F : Addr) (rows : List (Str × List Str)) : Prop where
  kv : ∃ kvF, A F = some (.dK kvF) ∧ KVs (rCell o) A kvF rows ∧ (kvF.map (·.2)).Nodup ∧ ∀ v ∈ kvF.map (·.2), ∃ d, v = .ref d ∧ d ≠ F ∧ fr d
  nd : (rows.map (·.1)).Nodup
theorem kvs_there {o : List Str → HO → Prop} {A : Hp} : ∀ {kvs : List (Key × V)} {l : List (Str × List Str)}, KVs (rCell o) A kvs l → ∀ v ∈ kvs.map (·.2), ∃ d ob, v = .ref d ∧ A d = some ob
  | _, _, .nil, v, h => by cases h
  | _, _, .cons h t, v, m => by
    rcases List.mem_cons.mp m with m | m
    · obtain ⟨d, ob, e1, e2, _⟩ := h.2
      exact ⟨d, ob, Eq.trans m e1, e2⟩
    · exact kvs_there t v m
theorem GI.fr {o : List Str → HO → Prop} {fr fr' : Addr → Prop} {A : Hp} {F : Addr} {rows : List (Str × List Str)} (g : GI o fr A F rows) (h : ∀ d, fr d → A d ≠ none → fr' d) : GI o fr' A F rows := by
  obtain ⟨kvF, h1, h2, h3, h4⟩ := g.kv
  refine ⟨⟨kvF, h1, h2, h3, fun v hv => ?_⟩, g.nd⟩
  obtain ⟨d, e, n, f⟩ := h4 v hv
  obtain ⟨d', ob, e', hd⟩ := kvs_there h2 v hv
  rw [e] at e'
  cases e'
  exact ⟨d, e, n, h d f (by rw [hd]; exact fun z => nomatch z)⟩
theorem kvs_imp {α : Type} {R S : RR α} {A B : Hp} : ∀ {kvs : List (Key × V)} {l : List (Str × α)}, (∀ v ∈ kvs.map (·.2), ∀ a, R A v a → S B v a) → KVs R A kvs l → KVs S B kvs l
  | _, _, _, .nil => .nil
  | _, _, h, .cons h1 t => .cons ⟨h1.1, h _ List.mem_cons_self _ h1.2⟩ (kvs_imp (fun v hv => h v (List.mem_cons_of_mem _ hv)) t)
theorem rCell.sx {o : List Str → HO → Prop} {A B : Hp} (s : SX [] A B) {v : V} {row : List Str} (h : rCell o A v row) : rCell o B v row := by
  obtain ⟨d, ob, h1, h2, h3⟩ := h
  exact ⟨d, ob, h1, s _ _ List.not_mem_nil h2, h3⟩
theorem GI.sx {o : List Str → HO → Prop} {fr : Addr → Prop} {A B : Hp} {F : Addr} {rows : List (Str × List Str)} (g : GI o fr A F rows) (s : SX [] A B) : GI o fr B F rows := by
  obtain ⟨kvF, h1, h2, h3, h4⟩ := g.kv
  exact ⟨⟨kvF, s _ _ List.not_mem_nil h1, kvs_imp (fun v _ a h => h.sx s) h2, h3, h4⟩, g.nd⟩
theorem updIn {o : List Str → HO → Prop} {A : Hp} {d : Addr} {ob : HO} {l : Str} {r' : List Str} (ho : o r' ob) : ∀ {kvs : List (Key × V)} {rows : List (Str × List Str)}, (kvs.map (·.2)).Nodup → (rows.map (·.1)).Nodup → valV kvs (Sum.inr l) = some (.ref d) → KVs (rCell o) A kvs rows → KVs (rCell o) (upd A d ob) kvs (putA rows l r')
  | _, _, _, _, e, .nil => by cases e
  | kv :: kvs, (y, a) :: rows, hn, kn, e, .cons h t => by
    have hn : (kv.2 :: kvs.map (·.2)).Nodup := hn
    have kn : (y :: rows.map (·.1)).Nodup := kn
    obtain ⟨n1, n2⟩ := List.nodup_cons.mp hn
    obtain ⟨m1, m2⟩ := List.nodup_cons.mp kn
    have keep : ∀ v a, v ≠ V.ref d → rCell o A v a → rCell o (upd A d ob) v a := by
      rintro v a nv ⟨d', ob', rfl, h2, h3⟩
      exact ⟨d', ob', rfl, by rw [upd_ne (fun e => nv (by rw [e]))]; exact h2, h3⟩
    unfold putA
    by_cases c : y = l
    · rw [if_pos c]
      have e1 : kv.2 = .ref d := by
        rw [valV_pos (by rw [h.1, c])] at e
        injection e
      refine .cons ⟨h.1, d, ob, e1, upd_same, ho⟩ (kvs_imp (fun v hv a h => keep v a (fun z => n1 ?_) h) t)
      rw [e1, ← z]
      exact hv
    · rw [if_neg c]
      have e1 : valV kvs (Sum.inr l) = some (.ref d) := by
        rw [valV_neg (by rw [h.1]; exact fun z => c (Sum.inr.inj z))] at e
        exact e
      refine .cons ⟨h.1, keep _ _ (fun z => n1 ?_) h.2⟩ (updIn ho n2 m2 e1 t)
      unfold valV at e1
      obtain ⟨p, hp, hp2⟩ := Option.map_eq_some_iff.mp e1
      rw [z, ← hp2]
      exact List.mem_map.mpr ⟨p, List.mem_of_find?_eq_some hp, rfl⟩
theorem GI.old {o : List Str → HO → Prop} {fr : Addr → Prop} {A : Hp} {F : Addr} {rows : List (Str × List Str)} (g : GI o fr A F rows) {l : Str} {r : List Str} (e : lookA rows l = some r) :
    ∃ kvF d ob, A F = some (.dK kvF) ∧ kvF.length = rows.length ∧ valV kvF (Sum.inr l) = some (.ref d) ∧ A d = some ob ∧ o r ob ∧ d ≠ F ∧ fr d ∧ ∀ ob' r', o r' ob' → GI o fr (upd A d ob') F (putA rows l r') := by
  obtain ⟨kvF, h1, h2, h3, h4⟩ := g.kv
  obtain ⟨v, ev, d, ob, rfl, hd, ho⟩ := h2.at_ e
  have mv : V.ref d ∈ kvF.map (·.2) := by
    unfold valV at ev
    obtain ⟨p, hp, hp2⟩ := Option.map_eq_some_iff.mp ev
    exact List.mem_map.mpr ⟨p, List.mem_of_find?_eq_some hp, hp2⟩
  obtain ⟨d', e1, n1, n2⟩ := h4 _ mv
  cases e1
  refine ⟨kvF, d, ob, h1, Paired.length h2, ev, hd, ho, n1, n2, fun ob' r' ho' => ⟨⟨kvF, by rw [upd_ne (Ne.symm n1)]; exact h1, updIn ho' h3 g.nd ev h2, h3, h4⟩, putA_nodup g.nd⟩⟩
theorem GI.new {o : List Str → HO → Prop} {fr : Addr → Prop} {A : Hp} {F p : Addr} {rows : List (Str × List Str)} (g : GI o fr A F rows) {l : Str} (e : lookA rows l = none) (hp : A p = none) (hp0 : fr p) {ob : HO} {r0 : List Str} (ho : o r0 ob) :
    ∃ kvF, A F = some (.dK kvF) ∧ kvF.length = rows.length ∧ valV kvF (Sum.inr l) = none ∧ F ≠ p ∧ GI o fr (upd (upd A p ob) F (.dK (putK kvF (Sum.inr l) (.ref p)))) F (putA rows l r0) := by
  obtain ⟨kvF, h1, h2, h3, h4⟩ := g.kv
  have nl : l ∉ rows.map (·.1) := fun m => by
    obtain ⟨a, ea⟩ := lookA_some m
    rw [e] at ea
    cases ea
  have ek := h2.keys
  have ev : valV kvF (Sum.inr l) = none := by
    rcases h2.look l with ⟨v, a, _, h, _⟩ | ⟨h, _⟩
    · rw [e] at h; cases h
    · exact h
  have nF : F ≠ p := ne_of_none h1 hp
  have np : V.ref p ∉ kvF.map (·.2) := fun m => by
    have : ∀ {kvs : List (Key × V)} {l : List (Str × List Str)}, KVs (rCell o) A kvs l → V.ref p ∈ kvs.map (·.2) → False := by
      intro kvs l h
      induction h with
      | nil => intro m; cases m
      | cons h t ih =>
        intro m
        rcases List.mem_cons.mp m with m | m
        · obtain ⟨d, ob, e1, e2, _⟩ := h.2
          have m2 := Eq.trans m e1
          cases m2
          rw [hp] at e2
          cases e2
        · exact ih m
    exact this h2 m
  refine ⟨kvF, h1, Paired.length h2, ev, nF, ⟨⟨_, upd_same, ?_, ?_, ?_⟩, putA_nodup g.nd⟩⟩
  · rw [putK_fresh _ ek nl, putA_fresh nl]
    refine Paired.app (kvs_imp (fun v hv a h => ?_) h2) (.cons ⟨rfl, p, ob, rfl, by rw [upd_ne (Ne.symm nF), upd_same], ho⟩ .nil)
    obtain ⟨d, ob', rfl, h5, h6⟩ := h
    obtain ⟨d', e1, n1, n2⟩ := h4 _ hv
    cases e1
    exact ⟨d, ob', rfl, by rw [upd_ne n1, upd_ne (fun z => np (by rw [← z]; exact hv))]; exact h5, h6⟩
  · rw [putK_fresh _ ek nl, List.map_append]
    exact List.nodup_append.mpr ⟨h3, List.nodup_cons.mpr ⟨List.not_mem_nil, List.nodup_nil⟩, fun a ha b hb z => by
      cases List.mem_singleton.mp hb
      exact np (by rw [show V.ref p = a from z.symm]; exact ha)⟩
  · rw [putK_fresh _ ek nl, List.map_append]
    intro v hv
    rcases List.mem_append.mp hv with h | h
    · exact h4 v h
    · cases List.mem_singleton.mp h
      exact ⟨p, rfl, Ne.symm nF, hp0⟩
theorem putA_putA {α : Type} (s : Str) (a b : α) : ∀ l : List (Str × α), putA (putA l s a) s b = putA l s b
  | [] => by show putA [(s, a)] s b = [(s, b)]; unfold putA; rw [if_pos rfl]
  | (k, c) :: r => by
    by_cases h : k = s
    · have e1 : putA ((k, c) :: r) s a = (k, a) :: r := by conv => lhs; unfold putA; rw [if_pos h]
      rw [e1]
      conv => lhs; unfold putA; rw [if_pos h]
      conv => rhs; unfold putA; rw [if_pos h]
    · have e1 : putA ((k, c) :: r) s a = (k, c) :: putA r s a := by conv => lhs; unfold putA; rw [if_neg h]
      rw [e1]
      conv => lhs; unfold putA; rw [if_neg h, putA_putA s a b r]
      conv => rhs; unfold putA; rw [if_neg h]
theorem lookA_putA {α : Type} (s : Str) (a : α) : ∀ l : List (Str × α), lookA (putA l s a) s = some a
  | [] => by show lookA [(s, a)] s = some a; unfold lookA; rw [if_pos rfl]
  | (k, c) :: r => by
    unfold putA
    by_cases h : k = s
    · rw [if_pos h]; unfold lookA; rw [if_pos h]
    · rw [if_neg h]; unfold lookA; rw [if_neg h]; exact lookA_putA s a r
theorem addG_some {look : Str → Str} {rows : List (Str × List Str)} {g : Str} {r : List Str} (e : lookA rows (look g) = some r) : addG look rows g = putA rows (look g) (addM r g) := by unfold addG; rw [e]; rfl
theorem addG_none {look : Str → Str} {rows : List (Str × List Str)} {g : Str} (e : lookA rows (look g) = none) : addG look rows g = putA (putA rows (look g) []) (look g) [g] := by unfold addG; rw [e, putA_putA]; rfl
theorem goalsAt_len {gr : Gr} {mv : Option Str} {s : Str} : (goalsAt gr mv s).length ≤ (gr.steps s).length := by
  unfold goalsAt
  rw [List.length_map]
  exact List.length_filter_le _ _
theorem goals_take {gr : Gr} {K : List Str} {mv : Option Str} {i : Nat} {s : Str} (h : K[i]? = some s) : goals gr (K.take (i + 1)) mv = goals gr (K.take i) mv ++ goalsAt gr mv s := by
  unfold goals
  rw [take_succ_of h, List.flatMap_append]
  simp
theorem goals_len {gr : Gr} {mv : Option Str} : ∀ {K : List Str}, (∀ s ∈ K, (gr.steps s).length ≤ 4) → (goals gr K mv).length ≤ 4 * K.length
  | [], _ => Nat.le_refl _
  | s :: K, h => by
    have h1 := goals_len (mv := mv) fun t ht => h t (List.mem_cons_of_mem _ ht)
    have h2 := h s List.mem_cons_self
    have h3 := goalsAt_len (gr := gr) (mv := mv) (s := s)
    unfold goals at *
    rw [List.flatMap_cons, List.length_append, List.length_cons]
    omega
def mvV : Option Str → V
  | none => .non
  | some m => .str m
end M

namespace M
open PySem PySem.Spec PyProof.Rows L2
theorem map_self (l : List Str) : (l.map fun m => (m, m)).map (·.1) = l := by
  rw [List.map_map]
  exact List.map_id l
section
variable {P : Program} {w : World} {K : PySem.W.Frag} {mg : Str → Option Value} {base : Heap}
def sp_sight_sort (T : Tx K mg) : Sp := fun vs H Q _ => ∃ (x lt : Addr) (s : Str) (hands : Int) (start : Str) (tbl : List (Str × Stand)) (ns : List Int) (st : Stand), vs = [.ref x, .ref lt, .str s] ∧ WorkAt T H x hands start tbl ∧ SqT K H lt (ns.map V.int) ∧ lookA tbl s = some st ∧
  ∀ (q : Addr) (H' : Hp), SX [] H H' → rSrt H' (.ref q) (sortK ns st) → Q (.ref q) H'
theorem ok_sight_sort (T : Tx K mg) : FnOk P w K mg base CX0 3 T.sight_sort.f T.sight_sort.fd P_sight_sort (sp_sight_sort T) := by
  refine T.sight_sort.F.ok sc_sight_sort (fun vs H Q E h => ?_) (fun cdv A outer s H vs Q E hr h => ?_)
  · obtain ⟨x, lt, s, hands, start, tbl, ns, st, rfl, wa, ht, est, k⟩ := h
    rfl
  have hu := hu_of hr
  have nd := sc_sight_sort.nd
  obtain ⟨x, lt, s, hands, start, tbl, ns, st, rfl, wa, ht, est, k⟩ := h
  refine ⟨_, (pss_cons (ps_if (pt_cmpR op_eq (pe_meth (pv 0) T.cl_Work T.me_Work_kind (ok_Work_kind (P := P) (w := w) T) (hr.mono (by decide)) T.Work_kind.B .nil pass0 (pa_cons (pv 2) pa_nil)) pe_str (nomark _)) (pss_one (ps_ret (pe_tup (pa_cons pe_str pa_nil)))) pss_nil)
      (pss_cons (ps_if (pt_cmpR (w_in (K := K) rfl) (pe_meth (pv 0) T.cl_Work T.me_Work_mover (ok_Work_mover (P := P) (w := w) T) (hr.mono (by decide)) T.Work_mover.B .nil pass0 (pa_cons (pv 2) pa_nil)) (pv 1) (by rfl)) (pss_one (ps_ret (pe_tup (pa_cons pe_str (pa_cons (pe_meth (pv 0) T.cl_Work T.me_Work_mover (ok_Work_mover (P := P) (w := w) T) (hr.mono (by decide)) T.Work_mover.B .nil pass0 (pa_cons (pv 2) pa_nil)) (pa_cons (pe_callTy (w_tup (K := K) rfl) (by rfl) T.b_tuple (by decide +kernel) (pa_cons (pe_meth (pv 0) T.cl_Work T.me_Work_steps (ok_Work_steps (P := P) (w := w) T) (hr.mono (by decide)) T.Work_steps.B .nil pass0 (pa_cons (pv 2) pa_nil)) pa_nil)) pa_nil)))))) pss_nil)
      (pss_one (ps_ret (pe_tup (pa_cons pe_str pa_nil)))))), ?_⟩
  refine x_start (σ' := [some _, some _, some _]) rfl ?_
  try simp only [cx_n, cx_K, cx_w, cx_P]
  obtain ⟨dx, d, nm, en, hx, _⟩ := id wa.ex
  walk_at "rd"
  refine x_meth ?_
  walk_at "rd"
  refine x_me hx (work_none (by decide +kernel)) ?_
  walk_at "rd"
  refine ⟨x, hands, start, s, tbl, st, rfl, wa, est, ?_⟩
  walk_at "rd"
  rw [kind_end]
  refine x_cases (fun c => ?_) (fun c => ?_)
  · have e0 : st = .fin := by cases st <;> first | rfl | cases c
    subst e0
    walk_at "rd"
    exact ⟨Nat.le_of_ble_eq_true rfl, fun q hq => k q _ (SX.new hq) ⟨q, q, rfl, upd_same, fun z => by obtain ⟨_, _, z⟩ := z; cases z⟩⟩
  · walk_at "rd"
    refine x_meth ?_
    walk_at "rd"
    refine x_me hx (work_none (by decide +kernel)) ?_
    walk_at "rd"
    refine ⟨x, hands, start, s, tbl, st, rfl, wa, est, ?_⟩
    walk_at "rd"
    refine ⟨lt, _, rfl, .inr ht, by cases st <;> rfl, flat_ints ns, ?_⟩
    rw [inV_mover]
    walk_at "rd"
    refine x_cases (fun c1 => ?_) (fun c1 => ?_)
    · cases st with
      | fin => cases c1
      | chance _ => cases c1
      | hand h ms =>
        have m : h ∈ ns := of_decide_eq_true c1
        walk_at "rd"
        refine x_meth ?_
        walk_at "rd"
        refine x_me hx (work_none (by decide +kernel)) ?_
        walk_at "rd"
        refine ⟨x, hands, start, s, tbl, _, rfl, wa, est, ?_⟩
        walk_at "rd"
        refine x_meth ?_
        walk_at "rd"
        refine x_me hx (work_none (by decide +kernel)) ?_
        walk_at "rd"
        refine ⟨x, hands, start, s, tbl, _, rfl, wa, est, fun p H1 ys hp s1 ep pp sy => ?_⟩
        walk_at "rd"
        refine x_ctup (sqL ep) fun u hu => ?_
        have s2 : SX [] H1 (upd H1 u (.tup (ys.map V.str))) := SX.new hu
        refine ⟨Nat.le_of_ble_eq_true rfl, fun q hq => ?_⟩
        have s3 : SX [] (upd H1 u (.tup (ys.map V.str))) (upd (upd H1 u (.tup (ys.map V.str))) q (.tup [.str "own", moverV (.hand h ms), .ref u])) := SX.new hq
        refine k q _ ((s1.trans s2).trans s3) ⟨q, u, rfl, ?_, fun _ => ?_⟩
        · rw [sortK_in m]
          exact upd_same
        · rw [sortK_in m]
          refine s3 _ _ List.not_mem_nil ?_
          rw [upd_same, srtL_of pp sy]
          rfl
    · walk_at "rd"
      refine ⟨Nat.le_of_ble_eq_true rfl, fun q hq => k q _ (SX.new hq) ?_⟩
      have e1 : sortK ns st = some none := by
        cases st with
        | fin => cases c
        | chance _ => rfl
        | hand h ms => exact sortK_out (of_decide_eq_false c1)
      rw [e1]
      exact ⟨q, q, rfl, upd_same, fun z => by obtain ⟨_, _, z⟩ := z; cases z⟩
def sp_is_own (T : Tx K mg) : Sp := fun vs H Q _ => ∃ (x lt kn : Addr) (hands : Int) (start : Str) (tbl : List (Str × Stand)) (ns : List Int) (kn0 : List Str) (st : Stand), vs = [.ref x, .ref lt, .ref kn] ∧ WorkAt T H x hands start tbl ∧ SqT K H lt (ns.map V.int) ∧ SqT K H kn (kn0.map V.str) ∧ kn0 ≠ [] ∧ lookA tbl (hd kn0) = some st ∧
  Q (.bl (moverIn ns st)) H
theorem ok_is_own (T : Tx K mg) : FnOk P w K mg base CX0 3 T.is_own.f T.is_own.fd P_is_own (sp_is_own T) := by
  refine T.is_own.F.ok sc_is_own (fun vs H Q E h => ?_) (fun cdv A outer s H vs Q E hr h => ?_)
  · obtain ⟨x, lt, kn, hands, start, tbl, ns, kn0, st, rfl, wa, ht, hk, ne, est, k⟩ := h
    rfl
  have hu := hu_of hr
  have nd := sc_is_own.nd
  obtain ⟨x, lt, kn, hands, start, tbl, ns, kn0, st, rfl, wa, ht, hk, ne, est, k⟩ := h
  refine ⟨_, (pss_cons (ps_set (i := 3) nd rfl (Or.inl rfl) (pe_meth (pv 0) T.cl_Work T.me_Work_mover (ok_Work_mover (P := P) (w := w) T) (hr.mono (by decide)) T.Work_mover.B .nil pass0 (pa_cons (pe_ix (w_ixT (K := K) rfl) (pv 2) pe_int (fun _ _ => rfl)) pa_nil)))
      (pss_one (ps_ret (pe_and (pe_cmpR op_notNo (pv 3) pe_non (nomark _)) (pe_one (pe_cmpR (w_in (K := K) rfl) (pv 3) (pv 1) (by rfl))))))), ?_⟩
  refine x_start (σ' := [some _, some _, some _, none]) rfl ?_
  try simp only [cx_n, cx_K, cx_w, cx_P]
  obtain ⟨dx, d, nm, en, hx, _⟩ := id wa.ex
  have a0 : atI (kn0.map V.str) (0 : Int) = some (.str (hd kn0)) := by
    cases kn0 with
    | nil => exact absurd rfl ne
    | cons a r => exact atI_nat (j := 0) rfl
  walk_at "rd"
  refine x_meth ?_
  walk_at "rd"
  refine x_me hx (work_none (by decide +kernel)) ?_
  walk_at "rd"
  refine x_ixT hk a0 ?_
  refine ⟨x, hands, start, _, tbl, st, rfl, wa, est, ?_⟩
  walk_at "rd"
  have im := inV_mover (ns := ns) st
  cases st with
  | fin =>
    walk_at "rd"
    exact k
  | chance c =>
    walk_at "rd"
    exact k
  | hand h ms =>
    walk_at "rd"
    rw [if_pos (show (!decide (moverV (Stand.hand h ms) = V.non)) = true from rfl)]
    walk_at "rd"
    refine ⟨lt, _, rfl, .inr ht, rfl, flat_ints ns, ?_⟩
    rw [im]
    exact k
end
end M

namespace M
open PySem PySem.Spec PyProof.Rows L2
def oD (row : List Str) (ob : HO) : Prop := ∃ kv, ob = .dK kv ∧ kv.map (·.1) = row.map Sum.inr
def oL (row : List Str) (ob : HO) : Prop := ob = .lst (row.map V.str)
theorem putK_addM {kv : List (Key × V)} {row : List Str} {g : Str} {v : V} (h : kv.map (·.1) = row.map Sum.inr) : (putK kv (Sum.inr g) v).map (·.1) = (addM row g).map Sum.inr := by
  unfold addM
  by_cases c : g ∈ row
  · rw [if_pos c]
    unfold putK
    have : (kv.any fun x => decide (x.1 = Sum.inr g)) = true := by
      have m : (Sum.inr g : Key) ∈ kv.map (·.1) := by rw [h]; exact List.mem_map.mpr ⟨g, c, rfl⟩
      obtain ⟨q, hq, e⟩ := List.mem_map.mp m
      rw [List.any_eq_true]
      exact ⟨q, hq, decide_eq_true e⟩
    rw [if_pos this, List.map_map, ← h]
    refine List.map_congr_left fun q _ => ?_
    show (if q.1 = Sum.inr g then (q.1, v) else q).1 = q.1
    split <;> rfl
  · rw [if_neg c, putK_fresh v h c, List.map_append, h, List.map_append]
    rfl
theorem str_key (l : List Str) : (l.map (Sum.inr : Str → Key)).map kV = l.map V.str := by
  rw [List.map_map]
  rfl
theorem row_len {gs r : List Str} {look : Str → Str} {q : Str} (h : lookA (rowsOf look gs) q = some r) : r.length ≤ gs.length := by
  obtain ⟨_, h2, h3⟩ := (rowsOf_ok look gs).each _ (lookA_mem h)
  exact nodup_sub h2 fun x hx => (h3 x hx).1
theorem gr_len {ns : List Int} {start : Str} {tbl : List (Str × Stand)} (to : TbOk start tbl) (s : Str) : ((grOf ns tbl).steps s).length ≤ 4 := by
  cases e : lookA tbl s with
  | none => unfold grOf; simp only [e]; exact Nat.zero_le _
  | some st =>
    rw [gr_steps e, (srtL_perm _).length_eq, List.length_map, rows_tos_len, tos_len]
    exact (to.look e).2.1
theorem x_mvC {A B E : Prop} {mv : Option Str} {z : Str} (hE : ∀ m, mv = some m → (if decide (V.str z = V.str m) = true then A else B) → E) (ha : mvOk mv z = true → A) (hb : mvOk mv z = false → B) : if decide (mvV mv = V.non) = true then (if true = true then A else B) else E := by
  cases mv with
  | none =>
    rw [if_pos (show decide (mvV none = V.non) = true from rfl), if_pos rfl]
    exact ha rfl
  | some m =>
    rw [if_neg (show ¬ decide (mvV (some m) = V.non) = true from by exact (by decide : ¬ false = true))]
    refine hE m rfl ?_
    by_cases c : z = m
    · rw [if_pos (decide_eq_true (by rw [c]))]
      exact ha (decide_eq_true c)
    · rw [if_neg (fun q => c (by injection of_decide_eq_true q))]
      exact hb (decide_eq_false c)
section
variable {P : Program} {w : World} {K : PySem.W.Frag} {mg : Str → Option Value} {base : Heap}
def sp_groups_after (T : Tx K mg) : Sp := fun vs H Q _ => ∃ (x lk kn : Addr) (mv : Option Str) (hands : Int) (start : Str) (tbl : List (Str × Stand)) (ns : List Int) (looks : List (Str × Str)) (kn0 : List Str), vs = [.ref x, .ref lk, .ref kn, mvV mv] ∧ WorkAt T H x hands start tbl ∧ TbOk start tbl ∧ rD rS H (.ref lk) looks ∧ (∀ n ∈ tbl.map (·.1), n ∈ looks.map (·.1)) ∧
  SqT K H kn (kn0.map V.str) ∧ (∀ s ∈ kn0, s ∈ tbl.map (·.1)) ∧ kn0.length ≤ 100 ∧
  ∀ (q : Addr) (H' : Hp), H q = none → SX [] H H' → rD rTS H' (.ref q) (afterL (grOf ns tbl) (lookOf looks) kn0 mv) → Q (.ref q) H'
theorem ok_groups_after (T : Tx K mg) : FnOk P w K mg base CX0 3 T.groups_after.f T.groups_after.fd P_groups_after (sp_groups_after T) := by
  refine T.groups_after.F.ok sc_groups_after (fun vs H Q E h => ?_) (fun cdv A outer s H vs Q E hr h => ?_)
  · obtain ⟨x, lk, kn, mv, hands, start, tbl, ns, looks, kn0, rfl, wa, to, hlk, lkey, hk, km, klen, k⟩ := h
    rfl
  have hu := hu_of hr
  have nd := sc_groups_after.nd
  obtain ⟨x, lk, kn, mv, hands, start, tbl, ns, looks, kn0, rfl, wa, to, hlk, lkey, hk, km, klen, k⟩ := h
  refine ⟨_, (pss_cons (ps_set (i := 4) nd rfl (Or.inr rfl) pe_dnewK)
      (pss_cons (ps_for PassesOwn.never rfl (w_pitup (K := K) rfl (pv 2)) (pg_name (i := 5) nd rfl (Or.inl rfl)) (pss_one (ps_for PassesOwn.never rfl (w_pilist (K := K) rfl (pe_meth (pv 0) T.cl_Work T.me_Work_steps (ok_Work_steps (P := P) (w := w) T) (hr.mono (by decide)) T.Work_steps.B .nil pass0 (pa_cons (pv 5) pa_nil))) (pg_name (i := 6) nd rfl (Or.inl rfl)) (pss_one (ps_if (PW.pt (pw_or (pt_cmpR op_isNo (pv 3) pe_non (nomark _)) (pw_or1 (pt_cmpR op_eq (pv 6) (pv 3) (nomark _))))) (pss_cons (ps_set (i := 7) nd rfl (Or.inl rfl) (pe_meth (pv 0) T.cl_Work T.me_Work_to (ok_Work_to (P := P) (w := w) T) (hr.mono (by decide)) T.Work_to.B .nil pass0 (pa_cons (pv 5) (pa_cons (pv 6) pa_nil))))
      (pss_cons (ps_set (i := 8) nd rfl (Or.inl rfl) (pe_dsetd (pv 4) (pe_dget hu (pv 1) (pv 7) (fun _ _ => rfl)) pe_dnewK ⟨rfl, rfl, rfl, rfl⟩))
      (pss_one (ps_dput hu (pv 8) (pv 7) pe_bl rfl)))) pss_nil)))))
      (pss_one (ps_ret (pe_lockR (pe_dc (own := [("look", 9)]) rfl nd (pi_keys (pv 4)) (blkOk_by (own := [("look", 9)]) (N := N_groups_after) (sc := defScope s_groups_after) (by decide +kernel)) (fun _ _ _ _ _ => (pg_name (i := 9) nd rfl (Or.inl rfl))) (fun _ _ _ _ _ => pts_nil) (fun _ _ _ _ _ => (pv 9)) (fun _ _ _ _ _ => (pe_callTy (w_tup (K := K) rfl) (by rfl) T.b_tuple (by decide +kernel) (pa_cons (pe_callB (cl_sortD rfl) (by rfl) T.b_sorted (by decide +kernel) (pa_cons (pe_dget hu (pv 4) (pv 9) (fun _ _ => rfl)) pa_nil)) pa_nil))))))))), ?_⟩
  refine x_start (σ' := [some _, some _, some _, some _, none, none, none, none, none, none]) rfl ?_
  try simp only [cx_n, cx_K, cx_w, cx_P]
  obtain ⟨lk', kvl, el, rl, kl⟩ := id hlk
  cases el
  have lat : ∀ n ∈ tbl.map (·.1), valV kvl (Sum.inr n) = some (.str (lookOf looks n)) := fun n hn => by
    obtain ⟨l, e⟩ := lookA_some (lkey n hn)
    obtain ⟨v, ev, rfl⟩ := kl.at_ e
    unfold lookOf
    rw [e]
    exact ev
  walk_at "rd"
  intro F hF
  walk_at "rd"
  have s0 : SX [] H (upd H F (.dK [])) := SX.new hF
  refine x_itt (s0.le0.t hk) ?_
  have F0 : (upd H F (.dK [])) F = some (.dK []) := upd_same
  generalize upd H F (.dK []) = H0 at s0 F0
  have nF : ∀ {A : Hp} {a : Addr} {b : Addr}, SX [] H A → A a = some (.dK []) → True := fun _ _ => trivial
  refine for_it (walk_tupR (R := rS) (Hb := H) (paired_S' kn0)) (fun i σ A => ∃ (c1 c2 c3 c4 : Option V), SX [] H A ∧ GI oD (fun d => H d = none) A F (rowsOf (lookOf looks) (goals (grOf ns tbl) (kn0.take i) mv)) ∧
      σ = [some (.ref x), some (.ref lk), some (.ref kn), some (mvV mv), some (.ref F), c1, c2, c3, c4, none])
    ⟨none, none, none, none, s0, ⟨⟨[], F0, .nil, List.nodup_nil, (fun _ h => nomatch h)⟩, List.nodup_nil⟩, rfl⟩ (fun i σ A _ h => by obtain ⟨_, _, _, _, s, _⟩ := h; exact s.le0.t hk) ?_ ?_
  · rintro i z σ A0 A hi ⟨c1, c2, c3, c4, sA, gA, rfl⟩ ⟨rfl, s, hs, rfl⟩
    obtain ⟨st, est⟩ := lookA_some (km s (getMem hs))
    have waA := wa.le sA.le0
    obtain ⟨dx, d, nm, en, hx, _⟩ := id waA.ex
    walk_at "rd"
    refine x_meth ?_
    walk_at "rd"
    refine x_me hx (work_none (by decide +kernel)) ?_
    walk_at "rd"
    refine ⟨x, hands, start, s, tbl, st, rfl, waA, est, fun p B ys hp sB ep pp sy => ?_⟩
    refine x_itl (sqL ep) ?_
    have ey : ys = (grOf ns tbl).steps s := by rw [gr_steps est]; exact srtL_of pp sy
    have sHB := sA.trans sB
    have y4 : ys.length ≤ 4 := by rw [ey]; exact gr_len to s
    have gB : GI oD (fun d => H d = none ∧ d ≠ p) B F (rowsOf (lookOf looks) (goals (grOf ns tbl) (kn0.take i) mv)) := (gA.fr (fr' := fun d => H d = none ∧ d ≠ p) fun d h1 h2 => ⟨h1, fun e => h2 (e ▸ hp)⟩).sx sB
    have gl : (goals (grOf ns tbl) (kn0.take i) mv).length ≤ 400 := by
      have h1 := goals_len (gr := grOf ns tbl) (mv := mv) (K := kn0.take i) fun s _ => gr_len to s
      rw [List.length_take] at h1
      omega
    refine for_it (walk_listR (R := rS) (Hb := H) (paired_S' ys)) (fun j σ A => ∃ (c2 c3 c4 : Option V), SX [] H A ∧ A p = some (.lst (ys.map V.str)) ∧ GI oD (fun d => H d = none ∧ d ≠ p) A F (rowsOf (lookOf looks) (goals (grOf ns tbl) (kn0.take i) mv ++ ((ys.take j).filter (mvOk mv)).map ((grOf ns tbl).to s))) ∧
        σ = [some (.ref x), some (.ref lk), some (.ref kn), some (mvV mv), some (.ref F), some (.str s), c2, c3, c4, none])
      ⟨c2, c3, c4, sHB, ep, by simpa using gB, rfl⟩ (fun j σ A _ h => by obtain ⟨_, _, _, _, h, _⟩ := h; exact sqL h) ?_ ?_
    · rintro j y σ C0 C hj ⟨c2, c3, c4, sC, eC, gC, rfl⟩ ⟨rfl, z, hz, rfl⟩
      obtain ⟨t, et⟩ := lookA_some (pp.mem_iff.mp (getMem hz))
      have egt : (grOf ns tbl).to s z = t := by rw [gr_to est, et]; rfl
      have mt : t ∈ tbl.map (·.1) := (to.look est).2.2.1 t (by rw [← rows_tos]; exact List.mem_map.mpr ⟨(z, t), lookA_mem et, rfl⟩)
      have stp : ((ys.take (j + 1)).filter (mvOk mv)).map ((grOf ns tbl).to s) = ((ys.take j).filter (mvOk mv)).map ((grOf ns tbl).to s) ++ if mvOk mv z = true then [t] else [] := by
        rw [take_succ_of hz, List.filter_append, List.map_append, List.filter_cons]
        by_cases c : mvOk mv z = true
        · rw [if_pos c, if_pos c]
          simp [egt]
        · rw [if_neg c, if_neg c]
          simp
      have fl : (((ys.take j).filter (mvOk mv)).map ((grOf ns tbl).to s)).length ≤ 4 := by
        rw [List.length_map]
        exact Nat.le_trans (List.length_filter_le _ _) (by rw [List.length_take]; omega)
      generalize hgs : goals (grOf ns tbl) (kn0.take i) mv ++ ((ys.take j).filter (mvOk mv)).map ((grOf ns tbl).to s) = gs at gC
      have gsl : gs.length ≤ 404 := by rw [← hgs, List.length_append]; omega
      rw [stp, ← List.append_assoc, hgs]
      walk_at "rd"
      refine x_mvC (mv := mv) (z := z) (fun m e q => ?_) (fun c => ?_) (fun c => ?_)
      · subst e
        walk_at "rd"
        exact q
      · rw [if_pos c]
        walk_at "rd"
        have waC := wa.le sC.le0
        obtain ⟨dx2, d2, nm2, en2, hx2, _⟩ := id waC.ex
        refine x_meth ?_
        walk_at "rd"
        refine x_me hx2 (work_none (by decide +kernel)) ?_
        walk_at "rd"
        refine ⟨x, hands, start, s, z, t, tbl, st, rfl, waC, est, et, ?_⟩
        walk_at "rd"
        refine x_dsetd ?_
        walk_at "rd"
        obtain ⟨kvF0, eF0, _⟩ := gC.kv
        refine ⟨F, rfl, .inl ⟨kvF0, .inl eF0⟩, ?_⟩
        walk_at "rd"
        refine x_dg' (sC.le0.rd _ _ trivial rl) (lat t mt) ?_
        intro e he
        have sE : SX [] C (upd C e (.dK [])) := SX.new he
        have e0 : (upd C e (.dK [])) e = some (.dK []) := upd_same
        have gE := gC.sx sE
        have eE := sE _ _ List.not_mem_nil eC
        have sHE := sC.trans sE
        have hpe : p ≠ e := ne_of_none eC he
        have He : H e = none := sC.free he List.not_mem_nil
        generalize hD : upd C e (.dK []) = D at sE e0 gE eE sHE
        -- behind goals[goal] = True
        have fin : ∀ (D2 : Hp) (rows : List (Str × List Str)) (r : List Str), SX [] H D2 → D2 p = some (.lst (ys.map V.str)) → GI oD (fun d => H d = none ∧ d ≠ p) D2 F rows → lookA rows (lookOf looks t) = some r → r.length ≤ 404 → putA rows (lookOf looks t) (addM r t) = rowsOf (lookOf looks) (gs ++ [t]) →
            ∃ d kvs, valV kvs (Sum.inr (lookOf looks t)) = some (.ref d) ∧ D2 F = some (.dK kvs) ∧ ∃ kv, D2 d = some (.dK kv) ∧ kv.length ≤ 404 ∧ SX [] H (upd D2 d (.dK (putK kv (Sum.inr t) (.bl true)))) ∧ (upd D2 d (.dK (putK kv (Sum.inr t) (.bl true)))) p = some (.lst (ys.map V.str)) ∧
              GI oD (fun d => H d = none ∧ d ≠ p) (upd D2 d (.dK (putK kv (Sum.inr t) (.bl true)))) F (rowsOf (lookOf looks) (gs ++ [t])) := by
          intro D2 rows r sD2 pD2 g2 er rl2 ep2
          obtain ⟨kvF, d, ob, h1, _, h3, h4, ⟨kv, rfl, hkv⟩, h6, ⟨h7, h8⟩, h9⟩ := g2.old er
          refine ⟨d, kvF, h3, h1, kv, h4, ?_, sx_nil_of (S := [d]) ((nil_sx sD2).trans (SX.mut List.mem_cons_self)) (by simp [h7]), by rw [upd_ne (Ne.symm h8)]; exact pD2, ?_⟩
          · have := congrArg List.length hkv
            rw [List.length_map, List.length_map] at this
            omega
          · rw [← ep2]
            exact h9 _ _ ⟨_, rfl, putK_addM hkv⟩
        cases er : lookA (rowsOf (lookOf looks) gs) (lookOf looks t) with
        | some r =>
          have rlen := row_len er
          obtain ⟨d, kvF, f1, f2, kv, f3, f4, f5, f6, f7⟩ := fin D _ r sHE eE gE er (by omega) (by rw [rowsOf_snoc, addG_some er])
          have lF : kvF.length ≤ 404 := by
            obtain ⟨kv9, h1, h2, _⟩ := gE.kv
            rw [f2] at h1
            cases h1
            rw [Paired.length h2]
            have := rowsOf_len (lookOf looks) gs
            omega
          refine ⟨kvF, Sum.inr (lookOf looks t), f2, rfl, lt_size (by omega), fun v hv => ?_, fun hv => ?_⟩
          · rw [f1] at hv
            cases hv
            walk_at "rd"
            refine ⟨d, _, rfl, DPut.k (k := Sum.inr t) f3 (lt_size (by omega)), ?_⟩
            exact ⟨_, _, _, f5, f6, f7, rfl⟩
          · rw [f1] at hv
            cases hv
        | none =>
          obtain ⟨kvF, n1, n2, n3, n4, n5⟩ := gC.new er he ⟨He, Ne.symm hpe⟩ (ob := .dK []) (r0 := []) ⟨[], rfl, rfl⟩
          rw [hD] at n5
          have lF : kvF.length ≤ 404 := by
            have := rowsOf_len (lookOf looks) gs
            omega
          have nFe : F ≠ p := ne_of n1 eC (by intro z; cases z)
          have DF : D F = some (.dK kvF) := sE _ _ List.not_mem_nil n1
          refine ⟨kvF, Sum.inr (lookOf looks t), DF, rfl, lt_size (by omega), fun v hv => ?_, fun _ => ?_⟩
          · rw [n3] at hv
            cases hv
          · have sX : SX [] H (upd D F (.dK (putK kvF (Sum.inr (lookOf looks t)) (.ref e)))) := sx_nil_of (S := [F]) ((nil_sx sHE).trans (SX.mut List.mem_cons_self)) (by simp [hF])
            obtain ⟨d, kvF2, f1, f2, kv, f3, f4, f5, f6, f7⟩ := fin _ _ [] sX (by rw [upd_ne (Ne.symm nFe)]; exact eE) n5 (lookA_putA _ _ _) (Nat.zero_le _) (by rw [rowsOf_snoc, addG_none er]; rfl)
            rw [upd_same] at f2
            cases f2
            rw [valV_put, if_pos rfl] at f1
            cases f1
            walk_at "rd"
            refine ⟨e, _, rfl, DPut.k (k := Sum.inr t) f3 (lt_size (by omega)), ?_⟩
            exact ⟨_, _, _, f5, f6, f7, rfl⟩
      · rw [if_neg (by rw [c]; exact Bool.false_ne_true), List.append_nil]
        walk_at "rd"
        exact ⟨_, _, _, sC, eC, gC, rfl⟩
    · rintro σ C ⟨c2, c3, c4, sC, eC, gC, rfl⟩
      rw [List.take_length] at gC
      refine ⟨_, _, _, _, sC, ?_, rfl⟩
      rw [goals_take hs]
      unfold goalsAt
      rw [← ey]
      exact gC.fr fun d h _ => h.1
  · rintro σ A ⟨c1, c2, c3, c4, sA, gA, rfl⟩
    rw [List.take_length] at gA
    walk_at "rd"
    obtain ⟨kvF, eF, kF, _, _⟩ := gA.kv
    have hF0 : H F = none := hF
    refine x_lockRE (.inl eF) fun od HL eL ne => ?_
    refine x_dc ?_
    walk_at "rd"
    refine ⟨F, od, rfl, .inl ⟨kvF, eL, fun D hD => ?_⟩⟩
    have nFD : F ≠ D := ne_of_none eL hD
    have leL : Le A HL := lock_le (.inl eF) eL ne
    have AD : A D = none := by rw [← ne D (Ne.symm nFD)]; exact hD
    have ll : (rowsOf (lookOf looks) (goals (grOf ns tbl) kn0 mv)).length ≤ 400 := by
      have h1 := goals_len (gr := grOf ns tbl) (mv := mv) (K := kn0) fun s _ => gr_len to s
      have h2 := rowsOf_len (lookOf looks) (goals (grOf ns tbl) kn0 mv)
      omega
    have kU := kvs_imp (S := fun (_ : Hp) (_ : V) (_ : List Str) => True) (B := A) (fun _ _ _ _ => trivial) kF
    have cell : ∀ q ∈ rowsOf (lookOf looks) (goals (grOf ns tbl) kn0 mv), ∃ d kv, valV kvF (Sum.inr q.1) = some (.ref d) ∧ HL d = some (.dK kv) ∧ kv.map (·.1) = q.2.map Sum.inr := fun q hq => by
      obtain ⟨kvF2, d, ob, h1, h2, h3, h4, ⟨kv, rfl, hkv⟩, h6, _⟩ := gA.old (lookA_nodup gA.nd hq)
      rw [eF] at h1
      cases h1
      exact ⟨d, kv, h3, by rw [ne _ h6]; exact h4, hkv⟩
    generalize hrs : rowsOf (lookOf looks) (goals (grOf ns tbl) kn0 mv) = rs at kU cell ll kF
    have rnd : (rs.map (·.1)).Nodup := by rw [← hrs]; exact (rowsOf_ok _ _).nd
    refine dc_walk (walk_keysR kU) (fun n B => SX [] HL B ∧ ∃ kv, B D = some (.dK kv) ∧ KVs rTS B kv ((rs.take n).map fun q => (q.1, srtL q.2))) ⟨SX.new hD, [], upd_same, .nil⟩ (fun n B _ h => h.1 _ _ List.not_mem_nil eL) ?_ ?_
    · rintro n z B0 B hn ⟨sB, kv, dB, kB⟩ ⟨rfl, q, v0, hq, rfl, _⟩
      obtain ⟨d, kvd, h1, h2, h3⟩ := cell q (getMem hq)
      walk_at "rd"
      refine ⟨rfl, ?_⟩
      walk_at "rd"
      refine x_dg' (.inr ⟨od, sB _ _ List.not_mem_nil eL⟩) h1 ?_
      walk_at "rd"
      refine x_sortD (.inl (sB _ _ List.not_mem_nil h2)) h3 fun ys p hp hs np => ?_
      have s1 : SX [] B (upd B p (.lst (ys.map V.str))) := SX.new np
      walk_at "rd"
      refine x_ctup (sqL upd_same) fun u hu => ?_
      have s2 : SX [] (upd B p (.lst (ys.map V.str))) (upd (upd B p (.lst (ys.map V.str))) u (.tup (ys.map V.str))) := SX.new hu
      have dC := s2 _ _ List.not_mem_nil (s1 _ _ List.not_mem_nil dB)
      have ku : (upd (upd B p (.lst (ys.map V.str))) u (.tup (ys.map V.str))) u = some (.tup (ys.map V.str)) := upd_same
      generalize upd (upd B p (.lst (ys.map V.str))) u (.tup (ys.map V.str)) = C at s2 dC ku
      have kk : kv.map (·.1) = ((rs.map (·.1)).take n).map Sum.inr := by
        have e0 : ∀ l : List (Str × List Str), (l.map fun q => (q.1, srtL q.2)).map (·.1) = l.map (·.1) := fun l => by rw [List.map_map]; rfl
        rw [kB.keys, e0, List.map_take]
      have kl2 : kv.length ≤ 400 := by
        rw [Paired.length kB, List.length_map, List.length_take]
        omega
      have hq1 : (rs.map (·.1))[n]? = some q.1 := by rw [List.getElem?_map, hq]; rfl
      refine ⟨kv, Sum.inr q.1, rfl, dC, lt_size (by omega), ?_⟩
      rw [putK_fresh _ kk (nodup_take rnd hq1)]
      have sBC := s1.trans s2
      refine ⟨sx_nil_of (S := [D]) ((nil_sx (sB.trans sBC)).trans (SX.mut List.mem_cons_self)) (by simp [hD]), _, upd_same, ?_⟩
      rw [take_succ_of hq, List.map_append]
      have keep : ∀ (v : V) (a : List Str), rTS C v a → rTS (upd C D (.dK (kv ++ [(Sum.inr q.1, .ref u)]))) v a := by
        rintro v a ⟨t, rfl, ht⟩
        exact ⟨t, rfl, by rw [upd_ne (ne_of ht dC (by intro z; cases z))]; exact ht⟩
      refine Paired.app (kvs_imp (fun v _ a h => keep v a (mono_TS _ _ _ _ sBC.le0 h)) kB) (.cons ⟨rfl, keep _ _ ⟨u, rfl, ?_⟩⟩ .nil)
      rw [ku, srtL_of hp hs]
    · rintro B ⟨sB, kv, dB, kB⟩
      rw [List.take_length] at kB
      refine ⟨sB _ _ List.not_mem_nil eL, ?_⟩
      refine k D _ (sA.free AD List.not_mem_nil) (sA.trans (unlock_sx ne sB)) ⟨D, kv, rfl, .inl (by rw [put_ne (Ne.symm nFD)]; exact dB), ?_⟩
      unfold afterL
      rw [hrs]
      refine kvs_imp (fun v _ a h => ?_) kB
      obtain ⟨t, rfl, ht⟩ := h
      exact ⟨t, rfl, by rw [put_ne (ne_of ht (sB _ _ List.not_mem_nil eL) (by intro z; cases z))]; exact ht⟩
end
end M

namespace M
open PySem PySem.Spec PyProof.Rows L2
theorem lookOf_self (l : List Str) (n : Str) : lookOf (l.map fun m => (m, m)) n = if n ∈ l then n else default := by
  unfold lookOf
  induction l with
  | nil => rfl
  | cons a l ih =>
    rw [List.map_cons]
    unfold lookA
    by_cases e : a = n
    · subst e
      rw [if_pos rfl, if_pos List.mem_cons_self]
      rfl
    · rw [if_neg e, ih]
      by_cases m : n ∈ l
      · rw [if_pos m, if_pos (List.mem_cons_of_mem _ m)]
      · rw [if_neg m, if_neg fun z => (List.mem_cons.mp z).elim (fun q => e q.symm) m]
theorem lookOf_id {l : List Str} {n : Str} (h : n ∈ l) : lookOf (l.map fun m => (m, m)) n = n := by rw [lookOf_self, if_pos h]
theorem x_joinIf {c : Bool} {A : Prop} {R : L2.St → Hp → Prop} {σ : L2.St} {B : Hp} (J : Hp → Prop) (hA : c = true → (∀ B', J B' → R σ B') → A) (hB : c = false → J B) (hR : ∀ B', J B' → R σ B') : if c = true then A else R σ B := by
  cases c with
  | true => rw [if_pos rfl]; exact hA rfl hR
  | false => rw [if_neg Bool.false_ne_true]; exact hR _ (hB rfl)
end M

namespace M
open PySem PySem.Spec PyProof.Rows L2 TL
/-! ### sorts as texts, looks by draws -/
def sortS : Option (Option (Int × List Str)) → Str
  | none => "end"
  | some none => "other"
  | some (some (h, ys)) => ((toString h : Str) ++ (" " : Str)) ++ Txt.join " " ys
def SortGood : Option (Option (Int × List Str)) → Prop
  | some (some (h, ys)) => 0 ≤ h ∧ h < 4 ∧ ys ≠ [] ∧ ys.length ≤ 4 ∧ ∀ s ∈ ys, nameB s = true
  | _ => True
theorem name_no_space {s : Str} (h : nameB s = true) : (32 : Nat) ∉ tl s := fun m => by
  unfold nameB nameL at h
  simp only [Bool.and_eq_true, List.all_eq_true] at h
  have := h.2 32 m
  simp [lowB, digB] at this
theorem tl_sort {h : Int} {ys : List Str} (h0 : 0 ≤ h) (h4 : h < 4) : tl (sortS (some (some (h, ys)))) = (48 + h.toNat) :: 32 :: joinL [32] (ys.map tl) := by
  obtain ⟨n, rfl⟩ : ∃ n : Nat, h = (n : Int) := ⟨h.toNat, by omega⟩
  show tl (((toString (n : Int) : Str) ++ (" " : Str)) ++ Txt.join " " ys) = _
  rw [tl_append, tl_append, join_eq, tl_join, show tl (toString (n : Int) : Str) = [48 + n] from digits_ok n (by omega)]
  rfl
theorem sortS_inj {k k' : Option (Option (Int × List Str))} (g : SortGood k) (g' : SortGood k') (e : sortS k = sortS k') : k = k' := by
  have t := congrArg tl e
  have t1 : tl (sortS none) = [101, 110, 100] := by decide +kernel
  have t2 : tl (sortS (some none)) = [111, 116, 104, 101, 114] := by decide +kernel
  match k, k', g, g' with
  | none, none, _, _ => rfl
  | some none, some none, _, _ => rfl
  | none, some none, _, _ => rw [t1, t2] at t; cases t
  | some none, none, _, _ => rw [t1, t2] at t; cases t
  | none, some (some (h, ys)), _, ⟨a, b, _⟩ => rw [t1, tl_sort a b] at t; injection t with t _; omega
  | some none, some (some (h, ys)), _, ⟨a, b, _⟩ => rw [t2, tl_sort a b] at t; injection t with t _; omega
  | some (some (h, ys)), none, ⟨a, b, _⟩, _ => rw [t1, tl_sort a b] at t; injection t with t _; omega
  | some (some (h, ys)), some none, ⟨a, b, _⟩, _ => rw [t2, tl_sort a b] at t; injection t with t _; omega
  | some (some (h, ys)), some (some (h', ys')), ⟨a, b, c, _, d⟩, ⟨a', b', c', _, d'⟩ =>
    rw [tl_sort a b, tl_sort a' b'] at t
    injection t with t u
    injection u with _ u
    have eh : h = h' := by omega
    have j1 : spl [32] 0 [] (joinL [32] (ys.map tl)) = ys.map tl := spl_join (fun z => c (List.map_eq_nil_iff.mp z)) fun p hp => by
      obtain ⟨s, hs, rfl⟩ := List.mem_map.mp hp
      exact name_no_space (d s hs)
    have j2 : spl [32] 0 [] (joinL [32] (ys'.map tl)) = ys'.map tl := spl_join (fun z => c' (List.map_eq_nil_iff.mp z)) fun p hp => by
      obtain ⟨s, hs, rfl⟩ := List.mem_map.mp hp
      exact name_no_space (d' s hs)
    rw [u, j2] at j1
    rw [eh, map_tl_inj j1.symm]
theorem joinL_len : ∀ ps : List (List Nat), (joinL [32] ps).length ≤ (ps.map List.length).sum + ps.length
  | [] => Nat.le_refl _
  | [p] => by simp [joinL]
  | p :: q :: r => by
    have ih := joinL_len (q :: r)
    show (p ++ ([32] ++ joinL [32] (q :: r))).length ≤ _
    rw [List.length_append, List.length_append, List.map_cons, List.sum_cons, List.length_cons (a := p)]
    show p.length + (1 + (joinL [32] (q :: r)).length) ≤ _
    omega
theorem names_sum : ∀ {ys : List Str}, (∀ s ∈ ys, nameB s = true) → (ys.map (·.length)).sum ≤ 10000 * ys.length
  | [], _ => Nat.le_refl _
  | s :: ys, h => by
    have h1 := names_sum fun t ht => h t (List.mem_cons_of_mem _ ht)
    have h2 := nameB_size (h s List.mem_cons_self)
    rw [List.map_cons, List.sum_cons, List.length_cons]
    omega
theorem sortK_good {hands : Int} {names : List Str} {ns : List Int} {st : Stand} (o : StandOk hands names st) (h4 : hands ≤ 4) : SortGood (sortK ns st) := by
  cases st with
  | fin => exact trivial
  | chance c => exact trivial
  | hand h ms =>
    by_cases m : h ∈ ns
    · rw [sortK_in m]
      have hl : (srtL ((Stand.hand h ms).rows.map (·.1))).length = ms.length := by
        rw [(srtL_perm _).length_eq, List.length_map]
        rfl
      have o1 := o.1
      have o2 := o.2.1
      have o3 := o.2.2.1
      have o4 := o.2.2.2.1
      refine ⟨o1, by omega, fun e => ?_, by omega, fun s hs => StandOk.rows o s (srtL_mem.mp hs)⟩
      rw [e] at hl
      change 0 = _ at hl
      omega
    · rw [sortK_out m]
      exact trivial
theorem vars_ok : ∀ s ∈ (["", "7x", "b"] : List Str), s.length ≤ 4 ∧ s.cps.toList.all (fun x => lowB x || digB x) = true := by decide +kernel
/-- letter, tail, digit -/
theorem look_of {c j : Nat} {s : Str} (hc : lowB c = true) (hj : j < 10) (hs : s.length ≤ 4) (ha : ∀ x ∈ s.cps.toList, (lowB x || digB x) = true) : nameB ((⟨#[c]⟩ ++ s : Str) ++ (toString ((j : Nat) : Int) : Str)) = true := by
  have e : ((⟨#[c]⟩ ++ s : Str) ++ (toString ((j : Nat) : Int) : Str)).cps.toList = c :: (s.cps.toList ++ [48 + j]) := by
    rw [app_cps, app_cps, digits_ok j hj]
    rfl
  have el : ((⟨#[c]⟩ ++ s : Str) ++ (toString ((j : Nat) : Int) : Str)).length = s.length + 2 := by
    rw [← str_len, e, List.length_cons, List.length_append, str_len]
    rfl
  refine nameB_yes ⟨by omega, by omega⟩ (by rw [e]; exact hc) fun x hx => ?_
  rw [e] at hx
  rcases List.mem_cons.mp hx with rfl | hx
  · rw [hc]; rfl
  rcases List.mem_append.mp hx with hx | hx
  · exact ha x hx
  · cases List.mem_singleton.mp hx
    have : digB (48 + j) = true := by simp [digB]; omega
    rw [this, Bool.or_true]
theorem look_last {a b : Str} {i j : Nat} (hi : i < 10) (hj : j < 10) (e : a ++ (toString ((i : Nat) : Int) : Str) = b ++ (toString ((j : Nat) : Int) : Str)) : i = j := by
  have t := congrArg (fun s : Str => s.cps.toList) e
  simp only [app_cps] at t
  rw [digits_ok i hi, digits_ok j hj] at t
  have := (List.append_inj' t rfl).2
  injection this with this
  omega
theorem lookA_snoc {α : Type} {l : List (Str × α)} {s t : Str} {a : α} (h : s ∉ l.map (·.1)) : lookA (l ++ [(s, a)]) t = if t = s then some a else lookA l t := by
  induction l with
  | nil =>
    show lookA [(s, a)] t = _
    unfold lookA
    by_cases e : s = t
    · rw [if_pos e, if_pos e.symm]
    · rw [if_neg e, if_neg fun z => e z.symm]
      rfl
  | cons q l ih =>
    have h : s ∉ q.1 :: l.map (·.1) := h
    have h1 : s ≠ q.1 := fun z => h (by rw [z]; exact List.mem_cons_self)
    rw [List.cons_append]
    unfold lookA
    by_cases e : q.1 = t
    · rw [if_pos e, if_pos e]
      have : ¬ t = s := fun z => h1 (z.symm.trans e.symm)
      rw [if_neg this]
    · rw [if_neg e, if_neg e]
      exact ih fun m => h (List.mem_cons_of_mem _ m)
theorem first_at {S : Str} : ∀ {ss : List Str}, S ∈ ss → ∃ j : Nat, ss[j]? = some S ∧ ∀ (m : Nat) (z : Str), m < j → ss[m]? = some z → z ≠ S
  | [], h => by cases h
  | a :: ss, h => by
    by_cases e : a = S
    · exact ⟨0, by rw [e]; rfl, fun m z hm => absurd hm (Nat.not_lt_zero _)⟩
    · obtain ⟨j, h1, h2⟩ := first_at ((List.mem_cons.mp h).resolve_left fun z => e z.symm)
      refine ⟨j + 1, h1, fun m z hm hz => ?_⟩
      cases m with
      | zero => injection hz with hz; rw [← hz]; exact e
      | succ m => exact h2 m z (by omega) hz
section
variable {P : Program} {w : World} {K : PySem.W.Frag} {mg : Str → Option Value} {base : Heap}
def sp_law_sort (T : Tx K mg) : Sp := fun vs H Q _ => ∃ (d lt : Addr) (s : Str) (sts : List (Str × Stand)) (ns : List Int) (st : Stand), vs = [.ref d, .ref lt, .str s] ∧ rD (rStand K) H (.ref d) sts ∧ SqT K H lt (ns.map V.int) ∧ lookA sts s = some st ∧ SortGood (sortK ns st) ∧
  ∀ (H' : Hp), SX [] H H' → Q (.str (sortS (sortK ns st))) H'
theorem ok_law_sort (T : Tx K mg) : FnOk P w K mg base CX0 2 T.law_sort.f T.law_sort.fd P_law_sort (sp_law_sort T) := by
  refine T.law_sort.F.ok sc_law_sort (fun vs H Q E h => ?_) (fun cdv A outer s H vs Q E hr h => ?_)
  · obtain ⟨d, lt, s, sts, ns, st, rfl, hd, hlt, est, sg, k⟩ := h
    rfl
  have hu := hu_of hr
  have nd := sc_law_sort.nd
  obtain ⟨d, lt, s, sts, ns, st, rfl, hd, hlt, est, sg, k⟩ := h
  refine ⟨_, (pss_cons (ps_if (pt_cmpR op_eq (pe_ix (w_ixT (K := K) rfl) (pe_dget hu (pv 0) (pv 2) (fun _ _ => rfl)) pe_int (fun _ _ => rfl)) pe_str (nomark _)) (pss_one (ps_ret pe_str)) pss_nil)
      (pss_cons (ps_if (PW.pt (pw_and (pt_cmpR op_eq (pe_ix (w_ixT (K := K) rfl) (pe_dget hu (pv 0) (pv 2) (fun _ _ => rfl)) pe_int (fun _ _ => rfl)) pe_str (nomark _)) (pw_and1 (pt_cmpR (w_in (K := K) rfl) (pe_ix (w_ixT (K := K) rfl) (pe_dget hu (pv 0) (pv 2) (fun _ _ => rfl)) pe_int (fun _ _ => rfl)) (pv 1) (by rfl))))) (pss_one (ps_ret (pe_op op_catS (pe_op op_catS (pe_callTy cl_str (by rfl) T.b_str (by decide +kernel) (pa_cons (pe_ix (w_ixT (K := K) rfl) (pe_dget hu (pv 0) (pv 2) (fun _ _ => rfl)) pe_int (fun _ _ => rfl)) pa_nil)) pe_str) (w_join (K := K) rfl pe_str (pa_cons (pe_call (ok_law_steps (P := P) (w := w) T) (hr.mono (by decide)) (by rfl) T.law_steps.g T.law_steps.F.kp T.law_steps.B .nil pass0 (pa_cons (pv 0) (pa_cons (pv 2) pa_nil))) pa_nil))))) pss_nil)
      (pss_one (ps_ret pe_str)))), ?_⟩
  refine x_start (σ' := [some _, some _, some _]) rfl ?_
  try simp only [cx_n, cx_K, cx_w, cx_P]
  obtain ⟨d', kvs, ed, hrd, hk⟩ := id hd
  cases ed
  obtain ⟨v, ev, rv⟩ := hk.at_ est
  walk_at "rd"
  refine x_dg' hrd ev ?_
  walk_at "rd"
  cases st with
  | fin =>
    obtain ⟨p5, rfl, hp5⟩ := rv
    refine x_ixT hp5 (atI_nat (j := 0) rfl) ?_
    walk_at "rd"
    walk_at "if!"
    walk_at "rd"
    exact k H (SX.refl _)
  | chance ds =>
    obtain ⟨p5, _, rfl, hp5, _⟩ := rv
    refine x_ixT hp5 (atI_nat (j := 0) rfl) ?_
    walk_at "rd"
    walk_at "if!"
    walk_at "rd"
    refine x_dg' hrd ev ?_
    walk_at "rd"
    refine x_ixT hp5 (atI_nat (j := 0) rfl) ?_
    walk_at "rd"
    walk_at "if!"
    walk_at "rd"
    exact k H (SX.refl _)
  | hand h ms =>
    obtain ⟨p5, _, rfl, hp5, _⟩ := id rv
    refine x_ixT hp5 (atI_nat (j := 0) rfl) ?_
    walk_at "rd"
    walk_at "if!"
    walk_at "rd"
    refine x_dg' hrd ev ?_
    walk_at "rd"
    refine x_ixT hp5 (atI_nat (j := 0) rfl) ?_
    walk_at "rd"
    walk_at "if!"
    walk_at "rd"
    refine x_dg' hrd ev ?_
    walk_at "rd"
    refine x_ixT hp5 (v := .int h) (atI_nat (j := 1) rfl) ?_
    walk_at "rd"
    refine ⟨lt, _, rfl, .inr hlt, rfl, flat_ints ns, ?_⟩
    rw [inV_int]
    walk_at "rd"
    by_cases m : h ∈ ns
    · rw [decide_eq_true m]
      walk_at "rd"
      refine x_true (by rfl) ?_
      walk_at "rd"
      refine x_dg' hrd ev ?_
      walk_at "rd"
      refine x_ixT hp5 (v := .int h) (atI_nat (j := 1) rfl) ?_
      rw [sortK_in m] at sg k
      obtain ⟨g1, g2, g3, g4, g5⟩ := sg
      walk_at "rd"
      refine x_cstr (int_log g1 (by omega)) ?_
      walk_at "rd"
      obtain ⟨n, rfl⟩ : ∃ n : Nat, h = (n : Int) := ⟨h.toNat, by omega⟩
      have dl := congrArg List.length (digits_ok n (by omega))
      rw [str_len] at dl
      refine x_catS (by rw [dl]; exact Nat.le_trans (show 1 + 1 ≤ 10000 by decide) (by decide)) ?_
      walk_at "rd"
      refine ⟨rfl, ?_⟩
      walk_at "rd"
      refine ⟨d, s, sts, _, rfl, hd, est, fun p H1 ys hp s1 ep pp sy => ?_⟩
      have ey := srtL_of pp sy
      rw [← ey] at g3 g4 g5 k
      have sum := names_sum g5
      walk_at "rd"
      refine x_join (sqL ep) (by
        rw [show (" " : Str).length = 1 from rfl]
        omega) ?_
      have jl : (Txt.join " " ys).length ≤ 50000 := by
        rw [len_tl, join_eq, tl_join]
        have h1 := joinL_len (ys.map tl)
        rw [List.map_map, List.length_map] at h1
        have h2 : ((ys.map (List.length ∘ tl)).sum) = (ys.map (·.length)).sum := by
          congr 1
        rw [h2] at h1
        have h3 : tl (" " : Str) = [32] := by decide +kernel
        rw [h3]
        omega
      refine x_catS ?_ ?_
      · have : ((toString (n : Int) : Str) ++ (" " : Str)).length = 2 := by
          rw [app_len, dl]
          rfl
        rw [this]
        exact Nat.le_trans (show 2 + (Txt.join " " ys).length ≤ 50002 by omega) (by decide)
      · exact k H1 s1
    · rw [decide_eq_false m]
      walk_at "rd"
      rw [sortK_out m] at k
      exact k H (SX.refl _)
def sp_law_looks (T : Tx K mg) : Sp := fun vs H Q _ => ∃ (p d lt : Addr) (hands : Int) (n0 : Str) (sts : List (Str × Stand)) (ns : List Int), vs = [.ref p, .ref d, .ref lt] ∧ Drw H p ∧ rD (rStand K) (hid [p] H) (.ref d) sts ∧ WorkOk hands n0 sts ∧ sts.length ≤ 8 ∧ SqT K (hid [p] H) lt (ns.map V.int) ∧
  ∀ (q : Addr) (H' : Hp) (kv : List (Key × V)) (looks : List (Str × Str)), H q = none → SX [p] H H' → Drw H' p → H' q = some (.dK kv) → KVs rS H' kv looks → LooksOk ns sts looks → Q (.ref q) H'
theorem ok_law_looks (T : Tx K mg) : FnOk P w K mg base CX0 3 T.law_looks.f T.law_looks.fd P_law_looks (sp_law_looks T) := by
  refine T.law_looks.F.ok sc_law_looks (fun vs H Q E h => ?_) (fun cdv A outer s H vs Q E hr h => ?_)
  · obtain ⟨p, d, lt, hands, n0, sts, ns, rfl, hp, hd, wo, h8, hlt, k⟩ := h
    rfl
  have hu := hu_of hr
  have nd := sc_law_looks.nd
  obtain ⟨p, d, lt, hands, n0, sts, ns, rfl, hp, hd, wo, h8, hlt, k⟩ := h
  refine ⟨_, (pss_cons (ps_set (i := 3) nd rfl (Or.inl rfl) (pe_lst pa_nil))
      (pss_cons (ps_set (i := 4) nd rfl (Or.inl rfl) pe_dnewK)
      (pss_cons (ps_if (pt_cmpR op_eq (pe_call (ok_law_draw (P := P) (w := w) T) (hr.mono (by decide)) (by rfl) T.law_draw.g T.law_draw.F.kp T.law_draw.B .nil pass0 (pa_cons (pv 0) (pa_cons pe_int pa_nil))) pe_int (nomark _)) (pss_cons (ps_lockR (ps_for PassesOwn.never rfl (pi_keys (pv 1)) (pg_name (i := 5) nd rfl (Or.inl rfl)) (pss_one (ps_dput hu (pv 4) (pv 5) (pv 5) rfl))))
      (pss_one (ps_ret (pv 4)))) pss_nil)
      (pss_cons (ps_set (i := 6) nd rfl (Or.inl rfl) (pe_op op_add pe_int (pe_call (ok_law_draw (P := P) (w := w) T) (hr.mono (by decide)) (by rfl) T.law_draw.g T.law_draw.F.kp T.law_draw.B .nil pass0 (pa_cons (pv 0) (pa_cons pe_int pa_nil)))))
      (pss_cons (ps_set (i := 7) nd rfl (Or.inl rfl) (pe_ix ix_str pe_str (pe_call (ok_law_draw (P := P) (w := w) T) (hr.mono (by decide)) (by rfl) T.law_draw.g T.law_draw.F.kp T.law_draw.B .nil pass0 (pa_cons (pv 0) (pa_cons pe_int pa_nil))) (fun _ _ => rfl)))
      (pss_cons (ps_for PassesOwn.never rfl (w_pilist (K := K) rfl (pe_callB (cl_sortD rfl) (by rfl) T.b_sorted (by decide +kernel) (pa_cons (pv 1) pa_nil))) (pg_name (i := 5) nd rfl (Or.inl rfl)) (pss_cons (ps_set (i := 8) nd rfl (Or.inl rfl) (pe_call (ok_law_sort (P := P) (w := w) T) (hr.mono (by decide)) (by rfl) T.law_sort.g T.law_sort.F.kp T.law_sort.B .nil pass0 (pa_cons (pv 1) (pa_cons (pv 2) (pa_cons (pv 5) pa_nil)))))
      (pss_cons (ps_if (pt_cmpR (w_nin (K := K) rfl) (pv 8) (pv 3) (by rfl)) (pss_one (ps_expr (pe_bm PySem.F.plainAttrs_list PySem.F.slot_list_append PySem.F.type_list_append mt_append (pv 3) (pa_cons (pv 8) pa_nil)))) pss_nil)
      (pss_one (ps_dput hu (pv 4) (pv 5) (pe_op op_catS (pe_op op_catS (pv 7) (pe_ix (w_ixL (K := K) rfl) (pe_lst (pa_cons pe_str (pa_cons pe_str (pa_cons pe_str pa_nil)))) (pe_call (ok_law_draw (P := P) (w := w) T) (hr.mono (by decide)) (by rfl) T.law_draw.g T.law_draw.F.kp T.law_draw.B .nil pass0 (pa_cons (pv 0) (pa_cons (pv 6) pa_nil))) (fun _ _ => rfl))) (pe_callTy cl_str (by rfl) T.b_str (by decide +kernel) (pa_cons (w_index (K := K) rfl (pv 3) (pa_cons (pv 8) pa_nil)) pa_nil))) rfl)))))
      (pss_one (ps_ret (pv 4))))))))), ?_⟩
  refine x_start (σ' := [some _, some _, some _, none, none, none, none, none, none]) rfl ?_
  try simp only [cx_n, cx_K, cx_w, cx_P]
  obtain ⟨d', kvs, ed, hrd, hk⟩ := id hd
  cases ed
  walk_at "rd"
  refine ⟨Nat.le_of_ble_eq_true rfl, fun sl hsl => ?_⟩
  walk_at "rd"
  intro lk hlk
  walk_at "rd"
  have s1 : SX [] H (upd H sl (.lst [])) := SX.new hsl
  have s2 : SX [] (upd H sl (.lst [])) (upd (upd H sl (.lst [])) lk (.dK [])) := SX.new hlk
  have l1 : (upd H sl (.lst [])) sl = some (.lst []) := upd_same
  have l2 := s2 _ _ List.not_mem_nil l1
  have k2 : (upd (upd H sl (.lst [])) lk (.dK [])) lk = some (.dK []) := upd_same
  have nsk : sl ≠ lk := ne_of_none l1 hlk
  have hlk0 : H lk = none := s1.free hlk List.not_mem_nil
  have s12 := s1.trans s2
  generalize upd (upd H sl (.lst [])) lk (.dK []) = H2 at s2 l2 k2 s12
  have p2 := hp.sx s12 List.not_mem_nil
  have nsp : sl ≠ p := fun e => hp.there (e ▸ hsl)
  have nkp : lk ≠ p := fun e => hp.there (e ▸ hlk0)
  refine ⟨p, 6, rfl, p2, by decide, by decide, fun r H3 r0 r1 s3 p3 => ?_⟩
  have s13 : SX [p] H H3 := (nil_sx s12).trans s3
  have l3 := s3 _ _ (by simpa using nsp) l2
  have k3 := s3 _ _ (by simpa using nkp) k2
  have hd3 : rD (rStand K) H3 (.ref d) sts := mono_D (mono_stand K) _ _ _ _ s13.leH hd
  walk_at "rd"
  refine x_cases (fun c => ?_) (fun c => ?_)
  · walk_at "rd"
    have rd3 : Rd H3 d (.dK kvs) := s13.leH.rd _ _ trivial hrd
    have ndk : d ≠ lk := fun z => by
      rw [z] at rd3 hrd
      rcases hrd with h | ⟨o, h⟩ <;> (have := (hid_at h).2; rw [hlk0] at this; cases this)
    refine x_lockR rd3 fun od HL eL ne => ?_
    walk_at "rd"
    refine x_itk eL ?_
    have kL : HL lk = some (.dK []) := by rw [ne _ (Ne.symm ndk)]; exact k3
    refine for_it (walk_keysR hk) (fun i σ B => SX [lk] HL B ∧ ∃ (kv : List (Key × V)) (c5 : Option V), B lk = some (.dK kv) ∧ KVs rS B kv (((sts.map (·.1)).take i).map fun m => (m, m)) ∧ σ = [some (.ref p), some (.ref d), some (.ref lt), some (.ref sl), some (.ref lk), c5, none, none, none])
      ⟨SX.refl _, [], none, kL, .nil, rfl⟩ (fun i σ B _ h => h.1 _ _ (by simpa using ndk) eL) ?_ ?_
    · rintro i z σ B0 B hi ⟨sB, kv, c5, kB, vB, rfl⟩ ⟨rfl, q, v, hq, rfl, _⟩
      have hq1 : (sts.map (·.1))[i]? = some q.1 := by rw [List.getElem?_map, hq]; rfl
      have kk : kv.map (·.1) = ((sts.map (·.1)).take i).map Sum.inr := by rw [vB.keys, map_self]
      have kl : kv.length = i := by
        have := congrArg List.length kk
        rw [List.length_map, List.length_map, List.length_take, List.length_map] at this
        omega
      walk_at "rd"
      refine ⟨lk, _, rfl, DPut.k (k := Sum.inr q.1) kB (lt_size (by omega)), ?_⟩
      rw [putK_fresh _ kk (nodup_take wo.nd hq1)]
      refine ⟨sB.trans (SX.mut List.mem_cons_self), _, _, upd_same, ?_, rfl⟩
      rw [take_succ_of hq1, List.map_append]
      exact Paired.app vB (.cons ⟨rfl, rfl⟩ .nil)
    · rintro σ B ⟨sB, kv, c5, kB, vB, rfl⟩
      rw [show sts.length = (sts.map (·.1)).length from (List.length_map _).symm, List.take_length] at vB
      refine ⟨sB _ _ (by simpa using ndk) eL, ?_⟩
      walk_at "rd"
      have sU : SX [lk] H3 (put B d (H3 d)) := unlock_sx ne sB
      refine k lk _ kv _ hlk0 ?_ (p3.sx sU (by simpa using Ne.symm nkp)) (by rw [put_ne (Ne.symm ndk)]; exact kB) vB ⟨by rw [map_self]; exact wo.nd, fun n => by rw [map_self], fun q hq => ?_, fun s t st st' e1 e2 e => ?_⟩
      · intro b o nb hb
        have hbk : b ≠ lk := fun e => by rw [e, hlk0] at hb; cases hb
        exact sU _ _ (by simpa using hbk) (s13 _ _ nb hb)
      · obtain ⟨n, hn, rfl⟩ := List.mem_map.mp hq
        obtain ⟨z, hz, rfl⟩ := List.mem_map.mp hn
        exact (wo.all z hz).1
      · rw [lookOf_id (key_of' e1), lookOf_id (key_of' e2)] at e
        subst e
        rw [e1] at e2
        cases e2
        rfl
  · walk_at "rd"
    refine ⟨p, 3, rfl, p3, by decide, by decide, fun rm H4 m0 m1 s4 p4 => ?_⟩
    walk_at "rd"
    refine ⟨p, 26, rfl, p4, by decide, by decide, fun rl H5 a0 a1 s5 p5 => ?_⟩
    obtain ⟨g, rfl⟩ : ∃ g : Nat, rl = (g : Int) := ⟨rl.toNat, by omega⟩
    obtain ⟨lc, hc, llc⟩ := at_opt (letters_at g (by omega))
    refine x_ixS (by decide +kernel) (atI_nat hc) ?_
    walk_at "rd"
    have s15 : SX [p] H H5 := (s13.trans s4).trans s5
    have l5 := s5 _ _ (by simpa using nsp) (s4 _ _ (by simpa using nsp) l3)
    have k5 := s5 _ _ (by simpa using nkp) (s4 _ _ (by simpa using nkp) k3)
    refine x_sortD (s15.leH.rd _ _ trivial hrd) hk.keys fun ys py hpy hsy np => ?_
    refine x_itl (sqL upd_same) ?_
    have s6 : SX [] H5 (upd H5 py (.lst (ys.map V.str))) := SX.new np
    have y6 : (upd H5 py (.lst (ys.map V.str))) py = some (.lst (ys.map V.str)) := upd_same
    have l6 := s6 _ _ List.not_mem_nil l5
    have k6 := s6 _ _ List.not_mem_nil k5
    have s16 : SX [p] H (upd H5 py (.lst (ys.map V.str))) := s15.trans (nil_sx s6)
    have p6 := p5.sx s6 List.not_mem_nil
    have nyp : py ≠ p := fun e => p5.there (e ▸ np)
    have nys : py ≠ sl := fun e => by rw [e] at np; rw [np] at l5; cases l5
    have nyk : py ≠ lk := fun e => by rw [e] at np; rw [np] at k5; cases k5
    generalize upd H5 py (.lst (ys.map V.str)) = H6 at s6 y6 l6 k6 s16 p6
    have yl : ys.length = sts.length := by rw [hpy.length_eq, List.length_map]
    have ynd : ys.Nodup := hpy.nodup_iff.mpr wo.nd
    refine for_it (walk_listR (R := rS) (Hb := H) (paired_S' ys)) (fun i σ A => ∃ (ss : List Str) (kv : List (Key × V)) (looks : List (Str × Str)) (c5 c8 : Option V), SX [p] H A ∧ Drw A p ∧ A sl = some (.lst (ss.map V.str)) ∧ A lk = some (.dK kv) ∧ KVs rS A kv looks ∧ A py = some (.lst (ys.map V.str)) ∧ looks.map (·.1) = ys.take i ∧ ss.length ≤ i ∧
        (∀ q ∈ looks, nameB q.2 = true ∧ ∃ (st : Stand) (hd : Str) (j : Nat), lookA sts q.1 = some st ∧ j < 8 ∧ q.2 = hd ++ (toString ((j : Nat) : Int) : Str) ∧ ss[j]? = some (sortS (sortK ns st))) ∧
        σ = [some (.ref p), some (.ref d), some (.ref lt), some (.ref sl), some (.ref lk), c5, some (.int (1 + rm)), some (.str ⟨#[lc]⟩), c8])
      ⟨[], [], [], none, none, s16, p6, l6, k6, .nil, y6, rfl, Nat.le_refl _, (fun _ h => nomatch h), rfl⟩ (fun i σ A _ h => by obtain ⟨_, _, _, _, _, _, _, _, _, _, h, _⟩ := h; exact sqL h) ?_ ?_
    · rintro i z σ A0 A hi ⟨ss, kv, looks, c5, c8, sA, pA, lA, kA, vA, yA, eA, sl_, allA, rfl⟩ ⟨rfl, n, hn, rfl⟩
      have i8 : i < 8 := by omega
      obtain ⟨st, est⟩ := lookA_some (hpy.mem_iff.mp (getMem hn))
      have sg := sortK_good (ns := ns) (wo.all _ (lookA_mem est)).2 wo.h.2
      walk_at "rd"
      refine ⟨d, lt, n, sts, ns, st, rfl, mono_D (mono_stand K) _ _ _ _ sA.leH hd, sA.leH.t hlt, est, sg, fun B sB => ?_⟩
      have lB := sB _ _ List.not_mem_nil lA
      have kB := sB _ _ List.not_mem_nil kA
      have yB := sB _ _ List.not_mem_nil yA
      have pB := pA.sx sB List.not_mem_nil
      have sHB : SX [p] H B := sA.trans (nil_sx sB)
      walk_at "rd"
      refine ⟨sl, _, rfl, .inl (sqL lB), rfl, flat_strs ss, ?_⟩
      rw [inV_strD]
      walk_at "rd"
      refine x_joinIf (J := fun C => ∃ ss2 : List Str, SX [p] H C ∧ Drw C p ∧ C sl = some (.lst (ss2.map V.str)) ∧ C lk = some (.dK kv) ∧ C py = some (.lst (ys.map V.str)) ∧ ss2.length ≤ i + 1 ∧ sortS (sortK ns st) ∈ ss2 ∧ ∀ (j : Nat) (v : Str), ss[j]? = some v → ss2[j]? = some v) (fun c9 join => ?_) (fun c9 => ?_) (fun C j => ?_)
      · have ni : sortS (sortK ns st) ∉ ss := by simpa using c9
        walk_at "rd"
        refine ⟨.inl ⟨rfl, _, sqL lB⟩, ?_⟩
        walk_at "rd"
        refine ⟨sl, _, _, rfl, rfl, lB, lt_size (by rw [List.length_map]; omega), ?_⟩
        have sX : SX [p] H (upd B sl (.lst (ss.map V.str ++ [.str (sortS (sortK ns st))]))) := by
          intro b o nb hb
          have hbs : b ≠ sl := fun e => by rw [e, hsl] at hb; cases hb
          rw [upd_ne hbs]
          exact sHB _ _ nb hb
        refine join _ ⟨ss ++ [sortS (sortK ns st)], sX, pB.sx (SX.mut (S := [sl]) List.mem_cons_self) (by simpa using Ne.symm nsp), by rw [upd_same, List.map_append]; rfl, by rw [upd_ne (Ne.symm nsk)]; exact kB, by rw [upd_ne nys]; exact yB, by rw [List.length_append]; exact Nat.succ_le_succ sl_, List.mem_append_right _ List.mem_cons_self, fun j v h => ?_⟩
        rw [List.getElem?_append_left (List.getElem?_eq_some_iff.mp h).1]
        exact h
      · exact ⟨ss, sHB, pB, lB, kB, yB, by omega, by simpa using c9, fun _ _ h => h⟩
      obtain ⟨ss2, sHC, pC, lC, kC, yC, sl2, mC, sub⟩ := j
      obtain ⟨j, hj, hno⟩ := first_at mC
      have j8 : j < 8 := by have := (List.getElem?_eq_some_iff.mp hj).1; omega
      walk_at "rd"
      refine ⟨Nat.le_of_ble_eq_true rfl, fun l hl => ?_⟩
      walk_at "rd"
      have npl : l ≠ p := fun e => pC.there (e ▸ hl)
      refine ⟨p, 1 + rm, rfl, pC.sx (SX.new (S := []) hl) List.not_mem_nil, by omega, by omega, fun r2 E2 r20 r21 t2 q2 => ?_⟩
      obtain ⟨tv, et, mt⟩ := at_strs (ns := ["", "7x", "b"]) r20 (by show r2 < 3; omega)
      refine x_ixL (sqL (t2 _ _ (by simpa using npl) upd_same)) et ?_
      obtain ⟨t4, ta⟩ := vars_ok tv mt
      have nm := look_of (j := j) llc (by omega) t4 (List.all_eq_true.mp ta)
      have nl8 := nameB_size nm
      rw [app_len] at nl8
      have nl9 : (⟨#[lc]⟩ : Str).length + tv.length ≤ 10000 := by
        rw [← app_len]
        omega
      refine x_catS (Nat.le_of_lt (lt_size nl9)) ?_
      walk_at "rd"
      have sCE : SX [p] C E2 := (SX.new hl).trans t2
      have lE := sCE _ _ (by simpa using nsp) lC
      have kE := sCE _ _ (by simpa using nkp) kC
      have yE := sCE _ _ (by simpa using nyp) yC
      refine ⟨.inl ⟨rfl, _, sqL lE⟩, ?_⟩
      walk_at "rd"
      refine ⟨sl, _, _, j, .str (sortS (sortK ns st)), rfl, rfl, sqL lE, rfl, flat_strs ss2, by rw [List.getElem?_map, hj]; rfl, by show (sortS (sortK ns st) == sortS (sortK ns st)) = true; simp, fun m z' hm hz => ?_, ?_⟩
      · rw [List.getElem?_map] at hz
        cases e9 : ss2[m]? with
        | none => rw [e9] at hz; cases hz
        | some u =>
          rw [e9] at hz
          cases hz
          show (u == sortS (sortK ns st)) = false
          simpa using hno m u hm e9
      walk_at "rd"
      refine x_cstr (small_log (by omega)) ?_
      refine x_catS (Nat.le_of_lt (lt_size nl8)) ?_
      have kl : kv.length = i := by
        rw [Paired.length vA]
        have := congrArg List.length eA
        rw [List.length_map, List.length_take] at this
        omega
      walk_at "rd"
      refine ⟨lk, _, rfl, DPut.k (k := Sum.inr n) kE (lt_size (by omega)), ?_⟩
      have kk : kv.map (·.1) = (ys.take i).map Sum.inr := by rw [vA.keys, eA]
      rw [putK_fresh _ kk (nodup_take ynd hn)]
      refine ⟨ss2, _, looks ++ [(n, (⟨#[lc]⟩ ++ tv : Str) ++ (toString ((j : Nat) : Int) : Str))], _, _, ?_, q2.sx (SX.mut (S := [lk]) List.mem_cons_self) (by simpa using Ne.symm nkp), by rw [upd_ne nsk]; exact lE, upd_same, Paired.app vA (.cons ⟨rfl, rfl⟩ .nil), by rw [upd_ne nyk]; exact yE, by rw [List.map_append, eA, take_succ_of hn]; rfl, sl2, fun q hq => ?_, rfl⟩
      · intro b o nb hb
        have hbk : b ≠ lk := fun e => by rw [e, hlk0] at hb; cases hb
        rw [upd_ne hbk]
        exact (sHC.trans sCE) _ _ nb hb
      · rcases List.mem_append.mp hq with h | h
        · obtain ⟨h1, st', hd', j', h2, h3, h4, h5⟩ := allA q h
          exact ⟨h1, st', hd', j', h2, h3, h4, sub _ _ h5⟩
        · cases List.mem_singleton.mp h
          exact ⟨nm, st, _, j, est, j8, rfl, hj⟩
    · rintro σ A ⟨ss, kv, looks, c5, c8, sA, pA, lA, kA, vA, yA, eA, sl_, allA, rfl⟩
      rw [List.take_length] at eA
      walk_at "rd"
      have nd : (looks.map (·.1)).Nodup := by rw [eA]; exact ynd
      refine k lk A kv looks hlk0 sA pA kA vA ⟨nd, fun n => by rw [eA]; exact hpy.mem_iff, fun q hq => (allA q hq).1, fun s t st st' e1 e2 e => ?_⟩
      have at_ : ∀ u, u ∈ sts.map (·.1) → ∃ l, (u, l) ∈ looks ∧ lookOf looks u = l := fun u hu => by
        obtain ⟨l, el⟩ := lookA_some (l := looks) (x := u) (by rw [eA]; exact hpy.mem_iff.mpr hu)
        exact ⟨l, lookA_mem el, by unfold lookOf; rw [el]; rfl⟩
      obtain ⟨l1, m1, z1⟩ := at_ s (key_of' e1)
      obtain ⟨l2, m2, z2⟩ := at_ t (key_of' e2)
      obtain ⟨_, st1, h1, j1, a1, b1, c1, d1⟩ := allA _ m1
      obtain ⟨_, st2, h2, j2, a2, b2, c2, d2⟩ := allA _ m2
      rw [z1, z2] at e
      have c1 : l1 = h1 ++ (toString ((j1 : Nat) : Int) : Str) := c1
      have c2 : l2 = h2 ++ (toString ((j2 : Nat) : Int) : Str) := c2
      rw [c1, c2] at e
      have ej := look_last (by omega) (by omega) e
      rw [ej, d2] at d1
      injection d1 with d1
      have a1 : lookA sts s = some st1 := a1
      have a2 : lookA sts t = some st2 := a2
      rw [e1] at a1
      rw [e2] at a2
      cases a1
      cases a2
      exact sortS_inj (sortK_good (wo.all _ (lookA_mem e1)).2 wo.h.2) (sortK_good (wo.all _ (lookA_mem e2)).2 wo.h.2) d1.symm
end
end M

namespace M
open PySem PySem.Spec PyProof.Rows L2 ReR
/-! ### things as data -/
def tyD : PyData → String
  | .none => "NoneType"
  | .bool _ => "bool"
  | .int _ => "int"
  | .str _ => "str"
  | .list _ => "list"
  | .tuple _ => "tuple"
  | .dict _ => "dict"
theorem _root_.ReR.DpD.ty {K : PySem.W.Frag} {H : Hp} {v : V} {d : PyData} (h : DpD H v d) : TyX K H v (.type (tyD d)) := by
  cases h with
  | non => exact .base .non
  | bl b => exact .base (.bl b)
  | int i => exact .base (.int i)
  | str x => exact .base (.str x)
  | lst e _ => exact .base (.lst e)
  | tup e _ => exact .base (.tup e)
  | dic e _ =>
    rcases e with e | ⟨o, e⟩
    · exact .base (.dK e)
    · exact .fDict e
theorem kit_str : ∀ d : PyData, kitB (tyD d) "str" = some (match d with | .str _ => true | _ => false)
  | .none => (by decide +kernel : kitB "NoneType" "str" = some false)
  | .bool _ => (by decide +kernel : kitB "bool" "str" = some false)
  | .int _ => (by decide +kernel : kitB "int" "str" = some false)
  | .str _ => (by decide +kernel : kitB "str" "str" = some true)
  | .list _ => (by decide +kernel : kitB "list" "str" = some false)
  | .tuple _ => (by decide +kernel : kitB "tuple" "str" = some false)
  | .dict _ => (by decide +kernel : kitB "dict" "str" = some false)
theorem kit_tup : ∀ d : PyData, kitB (tyD d) "tuple" = some (match d with | .tuple _ => true | _ => false)
  | .none => (by decide +kernel : kitB "NoneType" "tuple" = some false)
  | .bool _ => (by decide +kernel : kitB "bool" "tuple" = some false)
  | .int _ => (by decide +kernel : kitB "int" "tuple" = some false)
  | .str _ => (by decide +kernel : kitB "str" "tuple" = some false)
  | .list _ => (by decide +kernel : kitB "list" "tuple" = some false)
  | .tuple _ => (by decide +kernel : kitB "tuple" "tuple" = some true)
  | .dict _ => (by decide +kernel : kitB "dict" "tuple" = some false)
theorem kit_lst : ∀ d : PyData, kitB (tyD d) "list" = some (match d with | .list _ => true | _ => false)
  | .none => (by decide +kernel : kitB "NoneType" "list" = some false)
  | .bool _ => (by decide +kernel : kitB "bool" "list" = some false)
  | .int _ => (by decide +kernel : kitB "int" "list" = some false)
  | .str _ => (by decide +kernel : kitB "str" "list" = some false)
  | .list _ => (by decide +kernel : kitB "list" "list" = some true)
  | .tuple _ => (by decide +kernel : kitB "tuple" "list" = some false)
  | .dict _ => (by decide +kernel : kitB "dict" "list" = some false)
theorem kit_dict : ∀ d : PyData, kitB (tyD d) "dict" = some (match d with | .dict _ => true | _ => false)
  | .none => (by decide +kernel : kitB "NoneType" "dict" = some false)
  | .bool _ => (by decide +kernel : kitB "bool" "dict" = some false)
  | .int _ => (by decide +kernel : kitB "int" "dict" = some false)
  | .str _ => (by decide +kernel : kitB "str" "dict" = some false)
  | .list _ => (by decide +kernel : kitB "list" "dict" = some false)
  | .tuple _ => (by decide +kernel : kitB "tuple" "dict" = some false)
  | .dict _ => (by decide +kernel : kitB "dict" "dict" = some true)
theorem x_isiO {P : Program} {w : World} {K : PySem.W.Frag} {H : Hp} {Q : VK} {v : V} {d : PyData} (h : DpD H v d) (n : ∀ ds, d ≠ .dict ds) (k : Q (.bl false) H) : rIsiN P w K [v, .ty "dict"] H Q := by
  refine .inl (x_isi h.ty (kit_dict d) ?_)
  cases d with
  | dict ds => exact absurd rfl (n ds)
  | _ => exact k
theorem x_isiDic {P : Program} {w : World} {K : PySem.W.Frag} {H : Hp} {Q : VK} {a : Addr} {kvs : KVN} (h : AnyD P w H a kvs) (k : Q (.bl true) H) : rIsiN P w K [.ref a, .ty "dict"] H Q :=
  .inr ⟨_, _, _, _, true, rfl, .ty _, h, kit_ty (by decide +kernel : kitB "dict" "dict" = some true), k⟩
def nameD : PyData → Bool
  | .str s => nameB s
  | _ => false
/-- no long text -/
def ShortD (d : PyData) : Prop := ∀ s, d = .str s → s.length ≤ 10000
theorem strs_eqv : ∀ xs ys : List Str, PyData.eqvAll ((xs.map V.str).map dv) ((ys.map V.str).map dv) = decide (xs = ys)
  | [], [] => rfl
  | [], _ :: _ => by
    rw [decide_eq_false (by simp)]
    rfl
  | _ :: _, [] => by
    rw [decide_eq_false (by simp)]
    rfl
  | a :: xs, b :: ys => by
    show ((a == b) && PyData.eqvAll ((xs.map V.str).map dv) ((ys.map V.str).map dv)) = _
    rw [strs_eqv xs ys]
    by_cases e : a = b
    · subst e
      by_cases f : xs = ys
      · subst f; simp
      · rw [decide_eq_false f, decide_eq_false (by simpa using f)]; simp
    · have : (a == b) = false := by
        cases h : (a == b)
        · rfl
        · exact absurd (eq_of_beq h) e
      rw [this, Bool.false_and, decide_eq_false fun z => e (List.cons.inj z).1]
theorem sort_eqv (k k' : Option (Option (Int × List Str))) : PyData.eqv (sortD k) (sortD k') = decide (k = k') := by
  match k, k' with
  | none, none => decide +kernel
  | some none, some none => decide +kernel
  | none, some none => decide +kernel
  | some none, none => decide +kernel
  | none, some (some (h, ys)) => simp [sortD, PyData.eqv, PyData.eqvAll]
  | some none, some (some (h, ys)) => simp [sortD, PyData.eqv, PyData.eqvAll]
  | some (some (h, ys)), none => simp [sortD, PyData.eqv, PyData.eqvAll]
  | some (some (h, ys)), some none => simp [sortD, PyData.eqv, PyData.eqvAll]
  | some (some (h, ys)), some (some (h', ys')) =>
    show (("own" : Str) == "own" && ((h == h') && (PyData.eqvAll ((ys.map V.str).map dv) ((ys'.map V.str).map dv) && true))) = _
    rw [strs_eqv]
    by_cases e : h = h'
    · by_cases f : ys = ys'
      · subst e f; simp
      · simp [e, f]
    · simp [e]
theorem x_neSrt2 {K : PySem.W.Frag} {H : Hp} {Q : VK} {v u : V} {k k' : Option (Option (Int × List Str))} (h1 : rSrt H v k) (h2 : rSrt H u k') (ok : SortOk k) (ok' : SortOk k') (q : Q (.bl (!decide (k = k'))) H) : rNeD K v u H Q := by
  have sh : ∀ {k}, SortOk k → SeqAt.shaped (sortD k) = true := fun ok => by
    obtain ⟨a, b⟩ := lay_srt ok
    unfold SeqAt.shaped
    rw [Bool.and_eq_true]
    exact ⟨a, decide_eq_true (by omega)⟩
  exact ⟨_, _, dp_srt h1 ok, dp_srt h2 ok', sh ok, sh ok', by rw [sort_eqv]; exact q⟩
/-- what a dict of any kind holds at a text -/
def lkN (kvs : KVN) (n : Str) : Option V := (NK.valN kvs (.text n)).map (·.2)
theorem valN_data {H : Hp} : ∀ {kvs : KVN} {ds : List (PyData × PyData)} {k : NestedKey} {p : V × V}, DpP H kvs ds → NK.valN kvs k = some p → ∃ q ∈ ds, DpD H p.2 q.2
  | [], _, _, _, .nil, h => by cases h
  | x :: kvs, y :: ds, k, p, .cons a r, h => by
    unfold NK.valN at h
    rw [List.find?_cons] at h
    by_cases e : x.1 = k
    · rw [decide_eq_true e] at h
      cases h
      exact ⟨y, List.mem_cons_self, a.2⟩
    · rw [decide_eq_false e] at h
      obtain ⟨q, m, z⟩ := valN_data (kvs := kvs) (ds := ds) (k := k) (p := p) r h
      exact ⟨q, List.mem_cons_of_mem _ m, z⟩
theorem lkN_data {H : Hp} {kvs : KVN} {ds : List (PyData × PyData)} {n : Str} {v : V} (h : DpP H kvs ds) (e : lkN kvs n = some v) : ∃ q ∈ ds, DpD H v q.2 := by
  unfold lkN at e
  cases f : NK.valN kvs (.text n) with
  | none => rw [f] at e; cases e
  | some p =>
    rw [f] at e
    cases e
    exact valN_data h f
theorem nget_text {P : Program} {w : World} {H : Hp} {a : Addr} {kvs : KVN} (g : AnyD P w H a kvs) (n : Str) : NGet P w H a (.str n) (lkN kvs n) := ⟨kvs, .text n, g, .str n, Nat.zero_le _, rfl⟩
/-- the dict is looks of the work and the lot -/
structure Right (ns : List Int) (tbl : List (Str × Stand)) (kvs : KVN) : Prop where
  len : kvs.length = tbl.length
  nm : ∀ n ∈ tbl.map (·.1), ∃ s, lkN kvs n = some (.str s) ∧ nameB s = true
  same : ∀ s t st st', lookA tbl s = some st → lookA tbl t = some st' → lkN kvs s = lkN kvs t → sortK ns st = sortK ns st'
section
variable {P : Program} {w : World} {K : PySem.W.Frag} {mg : Str → Option Value} {base : Heap}
def sp_is_name2 (T : Tx K mg) : Sp := fun vs H Q _ => ∃ v d, vs = [v] ∧ DpD H v d ∧ (∀ s, d ≠ .str s) ∧ Q (.bl false) H
theorem ok_is_name2 (T : Tx K mg) : FnOk P w K mg base CX0 1 T.is_name.f T.is_name.fd P_is_name (sp_is_name2 T) := by
  refine T.is_name.F.ok sc_is_name (fun vs H Q E h => ?_) (fun cdv A outer s H vs Q E hr h => ?_)
  · obtain ⟨v, d, rfl, hv, ns, k⟩ := h
    rfl
  have hu := hu_of hr
  have nd := sc_is_name.nd
  obtain ⟨v, d, rfl, hv, ns, k⟩ := h
  refine ⟨_, (pss_cons (ps_if (PW.pt (pw_or (pt_not (pt_val (pe_callB (w_isi (K := K) rfl) (by rfl) T.b_isinstance (by decide +kernel) (pa_cons (pv 0) (pa_cons (pe_bltn (v := .ty "str") (by rfl) T.b_str (by decide +kernel) rfl) pa_nil))))) (pw_or1 (pt_not (pt_chain op_le op_le pe_int (pe_callB (w_len (K := K) rfl) (by rfl) T.b_len (by decide +kernel) (pa_cons (pv 0) pa_nil)) pe_int))))) (pss_one (ps_ret pe_bl)) pss_nil)
      (pss_cons (ps_if (pt_not (pt_chain op_leS op_leS pe_str (pe_ix ix_str (pv 0) pe_int (fun _ _ => rfl)) pe_str)) (pss_one (ps_ret pe_bl)) pss_nil)
      (pss_cons (ps_for PassesOwn.never rfl (pi_str (pv 0)) (pg_name (i := 1) nd rfl (Or.inl rfl)) (pss_one (ps_if (PW.pt (pw_and (pt_not (pt_chain op_leS op_leS pe_str (pv 1) pe_str)) (pw_and1 (pt_not (pt_chain op_leS op_leS pe_str (pv 1) pe_str))))) (pss_one (ps_ret pe_bl)) pss_nil)))
      (pss_one (ps_ret pe_bl))))), ?_⟩
  refine x_start (σ' := [some _, none]) rfl ?_
  try simp only [cx_n, cx_K, cx_w, cx_P]
  walk_at "rd"
  refine x_isi hv.ty (kit_str d) ?_
  cases d with
  | str s => exact absurd rfl (ns s)
  | _ =>
    walk_at "rd"
    exact k
def sp_is_name3 (T : Tx K mg) : Sp := fun vs H Q _ => ∃ v d, vs = [v] ∧ DpD H v d ∧ ShortD d ∧ Q (.bl (nameD d)) H
theorem ok_is_name3 (T : Tx K mg) : FnOk P w K mg base CX0 1 T.is_name.f T.is_name.fd P_is_name (sp_is_name3 T) := by
  have F1 := ok_is_name (P := P) (w := w) (base := base) T
  have F2 := ok_is_name2 (P := P) (w := w) (base := base) T
  have sp : ∀ vs H Q E, sp_is_name3 T vs H Q E → sp_is_name T vs H Q E ∨ sp_is_name2 T vs H Q E := by
    rintro vs H Q E ⟨v, d, rfl, hv, sh, k⟩
    cases d with
    | str s =>
      cases hv
      exact .inl ⟨s, rfl, sh s rfl, k⟩
    | _ => exact .inr ⟨v, _, rfl, hv, (fun s z => nomatch z), k⟩
  refine ⟨fun vs H Q E h => (sp vs H Q E h).elim (F1.len vs H Q E) (F2.len vs H Q E), fun A outer s H args us vs Q E hr he hb hv h => ?_⟩
  exact (sp vs H Q E h).elim (F1.run A outer s H args us vs Q E hr he hb hv) (F2.run A outer s H args us vs Q E hr he hb hv)
end
end M

namespace M
open PySem PySem.Spec PyProof.Rows L2 ReR
def ShortO (d : PyData) : Prop := ∀ ds, d = .dict ds → ∀ q ∈ ds, ShortD q.2
theorem sx_ext {A B : Hp} (s : SX [] A B) : ExtR A B := Ext.r fun b o h => s b o List.not_mem_nil h
theorem vNext {ns : List Int} {tbl : List (Str × Stand)} {kvs : KVN} {A B : List Str} {n l : Str} {st : Stand} (stp : B = A ++ [n]) (vC : ∀ s ∈ A, ∀ t ∈ A, ∀ st st', lookA tbl s = some st → lookA tbl t = some st' → lkN kvs s = lkN kvs t → sortK ns st = sortK ns st') (est : lookA tbl n = some st) (elk : lkN kvs n = some (.str l))
    (h : ∀ s ∈ A, ∀ st1, lookA tbl s = some st1 → lkN kvs s = some (.str l) → sortK ns st1 = sortK ns st) : ∀ s ∈ B, ∀ t ∈ B, ∀ st st', lookA tbl s = some st → lookA tbl t = some st' → lkN kvs s = lkN kvs t → sortK ns st = sortK ns st' := by
  subst stp
  intro s hs t ht st1 st2 e1 e2 e
  rcases List.mem_append.mp hs with hs | hs
  · rcases List.mem_append.mp ht with ht | ht
    · exact vC s hs t ht st1 st2 e1 e2 e
    · cases List.mem_singleton.mp ht
      rw [est] at e2
      cases e2
      exact h s hs st1 e1 (e.trans elk)
  · cases List.mem_singleton.mp hs
    rw [est] at e1
    cases e1
    rcases List.mem_append.mp ht with ht | ht
    · exact (h t ht st2 e2 (e.symm.trans elk)).symm
    · cases List.mem_singleton.mp ht
      rw [est] at e2
      cases e2
      rfl
section
variable {P : Program} {w : World} {K : PySem.W.Frag} {mg : Str → Option Value} {base : Heap}
def sp_is_looks (P : Program) (w : World) (T : Tx K mg) : Sp := fun vs H Q _ => ∃ (x lt : Addr) (v : V) (hands : Int) (start : Str) (tbl : List (Str × Stand)) (ns : List Int) (d : PyData) (o : Option KVN), vs = [.ref x, .ref lt, v] ∧ WorkAt T H x hands start tbl ∧ SqT K H lt (ns.map V.int) ∧ Thg P w H v d o ∧ ShortO d ∧ (tbl.map (·.1)).Nodup ∧ tbl.length ≤ 100 ∧ RowNm tbl ∧
  ∀ (bb : Bool) (H' : Hp), SX [] H H' → (bb = true ↔ ∃ kvs, o = some kvs ∧ Right ns tbl kvs) → Q (.bl bb) H'
theorem ok_is_looks (T : Tx K mg) : FnOk P w K mg base CX0 4 T.is_looks.f T.is_looks.fd P_is_looks (sp_is_looks P w T) := by
  refine T.is_looks.F.ok sc_is_looks (fun vs H Q E h => ?_) (fun cdv A outer s H vs Q E hr h => ?_)
  · obtain ⟨x, lt, v, hands, start, tbl, ns, d, o, rfl, wa, ht, tg, sho, tnd, tlen, rn, k⟩ := h
    rfl
  have hu := hu_of hr
  have nd := sc_is_looks.nd
  obtain ⟨x, lt, v, hands, start, tbl, ns, d, o, rfl, wa, ht, tg, sho, tnd, tlen, rn, k⟩ := h
  refine ⟨_, (pss_cons (ps_if (PW.pt (pw_or (pt_not (pt_val (pe_callB (wN_isi (P := P) (w := w) (K := K) rfl rfl rfl) (by rfl) T.b_isinstance (by decide +kernel) (pa_cons (pv 2) (pa_cons (pe_bltn (v := .ty "dict") (by rfl) T.b_dict (by decide +kernel) rfl) pa_nil))))) (pw_or1 (pt_cmpR op_ne (pe_callB (wN_len (P := P) (w := w) rfl rfl) (by rfl) T.b_len (by decide +kernel) (pa_cons (pv 2) pa_nil)) (pe_callB (w_len (K := K) rfl) (by rfl) T.b_len (by decide +kernel) (pa_cons (w_fld (K := K) rfl (pv 0) rfl) pa_nil)) (nomark _))))) (pss_one (ps_ret pe_bl)) pss_nil)
      (pss_cons (ps_set (i := 3) nd rfl (Or.inl rfl) pe_dnewK)
      (pss_cons (ps_for PassesOwn.never rfl (w_pitup (K := K) rfl (w_fld (K := K) rfl (pv 0) rfl)) (pg_name (i := 4) nd rfl (Or.inl rfl)) (pss_cons (ps_if (PW.pt (pw_or (pt_cmp (wN_notin (P := P) (w := w) rfl rfl hr.units (pv 4) (pv 2))) (pw_or1 (pt_not (pt_val (pe_call (ok_is_name3 (P := P) (w := w) T) (hr.mono (by decide)) (by rfl) T.is_name.g T.is_name.F.kp T.is_name.B .nil pass0 (pa_cons (wN_get (P := P) (w := w) rfl rfl hr.units (pv 2) (pv 4) (fun _ _ => rfl)) pa_nil))))))) (pss_one (ps_ret pe_bl)) pss_nil)
      (pss_cons (ps_set (i := 5) nd rfl (Or.inl rfl) (pe_call (ok_sight_sort (P := P) (w := w) T) (hr.mono (by decide)) (by rfl) T.sight_sort.g T.sight_sort.F.kp T.sight_sort.B .nil pass0 (pa_cons (pv 0) (pa_cons (pv 1) (pa_cons (pv 4) pa_nil)))))
      (pss_one (ps_if (pt_cmpR (w_neD (K := K) rfl hr.units) (pe_dsetd (pv 3) (wN_get (P := P) (w := w) rfl rfl hr.units (pv 2) (pv 4) (fun _ _ => rfl)) (pv 5) ⟨rfl, rfl, rfl, rfl⟩) (pv 5) (nomark _)) (pss_one (ps_ret pe_bl)) pss_nil)))))
      (pss_one (ps_ret pe_bl))))), ?_⟩
  refine x_start (σ' := [some _, some _, some _, none, none, none]) rfl ?_
  try simp only [cx_n, cx_K, cx_w, cx_P]
  obtain ⟨dx, d', nm, en, hx, _, hnm, _⟩ := id wa.ex
  walk_at "rd"
  cases tg with
  | odd h n =>
    refine x_isiO h n ?_
    walk_at "rd"
    exact k false _ (SX.refl _) ⟨(fun z => nomatch z), fun ⟨_, z, _⟩ => nomatch z⟩
  | dic g dp =>
  rename_i a kvs ds
  have sho := sho ds rfl
  refine x_isiDic g ?_
  walk_at "rd"
  refine ⟨a, kvs, rfl, g, ?_⟩
  walk_at "rd"
  refine x_getF hx T.cl_Work T.n_Work_names (look_next (by decide +kernel) (look_next (by decide +kernel) (look_next (by decide +kernel) look_here))) ?_
  walk_at "rd"
  refine x_lenT' hnm ?_
  walk_at "rd"
  rw [List.length_map, List.length_map]
  refine x_cases (fun c => ?_) (fun c => ?_)
  · walk_at "rd"
    refine k false _ (SX.refl _) ⟨(fun z => nomatch z), fun ⟨_, z, r⟩ => ?_⟩
    cases z
    rw [r.len] at c
    simp at c
  have len : kvs.length = tbl.length := by
    have := c
    simp at this
    omega
  walk_at "rd"
  intro sd hsd
  walk_at "rd"
  have s0 : SX [] H (upd H sd (.dK [])) := SX.new hsd
  refine x_getF (s0 _ _ List.not_mem_nil hx) T.cl_Work T.n_Work_names (look_next (by decide +kernel) (look_next (by decide +kernel) (look_next (by decide +kernel) look_here))) ?_
  refine x_itt (s0.le0.t hnm) ?_
  refine for_it (walk_tupR (R := rS) (Hb := H) (paired_S' (tbl.map (·.1)))) (fun i σ A => ∃ (kv : List (Key × V)) (c1 c2 : Option V), SX [] H A ∧ A sd = some (.dK kv) ∧ kv.length ≤ i ∧
      (∀ l v, valV kv (Sum.inr l) = some v → ∃ t st, t ∈ (tbl.map (·.1)).take i ∧ lookA tbl t = some st ∧ lkN kvs t = some (.str l) ∧ rSrt A v (sortK ns st)) ∧
      (∀ t ∈ (tbl.map (·.1)).take i, ∃ l, lkN kvs t = some (.str l) ∧ nameB l = true ∧ (valV kv (Sum.inr l)).isSome = true) ∧
      (∀ s ∈ (tbl.map (·.1)).take i, ∀ t ∈ (tbl.map (·.1)).take i, ∀ st st', lookA tbl s = some st → lookA tbl t = some st' → lkN kvs s = lkN kvs t → sortK ns st = sortK ns st') ∧
      σ = [some (.ref x), some (.ref lt), some (.ref a), some (.ref sd), c1, c2])
    ⟨[], none, none, s0, upd_same, Nat.le_refl _, (fun _ _ h => by cases h), (fun _ h => by cases h), (fun _ h => by cases h), rfl⟩ (fun i σ A _ h => by obtain ⟨_, _, _, s, _⟩ := h; exact s.le0.t hnm) ?_ ?_
  · rintro i z σ A0 A hi ⟨kv, c1, c2, sA, eA, lA, vA, vB, vC, rfl⟩ ⟨rfl, n, hn, rfl⟩
    have i100 : i < 100 := by rw [List.length_map] at hi; omega
    have mn : n ∈ tbl.map (·.1) := getMem hn
    obtain ⟨st, est⟩ := lookA_some mn
    have stp := take_succ_of hn
    have gA : AnyD P w A a kvs := g.mono (sx_ext sA)
    walk_at "rd"
    refine n_notin ?_
    walk_at "rd"
    refine ⟨a, _, rfl, nget_text gA n, ?_⟩
    have no : (¬ ∃ s, lkN kvs n = some (.str s) ∧ nameB s = true) → Q (.bl false) A := fun h => k false _ sA ⟨(fun z => nomatch z), fun ⟨_, z, r⟩ => by
      cases z
      exact absurd (r.nm n mn) h⟩
    cases elk : lkN kvs n with
    | none =>
      simp only [Option.isSome_none, Bool.not_false]
      walk_at "rd"
      exact no (by rw [elk]; rintro ⟨_, z, _⟩; cases z)
    | some v0 =>
      simp only [Option.isSome_some, Bool.not_true]
      walk_at "rd"
      refine n_get ?_
      walk_at "rd"
      refine ⟨a, v0, rfl, by rw [← elk]; exact nget_text gA n, ?_⟩
      obtain ⟨⟨qk, d0⟩, m0, dv0⟩ := lkN_data (dp.mono (sx_ext sA)) elk
      change DpD A v0 d0 at dv0
      walk_at "rd"
      refine ⟨v0, d0, rfl, dv0, sho (qk, d0) m0, ?_⟩
      cases nb : nameD d0 with
      | false =>
        walk_at "rd"
        refine no ?_
        rw [elk]
        rintro ⟨s, z, y⟩
        cases z
        cases dv0
        change nameB s = false at nb
        rw [nb] at y
        cases y
      | true =>
        obtain ⟨l, rfl⟩ : ∃ l, d0 = .str l := by
          cases d0 <;> first | exact ⟨_, rfl⟩ | cases nb
        cases dv0
        change nameB l = true at nb
        walk_at "rd"
        refine ⟨x, lt, n, hands, start, tbl, ns, st, rfl, wa.le sA.le0, sA.le0.t ht, est, fun q B sB rB => ?_⟩
        walk_at "rd"
        have sHB := sA.trans sB
        have eB := sB _ _ List.not_mem_nil eA
        have ok := sortK_ok (ns := ns) rn est
        refine x_dsetd ?_
        walk_at "rd"
        refine ⟨sd, rfl, .inl ⟨kv, .inl eB⟩, ?_⟩
        walk_at "rd"
        refine n_get ?_
        walk_at "rd"
        refine ⟨a, .str l, rfl, by rw [← elk]; exact nget_text (g.mono (sx_ext sHB)) n, ?_⟩
        walk_at "rd"
        refine ⟨kv, Sum.inr l, eB, rfl, lt_size (by omega), fun v hv => ?_, fun hv => ?_⟩
        · obtain ⟨t, st', mt, e1, e2, r1⟩ := vA _ v hv
          walk_at "rd"
          refine x_neSrt2 (mono_Srt _ _ _ _ sB.le0 r1) rB (sortK_ok (ns := ns) rn e1) ok ?_
          by_cases same : sortK ns st' = sortK ns st
          · rw [decide_eq_true same]
            walk_at "rd"
            refine ⟨kv, _, _, sHB, eB, by omega, fun l v hv => ?_, fun t ht => ?_, ?_, rfl⟩
            · obtain ⟨t, st', mt, e1, e2, r1⟩ := vA l v hv
              exact ⟨t, st', by rw [stp]; exact List.mem_append_left _ mt, e1, e2, mono_Srt _ _ _ _ sB.le0 r1⟩
            · rw [stp] at ht
              rcases List.mem_append.mp ht with h | h
              · exact vB t h
              · cases List.mem_singleton.mp h
                exact ⟨l, elk, nb, by rw [hv]; rfl⟩
            · exact vNext stp vC est elk fun s hs st1 e3 e4 => by
                rw [← same]
                exact vC s hs t mt st1 st' e3 e1 (e4.trans e2.symm)
          · rw [decide_eq_false same]
            walk_at "rd"
            refine k false _ sHB ⟨(fun z => nomatch z), fun ⟨_, z, r⟩ => ?_⟩
            cases z
            exact absurd (r.same t n st' st e1 est (e2.trans elk.symm)) same
        · have sC : SX [] H (upd B sd (.dK (putK kv (Sum.inr l) (.ref q)))) := sx_nil_of (S := [sd]) ((nil_sx sHB).trans (SX.mut List.mem_cons_self)) (by simp [hsd])
          have up : ∀ (v : V) (k : Option (Option (Int × List Str))), rSrt B v k → rSrt (upd B sd (.dK (putK kv (Sum.inr l) (.ref q)))) v k := fun v k h => by
            obtain ⟨t, u, h1, h2, h3⟩ := h
            have nt : ∀ {a : Addr} {xs : List V}, B a = some (.tup xs) → a ≠ sd := fun h => ne_of h eB (by intro z; cases z)
            exact ⟨t, u, h1, by rw [upd_ne (nt h2)]; exact h2, fun z => by rw [upd_ne (nt (h3 z))]; exact h3 z⟩
          walk_at "rd"
          refine x_neSrt2 (up _ _ rB) (up _ _ rB) ok ok ?_
          rw [decide_eq_true rfl]
          walk_at "rd"
          refine ⟨_, _, _, sC, upd_same, Nat.le_trans (length_putK _ _ _) (by omega), fun l2 v hv => ?_, fun t ht => ?_, ?_, rfl⟩
          · rw [valV_put] at hv
            by_cases e : l2 = l
            · subst e
              rw [if_pos rfl] at hv
              cases hv
              exact ⟨n, st, by rw [stp]; exact List.mem_append_right _ List.mem_cons_self, est, elk, up _ _ rB⟩
            · rw [if_neg fun z => e (Sum.inr.inj z)] at hv
              obtain ⟨t, st', mt, e1, e2, r1⟩ := vA l2 v hv
              exact ⟨t, st', by rw [stp]; exact List.mem_append_left _ mt, e1, e2, up _ _ (mono_Srt _ _ _ _ sB.le0 r1)⟩
          · rw [stp] at ht
            rcases List.mem_append.mp ht with h | h
            · obtain ⟨l2, h1, h2, h3⟩ := vB t h
              refine ⟨l2, h1, h2, ?_⟩
              rw [valV_put]
              split
              · rfl
              · exact h3
            · cases List.mem_singleton.mp h
              exact ⟨l, elk, nb, by rw [valV_put, if_pos rfl]; rfl⟩
          · exact vNext stp vC est elk fun s hs st1 e3 e4 => by
              obtain ⟨l2, h1, _, h3⟩ := vB s hs
              rw [h1] at e4
              cases e4
              rw [hv] at h3
              cases h3
  · rintro σ A ⟨kv, c1, c2, sA, eA, lA, vA, vB, vC, rfl⟩
    rw [List.take_length] at vB vC
    walk_at "rd"
    refine k true A sA ⟨fun _ => ⟨kvs, rfl, len, fun n hn => ?_, fun s t st st' h1 h2 h3 => vC s (key_of' h1) t (key_of' h2) st st' h1 h2 h3⟩, fun _ => rfl⟩
    obtain ⟨l, h1, h2, _⟩ := vB n hn
    exact ⟨l, h1, h2⟩
end
end M

namespace M
open PySem PySem.Spec PyProof.Rows L2 ReR
/-! ### data, over heaps -/
theorem hid_sx {A B : Hp} {p : Addr} (s : SX [p] A B) : ∀ b o, hid [p] A b = some o → hid [p] B b = some o := fun b o h => by
  obtain ⟨n, e⟩ := hid_at h
  rw [hid_of n]
  exact s b o n e
theorem _root_.ReR.DpD.sx {A B : Hp} {p : Addr} {v : V} {d : PyData} (s : SX [p] A B) (h : DpD (hid [p] A) v d) : DpD (hid [p] B) v d := h.mono (hid_sx s)
theorem _root_.ReR.DpDs.sx {A B : Hp} {p : Addr} {v : List V} {d : List PyData} (s : SX [p] A B) (h : DpDs (hid [p] A) v d) : DpDs (hid [p] B) v d := h.mono (hid_sx s)
theorem _root_.ReR.DpD.out {A : Hp} {S : List Addr} {v : V} {d : PyData} (h : DpD (hid S A) v d) : DpD A v d := h.mono fun b o e => (hid_at e).2
theorem _root_.ReR.DpDs.out {A : Hp} {S : List Addr} {v : List V} {d : List PyData} (h : DpDs (hid S A) v d) : DpDs A v d := h.mono fun b o e => (hid_at e).2
theorem _root_.ReR.DpD.nil {A B : Hp} {v : V} {d : PyData} (s : SX [] A B) (h : DpD A v d) : DpD B v d := h.mono fun b o e => s b o List.not_mem_nil e
theorem _root_.ReR.DpDs.nil_ {A B : Hp} {v : List V} {d : List PyData} (s : SX [] A B) (h : DpDs A v d) : DpDs B v d := h.mono fun b o e => s b o List.not_mem_nil e
theorem _root_.ReR.DpDs.len {A : Hp} : ∀ {v : List V} {d : List PyData}, DpDs A v d → v.length = d.length
  | _, _, .nil => rfl
  | _, _, .cons _ r => congrArg (· + 1) r.len
theorem _root_.ReR.DpDs.at_ {A : Hp} : ∀ {v : List V} {d : List PyData} {i : Nat} {y : V}, DpDs A v d → v[i]? = some y → ∃ e, d[i]? = some e ∧ DpD A y e
  | _, _, i, _, .nil, h => by cases i <;> cases h
  | _, _, 0, _, .cons h r, e => by cases e; exact ⟨_, rfl, h⟩
  | _, _, i + 1, _, .cons h r, e => r.at_ (i := i) e
theorem _root_.ReR.DpDs.app {A : Hp} : ∀ {v w : List V} {d e : List PyData}, DpDs A v d → DpDs A w e → DpDs A (v ++ w) (d ++ e)
  | _, _, _, _, .nil, h => h
  | _, _, _, _, .cons h r, k => .cons h (r.app k)
theorem _root_.ReR.DpDs.take {A : Hp} : ∀ {v : List V} {d : List PyData} (n : Nat), DpDs A v d → DpDs A (v.take n) (d.take n)
  | _, _, _, .nil => by rw [List.take_nil, List.take_nil]; exact .nil
  | _, _, 0, .cons h r => .nil
  | _, _, n + 1, .cons h r => .cons h (r.take n)
theorem _root_.ReR.DpDs.drop {A : Hp} : ∀ {v : List V} {d : List PyData} (n : Nat), DpDs A v d → DpDs A (v.drop n) (d.drop n)
  | _, _, _, .nil => by rw [List.drop_nil, List.drop_nil]; exact .nil
  | _, _, 0, .cons h r => .cons h r
  | _, _, n + 1, .cons h r => r.drop n
theorem _root_.ReR.DpDs.strs {A : Hp} : ∀ (l : List Str), DpDs A (l.map V.str) (l.map PyData.str)
  | [] => .nil
  | s :: l => .cons (.str s) (ReR.DpDs.strs l)
mutual
theorem _root_.ReR.DpD.dp {K : PySem.W.Frag} {H : Hp} : ∀ {v : V} {d : PyData}, DpD H v d → d.canLay0 = true → Dp K H v d
  | _, _, .non, _ => .non
  | _, _, .bl b, _ => .bl b
  | _, _, .int i, _ => .int i
  | _, _, .str x, _ => .str x
  | _, _, .lst e h, c => .lst (sqL e) (h.dp (by rw [PyData.canLay0] at c; exact c))
  | _, _, .tup e h, c => .tup (sqT e) (h.dp (by rw [PyData.canLay0] at c; exact c))
  | _, _, .dic e h, c => by rw [PyData.canLay0] at c; cases c
theorem _root_.ReR.DpDs.dp {K : PySem.W.Frag} {H : Hp} : ∀ {v : List V} {d : List PyData}, DpDs H v d → PyData.canLayAll0 d = true → DpAll K H v d
  | _, _, .nil, _ => .nil
  | _, _, .cons h r, c => by
    rw [PyData.canLayAll0, Bool.and_eq_true] at c
    exact .cons (h.dp c.1) (r.dp c.2)
end
theorem shaped_lay {d : PyData} (h : SeqAt.shaped d = true) : d.canLay0 = true := by
  unfold SeqAt.shaped at h
  rw [Bool.and_eq_true] at h
  exact h.1
/-- two things with the same data are equal -/
theorem x_eqDat {K : PySem.W.Frag} {H : Hp} {Q : VK} {v u : V} {d : PyData} (h1 : DpD H v d) (h2 : DpD H u d) (s : SeqAt.shaped d = true) (q : Q (.bl true) H) : rEqD K v u H Q :=
  ⟨d, d, h1.dp (shaped_lay s), h2.dp (shaped_lay s), s, s, by rw [SeqAt.eqv_refl _ (shaped_lay s)]; exact q⟩
theorem x_neDat {K : PySem.W.Frag} {H : Hp} {Q : VK} {v u : V} {d : PyData} (h1 : DpD H v d) (h2 : DpD H u d) (s : SeqAt.shaped d = true) (q : Q (.bl false) H) : rNeD K v u H Q :=
  ⟨d, d, h1.dp (shaped_lay s), h2.dp (shaped_lay s), s, s, by rw [SeqAt.eqv_refl _ (shaped_lay s)]; exact q⟩
end M

namespace M
open PySem PySem.Spec PyProof.Rows L2 ReR
/-- the thing is a knowledge of these looks -/
def GoodD (looks : List (Str × Str)) (d : PyData) : Prop := ∃ kn0 : List Str, d = .tuple (kn0.map PyData.str) ∧ GoodK (lookOf looks) (looks.map (·.1)) kn0
theorem map_str_at {ds : List PyData} {kn0 : List Str} {i : Nat} {e : PyData} (h : ds = kn0.map PyData.str) (hi : ds[i]? = some e) : ∃ s, e = .str s ∧ kn0[i]? = some s := by
  subst h
  rw [List.getElem?_map] at hi
  cases q : kn0[i]? with
  | none => rw [q] at hi; cases hi
  | some s => rw [q] at hi; cases hi; exact ⟨s, rfl, rfl⟩
theorem strs_inj : ∀ {a b : List Str}, a.map PyData.str = b.map PyData.str → a = b
  | [], [], _ => rfl
  | [], _ :: _, h => nomatch h
  | _ :: _, [], h => nomatch h
  | a :: l, b :: m, h => by
    injection h with h1 h2
    injection h1 with h1
    rw [h1, strs_inj h2]
theorem pairwise_snoc {R : Str → Str → Prop} {l : List Str} {s : Str} (trans : ∀ a b c, R a b → R b c → R a c) (h : l.Pairwise R) (last : ∀ z, l.getLast? = some z → R z s) : (l ++ [s]).Pairwise R := by
  rw [List.pairwise_append]
  refine ⟨h, List.pairwise_singleton _ _, fun a ha b hb => ?_⟩
  cases List.mem_singleton.mp hb
  obtain ⟨i, hi, ea⟩ := List.mem_iff_getElem.mp ha
  have ne : l ≠ [] := fun z => by rw [z] at ha; cases ha
  have gl : l.getLast? = some (l.getLast ne) := List.getLast?_eq_some_getLast ne
  have r := last _ gl
  by_cases e : i = l.length - 1
  · have : l.getLast ne = a := by rw [List.getLast_eq_getElem, ← ea]; congr 1; omega
    rw [← this]
    exact r
  · have lt : i < l.length - 1 := by omega
    have := List.pairwise_iff_getElem.mp h i (l.length - 1) hi (by omega) lt
    rw [ea] at this
    refine trans _ _ _ this ?_
    rw [List.getLast_eq_getElem] at r
    exact r
theorem ltS_trans (a b c : Str) (h : ltS a b) (h' : ltS b c) : ltS a c := List.lt_trans (α := Nat) h h'
section
variable {P : Program} {w : World} {K : PySem.W.Frag} {mg : Str → Option Value} {base : Heap}
def sp_is_knowledge (T : Tx K mg) : Sp := fun vs H Q _ => ∃ (lk : Addr) (looks : List (Str × Str)) (v : V) (d : PyData), vs = [.ref lk, v] ∧ rD rS H (.ref lk) looks ∧ DpD H v d ∧
  ∀ (bb : Bool) H', SX [] H H' → (bb = true ↔ GoodD looks d) → Q (.bl bb) H'
theorem ok_is_knowledge (T : Tx K mg) : FnOk P w K mg base CX0 1 T.is_knowledge.f T.is_knowledge.fd P_is_knowledge (sp_is_knowledge T) := by
  refine T.is_knowledge.F.ok sc_is_knowledge (fun vs H Q E h => ?_) (fun cdv A outer s H vs Q E hr h => ?_)
  · obtain ⟨lk, looks, v, d, rfl, ⟨lk', kvl, el, rl, kl⟩, hv, k⟩ := h
    rfl
  have hu := hu_of hr
  have nd := sc_is_knowledge.nd
  obtain ⟨lk, looks, v, d, rfl, ⟨lk', kvl, el, rl, kl⟩, hv, k⟩ := h
  refine ⟨_, (pss_cons (ps_if (PW.pt (pw_or (pt_not (pt_val (pe_callB (w_isi (K := K) rfl) (by rfl) T.b_isinstance (by decide +kernel) (pa_cons (pv 1) (pa_cons (pe_bltn (v := .ty "tuple") (by rfl) T.b_tuple (by decide +kernel) rfl) pa_nil))))) (pw_or1 (pt_cmpR op_eq (pe_callB (w_len (K := K) rfl) (by rfl) T.b_len (by decide +kernel) (pa_cons (pv 1) pa_nil)) pe_int (nomark _))))) (pss_one (ps_ret pe_bl)) pss_nil)
      (pss_cons (ps_for PassesOwn.never rfl (w_enumA (K := K) rfl (by rfl) T.b_enumerate (pa_cons (pv 1) pa_nil)) (w_pgtup (K := K) (n := 2) rfl (by rfl) (pgs_cons (pg_name (i := 2) nd rfl (Or.inl rfl)) (pgs_cons (pg_name (i := 3) nd rfl (Or.inl rfl)) pgs_nil)) (by rfl) (by rfl)) (pss_cons (ps_if (PW.pt (pw_or (pt_not (pt_val (pe_callB (w_isi (K := K) rfl) (by rfl) T.b_isinstance (by decide +kernel) (pa_cons (pv 3) (pa_cons (pe_bltn (v := .ty "str") (by rfl) T.b_str (by decide +kernel) rfl) pa_nil))))) (pw_or1 (pt_cmp (pc_dnotin hu (pv 3) (pv 0)))))) (pss_one (ps_ret pe_bl)) pss_nil)
      (pss_cons (ps_if (pt_cmpR op_ne (pe_dget hu (pv 0) (pv 3) (fun _ _ => rfl)) (pe_dget hu (pv 0) (pe_ix (w_ixT (K := K) rfl) (pv 1) pe_int (fun _ _ => rfl)) (fun _ _ => rfl)) (nomark _)) (pss_one (ps_ret pe_bl)) pss_nil)
      (pss_one (ps_if (PW.pt (pw_and (pt_cmpR op_gt (pv 2) pe_int (nomark _)) (pw_and1 (pt_cmpR op_ge_str (pe_ix (w_ixT (K := K) rfl) (pv 1) (pe_op op_sub (pv 2) pe_int) (fun _ _ => rfl)) (pv 3) (nomark _))))) (pss_one (ps_ret pe_bl)) pss_nil)))))
      (pss_one (ps_ret pe_bl)))), ?_⟩
  refine x_start (σ' := [some _, some _, none, none]) rfl ?_
  try simp only [cx_n, cx_K, cx_w, cx_P]
  cases el
  have no : ∀ B, SX [] H B → ¬ GoodD looks d → Q (.bl false) B := fun B s h => k false B s ⟨(fun z => nomatch z), fun z => absurd z h⟩
  walk_at "rd"
  refine x_isi hv.ty (kit_tup d) ?_
  cases hv with
  | @tup a xs ds hkn hs =>
    walk_at "rd"
    refine x_lenT' (sqT hkn) ?_
    walk_at "rd"
    have ln := hs.len
    refine x_cases (fun c => ?_) (fun c => ?_)
    · walk_at "rd"
      refine no _ (SX.refl _) fun ⟨kn0, e, g⟩ => g.1 ?_
      have : xs.length = 0 := by have := of_decide_eq_true c; injection this with this; omega
      injection e with e
      have : kn0.length = 0 := by rw [← List.length_map (f := PyData.str), ← e]; omega
      exact List.eq_nil_of_length_eq_zero this
    have l0 : xs.length ≠ 0 := fun z => by
      rw [z] at c
      exact absurd c (by decide)
    walk_at "rd"
    refine x_iEnumA ?_
    walk_at "rd"
    refine ⟨a, xs, rfl, .inr hkn, fun J wk => ?_⟩
    refine for_it wk (fun i σ A => ∃ (c e : Option V) (pre : List Str), SX [] H A ∧ ds.take i = pre.map PyData.str ∧ pre.Pairwise ltS ∧ (∀ s ∈ pre, s ∈ looks.map (·.1)) ∧ (∀ s ∈ pre, lookOf looks s = lookOf looks (hd pre)) ∧ σ = [some (.ref lk), some (.ref a), c, e])
      ⟨none, none, [], SX.refl _, rfl, .nil, (fun _ h => nomatch h), (fun _ h => nomatch h), rfl⟩ (fun i σ A _ h => by obtain ⟨_, _, _, s, _⟩ := h; rw [hkn]; exact s _ _ List.not_mem_nil hkn) ?_ ?_
    · rintro i y σ A A' hi ⟨c, e, pre, sA, ep, pw, pk, ps, rfl⟩ ⟨t, y1, hy, rfl, htn, rfl⟩
      obtain ⟨dy, edy, hdy⟩ := hs.at_ hy
      have sT : SX [] A (upd A t (.tup [.int (i : Int), y1])) := SX.new htn
      have sAT := sA.trans sT
      have rlT : Rd _ lk (.dK kvl) := sAT.le0.rd _ _ trivial rl
      have hdT := hdy.nil sAT
      have plen : pre.length = i := by
        have := congrArg List.length ep
        rw [List.length_take, List.length_map] at this
        have := getLt edy
        omega
      walk_at "rd"
      refine x_isi hdT.ty (kit_str dy) ?_
      have isS : ∀ {s}, y1 ≠ .str s → (∀ s, dy ≠ .str s) → Q (.bl false) (upd A t (.tup [.int (i : Int), y1])) := fun _ h => no _ sAT fun ⟨kn0, e, g⟩ => by
        injection e with e
        obtain ⟨s, es, _⟩ := map_str_at e edy
        exact h s es
      cases hdT with
      | str s =>
        walk_at "rd"
        refine x_dni' rlT ?_
        rcases kl.look s with ⟨v1, b, e1, e2, rfl⟩ | ⟨e1, e2⟩
        · rw [e1]
          walk_at "rd"
          refine x_false (by rfl) ?_
          walk_at "rd"
          refine x_dg' rlT e1 ?_
          walk_at "rd"
          obtain ⟨s0, hx0, hd0, m0⟩ : ∃ s0, xs[0]? = some (.str s0) ∧ hd (pre ++ [s]) = s0 ∧ ∃ b0, lookA looks s0 = some b0 := by
            cases pre with
            | nil =>
              have i0 : i = 0 := by rw [← plen]; rfl
              subst i0
              exact ⟨s, hy, rfl, b, e2⟩
            | cons p r =>
              have : (ds.take i)[0]? = some (.str p) := by rw [ep]; rfl
              have i0 : 0 < i := by rw [← plen]; exact Nat.succ_pos _
              rw [List.getElem?_take_of_lt i0] at this
              have lx : 0 < xs.length := by omega
              obtain ⟨e0, q0, h0⟩ := hs.at_ (List.getElem?_eq_getElem lx)
              rw [this] at q0
              cases q0
              cases q1 : xs[0]'lx with
              | str z =>
                rw [q1] at h0
                cases h0
                exact ⟨p, by rw [List.getElem?_eq_getElem lx, q1], rfl, lookA_some (pk p List.mem_cons_self)⟩
              | _ => rw [q1] at h0; cases h0
          obtain ⟨b0, m0⟩ := m0
          obtain ⟨v0, ev0, r0⟩ := kl.at_ m0
          have r0 : v0 = .str b0 := r0
          subst r0
          refine x_ixT (sqT (sAT _ _ List.not_mem_nil hkn)) (atI_nat (j := 0) hx0) ?_
          refine x_dg' rlT ev0 ?_
          have lk1 : lookOf looks s = b := by unfold lookOf; rw [e2]; rfl
          have lk0 : lookOf looks (hd (pre ++ [s])) = b0 := by unfold lookOf; rw [hd0, m0]; rfl
          have stepD : ds.take (i + 1) = (pre ++ [s]).map PyData.str := by rw [take_succ_of edy, ep, List.map_append]; rfl
          have mem1 : ∀ z ∈ pre ++ [s], z ∈ looks.map (·.1) := fun z hz => by
            rcases List.mem_append.mp hz with hz | hz
            · exact pk z hz
            · cases List.mem_singleton.mp hz
              exact key_of' e2
          walk_at "rd"
          refine x_cases (fun c1 => ?_) (fun c1 => ?_)
          · walk_at "rd"
            refine no _ sAT fun ⟨kn0, e, g⟩ => ?_
            injection e with e
            obtain ⟨z, ez, hz⟩ := map_str_at e edy
            cases ez
            obtain ⟨z0, ez0, hz0⟩ : ∃ z0, PyData.str s0 = .str z0 ∧ kn0[0]? = some z0 := by
              have lx : 0 < xs.length := by omega
              obtain ⟨e0, q0, h0⟩ := hs.at_ hx0
              cases h0
              exact map_str_at e q0
            cases ez0
            have := g.2.2.2 s (getMem hz)
            rw [g.hd.2] at hz0
            cases hz0
            have e9 : lookOf looks (hd kn0) = b0 := by unfold lookOf; rw [m0]; rfl
            rw [lk1, e9] at this
            subst this
            simp at c1
          have same : b = b0 := by
            have : decide (V.str b = V.str b0) = true := by simpa using c1
            injection of_decide_eq_true this
          subst same
          have same1 : ∀ z ∈ pre ++ [s], lookOf looks z = lookOf looks (hd (pre ++ [s])) := fun z hz => by
            rw [lk0]
            rcases List.mem_append.mp hz with hz | hz
            · rw [ps z hz]
              cases pre with
              | nil => cases hz
              | cons p r => exact lk0
            · cases List.mem_singleton.mp hz
              exact lk1
          walk_at "rd"
          refine x_cases (fun c2 => ?_) (fun c2 => ?_)
          · have i1 : 1 ≤ i := by
              have := of_decide_eq_true c2
              omega
            have ib : i - 1 < pre.length := by omega
            have ei : (i : Int) - 1 = ((i - 1 : Nat) : Int) := by omega
            have dprev : ds[i - 1]? = some (.str (pre[i - 1]'ib)) := by
              have : (ds.take i)[i - 1]? = some (.str (pre[i - 1]'ib)) := by rw [ep, List.getElem?_map, List.getElem?_eq_getElem ib]; rfl
              rwa [List.getElem?_take_of_lt (by omega)] at this
            have xprev : xs[i - 1]? = some (.str (pre[i - 1]'ib)) := by
              have lx : i - 1 < xs.length := by have := getLt hy; omega
              obtain ⟨e0, q0, h0⟩ := hs.at_ (List.getElem?_eq_getElem lx)
              rw [dprev] at q0
              cases q0
              rw [List.getElem?_eq_getElem lx]
              generalize xs[i - 1] = y9 at h0
              cases h0
              rfl
            have gl : pre.getLast? = some (pre[i - 1]'ib) := by
              have ne : pre ≠ [] := fun z => by rw [z] at plen; simp at plen; omega
              rw [List.getLast?_eq_some_getLast ne, List.getLast_eq_getElem]
              congr 2
              omega
            walk_at "rd"
            rw [ei]
            refine x_ixT (sAT.le0.t (sqT hkn)) (atI_nat (j := i - 1) xprev) ?_
            walk_at "rd"
            refine ⟨_, _, rfl, rfl, ?_⟩
            by_cases lt : (pre[i - 1]'ib).cps.toList < s.cps.toList
            · rw [decide_eq_true lt]
              walk_at "rd"
              exact ⟨_, _, pre ++ [s], sAT, stepD, pairwise_snoc ltS_trans pw (fun z hz => by rw [gl] at hz; cases hz; exact lt), mem1, same1, rfl⟩
            · rw [decide_eq_false lt]
              walk_at "rd"
              refine no _ sAT fun ⟨kn0, e, g⟩ => lt ?_
              injection e with e
              obtain ⟨z, ez, hz⟩ := map_str_at e edy
              cases ez
              obtain ⟨z0, ez0, hz0⟩ := map_str_at e dprev
              injection ez0 with ez0
              have l1 := getLt hz0
              have l2 := getLt hz
              have := List.pairwise_iff_getElem.mp g.2.1 (i - 1) i l1 l2 (by omega)
              rw [List.getElem?_eq_getElem l1] at hz0
              rw [List.getElem?_eq_getElem l2] at hz
              rw [Option.some.inj hz0, Option.some.inj hz, ← ez0] at this
              exact this
          · have i0 : i = 0 := by
              have : decide ((i : Int) > 0) = false := by simpa using c2
              have := of_decide_eq_false this
              omega
            walk_at "rd"
            refine ⟨_, _, pre ++ [s], sAT, stepD, pairwise_snoc ltS_trans pw (fun z hz => ?_), mem1, same1, rfl⟩
            have : pre = [] := List.eq_nil_of_length_eq_zero (by omega)
            rw [this] at hz
            cases hz
        · rw [e1]
          walk_at "rd"
          refine x_true (by rfl) ?_
          walk_at "rd"
          refine no _ sAT fun ⟨kn0, e, g⟩ => ?_
          injection e with e
          obtain ⟨z, ez, hz⟩ := map_str_at e edy
          cases ez
          obtain ⟨l, el⟩ := lookA_some (g.2.2.1 s (getMem hz))
          rw [e2] at el
          cases el
      | _ =>
        walk_at "rd"
        exact isS (s := "") (fun z => nomatch z) (fun _ z => nomatch z)
    · rintro σ A ⟨c, e, pre, sA, ep, pw, pk, ps, rfl⟩
      walk_at "rd"
      rw [ln, List.take_length] at ep
      refine k true A sA ⟨fun _ => ⟨pre, by rw [ep], ?_, pw, pk, ps⟩, fun _ => rfl⟩
      rintro rfl
      rw [ln, ep] at l0
      exact l0 rfl
  | _ =>
    walk_at "rd"
    refine no _ (SX.refl _) fun ⟨kn0, e, g⟩ => by cases e
end
end M

namespace M
open PySem PySem.Spec PyProof.Rows L2 ReR
theorem Right.tbl {ns : List Int} {sts tbl : List (Str × Stand)} {kvs : KVN} (t : Tbl sts tbl) : Right ns sts kvs ↔ Right ns tbl kvs := by
  have len : sts.length = tbl.length := by have := t.perm.length_eq; simpa using this.symm
  constructor
  · intro r
    refine ⟨by rw [← len]; exact r.len, fun n hn => r.nm n (t.perm.mem_iff.mp hn), fun s u st st' h1 h2 e => ?_⟩
    obtain ⟨a, a1, a2⟩ := t.back s st h1
    obtain ⟨b, b1, b2⟩ := t.back u st' h2
    rw [sortK_srt a2, sortK_srt b2]
    exact r.same s u a b a1 b1 e
  · intro r
    refine ⟨by rw [len]; exact r.len, fun n hn => r.nm n (t.perm.mem_iff.mpr hn), fun s u st st' h1 h2 e => ?_⟩
    obtain ⟨a, a1, a2⟩ := t.on s st h1
    obtain ⟨b, b1, b2⟩ := t.on u st' h2
    rw [← sortK_srt a2, ← sortK_srt b2]
    exact r.same s u a b a1 b1 e
theorem lift_val (kv : List (Key × V)) (n : Str) : lkN (liftK kv) n = valV kv (Sum.inr n) := by
  unfold lkN
  induction kv with
  | nil => rfl
  | cons p r ih =>
    show (NK.valN ((nk p.1, kV p.1, p.2) :: liftK r) (.text n)).map (·.2) = _
    unfold NK.valN valV
    rw [List.find?_cons, List.find?_cons]
    by_cases e : p.1 = Sum.inr n
    · have : nk p.1 = .text n := by rw [e]; rfl
      rw [decide_eq_true e, decide_eq_true this]
      rfl
    · have : nk p.1 ≠ .text n := fun z => e (nk_inj (b := Sum.inr n) z)
      rw [decide_eq_false e, decide_eq_false this]
      exact ih
theorem LooksOk.right {ns : List Int} {tbl : List (Str × Stand)} {looks : List (Str × Str)} {H : Hp} {kv : List (Key × V)} (o : LooksOk ns tbl looks) (tn : (tbl.map (·.1)).Nodup) (k : KVs rS H kv looks) : Right ns tbl (liftK kv) := by
  have at_ : ∀ {n}, n ∈ tbl.map (·.1) → lkN (liftK kv) n = some (.str (lookOf looks n)) := fun hn => by
    obtain ⟨v, e, r⟩ := k.at_ (o.at_ hn)
    rw [lift_val, e]
    have r : v = .str _ := r
    rw [r]
  refine ⟨?_, fun n hn => ⟨_, at_ hn, o.nm _ (lookA_mem (o.at_ hn))⟩, fun s t st st' h1 h2 e => ?_⟩
  · unfold liftK
    rw [List.length_map, Paired.length k]
    have h1 := nodup_sub o.nd fun n h => (o.key n).mp h
    have h2 := nodup_sub tn fun n h => (o.key n).mpr h
    rw [List.length_map, List.length_map] at h1 h2
    omega
  · rw [at_ (key_of' h1), at_ (key_of' h2)] at e
    refine o.same s t st st' h1 h2 ?_
    injection e with e
    injection e
theorem nameB_size8 {s : Str} (h : nameB s = true) : s.length ≤ 8 := by
  unfold nameB nameL at h
  simp only [Bool.and_eq_true, decide_eq_true_eq] at h
  have e : s.cps.toList.length = s.length := by simp [Str.length]
  omega
theorem dpp_lift {A0 H : Hp} : ∀ {kv : List (Key × V)} {looks : List (Str × Str)}, KVs rS A0 kv looks → (∀ q ∈ looks, nameB q.2 = true) → ∃ ds, DpP H (liftK kv) ds ∧ ∀ q ∈ ds, ShortD q.2
  | [], [], .nil, _ => ⟨[], .nil, fun _ h => nomatch h⟩
  | (k, v) :: kv, (a, b) :: looks, .cons ⟨h1, h2⟩ r, nm => by
    obtain ⟨ds, g1, g2⟩ := dpp_lift (H := H) r fun q hq => nm q (List.mem_cons_of_mem _ hq)
    have h1 : k = Sum.inr a := h1
    have h2 : v = .str b := h2
    subst h1 h2
    refine ⟨(.str a, .str b) :: ds, .cons ⟨.str a, .str b⟩ g1, fun q hq => ?_⟩
    rcases List.mem_cons.mp hq with rfl | hq
    · intro s e
      injection e with e
      subst e
      have : b.length ≤ 8 := nameB_size8 (nm (a, b) List.mem_cons_self)
      show b.length ≤ 10000
      omega
    · exact g2 q hq
theorem strs_back {A : Hp} : ∀ {l : List Str} {xs : List V}, DpDs A xs (l.map PyData.str) → xs = l.map V.str
  | [], _, h => by cases h; rfl
  | s :: l, _, h => by
    cases h with
    | cons h1 h2 =>
      cases h1
      rw [strs_back h2]
      rfl
theorem x_dget2' {σ : List (Option V)} {H : Hp} {Q : VK} {td ty tx : TE} (k : td σ H fun x H1 => ∃ a, x = .ref a ∧ IsD H1 a ∧ ty σ H1 fun y H2 => tx σ H2 fun z H3 => ∃ o, DGet H3 a y o ∧ Q (o.getD z) H3) : tDGet2 td ty tx σ H Q := k
/-- the step fits the knowledge's stand -/
def MvFit (ns : List Int) (st : Stand) (mv : Option Str) : Prop := if moverIn ns st = true then ∃ m, mv = some m ∧ m ∈ st.rows.map (·.1) else mv = none
inductive Ans where
  | looks | know | step | look
  | told (l : List Str)
section
variable {P : Program} [SupX.PX P] {w : World} {K : PySem.W.Frag} {mg : Str → Option Value} {base : Heap}
/-- what `after` is asked, and what is due -/
def AftOk (P : Program) (w : World) (T : Tx K mg) (H : Hp) (x lt : Addr) (v vn vm vl : V) (hands : Int) (start : Str) (tbl : List (Str × Stand)) (ns : List Int) (a : Ans) : Prop :=
  ∃ dn dm dl, WorkAt T H x hands start tbl ∧ TbOk start tbl ∧ SqT K H lt (ns.map V.int) ∧ (tbl.map (·.1)).Nodup ∧ tbl.length ≤ 100 ∧ RowNm tbl ∧ DpD H vn dn ∧ DpD H vm dm ∧ DpD H vl dl ∧ ShortD dl ∧
  ((a = .looks ∧ ∃ d o, Thg P w H v d o ∧ ShortO d ∧ ¬ ∃ kvs, o = some kvs ∧ Right ns tbl kvs) ∨
   ∃ lk looks, v = .ref lk ∧ rD rS H (.ref lk) looks ∧ LooksOk ns tbl looks ∧
    ((a = .know ∧ ¬ GoodD looks dn) ∨
     ∃ (kn0 : List Str) (st : Stand), dn = .tuple (kn0.map PyData.str) ∧ kn0.length ≤ 100 ∧ GoodK (lookOf looks) (looks.map (·.1)) kn0 ∧ lookA tbl (hd kn0) = some st ∧
      ((a = .step ∧ ¬ ∃ mv, vm = mvV mv ∧ MvFit ns st mv) ∨
       ∃ mv, vm = mvV mv ∧ MvFit ns st mv ∧
        ((a = .look ∧ nameD dl = false) ∨ ∃ l, dl = .str l ∧ nameB l = true ∧ a = .told ((lookA (afterL (grOf ns tbl) (lookOf looks) kn0 mv) l).getD [])))))
/-- what then becomes of it -/
def AftOut (T : Tx K mg) (H : Hp) (vm : V) (Q : VK) (E : XK) : Ans → Prop
  | .looks => ∀ H', SX [] H H' → E (.ref T.c_BadLooks) none H'
  | .know => ∀ H', SX [] H H' → E (.ref T.c_BadKnowledge) none H'
  | .look => ∀ H', SX [] H H' → E (.ref T.c_BadLook) none H'
  | .step => ∀ H' d, SX [] H H' → H' d = none → E (.ref T.c_NoStep) (some d) (upd H' d (.xd [("name", vm)]))
  | .told l => ∀ q H', SX [] H H' → H' q = some (.tup (l.map V.str)) → Q (.ref q) H'
def sp_after (P : Program) (w : World) (T : Tx K mg) : Sp := fun vs H Q E => ∃ (x lt : Addr) (v vn vm vl : V) (hands : Int) (start : Str) (tbl : List (Str × Stand)) (ns : List Int) (a : Ans), vs = [.ref x, .ref lt, v, vn, vm, vl] ∧ AftOk P w T H x lt v vn vm vl hands start tbl ns a ∧ AftOut T H vm Q E a
theorem ok_after (T : Tx K mg) : FnOk P w K mg base (L2.CX P w) 5 T.after.f T.after.fd P_after (sp_after P w T) := by
  refine T.after.F.okX sc_after (fun vs H Q E h => ?_) (fun cdv A outer s H vs Q E hr h => ?_)
  · obtain ⟨x, lt, v, vn, vm, vl, hands, start, tbl, ns, a, rfl, ⟨dn, dm, dl, wa, to, ht, tnd, tlen, rn, hn, hm, hl, shl, cs⟩, ke⟩ := h
    rfl
  have hu := hu_of hr
  have nd := sc_after.nd
  obtain ⟨x, lt, v, vn, vm, vl, hands, start, tbl, ns, a, rfl, ⟨dn, dm, dl, wa, to, ht, tnd, tlen, rn, hn, hm, hl, shl, cs⟩, ke⟩ := h
  refine ⟨_, (pss_cons (ps_if (pt_not (pt_val (pe_call (ok_is_looks (P := P) (w := w) T) (hr.mono (by decide)) (by rfl) T.is_looks.g T.is_looks.F.kp T.is_looks.B .nil pass0 (pa_cons (pv 0) (pa_cons (pv 1) (pa_cons (pv 2) pa_nil)))))) (pss_one (ps_raise rfl (takes_of rfl rfl rfl rfl) (SupX.pmk_own0 (K := K) rfl T.p_BadLooks T.g_BadLooks (by rfl)))) pss_nil)
      (pss_cons (ps_if (pt_not (pt_val (pe_call (ok_is_knowledge (P := P) (w := w) T) (hr.mono (by decide)) (by rfl) T.is_knowledge.g T.is_knowledge.F.kp T.is_knowledge.B .nil pass0 (pa_cons (pv 2) (pa_cons (pv 3) pa_nil))))) (pss_one (ps_raise rfl (takes_of rfl rfl rfl rfl) (SupX.pmk_own0 (K := K) rfl T.p_BadKnowledge T.g_BadKnowledge (by rfl)))) pss_nil)
      (pss_cons (ps_if (pt_val (pe_call (ok_is_own (P := P) (w := w) T) (hr.mono (by decide)) (by rfl) T.is_own.g T.is_own.F.kp T.is_own.B .nil pass0 (pa_cons (pv 0) (pa_cons (pv 1) (pa_cons (pv 3) pa_nil))))) (pss_one (ps_if (PW.pt (pw_or (pt_not (pt_val (pe_callB (w_isi (K := K) rfl) (by rfl) T.b_isinstance (by decide +kernel) (pa_cons (pv 4) (pa_cons (pe_bltn (v := .ty "str") (by rfl) T.b_str (by decide +kernel) rfl) pa_nil))))) (pw_or1 (pt_cmpR (w_nin (K := K) rfl) (pv 4) (pe_meth (pv 0) T.cl_Work T.me_Work_steps (ok_Work_steps (P := P) (w := w) T) (hr.mono (by decide)) T.Work_steps.B .nil pass0 (pa_cons (pe_ix (w_ixT (K := K) rfl) (pv 3) pe_int (fun _ _ => rfl)) pa_nil)) (by rfl))))) (pss_one (ps_raise rfl (takes_of rfl rfl rfl rfl) (SupX.pmk_sup (P := P) rfl T.s_NoStep (hr.mono (by decide)) (by rfl) T.g_NoStep (pa_cons (pv 4) pa_nil)))) pss_nil)) (pss_one (ps_if (pt_cmpR op_notNo (pv 4) pe_non (nomark _)) (pss_one (ps_raise rfl (takes_of rfl rfl rfl rfl) (SupX.pmk_sup (P := P) rfl T.s_NoStep (hr.mono (by decide)) (by rfl) T.g_NoStep (pa_cons (pv 4) pa_nil)))) pss_nil)))
      (pss_cons (ps_if (pt_not (pt_val (pe_call (ok_is_name3 (P := P) (w := w) T) (hr.mono (by decide)) (by rfl) T.is_name.g T.is_name.F.kp T.is_name.B .nil pass0 (pa_cons (pv 5) pa_nil)))) (pss_one (ps_raise rfl (takes_of rfl rfl rfl rfl) (SupX.pmk_own0 (K := K) rfl T.p_BadLook T.g_BadLook (by rfl)))) pss_nil)
      (pss_one (ps_ret (pe_dget2 hu (pe_call (ok_groups_after (P := P) (w := w) T) (hr.mono (by decide)) (by rfl) T.groups_after.g T.groups_after.F.kp T.groups_after.B .nil pass0 (pa_cons (pv 0) (pa_cons (pv 2) (pa_cons (pv 3) (pa_cons (pv 4) pa_nil))))) (pv 5) (pe_tup pa_nil) ⟨rfl, rfl, rfl, rfl⟩))))))), ?_⟩
  refine x_start (σ' := [some _, some _, some _, some _, some _, some _]) rfl ?_
  try simp only [cx_n, cx_K, cx_w, cx_P]
  walk_at "rd"
  rcases cs with ⟨rfl, d, o, tg, sho, nr⟩ | ⟨lk, looks, rfl, hlk, lks, cs⟩
  · refine ⟨x, lt, v, hands, start, tbl, ns, d, o, rfl, wa, ht, tg, sho, tnd, tlen, rn, fun bb H1 s1 iff => ?_⟩
    have hb : bb = false := by
      cases bb with
      | false => rfl
      | true => exact absurd (iff.mp rfl) nr
    subst hb
    walk_at "rd"
    exact ke H1 s1
  obtain ⟨lk', kvl, el, rl, kl⟩ := id hlk
  cases el
  obtain ⟨ds, g1, g2⟩ := dpp_lift (H := H) kl lks.nm
  refine ⟨x, lt, .ref lk, hands, start, tbl, ns, _, _, rfl, wa, ht, .dic (.inr ⟨kvl, rl, rfl⟩) g1, (fun ds' e q hq => by cases e; exact g2 q hq), tnd, tlen, rn, fun bb H1 s1 iff => ?_⟩
  have hb : bb = true := iff.mpr ⟨_, rfl, lks.right tnd kl⟩
  subst hb
  clear iff g1 g2
  walk_at "rd"
  have hlk1 := mono_D mono_S _ _ _ _ s1.le0 hlk
  refine ⟨lk, looks, vn, dn, rfl, hlk1, hn.nil s1, fun bb H2 s2 iff => ?_⟩
  have s12 := s1.trans s2
  rcases cs with ⟨rfl, ng⟩ | ⟨kn0, st, rfl, klen, g, est, cs⟩
  · have hb : bb = false := by
      cases bb with
      | false => rfl
      | true => exact absurd (iff.mp rfl) ng
    subst hb
    walk_at "rd"
    exact ke H2 s12
  have hb : bb = true := iff.mpr ⟨kn0, rfl, g⟩
  subst hb
  clear iff
  obtain ⟨kn, rfl, hkn⟩ : ∃ kn, vn = .ref kn ∧ H kn = some (.tup (kn0.map V.str)) := by
    cases hn with
    | tup e hs =>
      rw [strs_back hs] at e
      exact ⟨_, rfl, e⟩
  walk_at "rd"
  have wa2 := wa.le s12.le0
  have kn2 := s12 _ _ List.not_mem_nil hkn
  refine ⟨x, lt, kn, hands, start, tbl, ns, kn0, st, rfl, wa2, s12.le0.t ht, sqT kn2, g.1, est, ?_⟩
  have hlk2 := mono_D mono_S _ _ _ _ s12.le0 hlk
  have lkey : ∀ n ∈ tbl.map (·.1), n ∈ looks.map (·.1) := fun n h => (lks.key n).mpr h
  have km : ∀ s ∈ kn0, s ∈ tbl.map (·.1) := fun s h => (lks.key s).mp (g.2.2.1 s h)
  have stepE : a = .step → ∀ B, SX [] H2 B → ∀ d, B d = none → E (.ref T.c_NoStep) (some d) (upd B d (.xd [("name", vm)])) := fun e B s d hd => by
    subst e
    exact ke B d (s12.trans s) hd
  cases hmi : moverIn ns st with
  | true =>
    walk_at "rd"
    have hm2 := hm.nil s12
    refine x_isi hm2.ty (kit_str dm) ?_
    cases hm2 with
    | str m =>
      walk_at "rd"
      obtain ⟨dx, d', nm, en, hx, _⟩ := id wa2.ex
      refine x_meth ?_
      walk_at "rd"
      refine x_me hx (work_none (by decide +kernel)) ?_
      walk_at "rd"
      refine x_ixT (sqT kn2) (atI_nat (j := 0) (by rw [List.getElem?_map, g.hd.2]; rfl)) ?_
      refine ⟨x, hands, start, _, tbl, st, rfl, wa2, est, fun py H3 ys hpy s23 epy pp sy => ?_⟩
      walk_at "rd"
      refine ⟨py, _, rfl, .inl (sqL epy), rfl, flat_strs ys, ?_⟩
      rw [inV_strD]
      have s13 := s12.trans s23
      by_cases mem : m ∈ ys
      · rw [decide_eq_true mem]
        have fit : MvFit ns st (some m) := by
          unfold MvFit
          rw [if_pos hmi]
          exact ⟨m, rfl, pp.mem_iff.mp mem⟩
        rcases cs with ⟨rfl, nf⟩ | ⟨mv, emv, _, cs⟩
        · exact absurd ⟨some m, rfl, fit⟩ nf
        have : mv = some m := by
          cases mv with
          | none => cases emv
          | some m' => cases emv; rfl
        subst this
        walk_at "rd"
        refine x_false (by rfl) ?_
        walk_at "rd"
        refine ⟨vl, dl, rfl, hl.nil s13, shl, ?_⟩
        rcases cs with ⟨rfl, nl⟩ | ⟨l, rfl, nl, rfl⟩
        · rw [nl]
          walk_at "rd"
          exact ke H3 s13
        rw [show nameD (.str l) = true from nl]
        cases hl
        walk_at "rd"
        refine x_dget2' ?_
        walk_at "rd"
        refine ⟨x, lk, kn, some m, hands, start, tbl, ns, looks, kn0, rfl, wa.le s13.le0, to, mono_D mono_S _ _ _ _ s13.le0 hlk, lkey, s13.le0.t (sqT hkn), km, klen, fun q H4 hq s34 rq => ?_⟩
        obtain ⟨q', kvq, eq, rdq, kq⟩ := rq
        cases eq
        refine ⟨q, rfl, .inl ⟨kvq, rdq⟩, ?_⟩
        walk_at "rd"
        refine ⟨Nat.le_of_ble_eq_true rfl, fun t0 ht0 => ?_⟩
        have s4 : SX [] H4 (upd H4 t0 (.tup [])) := SX.new ht0
        refine ⟨_, dget_rd (s4.rd rdq), ?_⟩
        have s14 := s13.trans (s34.trans s4)
        rcases kq.look l with ⟨v1, b, e1, e2, r1⟩ | ⟨e1, e2⟩
        · obtain ⟨t1, rfl, ht1⟩ := r1
          rw [e1]
          rw [e2] at ke
          exact ke t1 _ s14 (s4 _ _ List.not_mem_nil ht1)
        · rw [e1]
          rw [e2] at ke
          exact ke t0 _ s14 upd_same
      · rw [decide_eq_false mem]
        rcases cs with ⟨rfl, nf⟩ | ⟨mv, emv, fit, cs⟩
        · walk_at "rd"
          refine x_true (by rfl) ?_
          refine SupX.x_tMkS ?_
          walk_at "rd"
          exact SupX.x_mkS fun d nd => stepE rfl _ s23 d nd
        · unfold MvFit at fit
          rw [if_pos hmi] at fit
          obtain ⟨m', rfl, hm'⟩ := fit
          cases emv
          exact absurd (pp.mem_iff.mpr hm') mem
    | _ =>
      rcases cs with ⟨rfl, nf⟩ | ⟨mv, emv, fit, cs⟩
      · walk_at "rd"
        refine SupX.x_tMkS ?_
        walk_at "rd"
        exact SupX.x_mkS fun d nd => stepE rfl _ (SX.refl _) d nd
      · unfold MvFit at fit
        rw [if_pos hmi] at fit
        obtain ⟨m', rfl, hm'⟩ := fit
        cases emv
  | false =>
    walk_at "rd"
    rcases cs with ⟨rfl, nf⟩ | ⟨mv, emv, fit, cs⟩
    · have nn : vm ≠ .non := fun z => nf ⟨none, z, by unfold MvFit; rw [if_neg (by rw [hmi]; exact Bool.false_ne_true)]⟩
      refine x_true (by rw [decide_eq_false nn]; rfl) ?_
      refine SupX.x_tMkS ?_
      walk_at "rd"
      exact SupX.x_mkS fun d nd => stepE rfl _ (SX.refl _) d nd
    unfold MvFit at fit
    rw [if_neg (by rw [hmi]; exact Bool.false_ne_true)] at fit
    subst fit
    have emv : vm = .non := emv
    subst emv
    refine x_false (by rfl) ?_
    walk_at "rd"
    refine ⟨vl, dl, rfl, hl.nil s12, shl, ?_⟩
    rcases cs with ⟨rfl, nl⟩ | ⟨l, rfl, nl, rfl⟩
    · rw [nl]
      walk_at "rd"
      exact ke H2 s12
    rw [show nameD (.str l) = true from nl]
    cases hl
    walk_at "rd"
    refine x_dget2' ?_
    walk_at "rd"
    refine ⟨x, lk, kn, none, hands, start, tbl, ns, looks, kn0, rfl, wa.le s12.le0, to, mono_D mono_S _ _ _ _ s12.le0 hlk, lkey, s12.le0.t (sqT hkn), km, klen, fun q H4 hq s24 rq => ?_⟩
    obtain ⟨q', kvq, eq, rdq, kq⟩ := rq
    cases eq
    refine ⟨q, rfl, .inl ⟨kvq, rdq⟩, ?_⟩
    walk_at "rd"
    refine ⟨Nat.le_of_ble_eq_true rfl, fun t0 ht0 => ?_⟩
    have s4 : SX [] H4 (upd H4 t0 (.tup [])) := SX.new ht0
    refine ⟨_, dget_rd (s4.rd rdq), ?_⟩
    have s15 := s12.trans (s24.trans s4)
    rcases kq.look l with ⟨v1, b, e1, e2, r1⟩ | ⟨e1, e2⟩
    · obtain ⟨t1, rfl, ht1⟩ := r1
      rw [e1]
      rw [e2] at ke
      exact ke t1 _ s15 (s4 _ _ List.not_mem_nil ht1)
    · rw [e1]
      rw [e2] at ke
      exact ke t0 _ s15 upd_same
end
end M

namespace M
open PySem PySem.Spec PyProof.Rows L2 ReR
theorem x_dpop1 {td ty : TE} {σ : L2.St} {H : Hp} {Q : VK} (k : td σ H fun x H1 => ∃ a, x = .ref a ∧ IsD H1 a ∧ ty σ H1 fun y H2 => ∃ kvs k v, H2 a = some (.dK kvs) ∧ y = kV k ∧ valV kvs k = some v ∧ Q v (upd H2 a (.dK (dropK kvs k)))) : tDPop1 td ty σ H Q := k
theorem at_memL {xs : List V} {r : Int} (h0 : 0 ≤ r) (h1 : r < (xs.length : Int)) : ∃ v, atI xs r = some v ∧ v ∈ xs := by
  obtain ⟨n, rfl⟩ := Int.eq_ofNat_of_zero_le h0
  have hn : n < xs.length := by omega
  exact ⟨xs[n], atI_nat (by rw [List.getElem?_eq_getElem hn]), List.getElem_mem hn⟩
/-- "zz" is none of these -/
def NoZZ (l : List Str) : Prop := ∀ n ∈ l, n ≠ "zz"
theorem sx_dropF {p F : Addr} {A B : Hp} (h : A F = none) (s : SX [F, p] A B) : SX [p] A B := fun b o nb hb => s b o (fun m => by
  rcases List.mem_cons.mp m with rfl | m
  · rw [h] at hb; cases hb
  · exact nb m) hb
/-- the entries of a dict are names at texts but for one, a small thing -/
def EntS (H : Hp) (kv : List (Key × V)) : Prop := ∃ ds, DpP H (liftK kv) ds ∧ ∀ q ∈ ds, ShortD q.2
theorem ents_app {H : Hp} {kv kv' : List (Key × V)} (a : EntS H kv) (b : EntS H kv') : EntS H (kv ++ kv') := by
  obtain ⟨d1, h1, g1⟩ := a
  obtain ⟨d2, h2, g2⟩ := b
  refine ⟨d1 ++ d2, ?_, fun q hq => (List.mem_append.mp hq).elim (g1 q) (g2 q)⟩
  unfold DpP liftK at *
  rw [List.map_append]
  exact Paired.app h1 h2
theorem ents_one {H : Hp} {n : Str} {v : V} {dv : PyData} (h : DpD H v dv) (s : ShortD dv) : EntS H [(Sum.inr n, v)] :=
  ⟨[(.str n, dv)], .cons ⟨.str n, h⟩ .nil, fun q hq => by cases List.mem_singleton.mp hq; exact s⟩
theorem ents_ext {A B : Hp} (e : ExtR A B) {kv : List (Key × V)} : EntS A kv → EntS B kv := fun ⟨ds, h, g⟩ => ⟨ds, h.mono e, g⟩
theorem ents_looks {A0 H : Hp} {kv : List (Key × V)} {looks : List (Str × Str)} (h : KVs rS A0 kv looks) (nm : ∀ q ∈ looks, nameB q.2 = true) : EntS H kv := dpp_lift h nm
theorem ents_filter {H : Hp} {p : Key × V → Bool} : ∀ {kv : List (Key × V)}, EntS H kv → EntS H (kv.filter p)
  | [], h => h
  | x :: kv, ⟨ds, h, g⟩ => by
    cases h with
    | @cons _ d _ ds h1 h2 =>
      have ih := ents_filter (p := p) (kv := kv) ⟨ds, h2, fun q hq => g q (List.mem_cons_of_mem _ hq)⟩
      rw [List.filter_cons]
      split
      · obtain ⟨d2, a, b⟩ := ih
        refine ⟨d :: d2, .cons h1 a, fun q hq => ?_⟩
        rcases List.mem_cons.mp hq with rfl | hq
        · exact g _ List.mem_cons_self
        · exact b q hq
      · exact ih
theorem ents_map {H : Hp} {n : Str} {v : V} {dv : PyData} (h : DpD H v dv) (s : ShortD dv) : ∀ {kv : List (Key × V)}, EntS H kv → EntS H (kv.map fun x => if x.1 = Sum.inr n then (x.1, v) else x)
  | [], h => h
  | x :: kv, ⟨ds, h0, g⟩ => by
    cases h0 with
    | @cons _ d _ ds h1 h2 =>
      obtain ⟨d2, a, b⟩ := ents_map h s (kv := kv) ⟨ds, h2, fun q hq => g q (List.mem_cons_of_mem _ hq)⟩
      rw [List.map_cons]
      split
      · rename_i e
        refine ⟨(d.1, dv) :: d2, .cons ⟨h1.1, h⟩ a, fun q hq => ?_⟩
        rcases List.mem_cons.mp hq with rfl | hq
        · exact s
        · exact b q hq
      · refine ⟨d :: d2, .cons h1 a, fun q hq => ?_⟩
        rcases List.mem_cons.mp hq with rfl | hq
        · exact g _ List.mem_cons_self
        · exact b q hq
theorem ents_put {H : Hp} {n : Str} {v : V} {dv : PyData} (h : DpD H v dv) (s : ShortD dv) {kv : List (Key × V)} (e : EntS H kv) : EntS H (putK kv (Sum.inr n) v) := by
  unfold putK
  split
  · exact ents_map h s e
  · exact ents_app e (ents_one h s)
theorem lift_put_val {kv : List (Key × V)} {n m : Str} {v : V} : lkN (liftK (putK kv (Sum.inr n) v)) m = if m = n then some v else lkN (liftK kv) m := by
  rw [lift_val, lift_val, valV_put]
  by_cases e : m = n
  · rw [if_pos e, if_pos (by rw [e])]
  · rw [if_neg e, if_neg fun z => e (Sum.inr.inj z)]
theorem filt_next {f : Str → Bool} {l : List Str} {m : Nat} {s : Str} (h : l[m]? = some s) : (l.take (m + 1)).filter f = (l.take m).filter f ++ if f s = true then [s] else [] := by
  rw [take_succ_of h, List.filter_append, List.filter_cons, List.filter_nil]
def oddLk (l1 : Addr) : List V := [.str "9a", .str "aB", .str "", .non, .int 4, .ref l1]
theorem oddLk_data {A : Hp} {l1 : Addr} {v : V} (h : v ∈ oddLk l1) (e : A l1 = some (.lst [.str "a"])) : ∃ dv, DpD A v dv ∧ ShortD dv ∧ ∀ l, v = .str l → ¬ nameB l = true := by
  have sh : ∀ (z : Str) (n : Nat), z.length ≤ n → n ≤ 10000 → ShortD (.str z) := fun z n a b s q => by
    injection q with q
    subst q
    omega
  simp only [oddLk, List.mem_cons, List.not_mem_nil, or_false] at h
  rcases h with rfl | rfl | rfl | rfl | rfl | rfl
  · exact ⟨_, .str _, sh _ 2 (Nat.le_of_ble_eq_true rfl) (by decide), fun l q => by injection q with q; subst q; decide +kernel⟩
  · exact ⟨_, .str _, sh _ 2 (Nat.le_of_ble_eq_true rfl) (by decide), fun l q => by injection q with q; subst q; decide +kernel⟩
  · exact ⟨_, .str _, sh _ 2 (Nat.le_of_ble_eq_true rfl) (by decide), fun l q => by injection q with q; subst q; decide +kernel⟩
  · exact ⟨_, .non, (fun s q => nomatch q), fun l q => nomatch q⟩
  · exact ⟨_, .int _, (fun s q => nomatch q), fun l q => nomatch q⟩
  · exact ⟨_, .lst e (.cons (.str _) .nil), (fun s q => nomatch q), fun l q => nomatch q⟩
section
variable {P : Program} {w : World} {K : PySem.W.Frag} {mg : Str → Option Value} {base : Heap}
def sp_law_near_looks (T : Tx K mg) : Sp := fun vs H Q _ => ∃ (p d lt lk : Addr) (hands : Int) (n0 : Str) (sts : List (Str × Stand)) (ns : List Int) (looks : List (Str × Str)), vs = [.ref p, .ref d, .ref lt, .ref lk] ∧ Drw H p ∧ rD (rStand K) (hid [p] H) (.ref d) sts ∧ WorkOk hands n0 sts ∧ 1 ≤ sts.length ∧ sts.length ≤ 8 ∧ NoZZ (sts.map (·.1)) ∧
  SqT K (hid [p] H) lt (ns.map V.int) ∧ rD rS (hid [p] H) (.ref lk) looks ∧ LooksOk ns sts looks ∧
  ∀ (F : Addr) (H' : Hp) (kv : List (Key × V)), H F = none → SX [p] H H' → Drw H' p → H' F = some (.dK kv) → EntS (hid [p] H') kv → ¬ Right ns sts (liftK kv) → Q (.ref F) H'
theorem ok_law_near_looks (T : Tx K mg) : FnOk P w K mg base CX0 3 T.law_near_looks.f T.law_near_looks.fd P_law_near_looks (sp_law_near_looks T) := by
  refine T.law_near_looks.F.ok sc_law_near_looks (fun vs H Q E h => ?_) (fun cdv A outer s H vs Q E hr h => ?_)
  · obtain ⟨p, d, lt, lk, hands, n0, sts, ns, looks, rfl, hp, hd9, wo, h1, h8, nzz, hlt, hlk, lks, k⟩ := h
    rfl
  have hu := hu_of hr
  have nd := sc_law_near_looks.nd
  obtain ⟨p, d, lt, lk, hands, n0, sts, ns, looks, rfl, hp, hd9, wo, h1, h8, nzz, hlt, hlk, lks, k⟩ := h
  refine ⟨_, (pss_cons (ps_set (i := 4) nd rfl (Or.inl rfl) pe_dnewK)
      (pss_cons (ps_lockR (ps_for PassesOwn.never rfl (pi_keys (pv 3)) (pg_name (i := 5) nd rfl (Or.inl rfl)) (pss_one (ps_dput hu (pv 4) (pv 5) (pe_dget hu (pv 3) (pv 5) (fun _ _ => rfl)) rfl))))
      (pss_cons (ps_set (i := 6) nd rfl (Or.inl rfl) (pe_callB (cl_sortD rfl) (by rfl) T.b_sorted (by decide +kernel) (pa_cons (pv 1) pa_nil)))
      (pss_cons (ps_set (i := 7) nd rfl (Or.inr rfl) (pe_ix (w_ixL (K := K) rfl) (pv 6) (pe_call (ok_law_draw (P := P) (w := w) T) (hr.mono (by decide)) (by rfl) T.law_draw.g T.law_draw.F.kp T.law_draw.B .nil pass0 (pa_cons (pv 0) (pa_cons (pe_callB (w_len (K := K) rfl) (by rfl) T.b_len (by decide +kernel) (pa_cons (pv 6) pa_nil)) pa_nil))) (fun _ _ => rfl)))
      (pss_cons (ps_setLc (i := 8) (own := [("stand", 5)]) rfl nd rfl rfl (sw_true rfl rfl rfl (by decide +kernel)) (w_pilist (K := K) rfl (pv 6)) (blkOk_by (own := [("stand", 5)]) (N := N_law_near_looks) (sc := defScope s_law_near_looks) (by decide +kernel)) (fun _ _ _ _ _ => (pg_name (i := 5) nd rfl (Or.inl rfl))) (fun _ _ _ _ _ => pts_one (pt_cmpR op_ne (pe_call (ok_law_sort (P := P) (w := w) T) (hr.mono (by decide)) (by rfl) T.law_sort.g T.law_sort.F.kp T.law_sort.B .nil pass0 (pa_cons (pv 1) (pa_cons (pv 2) (pa_cons (pv 5) pa_nil)))) (pe_call (ok_law_sort (P := P) (w := w) T) (hr.mono (by decide)) (by rfl) T.law_sort.g T.law_sort.F.kp T.law_sort.B .nil pass0 (pa_cons (pv 1) (pa_cons (pv 2) (pa_cons (pv 7) pa_nil)))) (nomark _))) (fun _ _ _ _ _ => (pv 5)))
      (pss_cons (ps_set (i := 9) nd rfl (Or.inl rfl) (pe_call (ok_law_draw (P := P) (w := w) T) (hr.mono (by decide)) (by rfl) T.law_draw.g T.law_draw.F.kp T.law_draw.B .nil pass0 (pa_cons (pv 0) (pa_cons pe_int pa_nil))))
      (pss_cons (ps_if (PW.pt (pw_and (pt_cmpR op_gt (pv 9) pe_int (nomark _)) (pw_and1 (pt_cmpR op_gt (pe_callB (w_len (K := K) rfl) (by rfl) T.b_len (by decide +kernel) (pa_cons (pv 8) pa_nil)) pe_int (nomark _))))) (pss_one (ps_dput hu (pv 4) (pv 7) (pe_dget hu (pv 3) (pe_ix (w_ixL (K := K) rfl) (pv 8) (pe_call (ok_law_draw (P := P) (w := w) T) (hr.mono (by decide)) (by rfl) T.law_draw.g T.law_draw.F.kp T.law_draw.B .nil pass0 (pa_cons (pv 0) (pa_cons (pe_callB (w_len (K := K) rfl) (by rfl) T.b_len (by decide +kernel) (pa_cons (pv 8) pa_nil)) pa_nil))) (fun _ _ => rfl)) (fun _ _ => rfl)) rfl)) (pss_one (ps_if (pt_cmpR op_eq (pv 9) pe_int (nomark _)) (pss_one (ps_dput hu (pv 4) pe_str (pe_dget hu (pv 3) (pv 7) (fun _ _ => rfl)) rfl)) (pss_one (ps_if (pt_cmpR op_eq (pv 9) pe_int (nomark _)) (pss_one (ps_dput hu (pv 4) (pv 7) (pe_ix (w_ixL (K := K) rfl) (pe_lst (pa_cons pe_str (pa_cons pe_str (pa_cons pe_str (pa_cons pe_non (pa_cons pe_int (pa_cons (pe_lst (pa_cons pe_str pa_nil)) pa_nil))))))) (pe_call (ok_law_draw (P := P) (w := w) T) (hr.mono (by decide)) (by rfl) T.law_draw.g T.law_draw.F.kp T.law_draw.B .nil pass0 (pa_cons (pv 0) (pa_cons pe_int pa_nil))) (fun _ _ => rfl)) rfl)) (pss_one (ps_expr (pe_dpop1 (pv 4) (pv 7) ⟨rfl, rfl, rfl, rfl⟩))))))))
      (pss_one (ps_ret (pv 4)))))))))), ?_⟩
  refine x_start (σ' := [some _, some _, some _, some _, none, none, none, none, none, none]) rfl ?_
  try simp only [cx_n, cx_K, cx_w, cx_P]
  obtain ⟨d', kvs9, ed, hrd, hk⟩ := id hd9
  cases ed
  obtain ⟨lk', kvl, el, rl, kl⟩ := id hlk
  cases el
  have lkH : H lk ≠ none := fun z => rl.elim (fun h => by rw [(hid_at h).2] at z; cases z) fun ⟨_, h⟩ => by rw [(hid_at h).2] at z; cases z
  have l8 : looks.length ≤ 8 := by
    have h := nodup_sub lks.nd fun n hn => (lks.key n).mp hn
    rw [List.length_map, List.length_map] at h
    omega
  have leq : looks.length = sts.length := by
    have h1 := nodup_sub lks.nd fun n h => (lks.key n).mp h
    have h2 := nodup_sub wo.nd fun n h => (lks.key n).mpr h
    rw [List.length_map, List.length_map] at h1 h2
    omega
  walk_at "rd"
  intro F hF
  walk_at "rd"
  have s0 : SX [] H (upd H F (.dK [])) := SX.new hF
  have eF0 : (upd H F (.dK [])) F = some (.dK []) := upd_same
  have nFp : F ≠ p := fun z => hp.there (z ▸ hF)
  generalize upd H F (.dK []) = H0 at s0 eF0
  have p0 := hp.sx s0 List.not_mem_nil
  have rl0 : Rd H0 lk (.dK kvl) := (nil_sx (S := [p]) s0).leH.rd _ _ trivial rl
  have nFk : F ≠ lk := fun z => lkH (z ▸ hF)
  refine x_lockR rl0 fun od HL eL ne => ?_
  walk_at "rd"
  refine ⟨lk, od, rfl, .inl ⟨kvl, eL, ?_⟩⟩
  have klL : KVs rS HL kvl looks := kvs_imp (fun v _ a h => h) kl
  have eFL : HL F = some (.dK []) := by rw [ne _ nFk]; exact eF0
  refine for_it (walk_keysR klL) (fun i σ A => SX [F] HL A ∧ ∃ (kv : List (Key × V)) (c : Option V), A F = some (.dK kv) ∧ KVs rS A kv (looks.take i) ∧ σ = [some (.ref p), some (.ref d), some (.ref lt), some (.ref lk), some (.ref F), c, none, none, none, none])
    ⟨SX.refl _, [], none, eFL, .nil, rfl⟩ (fun i σ A _ h => h.1 _ _ (by simpa using Ne.symm nFk) eL) ?_ ?_
  · rintro i z σ A0 A hi ⟨sA, kv, c, eA, kA, rfl⟩ ⟨rfl, q, v0, hq, rfl, _⟩
    have hq' : (q.1, q.2) ∈ looks := getMem hq
    obtain ⟨v, ev, r⟩ := klL.at_ (lookA_nodup lks.nd hq')
    have r : v = .str q.2 := r
    subst r
    walk_at "rd"
    refine x_dg' (.inr ⟨od, sA _ _ (by simpa using Ne.symm nFk) eL⟩) ev ?_
    walk_at "rd"
    have hl : kv.length ≤ 8 := by rw [Paired.length kA, List.length_take]; omega
    refine ⟨F, _, rfl, DPut.k (k := Sum.inr q.1) eA (lt_size (by omega)), ?_⟩
    have kk : kv.map (·.1) = ((looks.map (·.1)).take i).map Sum.inr := by rw [kA.keys, List.map_take]
    rw [putK_fresh _ kk (nodup_take lks.nd (by rw [List.getElem?_map, hq]; rfl))]
    refine ⟨sA.trans (SX.mut List.mem_cons_self), _, _, upd_same, ?_, rfl⟩
    rw [take_succ_of hq]
    exact Paired.app (kvs_imp (fun v _ a h => h) kA) (.cons ⟨rfl, rfl⟩ .nil)
  rintro σ A ⟨sA, kv, c, eA, kA, rfl⟩
  rw [List.take_length] at kA
  refine ⟨sA _ _ (by simpa using Ne.symm nFk) eL, ?_⟩
  have sU : SX [F] H0 (put A lk (H0 lk)) := unlock_sx ne sA
  have eF1 : (put A lk (H0 lk)) F = some (.dK kv) := by rw [put_ne nFk]; exact eA
  generalize put A lk (H0 lk) = H1 at sU eF1
  have kF : ∀ {B : Hp}, KVs rS B kv looks := kvs_imp (fun v _ a h => h) kA
  have s1 : SX [] H H1 := sx_nil_of (S := [F]) ((nil_sx s0).trans sU) (by simp [hF])
  clear sA eA kA eL ne eFL klL sU eF0 s0 rl0
  walk_at "rd"
  refine x_sortD ((nil_sx (S := [p]) s1).leH.rd _ _ trivial hrd) hk.keys fun ys py hpy hsy np => ?_
  have p1 := hp.sx s1 List.not_mem_nil
  have s2 : SX [] H1 (upd H1 py (.lst (ys.map V.str))) := SX.new np
  have y2 : (upd H1 py (.lst (ys.map V.str))) py = some (.lst (ys.map V.str)) := upd_same
  have nyp : py ≠ p := fun e => p1.there (e ▸ np)
  have eF2 := s2 _ _ List.not_mem_nil eF1
  generalize upd H1 py (.lst (ys.map V.str)) = H2 at s2 y2 eF2
  have p2 := p1.sx s2 List.not_mem_nil
  have yl : ys.length = sts.length := by rw [hpy.length_eq, List.length_map]
  have s12 := s1.trans s2
  walk_at "rd"
  refine x_lenL' (sqL y2) ?_
  walk_at "rd"
  rw [List.length_map]
  refine ⟨p, (ys.length : Int), rfl, p2, by omega, by omega, fun r H3 r0 r1 s3 p3 => ?_⟩
  obtain ⟨one, eo, mo⟩ := at_strs (ns := ys) r0 r1
  have y3 := s3 _ _ (by simpa using nyp) y2
  have eF3 := s3 _ _ (by simpa using nFp) eF2
  have s13 : SX [p] H H3 := (nil_sx s12).trans s3
  refine x_ixL (sqL y3) eo ?_
  walk_at "rd"
  have mo9 := hpy.mem_iff.mp mo
  obtain ⟨sto, esto⟩ := lookA_some mo9
  have good : ∀ {s st}, lookA sts s = some st → SortGood (sortK ns st) := fun e => sortK_good (ns := ns) (wo.all _ (lookA_mem e)).2 wo.h.2
  refine x_itl (sqL y3) fun D hD => ?_
  have nyD : py ≠ D := ne_of_none y3 hD
  have npD : D ≠ p := fun e => p3.there (e ▸ hD)
  let f : Str → Bool := fun s => match lookA sts s with
    | some st => !decide (sortS (sortK ns st) = sortS (sortK ns sto))
    | none => false
  refine lc_it (walk_listR (R := rS) (Hb := H) (paired_S' ys)) (fun m A => SX [] H3 A ∧ A D = some (.lst (((ys.take m).filter f).map V.str))) ⟨SX.new hD, upd_same⟩ (fun m A _ h => sqL (h.1 _ _ List.not_mem_nil y3)) ?_ ?_
  · rintro m z A0 A hm ⟨sA, dA⟩ ⟨rfl, s, hs, rfl⟩
    obtain ⟨st, est⟩ := lookA_some (hpy.mem_iff.mp (getMem hs))
    have stp := filt_next (f := f) hs
    have ef : f s = !decide (sortS (sortK ns st) = sortS (sortK ns sto)) := by
      show (match lookA sts s with
        | some st => !decide (sortS (sortK ns st) = sortS (sortK ns sto))
        | none => false) = _
      rw [est]
    have sHA : SX [p] H A := s13.trans (nil_sx sA)
    walk_at "rd"
    refine ⟨rfl, ?_⟩
    walk_at "rd"
    refine ⟨d, lt, s, sts, ns, st, rfl, mono_D (mono_stand K) _ _ _ _ sHA.leH hd9, sHA.leH.t hlt, est, good est, fun B sB => ?_⟩
    have sHB := sHA.trans (nil_sx sB)
    walk_at "rd"
    refine ⟨d, lt, one, sts, ns, sto, rfl, mono_D (mono_stand K) _ _ _ _ sHB.leH hd9, sHB.leH.t hlt, esto, good esto, fun C sC => ?_⟩
    have sBC := sB.trans sC
    have dC := sBC _ _ List.not_mem_nil dA
    walk_at "rd"
    by_cases c : sortS (sortK ns st) = sortS (sortK ns sto)
    · rw [c, decide_eq_true rfl]
      walk_at "rd"
      refine ⟨sA.trans sBC, ?_⟩
      rw [stp, if_neg (by rw [ef, decide_eq_true c]; exact Bool.false_ne_true), List.append_nil]
      exact dC
    · rw [decide_eq_false (fun e => c (by injection e))]
      walk_at "rd"
      refine ⟨_, dC, lt_size ?_, sx_nil_of (S := [D]) ((nil_sx (sA.trans sBC)).trans (SX.mut List.mem_cons_self)) (by simp [hD]), ?_⟩
      · rw [List.length_map]
        refine Nat.le_trans (List.length_filter_le _ _) ?_
        rw [List.length_take]
        omega
      · rw [upd_same, stp, if_pos (by rw [ef, decide_eq_false c]; rfl), List.map_append]
        rfl
  rintro A ⟨sA, dA⟩
  rw [List.take_length] at dA
  have pA := p3.sx sA List.not_mem_nil
  have sHA : SX [p] H A := s13.trans (nil_sx sA)
  have eFA := sA _ _ List.not_mem_nil eF3
  have nFD : F ≠ D := fun z => by rw [z, hD] at eF3; cases eF3
  walk_at "rd"
  refine ⟨p, 5, rfl, pA, by decide, by decide, fun ch B c0 c1 sB pB => ?_⟩
  have sHB := sHA.trans sB
  have eFB := sB _ _ (by simpa using nFp) eFA
  have dB := sB _ _ (by simpa using npD) dA
  have yB := sB _ _ (by simpa using nyp) (sA _ _ List.not_mem_nil y3)
  have lkB : Rd B lk (.dK kvl) := sHB.leH.rd _ _ trivial rl
  have lat : ∀ n ∈ sts.map (·.1), valV kvl (Sum.inr n) = some (.str (lookOf looks n)) := fun n hn => by
    obtain ⟨l, e⟩ := lookA_some ((lks.key n).mpr hn)
    obtain ⟨v, ev, rfl⟩ := kl.at_ e
    unfold lookOf
    rw [e]
    exact ev
  have nmL : ∀ n ∈ sts.map (·.1), nameB (lookOf looks n) = true := fun n hn => by
    obtain ⟨l, e⟩ := lookA_some ((lks.key n).mpr hn)
    unfold lookOf
    rw [e]
    exact lks.nm _ (lookA_mem e)
  have latF : ∀ n ∈ sts.map (·.1), valV kv (Sum.inr n) = some (.str (lookOf looks n)) := fun n hn => by
    obtain ⟨l, e⟩ := lookA_some ((lks.key n).mpr hn)
    obtain ⟨v, ev, r⟩ := (kF (B := H)).at_ e
    have r : v = .str l := r
    unfold lookOf
    rw [e, ev, r]
    rfl
  have kvlen : kv.length = sts.length := by rw [Paired.length (kF (B := H))]; exact leq
  have enF : ∀ {C : Hp}, EntS C kv := ents_looks (kF (B := H)) lks.nm
  have shN : ∀ {l : Str}, nameB l = true → ShortD (.str l) := fun h s e => by
    injection e with e
    subst e
    have := nameB_size8 h
    omega
  -- one look put at a key
  have putOne : ∀ {C : Hp} {n : Str} {v : V} {dv : PyData}, SX [p] B C → Drw C p → C F = some (.dK kv) → DpD (hid [p] (upd C F (.dK (putK kv (Sum.inr n) v)))) v dv → ShortD dv → ¬ Right ns sts (liftK (putK kv (Sum.inr n) v)) → Q (.ref F) (upd C F (.dK (putK kv (Sum.inr n) v))) := fun {C n v dv} s pc e hv sv nr =>
    k F _ _ hF (sx_dropF hF (((sHB.trans s).sub fun b m => List.mem_cons_of_mem _ m).trans (SX.mut List.mem_cons_self))) (pc.sx (SX.mut (S := [F]) List.mem_cons_self) (by simpa using Ne.symm nFp)) upd_same (ents_put hv sv enF) nr
  have drop1 : ¬ Right ns sts (liftK (dropK kv (Sum.inr one))) := fun rr => by
    have m : (Sum.inr one : Key) ∈ kv.map (·.1) := by
      rw [(kF (B := H)).keys]
      exact List.mem_map.mpr ⟨one, (lks.key one).mpr mo9, rfl⟩
    obtain ⟨x, hx, ex⟩ := List.mem_map.mp m
    have : (dropK kv (Sum.inr one)).length < kv.length := by
      unfold dropK
      exact List.length_filter_lt_length_iff_exists.mpr ⟨x, hx, by simp [ex]⟩
    have l := rr.len
    unfold liftK at l
    rw [List.length_map] at l
    omega
  have popE : Q (.ref F) (upd B F (.dK (dropK kv (Sum.inr one)))) :=
    k F _ _ hF (sx_dropF hF ((sHB.sub fun b m => List.mem_cons_of_mem _ m).trans (SX.mut List.mem_cons_self))) (pB.sx (SX.mut (S := [F]) List.mem_cons_self) (by simpa using Ne.symm nFp)) upd_same (ents_filter enF) drop1
  have one0 := latF one mo9
  walk_at "rd"
  refine x_cases (fun c2 => ?_) (fun c2 => ?_)
  · have c2' := of_decide_eq_true c2
    walk_at "rd"
    refine x_lenL' (sqL dB) ?_
    walk_at "rd"
    rw [List.length_map]
    refine x_cases (fun c3 => ?_) (fun c3 => ?_)
    · walk_at "rd"
      refine x_lenL' (sqL dB) ?_
      walk_at "rd"
      rw [List.length_map]
      have lo : (ys.filter f).length ≤ 8 := by have := List.length_filter_le f ys; omega
      have lo1 : 0 < (ys.filter f).length := by have := of_decide_eq_true c3; omega
      refine ⟨p, _, rfl, pB, by omega, by omega, fun r2 C r20 r21 sC pC => ?_⟩
      obtain ⟨o, eo, mo2⟩ := at_strs (ns := ys.filter f) r20 r21
      have yC := sC _ _ (by simpa using npD) dB
      refine x_ixL (sqL yC) eo ?_
      obtain ⟨mo3, fo⟩ := List.mem_filter.mp mo2
      have mo4 := hpy.mem_iff.mp mo3
      refine x_dg' ((sHB.trans sC).leH.rd _ _ trivial rl) (lat o mo4) ?_
      walk_at "rd"
      have eC := sC _ _ (by simpa using nFp) eFB
      refine ⟨F, _, rfl, DPut.k (k := Sum.inr one) eC (lt_size (by omega)), ?_⟩
      walk_at "rd"
      refine putOne sC pC eC (.str _) (shN (nmL o mo4)) fun rr => ?_
      obtain ⟨st2, est2⟩ := lookA_some mo4
      have e1 : lkN (liftK (putK kv (Sum.inr one) (.str (lookOf looks o)))) one = some (.str (lookOf looks o)) := by rw [lift_put_val, if_pos rfl]
      have e2 : lkN (liftK (putK kv (Sum.inr one) (.str (lookOf looks o)))) o = some (.str (lookOf looks o)) := by
        rw [lift_put_val]
        split
        · rfl
        · rw [lift_val, latF o mo4]
      have := rr.same o one st2 sto est2 esto (by rw [e1, e2])
      have ef : f o = !decide (sortS (sortK ns st2) = sortS (sortK ns sto)) := by
        show (match lookA sts o with
          | some st => !decide (sortS (sortK ns st) = sortS (sortK ns sto))
          | none => false) = _
        rw [est2]
      rw [ef, this, decide_eq_true rfl] at fo
      cases fo
    · walk_at "rd"
      refine x_false (decide_eq_false fun z => by injection z with z; omega) ?_
      walk_at "rd"
      refine x_false (decide_eq_false fun z => by injection z with z; omega) ?_
      walk_at "rd"
      refine x_dpop1 ?_
      walk_at "rd"
      refine ⟨F, rfl, .inl ⟨kv, .inl eFB⟩, ?_⟩
      walk_at "rd"
      refine ⟨kv, Sum.inr one, _, eFB, rfl, one0, ?_⟩
      walk_at "rd"
      exact popE
  · walk_at "rd"
    refine x_cases (fun c3 => ?_) (fun c3 => ?_)
    · walk_at "rd"
      refine x_dg' lkB (lat one mo9) ?_
      walk_at "rd"
      refine ⟨F, _, rfl, DPut.k (k := Sum.inr "zz") eFB (lt_size (by omega)), ?_⟩
      walk_at "rd"
      refine putOne (SX.refl _) pB eFB (.str _) (shN (nmL one mo9)) fun rr => ?_
      have kk : kv.map (·.1) = (looks.map (·.1)).map Sum.inr := (kF (B := H)).keys
      have l := rr.len
      rw [putK_fresh _ kk (fun m => nzz "zz" ((lks.key _).mp m) rfl)] at l
      unfold liftK at l
      rw [List.length_map, List.length_append] at l
      simp at l
      omega
    · walk_at "rd"
      refine x_cases (fun c4 => ?_) (fun c4 => ?_)
      · walk_at "rd"
        refine ⟨Nat.le_of_ble_eq_true rfl, fun l1 g1 => ?_⟩
        walk_at "rd"
        refine ⟨Nat.le_of_ble_eq_true rfl, fun l2 g2 => ?_⟩
        have t1 : SX [] B (upd B l1 (.lst [.str "a"])) := SX.new g1
        have a1 : (upd B l1 (.lst [.str "a"])) l1 = some (.lst [.str "a"]) := upd_same
        generalize upd B l1 (.lst [.str "a"]) = B1 at t1 a1 g2
        have t2 : SX [] B1 (upd B1 l2 (.lst (oddLk l1))) := SX.new g2
        have a2 : (upd B1 l2 (.lst (oddLk l1))) l2 = some (.lst (oddLk l1)) := upd_same
        change tCall _ _ _ _ _ (upd B1 l2 (.lst (oddLk l1))) _
        generalize upd B1 l2 (.lst (oddLk l1)) = B2 at t2 a2
        have t12 := t1.trans t2
        have a12 := t2 _ _ List.not_mem_nil a1
        have n2p : l2 ≠ p := fun z => (pB.sx t1 List.not_mem_nil).there (z ▸ g2)
        have n1p : l1 ≠ p := fun z => pB.there (z ▸ g1)
        have n1F : l1 ≠ F := fun z => by rw [z, eFB] at g1; cases g1
        walk_at "rd"
        refine ⟨p, 6, rfl, pB.sx t12 List.not_mem_nil, by decide, by decide, fun r2 C r20 r21 sC pC => ?_⟩
        obtain ⟨v, ev, mv⟩ := at_memL (xs := oddLk l1) r20 r21
        refine x_ixL (sqL (sC _ _ (by simpa using n2p) a2)) ev ?_
        walk_at "rd"
        have sBC : SX [p] B C := (nil_sx t12).trans sC
        have eC := sBC _ _ (by simpa using nFp) eFB
        refine ⟨F, _, rfl, DPut.k (k := Sum.inr one) eC (lt_size (by omega)), ?_⟩
        walk_at "rd"
        have a1C := sC _ _ (by simpa using n1p) a12
        obtain ⟨dv, h9, s9, n9⟩ := oddLk_data (A := hid [p] (upd C F (.dK (putK kv (Sum.inr one) v)))) mv (by rw [hid_of (by simpa using n1p), upd_ne n1F]; exact a1C)
        refine putOne sBC pC eC h9 s9 fun rr => ?_
        obtain ⟨l, hl, nl⟩ := rr.nm one mo9
        rw [lift_put_val, if_pos rfl] at hl
        exact n9 l (Option.some.inj hl) nl
      · walk_at "rd"
        refine x_dpop1 ?_
        walk_at "rd"
        refine ⟨F, rfl, .inl ⟨kv, .inl eFB⟩, ?_⟩
        walk_at "rd"
        refine ⟨kv, Sum.inr one, _, eFB, rfl, one0, ?_⟩
        walk_at "rd"
        exact popE
end
end M

namespace M
open PySem PySem.Spec PyProof.Rows L2 ReR
def ansD : Ans → PyData
  | .looks => .list [.tuple [.str "looks", .bool true], .none]
  | .know => .list [.tuple [.str "knowledge", .bool true], .none]
  | .step => .list [.tuple [.str "step", .bool true], .none]
  | .look => .list [.tuple [.str "look", .bool true], .none]
  | .told l => .list [.tuple [.str "told"], .tuple (l.map PyData.str)]
theorem flag_ans {A : Hp} {q f : Addr} {s : Str} (h1 : A q = some (.lst [.ref f, .non])) (h2 : A f = some (.tup [.str s, .bl true])) : DpD A (.ref q) (.list [.tuple [.str s, .bool true], .none]) :=
  .lst h1 (.cons (.tup h2 (.cons (.str _) (.cons (.bl _) .nil))) (.cons .non .nil))
theorem told_ans {A : Hp} {q f t : Addr} {l : List Str} (h1 : A q = some (.lst [.ref f, .ref t])) (h2 : A f = some (.tup [.str "told"])) (h3 : A t = some (.tup (l.map V.str))) : DpD A (.ref q) (ansD (.told l)) :=
  .lst h1 (.cons (.tup h2 (.cons (.str _) .nil)) (.cons (.tup h3 (DpDs.strs l)) .nil))
theorem x_callS' {sp : Sp} {E : L2.St → XK} {t : TA} {σ : L2.St} {H : Hp} {Q : VK} (k : t σ H fun vs H1 => sp vs H1 Q (E σ)) : tCallS sp E t σ H Q := k
section
variable {P : Program} [SupX.PX P] {w : World} {K : PySem.W.Frag} {mg : Str → Option Value} {base : Heap}
def sp_law_asked (P : Program) (w : World) (T : Tx K mg) : Sp := fun vs H Q _ => ∃ (x lt : Addr) (v vn vm vl : V) (hands : Int) (start : Str) (tbl : List (Str × Stand)) (ns : List Int) (a : Ans) (dm : PyData), vs = [.ref x, .ref lt, v, vn, vm, vl] ∧ AftOk P w T H x lt v vn vm vl hands start tbl ns a ∧ DpD H vm dm ∧ SeqAt.shaped dm = true ∧
  ∀ q H', H q = none → SX [] H H' → DpD H' (.ref q) (ansD a) → Q (.ref q) H'
theorem ok_law_asked (T : Tx K mg) : FnOk P w K mg base CX0 6 T.law_asked.f T.law_asked.fd P_law_asked (sp_law_asked P w T) := by
  refine T.law_asked.F.ok sc_law_asked (fun vs H Q E h => ?_) (fun cdv A outer s H vs Q E hr h => ?_)
  · obtain ⟨x, lt, v, vn, vm, vl, hands, start, tbl, ns, a, dm, rfl, ao, hm, sh, k⟩ := h
    rfl
  have hu := hu_of hr
  have nd := sc_law_asked.nd
  obtain ⟨x, lt, v, vn, vm, vl, hands, start, tbl, ns, a, dm, rfl, ao, hm, sh, k⟩ := h
  refine ⟨_, (pss_cons (ps_set (i := 6) nd rfl (Or.inl rfl) (pe_tup (pa_cons pe_str pa_nil)))
      (pss_cons (ps_set (i := 7) nd rfl (Or.inl rfl) pe_non)
      (pss_cons (ps_try_mix rfl rfl nd takes0 (fun W pn xe tk0 po0 => (pss_cons (ps_set (i := 7) nd rfl (Or.inl rfl) (pe_callS (ok_after (P := P) (w := w) T) (hr.mono (by decide)) (by rfl) T.after.g T.after.F.kp T.after.B (fun τ => passAt tk0 τ) (pa_cons (pv 0) (pa_cons (pv 1) (pa_cons (pv 2) (pa_cons (pv 3) (pa_cons (pv 4) (pa_cons (pv 5) pa_nil))))))))
      (pss_one (ps_set (i := 6) nd rfl (Or.inl rfl) (pe_tup (pa_cons pe_str pa_nil))))))
      (.cons (m := ⟨.ref T.c_BadLooks, some 8, _⟩) ⟨by rfl, by decide, .inl T.g_BadLooks⟩ ⟨rfl, rfl⟩ (fun a ob cv dv pn hz hf => (pss_one (ps_set (i := 6) nd rfl (Or.inl rfl) (pe_tup (pa_cons pe_str (pa_cons (pe_callB (SupX.cl_isX (K := K) rfl hz hf) (by rfl) T.b_isinstance (by decide +kernel) (pa_cons (pv 8) (pa_cons (pe_glob (v := .ref T.c_OwnError) (by rfl) T.g_OwnError rfl) pa_nil))) pa_nil)))))) (.cons (m := ⟨.ref T.c_BadKnowledge, some 8, _⟩) ⟨by rfl, by decide, .inl T.g_BadKnowledge⟩ ⟨rfl, rfl⟩ (fun a ob cv dv pn hz hf => (pss_one (ps_set (i := 6) nd rfl (Or.inl rfl) (pe_tup (pa_cons pe_str (pa_cons (pe_callB (SupX.cl_isX (K := K) rfl hz hf) (by rfl) T.b_isinstance (by decide +kernel) (pa_cons (pv 8) (pa_cons (pe_glob (v := .ref T.c_OwnError) (by rfl) T.g_OwnError rfl) pa_nil))) pa_nil)))))) (.cons (m := ⟨.ref T.c_NoStep, some 8, _⟩) ⟨by rfl, by decide, .inl T.g_NoStep⟩ ⟨rfl, rfl⟩ (fun a ob cv dv pn hz hf => (pss_one (ps_set (i := 6) nd rfl (Or.inl rfl) (pe_tup (pa_cons pe_str (pa_cons (pe_cmpR (w_eqD (K := K) rfl hr.units) (pe_xf T.s_NoStep.xf T.s_NoStep.noN hz hf (pv 8)) (pv 4) (nomark _)) pa_nil)))))) (.cons (m := ⟨.ref T.c_BadLook, some 8, _⟩) ⟨by rfl, by decide, .inl T.g_BadLook⟩ ⟨rfl, rfl⟩ (fun a ob cv dv pn hz hf => (pss_one (ps_set (i := 6) nd rfl (Or.inl rfl) (pe_tup (pa_cons pe_str (pa_cons (pe_callB (SupX.cl_isX (K := K) rfl hz hf) (by rfl) T.b_isinstance (by decide +kernel) (pa_cons (pv 8) (pa_cons (pe_bltn (v := .ty "ValueError") (by rfl) T.b_ValueError (by decide +kernel) rfl) pa_nil))) pa_nil)))))) .nil)))))
      (pss_one (ps_ret (pe_lst (pa_cons (pv 6) (pa_cons (pv 7) pa_nil)))))))), ?_⟩
  refine x_start (σ' := [some _, some _, some _, some _, some _, some _, none, none, none]) rfl ?_
  try simp only [cx_n, cx_K, cx_w, cx_P]
  walk_at "rd"
  refine ⟨Nat.le_of_ble_eq_true rfl, fun f0 hf0 => ?_⟩
  have s0 : SX [] H (upd H f0 (.tup [.str "none"])) := SX.new hf0
  generalize upd H f0 (.tup [.str "none"]) = H0 at s0
  walk_at "rd"
  obtain ⟨dn, dm', dl, wa, to, ht, tnd, tlen, rn, hn, hm', hl, shl, cs⟩ := id ao
  have ao0 : AftOk P w T H0 x lt v vn vm vl hands start tbl ns a := by
    refine ⟨dn, dm', dl, wa.le s0.le0, to, s0.le0.t ht, tnd, tlen, rn, hn.nil s0, hm'.nil s0, hl.nil s0, shl, ?_⟩
    rcases cs with ⟨e, d, o, tg, sho, nr⟩ | ⟨lk, looks, e, hlk, r⟩
    · exact .inl ⟨e, d, o, tg.mono (sx_ext s0), sho, nr⟩
    · exact .inr ⟨lk, looks, e, mono_D mono_S _ _ _ _ s0.le0 hlk, r⟩
  refine x_callS' ?_
  walk_at "rd"
  refine ⟨x, lt, v, vn, vm, vl, hands, start, tbl, ns, a, rfl, ao0, ?_⟩
  have hm0 := hm.nil s0
  clear ao ao0 cs wa ht hn hm' hl shl
  cases a with
  | looks =>
    intro H1 s1
    refine x_tryMix (c := Value.none) T.xp_BadLooks_BadLooks fun a na => ?_
    refine ⟨_, rfl, ?_⟩
    walk_at "rd"
    refine SupX.x_isX T.p_BadLooks.isc T.is_BadLooks_OwnError ?_
    walk_at "rd"
    refine ⟨Nat.le_of_ble_eq_true rfl, fun f hf => ?_⟩
    have s2 : SX [] H1 (upd H1 f (.tup [.str "looks", .bl true])) := SX.new hf
    show tRet (tLst (tCons (tVar 6) (tCons (tVar 7) tNil))) _ _ _
    walk_at "rd"
    refine ⟨Nat.le_of_ble_eq_true rfl, fun q hq => ?_⟩
    have s3 : SX [] (upd H1 f (.tup [.str "looks", .bl true])) (upd (upd H1 f (.tup [.str "looks", .bl true])) q (.lst [.ref f, .non])) := SX.new hq
    have sA := s0.trans (s1.trans s2)
    exact k q _ (sA.free hq List.not_mem_nil) (sA.trans s3) (flag_ans upd_same (s3 _ _ List.not_mem_nil upd_same))
  | know =>
    intro H1 s1
    refine x_tryMixN T.xp_BadKnowledge_BadLooks ?_
    refine x_tryMix (c := Value.none) T.xp_BadKnowledge_BadKnowledge fun a na => ?_
    refine ⟨_, rfl, ?_⟩
    walk_at "rd"
    refine SupX.x_isX T.p_BadKnowledge.isc T.is_BadKnowledge_OwnError ?_
    walk_at "rd"
    refine ⟨Nat.le_of_ble_eq_true rfl, fun f hf => ?_⟩
    have s2 : SX [] H1 (upd H1 f (.tup [.str "knowledge", .bl true])) := SX.new hf
    show tRet (tLst (tCons (tVar 6) (tCons (tVar 7) tNil))) _ _ _
    walk_at "rd"
    refine ⟨Nat.le_of_ble_eq_true rfl, fun q hq => ?_⟩
    have s3 : SX [] (upd H1 f (.tup [.str "knowledge", .bl true])) (upd (upd H1 f (.tup [.str "knowledge", .bl true])) q (.lst [.ref f, .non])) := SX.new hq
    have sA := s0.trans (s1.trans s2)
    exact k q _ (sA.free hq List.not_mem_nil) (sA.trans s3) (flag_ans upd_same (s3 _ _ List.not_mem_nil upd_same))
  | step =>
    intro H1 d s1 hd
    refine x_tryMixN T.xp_NoStep_BadLooks ?_
    refine x_tryMixN T.xp_NoStep_BadKnowledge ?_
    refine x_tryMix (c := Value.none) T.xp_NoStep_NoStep fun a na => ?_
    have s12 : SX [] H1 (upd H1 d (.xd [("name", vm)])) := SX.new hd
    generalize ed : upd H1 d (.xd [("name", vm)]) = H2 at s12
    have hd2 : H2 d = some (.xd [("name", vm)]) := by rw [← ed]; exact upd_same
    refine ⟨_, rfl, rfl, rfl, d, _, _, rfl, hd2, look_here, ?_⟩
    walk_at "rd"
    have hm2 := hm0.nil (s1.trans s12)
    refine x_eqDat hm2 hm2 sh ?_
    walk_at "rd"
    refine ⟨Nat.le_of_ble_eq_true rfl, fun f hf => ?_⟩
    have s2 : SX [] H2 (upd H2 f (.tup [.str "step", .bl true])) := SX.new hf
    show tRet (tLst (tCons (tVar 6) (tCons (tVar 7) tNil))) _ _ _
    walk_at "rd"
    refine ⟨Nat.le_of_ble_eq_true rfl, fun q hq => ?_⟩
    have s3 : SX [] (upd H2 f (.tup [.str "step", .bl true])) (upd (upd H2 f (.tup [.str "step", .bl true])) q (.lst [.ref f, .non])) := SX.new hq
    have sA := s0.trans (s1.trans (s12.trans s2))
    exact k q _ (sA.free hq List.not_mem_nil) (sA.trans s3) (flag_ans upd_same (s3 _ _ List.not_mem_nil upd_same))
  | look =>
    intro H1 s1
    refine x_tryMixN T.xp_BadLook_BadLooks ?_
    refine x_tryMixN T.xp_BadLook_BadKnowledge ?_
    refine x_tryMixN T.xp_BadLook_NoStep ?_
    refine x_tryMix (c := Value.none) T.xp_BadLook_BadLook fun a na => ?_
    refine ⟨_, rfl, ?_⟩
    walk_at "rd"
    refine SupX.x_isXT T.p_BadLook.isc T.is_BadLook_ValueError ?_
    walk_at "rd"
    refine ⟨Nat.le_of_ble_eq_true rfl, fun f hf => ?_⟩
    have s2 : SX [] H1 (upd H1 f (.tup [.str "look", .bl true])) := SX.new hf
    show tRet (tLst (tCons (tVar 6) (tCons (tVar 7) tNil))) _ _ _
    walk_at "rd"
    refine ⟨Nat.le_of_ble_eq_true rfl, fun q hq => ?_⟩
    have s3 : SX [] (upd H1 f (.tup [.str "look", .bl true])) (upd (upd H1 f (.tup [.str "look", .bl true])) q (.lst [.ref f, .non])) := SX.new hq
    have sA := s0.trans (s1.trans s2)
    exact k q _ (sA.free hq List.not_mem_nil) (sA.trans s3) (flag_ans upd_same (s3 _ _ List.not_mem_nil upd_same))
  | told l =>
    intro u H1 s1 hu
    walk_at "rd"
    refine ⟨Nat.le_of_ble_eq_true rfl, fun f hf => ?_⟩
    have s2 : SX [] H1 (upd H1 f (.tup [.str "told"])) := SX.new hf
    walk_at "rd"
    refine ⟨Nat.le_of_ble_eq_true rfl, fun q hq => ?_⟩
    have s3 : SX [] (upd H1 f (.tup [.str "told"])) (upd (upd H1 f (.tup [.str "told"])) q (.lst [.ref f, .ref u])) := SX.new hq
    have sA := s0.trans (s1.trans s2)
    exact k q _ (sA.free hq List.not_mem_nil) (sA.trans s3) (told_ans upd_same (s3 _ _ List.not_mem_nil upd_same) (s3 _ _ List.not_mem_nil (s2 _ _ List.not_mem_nil hu)))
end
end M

namespace M
open PySem PySem.Spec PyProof.Rows L2 ReR
def foundS (look : Str → Str) (l : Str) (r : List Str) (g : Str) : List Str := if look g = l ∧ g ∉ r then r ++ [g] else r
def foundL (look : Str → Str) (l : Str) (gs : List Str) : List Str := gs.foldl (foundS look l) []
theorem foundL_snoc (look : Str → Str) (l : Str) (gs : List Str) (g : Str) : foundL look l (gs ++ [g]) = foundS look l (foundL look l gs) g := by
  unfold foundL
  rw [List.foldl_append]
  rfl
theorem foundL_ok (look : Str → Str) (l : Str) : ∀ (n : Nat) (gs : List Str), gs.length = n → (foundL look l gs).Nodup ∧ ∀ g, g ∈ foundL look l gs ↔ g ∈ gs ∧ look g = l
  | 0, gs, h => by
    obtain rfl := List.eq_nil_of_length_eq_zero h
    exact ⟨List.nodup_nil, fun g => ⟨(fun z => nomatch z), fun z => nomatch z.1⟩⟩
  | n + 1, gs, h => by
    obtain ⟨rs, g, rfl⟩ : ∃ rs g, gs = rs ++ [g] := ⟨gs.dropLast, gs.getLast (fun z => by rw [z] at h; cases h), (List.dropLast_concat_getLast _).symm⟩
    obtain ⟨h1, h2⟩ := foundL_ok look l n rs (by rw [List.length_append] at h; simpa using h)
    rw [foundL_snoc]
    unfold foundS
    split
    · rename_i c
      refine ⟨List.nodup_append.mpr ⟨h1, List.nodup_cons.mpr ⟨List.not_mem_nil, List.nodup_nil⟩, fun a ha b hb z => c.2 ?_⟩, fun x => ?_⟩
      · cases List.mem_singleton.mp hb
        rw [← z]
        exact ha
      · rw [List.mem_append, List.mem_append, List.mem_singleton, h2]
        constructor
        · rintro (⟨a, b⟩ | rfl)
          · exact ⟨.inl a, b⟩
          · exact ⟨.inr rfl, c.1⟩
        · rintro ⟨a | rfl, b⟩
          · exact .inl ⟨a, b⟩
          · exact .inr rfl
    · rename_i c
      refine ⟨h1, fun x => ?_⟩
      rw [List.mem_append, List.mem_singleton, h2]
      constructor
      · rintro ⟨a, b⟩
        exact ⟨.inl a, b⟩
      · rintro ⟨a | rfl, b⟩
        · exact ⟨a, b⟩
        · exact (h2 x).mp (Decidable.byContradiction fun z => c ⟨b, z⟩)
theorem found_len (look : Str → Str) (l : Str) (gs : List Str) : (foundL look l gs).length ≤ gs.length := by
  obtain ⟨h1, h2⟩ := foundL_ok look l _ gs rfl
  exact nodup_sub h1 fun x hx => ((h2 x).mp hx).1
theorem found_after {gr : Gr} {look : Str → Str} {kn0 : List Str} {mv : Option Str} {l : Str} : srtL (foundL look l (goals gr kn0 mv)) = (lookA (afterL gr look kn0 mv) l).getD [] := by
  obtain ⟨f1, f2⟩ := foundL_ok look l _ (goals gr kn0 mv) rfl
  have o := rowsOf_ok look (goals gr kn0 mv)
  cases e : lookA (afterL gr look kn0 mv) l with
  | none =>
    have : foundL look l (goals gr kn0 mv) = [] := List.eq_nil_iff_forall_not_mem.mpr fun x hx => by
      obtain ⟨a, b⟩ := (f2 x).mp hx
      obtain ⟨r, hr, _⟩ := o.all x a
      have m : l ∈ (afterL gr look kn0 mv).map (·.1) := by
        rw [after_keys]
        exact List.mem_map.mpr ⟨_, hr, b⟩
      obtain ⟨y, hy⟩ := lookA_some m
      rw [e] at hy
      cases hy
    rw [this]
    exact List.perm_nil.mp (srtL_perm [])
  | some r =>
    obtain ⟨q, hq, eq⟩ := List.mem_map.mp (lookA_mem e)
    injection eq with e1 e2
    subst e1 e2
    obtain ⟨_, h2, h3⟩ := o.each q hq
    show _ = srtL q.2
    refine srtL_eq ((List.perm_ext_iff_of_nodup f1 h2).mpr fun x => ?_)
    rw [f2]
    constructor
    · rintro ⟨a, b⟩
      obtain ⟨r, hr, hx⟩ := o.all x a
      have : r = q.2 := by
        have e1 := lookA_nodup o.nd hr
        have e2 := lookA_nodup o.nd hq
        rw [b] at e1
        rw [e1] at e2
        exact Option.some.inj e2
      rw [← this]
      exact hx
    · intro hx
      exact h3 x hx
theorem x_ownC {A B E : Prop} {own : Bool} {mv : Option Str} {z : Str} (h1 : own = false → mv = none) (h2 : own = true → ∃ m, mv = some m) (hE : own = true → (if decide (V.str z = mvV mv) = true then A else B) → E) (ha : mvOk mv z = true → A) (hb : mvOk mv z = false → B) : if (!own) = true then (if true = true then A else B) else E := by
  cases own with
  | false =>
    rw [if_pos (by rfl), if_pos rfl]
    obtain rfl := h1 rfl
    exact ha rfl
  | true =>
    rw [if_neg (by decide)]
    obtain ⟨m, rfl⟩ := h2 rfl
    refine hE rfl ?_
    by_cases c : z = m
    · rw [if_pos (decide_eq_true (by rw [c]; rfl))]
      exact ha (decide_eq_true c)
    · rw [if_neg (fun q => c (by have := of_decide_eq_true q; injection this))]
      exact hb (decide_eq_false c)
theorem gr_lenC2 {ns : List Int} {sts : List (Str × Stand)} (C : Closed sts) (s : Str) : ((grOf ns sts).steps s).length ≤ 4 := by
  cases e : lookA sts s with
  | none => unfold grOf; simp only [e]; exact Nat.zero_le _
  | some st =>
    rw [gr_steps e, (srtL_perm _).length_eq, List.length_map, rows_tos_len, tos_len]
    exact (C.all _ (lookA_mem e)).2.1
section
variable {P : Program} {w : World} {K : PySem.W.Frag} {mg : Str → Option Value} {base : Heap}
def sp_law_due (T : Tx K mg) : Sp := fun vs H Q _ => ∃ (d lt lk kn : Addr) (mv : Option Str) (l : Str) (sts : List (Str × Stand)) (ns : List Int) (looks : List (Str × Str)) (kn0 : List Str) (st : Stand), vs = [.ref d, .ref lt, .ref lk, .ref kn, mvV mv, .str l] ∧ rD (rStand K) H (.ref d) sts ∧ Closed sts ∧ SqT K H lt (ns.map V.int) ∧ rD rS H (.ref lk) looks ∧ (∀ n ∈ sts.map (·.1), n ∈ looks.map (·.1)) ∧
  SqT K H kn (kn0.map V.str) ∧ kn0 ≠ [] ∧ (∀ s ∈ kn0, s ∈ sts.map (·.1)) ∧ kn0.length ≤ 100 ∧ lookA sts (hd kn0) = some st ∧ MvFit ns st mv ∧
  ∀ (q : Addr) (H' : Hp), H q = none → SX [] H H' → H' q = some (.tup (((lookA (afterL (grOf ns sts) (lookOf looks) kn0 mv) l).getD []).map V.str)) → Q (.ref q) H'
theorem ok_law_due (T : Tx K mg) : FnOk P w K mg base CX0 2 T.law_due.f T.law_due.fd P_law_due (sp_law_due T) := by
  refine T.law_due.F.ok sc_law_due (fun vs H Q E h => ?_) (fun cdv A outer s H vs Q E hr h => ?_)
  · obtain ⟨d, lt, lk, kn, mv, l, sts, ns, looks, kn0, st0, rfl, hd, CS, hlt, hlk, lkey, hk, kne, km, klen, est0, fit, k⟩ := h
    rfl
  have hu := hu_of hr
  have nd := sc_law_due.nd
  obtain ⟨d, lt, lk, kn, mv, l, sts, ns, looks, kn0, st0, rfl, hd, CS, hlt, hlk, lkey, hk, kne, km, klen, est0, fit, k⟩ := h
  refine ⟨_, (pss_cons (ps_set (i := 6) nd rfl (Or.inl rfl) (pe_cmpR (w_in (K := K) rfl) (pe_call (ok_law_mover (P := P) (w := w) T) (hr.mono (by decide)) (by rfl) T.law_mover.g T.law_mover.F.kp T.law_mover.B .nil pass0 (pa_cons (pv 0) (pa_cons (pe_ix (w_ixT (K := K) rfl) (pv 3) pe_int (fun _ _ => rfl)) pa_nil))) (pv 1) (by rfl)))
      (pss_cons (ps_set (i := 7) nd rfl (Or.inl rfl) (pe_lst pa_nil))
      (pss_cons (ps_for PassesOwn.never rfl (w_pitup (K := K) rfl (pv 3)) (pg_name (i := 8) nd rfl (Or.inl rfl)) (pss_one (ps_for PassesOwn.never rfl (w_pilist (K := K) rfl (pe_call (ok_law_steps (P := P) (w := w) T) (hr.mono (by decide)) (by rfl) T.law_steps.g T.law_steps.F.kp T.law_steps.B .nil pass0 (pa_cons (pv 0) (pa_cons (pv 8) pa_nil)))) (pg_name (i := 9) nd rfl (Or.inl rfl)) (pss_cons (ps_set (i := 10) nd rfl (Or.inl rfl) (pe_call (ok_law_to (P := P) (w := w) T) (hr.mono (by decide)) (by rfl) T.law_to.g T.law_to.F.kp T.law_to.B .nil pass0 (pa_cons (pv 0) (pa_cons (pv 8) (pa_cons (pv 9) pa_nil)))))
      (pss_one (ps_if (PW.pt (pw_and (PW.pt (pw_or (pt_not (pt_val (pv 6))) (pw_or1 (pt_cmpR op_eq (pv 9) (pv 4) (nomark _))))) (pw_and (pt_cmpR op_eq (pe_dget hu (pv 2) (pv 10) (fun _ _ => rfl)) (pv 5) (nomark _)) (pw_and1 (pt_cmpR (w_nin (K := K) rfl) (pv 10) (pv 7) (by rfl)))))) (pss_one (ps_expr (pe_bm PySem.F.plainAttrs_list PySem.F.slot_list_append PySem.F.type_list_append mt_append (pv 7) (pa_cons (pv 10) pa_nil)))) pss_nil))))))
      (pss_one (ps_ret (pe_callTy (w_tup (K := K) rfl) (by rfl) T.b_tuple (by decide +kernel) (pa_cons (pe_callB (w_sortL (K := K) rfl) (by rfl) T.b_sorted (by decide +kernel) (pa_cons (pv 7) pa_nil)) pa_nil))))))), ?_⟩
  refine x_start (σ' := [some _, some _, some _, some _, some _, some _, none, none, none, none, none]) rfl ?_
  try simp only [cx_n, cx_K, cx_w, cx_P]
  obtain ⟨lk', kvl, el, rl, kl⟩ := id hlk
  cases el
  have lat : ∀ n ∈ sts.map (·.1), valV kvl (Sum.inr n) = some (.str (lookOf looks n)) := fun n hn => by
    obtain ⟨l, e⟩ := lookA_some (lkey n hn)
    obtain ⟨v, ev, rfl⟩ := kl.at_ e
    unfold lookOf
    rw [e]
    exact ev
  have a0 : atI (kn0.map V.str) (0 : Int) = some (.str (M.hd kn0)) := by
    cases kn0 with
    | nil => exact absurd rfl kne
    | cons a r => exact atI_nat (j := 0) rfl
  walk_at "rd"
  refine x_ixT hk a0 ?_
  refine ⟨d, _, sts, st0, rfl, hd, est0, ?_⟩
  walk_at "rd"
  refine ⟨lt, _, rfl, .inr hlt, by cases st0 <;> rfl, flat_ints ns, ?_⟩
  rw [inV_mover]
  walk_at "rd"
  refine ⟨Nat.le_of_ble_eq_true rfl, fun F hF => ?_⟩
  walk_at "rd"
  have s0 : SX [] H (upd H F (.lst [])) := SX.new hF
  refine x_itt (s0.le0.t hk) ?_
  have F0 : (upd H F (.lst [])) F = some (.lst []) := upd_same
  generalize upd H F (.lst []) = H0 at s0 F0
  generalize hown : moverIn ns st0 = own
  have fit1 : own = false → mv = none := fun e => by
    unfold MvFit at fit
    rw [hown, e, if_neg Bool.false_ne_true] at fit
    exact fit
  have fit2 : own = true → ∃ m, mv = some m := fun e => by
    unfold MvFit at fit
    rw [hown, e, if_pos rfl] at fit
    obtain ⟨m, e, _⟩ := fit
    exact ⟨m, e⟩
  generalize hgr : grOf ns sts = gr at *
  generalize hlo : lookOf looks = look at *
  refine for_it (walk_tupR (R := rS) (Hb := H) (paired_S' kn0)) (fun i σ A => ∃ (c1 c2 c3 : Option V), SX [] H A ∧ A F = some (.lst ((foundL look l (goals gr (kn0.take i) mv)).map V.str)) ∧
      σ = [some (.ref d), some (.ref lt), some (.ref lk), some (.ref kn), some (mvV mv), some (.str l), some (.bl own), some (.ref F), c1, c2, c3])
    ⟨none, none, none, s0, F0, rfl⟩ (fun i σ A _ h => by obtain ⟨_, _, _, s, _⟩ := h; exact s.le0.t hk) ?_ ?_
  · rintro i z σ A0 A hi ⟨c1, c2, c3, sA, gA, rfl⟩ ⟨rfl, s, hs, rfl⟩
    obtain ⟨st, est⟩ := lookA_some (km s (getMem hs))
    walk_at "rd"
    refine ⟨d, s, sts, st, rfl, mono_D (mono_stand K) _ _ _ _ sA.le0 hd, est, fun p B ys hp sB ep pp sy => ?_⟩
    refine x_itl (sqL ep) ?_
    have ey : ys = gr.steps s := by rw [← hgr, gr_steps est]; exact srtL_of pp sy
    have sHB := sA.trans sB
    have y4 : ys.length ≤ 4 := by rw [ey, ← hgr]; exact gr_lenC2 CS s
    have gl : (goals gr (kn0.take i) mv).length ≤ 400 := by
      have h1 := goals_len (gr := gr) (mv := mv) (K := kn0.take i) fun s _ => by rw [← hgr]; exact gr_lenC2 CS s
      rw [List.length_take] at h1
      omega
    have nFp : F ≠ p := fun z => by rw [z, hp] at gA; cases gA
    have gB : B F = some (.lst ((foundL look l (goals gr (kn0.take i) mv)).map V.str)) := sB _ _ List.not_mem_nil gA
    refine for_it (walk_listR (R := rS) (Hb := H) (paired_S' ys)) (fun j σ A => ∃ (c2 c3 : Option V), SX [] H A ∧ A p = some (.lst (ys.map V.str)) ∧ A F = some (.lst ((foundL look l (goals gr (kn0.take i) mv ++ ((ys.take j).filter (mvOk mv)).map (gr.to s))).map V.str)) ∧
        σ = [some (.ref d), some (.ref lt), some (.ref lk), some (.ref kn), some (mvV mv), some (.str l), some (.bl own), some (.ref F), some (.str s), c2, c3])
      ⟨c2, c3, sHB, ep, by simpa using gB, rfl⟩ (fun j σ A _ h => by obtain ⟨_, _, _, h, _⟩ := h; exact sqL h) ?_ ?_
    · rintro j y σ C0 C hj ⟨c2, c3, sC, eC, gC, rfl⟩ ⟨rfl, z, hz, rfl⟩
      obtain ⟨t, et⟩ := lookA_some (pp.mem_iff.mp (getMem hz))
      have egt : gr.to s z = t := by rw [← hgr, gr_to est, et]; rfl
      have mt : t ∈ sts.map (·.1) := (CS.all _ (lookA_mem est)).2.2 t (by rw [← rows_tos]; exact List.mem_map.mpr ⟨(z, t), lookA_mem et, rfl⟩)
      have stp : ((ys.take (j + 1)).filter (mvOk mv)).map (gr.to s) = ((ys.take j).filter (mvOk mv)).map (gr.to s) ++ if mvOk mv z = true then [t] else [] := by
        rw [take_succ_of hz, List.filter_append, List.map_append, List.filter_cons]
        by_cases c : mvOk mv z = true
        · rw [if_pos c, if_pos c]
          simp [egt]
        · rw [if_neg c, if_neg c]
          simp
      have fl : (((ys.take j).filter (mvOk mv)).map (gr.to s)).length ≤ 4 := by
        rw [List.length_map]
        exact Nat.le_trans (List.length_filter_le _ _) (by rw [List.length_take]; omega)
      generalize hgs : goals gr (kn0.take i) mv ++ ((ys.take j).filter (mvOk mv)).map (gr.to s) = gs at gC
      have gsl : gs.length ≤ 404 := by rw [← hgs, List.length_append]; omega
      rw [stp, ← List.append_assoc, hgs]
      walk_at "rd"
      refine ⟨d, s, z, t, sts, st, rfl, mono_D (mono_stand K) _ _ _ _ sC.le0 hd, est, et, ?_⟩
      walk_at "rd"
      refine x_ownC (mv := mv) (z := z) fit1 fit2 (fun ho q => ?_) (fun c => ?_) (fun c => ?_)
      · obtain ⟨m, rfl⟩ := fit2 ho
        walk_at "rd"
        exact q
      · rw [if_pos c]
        walk_at "rd"
        refine x_dg' (sC.le0.rd _ _ trivial rl) (lat t mt) ?_
        walk_at "rd"
        refine x_cases (fun c4 => ?_) (fun c4 => ?_)
        · have el : look t = l := by injection of_decide_eq_true c4
          walk_at "rd"
          refine ⟨F, _, rfl, .inl (sqL gC), rfl, flat_strs _, ?_⟩
          rw [inV_strD]
          by_cases m : t ∈ foundL look l gs
          · rw [decide_eq_true m]
            walk_at "rd"
            refine ⟨_, _, sC, eC, ?_, rfl⟩
            rw [foundL_snoc, foundS, if_neg fun z => z.2 m]
            exact gC
          · rw [decide_eq_false m]
            walk_at "rd"
            refine x_true (by rfl) ?_
            walk_at "rd"
            refine ⟨.inl ⟨rfl, _, sqL gC⟩, ?_⟩
            walk_at "rd"
            have lf := found_len look l gs
            refine ⟨F, _, _, rfl, rfl, gC, lt_size (by rw [List.length_map]; omega), ?_⟩
            have sF : SX [F] C (upd C F (.lst ((foundL look l gs).map V.str ++ [.str t]))) := SX.mut List.mem_cons_self
            refine ⟨_, _, sx_nil_of (S := [F]) ((nil_sx sC).trans sF) (by simp [hF]), by rw [upd_ne (Ne.symm nFp)]; exact eC, ?_, rfl⟩
            rw [upd_same, foundL_snoc, foundS, if_pos ⟨el, m⟩, List.map_append]
            rfl
        · walk_at "rd"
          refine ⟨_, _, sC, eC, ?_, rfl⟩
          rw [foundL_snoc, foundS, if_neg fun z => of_decide_eq_false c4 (by rw [z.1])]
          exact gC
      · have e0 : (if mvOk mv z = true then [t] else []) = ([] : List Str) := by rw [c]; rfl
        rw [e0, List.append_nil]
        walk_at "rd"
        exact ⟨_, _, sC, eC, gC, rfl⟩
    · rintro σ A ⟨c2, c3, sC, eC, gC, rfl⟩
      refine ⟨_, _, _, sC, ?_, rfl⟩
      rw [List.take_length, ey] at gC
      rw [take_succ_of hs]
      unfold goals at gC ⊢
      rw [List.flatMap_append]
      simpa [goalsAt] using gC
  · rintro σ A ⟨c1, c2, c3, sA, gA, rfl⟩
    rw [List.take_length] at gA
    walk_at "rd"
    refine x_sortL (sqL gA) fun ys p hp hs np => ?_
    have s1 : SX [] A (upd A p (.lst (ys.map V.str))) := SX.new np
    refine x_ctup (sqL upd_same) fun q hq => ?_
    have s2 : SX [] (upd A p (.lst (ys.map V.str))) (upd (upd A p (.lst (ys.map V.str))) q (.tup (ys.map V.str))) := SX.new hq
    refine k q _ ((sA.trans s1).free hq List.not_mem_nil) ((sA.trans s1).trans s2) ?_
    rw [upd_same, ← found_after, srtL_of hp hs]
end
end M

namespace M
open PySem PySem.Spec PyProof.Rows L2 ReR
/-- no step that fits -/
def OddM (ns : List Int) (st : Stand) (A : Hp) (v : V) : Prop := ∃ dv, DpD A v dv ∧ SeqAt.shaped dv = true ∧ ¬ ∃ mv, v = mvV mv ∧ MvFit ns st mv
theorem OddM.ext {ns : List Int} {st : Stand} {A B : Hp} (e : ExtR A B) {v : V} : OddM ns st A v → OddM ns st B v := fun ⟨d, h, r⟩ => ⟨d, h.monoR e, r⟩
theorem hid_ext {A B : Hp} {p : Addr} (s : SX [p] A B) : ExtR (hid [p] A) (hid [p] B) := Ext.r (hid_sx s)
theorem notfit_own {ns : List Int} {st : Stand} (h : moverIn ns st = true) {v : V} (n : ∀ m, v = .str m → m ∉ st.rows.map (·.1)) : ¬ ∃ mv, v = mvV mv ∧ MvFit ns st mv := fun ⟨mv, e, f⟩ => by
  unfold MvFit at f
  rw [if_pos h] at f
  obtain ⟨m, rfl, hm⟩ := f
  exact n m e hm
theorem notfit_not {ns : List Int} {st : Stand} (h : moverIn ns st = false) {v : V} (n : v ≠ .non) : ¬ ∃ mv, v = mvV mv ∧ MvFit ns st mv := fun ⟨mv, e, f⟩ => by
  unfold MvFit at f
  rw [if_neg (by rw [h]; exact Bool.false_ne_true)] at f
  subst f
  exact n e
theorem shaped_nameB {s : Str} (h : nameB s = true) : SeqAt.shaped (.str s) = true := by
  unfold SeqAt.shaped
  rw [Bool.and_eq_true]
  exact ⟨by rw [PyData.canLay0]; exact nameB_strOk h, by rw [PyData.depth]; decide⟩
section
variable {P : Program} {w : World} {K : PySem.W.Frag} {mg : Str → Option Value} {base : Heap}
theorem x_cat {a b : Addr} {xs ys : List V} {H : Hp} {Q : VK} (h1 : H a = some (.lst xs)) (h2 : H b = some (.lst ys)) (l : xs.length + ys.length ≤ sizeLine) (k : ∀ p, H p = none → Q (.ref p) (upd H p (.lst (xs ++ ys)))) : rCat (.ref a) (.ref b) H Q := ⟨a, b, xs, ys, rfl, rfl, h1, h2, l, k⟩
def sp_law_odd_move (T : Tx K mg) : Sp := fun vs H Q _ => ∃ (p d kn : Addr) (sts : List (Str × Stand)) (ns : List Int) (kn0 : List Str) (st : Stand), vs = [.ref p, .ref d, .ref kn, .bl (moverIn ns st)] ∧ Drw H p ∧ rD (rStand K) (hid [p] H) (.ref d) sts ∧ sts.length ≤ 8 ∧ (∀ z ∈ sts, z.2.rows.length ≤ 4 ∧ ∀ s ∈ z.2.rows.map (·.1), nameB s = true) ∧ StL st ∧
  SqT K (hid [p] H) kn (kn0.map V.str) ∧ kn0 ≠ [] ∧ lookA sts (hd kn0) = some st ∧
  ∀ (v : V) (H' : Hp), SX [p] H H' → Drw H' p → OddM ns st (hid [p] H') v → Q v H'
theorem ok_law_odd_move (T : Tx K mg) : FnOk P w K mg base CX0 2 T.law_odd_move.f T.law_odd_move.fd P_law_odd_move (sp_law_odd_move T) := by
  refine T.law_odd_move.F.ok sc_law_odd_move (fun vs H Q E h => ?_) (fun cdv A outer s H vs Q E hr h => ?_)
  · obtain ⟨p, d, kn, sts, ns, kn0, st, rfl, hp, hd9, h8, hrw, stl, hkn, kne, est, k⟩ := h
    rfl
  have hu := hu_of hr
  have nd := sc_law_odd_move.nd
  obtain ⟨p, d, kn, sts, ns, kn0, st, rfl, hp, hd9, h8, hrw, stl, hkn, kne, est, k⟩ := h
  refine ⟨_, (pss_cons (ps_if (pt_not (pt_val (pv 3))) (pss_one (ps_ret (pe_ix (w_ixL (K := K) rfl) (pe_lst (pa_cons pe_str (pa_cons pe_str (pa_cons pe_bl (pa_cons pe_int (pa_cons (pe_tup (pa_cons pe_str pa_nil)) pa_nil)))))) (pe_call (ok_law_draw (P := P) (w := w) T) (hr.mono (by decide)) (by rfl) T.law_draw.g T.law_draw.F.kp T.law_draw.B .nil pass0 (pa_cons (pv 0) (pa_cons pe_int pa_nil))) (fun _ _ => rfl)))) pss_nil)
      (pss_cons (ps_set (i := 4) nd rfl (Or.inr rfl) (pe_call (ok_law_steps (P := P) (w := w) T) (hr.mono (by decide)) (by rfl) T.law_steps.g T.law_steps.F.kp T.law_steps.B .nil pass0 (pa_cons (pv 1) (pa_cons (pe_ix (w_ixT (K := K) rfl) (pv 2) pe_int (fun _ _ => rfl)) pa_nil))))
      (pss_cons (ps_set (i := 5) nd rfl (Or.inl rfl) (pe_lst (pa_cons pe_str (pa_cons pe_int (pa_cons pe_bl (pa_cons (pe_lst (pa_cons pe_str pa_nil)) (pa_cons (pe_tup pa_nil) (pa_cons pe_non (pa_cons pe_non pa_nil)))))))))
      (pss_cons (ps_for PassesOwn.never rfl (w_pilist (K := K) rfl (pe_callB (cl_sortD rfl) (by rfl) T.b_sorted (by decide +kernel) (pa_cons (pv 1) pa_nil))) (pg_name (i := 6) nd rfl (Or.inl rfl)) (pss_one (ps_set (i := 5) nd rfl (Or.inl rfl) (pe_op op_cat (pv 5) (pe_lc (own := [("step", 7)]) rfl nd (w_pilist (K := K) rfl (pe_call (ok_law_steps (P := P) (w := w) T) (hr.mono (by decide)) (by rfl) T.law_steps.g T.law_steps.F.kp T.law_steps.B .nil pass0 (pa_cons (pv 1) (pa_cons (pv 6) pa_nil)))) (blkOk_by (own := [("step", 7)]) (N := N_law_odd_move) (sc := defScope s_law_odd_move) (by decide +kernel)) (fun _ _ _ _ _ => (pg_name (i := 7) nd rfl (Or.inl rfl))) (fun _ _ _ _ _ => pts_one (pt_cmpR (w_nin (K := K) rfl) (pv 7) (pv 4) (by rfl))) (fun _ _ _ _ _ => (pv 7)))))))
      (pss_one (ps_ret (pe_ix (w_ixL (K := K) rfl) (pv 5) (pe_call (ok_law_draw (P := P) (w := w) T) (hr.mono (by decide)) (by rfl) T.law_draw.g T.law_draw.F.kp T.law_draw.B .nil pass0 (pa_cons (pv 0) (pa_cons (pe_callB (w_len (K := K) rfl) (by rfl) T.b_len (by decide +kernel) (pa_cons (pv 5) pa_nil)) pa_nil))) (fun _ _ => rfl)))))))), ?_⟩
  refine x_start (σ' := [some _, some _, some _, some _, none, none, none, none]) rfl ?_
  try simp only [cx_n, cx_K, cx_w, cx_P]
  obtain ⟨d', kvs9, ed, hrd, hk⟩ := id hd9
  cases ed
  have a0 : atI (kn0.map V.str) (0 : Int) = some (.str (M.hd kn0)) := by
    cases kn0 with
    | nil => exact absurd rfl kne
    | cons a r => exact atI_nat (j := 0) rfl
  walk_at "rd"
  cases hmi : moverIn ns st with
  | false =>
    walk_at "rd"
    refine ⟨Nat.le_of_ble_eq_true rfl, fun t1 g1 => ?_⟩
    walk_at "rd"
    refine ⟨Nat.le_of_ble_eq_true rfl, fun l2 g2 => ?_⟩
    have s1 : SX [] H (upd H t1 (.tup [.str "go"])) := SX.new g1
    have e1 : (upd H t1 (.tup [.str "go"])) t1 = some (.tup [.str "go"]) := upd_same
    generalize upd H t1 (.tup [.str "go"]) = H1 at s1 e1 g2
    let L1 : List V := [.str "go", .str "", .bl false, .int 0, .ref t1]
    have s2 : SX [] H1 (upd H1 l2 (.lst L1)) := SX.new g2
    have e2 : (upd H1 l2 (.lst L1)) l2 = some (.lst L1) := upd_same
    change tCall _ _ _ _ _ (upd H1 l2 (.lst L1)) _
    generalize upd H1 l2 (.lst L1) = H2 at s2 e2
    have p1 := hp.sx s1 List.not_mem_nil
    have n2 : l2 ≠ p := fun z => p1.there (z ▸ g2)
    have n1 : t1 ≠ p := fun z => hp.there (z ▸ g1)
    walk_at "rd"
    refine ⟨p, 5, rfl, p1.sx s2 List.not_mem_nil, by decide, by decide, fun r H3 r0 r1 s3 p3 => ?_⟩
    obtain ⟨v, ev, mv⟩ := at_memL (xs := L1) r0 r1
    refine x_ixL (sqL (s3 _ _ (by simpa using n2) e2)) ev ?_
    refine k v H3 ((nil_sx (s1.trans s2)).trans s3) p3 ?_
    have e13 : hid [p] H3 t1 = some (.tup [.str "go"]) := by
      rw [hid_of (by simpa using n1)]
      exact s3 _ _ (by simpa using n1) (s2 _ _ List.not_mem_nil e1)
    simp only [L1, List.mem_cons, List.not_mem_nil, or_false] at mv
    rcases mv with rfl | rfl | rfl | rfl | rfl
    · exact ⟨_, .str _, by decide +kernel, notfit_not hmi fun z => nomatch z⟩
    · exact ⟨_, .str _, by decide +kernel, notfit_not hmi fun z => nomatch z⟩
    · exact ⟨_, .bl _, by decide +kernel, notfit_not hmi fun z => nomatch z⟩
    · exact ⟨_, .int _, by decide +kernel, notfit_not hmi fun z => nomatch z⟩
    · exact ⟨_, .tup e13 (.cons (.str _) .nil), by decide +kernel, notfit_not hmi fun z => nomatch z⟩
  | true =>
    walk_at "rd"
    refine x_ixT (le_hid.t hkn) a0 ?_
    refine ⟨d, _, sts, st, rfl, mono_D (mono_stand K) _ _ _ _ le_hid hd9, est, fun py H1 ys hpy s1 epy pp sy => ?_⟩
    walk_at "rd"
    refine ⟨Nat.le_of_ble_eq_true rfl, fun l1 g1 => ?_⟩
    walk_at "rd"
    refine ⟨Nat.le_of_ble_eq_true rfl, fun t1 g2 => ?_⟩
    walk_at "rd"
    refine ⟨Nat.le_of_ble_eq_true rfl, fun O g3 => ?_⟩
    have s2 : SX [] H1 (upd H1 l1 (.lst [.str "a"])) := SX.new g1
    have e1 : (upd H1 l1 (.lst [.str "a"])) l1 = some (.lst [.str "a"]) := upd_same
    generalize upd H1 l1 (.lst [.str "a"]) = H2 at s2 e1 g2 g3
    have s3 : SX [] H2 (upd H2 t1 (.tup [])) := SX.new g2
    have e2 : (upd H2 t1 (.tup [])) t1 = some (.tup []) := upd_same
    generalize upd H2 t1 (.tup []) = H3 at s3 e2 g3
    let L1 : List V := [.str "zz8zz", .int 0, .bl true, .ref l1, .ref t1, .non, .non]
    have s4 : SX [] H3 (upd H3 O (.lst L1)) := SX.new g3
    have e3 : (upd H3 O (.lst L1)) O = some (.lst L1) := upd_same
    change gName _ (V.ref O) _ (upd H3 O (.lst L1)) _
    generalize upd H3 O (.lst L1) = H4 at s4 e3
    have p1 := hp.sx s1 List.not_mem_nil
    have s14 : SX [] H H4 := s1.trans (s2.trans (s3.trans s4))
    have p4 := hp.sx s14 List.not_mem_nil
    have nl1 : l1 ≠ p := fun z => p1.there (z ▸ g1)
    have nt1 : t1 ≠ p := fun z => (p1.sx s2 List.not_mem_nil).there (z ▸ g2)
    have npy : py ≠ p := fun z => hp.there (z ▸ hpy)
    have nOp : O ≠ p := fun z => ((p1.sx s2 List.not_mem_nil).sx s3 List.not_mem_nil).there (z ▸ g3)
    have el4 : H4 l1 = some (.lst [.str "a"]) := s4 _ _ List.not_mem_nil (s3 _ _ List.not_mem_nil e1)
    have et4 : H4 t1 = some (.tup []) := s4 _ _ List.not_mem_nil e2
    have ep4 : H4 py = some (.lst (ys.map V.str)) := s4 _ _ List.not_mem_nil (s3 _ _ List.not_mem_nil (s2 _ _ List.not_mem_nil epy))
    have odd1 : ∀ v ∈ L1, OddM ns st (hid [p] H4) v := by
      have h1 : hid [p] H4 l1 = some (.lst [.str "a"]) := by rw [hid_of (by simpa using nl1)]; exact el4
      have h2 : hid [p] H4 t1 = some (.tup []) := by rw [hid_of (by simpa using nt1)]; exact et4
      intro v mv
      simp only [L1, List.mem_cons, List.not_mem_nil, or_false] at mv
      rcases mv with rfl | rfl | rfl | rfl | rfl | rfl | rfl
      · exact ⟨_, .str _, by decide +kernel, notfit_own hmi fun m e mm => by
          injection e with e
          subst e
          exact absurd (stl _ mm) (by decide +kernel)⟩
      · exact ⟨_, .int _, by decide +kernel, notfit_own hmi fun m z => nomatch z⟩
      · exact ⟨_, .bl _, by decide +kernel, notfit_own hmi fun m z => nomatch z⟩
      · exact ⟨_, .lst h1 (.cons (.str _) .nil), by decide +kernel, notfit_own hmi fun m z => nomatch z⟩
      · exact ⟨_, .tup h2 .nil, by decide +kernel, notfit_own hmi fun m z => nomatch z⟩
      · exact ⟨_, .non, by decide +kernel, notfit_own hmi fun m z => nomatch z⟩
      · exact ⟨_, .non, by decide +kernel, notfit_own hmi fun m z => nomatch z⟩
    have l7 : L1.length = 7 := rfl
    clear_value L1
    walk_at "rd"
    refine x_sortD ((nil_sx (S := [p]) s14).leH.rd _ _ trivial hrd) hk.keys fun zs pz hpz hsz npz => ?_
    have s5 : SX [] H4 (upd H4 pz (.lst (zs.map V.str))) := SX.new npz
    have ez : (upd H4 pz (.lst (zs.map V.str))) pz = some (.lst (zs.map V.str)) := upd_same
    have eO5 := s5 _ _ List.not_mem_nil e3
    have ep5 := s5 _ _ List.not_mem_nil ep4
    generalize upd H4 pz (.lst (zs.map V.str)) = H5 at s5 ez eO5 ep5
    have odd5 : ∀ v ∈ L1, OddM ns st (hid [p] H5) v := fun v h => (odd1 v h).ext (hid_ext (nil_sx s5))
    have s15 : SX [] H H5 := s14.trans s5
    have p5 := p4.sx s5 List.not_mem_nil
    have nO0 : H O = none := (s1.trans (s2.trans s3)).free g3 List.not_mem_nil
    have zl : zs.length ≤ 8 := by rw [hpz.length_eq, List.length_map]; exact h8
    have nzp : pz ≠ p := fun z => p4.there (z ▸ npz)
    refine x_itl (sqL ez) ?_
    refine for_it (walk_listR (R := rS) (Hb := H) (paired_S' zs)) (fun i σ A => SX [] H A ∧ A pz = some (.lst (zs.map V.str)) ∧ A py = some (.lst (ys.map V.str)) ∧ ∃ (O : Addr) (xs : List V) (c c2 : Option V), A O = some (.lst xs) ∧ O ≠ p ∧ (∀ v ∈ xs, OddM ns st (hid [p] A) v) ∧ 1 ≤ xs.length ∧ xs.length ≤ 7 + 4 * i ∧
        σ = [some (.ref p), some (.ref d), some (.ref kn), some (.bl true), some (.ref py), some (.ref O), c, c2])
      ⟨s15, ez, ep5, O, L1, none, none, eO5, nOp, odd5, by omega, by omega, rfl⟩ (fun i σ A _ h => sqL h.2.1) ?_ ?_
    · rintro i z σ A0 A hi ⟨sA, zA, yA, O2, xs, c, c2, eO, nO, odd, l1', l2', rfl⟩ ⟨rfl, s, hs, rfl⟩
      obtain ⟨st2, est2⟩ := lookA_some (hpz.mem_iff.mp (getMem hs))
      have rA := hrw _ (lookA_mem est2)
      walk_at "rd"
      refine ⟨d, s, sts, st2, rfl, mono_D (mono_stand K) _ _ _ _ (nil_sx (S := [p]) sA).leH hd9, est2, fun pw B ws hpw sB epw pp2 sy2 => ?_⟩
      have wl : ws.length ≤ 4 := by rw [pp2.length_eq, List.length_map]; exact rA.1
      walk_at "rd"
      refine x_itl (sqL epw) fun D hD => ?_
      have nwD : pw ≠ D := ne_of_none epw hD
      have yB := sB _ _ List.not_mem_nil yA
      refine lc_it (walk_listR (R := rS) (Hb := H) (paired_S' ws)) (fun m C => SX [] B C ∧ C D = some (.lst (((ws.take m).filter fun s => !decide (s ∈ ys)).map V.str))) ⟨SX.new hD, upd_same⟩ (fun m C _ h => sqL (h.1 _ _ List.not_mem_nil epw)) ?_ ?_
      · rintro m z C0 C hm ⟨sC, dC⟩ ⟨rfl, s', hs', rfl⟩
        have stp := filt_next (f := fun s => !decide (s ∈ ys)) hs'
        walk_at "rd"
        refine ⟨rfl, ?_⟩
        walk_at "rd"
        refine ⟨py, _, rfl, .inl (sqL (sC _ _ List.not_mem_nil yB)), rfl, flat_strs ys, ?_⟩
        rw [inV_strD]
        by_cases c : s' ∈ ys
        · rw [decide_eq_true c]
          walk_at "rd"
          refine x_false (by rfl) ?_
          refine ⟨sC, ?_⟩
          rw [stp, if_neg (by rw [decide_eq_true c]; exact Bool.false_ne_true), List.append_nil]
          exact dC
        · rw [decide_eq_false c]
          walk_at "rd"
          refine x_true (by rfl) ?_
          walk_at "rd"
          refine ⟨_, dC, lt_size ?_, sx_nil_of (S := [D]) ((nil_sx sC).trans (SX.mut List.mem_cons_self)) (by simp [hD]), ?_⟩
          · rw [List.length_map]
            refine Nat.le_trans (List.length_filter_le _ _) ?_
            rw [List.length_take]
            omega
          · rw [upd_same, stp, if_pos (by rw [decide_eq_false c]; rfl), List.map_append]
            rfl
      rintro C ⟨sC, dC⟩
      rw [List.take_length] at dC
      have fl : (ws.filter fun s => !decide (s ∈ ys)).length ≤ 4 := Nat.le_trans (List.length_filter_le _ _) wl
      have sBC := sB.trans sC
      have eOC := sBC _ _ List.not_mem_nil eO
      walk_at "rd"
      refine x_cat eOC dC (Nat.le_of_lt (lt_size (by rw [List.length_map]; omega))) fun N hN => ?_
      have sN : SX [] C (upd C N (.lst (xs ++ (ws.filter fun s => !decide (s ∈ ys)).map V.str))) := SX.new hN
      have sAN := sBC.trans sN
      have pA := hp.sx sA List.not_mem_nil
      walk_at "rd"
      refine ⟨sA.trans sAN, sAN _ _ List.not_mem_nil zA, sAN _ _ List.not_mem_nil yA, N, _, _, _, upd_same, fun z => (pA.sx sBC List.not_mem_nil).there (z ▸ hN), fun v hv => ?_, by rw [List.length_append]; omega, by rw [List.length_append, List.length_map]; omega, rfl⟩
      rcases List.mem_append.mp hv with hv | hv
      · exact (odd v hv).ext (hid_ext (nil_sx sAN))
      · obtain ⟨s9, h9, rfl⟩ := List.mem_map.mp hv
        obtain ⟨h91, h92⟩ := List.mem_filter.mp h9
        refine ⟨_, .str _, shaped_nameB (rA.2 s9 (pp2.mem_iff.mp h91)), notfit_own hmi fun m e mm => ?_⟩
        injection e with e
        subst e
        have : s9 ∉ ys := by simpa using h92
        exact this (pp.mem_iff.mpr mm)
    · rintro σ A ⟨sA, zA, yA, O2, xs, c, c2, eO, nO, odd, l1', l2', rfl⟩
      have pA := hp.sx sA List.not_mem_nil
      walk_at "rd"
      refine x_lenL' (sqL eO) ?_
      walk_at "rd"
      refine ⟨p, xs.length, rfl, pA, by omega, by omega, fun r B r0 r1 sB pB => ?_⟩
      obtain ⟨v, ev, mv⟩ := at_memL (xs := xs) r0 r1
      refine x_ixL (sqL (sB _ _ (by simpa using nO) eO)) ev ?_
      exact k v B ((nil_sx sA).trans sB) pB ((odd v mv).ext (hid_ext sB))
end
end M

namespace M
open PySem PySem.Spec PyProof.Rows L2 ReR
theorem strs_map_inj {a b : List Str} (h : PyData.tuple (a.map PyData.str) = .tuple (b.map PyData.str)) : a = b := by
  injection h with h
  exact strs_inj h
theorem bad_rev {looks : List (Str × Str)} {look : Str → Str} {names kn0 more : List Str} (g : GoodK look names kn0) (l : 1 < kn0.length) : ¬ GoodD looks (.tuple ((kn0.reverse ++ more).map PyData.str)) := fun ⟨kn1, e, g1⟩ => by
  have e := strs_map_inj e
  obtain ⟨a, b, r, rfl⟩ : ∃ a b r, kn0 = a :: b :: r := by
    match kn0, l with
    | a :: b :: r, _ => exact ⟨a, b, r, rfl⟩
  have h1 : ltS a b := (List.pairwise_cons.mp g.2.1).1 b List.mem_cons_self
  have p := g1.2.1
  rw [← e, List.reverse_cons, List.reverse_cons] at p
  have p2 := (List.pairwise_append.mp p).1
  have p3 := (List.pairwise_append.mp p2).2.2
  have h2 : ltS b a := p3 b (List.mem_append_right _ List.mem_cons_self) a List.mem_cons_self
  exact ltS_irrefl a (ltS_trans _ _ _ h1 h2)
theorem bad_mem {looks : List (Str × Str)} {l : List Str} {s : Str} (m : s ∈ l) (n : s ∉ looks.map (·.1)) : ¬ GoodD looks (.tuple (l.map PyData.str)) := fun ⟨kn1, e, g1⟩ => by
  have e := strs_map_inj e
  subst e
  exact n (g1.2.2.1 s m)
theorem bad_item {looks : List (Str × Str)} {ds : List PyData} {d : PyData} (m : d ∈ ds) (n : ∀ s, d ≠ .str s) : ¬ GoodD looks (.tuple ds) := fun ⟨kn1, e, g1⟩ => by
  injection e with e
  subst e
  obtain ⟨s, _, rfl⟩ := List.mem_map.mp m
  exact n s rfl
theorem bad_again {looks : List (Str × Str)} {k0 : Str} {r : List Str} : ¬ GoodD looks (.tuple (((k0 :: r) ++ [k0]).map PyData.str)) := fun ⟨kn1, e, g1⟩ => by
  have e := strs_map_inj e
  have p := g1.2.1
  rw [← e] at p
  exact ltS_irrefl k0 ((List.pairwise_append.mp p).2.2 k0 List.mem_cons_self k0 List.mem_cons_self)
theorem bad_two {looks : List (Str × Str)} {ys : List Str} {s t : Str} (p : ys.Perm [s, t]) (n : lookOf looks s ≠ lookOf looks t) : ¬ GoodD looks (.tuple (ys.map PyData.str)) := fun ⟨kn1, e, g1⟩ => by
  have e := strs_map_inj e
  subst e
  have h1 := g1.2.2.2 s (p.mem_iff.mpr List.mem_cons_self)
  have h2 := g1.2.2.2 t (p.mem_iff.mpr (List.mem_cons_of_mem _ List.mem_cons_self))
  exact n (h1.trans h2.symm)
theorem x_keep {c : Bool} {A R : Prop} (r : R) (a : R → c = true → A) : if c = true then A else R := by
  cases c with
  | true => exact a r rfl
  | false => exact r
section
variable {P : Program} {w : World} {K : PySem.W.Frag} {mg : Str → Option Value} {base : Heap}
theorem x_revT {te : TE} {σ : L2.St} {H : Hp} {Q : VK} (k : te σ H fun x H1 => ∃ a xs, x = .ref a ∧ SqT K H1 a xs ∧ ∀ p, H1 p = none → Q (.ref p) (upd H1 p (.tup xs.reverse))) : tRevT K te σ H Q := k
theorem x_catTT {a b : Addr} {xs ys : List V} {H : Hp} {Q : VK} (h1 : SqT K H a xs) (h2 : SqT K H b ys) (l : xs.length + ys.length ≤ sizeLine) (nx : xs ≠ []) (ny : ys ≠ []) (k : ∀ p, H p = none → Q (.ref p) (upd H p (.tup (xs ++ ys)))) : rCatA K (.ref a) (.ref b) H Q := ⟨a, b, xs, ys, rfl, rfl, h1, h2, l, fun z => absurd z nx, fun _ z => absurd z ny, fun _ _ => k⟩
theorem x_clist2 {a : Addr} {xs : List V} {H : Hp} {Q : VK} (h : SqT K H a xs) (k : ∀ p, H p = none → Q (.ref p) (upd H p (.lst xs))) : cList K [.ref a] H Q := ⟨a, xs, rfl, .inr h, k⟩
def sp_law_odd_knowledge (T : Tx K mg) : Sp := fun vs H Q _ => ∃ (p d lk kn : Addr) (sts : List (Str × Stand)) (looks : List (Str × Str)) (kn0 : List Str), vs = [.ref p, .ref d, .ref lk, .ref kn] ∧ Drw H p ∧ rD (rStand K) (hid [p] H) (.ref d) sts ∧ sts.length ≤ 8 ∧ rD rS (hid [p] H) (.ref lk) looks ∧ (∀ n, n ∈ looks.map (·.1) ↔ n ∈ sts.map (·.1)) ∧ NoZZ (sts.map (·.1)) ∧
  SqT K (hid [p] H) kn (kn0.map V.str) ∧ GoodK (lookOf looks) (looks.map (·.1)) kn0 ∧ kn0.length ≤ 8 ∧
  ∀ (v : V) (dv : PyData) (H' : Hp), SX [p] H H' → Drw H' p → DpD (hid [p] H') v dv → ¬ GoodD looks dv → Q v H'
theorem ok_law_odd_knowledge (T : Tx K mg) : FnOk P w K mg base CX0 2 T.law_odd_knowledge.f T.law_odd_knowledge.fd P_law_odd_knowledge (sp_law_odd_knowledge T) := by
  refine T.law_odd_knowledge.F.ok sc_law_odd_knowledge (fun vs H Q E h => ?_) (fun cdv A outer s H vs Q E hr h => ?_)
  · obtain ⟨p, d, lk, kn, sts, looks, kn0, rfl, hp, hd9, h8, hlk, lkey, nzz, hkn, g, klen, k⟩ := h
    rfl
  have hu := hu_of hr
  have nd := sc_law_odd_knowledge.nd
  obtain ⟨p, d, lk, kn, sts, looks, kn0, rfl, hp, hd9, h8, hlk, lkey, nzz, hkn, g, klen, k⟩ := h
  refine ⟨_, (pss_cons (ps_set (i := 4) nd rfl (Or.inl rfl) (pe_call (ok_law_draw (P := P) (w := w) T) (hr.mono (by decide)) (by rfl) T.law_draw.g T.law_draw.F.kp T.law_draw.B .nil pass0 (pa_cons (pv 0) (pa_cons pe_int pa_nil))))
      (pss_cons (ps_if (pt_cmpR op_gt (pv 4) pe_int (nomark _)) (pss_one (ps_ret (pe_ix (w_ixL (K := K) rfl) (pe_lst (pa_cons (pe_tup (pa_cons (pe_lst (pa_cons pe_str pa_nil)) pa_nil)) (pa_cons (pe_tup (pa_cons pe_dnewK pa_nil)) pa_nil))) (pe_op op_sub (pv 4) pe_int) (fun _ _ => rfl)))) pss_nil)
      (pss_cons (ps_if (PW.pt (pw_and (pt_cmpR op_gt (pv 4) pe_int (nomark _)) (pw_and1 (pt_cmpR op_gt (pe_callB (w_len (K := K) rfl) (by rfl) T.b_len (by decide +kernel) (pa_cons (pv 3) pa_nil)) pe_int (nomark _))))) (pss_one (ps_ret (w_revT (K := K) rfl (pv 3)))) pss_nil)
      (pss_cons (ps_if (pt_cmpR op_lt (pv 4) pe_int (nomark _)) (pss_one (ps_ret (pe_ix (w_ixL (K := K) rfl) (pe_lst (pa_cons (pe_tup pa_nil) (pa_cons pe_non (pa_cons (pe_callTy (w_list (K := K) rfl) (by rfl) T.b_list (by decide +kernel) (pa_cons (pv 3) pa_nil)) (pa_cons (pe_op (w_catT (K := K) rfl) (pv 3) (pe_tup (pa_cons (pe_ix (w_ixT (K := K) rfl) (pv 3) pe_int (fun _ _ => rfl)) pa_nil))) (pa_cons (pe_tup (pa_cons pe_non pa_nil)) pa_nil)))))) (pv 4) (fun _ _ => rfl)))) pss_nil)
      (pss_cons (ps_if (pt_cmpR op_eq (pv 4) pe_int (nomark _)) (pss_one (ps_ret (pe_tup (pa_cons pe_str pa_nil)))) pss_nil)
      (pss_cons (ps_for PassesOwn.never rfl (w_pilist (K := K) rfl (pe_callB (cl_sortD rfl) (by rfl) T.b_sorted (by decide +kernel) (pa_cons (pv 1) pa_nil))) (pg_name (i := 5) nd rfl (Or.inl rfl)) (pss_one (ps_if (pt_cmpR op_ne (pe_dget hu (pv 2) (pv 5) (fun _ _ => rfl)) (pe_dget hu (pv 2) (pe_ix (w_ixT (K := K) rfl) (pv 3) pe_int (fun _ _ => rfl)) (fun _ _ => rfl)) (nomark _)) (pss_one (ps_ret (pe_callTy (w_tup (K := K) rfl) (by rfl) T.b_tuple (by decide +kernel) (pa_cons (pe_callB (w_sortL (K := K) rfl) (by rfl) T.b_sorted (by decide +kernel) (pa_cons (pe_lst (pa_cons (pv 5) (pa_cons (pe_ix (w_ixT (K := K) rfl) (pv 3) pe_int (fun _ _ => rfl)) pa_nil))) pa_nil)) pa_nil)))) pss_nil)))
      (pss_one (ps_ret (pe_op (w_catT (K := K) rfl) (w_revT (K := K) rfl (pv 3)) (pe_tup (pa_cons pe_str pa_nil))))))))))), ?_⟩
  refine x_start (σ' := [some _, some _, some _, some _, none, none]) rfl ?_
  try simp only [cx_n, cx_K, cx_w, cx_P]
  obtain ⟨d', kvs9, ed, hrd, hk⟩ := id hd9
  cases ed
  obtain ⟨lk', kvl, el, rl, kl⟩ := id hlk
  cases el
  have lat : ∀ n ∈ sts.map (·.1), valV kvl (Sum.inr n) = some (.str (lookOf looks n)) := fun n hn => by
    obtain ⟨l, e⟩ := lookA_some ((lkey n).mpr hn)
    obtain ⟨v, ev, rfl⟩ := kl.at_ e
    unfold lookOf
    rw [e]
    exact ev
  obtain ⟨k0, rest, rfl⟩ : ∃ a r, kn0 = a :: r := by
    cases kn0 with
    | nil => exact absurd rfl g.1
    | cons a r => exact ⟨a, r, rfl⟩
  have a0 : atI ((k0 :: rest).map V.str) (0 : Int) = some (.str k0) := atI_nat (j := 0) rfl
  walk_at "rd"
  refine ⟨p, 12, rfl, hp, by decide, by decide, fun ch H1 c0 c1 s1 p1 => ?_⟩
  have kn1 := s1.leH.t hkn
  -- a new thing, whose data are known
  have fin : ∀ {B : Hp} {q : Addr} {o : HO} {dv : PyData}, SX [] H1 B → B q = none → (q ≠ p → DpD (hid [p] (upd B q o)) (.ref q) dv) → ¬ GoodD looks dv → Q (.ref q) (upd B q o) := fun {B q o dv} s hq h n =>
    have pB := p1.sx s List.not_mem_nil
    have nq : q ≠ p := fun z => pB.there (z ▸ hq)
    k _ dv _ ((s1.trans (nil_sx s)).trans (SX.new hq)) (pB.sx (SX.new (S := []) hq) List.not_mem_nil) (h nq) n
  have self : ∀ {B : Hp} {q : Addr} {o : HO}, q ≠ p → hid [p] (upd B q o) q = some o := fun n => by
    rw [hid_of (by simpa using n)]
    exact upd_same
  walk_at "rd"
  refine x_cases (fun c => ?_) (fun c => ?_)
  · have c := of_decide_eq_true c
    walk_at "rd"
    refine ⟨Nat.le_of_ble_eq_true rfl, fun l1 g1 => ?_⟩
    walk_at "rd"
    refine ⟨Nat.le_of_ble_eq_true rfl, fun t1 g2 => ?_⟩
    walk_at "rd"
    intro d1 g3
    walk_at "rd"
    refine ⟨Nat.le_of_ble_eq_true rfl, fun t2 g4 => ?_⟩
    walk_at "rd"
    refine ⟨Nat.le_of_ble_eq_true rfl, fun l2 g5 => ?_⟩
    have u1 : SX [] H1 (upd H1 l1 (.lst [.str "a"])) := SX.new g1
    have e1 : (upd H1 l1 (.lst [.str "a"])) l1 = some (.lst [.str "a"]) := upd_same
    generalize upd H1 l1 (.lst [.str "a"]) = B1 at u1 e1 g2 g3 g4 g5
    have u2 : SX [] B1 (upd B1 t1 (.tup [.ref l1])) := SX.new g2
    have e2 : (upd B1 t1 (.tup [.ref l1])) t1 = some (.tup [.ref l1]) := upd_same
    generalize upd B1 t1 (.tup [.ref l1]) = B2 at u2 e2 g3 g4 g5
    have u3 : SX [] B2 (upd B2 d1 (.dK [])) := SX.new g3
    have e3 : (upd B2 d1 (.dK [])) d1 = some (.dK []) := upd_same
    generalize upd B2 d1 (.dK []) = B3 at u3 e3 g4 g5
    have u4 : SX [] B3 (upd B3 t2 (.tup [.ref d1])) := SX.new g4
    have e4 : (upd B3 t2 (.tup [.ref d1])) t2 = some (.tup [.ref d1]) := upd_same
    generalize upd B3 t2 (.tup [.ref d1]) = B4 at u4 e4 g5
    have u5 : SX [] B4 (upd B4 l2 (.lst [.ref t1, .ref t2])) := SX.new g5
    have e5 : (upd B4 l2 (.lst [.ref t1, .ref t2])) l2 = some (.lst [.ref t1, .ref t2]) := upd_same
    generalize upd B4 l2 (.lst [.ref t1, .ref t2]) = B5 at u5 e5
    have uA : SX [] H1 B5 := u1.trans (u2.trans (u3.trans (u4.trans u5)))
    have pA := p1.sx uA List.not_mem_nil
    have f : ∀ {a : Addr} {B : Hp}, SX [] H1 B → B a = none → a ≠ p := fun s h z => (p1.sx s List.not_mem_nil).there (z ▸ h)
    have at5 : ∀ {a : Addr} {o : HO}, a ≠ p → B5 a = some o → hid [p] B5 a = some o := fun n h => by rw [hid_of (by simpa using n)]; exact h
    have x1 := at5 (f (SX.refl _) g1) (u5 _ _ List.not_mem_nil (u4 _ _ List.not_mem_nil (u3 _ _ List.not_mem_nil (u2 _ _ List.not_mem_nil e1))))
    have x2 := at5 (f u1 g2) (u5 _ _ List.not_mem_nil (u4 _ _ List.not_mem_nil (u3 _ _ List.not_mem_nil e2)))
    have x3 := at5 (f (u1.trans u2) g3) (u5 _ _ List.not_mem_nil (u4 _ _ List.not_mem_nil e3))
    have x4 := at5 (f (u1.trans (u2.trans u3)) g4) (u5 _ _ List.not_mem_nil e4)
    walk_at "rd"
    rcases (by omega : ch = 10 ∨ ch = 11) with rfl | rfl
    · refine x_ixL (sqL e5) (v := .ref t1) (atI_nat (j := 0) rfl) ?_
      exact k _ _ _ (s1.trans (nil_sx uA)) pA (.tup x2 (.cons (.lst x1 (.cons (.str _) .nil)) .nil)) (bad_item List.mem_cons_self fun s z => nomatch z)
    · refine x_ixL (sqL e5) (v := .ref t2) (atI_nat (j := 1) rfl) ?_
      exact k _ _ _ (s1.trans (nil_sx uA)) pA (.tup x4 (.cons (.dic (.inl x3) .nil) .nil)) (bad_item List.mem_cons_self fun s z => nomatch z)
  walk_at "rd"
  have hrev : ∀ {B : Hp}, SX [] H1 B → (2 ≤ rest.length + 1) → ∀ q, B q = none → Q (.ref q) (upd B q (.tup (((k0 :: rest).map V.str).reverse))) := fun s l q hq => by
    refine fin (dv := .tuple (((k0 :: rest).reverse ++ []).map PyData.str)) s hq (fun n => .tup (self n) ?_) (bad_rev g (by rw [List.length_cons]; omega))
    rw [List.append_nil, ← List.map_reverse]
    exact DpDs.strs _
  have k0n : k0 ∈ sts.map (·.1) := (lkey k0).mp (g.2.2.1 k0 List.mem_cons_self)
  refine x_keep ?_ (fun R c2 => ?_)
  rotate_left
  · have c2 := of_decide_eq_true c2
    walk_at "rd"
    refine x_lenT' kn1 ?_
    walk_at "rd"
    rw [List.length_map]
    refine x_cases (fun c3 => ?_) (fun c3 => ?_)
    · have c3 := of_decide_eq_true c3
      walk_at "rd"
      refine x_revT ?_
      walk_at "rd"
      exact ⟨kn, _, rfl, kn1, fun q hq => hrev (SX.refl _) (by rw [List.length_cons] at c3; omega) q hq⟩
    · exact R
  walk_at "rd"
  refine x_cases (fun c5 => ?_) (fun c5 => ?_)
  · have c5 := of_decide_eq_true c5
    walk_at "rd"
    refine ⟨Nat.le_of_ble_eq_true rfl, fun t1 g1 => ?_⟩
    walk_at "rd"
    have u1 : SX [] H1 (upd H1 t1 (.tup [])) := SX.new g1
    have e1 : (upd H1 t1 (.tup [])) t1 = some (.tup []) := upd_same
    generalize upd H1 t1 (.tup []) = B1 at u1 e1
    refine x_clist2 (u1.le0.t kn1) fun l1 g2 => ?_
    have u2 : SX [] B1 (upd B1 l1 (.lst ((k0 :: rest).map V.str))) := SX.new g2
    have e2 : (upd B1 l1 (.lst ((k0 :: rest).map V.str))) l1 = some (.lst ((k0 :: rest).map V.str)) := upd_same
    generalize upd B1 l1 (.lst ((k0 :: rest).map V.str)) = B2 at u2 e2
    walk_at "rd"
    refine x_ixT ((u1.trans u2).le0.t kn1) a0 ?_
    walk_at "rd"
    refine ⟨Nat.le_of_ble_eq_true rfl, fun t2 g3 => ?_⟩
    have u3 : SX [] B2 (upd B2 t2 (.tup [.str k0])) := SX.new g3
    have e3 : (upd B2 t2 (.tup [.str k0])) t2 = some (.tup [.str k0]) := upd_same
    generalize upd B2 t2 (.tup [.str k0]) = B3 at u3 e3
    refine x_catTT ((u1.trans (u2.trans u3)).le0.t kn1) (sqT e3) (Nat.le_of_lt (lt_size (by rw [List.length_map]; simp only [List.length_cons, List.length_nil] at klen ⊢; omega))) (by simp) (by simp) fun t3 g4 => ?_
    have u4 : SX [] B3 (upd B3 t3 (.tup ((k0 :: rest).map V.str ++ [.str k0]))) := SX.new g4
    have e4 : (upd B3 t3 (.tup ((k0 :: rest).map V.str ++ [.str k0]))) t3 = some (.tup (((k0 :: rest) ++ [k0]).map V.str)) := by rw [upd_same, List.map_append]; rfl
    generalize upd B3 t3 (.tup ((k0 :: rest).map V.str ++ [.str k0])) = B4 at u4 e4
    walk_at "rd"
    refine ⟨Nat.le_of_ble_eq_true rfl, fun t4 g5 => ?_⟩
    have u5 : SX [] B4 (upd B4 t4 (.tup [.non])) := SX.new g5
    have e5 : (upd B4 t4 (.tup [.non])) t4 = some (.tup [.non]) := upd_same
    generalize upd B4 t4 (.tup [.non]) = B5 at u5 e5
    walk_at "rd"
    refine ⟨Nat.le_of_ble_eq_true rfl, fun l2 g6 => ?_⟩
    let L : List V := [.ref t1, .non, .ref l1, .ref t3, .ref t4]
    have u6 : SX [] B5 (upd B5 l2 (.lst L)) := SX.new g6
    have e6 : (upd B5 l2 (.lst L)) l2 = some (.lst L) := upd_same
    change tVar _ _ (upd B5 l2 (.lst L)) _
    generalize upd B5 l2 (.lst L) = B6 at u6 e6
    have uA : SX [] H1 B6 := u1.trans (u2.trans (u3.trans (u4.trans (u5.trans u6))))
    have pA := p1.sx uA List.not_mem_nil
    have f : ∀ {a : Addr} {B : Hp}, SX [] H1 B → B a = none → a ≠ p := fun s h z => (p1.sx s List.not_mem_nil).there (z ▸ h)
    have at6 : ∀ {a : Addr} {o : HO}, a ≠ p → B6 a = some o → hid [p] B6 a = some o := fun n h => by rw [hid_of (by simpa using n)]; exact h
    have x1 := at6 (f (SX.refl _) g1) (u6 _ _ List.not_mem_nil (u5 _ _ List.not_mem_nil (u4 _ _ List.not_mem_nil (u3 _ _ List.not_mem_nil (u2 _ _ List.not_mem_nil e1)))))
    have x2 := at6 (f u1 g2) (u6 _ _ List.not_mem_nil (u5 _ _ List.not_mem_nil (u4 _ _ List.not_mem_nil (u3 _ _ List.not_mem_nil e2))))
    have x4 := at6 (f (u1.trans (u2.trans u3)) g4) (u6 _ _ List.not_mem_nil (u5 _ _ List.not_mem_nil e4))
    have x5 := at6 (f (u1.trans (u2.trans (u3.trans u4))) g5) (u6 _ _ List.not_mem_nil e5)
    walk_at "rd"
    have sA := s1.trans (nil_sx uA)
    rcases (by omega : ch = 0 ∨ ch = 1 ∨ ch = 2 ∨ ch = 3 ∨ ch = 4) with rfl | rfl | rfl | rfl | rfl
    · refine x_ixL (sqL e6) (v := .ref t1) (atI_nat (j := 0) rfl) ?_
      exact k _ _ _ sA pA (.tup x1 .nil) fun ⟨kn1, e, g1⟩ => g1.1 (strs_map_inj (a := []) e).symm
    · refine x_ixL (sqL e6) (v := .non) (atI_nat (j := 1) rfl) ?_
      exact k _ _ _ sA pA .non fun ⟨kn1, e, g1⟩ => nomatch e
    · refine x_ixL (sqL e6) (v := .ref l1) (atI_nat (j := 2) rfl) ?_
      exact k _ _ _ sA pA (.lst x2 (DpDs.strs _)) fun ⟨kn1, e, g1⟩ => nomatch e
    · refine x_ixL (sqL e6) (v := .ref t3) (atI_nat (j := 3) rfl) ?_
      exact k _ _ _ sA pA (.tup x4 (DpDs.strs _)) bad_again
    · refine x_ixL (sqL e6) (v := .ref t4) (atI_nat (j := 4) rfl) ?_
      exact k _ _ _ sA pA (.tup x5 (.cons .non .nil)) (bad_item List.mem_cons_self fun s z => nomatch z)
  walk_at "rd"
  have nzk : ("zz" : Str) ∉ looks.map (·.1) := fun m => nzz _ ((lkey _).mp m) rfl
  refine x_cases (fun c6 => ?_) (fun c6 => ?_)
  · walk_at "rd"
    refine ⟨Nat.le_of_ble_eq_true rfl, fun t1 g1 => ?_⟩
    exact fin (dv := .tuple ([("zz" : Str)].map PyData.str)) (SX.refl _) g1 (fun n => .tup (self n) (.cons (.str _) .nil)) (bad_mem List.mem_cons_self nzk)
  walk_at "rd"
  refine x_sortD (s1.leH.rd _ _ trivial hrd) hk.keys fun ys py hpy hsy np => ?_
  have s2 : SX [] H1 (upd H1 py (.lst (ys.map V.str))) := SX.new np
  have y2 : (upd H1 py (.lst (ys.map V.str))) py = some (.lst (ys.map V.str)) := upd_same
  generalize upd H1 py (.lst (ys.map V.str)) = H2 at s2 y2
  walk_at "rd"
  refine x_itl (sqL y2) ?_
  refine for_it (walk_listR (R := rS) (Hb := H) (paired_S' ys)) (fun i σ A => A = H2 ∧ ∃ c, σ = [some (.ref p), some (.ref d), some (.ref lk), some (.ref kn), some (.int ch), c]) ⟨rfl, none, rfl⟩ (fun i σ A _ h => by rw [h.1]; exact sqL y2) ?_ ?_
  · rintro i z σ A0 A hi ⟨rfl, c, rfl⟩ ⟨rfl, s, hs, rfl⟩
    have ms := hpy.mem_iff.mp (getMem hs)
    have rl2 : Rd A lk (.dK kvl) := s2.le0.rd _ _ trivial (s1.leH.rd _ _ trivial rl)
    have kn2 := s2.le0.t kn1
    walk_at "rd"
    refine x_dg' rl2 (lat s ms) ?_
    walk_at "rd"
    refine x_ixT kn2 a0 ?_
    refine x_dg' rl2 (lat k0 k0n) ?_
    walk_at "rd"
    refine x_cases (fun c7 => ?_) (fun c7 => ?_)
    · have nl : lookOf looks s ≠ lookOf looks k0 := fun z => by
        rw [z] at c7
        simp at c7
      walk_at "rd"
      refine x_ixT kn2 a0 ?_
      walk_at "rd"
      refine ⟨Nat.le_of_ble_eq_true rfl, fun l1 g1 => ?_⟩
      have u1 : SX [] A (upd A l1 (.lst [.str s, .str k0])) := SX.new g1
      have e1 : (upd A l1 (.lst [.str s, .str k0])) l1 = some (.lst ([s, k0].map V.str)) := upd_same
      generalize upd A l1 (.lst [.str s, .str k0]) = B at u1 e1
      walk_at "rd"
      refine x_sortL (ks := [s, k0]) (sqL e1) fun zs l2 pz _ g2 => ?_
      have u2 : SX [] B (upd B l2 (.lst (zs.map V.str))) := SX.new g2
      walk_at "rd"
      refine x_ctup (sqL upd_same) fun t1 g3 => ?_
      exact fin (s2.trans (u1.trans u2)) g3 (fun n => .tup (self n) (DpDs.strs _)) (bad_two pz nl)
    · walk_at "rd"
      exact ⟨rfl, _, rfl⟩
  · rintro σ A ⟨rfl, c, rfl⟩
    walk_at "rd"
    refine x_revT ?_
    walk_at "rd"
    refine ⟨kn, _, rfl, s2.le0.t kn1, fun q hq => ?_⟩
    have u1 : SX [] A (upd A q (.tup ((k0 :: rest).map V.str).reverse)) := SX.new hq
    walk_at "rd"
    refine ⟨Nat.le_of_ble_eq_true rfl, fun t1 g1 => ?_⟩
    have u2 : SX [] (upd A q (.tup ((k0 :: rest).map V.str).reverse)) (upd (upd A q (.tup ((k0 :: rest).map V.str).reverse)) t1 (.tup [.str "zz"])) := SX.new g1
    refine x_catTT (sqT (u2 _ _ List.not_mem_nil upd_same)) (sqT upd_same) (Nat.le_of_lt (lt_size (by rw [List.length_reverse, List.length_map]; simp only [List.length_cons, List.length_nil] at klen ⊢; omega))) (by simp) (by simp) fun t3 g4 => ?_
    refine fin (dv := .tuple (((k0 :: rest).reverse ++ [("zz" : Str)]).map PyData.str)) (s2.trans (u1.trans u2)) g4 (fun n => .tup (self n) ?_) (bad_mem (List.mem_append_right _ List.mem_cons_self) nzk)
    rw [List.map_append, ← List.map_reverse]
    exact (DpDs.strs (k0 :: rest).reverse).app (.cons (.str _) .nil)
end
end M

namespace M
open PySem PySem.Spec PyProof.Rows L2
section
variable {K : PySem.W.Frag} {H : Hp} {S : List Addr} {p : Addr} {ys : List V}
theorem rd_hidP (hp : H p = some (.lst ys)) {a : Addr} {o : HO} (ne : ∀ zs, o ≠ .lst zs) (h : Rd (hid S H) a o) : Rd (hid (p :: S) H) a o := by
  have key : ∀ u, hid S H a = some u → (∀ zs, u ≠ .lst zs) → hid (p :: S) H a = some u := fun u e nu => by
    obtain ⟨nS, eH⟩ := hid_at e
    have n : a ≠ p := fun z => by rw [z, hp] at eH; exact nu ys (Option.some.inj eH).symm
    rw [hid_of (by simpa using ⟨n, nS⟩)]
    exact eH
  rcases h with h | ⟨u, h⟩
  · exact .inl (key _ h ne)
  · exact .inr ⟨u, key _ h fun zs z => nomatch z⟩
theorem sqT_hidP (hp : H p = some (.lst ys)) {a : Addr} {xs : List V} (h : SqT K (hid S H) a xs) : SqT K (hid (p :: S) H) a xs := h.imp (fun h => rd_hidP hp (fun _ z => nomatch z) h) id
theorem rStand_hidP (hp : H p = some (.lst ys)) {v : V} {st : Stand} (h : rStand K (hid S H) v st) : rStand K (hid (p :: S) H) v st := by
  cases st with
  | fin =>
    obtain ⟨t, e, ht⟩ := h
    exact ⟨t, e, sqT_hidP hp ht⟩
  | hand a ms =>
    obtain ⟨t, d, e, ht, m, kvs, e2, hd, hk⟩ := h
    exact ⟨t, d, e, sqT_hidP hp ht, m, kvs, e2, rd_hidP hp (fun _ z => nomatch z) hd, kvs_imp (fun v _ a h => h) hk⟩
  | chance ds =>
    obtain ⟨t, d, e, ht, m, kvs, e2, hd, hk⟩ := h
    exact ⟨t, d, e, sqT_hidP hp ht, m, kvs, e2, rd_hidP hp (fun _ z => nomatch z) hd, kvs_imp (fun v _ a ⟨t2, z1, z2, e3, h3, h4, h5⟩ => ⟨t2, z1, z2, e3, sqT_hidP hp h3, h4, h5⟩) hk⟩
end
end M

namespace M
open PySem PySem.Spec PyProof.Rows L2 ReR
/-- small data -/
def itmOk (d : PyData) : Bool := d.showable && decide (d.depth ≤ 1) && d.leavesShort 40 && decide (d.bulk ≤ 50)
theorem nameB_itm {s : Str} (h : nameB s = true) : itmOk (.str s) = true := by
  unfold nameB nameL at h
  simp only [Bool.and_eq_true, List.all_eq_true] at h
  have e1 : (s.cps.toList.all fun c => decide (c < 16 ^ 8)) = true := List.all_eq_true.mpr fun c hc => decide_eq_true (by
    have := h.2 c hc
    simp [lowB, digB] at this
    omega)
  have e2 : s.cps.size ≤ 50 := by
    have := h.1
    simp at this
    omega
  have e3 : itmOk (.str s) = (true && decide (0 ≤ 1) && (s.cps.toList.all fun c => decide (c < 16 ^ 8)) && decide (s.cps.size ≤ 50)) := by
    simp only [itmOk, PyData.showable, PyData.depth, PyData.leavesShort, PyData.bulk]
    rfl
  rw [e3, e1, decide_eq_true e2]
  rfl
theorem itm_parts {d : PyData} (h : itmOk d = true) : d.showable = true ∧ d.depth ≤ 1 ∧ d.leavesShort 40 = true ∧ d.bulk ≤ 50 := by
  unfold itmOk at h
  simp only [Bool.and_eq_true, decide_eq_true_eq] at h
  exact ⟨h.1.1.1, h.1.1.2, h.1.2, h.2⟩
theorem all_itm : ∀ {ds : List PyData}, (∀ d ∈ ds, itmOk d = true) → PyData.showableAll ds = true ∧ PyData.depthAll ds ≤ 1 ∧ PyData.leavesShortAll 40 ds = true ∧ PyData.bulkAll ds ≤ 51 * ds.length
  | [], _ => ⟨rfl, Nat.zero_le _, rfl, Nat.le_refl _⟩
  | d :: ds, h => by
    obtain ⟨a, b, c, e⟩ := itm_parts (h d List.mem_cons_self)
    obtain ⟨a', b', c', e'⟩ := all_itm (ds := ds) fun x hx => h x (List.mem_cons_of_mem _ hx)
    simp only [PyData.showableAll, PyData.depthAll, PyData.leavesShortAll, PyData.bulkAll, List.length_cons, a, a', c, c']
    exact ⟨rfl, Nat.max_le.mpr ⟨b, b'⟩, rfl, by omega⟩
theorem itm_short {d : PyData} (h : itmOk d = true) : ShortD d := fun s e => by
  subst e
  have := (itm_parts h).2.2.2
  simp only [PyData.bulk] at this
  have e : s.length = s.cps.size := by simp [Str.length]
  omega
def EntOk (q : PyData × PyData) : Prop := itmOk q.1 = true ∧ itmOk q.2 = true
theorem all_ent : ∀ {ds : List (PyData × PyData)}, (∀ q ∈ ds, EntOk q) → PyData.showableKv ds = true ∧ PyData.depthKv ds ≤ 1 ∧ PyData.leavesShortKv 40 ds = true ∧ PyData.bulkKv ds ≤ 102 * ds.length
  | [], _ => ⟨rfl, Nat.zero_le _, rfl, Nat.le_refl _⟩
  | (k, v) :: ds, h => by
    obtain ⟨h1, h2⟩ := h (k, v) List.mem_cons_self
    change itmOk k = true at h1
    change itmOk v = true at h2
    obtain ⟨a, b, c, e⟩ := itm_parts h1
    obtain ⟨a2, b2, c2, e2⟩ := itm_parts h2
    obtain ⟨a', b', c', e'⟩ := all_ent (ds := ds) fun x hx => h x (List.mem_cons_of_mem _ hx)
    simp only [PyData.showableKv, PyData.depthKv, PyData.leavesShortKv, PyData.bulkKv, List.length_cons, a, a', c, c', a2, c2]
    exact ⟨rfl, by omega, rfl, by omega⟩
theorem kv_okD {ds : List (PyData × PyData)} (h : ∀ q ∈ ds, EntOk q) (l : ds.length ≤ 300) : okD (.dict ds) := by
  obtain ⟨a, b, c, e⟩ := all_ent h
  exact ⟨by simpa only [PyData.showable] using a, by simp only [PyData.depth]; omega, by simpa only [PyData.leavesShort] using c, by simp only [PyData.bulk]; omega⟩
theorem lst_okD {ds : List PyData} (h : ∀ d ∈ ds, itmOk d = true) (l : ds.length ≤ 300) : okD (.list ds) := by
  obtain ⟨a, b, c, e⟩ := all_itm h
  exact ⟨by simpa only [PyData.showable] using a, by simp only [PyData.depth]; omega, by simpa only [PyData.leavesShort] using c, by simp only [PyData.bulk]; omega⟩
theorem itm_okD {d : PyData} (h : itmOk d = true) : okD d := by
  obtain ⟨a, b, c, e⟩ := itm_parts h
  exact ⟨a, by omega, c, by omega⟩
/-- an entry whose key and value are small data -/
def EntV (H : Hp) (x : NestedKey × V × V) : Prop := ∃ q : PyData × PyData, (DpD H x.2.1 q.1 ∧ DpD H x.2.2 q.2) ∧ EntOk q
theorem dpp_of {H : Hp} : ∀ {kvs : KVN}, (∀ x ∈ kvs, EntV H x) → ∃ ds, DpP H kvs ds ∧ (∀ q ∈ ds, EntOk q) ∧ ds.length = kvs.length
  | [], _ => ⟨[], .nil, (fun _ h => nomatch h), rfl⟩
  | x :: kvs, h => by
    obtain ⟨q, h1, h2⟩ := h x List.mem_cons_self
    obtain ⟨ds, a, b, c⟩ := dpp_of (kvs := kvs) fun y hy => h y (List.mem_cons_of_mem _ hy)
    refine ⟨q :: ds, .cons h1 a, fun y hy => ?_, by rw [List.length_cons, List.length_cons, c]⟩
    rcases List.mem_cons.mp hy with rfl | hy
    · exact h2
    · exact b y hy
theorem thg_of {P : Program} {w : World} {H : Hp} {a : Addr} {kvs : KVN} (g : AnyD P w H a kvs) (h : ∀ x ∈ kvs, EntV H x) (l : kvs.length ≤ 300) : ∃ d o, Thg P w H (.ref a) d o ∧ ShortO d ∧ okD d := by
  obtain ⟨ds, h1, h2, h3⟩ := dpp_of h
  exact ⟨_, _, .dic g h1, (fun ds' e q hq => by cases e; exact itm_short (h2 q hq).2), kv_okD h2 (by omega)⟩
theorem put_ent {H : Hp} {kvs : KVN} {k : NestedKey} {y v : V} (h : ∀ x ∈ kvs, EntV H x) {dk dv : PyData} (hk : DpD H y dk) (hv : DpD H v dv) (ok : itmOk dk = true) (ov : itmOk dv = true) : ∀ x ∈ NK.putN kvs k y v, EntV H x := by
  intro x hx
  unfold NK.putN at hx
  split at hx
  · obtain ⟨z, hz, rfl⟩ := List.mem_map.mp hx
    obtain ⟨q, h1, h2⟩ := h z hz
    split
    · exact ⟨(q.1, dv), ⟨h1.1, hv⟩, h2.1, ov⟩
    · exact ⟨q, h1, h2⟩
  · rcases List.mem_append.mp hx with hx | hx
    · exact h x hx
    · cases List.mem_singleton.mp hx
      exact ⟨(dk, dv), ⟨hk, hv⟩, ok, ov⟩
theorem lift_ent {A H : Hp} {kv : List (Key × V)} {looks : List (Str × Str)} (h : KVs rS A kv looks) (nm : ∀ q ∈ looks, nameB q.1 = true ∧ nameB q.2 = true) : ∀ x ∈ liftK kv, EntV H x := by
  intro x hx
  obtain ⟨z, hz, rfl⟩ := List.mem_map.mp hx
  obtain ⟨i, hi⟩ := List.mem_iff_getElem?.mp hz
  obtain ⟨q, hq, e1, e2⟩ := Paired.getL h hi
  obtain ⟨n1, n2⟩ := nm q (getMem hq)
  have e2 : z.2 = .str q.2 := e2
  refine ⟨(.str q.1, .str q.2), ⟨?_, ?_⟩, nameB_itm n1, nameB_itm n2⟩
  · show DpD H (kV z.1) _
    rw [e1]
    exact .str _
  · show DpD H z.2 _
    rw [e2]
    exact .str _
theorem ent_ext {A B : Hp} (e : ExtR A B) {kvs : KVN} (h : ∀ x ∈ kvs, EntV A x) : ∀ x ∈ kvs, EntV B x := fun x hx => by
  obtain ⟨q, h1, h2⟩ := h x hx
  exact ⟨q, ⟨h1.1.monoR e, h1.2.monoR e⟩, h2⟩
end M

namespace M
open PySem PySem.Spec PyProof.Rows L2 ReR
/-- what is due, by what was spoiled -/
def dueA (b0 b1 b2 b3 : Bool) (l : List Str) : Ans := if b0 = true then .looks else if b1 = true then .know else if b2 = true then .step else if b3 = true then .look else .told l
theorem after_nm {ns : List Int} {sts : List (Str × Stand)} (CS : Closed sts) {look : Str → Str} {kn0 : List Str} {mv : Option Str} {l : Str} (km : ∀ s ∈ kn0, s ∈ sts.map (·.1)) : ∀ g ∈ (lookA (afterL (grOf ns sts) look kn0 mv) l).getD [], g ∈ sts.map (·.1) := by
  cases e : lookA (afterL (grOf ns sts) look kn0 mv) l with
  | none => exact fun g h => nomatch h
  | some r =>
    intro g hg
    obtain ⟨h1, _⟩ := (after_each (lookA_mem e)).2.2 g hg
    unfold goals goalsAt at h1
    obtain ⟨s, hs, h2⟩ := List.mem_flatMap.mp h1
    obtain ⟨z, hz, rfl⟩ := List.mem_map.mp h2
    have hz := (List.mem_filter.mp hz).1
    obtain ⟨st, est⟩ := lookA_some (km s hs)
    rw [gr_steps est] at hz
    obtain ⟨t, et⟩ := lookA_some (srtL_mem.mp hz)
    rw [gr_to est, et]
    exact (CS.all _ (lookA_mem est)).2.2 t (by rw [← rows_tos]; exact List.mem_map.mpr ⟨(z, t), lookA_mem et, rfl⟩)
theorem lay_strs : ∀ {l : List Str}, (∀ s ∈ l, nameB s = true) → PyData.canLayAll0 (l.map PyData.str) = true ∧ PyData.depthAll (l.map PyData.str) = 0
  | [], _ => ⟨by rw [List.map_nil, PyData.canLayAll0], by rw [List.map_nil, PyData.depthAll]⟩
  | s :: l, h => by
    obtain ⟨a, b⟩ := lay_strs (l := l) fun x hx => h x (List.mem_cons_of_mem _ hx)
    rw [List.map_cons, PyData.canLayAll0, PyData.depthAll, a, b, PyData.canLay0, PyData.depth]
    exact ⟨by rw [nameB_strOk (h s List.mem_cons_self)]; rfl, rfl⟩
theorem ans_shaped {l : List Str} (h : ∀ s ∈ l, nameB s = true) (b0 b1 b2 b3 : Bool) : SeqAt.shaped (ansD (dueA b0 b1 b2 b3 l)) = true := by
  have tl : SeqAt.shaped (ansD (.told l)) = true := by
    obtain ⟨a, b⟩ := lay_strs h
    unfold SeqAt.shaped ansD
    rw [Bool.and_eq_true]
    refine ⟨?_, decide_eq_true ?_⟩
    · simp only [PyData.canLay0, PyData.canLayAll0, a, Bool.and_true]
      decide +kernel
    · simp only [PyData.depth, PyData.depthAll, b]
      decide
  unfold dueA
  split
  · exact (by decide +kernel : SeqAt.shaped (ansD .looks) = true)
  split
  · exact (by decide +kernel : SeqAt.shaped (ansD .know) = true)
  split
  · exact (by decide +kernel : SeqAt.shaped (ansD .step) = true)
  split
  · exact (by decide +kernel : SeqAt.shaped (ansD .look) = true)
  exact tl
theorem fit_srt {ns : List Int} {st st' : Stand} (ss : SrtStand st st') {mv : Option Str} : MvFit ns st' mv ↔ MvFit ns st mv := by
  unfold MvFit
  rw [srt_mover ss]
  have : ∀ m, m ∈ st'.rows.map (·.1) ↔ m ∈ st.rows.map (·.1) := fun m => (ss.rowsPerm.map _).mem_iff
  split
  · simp only [this]
  · rfl
/-- odd looks -/
def OddL (P : Program) (w : World) (B : Hp) (ns : List Int) (sts : List (Str × Stand)) (v : V) : Prop := ∃ d o, Thg P w B v d o ∧ ShortO d ∧ ¬ ∃ kvs, o = some kvs ∧ Right ns sts kvs
theorem dpk_looks {A H : Hp} : ∀ {kv : List (Key × V)} {looks : List (Str × Str)}, KVs rS A kv looks → DpDk H kv (looks.map fun q => (PyData.str q.1, PyData.str q.2))
  | [], [], .nil => .nil
  | (k, v) :: kv, (a, b) :: looks, .cons ⟨h1, h2⟩ r => by
    have h1 : k = Sum.inr a := h1
    have h2 : v = .str b := h2
    subst h1 h2
    exact .cons (.str b) (dpk_looks r)
theorem looks_okD {looks : List (Str × Str)} (h : ∀ q ∈ looks, nameB q.1 = true ∧ nameB q.2 = true) (l : looks.length ≤ 300) : okD (.dict (looks.map fun q => (PyData.str q.1, PyData.str q.2))) :=
  kv_okD (fun q hq => by
    obtain ⟨z, hz, rfl⟩ := List.mem_map.mp hq
    exact ⟨nameB_itm (h z hz).1, nameB_itm (h z hz).2⟩) (by rw [List.length_map]; exact l)
section
variable {P : Program} [SupX.PX P] {w : World} {K : PySem.W.Frag} {mg : Str → Option Value} {base : Heap}
theorem aft_due {T : Tx K mg} {B : Hp} {x lt lk : Addr} {vo vn vm vl : V} {hands : Int} {n0 l : Str} {sts tbl : List (Str × Stand)} {ns : List Int} {looks : List (Str × Str)} {ks : List Str} {st : Stand} {mv : Option Str} {b0 b1 b2 b3 : Bool}
    (wa : WorkAt T B x hands n0 tbl) (ht : SqT K B lt (ns.map V.int)) (tbT : Tbl sts tbl) (ok : WorkOk hands n0 sts) (lks : LooksOk ns sts looks) (hms : lookA sts (hd ks) = some st) (gK : GoodK (lookOf looks) (looks.map (·.1)) ks) (kl8 : ks.length ≤ 8) (fit : MvFit ns st mv) (nlb : nameB l = true)
    (h0 : if b0 = true then OddL P w B ns sts vo else vo = .ref lk ∧ rD rS B (.ref lk) looks) (h1 : if b1 = true then ∃ dn, DpD B vn dn ∧ ¬ GoodD looks dn else DpD B vn (.tuple (ks.map PyData.str)))
    (h2 : if b2 = true then OddM ns st B vm else vm = mvV mv) (h3 : if b3 = true then ∃ dl, DpD B vl dl ∧ ShortD dl ∧ nameD dl = false else vl = .str l) :
    AftOk P w T B x lt vo vn vm vl hands n0 tbl ns (dueA b0 b1 b2 b3 ((lookA (afterL (grOf ns sts) (lookOf looks) ks mv) l).getD [])) := by
  have tnd : (tbl.map (·.1)).Nodup := tbT.perm.nodup_iff.mpr ok.nd
  have tlen : tbl.length ≤ 100 := by have := tbT.perm.length_eq; rw [List.length_map, List.length_map] at this; have := ok.len.2; omega
  have rn : RowNm tbl := ok.rowNm.tbl tbT
  obtain ⟨dn, hn⟩ : ∃ dn, DpD B vn dn ∧ if b1 = true then ¬ GoodD looks dn else dn = .tuple (ks.map PyData.str) := by
    cases b1 with
    | true => obtain ⟨dn, a, b⟩ := h1; exact ⟨dn, a, b⟩
    | false => exact ⟨_, h1, rfl⟩
  obtain ⟨dm, hm⟩ : ∃ dm, DpD B vm dm := by
    cases b2 with
    | true => obtain ⟨dm, a, _⟩ := h2; exact ⟨dm, a⟩
    | false =>
      have h2 : vm = mvV mv := h2
      subst h2
      cases mv with
      | none => exact ⟨_, .non⟩
      | some m => exact ⟨_, .str m⟩
  obtain ⟨dl, hl, shl, hl2⟩ : ∃ dl, DpD B vl dl ∧ ShortD dl ∧ if b3 = true then nameD dl = false else dl = .str l := by
    cases b3 with
    | true => obtain ⟨dl, a, b, c⟩ := h3; exact ⟨dl, a, b, c⟩
    | false =>
      have h3 : vl = .str l := h3
      subst h3
      exact ⟨_, .str l, (fun s e => by
        injection e with e
        subst e
        have := nameB_size8 nlb
        omega), rfl⟩
  refine ⟨dn, dm, dl, wa, TbOk.of ok tbT, ht, tnd, tlen, rn, hn.1, hm, hl, shl, ?_⟩
  cases b0 with
  | true =>
    obtain ⟨d, o, tg, sho, nr⟩ := h0
    exact .inl ⟨rfl, d, o, tg, sho, fun ⟨kvs, e, r⟩ => nr ⟨kvs, e, (Right.tbl tbT).mpr r⟩⟩
  | false =>
    obtain ⟨rfl, hlk⟩ := h0
    refine .inr ⟨lk, looks, rfl, hlk, lks.tbl ok tbT, ?_⟩
    cases b1 with
    | true => exact .inl ⟨rfl, hn.2⟩
    | false =>
      obtain ⟨st', est', ss⟩ := tbT.on _ _ hms
      refine .inr ⟨ks, st', hn.2, by omega, gK, est', ?_⟩
      cases b2 with
      | true =>
        obtain ⟨_, _, _, nf⟩ := h2
        exact .inl ⟨rfl, fun ⟨mv, e, f⟩ => nf ⟨mv, e, (fit_srt ss).mp f⟩⟩
      | false =>
        refine .inr ⟨mv, h2, (fit_srt ss).mpr fit, ?_⟩
        cases b3 with
        | true => exact .inl ⟨rfl, hl2⟩
        | false => exact .inr ⟨l, hl2, nlb, by rw [gr_tbl ns ok tbT]; rfl⟩
end
end M

namespace M
open PySem PySem.Spec PyProof.Rows L2 ReR
theorem x_joinS {c : Bool} {A : Prop} {R : L2.St → Hp → Prop} {σ : L2.St} {B : Hp} (J : L2.St → Hp → Prop) (hA : c = true → (∀ σ' B', J σ' B' → R σ' B') → A) (hB : c = false → J σ B) (hR : ∀ σ' B', J σ' B' → R σ' B') : if c = true then A else R σ B := by
  cases c with
  | true => rw [if_pos rfl]; exact hA rfl hR
  | false => rw [if_neg Bool.false_ne_true]; exact hR _ _ (hB rfl)
theorem work_hidP {K : PySem.W.Frag} {mg : Str → Option Value} {T : Tx K mg} {H : Hp} {p : Addr} {ys : List V} {x : Addr} {hands : Int} {start : Str} {tbl : List (Str × Stand)} (hp : H p = some (.lst ys)) (h : WorkAt T H x hands start tbl) : WorkAt T (hid [p] H) x hands start tbl := by
  obtain ⟨dx, d, nm, en, h1, ⟨d', kvs, e, h2, hk⟩, h3, h4⟩ := h.ex
  have hidE : hid [] H = H := by
    funext b
    exact hid_of List.not_mem_nil
  have nx : x ∉ [p] := fun m => by
    rw [List.mem_singleton.mp m, hp] at h1
    cases h1
  refine ⟨dx, d, nm, en, by rw [hid_of nx]; exact h1, ⟨d', kvs, e, rd_hidP (S := []) hp (fun _ z => nomatch z) (by rw [hidE]; exact h2), kvs_imp (fun v _ a h => rStand_hidP (S := []) hp (by rw [hidE]; exact h)) hk⟩, sqT_hidP (S := []) hp (by rw [hidE]; exact h3), sqT_hidP (S := []) hp (by rw [hidE]; exact h4)⟩
theorem stands_hidP {K : PySem.W.Frag} {H : Hp} {p : Addr} {ys : List V} {d : Addr} {sts : List (Str × Stand)} (hp : H p = some (.lst ys)) (h : rD (rStand K) H (.ref d) sts) : rD (rStand K) (hid [p] H) (.ref d) sts := by
  obtain ⟨d', kvs, e, h2, hk⟩ := h
  have hidE : hid [] H = H := by
    funext b
    exact hid_of List.not_mem_nil
  exact ⟨d', kvs, e, rd_hidP (S := []) hp (fun _ z => nomatch z) (by rw [hidE]; exact h2), kvs_imp (fun v _ a h => rStand_hidP (S := []) hp (by rw [hidE]; exact h)) hk⟩
theorem le_intoS {S : List Addr} {A B : Hp} (l : Le A B) (h : ∀ b ∈ S, A b = none) : Le A (hid S B) := by
  have e : ∀ {b u}, A b = some u → b ∉ S := fun q m => by rw [h _ m] at q; cases q
  refine ⟨fun b v p q => ?_, fun b C dx fs q => ?_, fun b xs q => ?_⟩
  · have n : b ∉ S := q.elim (fun q => e q) fun ⟨u, q⟩ => e q
    have := l.rd b v p q
    unfold Rd at this ⊢
    rw [hid_of n]
    exact this
  · rw [hid_of (e q)]
    exact l.ins b C dx fs q
  · rw [hid_of (e q)]
    exact l.tup b xs q
theorem rows_nmB {h : Int} {ns : List Str} {st : Stand} (o : StandOk h ns st) {s : Str} (m : s ∈ st.rows.map (·.1)) : nameB s = true := by
  cases st with
  | fin => cases m
  | hand a b =>
    obtain ⟨z, hz, rfl⟩ := List.mem_map.mp m
    exact (o.2.2.2.2.2 z hz).1
  | chance b =>
    change s ∈ (b.map _).map _ at m
    rw [List.map_map] at m
    obtain ⟨z, hz, rfl⟩ := List.mem_map.mp m
    exact (o.2.2.2 z hz).1
theorem map_eraseS {α β : Type} (f : α → β) : ∀ (l : List α) (i : Nat), (l.map f).eraseIdx i = (l.eraseIdx i).map f
  | [], _ => rfl
  | _ :: _, 0 => rfl
  | a :: l, i + 1 => congrArg (f a :: ·) (map_eraseS f l i)
theorem seqIx {j n : Nat} (h : j < n) : seqIndex? (j : Int) n = some j := by
  unfold seqIndex?
  have h1 : ¬ ((j : Int) < 0) := by omega
  have h2 : (decide ((0 : Int) ≤ (j : Int)) && decide ((j : Int) < (n : Int))) = true := by
    rw [decide_eq_true (by omega), decide_eq_true (by omega)]
    rfl
  simp only [h1, if_false]
  rw [if_pos h2]
  rfl
theorem x_and2 {c1 c2 : Bool} {A B R : Prop} (h : c1 = true → (if c2 = true then A else B) → R) (q : if (c1 && c2) = true then A else B) : if c1 = true then R else (if false = true then A else B) := by
  cases c1 with
  | true => rw [if_pos rfl]; exact h rfl q
  | false => exact q
theorem x_and3 {c1 c2 c3 : Bool} {A B R : Prop} (h : c1 = true → (if (c2 && c3) = true then A else B) → R) (q : if (c1 && (c2 && c3)) = true then A else B) : if c1 = true then R else (if false = true then A else B) := by
  cases c1 with
  | true => rw [if_pos rfl]; exact h rfl q
  | false => exact q
def oddLs (l1 : Addr) : List V := [.str "", .str "9a", .non, .int 5, .str "abcdefghi", .ref l1]
theorem oddLs_data {A : Hp} {l1 : Addr} {v : V} (h : v ∈ oddLs l1) (e : A l1 = some (.lst [.str "a"])) : ∃ dv, DpD A v dv ∧ ShortD dv ∧ nameD dv = false := by
  have sh : ∀ (z : Str) (n : Nat), z.length ≤ n → n ≤ 10000 → ShortD (.str z) := fun z n a b s q => by
    injection q with q
    subst q
    omega
  simp only [oddLs, List.mem_cons, List.not_mem_nil, or_false] at h
  rcases h with rfl | rfl | rfl | rfl | rfl | rfl
  · exact ⟨_, .str _, sh _ 2 (Nat.le_of_ble_eq_true rfl) (by decide), by decide +kernel⟩
  · exact ⟨_, .str _, sh _ 2 (Nat.le_of_ble_eq_true rfl) (by decide), by decide +kernel⟩
  · exact ⟨_, .non, (fun s q => nomatch q), rfl⟩
  · exact ⟨_, .int _, (fun s q => nomatch q), rfl⟩
  · exact ⟨_, .str _, sh _ 9 (Nat.le_of_ble_eq_true rfl) (by decide), by decide +kernel⟩
  · exact ⟨_, .lst e (.cons (.str _) .nil), (fun s q => nomatch q), rfl⟩
theorem look3 : ∀ l ∈ (["z", "abcdefgh", "q0q0"] : List Str), nameB l = true := by decide +kernel
section
variable {P : Program} [SupX.PX P] {w : World} {K : PySem.W.Frag} {mg : Str → Option Value} {base : Heap}
def sp_law (T : Tx K mg) : Sp := fun vs H Q _ => ∃ (a : Addr) (ns : List Int), vs = [.ref a] ∧ SqL K H a (ns.map V.int) ∧ ns.length ≤ 10000 ∧ ∀ H', Q (.bl true) H'
theorem ok_law (T : Tx K mg) (hsy : ReR.SysIs base) : ReR.FnG P w K mg base CX0 7 T.law.f T.law.fd P_law (sp_law T) := by
  refine T.law.F.okG sc_law (fun vs H Q E h => ?_) (fun cdv A outer s H vs Q E hr hg h => ?_)
  · obtain ⟨a, ns0, rfl, ha, hlen, k⟩ := h
    rfl
  have hu := hu_of hr
  have nd := sc_law.nd
  obtain ⟨a, ns0, rfl, ha, hlen, k⟩ := h
  refine ⟨_, (pss_cons (ps_set (i := 1) nd rfl (Or.inr rfl) (pe_call (ok_law_open (P := P) (w := w) T) (hr.mono (by decide)) (by rfl) T.law_open.g T.law_open.F.kp T.law_open.B .nil pass0 (pa_cons (pv 0) (pa_cons pe_int pa_nil))))
      (pss_cons (ps_setLc (i := 2) (own := [("part", 3)]) rfl nd rfl rfl (sw_true rfl rfl rfl (by decide +kernel)) (pi_range1 (by rfl) T.b_range (pa_cons pe_int pa_nil)) (blkOk_by (own := [("part", 3)]) (N := N_law) (sc := defScope s_law) (by decide +kernel)) (fun _ _ _ _ _ => (pg_name (i := 3) nd rfl (Or.inl rfl))) (fun _ _ _ _ _ => pts_nil) (fun _ _ _ _ _ => (pe_cmpR op_eq (pe_call (ok_law_draw (P := P) (w := w) T) (hr.mono (by decide)) (by rfl) T.law_draw.g T.law_draw.F.kp T.law_draw.B .nil pass0 (pa_cons (pv 1) (pa_cons pe_int pa_nil))) pe_int (nomark _))))
      (pss_cons (ps_asg (pe_call (ok_law_build (P := P) (w := w) T) (hr.mono (by decide)) (by rfl) T.law_build.g T.law_build.F.kp T.law_build.B .nil pass0 (pa_cons (pv 0) pa_nil)) (w_pglst (K := K) (n := 3) rfl (by rfl) (pgs_cons (pg_name (i := 4) nd rfl (Or.inl rfl)) (pgs_cons (pg_name (i := 5) nd rfl (Or.inl rfl)) (pgs_cons (pg_name (i := 6) nd rfl (Or.inl rfl)) pgs_nil))) (by rfl) (by rfl)))
      (pss_cons (ps_set (i := 7) nd rfl (Or.inl rfl) (pe_make T.m_Work (ok_Work_init (P := P) (w := w) T) (hr.mono (by decide)) (by rfl) T.g_Work T.Work_init.B .nil pass0 (pa_cons (pv 4) (pa_cons (pe_ix (w_ixL (K := K) rfl) (pv 5) pe_int (fun _ _ => rfl)) (pa_cons (pv 6) pa_nil)))))
      (pss_cons (ps_set (i := 8) nd rfl (Or.inl rfl) (pe_call (ok_law_lot (P := P) (w := w) T) (hr.mono (by decide)) (by rfl) T.law_lot.g T.law_lot.F.kp T.law_lot.B .nil pass0 (pa_cons (pv 1) (pa_cons (pv 4) pa_nil))))
      (pss_cons (ps_set (i := 9) nd rfl (Or.inr rfl) (pe_call (ok_law_looks (P := P) (w := w) T) (hr.mono (by decide)) (by rfl) T.law_looks.g T.law_looks.F.kp T.law_looks.B .nil pass0 (pa_cons (pe_call (ok_law_open (P := P) (w := w) T) (hr.mono (by decide)) (by rfl) T.law_open.g T.law_open.F.kp T.law_open.B .nil pass0 (pa_cons (pv 0) (pa_cons pe_int pa_nil))) (pa_cons (pv 6) (pa_cons (pv 8) pa_nil)))))
      (pss_cons (ps_set (i := 1) nd rfl (Or.inr rfl) (pe_call (ok_law_open (P := P) (w := w) T) (hr.mono (by decide)) (by rfl) T.law_open.g T.law_open.F.kp T.law_open.B .nil pass0 (pa_cons (pv 0) (pa_cons pe_int pa_nil))))
      (pss_cons (ps_set (i := 10) nd rfl (Or.inr rfl) (pe_dget hu (pv 9) (pe_ix (w_ixL (K := K) rfl) (pv 5) (pe_call (ok_law_draw (P := P) (w := w) T) (hr.mono (by decide)) (by rfl) T.law_draw.g T.law_draw.F.kp T.law_draw.B .nil pass0 (pa_cons (pv 1) (pa_cons (pe_callB (w_len (K := K) rfl) (by rfl) T.b_len (by decide +kernel) (pa_cons (pv 5) pa_nil)) pa_nil))) (fun _ _ => rfl)) (fun _ _ => rfl)))
      (pss_cons (ps_setLc (i := 11) (own := [("stand", 12)]) rfl nd rfl rfl (sw_true rfl rfl rfl (by decide +kernel)) (w_pilist (K := K) rfl (pe_callB (cl_sortD rfl) (by rfl) T.b_sorted (by decide +kernel) (pa_cons (pv 6) pa_nil))) (blkOk_by (own := [("stand", 12)]) (N := N_law) (sc := defScope s_law) (by decide +kernel)) (fun _ _ _ _ _ => (pg_name (i := 12) nd rfl (Or.inl rfl))) (fun _ _ _ _ _ => pts_one (pt_cmpR op_eq (pe_dget hu (pv 9) (pv 12) (fun _ _ => rfl)) (pv 10) (nomark _))) (fun _ _ _ _ _ => (pv 12)))
      (pss_cons (ps_for PassesOwn.never rfl (pi_range1 (by rfl) T.b_range (pa_cons (pe_call (ok_law_draw (P := P) (w := w) T) (hr.mono (by decide)) (by rfl) T.law_draw.g T.law_draw.F.kp T.law_draw.B .nil pass0 (pa_cons (pv 1) (pa_cons pe_int pa_nil))) pa_nil)) (pg_name (i := 3) nd rfl (Or.inl rfl)) (pss_one (ps_if (pt_cmpR op_gt (pe_callB (w_len (K := K) rfl) (by rfl) T.b_len (by decide +kernel) (pa_cons (pv 11) pa_nil)) pe_int (nomark _)) (pss_one (ps_expr (pe_bm PySem.F.plainAttrs_list PySem.F.slot_list_pop PySem.F.type_list_pop mt_popAt (pv 11) (pa_cons (pe_call (ok_law_draw (P := P) (w := w) T) (hr.mono (by decide)) (by rfl) T.law_draw.g T.law_draw.F.kp T.law_draw.B .nil pass0 (pa_cons (pv 1) (pa_cons (pe_callB (w_len (K := K) rfl) (by rfl) T.b_len (by decide +kernel) (pa_cons (pv 11) pa_nil)) pa_nil))) pa_nil)))) pss_nil)))
      (pss_cons (ps_set (i := 11) nd rfl (Or.inl rfl) (pe_callTy (w_tup (K := K) rfl) (by rfl) T.b_tuple (by decide +kernel) (pa_cons (pv 11) pa_nil)))
      (pss_cons (ps_set (i := 13) nd rfl (Or.inl rfl) (pe_cmpR (w_in (K := K) rfl) (pe_call (ok_law_mover (P := P) (w := w) T) (hr.mono (by decide)) (by rfl) T.law_mover.g T.law_mover.F.kp T.law_mover.B .nil pass0 (pa_cons (pv 6) (pa_cons (pe_ix (w_ixT (K := K) rfl) (pv 11) pe_int (fun _ _ => rfl)) pa_nil))) (pv 8) (by rfl)))
      (pss_cons (ps_set (i := 14) nd rfl (Or.inl rfl) pe_non)
      (pss_cons (ps_if (pt_val (pv 13)) (pss_cons (ps_set (i := 15) nd rfl (Or.inl rfl) (pe_call (ok_law_steps (P := P) (w := w) T) (hr.mono (by decide)) (by rfl) T.law_steps.g T.law_steps.F.kp T.law_steps.B .nil pass0 (pa_cons (pv 6) (pa_cons (pe_ix (w_ixT (K := K) rfl) (pv 11) pe_int (fun _ _ => rfl)) pa_nil))))
      (pss_one (ps_set (i := 14) nd rfl (Or.inl rfl) (pe_ix (w_ixL (K := K) rfl) (pv 15) (pe_call (ok_law_draw (P := P) (w := w) T) (hr.mono (by decide)) (by rfl) T.law_draw.g T.law_draw.F.kp T.law_draw.B .nil pass0 (pa_cons (pv 1) (pa_cons (pe_callB (w_len (K := K) rfl) (by rfl) T.b_len (by decide +kernel) (pa_cons (pv 15) pa_nil)) pa_nil))) (fun _ _ => rfl))))) pss_nil)
      (pss_cons (ps_set (i := 16) nd rfl (Or.inl rfl) (pe_dget hu (pv 9) (pe_ix (w_ixL (K := K) rfl) (pv 5) (pe_call (ok_law_draw (P := P) (w := w) T) (hr.mono (by decide)) (by rfl) T.law_draw.g T.law_draw.F.kp T.law_draw.B .nil pass0 (pa_cons (pv 1) (pa_cons (pe_callB (w_len (K := K) rfl) (by rfl) T.b_len (by decide +kernel) (pa_cons (pv 5) pa_nil)) pa_nil))) (fun _ _ => rfl)) (fun _ _ => rfl)))
      (pss_cons (ps_if (pt_cmpR op_eq (pe_call (ok_law_draw (P := P) (w := w) T) (hr.mono (by decide)) (by rfl) T.law_draw.g T.law_draw.F.kp T.law_draw.B .nil pass0 (pa_cons (pv 1) (pa_cons pe_int pa_nil))) pe_int (nomark _)) (pss_one (ps_set (i := 16) nd rfl (Or.inl rfl) (pe_ix (w_ixL (K := K) rfl) (pe_lst (pa_cons pe_str (pa_cons pe_str (pa_cons pe_str pa_nil)))) (pe_call (ok_law_draw (P := P) (w := w) T) (hr.mono (by decide)) (by rfl) T.law_draw.g T.law_draw.F.kp T.law_draw.B .nil pass0 (pa_cons (pv 1) (pa_cons pe_int pa_nil))) (fun _ _ => rfl)))) pss_nil)
      (pss_cons (ps_set (i := 17) nd rfl (Or.inl rfl) (pe_lst (pa_cons (pe_tup (pa_cons pe_str pa_nil)) (pa_cons (pe_call (ok_law_due (P := P) (w := w) T) (hr.mono (by decide)) (by rfl) T.law_due.g T.law_due.F.kp T.law_due.B .nil pass0 (pa_cons (pv 6) (pa_cons (pv 8) (pa_cons (pv 9) (pa_cons (pv 11) (pa_cons (pv 14) (pa_cons (pv 16) pa_nil))))))) pa_nil))))
      (pss_cons (ps_set (i := 18) nd rfl (Or.inl rfl) (pe_callB (ReR.cr_repr hg hr.units hsy) (by rfl) T.b_repr (by decide +kernel) (pa_cons (pv 9) pa_nil)))
      (pss_cons (ps_if (PW.pt (pw_or (pt_cmpR (w_neD (K := K) rfl hr.units) (pe_call (ok_law_asked (P := P) (w := w) T) (hr.mono (by decide)) (by rfl) T.law_asked.g T.law_asked.F.kp T.law_asked.B .nil pass0 (pa_cons (pv 7) (pa_cons (pv 8) (pa_cons (pv 9) (pa_cons (pv 11) (pa_cons (pv 14) (pa_cons (pv 16) pa_nil))))))) (pv 17) (nomark _)) (pw_or1 (pt_cmpR op_ne (pe_callB (ReR.cr_repr hg hr.units hsy) (by rfl) T.b_repr (by decide +kernel) (pa_cons (pv 9) pa_nil)) (pv 18) (nomark _))))) (pss_one (ps_ret pe_bl)) pss_nil)
      (pss_cons (ps_set (i := 19) nd rfl (Or.inl rfl) (pv 9))
      (pss_cons (ps_if (pt_val (pe_ix (w_ixL (K := K) rfl) (pv 2) pe_int (fun _ _ => rfl))) (pss_cons (ps_set (i := 19) nd rfl (Or.inl rfl) (pe_ix (w_ixL (K := K) rfl) (pe_lst (pa_cons pe_non (pa_cons pe_dnewK (pa_cons (pe_lst pa_nil) (pa_cons pe_str pa_nil))))) (pe_call (ok_law_draw (P := P) (w := w) T) (hr.mono (by decide)) (by rfl) T.law_draw.g T.law_draw.F.kp T.law_draw.B .nil pass0 (pa_cons (pv 1) (pa_cons pe_int pa_nil))) (fun _ _ => rfl)))
      (pss_cons (ps_if (pt_cmpR op_gt (pe_call (ok_law_draw (P := P) (w := w) T) (hr.mono (by decide)) (by rfl) T.law_draw.g T.law_draw.F.kp T.law_draw.B .nil pass0 (pa_cons (pv 1) (pa_cons pe_int pa_nil))) pe_int (nomark _)) (pss_one (ps_set (i := 19) nd rfl (Or.inl rfl) (pe_call (ok_law_near_looks (P := P) (w := w) T) (hr.mono (by decide)) (by rfl) T.law_near_looks.g T.law_near_looks.F.kp T.law_near_looks.B .nil pass0 (pa_cons (pv 1) (pa_cons (pv 6) (pa_cons (pv 8) (pa_cons (pv 9) pa_nil))))))) pss_nil)
      (pss_one (ps_set (i := 17) nd rfl (Or.inl rfl) (pe_lst (pa_cons (pe_tup (pa_cons pe_str (pa_cons pe_bl pa_nil))) (pa_cons pe_non pa_nil))))))) pss_nil)
      (pss_cons (ps_set (i := 20) nd rfl (Or.inl rfl) (pv 11))
      (pss_cons (ps_if (pt_val (pe_ix (w_ixL (K := K) rfl) (pv 2) pe_int (fun _ _ => rfl))) (pss_cons (ps_if (pt_not (pt_val (pe_ix (w_ixL (K := K) rfl) (pv 2) pe_int (fun _ _ => rfl)))) (pss_one (ps_set (i := 17) nd rfl (Or.inl rfl) (pe_lst (pa_cons (pe_tup (pa_cons pe_str (pa_cons pe_bl pa_nil))) (pa_cons pe_non pa_nil))))) pss_nil)
      (pss_one (ps_set (i := 11) nd rfl (Or.inl rfl) (pe_call (ok_law_odd_knowledge (P := P) (w := w) T) (hr.mono (by decide)) (by rfl) T.law_odd_knowledge.g T.law_odd_knowledge.F.kp T.law_odd_knowledge.B .nil pass0 (pa_cons (pv 1) (pa_cons (pv 6) (pa_cons (pv 9) (pa_cons (pv 11) pa_nil)))))))) pss_nil)
      (pss_cons (ps_if (pt_val (pe_ix (w_ixL (K := K) rfl) (pv 2) pe_int (fun _ _ => rfl))) (pss_cons (ps_if (PW.pt (pw_and (pt_not (pt_val (pe_ix (w_ixL (K := K) rfl) (pv 2) pe_int (fun _ _ => rfl)))) (pw_and1 (pt_not (pt_val (pe_ix (w_ixL (K := K) rfl) (pv 2) pe_int (fun _ _ => rfl))))))) (pss_one (ps_set (i := 17) nd rfl (Or.inl rfl) (pe_lst (pa_cons (pe_tup (pa_cons pe_str (pa_cons pe_bl pa_nil))) (pa_cons pe_non pa_nil))))) pss_nil)
      (pss_one (ps_set (i := 14) nd rfl (Or.inl rfl) (pe_call (ok_law_odd_move (P := P) (w := w) T) (hr.mono (by decide)) (by rfl) T.law_odd_move.g T.law_odd_move.F.kp T.law_odd_move.B .nil pass0 (pa_cons (pv 1) (pa_cons (pv 6) (pa_cons (pv 20) (pa_cons (pv 13) pa_nil)))))))) pss_nil)
      (pss_cons (ps_if (pt_val (pe_ix (w_ixL (K := K) rfl) (pv 2) pe_int (fun _ _ => rfl))) (pss_cons (ps_if (PW.pt (pw_and (pt_not (pt_val (pe_ix (w_ixL (K := K) rfl) (pv 2) pe_int (fun _ _ => rfl)))) (pw_and (pt_not (pt_val (pe_ix (w_ixL (K := K) rfl) (pv 2) pe_int (fun _ _ => rfl)))) (pw_and1 (pt_not (pt_val (pe_ix (w_ixL (K := K) rfl) (pv 2) pe_int (fun _ _ => rfl)))))))) (pss_one (ps_set (i := 17) nd rfl (Or.inl rfl) (pe_lst (pa_cons (pe_tup (pa_cons pe_str (pa_cons pe_bl pa_nil))) (pa_cons pe_non pa_nil))))) pss_nil)
      (pss_one (ps_set (i := 16) nd rfl (Or.inl rfl) (pe_ix (w_ixL (K := K) rfl) (pe_lst (pa_cons pe_str (pa_cons pe_str (pa_cons pe_non (pa_cons pe_int (pa_cons pe_str (pa_cons (pe_lst (pa_cons pe_str pa_nil)) pa_nil))))))) (pe_call (ok_law_draw (P := P) (w := w) T) (hr.mono (by decide)) (by rfl) T.law_draw.g T.law_draw.F.kp T.law_draw.B .nil pass0 (pa_cons (pv 1) (pa_cons pe_int pa_nil))) (fun _ _ => rfl))))) pss_nil)
      (pss_one (ps_ret (pe_cmpR (w_eqD (K := K) rfl hr.units) (pe_call (ok_law_asked (P := P) (w := w) T) (hr.mono (by decide)) (by rfl) T.law_asked.g T.law_asked.F.kp T.law_asked.B .nil pass0 (pa_cons (pv 7) (pa_cons (pv 8) (pa_cons (pv 19) (pa_cons (pv 11) (pa_cons (pv 14) (pa_cons (pv 16) pa_nil))))))) (pv 17) (nomark _))))))))))))))))))))))))))))), ?_⟩
  refine x_start (σ' := [some _, none, none, none, none, none, none, none, none, none, none, none, none, none, none, none, none, none, none, none, none]) rfl ?_
  try simp only [cx_n, cx_K, cx_w, cx_P]
  walk_at "rd"
  refine ⟨a, ns0, 0, rfl, ha, hlen, by omega, by omega, fun p H1 hp t1 q1 => ?_⟩
  walk_at "rd"
  refine x_rng1 (by omega) (by omega) ?_
  intro D hD
  have nDp : D ≠ p := fun z => q1.there (z ▸ hD)
  refine lc_it walk_rng (fun n A => SX [p] H A ∧ Drw A p ∧ ∃ bs : List Bool, bs.length = n ∧ A D = some (.lst (bs.map V.bl))) ⟨(nil_sx t1).trans (SX.new hD), q1.sx (SX.new (S := []) hD) List.not_mem_nil, [], rfl, upd_same⟩ (fun _ _ _ _ => trivial) ?_ ?_
  · rintro n z A0 A hn ⟨sA, pA, bs, lb, dA⟩ ⟨rfl, rfl⟩
    walk_at "rd"
    refine ⟨rfl, ?_⟩
    walk_at "rd"
    refine ⟨p, 4, rfl, pA, by omega, by omega, fun r B r0 r1 sB pB => ?_⟩
    walk_at "rd"
    have dB := sB _ _ (by simpa using nDp) dA
    refine ⟨_, dB, lt_size (by rw [List.length_map]; omega), ?_, pB.sx (SX.mut (S := [D]) List.mem_cons_self) (by simpa using Ne.symm nDp), bs ++ [decide (V.int r = V.int 0)], by rw [List.length_append, lb]; rfl, ?_⟩
    · have : H D = none := t1.free hD List.not_mem_nil
      exact sx_dropF this (((sA.trans sB).sub fun b m => List.mem_cons_of_mem _ m).trans (SX.mut List.mem_cons_self))
    · rw [upd_same, List.map_append]
      rfl
  rintro H2 ⟨s2, p2, bs, lb, d2⟩
  obtain ⟨b0, b1, b2, b3, rfl⟩ : ∃ b0 b1 b2 b3, bs = [b0, b1, b2, b3] := by
    have lb : bs.length = 4 := lb
    match bs, lb with
    | [b0, b1, b2, b3], _ => exact ⟨b0, b1, b2, b3, rfl⟩
  have s02 : SX [] H H2 := sx_nil_of s2 (by simp [hp])
  clear s2 hD t1 q1
  walk_at "rd"
  refine ⟨a, ns0, rfl, s02.le0.l ha, hlen, fun q H5 hands nl names d sts n0 hq s1 eq enl hnl rd ok hn0 nlen keys fin nzz stl _ => ?_⟩
  refine ⟨q, _, rfl, sqL eq, rfl, ?_⟩
  have s05 := s02.trans s1
  have p5 := p2.sx s1 List.not_mem_nil
  have d5 := s1 _ _ List.not_mem_nil d2
  have h8 : sts.length ≤ 8 := by
    have h := nodup_sub ok.nd fun n hn => (keys n).mp hn
    rw [List.length_map] at h
    omega
  have an0 : atI (names.map V.str) 0 = some (.str n0) := atI_nat (j := 0) (by rw [List.getElem?_map, hn0]; rfl)
  have CS := ok.closed
  have noz : NoZZ (sts.map (·.1)) := fun n hn => nzz n ((keys n).mp hn)
  have rws : ∀ z ∈ sts, z.2.rows.length ≤ 4 ∧ ∀ s ∈ z.2.rows.map (·.1), nameB s = true := fun z hz => ⟨by
    have := (CS.all z hz).2.1
    rw [← tos_len, ← rows_tos_len] at this
    exact this, fun s hs => rows_nmB (ok.all z hz).2 hs⟩
  have nlp : nl ≠ p := fun z => p2.there (z ▸ hnl)
  walk_at "rd"
  show tCons _ _ _ _ _
  walk_at "rd"
  refine x_ixL (sqL enl) an0 ?_
  walk_at "rd"
  intro x dx hx hdx ndx
  have s3a : SX [] H5 (upd (upd H5 dx (.own x)) x (.ins T.a_Work dx [])) := (SX.new hdx).trans (SX.new (by rw [upd_ne (Ne.symm ndx)]; exact hx))
  have hx' : ∀ b ∈ [x], H5 b = none := fun b hb => by cases List.mem_singleton.mp hb; exact hx
  refine ⟨x, dx, .ref d, hands, n0, sts, rfl, upd_same, mono_D (mono_stand K) _ _ _ _ (le_intoS s3a.le0 hx') rd, ok, fun H6 tbl sx wa tbT => ⟨rfl, ?_⟩⟩
  have s56 : SX [] H5 H6 := sx_nil_of (S := [x]) ((nil_sx s3a).trans sx) hx'
  clear s3a sx
  walk_at "rd"
  have q6 := p5.sx s56 List.not_mem_nil
  have rd6 := mono_D (mono_stand K) _ _ _ _ s56.le0 rd
  obtain ⟨ps, eps⟩ := q6.lst
  have rdP := stands_hidP eps rd6
  have waP := work_hidP eps wa
  have hh := ok.h
  refine ⟨p, hands, rfl, q6, by omega, by omega, fun lt H7 ns hlt0 s67 q7 elt lok => ?_⟩
  have nltp : lt ≠ p := fun z => q6.there (z ▸ hlt0)
  have rd7 := mono_D (mono_stand K) _ _ _ _ s67.leH rdP
  have wa7 := waP.le s67.leH
  have enl7 : H7 nl = some (.lst (names.map V.str)) := s67 _ _ (by simpa using nlp) (s56 _ _ List.not_mem_nil enl)
  have nDp' : D ≠ p := nDp
  have d7 : H7 D = some (.lst [.bl b0, .bl b1, .bl b2, .bl b3]) := s67 _ _ (by simpa using nDp) (s56 _ _ List.not_mem_nil d5)
  have s07 : SX [] H H7 := sx_nil_of (S := [p]) ((nil_sx (s05.trans s56)).trans s67) (by simp [hp])
  clear rdP waP rd6 wa s67 q6 eps rd s56 d5 d2 p5 p2 s02 s05 s1 enl
  walk_at "rd"
  refine ⟨a, ns0, 2, rfl, s07.le0.l ha, hlen, by omega, by omega, fun p2 H8 hp2 s78 r8 => ?_⟩
  walk_at "rd"
  have le78 : Le H7 (hid [p2] H8) := le_intoS s78.le0 (fun b m => by rw [List.mem_singleton.mp m]; exact hp2)
  refine ⟨p2, d, lt, hands, n0, sts, ns, rfl, r8, mono_D (mono_stand K) _ _ _ _ le78 rd7, ok, h8, le78.t (sqT elt), fun lk H9 kv looks hlk s89 r9 elk kl lks => ?_⟩
  have s79 : SX [] H7 H9 := sx_nil_of (S := [p2]) ((nil_sx s78).trans s89) (by simp [hp2])
  clear s78 s89 r8 r9 hp2 le78 hlk
  walk_at "rd"
  have s09 := s07.trans s79
  refine ⟨a, ns0, 3, rfl, s09.le0.l ha, hlen, by omega, by omega, fun p3 G0 hp3 s90 r3 => ?_⟩
  have le9 : Le H9 (hid [p3] G0) := le_intoS s90.le0 (fun b m => by rw [List.mem_singleton.mp m]; exact hp3)
  have le7 : Le H7 (hid [p3] G0) := s79.le0.trans le9
  have rdG := mono_D (mono_stand K) _ _ _ _ le7 rd7
  have waG := wa7.le le7
  have ltG : SqT K (hid [p3] G0) lt (ns.map V.int) := le7.t (sqT elt)
  have lkG : rD rS (hid [p3] G0) (.ref lk) looks := mono_D mono_S _ _ _ _ le9 ⟨lk, kv, rfl, .inl elk, kl⟩
  have s70 := s79.trans s90
  have nlG : G0 nl = some (.lst (names.map V.str)) := s70 _ _ List.not_mem_nil enl7
  have dG : G0 D = some (.lst [.bl b0, .bl b1, .bl b2, .bl b3]) := s70 _ _ List.not_mem_nil d7
  have n3 : ∀ {b : Addr} {o : HO}, H9 b = some o → b ≠ p3 := fun h z => by rw [z, hp3] at h; cases h
  have nl3 : nl ≠ p3 := n3 (s79 _ _ List.not_mem_nil enl7)
  have nD3 : D ≠ p3 := n3 (s79 _ _ List.not_mem_nil d7)
  clear rd7 wa7 elt enl7 d7 elk kl s79 s90 s70 le7 le9 s09 s07 ha hp3 n3 q7 nDp' nDp nltp nlp
  obtain ⟨d', kvs9, ed, hrd, hk⟩ := id rdG
  cases ed
  obtain ⟨lk', kvl, el, rl, kl⟩ := id lkG
  cases el
  have lat : ∀ n ∈ sts.map (·.1), valV kvl (Sum.inr n) = some (.str (lookOf looks n)) := fun n hn => by
    obtain ⟨l, e⟩ := lookA_some ((lks.key n).mpr hn)
    obtain ⟨v, ev, rfl⟩ := kl.at_ e
    unfold lookOf
    rw [e]
    exact ev
  have nlen1 : 1 ≤ names.length := by have := getLt hn0; omega
  walk_at "rd"
  refine x_lenL' (sqL nlG) ?_
  walk_at "rd"
  rw [List.length_map]
  refine ⟨p3, names.length, rfl, r3, by omega, by omega, fun r G1 r0 r1 u1 v1 => ?_⟩
  obtain ⟨nm, em, mm⟩ := at_strs (ns := names) r0 r1
  refine x_ixL (sqL (u1 _ _ (by simpa using nl3) nlG)) em ?_
  refine x_dg' (u1.leH.rd _ _ trivial rl) (lat nm ((keys nm).mpr mm)) ?_
  walk_at "rd"
  refine x_sortD (u1.leH.rd _ _ trivial hrd) hk.keys fun ys py hpy hsy np => ?_
  have g2 : SX [] G1 (upd G1 py (.lst (ys.map V.str))) := SX.new np
  have y1 : (upd G1 py (.lst (ys.map V.str))) py = some (.lst (ys.map V.str)) := upd_same
  have v2 := v1.sx g2 List.not_mem_nil
  generalize upd G1 py (.lst (ys.map V.str)) = G2 at g2 y1 v2
  have u2 : SX [p3] G0 G2 := u1.trans (nil_sx g2)
  have yl : ys.length = sts.length := by rw [hpy.length_eq, List.length_map]
  have ylt : ys.Pairwise ltS := strict_of (sortedS_pw hsy) (hpy.nodup_iff.mpr ok.nd)
  refine x_itl (sqL y1) fun Kl hKl => ?_
  refine lc_it (walk_listR (R := rS) (Hb := H) (paired_S' ys)) (fun m A => SX [] G2 A ∧ A Kl = some (.lst (((ys.take m).filter fun s => decide (lookOf looks s = lookOf looks nm)).map V.str))) ⟨SX.new hKl, upd_same⟩ (fun m A _ h => sqL (h.1 _ _ List.not_mem_nil y1)) ?_ ?_
  · rintro m z A0 A hm ⟨sA, dA⟩ ⟨rfl, s, hs, rfl⟩
    have stp := filt_next (f := fun s => decide (lookOf looks s = lookOf looks nm)) hs
    walk_at "rd"
    refine ⟨rfl, ?_⟩
    walk_at "rd"
    refine x_dg' (sA.le0.rd _ _ trivial (u2.leH.rd _ _ trivial rl)) (lat s (hpy.mem_iff.mp (getMem hs))) ?_
    walk_at "rd"
    by_cases c : lookOf looks s = lookOf looks nm
    · rw [c, decide_eq_true rfl]
      walk_at "rd"
      refine ⟨_, dA, lt_size ?_, sx_nil_of (S := [Kl]) ((nil_sx sA).trans (SX.mut List.mem_cons_self)) (by simp [hKl]), ?_⟩
      · rw [List.length_map]
        refine Nat.le_trans (List.length_filter_le _ _) ?_
        rw [List.length_take]
        omega
      · rw [upd_same, stp, if_pos (decide_eq_true c), List.map_append]
        rfl
    · rw [decide_eq_false (fun e => c (by injection e))]
      walk_at "rd"
      refine ⟨sA, ?_⟩
      rw [stp, if_neg (by rw [decide_eq_false c]; exact Bool.false_ne_true), List.append_nil]
      exact dA
  rintro A1 ⟨sA1, dA1⟩
  rw [List.take_length] at dA1
  have vA1 := v2.sx sA1 List.not_mem_nil
  have nK3 : Kl ≠ p3 := fun z => v2.there (z ▸ hKl)
  have uA1 : SX [p3] G0 A1 := u2.trans (nil_sx sA1)
  have mn : nm ∈ ys := hpy.mem_iff.mpr ((keys nm).mpr mm)
  have ne0 : (ys.filter fun s => decide (lookOf looks s = lookOf looks nm)) ≠ [] := fun e => by
    have : nm ∈ ys.filter fun s => decide (lookOf looks s = lookOf looks nm) := List.mem_filter.mpr ⟨mn, decide_eq_true rfl⟩
    rw [e] at this
    cases this
  have hK0 : G0 Kl = none := u2.free hKl (by simpa using nK3)
  walk_at "rd"
  refine ⟨p3, 3, rfl, vA1, by decide, by decide, fun c3 B c30 c31 sB vB => ?_⟩
  have dB := sB _ _ (by simpa using nK3) dA1
  refine x_rng1 (by omega) (by omega) ?_
  refine for_it walk_rng (fun i σ C => ∃ (ks : List Str) (c : Option V), SX [p3] G0 C ∧ Drw C p3 ∧ C Kl = some (.lst (ks.map V.str)) ∧ ks ≠ [] ∧ ks.Sublist (ys.filter fun s => decide (lookOf looks s = lookOf looks nm)) ∧
      σ = [some (.ref a), some (.ref p3), some (.ref D), c, some (.int hands), some (.ref nl), some (.ref d), some (.ref x), some (.ref lt), some (.ref lk), some (.str (lookOf looks nm)), some (.ref Kl), none, none, none, none, none, none, none, none, none])
    ⟨_, none, uA1.trans sB, vB, dB, ne0, List.Sublist.refl _, rfl⟩ (fun _ _ _ _ _ => trivial) ?_ ?_
  · rintro i z σ C0 C hi ⟨ks, c, sC, pC, dC, ne, sub, rfl⟩ ⟨rfl, rfl⟩
    have kl8 : ks.length ≤ 8 := by
      have h1 := sub.length_le
      have h2 := List.length_filter_le (fun s => decide (lookOf looks s = lookOf looks nm)) ys
      omega
    walk_at "rd"
    refine x_lenL' (sqL dC) ?_
    walk_at "rd"
    rw [List.length_map]
    refine x_cases (fun c1 => ?_) (fun c1 => ?_)
    · have l2 : 1 < ks.length := by
        have := of_decide_eq_true c1
        omega
      walk_at "rd"
      refine ⟨.inl ⟨rfl, _, sqL dC⟩, ?_⟩
      walk_at "rd"
      refine x_lenL' (sqL dC) ?_
      walk_at "rd"
      rw [List.length_map]
      refine ⟨p3, (ks.length : Int), rfl, pC, by omega, by omega, fun r2 E2 r20 r21 s5 p5 => ?_⟩
      obtain ⟨j, rfl⟩ : ∃ j : Nat, r2 = (j : Int) := ⟨r2.toNat, by omega⟩
      have hj : j < ks.length := by omega
      have dE := s5 _ _ (by simpa using nK3) dC
      refine ⟨Kl, _, (j : Int), j, .str (ks[j]), rfl, rfl, dE, by omega, by omega, ?_, by rw [List.getElem?_map, List.getElem?_eq_getElem hj]; rfl, ?_⟩
      · rw [List.length_map]
        exact seqIx hj
      have e1 : (ks.map V.str).eraseIdx j = (ks.eraseIdx j).map V.str := map_eraseS _ _ _
      rw [e1]
      refine ⟨ks.eraseIdx j, _, ?_, p5.sx (SX.mut (S := [Kl]) List.mem_cons_self) (by simpa using Ne.symm nK3), upd_same, fun e => ?_, (List.eraseIdx_sublist ks j).trans sub, rfl⟩
      · exact sx_dropF hK0 (((sC.trans s5).sub fun b m => List.mem_cons_of_mem _ m).trans (SX.mut List.mem_cons_self))
      · have := List.length_eraseIdx_of_lt hj
        rw [e] at this
        change 0 = _ at this
        omega
    · walk_at "rd"
      exact ⟨ks, _, sC, pC, dC, ne, sub, rfl⟩
  rintro σ C ⟨ks, c, sC, pC, dC, ne, sub, rfl⟩
  have kl8 : ks.length ≤ 8 := by
    have h1 := sub.length_le
    have h2 := List.length_filter_le (fun s => decide (lookOf looks s = lookOf looks nm)) ys
    omega
  walk_at "rd"
  refine x_ctup (sqL dC) fun kn hkn => ?_
  have nkn : kn ≠ p3 := fun e => pC.there (e ▸ hkn)
  have mem : ∀ s ∈ ks, s ∈ ys ∧ lookOf looks s = lookOf looks nm := fun s hs => by
    have := List.mem_filter.mp (sub.subset hs)
    exact ⟨this.1, of_decide_eq_true this.2⟩
  have mh : hd ks ∈ ks := by
    cases ks with
    | nil => exact absurd rfl ne
    | cons a r => exact List.mem_cons_self
  have gK : GoodK (lookOf looks) (sts.map (·.1)) ks := ⟨ne, (ylt.sublist List.filter_sublist).sublist sub, fun s hs => hpy.mem_iff.mp (mem s hs).1, fun s hs => by rw [(mem s hs).2, (mem _ mh).2]⟩
  have gK2 : GoodK (lookOf looks) (looks.map (·.1)) ks := ⟨gK.1, gK.2.1, fun s hs => (lks.key s).mpr (gK.2.2.1 s hs), gK.2.2.2⟩
  have g3 : SX [] C (upd C kn (.tup (ks.map V.str))) := SX.new hkn
  have ekn : (upd C kn (.tup (ks.map V.str))) kn = some (.tup (ks.map V.str)) := upd_same
  have v3 := pC.sx g3 List.not_mem_nil
  generalize upd C kn (.tup (ks.map V.str)) = E0 at g3 ekn v3
  have u3 : SX [p3] G0 E0 := sC.trans (nil_sx g3)
  have rdE := mono_D (mono_stand K) _ _ _ _ u3.le rdG
  have waE := waG.le u3.le
  have ltE := u3.le.t ltG
  have lkE := mono_D mono_S _ _ _ _ u3.le lkG
  have nlE := u3 _ _ (by simpa using nl3) nlG
  have dE := u3 _ _ (by simpa using nD3) dG
  clear sub mem dC pC sC g3 u3 dB sB vB c30 c31 uA1 vA1 dA1 sA1 hK0 nK3 hKl ne0 mn ylt y1 u2 v2 g2 np hpy hsy u1 v1 r0 r1 rl kl hrd hk lat rdG waG ltG lkG nlG dG r3 mm em
  generalize hms : lookA sts (hd ks) = ost
  obtain ⟨st, rfl⟩ : ∃ st, ost = some st := by
    obtain ⟨st, e⟩ := lookA_some (gK.2.2.1 _ mh)
    rw [hms] at e
    exact ⟨st, e⟩
  have a0 : atI (ks.map V.str) (0 : Int) = some (.str (hd ks)) := by
    cases ks with
    | nil => exact absurd rfl ne
    | cons a r => exact atI_nat (j := 0) rfl
  walk_at "rd"
  refine x_ixT (sqT ekn) a0 ?_
  refine ⟨d, _, sts, st, rfl, mono_D (mono_stand K) _ _ _ _ le_hid rdE, hms, ?_⟩
  walk_at "rd"
  refine ⟨lt, _, rfl, .inr (le_hid.t ltE), by cases st <;> rfl, flat_ints ns, ?_⟩
  rw [inV_mover]
  walk_at "rd"
  rw [show (if false = true then !moverIn ns st else moverIn ns st) = moverIn ns st by rfl]
  refine x_joinS (fun σ' B' => ∃ (mv : Option Str) (c15 : Option V), σ' = [some (.ref a), some (.ref p3), some (.ref D), c, some (.int hands), some (.ref nl), some (.ref d), some (.ref x), some (.ref lt), some (.ref lk), some (.str (lookOf looks nm)), some (.ref kn), none, some (.bl (moverIn ns st)), some (mvV mv), c15, none, none, none, none, none] ∧ SX [p3] E0 B' ∧ Drw B' p3 ∧ MvFit ns st mv) (fun hown fin2 => ?_) (fun hown => ?_) (fun σ' B' hJ => ?_)
  · walk_at "rd"
    refine x_ixT (sqT ekn) a0 ?_
    refine ⟨d, _, sts, st, rfl, mono_D (mono_stand K) _ _ _ _ le_hid rdE, hms, fun pz E1 zs hpz t1 epz pz2 sz => ?_⟩
    walk_at "rd"
    refine x_lenL' (sqL epz) ?_
    walk_at "rd"
    rw [List.length_map]
    have zl : zs.length = st.rows.length := by rw [pz2.length_eq, List.length_map]
    have z1 : 1 ≤ st.rows.length ∧ st.rows.length ≤ 4 := by
      have so := (ok.all _ (lookA_mem hms)).2
      cases st with
      | fin => cases hown
      | chance ds => cases hown
      | hand h ms => exact ⟨so.2.2.1, so.2.2.2.1⟩
    have p3z : pz ≠ p3 := fun e => v3.there (e ▸ hpz)
    refine ⟨p3, zs.length, rfl, v3.sx t1 List.not_mem_nil, by omega, by omega, fun r E2 r0 r1 t2 v4 => ?_⟩
    obtain ⟨m, em, mm⟩ := at_strs (ns := zs) r0 r1
    refine x_ixL (sqL (t2 _ _ (by simpa using p3z) epz)) em ?_
    walk_at "rd1"
    refine fin2 _ _ ⟨some m, _, rfl, (nil_sx t1).trans t2, v4, ?_⟩
    unfold MvFit
    rw [if_pos hown]
    exact ⟨m, rfl, pz2.mem_iff.mp mm⟩
  · refine ⟨none, none, rfl, SX.refl _, v3, ?_⟩
    unfold MvFit
    rw [if_neg (by rw [hown]; exact Bool.false_ne_true)]
  obtain ⟨mv, c15, rfl, w1, v4, fit⟩ := hJ
  walk_at "rd"
  refine x_lenL' (sqL (w1 _ _ (by simpa using nl3) nlE)) ?_
  walk_at "rd"
  rw [List.length_map]
  refine ⟨p3, names.length, rfl, v4, by omega, by omega, fun r E2 r0 r1 w2 v5 => ?_⟩
  have w12 := w1.trans w2
  obtain ⟨n5, em, mm5⟩ := at_strs (ns := names) r0 r1
  refine x_ixL (sqL (w12 _ _ (by simpa using nl3) nlE)) em ?_
  obtain ⟨lk', kvl, el, rl, kl⟩ := id lkE
  cases el
  have lat : ∀ n ∈ sts.map (·.1), valV kvl (Sum.inr n) = some (.str (lookOf looks n)) := fun n hn => by
    obtain ⟨l, e⟩ := lookA_some ((lks.key n).mpr hn)
    obtain ⟨v, ev, rfl⟩ := kl.at_ e
    unfold lookOf
    rw [e]
    exact ev
  have nmL : ∀ n ∈ sts.map (·.1), nameB (lookOf looks n) = true := fun n hn => by
    obtain ⟨l, e⟩ := lookA_some ((lks.key n).mpr hn)
    unfold lookOf
    rw [e]
    exact lks.nm _ (lookA_mem e)
  refine x_dg' (w12.leH.rd _ _ trivial rl) (lat n5 ((keys n5).mpr mm5)) ?_
  walk_at "rd"
  refine ⟨p3, 8, rfl, v5, by decide, by decide, fun r8 E3 r80 r81 w3 v6 => ?_⟩
  walk_at "rd"
  have w13 := w12.trans w3
  refine x_joinS (fun σ' B' => ∃ (l : Str), σ' = [some (.ref a), some (.ref p3), some (.ref D), c, some (.int hands), some (.ref nl), some (.ref d), some (.ref x), some (.ref lt), some (.ref lk), some (.str (lookOf looks nm)), some (.ref kn), none, some (.bl (moverIn ns st)), some (mvV mv), c15, some (.str l), none, none, none, none] ∧ SX [p3] E0 B' ∧ Drw B' p3 ∧ nameB l = true) (fun hc fin2 => ?_) (fun hc => ?_) (fun σ' B' hJ => ?_)
  · walk_at "rd"
    refine ⟨Nat.le_of_ble_eq_true rfl, fun l1 g1 => ?_⟩
    walk_at "rd"
    have n1 : l1 ≠ p3 := fun z => v6.there (z ▸ g1)
    refine ⟨p3, 3, rfl, v6.sx (SX.new (S := []) g1) List.not_mem_nil, by decide, by decide, fun r9 E4 r90 r91 w4 v7 => ?_⟩
    obtain ⟨l, el9, ml⟩ := at_strs (ns := ["z", "abcdefgh", "q0q0"]) r90 r91
    refine x_ixL (sqL (w4 _ _ (by simpa using n1) upd_same)) el9 ?_
    walk_at "rd1"
    exact fin2 _ _ ⟨l, rfl, w13.trans ((SX.new g1).trans w4), v7, look3 l ml⟩
  · exact ⟨_, rfl, w13, v6, nmL n5 ((keys n5).mpr mm5)⟩
  obtain ⟨l, rfl, w4, v7, nlb⟩ := hJ
  clear w1 w2 w12 w3 w13 v3 v4 v5 v6 r0 r1 r80 r81 em
  have rdAt : ∀ {B : Hp}, SX [p3] E0 B → rD (rStand K) B (.ref d) sts := fun s => mono_D (mono_stand K) _ _ _ _ s.leH rdE
  have rdHid : ∀ {B : Hp}, SX [p3] E0 B → rD (rStand K) (hid [p3] B) (.ref d) sts := fun s => mono_D (mono_stand K) _ _ _ _ s.le rdE
  have waAt : ∀ {B : Hp}, SX [p3] E0 B → WorkAt T B x hands n0 tbl := fun s => waE.le s.leH
  have ltAt : ∀ {B : Hp}, SX [p3] E0 B → SqT K B lt (ns.map V.int) := fun s => s.leH.t ltE
  have ltHid : ∀ {B : Hp}, SX [p3] E0 B → SqT K (hid [p3] B) lt (ns.map V.int) := fun s => s.le.t ltE
  have lkAt : ∀ {B : Hp}, SX [p3] E0 B → rD rS B (.ref lk) looks := fun s => mono_D mono_S _ _ _ _ s.leH lkE
  have lkHid : ∀ {B : Hp}, SX [p3] E0 B → rD rS (hid [p3] B) (.ref lk) looks := fun s => mono_D mono_S _ _ _ _ s.le lkE
  have knAt : ∀ {B : Hp}, SX [p3] E0 B → B kn = some (.tup (ks.map V.str)) := fun s => s _ _ (by simpa using nkn) ekn
  have knHid : ∀ {B : Hp}, SX [p3] E0 B → hid [p3] B kn = some (.tup (ks.map V.str)) := fun s => by rw [hid_of (by simpa using nkn)]; exact knAt s
  have lnm2 : ∀ q ∈ looks, nameB q.1 = true ∧ nameB q.2 = true := fun q hq => ⟨by
    obtain ⟨z, hz, e⟩ := List.mem_map.mp ((lks.key q.1).mp (List.mem_map.mpr ⟨q, hq, rfl⟩))
    rw [← e]
    exact (ok.all _ hz).1, lks.nm q hq⟩
  have l8 : looks.length ≤ 8 := by
    have h := nodup_sub lks.nd fun n hn => (lks.key n).mp hn
    rw [List.length_map, List.length_map] at h
    omega
  have lkD : ∀ {B : Hp}, SX [p3] E0 B → DpD B (.ref lk) (.dict (looks.map fun q => (PyData.str q.1, PyData.str q.2))) := fun s => .dic (s.leH.rd _ _ trivial rl) (dpk_looks kl)
  have okL : okD (.dict (looks.map fun q => (PyData.str q.1, PyData.str q.2))) := looks_okD lnm2 (by omega)
  have l0n : ∀ s ∈ (lookA (afterL (grOf ns sts) (lookOf looks) ks mv) l).getD [], nameB s = true := fun s hs => by
    obtain ⟨z, hz, e⟩ := List.mem_map.mp (after_nm CS gK.2.2.1 s hs)
    rw [← e]
    exact (ok.all _ hz).1
  generalize hl0 : (lookA (afterL (grOf ns sts) (lookOf looks) ks mv) l).getD [] = l0 at l0n
  generalize hdt : (PyData.dict (looks.map fun q => (PyData.str q.1, PyData.str q.2))) = dt at lkD okL
  have mvD : ∀ {B : Hp}, ∃ dm, DpD B (mvV mv) dm ∧ SeqAt.shaped dm = true := fun {B} => by
    unfold MvFit at fit
    split at fit
    · obtain ⟨m, rfl, hm⟩ := fit
      exact ⟨_, .str m, shaped_nameB (rows_nmB (ok.all _ (lookA_mem hms)).2 hm)⟩
    · subst fit
      exact ⟨_, .non, by decide +kernel⟩
  clear kl rl lat
  walk_at "rd"
  refine ⟨Nat.le_of_ble_eq_true rfl, fun f1 gf1 => ?_⟩
  have t1 : SX [] B' (upd B' f1 (.tup [.str "told"])) := SX.new gf1
  have ef1 : (upd B' f1 (.tup [.str "told"])) f1 = some (.tup [.str "told"]) := upd_same
  have v8 := v7.sx t1 List.not_mem_nil
  generalize upd B' f1 (.tup [.str "told"]) = F1 at t1 ef1 v8
  have w5 : SX [p3] E0 F1 := w4.trans (nil_sx t1)
  have nf1 : f1 ≠ p3 := fun z => v7.there (z ▸ gf1)
  walk_at "rd"
  refine ⟨d, lt, lk, kn, mv, l, sts, ns, looks, ks, st, rfl, rdAt w5, CS, ltAt w5, lkAt w5, fun n h => (lks.key n).mpr h, sqT (knAt w5), ne, gK.2.2.1, by omega, hms, fit, fun u F2 hu t2 eu => ?_⟩
  rw [hl0] at eu
  have ef2 := t2 _ _ List.not_mem_nil ef1
  walk_at "rd"
  refine ⟨Nat.le_of_ble_eq_true rfl, fun dq gdq => ?_⟩
  have t3 : SX [] F2 (upd F2 dq (.lst [.ref f1, .ref u])) := SX.new gdq
  have dd3 : DpD (upd F2 dq (.lst [.ref f1, .ref u])) (.ref dq) (ansD (.told l0)) := told_ans upd_same (t3 _ _ List.not_mem_nil ef2) (t3 _ _ List.not_mem_nil eu)
  have v9 := (v8.sx t2 List.not_mem_nil).sx t3 List.not_mem_nil
  have nu3 : u ≠ p3 := fun z => v8.there (z ▸ hu)
  have ndq3 : dq ≠ p3 := fun z => (v8.sx t2 List.not_mem_nil).there (z ▸ gdq)
  have dh3 : DpD (hid [p3] (upd F2 dq (.lst [.ref f1, .ref u]))) (.ref dq) (ansD (.told l0)) := told_ans (f := f1) (t := u) (by rw [hid_of (by simpa using ndq3)]; exact upd_same) (by rw [hid_of (by simpa using nf1)]; exact t3 _ _ List.not_mem_nil ef2) (by rw [hid_of (by simpa using nu3)]; exact t3 _ _ List.not_mem_nil eu)
  generalize upd F2 dq (.lst [.ref f1, .ref u]) = F3 at t3 dd3 v9 dh3
  have w6 : SX [p3] E0 F3 := w5.trans (nil_sx (t2.trans t3))
  walk_at "rd"
  refine ⟨.ref lk, dt, rfl, lkD w6, okL, ?_⟩
  walk_at "rd"
  obtain ⟨dm, hdm, sdm⟩ := mvD (B := F3)
  have ao := aft_due (P := P) (w := w) (T := T) (B := F3) (b0 := false) (b1 := false) (b2 := false) (b3 := false) (vo := .ref lk) (vn := .ref kn) (vm := mvV mv) (vl := .str l) (waAt w6) (ltAt w6) tbT ok lks hms gK2 kl8 fit nlb ⟨rfl, lkAt w6⟩ (.tup (knAt w6) (DpDs.strs _)) rfl rfl
  rw [hl0] at ao
  refine ⟨x, lt, .ref lk, .ref kn, mvV mv, .str l, hands, n0, tbl, ns, _, dm, rfl, ao, hdm, sdm, fun q4 F4 hq4 t4 d4 => ?_⟩
  clear ao
  walk_at "rd"
  refine x_neDat d4 (dd3.nil t4) (ans_shaped l0n false false false false) ?_
  walk_at "rd"
  have w7 : SX [p3] E0 F4 := w6.trans (nil_sx t4)
  refine ⟨.ref lk, dt, rfl, lkD w7, okL, ?_⟩
  walk_at "rd"
  refine x_false (by simp) ?_
  walk_at "rd"
  have v10 := v9.sx t4 List.not_mem_nil
  have dh4 : DpD (hid [p3] F4) (.ref dq) (ansD (dueA false false false false l0)) := dh3.mono (hid_sx (nil_sx t4))
  have dE4 : F4 D = some (.lst [.bl b0, .bl b1, .bl b2, .bl b3]) := w7 _ _ (by simpa using nD3) dE
  clear dd3 d4 hdm t1 t2 t3 t4 w4 w5 w6 v7 v8 v9 ef1 ef2 eu hu gdq gf1 dh3
  refine x_ixL (sqL dE4) (v := .bl b0) (atI_nat (j := 0) rfl) ?_
  walk_at "rd"
  refine x_joinS (fun σ' B' => ∃ (vo : V) (qd : Addr), σ' = [some (.ref a), some (.ref p3), some (.ref D), c, some (.int hands), some (.ref nl), some (.ref d), some (.ref x), some (.ref lt), some (.ref lk), some (.str (lookOf looks nm)), some (.ref kn), none, some (.bl (moverIn ns st)), some (mvV mv), c15, some (.str l), some (.ref qd), some (.str dt.shown), some (vo), none] ∧ SX [p3] E0 B' ∧ Drw B' p3 ∧ DpD (hid [p3] B') (.ref qd) (ansD (dueA b0 false false false l0)) ∧ (if b0 = true then OddL P w (hid [p3] B') ns sts vo else vo = .ref lk)) (fun h0 fin0 => ?_) (fun h0 => ?_) (fun σ' B' hJ => ?_)
  · walk_at "rd"
    intro dk gdk
    walk_at "rd"
    refine ⟨Nat.le_of_ble_eq_true rfl, fun le gle => ?_⟩
    walk_at "rd"
    refine ⟨Nat.le_of_ble_eq_true rfl, fun ll gll => ?_⟩
    have y1 : SX [] F4 (upd F4 dk (.dK [])) := SX.new gdk
    have ed : (upd F4 dk (.dK [])) dk = some (.dK []) := upd_same
    generalize upd F4 dk (.dK []) = Y1 at y1 ed gle gll
    have y2 : SX [] Y1 (upd Y1 le (.lst [])) := SX.new gle
    have ee : (upd Y1 le (.lst [])) le = some (.lst []) := upd_same
    generalize upd Y1 le (.lst []) = Y2 at y2 ee gll
    let L : List V := [.non, .ref dk, .ref le, .str "a"]
    have y3 : SX [] Y2 (upd Y2 ll (.lst L)) := SX.new gll
    have el9 : (upd Y2 ll (.lst L)) ll = some (.lst L) := upd_same
    change tCall _ _ _ _ _ (upd Y2 ll (.lst L)) _
    generalize upd Y2 ll (.lst L) = Y3 at y3 el9
    have n1 : dk ≠ p3 := fun z => v10.there (z ▸ gdk)
    have n2 : le ≠ p3 := fun z => (v10.sx y1 List.not_mem_nil).there (z ▸ gle)
    have n4 : ll ≠ p3 := fun z => ((v10.sx y1 List.not_mem_nil).sx y2 List.not_mem_nil).there (z ▸ gll)
    have y13 := y1.trans (y2.trans y3)
    walk_at "rd"
    refine ⟨p3, 4, rfl, v10.sx y13 List.not_mem_nil, by decide, by decide, fun r Y4 r0 r1 y4 x4 => ?_⟩
    obtain ⟨vo, eo, mo⟩ := at_memL (xs := L) r0 r1
    refine x_ixL (sqL (y4 _ _ (by simpa using n4) el9)) eo ?_
    walk_at "rd"
    have w8 : SX [p3] E0 Y4 := w7.trans ((nil_sx y13).trans y4)
    have ed4 : hid [p3] Y4 dk = some (.dK []) := by
      rw [hid_of (by simpa using n1)]
      exact y4 _ _ (by simpa using n1) (y3 _ _ List.not_mem_nil (y2 _ _ List.not_mem_nil ed))
    have ee4 : hid [p3] Y4 le = some (.lst []) := by
      rw [hid_of (by simpa using n2)]
      exact y4 _ _ (by simpa using n2) (y3 _ _ List.not_mem_nil ee)
    have od4 : OddL P w (hid [p3] Y4) ns sts vo := by
      simp only [L, List.mem_cons, List.not_mem_nil, or_false] at mo
      rcases mo with rfl | rfl | rfl | rfl
      · exact ⟨_, none, .odd .non (fun _ z => nomatch z), (fun _ z => nomatch z), fun ⟨_, z, _⟩ => nomatch z⟩
      · refine ⟨_, some [], .dic (.inr ⟨[], .inl ed4, rfl⟩) .nil, (fun ds' e q hq => by cases e; cases hq), fun ⟨kvs, z, rr⟩ => ?_⟩
        cases z
        have := rr.len
        have := ok.len.1
        simp at *
        omega
      · exact ⟨_, none, .odd (.lst ee4 .nil) (fun _ z => nomatch z), (fun _ z => nomatch z), fun ⟨_, z, _⟩ => nomatch z⟩
      · exact ⟨_, none, .odd (.str _) (fun _ z => nomatch z), (fun _ z => nomatch z), fun ⟨_, z, _⟩ => nomatch z⟩
    refine ⟨p3, 3, rfl, x4, by decide, by decide, fun r5 Y5 r50 r51 y5 x5 => ?_⟩
    have w9 : SX [p3] E0 Y5 := w8.trans y5
    walk_at "rd"
    refine x_joinS (fun σ' B' => ∃ (vo : V), σ' = [some (.ref a), some (.ref p3), some (.ref D), c, some (.int hands), some (.ref nl), some (.ref d), some (.ref x), some (.ref lt), some (.ref lk), some (.str (lookOf looks nm)), some (.ref kn), none, some (.bl (moverIn ns st)), some (mvV mv), c15, some (.str l), some (.ref dq), some (.str dt.shown), some (vo), none] ∧ SX [p3] E0 B' ∧ Drw B' p3 ∧ OddL P w (hid [p3] B') ns sts vo) (fun hc fin1 => ?_) (fun hc => ?_) (fun σ' B' hJ => ?_)
    · walk_at "rd"
      refine ⟨p3, d, lt, lk, hands, n0, sts, ns, looks, rfl, x5, rdHid w9, ok, ok.len.1, h8, noz, ltHid w9, lkHid w9, lks, fun Fl Y6 kvF hFl y6 x6 eFl ⟨dsF, enF, shF⟩ nrF => ?_⟩
      walk_at "rd1"
      have nF3 : Fl ≠ p3 := fun z => x5.there (z ▸ hFl)
      exact fin1 _ _ ⟨.ref Fl, rfl, w9.trans y6, x6, _, _, .dic (.inr ⟨kvF, .inl (by rw [hid_of (by simpa using nF3)]; exact eFl), rfl⟩) enF, (fun ds' e q hq => by cases e; exact shF q hq), fun ⟨kvs, z, rr⟩ => by cases z; exact nrF rr⟩
    · obtain ⟨d', o', tg, sho, nr'⟩ := od4
      exact ⟨vo, rfl, w9, x5, d', o', tg.mono (hid_ext y5), sho, nr'⟩
    obtain ⟨vo2, rfl, w10, x6, od6⟩ := hJ
    walk_at "rd"
    refine ⟨Nat.le_of_ble_eq_true rfl, fun ff gff => ?_⟩
    have z1 : SX [] B' (upd B' ff (.tup [.str "looks", .bl true])) := SX.new gff
    have e1 : (upd B' ff (.tup [.str "looks", .bl true])) ff = some (.tup [.str "looks", .bl true]) := upd_same
    have nff : ff ≠ p3 := fun z => x6.there (z ▸ gff)
    generalize upd B' ff (.tup [.str "looks", .bl true]) = Z1 at z1 e1
    walk_at "rd"
    refine ⟨Nat.le_of_ble_eq_true rfl, fun qq gqq => ?_⟩
    have z2 : SX [] Z1 (upd Z1 qq (.lst [.ref ff, .non])) := SX.new gqq
    have nqq : qq ≠ p3 := fun z => (x6.sx z1 List.not_mem_nil).there (z ▸ gqq)
    have zd : DpD (hid [p3] (upd Z1 qq (.lst [.ref ff, .non]))) (.ref qq) (.list [.tuple [.str "looks", .bool true], .none]) := flag_ans (f := ff) (by rw [hid_of (by simpa using nqq)]; exact upd_same) (by rw [hid_of (by simpa using nff)]; exact z2 _ _ List.not_mem_nil e1)
    have zv := (x6.sx z1 List.not_mem_nil).sx z2 List.not_mem_nil
    have zw : SX [p3] E0 (upd Z1 qq (.lst [.ref ff, .non])) := w10.trans (nil_sx (z1.trans z2))
    have zx : SX [] B' (upd Z1 qq (.lst [.ref ff, .non])) := z1.trans z2
    generalize upd Z1 qq (.lst [.ref ff, .non]) = Z2 at zd zv zw zx
    walk_at "rd1"
    refine fin0 _ _ ⟨vo2, qq, rfl, zw, zv, ?_, ?_⟩
    · rw [h0]
      exact zd
    · rw [if_pos h0]
      obtain ⟨d', o', tg, sho, nr'⟩ := od6
      exact ⟨d', o', tg.mono (hid_ext (nil_sx zx)), sho, nr'⟩
  · refine ⟨.ref lk, dq, rfl, w7, v10, ?_, ?_⟩
    · rw [h0]
      exact dh4
    · rw [if_neg (by rw [h0]; exact Bool.false_ne_true)]
  obtain ⟨vo, qd, rfl, w8, x8, dh8, od8⟩ := hJ
  clear v10 w7 dh4 dE4
  walk_at "rd"
  refine x_ixL (sqL (w8 _ _ (by simpa using nD3) dE)) (v := .bl b1) (atI_nat (j := 1) rfl) ?_
  walk_at "rd"
  have odm : ∀ {A B : Hp} {v : V}, SX [p3] A B → (if b0 = true then OddL P w (hid [p3] A) ns sts v else v = .ref lk) → (if b0 = true then OddL P w (hid [p3] B) ns sts v else v = .ref lk) := fun s h => by
    split
    · rename_i e
      rw [if_pos e] at h
      obtain ⟨d', o', tg, sho, nr'⟩ := h
      exact ⟨d', o', tg.mono (hid_ext s), sho, nr'⟩
    · rename_i e
      rw [if_neg e] at h
      exact h
  refine x_joinS (fun σ' B' => ∃ (vn : V) (qd : Addr), σ' = [some (.ref a), some (.ref p3), some (.ref D), c, some (.int hands), some (.ref nl), some (.ref d), some (.ref x), some (.ref lt), some (.ref lk), some (.str (lookOf looks nm)), some (vn), none, some (.bl (moverIn ns st)), some (mvV mv), c15, some (.str l), some (.ref qd), some (.str dt.shown), some (vo), some (.ref kn)] ∧ SX [p3] E0 B' ∧ Drw B' p3 ∧ DpD (hid [p3] B') (.ref qd) (ansD (dueA b0 b1 false false l0)) ∧ (if b0 = true then OddL P w (hid [p3] B') ns sts vo else vo = .ref lk) ∧ (if b1 = true then ∃ dn, DpD (hid [p3] B') vn dn ∧ ¬ GoodD looks dn else vn = .ref kn)) (fun h1 fin0 => ?_) (fun h1 => ?_) (fun σ' B' hJ => ?_)
  · walk_at "rd"
    refine x_ixL (sqL (w8 _ _ (by simpa using nD3) dE)) (v := .bl b0) (atI_nat (j := 0) rfl) ?_
    walk_at "rd"
    refine x_joinS (fun σ' B' => ∃ (qd : Addr), σ' = [some (.ref a), some (.ref p3), some (.ref D), c, some (.int hands), some (.ref nl), some (.ref d), some (.ref x), some (.ref lt), some (.ref lk), some (.str (lookOf looks nm)), some (.ref kn), none, some (.bl (moverIn ns st)), some (mvV mv), c15, some (.str l), some (.ref qd), some (.str dt.shown), some (vo), some (.ref kn)] ∧ SX [p3] E0 B' ∧ Drw B' p3 ∧ DpD (hid [p3] B') (.ref qd) (ansD (dueA b0 true false false l0)) ∧ (if b0 = true then OddL P w (hid [p3] B') ns sts vo else vo = .ref lk)) (fun hc fin1 => ?_) (fun hc => ?_) (fun σ' B' hJ => ?_)
    · have h0 : b0 = false := by cases b0 <;> first | rfl | cases hc
      walk_at "rd"
      refine ⟨Nat.le_of_ble_eq_true rfl, fun ff gff => ?_⟩
      have z1 : SX [] B' (upd B' ff (.tup [.str "knowledge", .bl true])) := SX.new gff
      have e1 : (upd B' ff (.tup [.str "knowledge", .bl true])) ff = some (.tup [.str "knowledge", .bl true]) := upd_same
      have nff : ff ≠ p3 := fun z => x8.there (z ▸ gff)
      generalize upd B' ff (.tup [.str "knowledge", .bl true]) = Z1 at z1 e1
      walk_at "rd"
      refine ⟨Nat.le_of_ble_eq_true rfl, fun qq gqq => ?_⟩
      have z2 : SX [] Z1 (upd Z1 qq (.lst [.ref ff, .non])) := SX.new gqq
      have nqq : qq ≠ p3 := fun z => (x8.sx z1 List.not_mem_nil).there (z ▸ gqq)
      have zd : DpD (hid [p3] (upd Z1 qq (.lst [.ref ff, .non]))) (.ref qq) (.list [.tuple [.str "knowledge", .bool true], .none]) := flag_ans (f := ff) (by rw [hid_of (by simpa using nqq)]; exact upd_same) (by rw [hid_of (by simpa using nff)]; exact z2 _ _ List.not_mem_nil e1)
      have zv := (x8.sx z1 List.not_mem_nil).sx z2 List.not_mem_nil
      have zw : SX [p3] E0 (upd Z1 qq (.lst [.ref ff, .non])) := w8.trans (nil_sx (z1.trans z2))
      have zx : SX [] B' (upd Z1 qq (.lst [.ref ff, .non])) := z1.trans z2
      generalize upd Z1 qq (.lst [.ref ff, .non]) = Z2 at zd zv zw zx
      walk_at "rd1"
      refine fin1 _ _ ⟨qq, rfl, zw, zv, ?_, odm (nil_sx zx) od8⟩
      rw [h0]
      exact zd
    · have h0 : b0 = true := by cases b0 <;> first | rfl | cases hc
      refine ⟨qd, rfl, w8, x8, ?_, od8⟩
      rw [h0] at dh8 ⊢
      exact dh8
    obtain ⟨qd2, rfl, w9, x9, dh9, od9⟩ := hJ
    walk_at "rd"
    refine ⟨p3, d, lk, kn, sts, looks, ks, rfl, x9, rdHid w9, h8, lkHid w9, lks.key, noz, sqT (knHid w9), gK2, kl8, fun vn dn Y6 y6 x10 hdn ngd => ?_⟩
    walk_at "rd1"
    refine fin0 _ _ ⟨vn, qd2, rfl, w9.trans y6, x10, ?_, odm y6 od9, ?_⟩
    · rw [h1]
      exact dh9.mono (hid_sx y6)
    · rw [if_pos h1]
      exact ⟨dn, hdn, ngd⟩
  · refine ⟨.ref kn, qd, rfl, w8, x8, ?_, od8, ?_⟩
    · rw [h1]
      exact dh8
    · rw [if_neg (by rw [h1]; exact Bool.false_ne_true)]
  obtain ⟨vn, qd1, rfl, w9, x9, dh9, od9, kn9⟩ := hJ
  clear w8 x8 dh8 od8
  walk_at "rd"
  refine x_ixL (sqL (w9 _ _ (by simpa using nD3) dE)) (v := .bl b2) (atI_nat (j := 2) rfl) ?_
  walk_at "rd"
  have knm : ∀ {A B : Hp} {v : V}, SX [p3] A B → (if b1 = true then ∃ dn, DpD (hid [p3] A) v dn ∧ ¬ GoodD looks dn else v = .ref kn) → (if b1 = true then ∃ dn, DpD (hid [p3] B) v dn ∧ ¬ GoodD looks dn else v = .ref kn) := fun s h => by
    split
    · rename_i e
      rw [if_pos e] at h
      obtain ⟨dn, a1, a2⟩ := h
      exact ⟨dn, a1.mono (hid_sx s), a2⟩
    · rename_i e
      rw [if_neg e] at h
      exact h
  refine x_joinS (fun σ' B' => ∃ (vm : V) (qd : Addr), σ' = [some (.ref a), some (.ref p3), some (.ref D), c, some (.int hands), some (.ref nl), some (.ref d), some (.ref x), some (.ref lt), some (.ref lk), some (.str (lookOf looks nm)), some (vn), none, some (.bl (moverIn ns st)), some (vm), c15, some (.str l), some (.ref qd), some (.str dt.shown), some (vo), some (.ref kn)] ∧ SX [p3] E0 B' ∧ Drw B' p3 ∧ DpD (hid [p3] B') (.ref qd) (ansD (dueA b0 b1 b2 false l0)) ∧ (if b0 = true then OddL P w (hid [p3] B') ns sts vo else vo = .ref lk) ∧ (if b1 = true then ∃ dn, DpD (hid [p3] B') vn dn ∧ ¬ GoodD looks dn else vn = .ref kn) ∧ (if b2 = true then OddM ns st (hid [p3] B') vm else vm = mvV mv)) (fun h2 fin0 => ?_) (fun h2 => ?_) (fun σ' B' hJ => ?_)
  · walk_at "rd"
    refine x_ixL (sqL (w9 _ _ (by simpa using nD3) dE)) (v := .bl b0) (atI_nat (j := 0) rfl) ?_
    walk_at "rd"
    refine x_and2 (c1 := !b0) (c2 := !b1) (fun h0 q => ?_) ?_
    · walk_at "rd"
      refine x_ixL (sqL (w9 _ _ (by simpa using nD3) dE)) (v := .bl b1) (atI_nat (j := 1) rfl) ?_
      walk_at "rd"
      exact q
    refine x_joinS (fun σ' B' => ∃ (qd : Addr), σ' = [some (.ref a), some (.ref p3), some (.ref D), c, some (.int hands), some (.ref nl), some (.ref d), some (.ref x), some (.ref lt), some (.ref lk), some (.str (lookOf looks nm)), some (vn), none, some (.bl (moverIn ns st)), some (mvV mv), c15, some (.str l), some (.ref qd), some (.str dt.shown), some (vo), some (.ref kn)] ∧ SX [p3] E0 B' ∧ Drw B' p3 ∧ DpD (hid [p3] B') (.ref qd) (ansD (dueA b0 b1 true false l0)) ∧ (if b0 = true then OddL P w (hid [p3] B') ns sts vo else vo = .ref lk) ∧ (if b1 = true then ∃ dn, DpD (hid [p3] B') vn dn ∧ ¬ GoodD looks dn else vn = .ref kn)) (fun hc fin1 => ?_) (fun hc => ?_) (fun σ' B' hJ => ?_)
    · obtain ⟨h0, h1⟩ : b0 = false ∧ b1 = false := by cases b0 <;> cases b1 <;> first | exact ⟨rfl, rfl⟩ | cases hc
      walk_at "rd"
      refine ⟨Nat.le_of_ble_eq_true rfl, fun ff gff => ?_⟩
      have z1 : SX [] B' (upd B' ff (.tup [.str "step", .bl true])) := SX.new gff
      have e1 : (upd B' ff (.tup [.str "step", .bl true])) ff = some (.tup [.str "step", .bl true]) := upd_same
      have nff : ff ≠ p3 := fun z => x9.there (z ▸ gff)
      generalize upd B' ff (.tup [.str "step", .bl true]) = Z1 at z1 e1
      walk_at "rd"
      refine ⟨Nat.le_of_ble_eq_true rfl, fun qq gqq => ?_⟩
      have z2 : SX [] Z1 (upd Z1 qq (.lst [.ref ff, .non])) := SX.new gqq
      have nqq : qq ≠ p3 := fun z => (x9.sx z1 List.not_mem_nil).there (z ▸ gqq)
      have zd : DpD (hid [p3] (upd Z1 qq (.lst [.ref ff, .non]))) (.ref qq) (.list [.tuple [.str "step", .bool true], .none]) := flag_ans (f := ff) (by rw [hid_of (by simpa using nqq)]; exact upd_same) (by rw [hid_of (by simpa using nff)]; exact z2 _ _ List.not_mem_nil e1)
      have zv := (x9.sx z1 List.not_mem_nil).sx z2 List.not_mem_nil
      have zw : SX [p3] E0 (upd Z1 qq (.lst [.ref ff, .non])) := w9.trans (nil_sx (z1.trans z2))
      have zx : SX [] B' (upd Z1 qq (.lst [.ref ff, .non])) := z1.trans z2
      generalize upd Z1 qq (.lst [.ref ff, .non]) = Z2 at zd zv zw zx
      walk_at "rd1"
      refine fin1 _ _ ⟨qq, rfl, zw, zv, ?_, odm (nil_sx zx) od9, knm (nil_sx zx) kn9⟩
      rw [h0, h1]
      exact zd
    · have hcc : b0 = true ∨ b1 = true := by cases b0 <;> cases b1 <;> first | exact .inl rfl | exact .inr rfl | cases hc
      refine ⟨qd1, rfl, w9, x9, ?_, od9, kn9⟩
      rcases hcc with h0 | h1
      · rw [h0] at dh9 ⊢
        exact dh9
      · rw [h1] at dh9 ⊢
        exact dh9
    obtain ⟨qd2, rfl, w10, x10, dh10, od10, kn10⟩ := hJ
    walk_at "rd"
    refine ⟨p3, d, kn, sts, ns, ks, st, rfl, x10, rdHid w10, h8, rws, stl _ (lookA_mem hms), sqT (knHid w10), ne, hms, fun vm Y6 y6 x11 om => ?_⟩
    walk_at "rd1"
    refine fin0 _ _ ⟨vm, qd2, rfl, w10.trans y6, x11, ?_, odm y6 od10, knm y6 kn10, ?_⟩
    · rw [h2]
      exact dh10.mono (hid_sx y6)
    · rw [if_pos h2]
      exact om
  · refine ⟨mvV mv, qd1, rfl, w9, x9, ?_, od9, kn9, ?_⟩
    · rw [h2]
      exact dh9
    · rw [if_neg (by rw [h2]; exact Bool.false_ne_true)]
  obtain ⟨vm, qd2, rfl, w10, x10, dh10, od10, kn10, vm10⟩ := hJ
  clear w9 x9 dh9 od9 kn9
  walk_at "rd"
  refine x_ixL (sqL (w10 _ _ (by simpa using nD3) dE)) (v := .bl b3) (atI_nat (j := 3) rfl) ?_
  walk_at "rd"
  have vmm : ∀ {A B : Hp} {v : V}, SX [p3] A B → (if b2 = true then OddM ns st (hid [p3] A) v else v = mvV mv) → (if b2 = true then OddM ns st (hid [p3] B) v else v = mvV mv) := fun s h => by
    split
    · rename_i e
      rw [if_pos e] at h
      exact h.ext (hid_ext s)
    · rename_i e
      rw [if_neg e] at h
      exact h
  refine x_joinS (fun σ' B' => ∃ (vl : V) (qd : Addr), σ' = [some (.ref a), some (.ref p3), some (.ref D), c, some (.int hands), some (.ref nl), some (.ref d), some (.ref x), some (.ref lt), some (.ref lk), some (.str (lookOf looks nm)), some (vn), none, some (.bl (moverIn ns st)), some (vm), c15, some (vl), some (.ref qd), some (.str dt.shown), some (vo), some (.ref kn)] ∧ SX [p3] E0 B' ∧ Drw B' p3 ∧ DpD (hid [p3] B') (.ref qd) (ansD (dueA b0 b1 b2 b3 l0)) ∧ (if b0 = true then OddL P w (hid [p3] B') ns sts vo else vo = .ref lk) ∧ (if b1 = true then ∃ dn, DpD (hid [p3] B') vn dn ∧ ¬ GoodD looks dn else vn = .ref kn) ∧ (if b2 = true then OddM ns st (hid [p3] B') vm else vm = mvV mv) ∧ (if b3 = true then ∃ dl, DpD (hid [p3] B') vl dl ∧ ShortD dl ∧ nameD dl = false else vl = .str l)) (fun h3 fin0 => ?_) (fun h3 => ?_) (fun σ' B' hJ => ?_)
  · walk_at "rd"
    refine x_ixL (sqL (w10 _ _ (by simpa using nD3) dE)) (v := .bl b0) (atI_nat (j := 0) rfl) ?_
    walk_at "rd"
    refine x_and3 (c1 := !b0) (c2 := !b1) (c3 := !b2) (fun h0 q => ?_) ?_
    · walk_at "rd"
      refine x_ixL (sqL (w10 _ _ (by simpa using nD3) dE)) (v := .bl b1) (atI_nat (j := 1) rfl) ?_
      walk_at "rd"
      refine x_and2 (c1 := !b1) (c2 := !b2) (fun h1 q => ?_) q
      walk_at "rd"
      refine x_ixL (sqL (w10 _ _ (by simpa using nD3) dE)) (v := .bl b2) (atI_nat (j := 2) rfl) ?_
      walk_at "rd"
      exact q
    refine x_joinS (fun σ' B' => ∃ (qd : Addr), σ' = [some (.ref a), some (.ref p3), some (.ref D), c, some (.int hands), some (.ref nl), some (.ref d), some (.ref x), some (.ref lt), some (.ref lk), some (.str (lookOf looks nm)), some (vn), none, some (.bl (moverIn ns st)), some (vm), c15, some (.str l), some (.ref qd), some (.str dt.shown), some (vo), some (.ref kn)] ∧ SX [p3] E0 B' ∧ Drw B' p3 ∧ DpD (hid [p3] B') (.ref qd) (ansD (dueA b0 b1 b2 true l0)) ∧ (if b0 = true then OddL P w (hid [p3] B') ns sts vo else vo = .ref lk) ∧ (if b1 = true then ∃ dn, DpD (hid [p3] B') vn dn ∧ ¬ GoodD looks dn else vn = .ref kn) ∧ (if b2 = true then OddM ns st (hid [p3] B') vm else vm = mvV mv)) (fun hc fin1 => ?_) (fun hc => ?_) (fun σ' B' hJ => ?_)
    · obtain ⟨h0, h1, h2⟩ : b0 = false ∧ b1 = false ∧ b2 = false := by cases b0 <;> cases b1 <;> cases b2 <;> first | exact ⟨rfl, rfl, rfl⟩ | cases hc
      walk_at "rd"
      refine ⟨Nat.le_of_ble_eq_true rfl, fun ff gff => ?_⟩
      have z1 : SX [] B' (upd B' ff (.tup [.str "look", .bl true])) := SX.new gff
      have e1 : (upd B' ff (.tup [.str "look", .bl true])) ff = some (.tup [.str "look", .bl true]) := upd_same
      have nff : ff ≠ p3 := fun z => x10.there (z ▸ gff)
      generalize upd B' ff (.tup [.str "look", .bl true]) = Z1 at z1 e1
      walk_at "rd"
      refine ⟨Nat.le_of_ble_eq_true rfl, fun qq gqq => ?_⟩
      have z2 : SX [] Z1 (upd Z1 qq (.lst [.ref ff, .non])) := SX.new gqq
      have nqq : qq ≠ p3 := fun z => (x10.sx z1 List.not_mem_nil).there (z ▸ gqq)
      have zd : DpD (hid [p3] (upd Z1 qq (.lst [.ref ff, .non]))) (.ref qq) (.list [.tuple [.str "look", .bool true], .none]) := flag_ans (f := ff) (by rw [hid_of (by simpa using nqq)]; exact upd_same) (by rw [hid_of (by simpa using nff)]; exact z2 _ _ List.not_mem_nil e1)
      have zv := (x10.sx z1 List.not_mem_nil).sx z2 List.not_mem_nil
      have zw : SX [p3] E0 (upd Z1 qq (.lst [.ref ff, .non])) := w10.trans (nil_sx (z1.trans z2))
      have zx : SX [] B' (upd Z1 qq (.lst [.ref ff, .non])) := z1.trans z2
      generalize upd Z1 qq (.lst [.ref ff, .non]) = Z2 at zd zv zw zx
      walk_at "rd1"
      refine fin1 _ _ ⟨qq, rfl, zw, zv, ?_, odm (nil_sx zx) od10, knm (nil_sx zx) kn10, vmm (nil_sx zx) vm10⟩
      rw [h0, h1, h2]
      exact zd
    · have hcc : b0 = true ∨ b1 = true ∨ b2 = true := by cases b0 <;> cases b1 <;> cases b2 <;> first | exact .inl rfl | exact .inr (.inl rfl) | exact .inr (.inr rfl) | cases hc
      refine ⟨qd2, rfl, w10, x10, ?_, od10, kn10, vm10⟩
      rcases hcc with h | h | h
      · rw [h] at dh10 ⊢
        exact dh10
      · rw [h] at dh10 ⊢
        exact dh10
      · rw [h] at dh10 ⊢
        exact dh10
    obtain ⟨qd3, rfl, w11, x11, dh11, od11, kn11, vm11⟩ := hJ
    walk_at "rd"
    refine ⟨Nat.le_of_ble_eq_true rfl, fun le gle => ?_⟩
    walk_at "rd"
    refine ⟨Nat.le_of_ble_eq_true rfl, fun ll gll => ?_⟩
    have y1 : SX [] B' (upd B' le (.lst [.str "a"])) := SX.new gle
    have ee : (upd B' le (.lst [.str "a"])) le = some (.lst [.str "a"]) := upd_same
    generalize upd B' le (.lst [.str "a"]) = Y1 at y1 ee gll
    have y2 : SX [] Y1 (upd Y1 ll (.lst (oddLs le))) := SX.new gll
    have el9 : (upd Y1 ll (.lst (oddLs le))) ll = some (.lst (oddLs le)) := upd_same
    change tCall _ _ _ _ _ (upd Y1 ll (.lst (oddLs le))) _
    generalize upd Y1 ll (.lst (oddLs le)) = Y2 at y2 el9
    have n1 : le ≠ p3 := fun z => x11.there (z ▸ gle)
    have n2 : ll ≠ p3 := fun z => (x11.sx y1 List.not_mem_nil).there (z ▸ gll)
    have y12 := y1.trans y2
    walk_at "rd"
    refine ⟨p3, 6, rfl, x11.sx y12 List.not_mem_nil, by decide, by decide, fun r Y3 r0 r1 y3 x12 => ?_⟩
    obtain ⟨vl, eo, mo⟩ := at_memL (xs := oddLs le) r0 r1
    refine x_ixL (sqL (y3 _ _ (by simpa using n2) el9)) eo ?_
    have yA : SX [p3] B' Y3 := (nil_sx y12).trans y3
    walk_at "rd1"
    refine fin0 _ _ ⟨vl, qd3, rfl, w11.trans yA, x12, ?_, odm yA od11, knm yA kn11, vmm yA vm11, ?_⟩
    · rw [h3]
      exact dh11.mono (hid_sx yA)
    · rw [if_pos h3]
      exact oddLs_data mo (by rw [hid_of (by simpa using n1)]; exact y3 _ _ (by simpa using n1) (y2 _ _ List.not_mem_nil ee))
  · refine ⟨.str l, qd2, rfl, w10, x10, ?_, od10, kn10, vm10, ?_⟩
    · rw [h3]
      exact dh10
    · rw [if_neg (by rw [h3]; exact Bool.false_ne_true)]
  obtain ⟨vl, qd3, rfl, w11, x11, dh11, od11, kn11, vm11, vl11⟩ := hJ
  clear w10 x10 dh10 od10 kn10 vm10
  have out : ∀ b o, hid [p3] B' b = some o → B' b = some o := fun b o h => (hid_at h).2
  have outE : ExtR (hid [p3] B') B' := Ext.r out
  obtain ⟨dm, hdm, sdm⟩ : ∃ dm, DpD B' vm dm ∧ SeqAt.shaped dm = true := by
    split at vm11
    · obtain ⟨dm, a1, a2, _⟩ := vm11
      exact ⟨dm, a1.mono out, a2⟩
    · subst vm11
      exact mvD
  have ao := aft_due (P := P) (w := w) (T := T) (B := B') (b0 := b0) (b1 := b1) (b2 := b2) (b3 := b3) (lk := lk) (looks := looks) (ks := ks) (st := st) (mv := mv) (l := l) (vo := vo) (vn := vn) (vm := vm) (vl := vl) (waAt w11) (ltAt w11) tbT ok lks hms gK2 kl8 fit nlb (by
    split
    · rename_i e
      rw [if_pos e] at od11
      obtain ⟨d', o', tg, sho, nr'⟩ := od11
      exact ⟨d', o', tg.mono outE, sho, nr'⟩
    · rename_i e
      rw [if_neg e] at od11
      exact ⟨od11, lkAt w11⟩) (by
    split
    · rename_i e
      rw [if_pos e] at kn11
      obtain ⟨dn, a1, a2⟩ := kn11
      exact ⟨dn, a1.mono out, a2⟩
    · rename_i e
      rw [if_neg e] at kn11
      subst kn11
      exact .tup (knAt w11) (DpDs.strs _)) (by
    split
    · rename_i e
      rw [if_pos e] at vm11
      exact vm11.ext outE
    · rename_i e
      rw [if_neg e] at vm11
      exact vm11) (by
    split
    · rename_i e
      rw [if_pos e] at vl11
      obtain ⟨dl, a1, a2, a3⟩ := vl11
      exact ⟨dl, a1.mono out, a2, a3⟩
    · rename_i e
      rw [if_neg e] at vl11
      exact vl11)
  rw [hl0] at ao
  walk_at "rd"
  refine ⟨x, lt, vo, vn, vm, vl, hands, n0, tbl, ns, _, dm, rfl, ao, hdm, sdm, fun q4 F5 hq4 t4 d4 => ?_⟩
  walk_at "rd"
  exact x_eqDat d4 ((dh11.mono out).nil t4) (ans_shaped l0n b0 b1 b2 b3) (k _)
end
end M

namespace M
open PySem L2
def spLaw (K : PySem.W.Frag) : Sp := fun vs H Q _ => ∃ (a : Addr) (ns : List Int), vs = [.ref a] ∧ SqL K H a (ns.map V.int) ∧ ns.length ≤ 10000 ∧ ∀ H', Q (.bl true) H'
theorem all_mk {l : PySem.W.OpenLaw} [SupX.PX l.prog] {w : World} {K : PySem.W.Frag} {h : Heap} {mg : Str → Option Value} {fa : Addr} (X : K.In h) (G : h.Ns mainGlobals mg) (hfa : mg "law" = some (.ref fa))
    {f_is_integer f_is_name f_is_pair f_is_moves f_is_draws f_is_stand f_are_stands f_copied f_leads f_is_ringless f_Work_init f_Work_row f_Work_kind f_Work_mover f_Work_steps f_Work_to f_law_open f_law_draw f_law_names f_law_target f_law_menu f_law_stand f_law_stands f_law_build f_law_steps f_law_to f_law_mover f_sight_sort f_is_looks f_is_knowledge f_is_own f_groups_after f_after f_law_lot f_law_sort f_law_looks f_law_asked f_law_due f_law_near_looks f_law_odd_move f_law_odd_knowledge f_law q_Work : Addr}
    {od_is_integer an_is_integer od_is_name an_is_name od_is_pair an_is_pair od_is_moves an_is_moves od_is_draws an_is_draws od_is_stand an_is_stand od_are_stands an_are_stands od_copied an_copied od_leads an_leads od_is_ringless an_is_ringless od_Work_init an_Work_init od_Work_row an_Work_row od_Work_kind an_Work_kind od_Work_mover an_Work_mover od_Work_steps an_Work_steps od_Work_to an_Work_to od_law_open an_law_open od_law_draw an_law_draw od_law_names an_law_names od_law_target an_law_target od_law_menu an_law_menu od_law_stand an_law_stand od_law_stands an_law_stands od_law_build an_law_build od_law_steps an_law_steps od_law_to an_law_to od_law_mover an_law_mover od_sight_sort an_sight_sort od_is_looks an_is_looks od_is_knowledge an_is_knowledge od_is_own an_is_own od_groups_after an_groups_after od_after an_after od_law_lot an_law_lot od_law_sort an_law_sort od_law_looks an_law_looks od_law_asked an_law_asked od_law_due an_law_due od_law_near_looks an_law_near_looks od_law_odd_move an_law_odd_move od_law_odd_knowledge an_law_odd_knowledge od_law an_law : Option Addr} {sl_is_integer sl_is_name sl_is_pair sl_is_moves sl_is_draws sl_is_stand sl_are_stands sl_copied sl_leads sl_is_ringless sl_Work_init sl_Work_row sl_Work_kind sl_Work_mover sl_Work_steps sl_Work_to sl_law_open sl_law_draw sl_law_names sl_law_target sl_law_menu sl_law_stand sl_law_stands sl_law_build sl_law_steps sl_law_to sl_law_mover sl_sight_sort sl_is_looks sl_is_knowledge sl_is_own sl_groups_after sl_after sl_law_lot sl_law_sort sl_law_looks sl_law_asked sl_law_due sl_law_near_looks sl_law_odd_move sl_law_odd_knowledge sl_law : Array (Option Value)}
    {oc_is_integer kV_is_integer dc_is_integer pm_is_integer cd_is_integer ct_is_integer oc_is_name kV_is_name dc_is_name pm_is_name cd_is_name ct_is_name oc_is_pair kV_is_pair dc_is_pair pm_is_pair cd_is_pair ct_is_pair oc_is_moves kV_is_moves dc_is_moves pm_is_moves cd_is_moves ct_is_moves oc_is_draws kV_is_draws dc_is_draws pm_is_draws cd_is_draws ct_is_draws oc_is_stand kV_is_stand dc_is_stand pm_is_stand cd_is_stand ct_is_stand oc_are_stands kV_are_stands dc_are_stands pm_are_stands cd_are_stands ct_are_stands oc_copied kV_copied dc_copied pm_copied cd_copied ct_copied oc_leads kV_leads dc_leads pm_leads cd_leads ct_leads oc_is_ringless kV_is_ringless dc_is_ringless pm_is_ringless cd_is_ringless ct_is_ringless oc_Work_init kV_Work_init dc_Work_init pm_Work_init cd_Work_init ct_Work_init oc_Work_row kV_Work_row dc_Work_row pm_Work_row cd_Work_row ct_Work_row oc_Work_kind kV_Work_kind dc_Work_kind pm_Work_kind cd_Work_kind ct_Work_kind oc_Work_mover kV_Work_mover dc_Work_mover pm_Work_mover cd_Work_mover ct_Work_mover oc_Work_steps kV_Work_steps dc_Work_steps pm_Work_steps cd_Work_steps ct_Work_steps oc_Work_to kV_Work_to dc_Work_to pm_Work_to cd_Work_to ct_Work_to oc_law_open kV_law_open dc_law_open pm_law_open cd_law_open ct_law_open oc_law_draw kV_law_draw dc_law_draw pm_law_draw cd_law_draw ct_law_draw oc_law_names kV_law_names dc_law_names pm_law_names cd_law_names ct_law_names oc_law_target kV_law_target dc_law_target pm_law_target cd_law_target ct_law_target oc_law_menu kV_law_menu dc_law_menu pm_law_menu cd_law_menu ct_law_menu oc_law_stand kV_law_stand dc_law_stand pm_law_stand cd_law_stand ct_law_stand oc_law_stands kV_law_stands dc_law_stands pm_law_stands cd_law_stands ct_law_stands oc_law_build kV_law_build dc_law_build pm_law_build cd_law_build ct_law_build oc_law_steps kV_law_steps dc_law_steps pm_law_steps cd_law_steps ct_law_steps oc_law_to kV_law_to dc_law_to pm_law_to cd_law_to ct_law_to oc_law_mover kV_law_mover dc_law_mover pm_law_mover cd_law_mover ct_law_mover oc_sight_sort kV_sight_sort dc_sight_sort pm_sight_sort cd_sight_sort ct_sight_sort oc_is_looks kV_is_looks dc_is_looks pm_is_looks cd_is_looks ct_is_looks oc_is_knowledge kV_is_knowledge dc_is_knowledge pm_is_knowledge cd_is_knowledge ct_is_knowledge oc_is_own kV_is_own dc_is_own pm_is_own cd_is_own ct_is_own oc_groups_after kV_groups_after dc_groups_after pm_groups_after cd_groups_after ct_groups_after oc_after kV_after dc_after pm_after cd_after ct_after oc_law_lot kV_law_lot dc_law_lot pm_law_lot cd_law_lot ct_law_lot oc_law_sort kV_law_sort dc_law_sort pm_law_sort cd_law_sort ct_law_sort oc_law_looks kV_law_looks dc_law_looks pm_law_looks cd_law_looks ct_law_looks oc_law_asked kV_law_asked dc_law_asked pm_law_asked cd_law_asked ct_law_asked oc_law_due kV_law_due dc_law_due pm_law_due cd_law_due ct_law_due oc_law_near_looks kV_law_near_looks dc_law_near_looks pm_law_near_looks cd_law_near_looks ct_law_near_looks oc_law_odd_move kV_law_odd_move dc_law_odd_move pm_law_odd_move cd_law_odd_move ct_law_odd_move oc_law_odd_knowledge kV_law_odd_knowledge dc_law_odd_knowledge pm_law_odd_knowledge cd_law_odd_knowledge ct_law_odd_knowledge oc_law kV_law dc_law pm_law cd_law ct_law : Value}
    (a_Work : PySem.W.nsIn K mainGlobals "Work" = some (some (.ref q_Work)))
    (a_is_integer : PySem.W.nsIn K mainGlobals "is_integer" = some (some (.ref f_is_integer)))
    (l_is_integer : K.lookup f_is_integer = some ⟨oc_is_integer, od_is_integer, .func (PySem.W.fnOf "is_integer" "is_integer" (defArgs s_is_integer) (defBody s_is_integer) (defScope s_is_integer) .none kV_is_integer dc_is_integer pm_is_integer an_is_integer cd_is_integer ct_is_integer), sl_is_integer⟩) (c_is_integer : PySem.W.codeIn K cd_is_integer "is_integer" = true) (k_is_integer : PySem.W.keepIn K (.ref f_is_integer) = true)
    (a_is_name : PySem.W.nsIn K mainGlobals "is_name" = some (some (.ref f_is_name)))
    (l_is_name : K.lookup f_is_name = some ⟨oc_is_name, od_is_name, .func (PySem.W.fnOf "is_name" "is_name" (defArgs s_is_name) (defBody s_is_name) (defScope s_is_name) .none kV_is_name dc_is_name pm_is_name an_is_name cd_is_name ct_is_name), sl_is_name⟩) (c_is_name : PySem.W.codeIn K cd_is_name "is_name" = true) (k_is_name : PySem.W.keepIn K (.ref f_is_name) = true)
    (a_is_pair : PySem.W.nsIn K mainGlobals "is_pair" = some (some (.ref f_is_pair)))
    (l_is_pair : K.lookup f_is_pair = some ⟨oc_is_pair, od_is_pair, .func (PySem.W.fnOf "is_pair" "is_pair" (defArgs s_is_pair) (defBody s_is_pair) (defScope s_is_pair) .none kV_is_pair dc_is_pair pm_is_pair an_is_pair cd_is_pair ct_is_pair), sl_is_pair⟩) (c_is_pair : PySem.W.codeIn K cd_is_pair "is_pair" = true) (k_is_pair : PySem.W.keepIn K (.ref f_is_pair) = true)
    (a_is_moves : PySem.W.nsIn K mainGlobals "is_moves" = some (some (.ref f_is_moves)))
    (l_is_moves : K.lookup f_is_moves = some ⟨oc_is_moves, od_is_moves, .func (PySem.W.fnOf "is_moves" "is_moves" (defArgs s_is_moves) (defBody s_is_moves) (defScope s_is_moves) .none kV_is_moves dc_is_moves pm_is_moves an_is_moves cd_is_moves ct_is_moves), sl_is_moves⟩) (c_is_moves : PySem.W.codeIn K cd_is_moves "is_moves" = true) (k_is_moves : PySem.W.keepIn K (.ref f_is_moves) = true)
    (a_is_draws : PySem.W.nsIn K mainGlobals "is_draws" = some (some (.ref f_is_draws)))
    (l_is_draws : K.lookup f_is_draws = some ⟨oc_is_draws, od_is_draws, .func (PySem.W.fnOf "is_draws" "is_draws" (defArgs s_is_draws) (defBody s_is_draws) (defScope s_is_draws) .none kV_is_draws dc_is_draws pm_is_draws an_is_draws cd_is_draws ct_is_draws), sl_is_draws⟩) (c_is_draws : PySem.W.codeIn K cd_is_draws "is_draws" = true) (k_is_draws : PySem.W.keepIn K (.ref f_is_draws) = true)
    (a_is_stand : PySem.W.nsIn K mainGlobals "is_stand" = some (some (.ref f_is_stand)))
    (l_is_stand : K.lookup f_is_stand = some ⟨oc_is_stand, od_is_stand, .func (PySem.W.fnOf "is_stand" "is_stand" (defArgs s_is_stand) (defBody s_is_stand) (defScope s_is_stand) .none kV_is_stand dc_is_stand pm_is_stand an_is_stand cd_is_stand ct_is_stand), sl_is_stand⟩) (c_is_stand : PySem.W.codeIn K cd_is_stand "is_stand" = true) (k_is_stand : PySem.W.keepIn K (.ref f_is_stand) = true)
    (a_are_stands : PySem.W.nsIn K mainGlobals "are_stands" = some (some (.ref f_are_stands)))
    (l_are_stands : K.lookup f_are_stands = some ⟨oc_are_stands, od_are_stands, .func (PySem.W.fnOf "are_stands" "are_stands" (defArgs s_are_stands) (defBody s_are_stands) (defScope s_are_stands) .none kV_are_stands dc_are_stands pm_are_stands an_are_stands cd_are_stands ct_are_stands), sl_are_stands⟩) (c_are_stands : PySem.W.codeIn K cd_are_stands "are_stands" = true) (k_are_stands : PySem.W.keepIn K (.ref f_are_stands) = true)
    (a_copied : PySem.W.nsIn K mainGlobals "copied" = some (some (.ref f_copied)))
    (l_copied : K.lookup f_copied = some ⟨oc_copied, od_copied, .func (PySem.W.fnOf "copied" "copied" (defArgs s_copied) (defBody s_copied) (defScope s_copied) .none kV_copied dc_copied pm_copied an_copied cd_copied ct_copied), sl_copied⟩) (c_copied : PySem.W.codeIn K cd_copied "copied" = true) (k_copied : PySem.W.keepIn K (.ref f_copied) = true)
    (a_leads : PySem.W.nsIn K mainGlobals "leads" = some (some (.ref f_leads)))
    (l_leads : K.lookup f_leads = some ⟨oc_leads, od_leads, .func (PySem.W.fnOf "leads" "leads" (defArgs s_leads) (defBody s_leads) (defScope s_leads) .none kV_leads dc_leads pm_leads an_leads cd_leads ct_leads), sl_leads⟩) (c_leads : PySem.W.codeIn K cd_leads "leads" = true) (k_leads : PySem.W.keepIn K (.ref f_leads) = true)
    (a_is_ringless : PySem.W.nsIn K mainGlobals "is_ringless" = some (some (.ref f_is_ringless)))
    (l_is_ringless : K.lookup f_is_ringless = some ⟨oc_is_ringless, od_is_ringless, .func (PySem.W.fnOf "is_ringless" "is_ringless" (defArgs s_is_ringless) (defBody s_is_ringless) (defScope s_is_ringless) .none kV_is_ringless dc_is_ringless pm_is_ringless an_is_ringless cd_is_ringless ct_is_ringless), sl_is_ringless⟩) (c_is_ringless : PySem.W.codeIn K cd_is_ringless "is_ringless" = true) (k_is_ringless : PySem.W.keepIn K (.ref f_is_ringless) = true)
    (a_Work_init : PySem.W.findIn K (.ref q_Work) "__init__" = some (some (.ref f_Work_init))) (i_Work_init : PySem.W.isFn K (.ref f_Work_init) = true)
    (l_Work_init : K.lookup f_Work_init = some ⟨oc_Work_init, od_Work_init, .func (PySem.W.fnOf "__init__" "Work.__init__" (defArgs s_Work_init) (defBody s_Work_init) (defScope s_Work_init) .none kV_Work_init dc_Work_init pm_Work_init an_Work_init cd_Work_init ct_Work_init), sl_Work_init⟩) (c_Work_init : PySem.W.codeIn K cd_Work_init "Work.__init__" = true) (k_Work_init : PySem.W.keepIn K (.ref f_Work_init) = true)
    (a_Work_row : PySem.W.findIn K (.ref q_Work) "row" = some (some (.ref f_Work_row))) (i_Work_row : PySem.W.isFn K (.ref f_Work_row) = true)
    (l_Work_row : K.lookup f_Work_row = some ⟨oc_Work_row, od_Work_row, .func (PySem.W.fnOf "row" "Work.row" (defArgs s_Work_row) (defBody s_Work_row) (defScope s_Work_row) .none kV_Work_row dc_Work_row pm_Work_row an_Work_row cd_Work_row ct_Work_row), sl_Work_row⟩) (c_Work_row : PySem.W.codeIn K cd_Work_row "Work.row" = true) (k_Work_row : PySem.W.keepIn K (.ref f_Work_row) = true)
    (a_Work_kind : PySem.W.findIn K (.ref q_Work) "kind" = some (some (.ref f_Work_kind))) (i_Work_kind : PySem.W.isFn K (.ref f_Work_kind) = true)
    (l_Work_kind : K.lookup f_Work_kind = some ⟨oc_Work_kind, od_Work_kind, .func (PySem.W.fnOf "kind" "Work.kind" (defArgs s_Work_kind) (defBody s_Work_kind) (defScope s_Work_kind) .none kV_Work_kind dc_Work_kind pm_Work_kind an_Work_kind cd_Work_kind ct_Work_kind), sl_Work_kind⟩) (c_Work_kind : PySem.W.codeIn K cd_Work_kind "Work.kind" = true) (k_Work_kind : PySem.W.keepIn K (.ref f_Work_kind) = true)
    (a_Work_mover : PySem.W.findIn K (.ref q_Work) "mover" = some (some (.ref f_Work_mover))) (i_Work_mover : PySem.W.isFn K (.ref f_Work_mover) = true)
    (l_Work_mover : K.lookup f_Work_mover = some ⟨oc_Work_mover, od_Work_mover, .func (PySem.W.fnOf "mover" "Work.mover" (defArgs s_Work_mover) (defBody s_Work_mover) (defScope s_Work_mover) .none kV_Work_mover dc_Work_mover pm_Work_mover an_Work_mover cd_Work_mover ct_Work_mover), sl_Work_mover⟩) (c_Work_mover : PySem.W.codeIn K cd_Work_mover "Work.mover" = true) (k_Work_mover : PySem.W.keepIn K (.ref f_Work_mover) = true)
    (a_Work_steps : PySem.W.findIn K (.ref q_Work) "steps" = some (some (.ref f_Work_steps))) (i_Work_steps : PySem.W.isFn K (.ref f_Work_steps) = true)
    (l_Work_steps : K.lookup f_Work_steps = some ⟨oc_Work_steps, od_Work_steps, .func (PySem.W.fnOf "steps" "Work.steps" (defArgs s_Work_steps) (defBody s_Work_steps) (defScope s_Work_steps) .none kV_Work_steps dc_Work_steps pm_Work_steps an_Work_steps cd_Work_steps ct_Work_steps), sl_Work_steps⟩) (c_Work_steps : PySem.W.codeIn K cd_Work_steps "Work.steps" = true) (k_Work_steps : PySem.W.keepIn K (.ref f_Work_steps) = true)
    (a_Work_to : PySem.W.findIn K (.ref q_Work) "to" = some (some (.ref f_Work_to))) (i_Work_to : PySem.W.isFn K (.ref f_Work_to) = true)
    (l_Work_to : K.lookup f_Work_to = some ⟨oc_Work_to, od_Work_to, .func (PySem.W.fnOf "to" "Work.to" (defArgs s_Work_to) (defBody s_Work_to) (defScope s_Work_to) .none kV_Work_to dc_Work_to pm_Work_to an_Work_to cd_Work_to ct_Work_to), sl_Work_to⟩) (c_Work_to : PySem.W.codeIn K cd_Work_to "Work.to" = true) (k_Work_to : PySem.W.keepIn K (.ref f_Work_to) = true)
    (a_law_open : PySem.W.nsIn K mainGlobals "_law_open" = some (some (.ref f_law_open)))
    (l_law_open : K.lookup f_law_open = some ⟨oc_law_open, od_law_open, .func (PySem.W.fnOf "_law_open" "_law_open" (defArgs s_law_open) (defBody s_law_open) (defScope s_law_open) .none kV_law_open dc_law_open pm_law_open an_law_open cd_law_open ct_law_open), sl_law_open⟩) (c_law_open : PySem.W.codeIn K cd_law_open "_law_open" = true) (k_law_open : PySem.W.keepIn K (.ref f_law_open) = true)
    (a_law_draw : PySem.W.nsIn K mainGlobals "_law_draw" = some (some (.ref f_law_draw)))
    (l_law_draw : K.lookup f_law_draw = some ⟨oc_law_draw, od_law_draw, .func (PySem.W.fnOf "_law_draw" "_law_draw" (defArgs s_law_draw) (defBody s_law_draw) (defScope s_law_draw) .none kV_law_draw dc_law_draw pm_law_draw an_law_draw cd_law_draw ct_law_draw), sl_law_draw⟩) (c_law_draw : PySem.W.codeIn K cd_law_draw "_law_draw" = true) (k_law_draw : PySem.W.keepIn K (.ref f_law_draw) = true)
    (a_law_names : PySem.W.nsIn K mainGlobals "_law_names" = some (some (.ref f_law_names)))
    (l_law_names : K.lookup f_law_names = some ⟨oc_law_names, od_law_names, .func (PySem.W.fnOf "_law_names" "_law_names" (defArgs s_law_names) (defBody s_law_names) (defScope s_law_names) .none kV_law_names dc_law_names pm_law_names an_law_names cd_law_names ct_law_names), sl_law_names⟩) (c_law_names : PySem.W.codeIn K cd_law_names "_law_names" = true) (k_law_names : PySem.W.keepIn K (.ref f_law_names) = true)
    (a_law_target : PySem.W.nsIn K mainGlobals "_law_target" = some (some (.ref f_law_target)))
    (l_law_target : K.lookup f_law_target = some ⟨oc_law_target, od_law_target, .func (PySem.W.fnOf "_law_target" "_law_target" (defArgs s_law_target) (defBody s_law_target) (defScope s_law_target) .none kV_law_target dc_law_target pm_law_target an_law_target cd_law_target ct_law_target), sl_law_target⟩) (c_law_target : PySem.W.codeIn K cd_law_target "_law_target" = true) (k_law_target : PySem.W.keepIn K (.ref f_law_target) = true)
    (a_law_menu : PySem.W.nsIn K mainGlobals "_law_menu" = some (some (.ref f_law_menu)))
    (l_law_menu : K.lookup f_law_menu = some ⟨oc_law_menu, od_law_menu, .func (PySem.W.fnOf "_law_menu" "_law_menu" (defArgs s_law_menu) (defBody s_law_menu) (defScope s_law_menu) .none kV_law_menu dc_law_menu pm_law_menu an_law_menu cd_law_menu ct_law_menu), sl_law_menu⟩) (c_law_menu : PySem.W.codeIn K cd_law_menu "_law_menu" = true) (k_law_menu : PySem.W.keepIn K (.ref f_law_menu) = true)
    (a_law_stand : PySem.W.nsIn K mainGlobals "_law_stand" = some (some (.ref f_law_stand)))
    (l_law_stand : K.lookup f_law_stand = some ⟨oc_law_stand, od_law_stand, .func (PySem.W.fnOf "_law_stand" "_law_stand" (defArgs s_law_stand) (defBody s_law_stand) (defScope s_law_stand) .none kV_law_stand dc_law_stand pm_law_stand an_law_stand cd_law_stand ct_law_stand), sl_law_stand⟩) (c_law_stand : PySem.W.codeIn K cd_law_stand "_law_stand" = true) (k_law_stand : PySem.W.keepIn K (.ref f_law_stand) = true)
    (a_law_stands : PySem.W.nsIn K mainGlobals "_law_stands" = some (some (.ref f_law_stands)))
    (l_law_stands : K.lookup f_law_stands = some ⟨oc_law_stands, od_law_stands, .func (PySem.W.fnOf "_law_stands" "_law_stands" (defArgs s_law_stands) (defBody s_law_stands) (defScope s_law_stands) .none kV_law_stands dc_law_stands pm_law_stands an_law_stands cd_law_stands ct_law_stands), sl_law_stands⟩) (c_law_stands : PySem.W.codeIn K cd_law_stands "_law_stands" = true) (k_law_stands : PySem.W.keepIn K (.ref f_law_stands) = true)
    (a_law_build : PySem.W.nsIn K mainGlobals "_law_build" = some (some (.ref f_law_build)))
    (l_law_build : K.lookup f_law_build = some ⟨oc_law_build, od_law_build, .func (PySem.W.fnOf "_law_build" "_law_build" (defArgs s_law_build) (defBody s_law_build) (defScope s_law_build) .none kV_law_build dc_law_build pm_law_build an_law_build cd_law_build ct_law_build), sl_law_build⟩) (c_law_build : PySem.W.codeIn K cd_law_build "_law_build" = true) (k_law_build : PySem.W.keepIn K (.ref f_law_build) = true)
    (a_law_steps : PySem.W.nsIn K mainGlobals "_law_steps" = some (some (.ref f_law_steps)))
    (l_law_steps : K.lookup f_law_steps = some ⟨oc_law_steps, od_law_steps, .func (PySem.W.fnOf "_law_steps" "_law_steps" (defArgs s_law_steps) (defBody s_law_steps) (defScope s_law_steps) .none kV_law_steps dc_law_steps pm_law_steps an_law_steps cd_law_steps ct_law_steps), sl_law_steps⟩) (c_law_steps : PySem.W.codeIn K cd_law_steps "_law_steps" = true) (k_law_steps : PySem.W.keepIn K (.ref f_law_steps) = true)
    (a_law_to : PySem.W.nsIn K mainGlobals "_law_to" = some (some (.ref f_law_to)))
    (l_law_to : K.lookup f_law_to = some ⟨oc_law_to, od_law_to, .func (PySem.W.fnOf "_law_to" "_law_to" (defArgs s_law_to) (defBody s_law_to) (defScope s_law_to) .none kV_law_to dc_law_to pm_law_to an_law_to cd_law_to ct_law_to), sl_law_to⟩) (c_law_to : PySem.W.codeIn K cd_law_to "_law_to" = true) (k_law_to : PySem.W.keepIn K (.ref f_law_to) = true)
    (a_law_mover : PySem.W.nsIn K mainGlobals "_law_mover" = some (some (.ref f_law_mover)))
    (l_law_mover : K.lookup f_law_mover = some ⟨oc_law_mover, od_law_mover, .func (PySem.W.fnOf "_law_mover" "_law_mover" (defArgs s_law_mover) (defBody s_law_mover) (defScope s_law_mover) .none kV_law_mover dc_law_mover pm_law_mover an_law_mover cd_law_mover ct_law_mover), sl_law_mover⟩) (c_law_mover : PySem.W.codeIn K cd_law_mover "_law_mover" = true) (k_law_mover : PySem.W.keepIn K (.ref f_law_mover) = true)
    (a_sight_sort : PySem.W.nsIn K mainGlobals "sight_sort" = some (some (.ref f_sight_sort)))
    (l_sight_sort : K.lookup f_sight_sort = some ⟨oc_sight_sort, od_sight_sort, .func (PySem.W.fnOf "sight_sort" "sight_sort" (defArgs s_sight_sort) (defBody s_sight_sort) (defScope s_sight_sort) .none kV_sight_sort dc_sight_sort pm_sight_sort an_sight_sort cd_sight_sort ct_sight_sort), sl_sight_sort⟩) (c_sight_sort : PySem.W.codeIn K cd_sight_sort "sight_sort" = true) (k_sight_sort : PySem.W.keepIn K (.ref f_sight_sort) = true)
    (a_is_looks : PySem.W.nsIn K mainGlobals "is_looks" = some (some (.ref f_is_looks)))
    (l_is_looks : K.lookup f_is_looks = some ⟨oc_is_looks, od_is_looks, .func (PySem.W.fnOf "is_looks" "is_looks" (defArgs s_is_looks) (defBody s_is_looks) (defScope s_is_looks) .none kV_is_looks dc_is_looks pm_is_looks an_is_looks cd_is_looks ct_is_looks), sl_is_looks⟩) (c_is_looks : PySem.W.codeIn K cd_is_looks "is_looks" = true) (k_is_looks : PySem.W.keepIn K (.ref f_is_looks) = true)
    (a_is_knowledge : PySem.W.nsIn K mainGlobals "is_knowledge" = some (some (.ref f_is_knowledge)))
    (l_is_knowledge : K.lookup f_is_knowledge = some ⟨oc_is_knowledge, od_is_knowledge, .func (PySem.W.fnOf "is_knowledge" "is_knowledge" (defArgs s_is_knowledge) (defBody s_is_knowledge) (defScope s_is_knowledge) .none kV_is_knowledge dc_is_knowledge pm_is_knowledge an_is_knowledge cd_is_knowledge ct_is_knowledge), sl_is_knowledge⟩) (c_is_knowledge : PySem.W.codeIn K cd_is_knowledge "is_knowledge" = true) (k_is_knowledge : PySem.W.keepIn K (.ref f_is_knowledge) = true)
    (a_is_own : PySem.W.nsIn K mainGlobals "is_own" = some (some (.ref f_is_own)))
    (l_is_own : K.lookup f_is_own = some ⟨oc_is_own, od_is_own, .func (PySem.W.fnOf "is_own" "is_own" (defArgs s_is_own) (defBody s_is_own) (defScope s_is_own) .none kV_is_own dc_is_own pm_is_own an_is_own cd_is_own ct_is_own), sl_is_own⟩) (c_is_own : PySem.W.codeIn K cd_is_own "is_own" = true) (k_is_own : PySem.W.keepIn K (.ref f_is_own) = true)
    (a_groups_after : PySem.W.nsIn K mainGlobals "groups_after" = some (some (.ref f_groups_after)))
    (l_groups_after : K.lookup f_groups_after = some ⟨oc_groups_after, od_groups_after, .func (PySem.W.fnOf "groups_after" "groups_after" (defArgs s_groups_after) (defBody s_groups_after) (defScope s_groups_after) .none kV_groups_after dc_groups_after pm_groups_after an_groups_after cd_groups_after ct_groups_after), sl_groups_after⟩) (c_groups_after : PySem.W.codeIn K cd_groups_after "groups_after" = true) (k_groups_after : PySem.W.keepIn K (.ref f_groups_after) = true)
    (a_after : PySem.W.nsIn K mainGlobals "after" = some (some (.ref f_after)))
    (l_after : K.lookup f_after = some ⟨oc_after, od_after, .func (PySem.W.fnOf "after" "after" (defArgs s_after) (defBody s_after) (defScope s_after) .none kV_after dc_after pm_after an_after cd_after ct_after), sl_after⟩) (c_after : PySem.W.codeIn K cd_after "after" = true) (k_after : PySem.W.keepIn K (.ref f_after) = true)
    (a_law_lot : PySem.W.nsIn K mainGlobals "_law_lot" = some (some (.ref f_law_lot)))
    (l_law_lot : K.lookup f_law_lot = some ⟨oc_law_lot, od_law_lot, .func (PySem.W.fnOf "_law_lot" "_law_lot" (defArgs s_law_lot) (defBody s_law_lot) (defScope s_law_lot) .none kV_law_lot dc_law_lot pm_law_lot an_law_lot cd_law_lot ct_law_lot), sl_law_lot⟩) (c_law_lot : PySem.W.codeIn K cd_law_lot "_law_lot" = true) (k_law_lot : PySem.W.keepIn K (.ref f_law_lot) = true)
    (a_law_sort : PySem.W.nsIn K mainGlobals "_law_sort" = some (some (.ref f_law_sort)))
    (l_law_sort : K.lookup f_law_sort = some ⟨oc_law_sort, od_law_sort, .func (PySem.W.fnOf "_law_sort" "_law_sort" (defArgs s_law_sort) (defBody s_law_sort) (defScope s_law_sort) .none kV_law_sort dc_law_sort pm_law_sort an_law_sort cd_law_sort ct_law_sort), sl_law_sort⟩) (c_law_sort : PySem.W.codeIn K cd_law_sort "_law_sort" = true) (k_law_sort : PySem.W.keepIn K (.ref f_law_sort) = true)
    (a_law_looks : PySem.W.nsIn K mainGlobals "_law_looks" = some (some (.ref f_law_looks)))
    (l_law_looks : K.lookup f_law_looks = some ⟨oc_law_looks, od_law_looks, .func (PySem.W.fnOf "_law_looks" "_law_looks" (defArgs s_law_looks) (defBody s_law_looks) (defScope s_law_looks) .none kV_law_looks dc_law_looks pm_law_looks an_law_looks cd_law_looks ct_law_looks), sl_law_looks⟩) (c_law_looks : PySem.W.codeIn K cd_law_looks "_law_looks" = true) (k_law_looks : PySem.W.keepIn K (.ref f_law_looks) = true)
    (a_law_asked : PySem.W.nsIn K mainGlobals "_law_asked" = some (some (.ref f_law_asked)))
    (l_law_asked : K.lookup f_law_asked = some ⟨oc_law_asked, od_law_asked, .func (PySem.W.fnOf "_law_asked" "_law_asked" (defArgs s_law_asked) (defBody s_law_asked) (defScope s_law_asked) .none kV_law_asked dc_law_asked pm_law_asked an_law_asked cd_law_asked ct_law_asked), sl_law_asked⟩) (c_law_asked : PySem.W.codeIn K cd_law_asked "_law_asked" = true) (k_law_asked : PySem.W.keepIn K (.ref f_law_asked) = true)
    (a_law_due : PySem.W.nsIn K mainGlobals "_law_due" = some (some (.ref f_law_due)))
    (l_law_due : K.lookup f_law_due = some ⟨oc_law_due, od_law_due, .func (PySem.W.fnOf "_law_due" "_law_due" (defArgs s_law_due) (defBody s_law_due) (defScope s_law_due) .none kV_law_due dc_law_due pm_law_due an_law_due cd_law_due ct_law_due), sl_law_due⟩) (c_law_due : PySem.W.codeIn K cd_law_due "_law_due" = true) (k_law_due : PySem.W.keepIn K (.ref f_law_due) = true)
    (a_law_near_looks : PySem.W.nsIn K mainGlobals "_law_near_looks" = some (some (.ref f_law_near_looks)))
    (l_law_near_looks : K.lookup f_law_near_looks = some ⟨oc_law_near_looks, od_law_near_looks, .func (PySem.W.fnOf "_law_near_looks" "_law_near_looks" (defArgs s_law_near_looks) (defBody s_law_near_looks) (defScope s_law_near_looks) .none kV_law_near_looks dc_law_near_looks pm_law_near_looks an_law_near_looks cd_law_near_looks ct_law_near_looks), sl_law_near_looks⟩) (c_law_near_looks : PySem.W.codeIn K cd_law_near_looks "_law_near_looks" = true) (k_law_near_looks : PySem.W.keepIn K (.ref f_law_near_looks) = true)
    (a_law_odd_move : PySem.W.nsIn K mainGlobals "_law_odd_move" = some (some (.ref f_law_odd_move)))
    (l_law_odd_move : K.lookup f_law_odd_move = some ⟨oc_law_odd_move, od_law_odd_move, .func (PySem.W.fnOf "_law_odd_move" "_law_odd_move" (defArgs s_law_odd_move) (defBody s_law_odd_move) (defScope s_law_odd_move) .none kV_law_odd_move dc_law_odd_move pm_law_odd_move an_law_odd_move cd_law_odd_move ct_law_odd_move), sl_law_odd_move⟩) (c_law_odd_move : PySem.W.codeIn K cd_law_odd_move "_law_odd_move" = true) (k_law_odd_move : PySem.W.keepIn K (.ref f_law_odd_move) = true)
    (a_law_odd_knowledge : PySem.W.nsIn K mainGlobals "_law_odd_knowledge" = some (some (.ref f_law_odd_knowledge)))
    (l_law_odd_knowledge : K.lookup f_law_odd_knowledge = some ⟨oc_law_odd_knowledge, od_law_odd_knowledge, .func (PySem.W.fnOf "_law_odd_knowledge" "_law_odd_knowledge" (defArgs s_law_odd_knowledge) (defBody s_law_odd_knowledge) (defScope s_law_odd_knowledge) .none kV_law_odd_knowledge dc_law_odd_knowledge pm_law_odd_knowledge an_law_odd_knowledge cd_law_odd_knowledge ct_law_odd_knowledge), sl_law_odd_knowledge⟩) (c_law_odd_knowledge : PySem.W.codeIn K cd_law_odd_knowledge "_law_odd_knowledge" = true) (k_law_odd_knowledge : PySem.W.keepIn K (.ref f_law_odd_knowledge) = true)
    (a_law : PySem.W.nsIn K mainGlobals "law" = some (some (.ref f_law)))
    (l_law : K.lookup f_law = some ⟨oc_law, od_law, .func (PySem.W.fnOf "law" "law" (defArgs s_law) (defBody s_law) (defScope s_law) .none kV_law dc_law pm_law an_law cd_law ct_law), sl_law⟩) (c_law : PySem.W.codeIn K cd_law "law" = true) (k_law : PySem.W.keepIn K (.ref f_law) = true)
    (pg_Work : PySem.W.plainGet K q_Work Str.empty = true) (hd_Work : PySem.W.hasDictIn K q_Work = true) (po_Work : PySem.W.plainOver K q_Work = true) (sa_Work : PySem.W.findIn K (.ref q_Work) "__setattr__" = some (some (.builtin "object.__setattr__"))) (mk_Work : PySem.W.makesIn K q_Work = true) (kc_Work : PySem.W.keepIn K (.ref q_Work) = true)
    (n_Work_hands : PySem.W.findIn K (.ref q_Work) "hands" = some none)
    (n_Work_start : PySem.W.findIn K (.ref q_Work) "start" = some none)
    (n_Work_table : PySem.W.findIn K (.ref q_Work) "table" = some none)
    (n_Work_names : PySem.W.findIn K (.ref q_Work) "names" = some none)
    (n_Work_ends : PySem.W.findIn K (.ref q_Work) "ends" = some none)
    (n_Work_ringless : PySem.W.findIn K (.ref q_Work) "ringless" = some none)
    (z_ValueError : PySem.W.nsIn K mainGlobals "ValueError" = some none)
    (z_all : PySem.W.nsIn K mainGlobals "all" = some none)
    (z_bool : PySem.W.nsIn K mainGlobals "bool" = some none)
    (z_dict : PySem.W.nsIn K mainGlobals "dict" = some none)
    (z_enumerate : PySem.W.nsIn K mainGlobals "enumerate" = some none)
    (z_int : PySem.W.nsIn K mainGlobals "int" = some none)
    (z_isinstance : PySem.W.nsIn K mainGlobals "isinstance" = some none)
    (z_len : PySem.W.nsIn K mainGlobals "len" = some none)
    (z_list : PySem.W.nsIn K mainGlobals "list" = some none)
    (z_range : PySem.W.nsIn K mainGlobals "range" = some none)
    (z_repr : PySem.W.nsIn K mainGlobals "repr" = some none)
    (z_sorted : PySem.W.nsIn K mainGlobals "sorted" = some none)
    (z_str : PySem.W.nsIn K mainGlobals "str" = some none)
    (z_tuple : PySem.W.nsIn K mainGlobals "tuple" = some none)
    {q_OwnError : Addr} (z_super : PySem.W.nsIn K mainGlobals "super" = some none) (z_any : PySem.W.nsIn K PySem.cStatics "thirdparty.any" = some none)
    {q_NoStep i_NoStep cda_NoStep cc_NoStep N_NoStep : Addr} {nm_NoStep qn_NoStep : Str} {bs_NoStep : List Value} {sn_NoStep : List Str} {su_NoStep : List Value} {ab_NoStep : Bool} {cl_NoStep : Option Bool} {dd_NoStep : Option Addr} {m0_NoStep m1_NoStep m2_NoStep m3_NoStep m5_NoStep : Option Value}
    {oc_NoStep kV_NoStep dc_NoStep pm_NoStep ct_NoStep c1_NoStep c2_NoStep : Value} {od_NoStep an_NoStep e1_NoStep e2_NoStep : Option Addr} {sl_NoStep sa_NoStep sb_NoStep : Array (Option Value)} {fv_NoStep : Array Value} {tf_NoStep : Tok}
    (xa_NoStep : PySem.W.nsIn K mainGlobals "NoStep" = some (some (.ref q_NoStep))) (xl_NoStep : K.lookup q_NoStep = some (excClassObj nm_NoStep qn_NoStep q_NoStep N_NoStep bs_NoStep [.ref q_OwnError, .type "ValueError", .type "Exception", .type "BaseException", .type "object"] true sn_NoStep su_NoStep ab_NoStep cl_NoStep dd_NoStep m0_NoStep m1_NoStep m2_NoStep m3_NoStep m5_NoStep "ValueError.__new__")) (xs_NoStep : PySem.W.findIn K (.ref q_NoStep) "__setattr__" = some (some (.builtin "object.__setattr__"))) (xg_NoStep : PySem.W.findIn K (.ref q_NoStep) "__getattribute__" = some (some (.builtin "BaseException.__getattribute__"))) (xh_NoStep : PySem.W.findIn K (.ref q_NoStep) "__getattr__" = some none) (xn_NoStep : PySem.W.findIn K (.ref q_NoStep) "name" = some none) (xi_NoStep : PySem.W.findIn K (.ref q_NoStep) "__init__" = some (some (.ref i_NoStep))) (xt_NoStep : PySem.W.typeIn K (.ref i_NoStep) = some (.type "function")) (xu_NoStep : PySem.W.ks_superIn K q_NoStep q_NoStep "__init__" = some (some (.builtin "ValueError.__init__"))) (xm_NoStep : PySem.W.mroIn K q_NoStep (.ref q_NoStep) = some true) (xv_NoStep : PySem.W.subIn K (.ref q_NoStep) (.type "ValueError") = some true) (xb_NoStep : PySem.W.subIn K (.ref q_NoStep) (.type "BaseException") = some true) (xy_NoStep : PySem.W.typeIn K (.ref q_NoStep) = some (.type "type")) (xk_NoStep : PySem.W.keepIn K (.ref q_NoStep) = true) (xd_NoStep : PySem.W.hasDictIn K q_NoStep = true) (xc_NoStep : PySem.W.isClsIn K q_NoStep = true) (xf_NoStep : K.lookup i_NoStep = some ⟨oc_NoStep, od_NoStep, .func (PySem.W.ksFn "__init__" "NoStep.__init__" (SupX.sA "name" ⟨30, 17, 30, 21⟩ ⟨30, 23, 30, 27⟩) (SupX.sB "name" "no such step" 0 ⟨31, 8, 31, 13⟩ ⟨31, 8, 31, 15⟩ ⟨31, 8, 31, 24⟩ ⟨31, 25, 31, 39⟩ ⟨31, 8, 31, 40⟩ ⟨31, 8, 31, 40⟩ ⟨32, 8, 32, 12⟩ ⟨32, 8, 32, 17⟩ ⟨32, 20, 32, 24⟩ ⟨32, 8, 32, 24⟩) (SupX.sS "name") .none kV_NoStep dc_NoStep pm_NoStep an_NoStep (.ref cda_NoStep) ct_NoStep cc_NoStep), sl_NoStep⟩) (xo_NoStep : PySem.W.codeIn K (.ref cda_NoStep) "NoStep.__init__" = true) (xe_NoStep : K.lookup cc_NoStep = some ⟨c1_NoStep, e1_NoStep, .cell (some (.ref q_NoStep)), sa_NoStep⟩) (xp_NoStep : K.lookup cda_NoStep = some ⟨c2_NoStep, e2_NoStep, .fields fv_NoStep, sb_NoStep⟩) (xq_NoStep : fv_NoStep[2]? = some (.str "/claim/cut.py" tf_NoStep))
    (xa_OwnError : PySem.W.nsIn K mainGlobals "OwnError" = some (some (.ref q_OwnError))) (xy_OwnError : PySem.W.typeIn K (.ref q_OwnError) = some (.type "type")) (xc_OwnError : PySem.W.isClsIn K q_OwnError = true)
    (z_clget : PySem.W.specialIn K (.builtin "object.__class__") "__get__" = some (some (.builtin "getset_descriptor.__get__"))) (z_cltk : PySem.W.takesIn K (.builtin "object.__class__") = some true)
    {q_BadLooks : Addr} (xa_BadLooks : PySem.W.nsIn K mainGlobals "BadLooks" = some (some (.ref q_BadLooks))) (xx_BadLooks : PySem.W.excIn K q_BadLooks SupX.bmVE "ValueError.__new__" = true) (xk_BadLooks : PySem.W.keepIn K (.ref q_BadLooks) = true) (xb_BadLooks : PySem.W.subIn K (.ref q_BadLooks) (.type "BaseException") = some true) (xy_BadLooks : PySem.W.typeIn K (.ref q_BadLooks) = some (.type "type")) (xc_BadLooks : PySem.W.isClsIn K q_BadLooks = true) (xg_BadLooks : PySem.W.findIn K (.ref q_BadLooks) "__getattribute__" = some (some (.builtin "BaseException.__getattribute__"))) (xh_BadLooks : PySem.W.findIn K (.ref q_BadLooks) "__getattr__" = some none) (xd_BadLooks : PySem.W.hasDictIn K q_BadLooks = true) (xe_BadLooks : PySem.W.findIn K (.ref q_BadLooks) "__class__" = some (some (.builtin "object.__class__"))) (xm_BadLooks : PySem.W.mroIn K q_BadLooks (.type "object") = some true)
    {q_BadKnowledge : Addr} (xa_BadKnowledge : PySem.W.nsIn K mainGlobals "BadKnowledge" = some (some (.ref q_BadKnowledge))) (xx_BadKnowledge : PySem.W.excIn K q_BadKnowledge SupX.bmVE "ValueError.__new__" = true) (xk_BadKnowledge : PySem.W.keepIn K (.ref q_BadKnowledge) = true) (xb_BadKnowledge : PySem.W.subIn K (.ref q_BadKnowledge) (.type "BaseException") = some true) (xy_BadKnowledge : PySem.W.typeIn K (.ref q_BadKnowledge) = some (.type "type")) (xc_BadKnowledge : PySem.W.isClsIn K q_BadKnowledge = true) (xg_BadKnowledge : PySem.W.findIn K (.ref q_BadKnowledge) "__getattribute__" = some (some (.builtin "BaseException.__getattribute__"))) (xh_BadKnowledge : PySem.W.findIn K (.ref q_BadKnowledge) "__getattr__" = some none) (xd_BadKnowledge : PySem.W.hasDictIn K q_BadKnowledge = true) (xe_BadKnowledge : PySem.W.findIn K (.ref q_BadKnowledge) "__class__" = some (some (.builtin "object.__class__"))) (xm_BadKnowledge : PySem.W.mroIn K q_BadKnowledge (.type "object") = some true)
    {q_BadLook : Addr} (xa_BadLook : PySem.W.nsIn K mainGlobals "BadLook" = some (some (.ref q_BadLook))) (xx_BadLook : PySem.W.excIn K q_BadLook SupX.bmVE "ValueError.__new__" = true) (xk_BadLook : PySem.W.keepIn K (.ref q_BadLook) = true) (xb_BadLook : PySem.W.subIn K (.ref q_BadLook) (.type "BaseException") = some true) (xy_BadLook : PySem.W.typeIn K (.ref q_BadLook) = some (.type "type")) (xc_BadLook : PySem.W.isClsIn K q_BadLook = true) (xg_BadLook : PySem.W.findIn K (.ref q_BadLook) "__getattribute__" = some (some (.builtin "BaseException.__getattribute__"))) (xh_BadLook : PySem.W.findIn K (.ref q_BadLook) "__getattr__" = some none) (xd_BadLook : PySem.W.hasDictIn K q_BadLook = true) (xe_BadLook : PySem.W.findIn K (.ref q_BadLook) "__class__" = some (some (.builtin "object.__class__"))) (xm_BadLook : PySem.W.mroIn K q_BadLook (.type "object") = some true)
    (is_BadLooks_OwnError : PySem.W.subIn K (.ref q_BadLooks) (.ref q_OwnError) = some true)
    (is_BadKnowledge_OwnError : PySem.W.subIn K (.ref q_BadKnowledge) (.ref q_OwnError) = some true)
    (is_BadLook_ValueError : PySem.W.subIn K (.ref q_BadLook) (.type "ValueError") = some true)
    (pr_BadLooks_BadLooks : PySem.W.subIn K (.ref q_BadLooks) (.ref q_BadLooks) = some true)
    (pr_BadKnowledge_BadLooks : PySem.W.subIn K (.ref q_BadKnowledge) (.ref q_BadLooks) = some false)
    (pr_BadKnowledge_BadKnowledge : PySem.W.subIn K (.ref q_BadKnowledge) (.ref q_BadKnowledge) = some true)
    (pr_NoStep_BadLooks : PySem.W.subIn K (.ref q_NoStep) (.ref q_BadLooks) = some false)
    (pr_NoStep_BadKnowledge : PySem.W.subIn K (.ref q_NoStep) (.ref q_BadKnowledge) = some false)
    (pr_NoStep_NoStep : PySem.W.subIn K (.ref q_NoStep) (.ref q_NoStep) = some true)
    (pr_BadLook_BadLooks : PySem.W.subIn K (.ref q_BadLook) (.ref q_BadLooks) = some false)
    (pr_BadLook_BadKnowledge : PySem.W.subIn K (.ref q_BadLook) (.ref q_BadKnowledge) = some false)
    (pr_BadLook_NoStep : PySem.W.subIn K (.ref q_BadLook) (.ref q_NoStep) = some false)
    (pr_BadLook_BadLook : PySem.W.subIn K (.ref q_BadLook) (.ref q_BadLook) = some true)
    : ∃ fd : FuncData, (∀ (s : Shared) (v : Value), BindsTo s fd ⟨[v], []⟩ [("script", v)]) ∧ ∀ base : Heap, K.In base → base.Ns mainGlobals mg → ReR.SysIs base → ReR.FnG l.prog w K mg base CX0 7 fa fd ["script"] (spLaw K) := by
  have e := hfa.symm.trans (PySem.W.mg_of X G a_law)
  cases e
  have F_is_integer := fun_mk (st := s_is_integer) l_is_integer c_is_integer k_is_integer
  have b_is_integer := F_is_integer.binds (ps := P_is_integer) fun _ _ _ _ _ _ us hl => match us, hl with | [_], _ => rfl
  have F_is_name := fun_mk (st := s_is_name) l_is_name c_is_name k_is_name
  have b_is_name := F_is_name.binds (ps := P_is_name) fun _ _ _ _ _ _ us hl => match us, hl with | [_], _ => rfl
  have F_is_pair := fun_mk (st := s_is_pair) l_is_pair c_is_pair k_is_pair
  have b_is_pair := F_is_pair.binds (ps := P_is_pair) fun _ _ _ _ _ _ us hl => match us, hl with | [_], _ => rfl
  have F_is_moves := fun_mk (st := s_is_moves) l_is_moves c_is_moves k_is_moves
  have b_is_moves := F_is_moves.binds (ps := P_is_moves) fun _ _ _ _ _ _ us hl => match us, hl with | [_, _], _ => rfl
  have F_is_draws := fun_mk (st := s_is_draws) l_is_draws c_is_draws k_is_draws
  have b_is_draws := F_is_draws.binds (ps := P_is_draws) fun _ _ _ _ _ _ us hl => match us, hl with | [_, _], _ => rfl
  have F_is_stand := fun_mk (st := s_is_stand) l_is_stand c_is_stand k_is_stand
  have b_is_stand := F_is_stand.binds (ps := P_is_stand) fun _ _ _ _ _ _ us hl => match us, hl with | [_, _, _], _ => rfl
  have F_are_stands := fun_mk (st := s_are_stands) l_are_stands c_are_stands k_are_stands
  have b_are_stands := F_are_stands.binds (ps := P_are_stands) fun _ _ _ _ _ _ us hl => match us, hl with | [_, _], _ => rfl
  have F_copied := fun_mk (st := s_copied) l_copied c_copied k_copied
  have b_copied := F_copied.binds (ps := P_copied) fun _ _ _ _ _ _ us hl => match us, hl with | [_], _ => rfl
  have F_leads := fun_mk (st := s_leads) l_leads c_leads k_leads
  have b_leads := F_leads.binds (ps := P_leads) fun _ _ _ _ _ _ us hl => match us, hl with | [_, _], _ => rfl
  have F_is_ringless := fun_mk (st := s_is_ringless) l_is_ringless c_is_ringless k_is_ringless
  have b_is_ringless := F_is_ringless.binds (ps := P_is_ringless) fun _ _ _ _ _ _ us hl => match us, hl with | [_], _ => rfl
  have F_Work_init := fun_mk (st := s_Work_init) l_Work_init c_Work_init k_Work_init
  have b_Work_init := F_Work_init.binds (ps := P_Work_init) fun _ _ _ _ _ _ us hl => match us, hl with | [_, _, _, _], _ => rfl
  have F_Work_row := fun_mk (st := s_Work_row) l_Work_row c_Work_row k_Work_row
  have b_Work_row := F_Work_row.binds (ps := P_Work_row) fun _ _ _ _ _ _ us hl => match us, hl with | [_, _], _ => rfl
  have F_Work_kind := fun_mk (st := s_Work_kind) l_Work_kind c_Work_kind k_Work_kind
  have b_Work_kind := F_Work_kind.binds (ps := P_Work_kind) fun _ _ _ _ _ _ us hl => match us, hl with | [_, _], _ => rfl
  have F_Work_mover := fun_mk (st := s_Work_mover) l_Work_mover c_Work_mover k_Work_mover
  have b_Work_mover := F_Work_mover.binds (ps := P_Work_mover) fun _ _ _ _ _ _ us hl => match us, hl with | [_, _], _ => rfl
  have F_Work_steps := fun_mk (st := s_Work_steps) l_Work_steps c_Work_steps k_Work_steps
  have b_Work_steps := F_Work_steps.binds (ps := P_Work_steps) fun _ _ _ _ _ _ us hl => match us, hl with | [_, _], _ => rfl
  have F_Work_to := fun_mk (st := s_Work_to) l_Work_to c_Work_to k_Work_to
  have b_Work_to := F_Work_to.binds (ps := P_Work_to) fun _ _ _ _ _ _ us hl => match us, hl with | [_, _, _], _ => rfl
  have F_law_open := fun_mk (st := s_law_open) l_law_open c_law_open k_law_open
  have b_law_open := F_law_open.binds (ps := P_law_open) fun _ _ _ _ _ _ us hl => match us, hl with | [_, _], _ => rfl
  have F_law_draw := fun_mk (st := s_law_draw) l_law_draw c_law_draw k_law_draw
  have b_law_draw := F_law_draw.binds (ps := P_law_draw) fun _ _ _ _ _ _ us hl => match us, hl with | [_, _], _ => rfl
  have F_law_names := fun_mk (st := s_law_names) l_law_names c_law_names k_law_names
  have b_law_names := F_law_names.binds (ps := P_law_names) fun _ _ _ _ _ _ us hl => match us, hl with | [_, _], _ => rfl
  have F_law_target := fun_mk (st := s_law_target) l_law_target c_law_target k_law_target
  have b_law_target := F_law_target.binds (ps := P_law_target) fun _ _ _ _ _ _ us hl => match us, hl with | [_, _, _, _], _ => rfl
  have F_law_menu := fun_mk (st := s_law_menu) l_law_menu c_law_menu k_law_menu
  have b_law_menu := F_law_menu.binds (ps := P_law_menu) fun _ _ _ _ _ _ us hl => match us, hl with | [_], _ => rfl
  have F_law_stand := fun_mk (st := s_law_stand) l_law_stand c_law_stand k_law_stand
  have b_law_stand := F_law_stand.binds (ps := P_law_stand) fun _ _ _ _ _ _ us hl => match us, hl with | [_, _, _, _, _, _], _ => rfl
  have F_law_stands := fun_mk (st := s_law_stands) l_law_stands c_law_stands k_law_stands
  have b_law_stands := F_law_stands.binds (ps := P_law_stands) fun _ _ _ _ _ _ us hl => match us, hl with | [_, _, _, _], _ => rfl
  have F_law_build := fun_mk (st := s_law_build) l_law_build c_law_build k_law_build
  have b_law_build := F_law_build.binds (ps := P_law_build) fun _ _ _ _ _ _ us hl => match us, hl with | [_], _ => rfl
  have F_law_steps := fun_mk (st := s_law_steps) l_law_steps c_law_steps k_law_steps
  have b_law_steps := F_law_steps.binds (ps := P_law_steps) fun _ _ _ _ _ _ us hl => match us, hl with | [_, _], _ => rfl
  have F_law_to := fun_mk (st := s_law_to) l_law_to c_law_to k_law_to
  have b_law_to := F_law_to.binds (ps := P_law_to) fun _ _ _ _ _ _ us hl => match us, hl with | [_, _, _], _ => rfl
  have F_law_mover := fun_mk (st := s_law_mover) l_law_mover c_law_mover k_law_mover
  have b_law_mover := F_law_mover.binds (ps := P_law_mover) fun _ _ _ _ _ _ us hl => match us, hl with | [_, _], _ => rfl
  have F_sight_sort := fun_mk (st := s_sight_sort) l_sight_sort c_sight_sort k_sight_sort
  have b_sight_sort := F_sight_sort.binds (ps := P_sight_sort) fun _ _ _ _ _ _ us hl => match us, hl with | [_, _, _], _ => rfl
  have F_is_looks := fun_mk (st := s_is_looks) l_is_looks c_is_looks k_is_looks
  have b_is_looks := F_is_looks.binds (ps := P_is_looks) fun _ _ _ _ _ _ us hl => match us, hl with | [_, _, _], _ => rfl
  have F_is_knowledge := fun_mk (st := s_is_knowledge) l_is_knowledge c_is_knowledge k_is_knowledge
  have b_is_knowledge := F_is_knowledge.binds (ps := P_is_knowledge) fun _ _ _ _ _ _ us hl => match us, hl with | [_, _], _ => rfl
  have F_is_own := fun_mk (st := s_is_own) l_is_own c_is_own k_is_own
  have b_is_own := F_is_own.binds (ps := P_is_own) fun _ _ _ _ _ _ us hl => match us, hl with | [_, _, _], _ => rfl
  have F_groups_after := fun_mk (st := s_groups_after) l_groups_after c_groups_after k_groups_after
  have b_groups_after := F_groups_after.binds (ps := P_groups_after) fun _ _ _ _ _ _ us hl => match us, hl with | [_, _, _, _], _ => rfl
  have F_after := fun_mk (st := s_after) l_after c_after k_after
  have b_after := F_after.binds (ps := P_after) fun _ _ _ _ _ _ us hl => match us, hl with | [_, _, _, _, _, _], _ => rfl
  have F_law_lot := fun_mk (st := s_law_lot) l_law_lot c_law_lot k_law_lot
  have b_law_lot := F_law_lot.binds (ps := P_law_lot) fun _ _ _ _ _ _ us hl => match us, hl with | [_, _], _ => rfl
  have F_law_sort := fun_mk (st := s_law_sort) l_law_sort c_law_sort k_law_sort
  have b_law_sort := F_law_sort.binds (ps := P_law_sort) fun _ _ _ _ _ _ us hl => match us, hl with | [_, _, _], _ => rfl
  have F_law_looks := fun_mk (st := s_law_looks) l_law_looks c_law_looks k_law_looks
  have b_law_looks := F_law_looks.binds (ps := P_law_looks) fun _ _ _ _ _ _ us hl => match us, hl with | [_, _, _], _ => rfl
  have F_law_asked := fun_mk (st := s_law_asked) l_law_asked c_law_asked k_law_asked
  have b_law_asked := F_law_asked.binds (ps := P_law_asked) fun _ _ _ _ _ _ us hl => match us, hl with | [_, _, _, _, _, _], _ => rfl
  have F_law_due := fun_mk (st := s_law_due) l_law_due c_law_due k_law_due
  have b_law_due := F_law_due.binds (ps := P_law_due) fun _ _ _ _ _ _ us hl => match us, hl with | [_, _, _, _, _, _], _ => rfl
  have F_law_near_looks := fun_mk (st := s_law_near_looks) l_law_near_looks c_law_near_looks k_law_near_looks
  have b_law_near_looks := F_law_near_looks.binds (ps := P_law_near_looks) fun _ _ _ _ _ _ us hl => match us, hl with | [_, _, _, _], _ => rfl
  have F_law_odd_move := fun_mk (st := s_law_odd_move) l_law_odd_move c_law_odd_move k_law_odd_move
  have b_law_odd_move := F_law_odd_move.binds (ps := P_law_odd_move) fun _ _ _ _ _ _ us hl => match us, hl with | [_, _, _, _], _ => rfl
  have F_law_odd_knowledge := fun_mk (st := s_law_odd_knowledge) l_law_odd_knowledge c_law_odd_knowledge k_law_odd_knowledge
  have b_law_odd_knowledge := F_law_odd_knowledge.binds (ps := P_law_odd_knowledge) fun _ _ _ _ _ _ us hl => match us, hl with | [_, _, _, _], _ => rfl
  have F_law := fun_mk (st := s_law) l_law c_law k_law
  have b_law := F_law.binds (ps := P_law) fun _ _ _ _ _ _ us hl => match us, hl with | [_], _ => rfl
  let T : Tx K mg := {
    is_integer := ⟨f_is_integer, _, F_is_integer, PySem.W.mg_of X G a_is_integer, b_is_integer⟩
    is_name := ⟨f_is_name, _, F_is_name, PySem.W.mg_of X G a_is_name, b_is_name⟩
    is_pair := ⟨f_is_pair, _, F_is_pair, PySem.W.mg_of X G a_is_pair, b_is_pair⟩
    is_moves := ⟨f_is_moves, _, F_is_moves, PySem.W.mg_of X G a_is_moves, b_is_moves⟩
    is_draws := ⟨f_is_draws, _, F_is_draws, PySem.W.mg_of X G a_is_draws, b_is_draws⟩
    is_stand := ⟨f_is_stand, _, F_is_stand, PySem.W.mg_of X G a_is_stand, b_is_stand⟩
    are_stands := ⟨f_are_stands, _, F_are_stands, PySem.W.mg_of X G a_are_stands, b_are_stands⟩
    copied := ⟨f_copied, _, F_copied, PySem.W.mg_of X G a_copied, b_copied⟩
    leads := ⟨f_leads, _, F_leads, PySem.W.mg_of X G a_leads, b_leads⟩
    is_ringless := ⟨f_is_ringless, _, F_is_ringless, PySem.W.mg_of X G a_is_ringless, b_is_ringless⟩
    Work_init := ⟨f_Work_init, _, F_Work_init, b_Work_init⟩
    Work_row := ⟨f_Work_row, _, F_Work_row, b_Work_row⟩
    Work_kind := ⟨f_Work_kind, _, F_Work_kind, b_Work_kind⟩
    Work_mover := ⟨f_Work_mover, _, F_Work_mover, b_Work_mover⟩
    Work_steps := ⟨f_Work_steps, _, F_Work_steps, b_Work_steps⟩
    Work_to := ⟨f_Work_to, _, F_Work_to, b_Work_to⟩
    law_open := ⟨f_law_open, _, F_law_open, PySem.W.mg_of X G a_law_open, b_law_open⟩
    law_draw := ⟨f_law_draw, _, F_law_draw, PySem.W.mg_of X G a_law_draw, b_law_draw⟩
    law_names := ⟨f_law_names, _, F_law_names, PySem.W.mg_of X G a_law_names, b_law_names⟩
    law_target := ⟨f_law_target, _, F_law_target, PySem.W.mg_of X G a_law_target, b_law_target⟩
    law_menu := ⟨f_law_menu, _, F_law_menu, PySem.W.mg_of X G a_law_menu, b_law_menu⟩
    law_stand := ⟨f_law_stand, _, F_law_stand, PySem.W.mg_of X G a_law_stand, b_law_stand⟩
    law_stands := ⟨f_law_stands, _, F_law_stands, PySem.W.mg_of X G a_law_stands, b_law_stands⟩
    law_build := ⟨f_law_build, _, F_law_build, PySem.W.mg_of X G a_law_build, b_law_build⟩
    law_steps := ⟨f_law_steps, _, F_law_steps, PySem.W.mg_of X G a_law_steps, b_law_steps⟩
    law_to := ⟨f_law_to, _, F_law_to, PySem.W.mg_of X G a_law_to, b_law_to⟩
    law_mover := ⟨f_law_mover, _, F_law_mover, PySem.W.mg_of X G a_law_mover, b_law_mover⟩
    sight_sort := ⟨f_sight_sort, _, F_sight_sort, PySem.W.mg_of X G a_sight_sort, b_sight_sort⟩
    is_looks := ⟨f_is_looks, _, F_is_looks, PySem.W.mg_of X G a_is_looks, b_is_looks⟩
    is_knowledge := ⟨f_is_knowledge, _, F_is_knowledge, PySem.W.mg_of X G a_is_knowledge, b_is_knowledge⟩
    is_own := ⟨f_is_own, _, F_is_own, PySem.W.mg_of X G a_is_own, b_is_own⟩
    groups_after := ⟨f_groups_after, _, F_groups_after, PySem.W.mg_of X G a_groups_after, b_groups_after⟩
    after := ⟨f_after, _, F_after, PySem.W.mg_of X G a_after, b_after⟩
    law_lot := ⟨f_law_lot, _, F_law_lot, PySem.W.mg_of X G a_law_lot, b_law_lot⟩
    law_sort := ⟨f_law_sort, _, F_law_sort, PySem.W.mg_of X G a_law_sort, b_law_sort⟩
    law_looks := ⟨f_law_looks, _, F_law_looks, PySem.W.mg_of X G a_law_looks, b_law_looks⟩
    law_asked := ⟨f_law_asked, _, F_law_asked, PySem.W.mg_of X G a_law_asked, b_law_asked⟩
    law_due := ⟨f_law_due, _, F_law_due, PySem.W.mg_of X G a_law_due, b_law_due⟩
    law_near_looks := ⟨f_law_near_looks, _, F_law_near_looks, PySem.W.mg_of X G a_law_near_looks, b_law_near_looks⟩
    law_odd_move := ⟨f_law_odd_move, _, F_law_odd_move, PySem.W.mg_of X G a_law_odd_move, b_law_odd_move⟩
    law_odd_knowledge := ⟨f_law_odd_knowledge, _, F_law_odd_knowledge, PySem.W.mg_of X G a_law_odd_knowledge, b_law_odd_knowledge⟩
    law := ⟨fa, _, F_law, PySem.W.mg_of X G a_law, b_law⟩
    b_ValueError := PySem.W.mg_none_of X G z_ValueError
    b_all := PySem.W.mg_none_of X G z_all
    b_bool := PySem.W.mg_none_of X G z_bool
    b_dict := PySem.W.mg_none_of X G z_dict
    b_enumerate := PySem.W.mg_none_of X G z_enumerate
    b_int := PySem.W.mg_none_of X G z_int
    b_isinstance := PySem.W.mg_none_of X G z_isinstance
    b_len := PySem.W.mg_none_of X G z_len
    b_list := PySem.W.mg_none_of X G z_list
    b_range := PySem.W.mg_none_of X G z_range
    b_repr := PySem.W.mg_none_of X G z_repr
    b_sorted := PySem.W.mg_none_of X G z_sorted
    b_str := PySem.W.mg_none_of X G z_str
    b_tuple := PySem.W.mg_none_of X G z_tuple
    a_Work := q_Work
    g_Work := PySem.W.mg_of X G a_Work
    cl_Work := ⟨pg_Work, hd_Work, po_Work, sa_Work⟩
    m_Work := ⟨mk_Work, a_Work_init, i_Work_init, kc_Work⟩
    n_Work_hands := n_Work_hands
    n_Work_start := n_Work_start
    n_Work_table := n_Work_table
    n_Work_names := n_Work_names
    n_Work_ends := n_Work_ends
    n_Work_ringless := n_Work_ringless
    me_Work_row := ⟨a_Work_row, i_Work_row, k_Work_row⟩
    me_Work_kind := ⟨a_Work_kind, i_Work_kind, k_Work_kind⟩
    me_Work_mover := ⟨a_Work_mover, i_Work_mover, k_Work_mover⟩
    me_Work_steps := ⟨a_Work_steps, i_Work_steps, k_Work_steps⟩
    me_Work_to := ⟨a_Work_to, i_Work_to, k_Work_to⟩
    c_NoStep := q_NoStep
    i_NoStep := i_NoStep
    d_NoStep := _
    g_NoStep := PySem.W.mg_of X G xa_NoStep
    s_NoStep := { oex := ⟨⟨_, _, _, _, _, _, _, _, _, _, _, _, _, _, _, xl_NoStep, rfl⟩, xs_NoStep, xb_NoStep, xy_NoStep, xk_NoStep⟩, xf := ⟨xg_NoStep, xh_NoStep, xb_NoStep, xd_NoStep⟩, noN := xn_NoStep, iC := xi_NoStep, tI := xt_NoStep, sup := xu_NoStep, mro := xm_NoStep, sub := xv_NoStep, nsu := PySem.W.mg_none_of X G z_super, bnd := .all (fun us hl => match us, hl with | [_, _], _ => rfl), any := z_any, sc := NdefX.nscope_by (by decide +kernel), d1 := (by decide +kernel), d2 := (by decide +kernel), scs := rfl, fn := ⟨_, _, _, _, _, _, _, _, _, _, _, _, _, _, _, _, _, _, _, _, _, _, _, _, _, rfl, rfl, xf_NoStep, xo_NoStep, ⟨_, _, _, xe_NoStep⟩, _, _, _, _, _, xp_NoStep, xq_NoStep⟩ }
    c_BadLooks := q_BadLooks
    g_BadLooks := PySem.W.mg_of X G xa_BadLooks
    p_BadLooks := ⟨xx_BadLooks, xk_BadLooks, xb_BadLooks, xy_BadLooks, ⟨xg_BadLooks, xh_BadLooks, xb_BadLooks, xd_BadLooks, xe_BadLooks, z_clget, z_cltk, xm_BadLooks⟩⟩
    c_BadKnowledge := q_BadKnowledge
    g_BadKnowledge := PySem.W.mg_of X G xa_BadKnowledge
    p_BadKnowledge := ⟨xx_BadKnowledge, xk_BadKnowledge, xb_BadKnowledge, xy_BadKnowledge, ⟨xg_BadKnowledge, xh_BadKnowledge, xb_BadKnowledge, xd_BadKnowledge, xe_BadKnowledge, z_clget, z_cltk, xm_BadKnowledge⟩⟩
    c_BadLook := q_BadLook
    g_BadLook := PySem.W.mg_of X G xa_BadLook
    p_BadLook := ⟨xx_BadLook, xk_BadLook, xb_BadLook, xy_BadLook, ⟨xg_BadLook, xh_BadLook, xb_BadLook, xd_BadLook, xe_BadLook, z_clget, z_cltk, xm_BadLook⟩⟩
    c_OwnError := q_OwnError
    g_OwnError := PySem.W.mg_of X G xa_OwnError
    is_BadLooks_OwnError := SupX.kit_own xc_OwnError xy_OwnError is_BadLooks_OwnError
    is_BadKnowledge_OwnError := SupX.kit_own xc_OwnError xy_OwnError is_BadKnowledge_OwnError
    is_BadLook_ValueError := SupX.kit_VE is_BadLook_ValueError
    xp_BadLooks_BadLooks := exm_pair xb_BadLooks xc_BadLooks xy_BadLooks pr_BadLooks_BadLooks
    xp_BadKnowledge_BadLooks := exm_pair xb_BadLooks xc_BadLooks xy_BadLooks pr_BadKnowledge_BadLooks
    xp_BadKnowledge_BadKnowledge := exm_pair xb_BadKnowledge xc_BadKnowledge xy_BadKnowledge pr_BadKnowledge_BadKnowledge
    xp_NoStep_BadLooks := exm_pair xb_BadLooks xc_BadLooks xy_BadLooks pr_NoStep_BadLooks
    xp_NoStep_BadKnowledge := exm_pair xb_BadKnowledge xc_BadKnowledge xy_BadKnowledge pr_NoStep_BadKnowledge
    xp_NoStep_NoStep := exm_pair xb_NoStep xc_NoStep xy_NoStep pr_NoStep_NoStep
    xp_BadLook_BadLooks := exm_pair xb_BadLooks xc_BadLooks xy_BadLooks pr_BadLook_BadLooks
    xp_BadLook_BadKnowledge := exm_pair xb_BadKnowledge xc_BadKnowledge xy_BadKnowledge pr_BadLook_BadKnowledge
    xp_BadLook_NoStep := exm_pair xb_NoStep xc_NoStep xy_NoStep pr_BadLook_NoStep
    xp_BadLook_BadLook := exm_pair xb_BadLook xc_BadLook xy_BadLook pr_BadLook_BadLook
  }
  exact ⟨PySem.W.fnOf "law" "law" (defArgs s_law) (defBody s_law) (defScope s_law) .none kV_law dc_law pm_law an_law cd_law ct_law, fun s v => .of_eq rfl, fun base _ _ hsy => ok_law T hsy⟩
theorem walk {l : PySem.W.OpenLaw} {q : Program} {loose : List Str} {XP : (Str → Option Value) → Heap → Prop} {YP : World → Heap → Prop} {d : DefRec} {K : Params → PySem.W.Frag} (hn : l.most = some 63) (hdf : d.params.defaults = []) (him : PyProof.Rows.importsNone q = true)
    (hY : ∀ (w : World) (h : Heap), YP w h → (K w.params).In h)
    (F : ∀ (w : World) (mg : Str → Option Value) (fa : Addr) (h : Heap), (K w.params).In h → h.Ns mainGlobals mg → mg d.name = some (.ref fa) →
      ∃ fd : FuncData, (∀ (s : Shared) (u : Value), BindsTo s fd ⟨[u], []⟩ [("script", u)]) ∧ ∀ base : Heap, (K w.params).In base → base.Ns mainGlobals mg → ReR.SysIs base → ReR.FnG l.prog w (K w.params) mg base CX0 7 fa fd ["script"] (spLaw (K w.params))) :
    PySem.W.WalkO q loose XP YP l.row.toRowW d [] (fun f vs => PySem.call f vs) :=
  ReR.walk_ofG (n := 63) (k := 7) (x := "script") (CX := fun w => CX0) (sp := fun w => spLaw (K w.params)) hn (by decide) hdf ⟨rfl, by decide, by decide⟩ him hY F (fun _ _ a ns hl _ hS => ⟨a, ns, rfl, hS, Nat.le_trans hl (by decide), fun _ => rfl⟩) fun _ _ _ _ _ z => z
end M
open PySem PySem.W PyProof.Rows
instance : SupX.PX (PySem.Challenge.rw_ownshares_k47_what_comes_after).prog := ⟨by decide +kernel, by rfl⟩
set_option maxRecDepth 100000 in
set_option maxHeartbeats 0 in
theorem PySem.Challenge.cw_ownshares_k47_what_comes_after_holds : PySem.Challenge.rw_ownshares_k47_what_comes_after.Holds := by
  w_on; o_law; k_head; (case hw => w_witness2)
  k_fill
  refine M.walk (l := PySem.Challenge.rw_ownshares_k47_what_comes_after) rfl rfl (by decide +kernel) (fun w h Y => PySem.W.kIn_of Y) ?F
  case F =>
    intro w mg fa h KX G hmg
    refine' M.all_mk (l := PySem.Challenge.rw_ownshares_k47_what_comes_after) KX G hmg ?a_Work ?a_is_integer ?l_is_integer ?c_is_integer ?k_is_integer ?a_is_name ?l_is_name ?c_is_name ?k_is_name ?a_is_pair ?l_is_pair ?c_is_pair ?k_is_pair ?a_is_moves ?l_is_moves ?c_is_moves ?k_is_moves ?a_is_draws ?l_is_draws ?c_is_draws ?k_is_draws ?a_is_stand ?l_is_stand ?c_is_stand ?k_is_stand ?a_are_stands ?l_are_stands ?c_are_stands ?k_are_stands ?a_copied ?l_copied ?c_copied ?k_copied ?a_leads ?l_leads ?c_leads ?k_leads ?a_is_ringless ?l_is_ringless ?c_is_ringless ?k_is_ringless ?a_Work_init ?i_Work_init ?l_Work_init ?c_Work_init ?k_Work_init ?a_Work_row ?i_Work_row ?l_Work_row ?c_Work_row ?k_Work_row ?a_Work_kind ?i_Work_kind ?l_Work_kind ?c_Work_kind ?k_Work_kind ?a_Work_mover ?i_Work_mover ?l_Work_mover ?c_Work_mover ?k_Work_mover ?a_Work_steps ?i_Work_steps ?l_Work_steps ?c_Work_steps ?k_Work_steps ?a_Work_to ?i_Work_to ?l_Work_to ?c_Work_to ?k_Work_to ?a_law_open ?l_law_open ?c_law_open ?k_law_open ?a_law_draw ?l_law_draw ?c_law_draw ?k_law_draw ?a_law_names ?l_law_names ?c_law_names ?k_law_names ?a_law_target ?l_law_target ?c_law_target ?k_law_target ?a_law_menu ?l_law_menu ?c_law_menu ?k_law_menu ?a_law_stand ?l_law_stand ?c_law_stand ?k_law_stand ?a_law_stands ?l_law_stands ?c_law_stands ?k_law_stands ?a_law_build ?l_law_build ?c_law_build ?k_law_build ?a_law_steps ?l_law_steps ?c_law_steps ?k_law_steps ?a_law_to ?l_law_to ?c_law_to ?k_law_to ?a_law_mover ?l_law_mover ?c_law_mover ?k_law_mover ?a_sight_sort ?l_sight_sort ?c_sight_sort ?k_sight_sort ?a_is_looks ?l_is_looks ?c_is_looks ?k_is_looks ?a_is_knowledge ?l_is_knowledge ?c_is_knowledge ?k_is_knowledge ?a_is_own ?l_is_own ?c_is_own ?k_is_own ?a_groups_after ?l_groups_after ?c_groups_after ?k_groups_after ?a_after ?l_after ?c_after ?k_after ?a_law_lot ?l_law_lot ?c_law_lot ?k_law_lot ?a_law_sort ?l_law_sort ?c_law_sort ?k_law_sort ?a_law_looks ?l_law_looks ?c_law_looks ?k_law_looks ?a_law_asked ?l_law_asked ?c_law_asked ?k_law_asked ?a_law_due ?l_law_due ?c_law_due ?k_law_due ?a_law_near_looks ?l_law_near_looks ?c_law_near_looks ?k_law_near_looks ?a_law_odd_move ?l_law_odd_move ?c_law_odd_move ?k_law_odd_move ?a_law_odd_knowledge ?l_law_odd_knowledge ?c_law_odd_knowledge ?k_law_odd_knowledge ?a_law ?l_law ?c_law ?k_law ?pg_Work ?hd_Work ?po_Work ?sa_Work ?mk_Work ?kc_Work ?n_Work_hands ?n_Work_start ?n_Work_table ?n_Work_names ?n_Work_ends ?n_Work_ringless ?z_ValueError ?z_all ?z_bool ?z_dict ?z_enumerate ?z_int ?z_isinstance ?z_len ?z_list ?z_range ?z_repr ?z_sorted ?z_str ?z_tuple ?z_super ?z_any ?xa_NoStep ?xl_NoStep ?xs_NoStep ?xg_NoStep ?xh_NoStep ?xn_NoStep ?xi_NoStep ?xt_NoStep ?xu_NoStep ?xm_NoStep ?xv_NoStep ?xb_NoStep ?xy_NoStep ?xk_NoStep ?xd_NoStep ?xc_NoStep ?xf_NoStep ?xo_NoStep ?xe_NoStep ?xp_NoStep ?xq_NoStep ?xa_OwnError ?xy_OwnError ?xc_OwnError ?z_clget ?z_cltk ?xa_BadLooks ?xx_BadLooks ?xk_BadLooks ?xb_BadLooks ?xy_BadLooks ?xc_BadLooks ?xg_BadLooks ?xh_BadLooks ?xd_BadLooks ?xe_BadLooks ?xm_BadLooks ?xa_BadKnowledge ?xx_BadKnowledge ?xk_BadKnowledge ?xb_BadKnowledge ?xy_BadKnowledge ?xc_BadKnowledge ?xg_BadKnowledge ?xh_BadKnowledge ?xd_BadKnowledge ?xe_BadKnowledge ?xm_BadKnowledge ?xa_BadLook ?xx_BadLook ?xk_BadLook ?xb_BadLook ?xy_BadLook ?xc_BadLook ?xg_BadLook ?xh_BadLook ?xd_BadLook ?xe_BadLook ?xm_BadLook ?is_BadLooks_OwnError ?is_BadKnowledge_OwnError ?is_BadLook_ValueError ?pr_BadLooks_BadLooks ?pr_BadKnowledge_BadLooks ?pr_BadKnowledge_BadKnowledge ?pr_NoStep_BadLooks ?pr_NoStep_BadKnowledge ?pr_NoStep_NoStep ?pr_BadLook_BadLooks ?pr_BadLook_BadKnowledge ?pr_BadLook_NoStep ?pr_BadLook_BadLook
    (case a_Work => k_is)
    (case a_is_integer => k_is)
    (case l_is_integer => k_is)
    (case c_is_integer => k_is)
    (case k_is_integer => k_is)
    (case a_is_name => k_is)
    (case l_is_name => k_is)
    (case c_is_name => k_is)
    (case k_is_name => k_is)
    (case a_is_pair => k_is)
    (case l_is_pair => k_is)
    (case c_is_pair => k_is)
    (case k_is_pair => k_is)
    (case a_is_moves => k_is)
    (case l_is_moves => k_is)
    (case c_is_moves => k_is)
    (case k_is_moves => k_is)
    (case a_is_draws => k_is)
    (case l_is_draws => k_is)
    (case c_is_draws => k_is)
    (case k_is_draws => k_is)
    (case a_is_stand => k_is)
    (case l_is_stand => k_is)
    (case c_is_stand => k_is)
    (case k_is_stand => k_is)
    (case a_are_stands => k_is)
    (case l_are_stands => k_is)
    (case c_are_stands => k_is)
    (case k_are_stands => k_is)
    (case a_copied => k_is)
    (case l_copied => k_is)
    (case c_copied => k_is)
    (case k_copied => k_is)
    (case a_leads => k_is)
    (case l_leads => k_is)
    (case c_leads => k_is)
    (case k_leads => k_is)
    (case a_is_ringless => k_is)
    (case l_is_ringless => k_is)
    (case c_is_ringless => k_is)
    (case k_is_ringless => k_is)
    (case a_Work_init => k_is)
    (case i_Work_init => k_is)
    (case l_Work_init => k_is)
    (case c_Work_init => k_is)
    (case k_Work_init => k_is)
    (case a_Work_row => k_is)
    (case i_Work_row => k_is)
    (case l_Work_row => k_is)
    (case c_Work_row => k_is)
    (case k_Work_row => k_is)
    (case a_Work_kind => k_is)
    (case i_Work_kind => k_is)
    (case l_Work_kind => k_is)
    (case c_Work_kind => k_is)
    (case k_Work_kind => k_is)
    (case a_Work_mover => k_is)
    (case i_Work_mover => k_is)
    (case l_Work_mover => k_is)
    (case c_Work_mover => k_is)
    (case k_Work_mover => k_is)
    (case a_Work_steps => k_is)
    (case i_Work_steps => k_is)
    (case l_Work_steps => k_is)
    (case c_Work_steps => k_is)
    (case k_Work_steps => k_is)
    (case a_Work_to => k_is)
    (case i_Work_to => k_is)
    (case l_Work_to => k_is)
    (case c_Work_to => k_is)
    (case k_Work_to => k_is)
    (case a_law_open => k_is)
    (case l_law_open => k_is)
    (case c_law_open => k_is)
    (case k_law_open => k_is)
    (case a_law_draw => k_is)
    (case l_law_draw => k_is)
    (case c_law_draw => k_is)
    (case k_law_draw => k_is)
    (case a_law_names => k_is)
    (case l_law_names => k_is)
    (case c_law_names => k_is)
    (case k_law_names => k_is)
    (case a_law_target => k_is)
    (case l_law_target => k_is)
    (case c_law_target => k_is)
    (case k_law_target => k_is)
    (case a_law_menu => k_is)
    (case l_law_menu => k_is)
    (case c_law_menu => k_is)
    (case k_law_menu => k_is)
    (case a_law_stand => k_is)
    (case l_law_stand => k_is)
    (case c_law_stand => k_is)
    (case k_law_stand => k_is)
    (case a_law_stands => k_is)
    (case l_law_stands => k_is)
    (case c_law_stands => k_is)
    (case k_law_stands => k_is)
    (case a_law_build => k_is)
    (case l_law_build => k_is)
    (case c_law_build => k_is)
    (case k_law_build => k_is)
    (case a_law_steps => k_is)
    (case l_law_steps => k_is)
    (case c_law_steps => k_is)
    (case k_law_steps => k_is)
    (case a_law_to => k_is)
    (case l_law_to => k_is)
    (case c_law_to => k_is)
    (case k_law_to => k_is)
    (case a_law_mover => k_is)
    (case l_law_mover => k_is)
    (case c_law_mover => k_is)
    (case k_law_mover => k_is)
    (case a_sight_sort => k_is)
    (case l_sight_sort => k_is)
    (case c_sight_sort => k_is)
    (case k_sight_sort => k_is)
    (case a_is_looks => k_is)
    (case l_is_looks => k_is)
    (case c_is_looks => k_is)
    (case k_is_looks => k_is)
    (case a_is_knowledge => k_is)
    (case l_is_knowledge => k_is)
    (case c_is_knowledge => k_is)
    (case k_is_knowledge => k_is)
    (case a_is_own => k_is)
    (case l_is_own => k_is)
    (case c_is_own => k_is)
    (case k_is_own => k_is)
    (case a_groups_after => k_is)
    (case l_groups_after => k_is)
    (case c_groups_after => k_is)
    (case k_groups_after => k_is)
    (case a_after => k_is)
    (case l_after => k_is)
    (case c_after => k_is)
    (case k_after => k_is)
    (case a_law_lot => k_is)
    (case l_law_lot => k_is)
    (case c_law_lot => k_is)
    (case k_law_lot => k_is)
    (case a_law_sort => k_is)
    (case l_law_sort => k_is)
    (case c_law_sort => k_is)
    (case k_law_sort => k_is)
    (case a_law_looks => k_is)
    (case l_law_looks => k_is)
    (case c_law_looks => k_is)
    (case k_law_looks => k_is)
    (case a_law_asked => k_is)
    (case l_law_asked => k_is)
    (case c_law_asked => k_is)
    (case k_law_asked => k_is)
    (case a_law_due => k_is)
    (case l_law_due => k_is)
    (case c_law_due => k_is)
    (case k_law_due => k_is)
    (case a_law_near_looks => k_is)
    (case l_law_near_looks => k_is)
    (case c_law_near_looks => k_is)
    (case k_law_near_looks => k_is)
    (case a_law_odd_move => k_is)
    (case l_law_odd_move => k_is)
    (case c_law_odd_move => k_is)
    (case k_law_odd_move => k_is)
    (case a_law_odd_knowledge => k_is)
    (case l_law_odd_knowledge => k_is)
    (case c_law_odd_knowledge => k_is)
    (case k_law_odd_knowledge => k_is)
    (case a_law => k_is)
    (case l_law => k_is)
    (case c_law => k_is)
    (case k_law => k_is)
    (case pg_Work => k_is)
    (case hd_Work => k_is)
    (case po_Work => k_is)
    (case sa_Work => k_is)
    (case mk_Work => k_is)
    (case kc_Work => k_is)
    (case n_Work_hands => k_is)
    (case n_Work_start => k_is)
    (case n_Work_table => k_is)
    (case n_Work_names => k_is)
    (case n_Work_ends => k_is)
    (case n_Work_ringless => k_is)
    (case z_ValueError => k_is)
    (case z_all => k_is)
    (case z_bool => k_is)
    (case z_dict => k_is)
    (case z_enumerate => k_is)
    (case z_int => k_is)
    (case z_isinstance => k_is)
    (case z_len => k_is)
    (case z_list => k_is)
    (case z_range => k_is)
    (case z_repr => k_is)
    (case z_sorted => k_is)
    (case z_str => k_is)
    (case z_tuple => k_is)
    (case z_super => k_is)
    (case z_any => k_is)
    (case xa_NoStep => k_is)
    (case xl_NoStep => k_is)
    (case xs_NoStep => k_is)
    (case xg_NoStep => k_is)
    (case xh_NoStep => k_is)
    (case xn_NoStep => k_is)
    (case xi_NoStep => k_is)
    (case xt_NoStep => k_is)
    (case xu_NoStep => first | ks_is | k_is)
    (case xm_NoStep => k_is)
    (case xv_NoStep => k_is)
    (case xb_NoStep => k_is)
    (case xy_NoStep => k_is)
    (case xk_NoStep => k_is)
    (case xd_NoStep => k_is)
    (case xc_NoStep => k_is)
    (case xf_NoStep => k_is)
    (case xo_NoStep => k_is)
    (case xe_NoStep => k_is)
    (case xp_NoStep => k_is)
    (case xq_NoStep => rfl)
    (case xa_OwnError => k_is)
    (case xy_OwnError => k_is)
    (case xc_OwnError => k_is)
    (case z_clget => k_is)
    (case z_cltk => k_is)
    (case xa_BadLooks => k_is)
    (case xx_BadLooks => k_exc)
    (case xk_BadLooks => k_is)
    (case xb_BadLooks => k_is)
    (case xy_BadLooks => k_is)
    (case xc_BadLooks => k_is)
    (case xg_BadLooks => k_is)
    (case xh_BadLooks => k_is)
    (case xd_BadLooks => k_is)
    (case xe_BadLooks => k_is)
    (case xm_BadLooks => k_is)
    (case xa_BadKnowledge => k_is)
    (case xx_BadKnowledge => k_exc)
    (case xk_BadKnowledge => k_is)
    (case xb_BadKnowledge => k_is)
    (case xy_BadKnowledge => k_is)
    (case xc_BadKnowledge => k_is)
    (case xg_BadKnowledge => k_is)
    (case xh_BadKnowledge => k_is)
    (case xd_BadKnowledge => k_is)
    (case xe_BadKnowledge => k_is)
    (case xm_BadKnowledge => k_is)
    (case xa_BadLook => k_is)
    (case xx_BadLook => k_exc)
    (case xk_BadLook => k_is)
    (case xb_BadLook => k_is)
    (case xy_BadLook => k_is)
    (case xc_BadLook => k_is)
    (case xg_BadLook => k_is)
    (case xh_BadLook => k_is)
    (case xd_BadLook => k_is)
    (case xe_BadLook => k_is)
    (case xm_BadLook => k_is)
    (case is_BadLooks_OwnError => k_is)
    (case is_BadKnowledge_OwnError => k_is)
    (case is_BadLook_ValueError => k_is)
    (case pr_BadLooks_BadLooks => first | rfl | k_is)
    (case pr_BadKnowledge_BadLooks => first | rfl | k_is)
    (case pr_BadKnowledge_BadKnowledge => first | rfl | k_is)
    (case pr_NoStep_BadLooks => first | rfl | k_is)
    (case pr_NoStep_BadKnowledge => first | rfl | k_is)
    (case pr_NoStep_NoStep => first | rfl | k_is)
    (case pr_BadLook_BadLooks => first | rfl | k_is)
    (case pr_BadLook_BadKnowledge => first | rfl | k_is)
    (case pr_BadLook_NoStep => first | rfl | k_is)
    (case pr_BadLook_BadLook => first | rfl | k_is)
#print axioms PySem.Challenge.cw_ownshares_k47_what_comes_after_holds
