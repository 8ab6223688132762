import PyProof.Rows.All
import Wide.All
import OpenK.AllK
import Wide.FinOn
import HandS.ForMost
import HandS.ForExc
import HandS.More
import HandS.Wide
import HandS.DictComp
import HandS.TupAny
import HandS.IsInst
import HandS.Walk
import HandS.Style
import HandS.SetKeys
import HandS.Steps
import PyProof.Rows.SortShellAny
import PyProof.Rows.RuleB_pow
import KE.GoesEnum
import HandS.Conv
import HandS.Property
import HandS.TryOnly
import KE.KDictSum
import HandS.SortRule
import HandS.NamedTupSort
import HandS.TupLe
import HandS.SortKw
import HandS.Finally
import KE.KEqDict
import HandS.TupLen
import HandS.Text
import KE.KDictDisplayH
import PyProof.ReprRoads
import PyProof.ReprBulk
import PyProof.NoPylong
import HandS.Nested
import KE.KDictCopyH
import KE.KeyNested
import HandS.ListItems
import KE.KExcSuper
import HandS.ExcInit
import HandS.ExcField
import HandS.TryMany
import HandS.ExcIs
import PySem.Challenge.RW_ownshares_k07_wishes_judged
set_option Elab.async false
set_option linter.all false
set_option maxRecDepth 100000
set_option maxHeartbeats 4000000
set_option pp.maxSteps 1200
set_option Elab.async false
set_option linter.all false
set_option maxRecDepth 100000
set_option maxHeartbeats 2000000
/-! The heap's order, readings of plain data, steps of readings: shared by all laws. -/
namespace M
open PySem PySem.Spec PyProof.Rows L2

/-! ### the heap's orders -/
/-- the heap without the addresses of S -/
def hid (S : List Addr) (H : Hp) : Hp := fun b => if b ∈ S then none else H b
/-- all but the addresses of S is as it was -/
def SX (S : List Addr) (A B : Hp) : Prop := ∀ b o, b ∉ S → A b = some o → B b = some o
/-- what is plain to be read -/
def Pl : HO → Prop
  | .lst _ | .tup _ | .dK _ | .dT _ => True
  | _ => False
/-- what may be read stays to be read -/
structure Le (A B : Hp) : Prop where
  rd : ∀ b u, Pl u → Rd A b u → Rd B b u
  ins : ∀ b C dx fs, A b = some (.ins C dx fs) → B b = some (.ins C dx fs)
  tup : ∀ b xs, A b = some (.tup xs) → B b = some (.tup xs)
theorem Le.refl (A : Hp) : Le A A := ⟨fun _ _ _ h => h, fun _ _ _ _ h => h, fun _ _ h => h⟩
theorem Le.trans {A B C : Hp} (a : Le A B) (b : Le B C) : Le A C := ⟨fun x u p h => b.rd x u p (a.rd x u p h), fun x c d f h => b.ins x c d f (a.ins x c d f h), fun x u h => b.tup x u (a.tup x u h)⟩
theorem le_of {A B : Hp} (h : ∀ b o, A b = some o → B b = some o) : Le A B :=
  ⟨fun b u _ q => by rcases q with q | ⟨o, q⟩
                     · exact .inl (h _ _ q)
                     · exact .inr ⟨o, h _ _ q⟩, fun b C dx fs q => h _ _ q, fun b xs q => h _ _ q⟩
theorem Le.l {K : PySem.W.Frag} {A B : Hp} {a : Addr} {xs : List V} (e : Le A B) (h : SqL K A a xs) : SqL K B a xs := by
  rcases h with h | h
  · exact .inl (e.rd _ _ trivial h)
  · exact .inr h
theorem Le.t {K : PySem.W.Frag} {A B : Hp} {a : Addr} {xs : List V} (e : Le A B) (h : SqT K A a xs) : SqT K B a xs := by
  rcases h with h | h
  · exact .inl (e.rd _ _ trivial h)
  · exact .inr h
theorem sqL {K : PySem.W.Frag} {H : Hp} {a : Addr} {xs : List V} (h : H a = some (.lst xs)) : SqL K H a xs := .inl (.inl h)
theorem sqT {K : PySem.W.Frag} {H : Hp} {a : Addr} {xs : List V} (h : H a = some (.tup xs)) : SqT K H a xs := .inl (.inl h)
theorem hid_at {S : List Addr} {H : Hp} {b : Addr} {o : HO} (h : hid S H b = some o) : b ∉ S ∧ H b = some o := by
  unfold hid at h
  split at h
  · cases h
  · exact ⟨by assumption, h⟩
theorem hid_of {S : List Addr} {H : Hp} {b : Addr} (h : b ∉ S) : hid S H b = H b := by
  unfold hid
  rw [if_neg h]
theorem hid_in {S : List Addr} {H : Hp} {b : Addr} (h : b ∈ S) : hid S H b = none := by
  unfold hid
  rw [if_pos h]
theorem hid_nil {H : Hp} : hid [] H = H := by
  funext b
  exact hid_of List.not_mem_nil
theorem le_hid {S : List Addr} {H : Hp} : Le (hid S H) H := le_of fun _ _ q => (hid_at q).2
theorem le_hid2 {S S' : List Addr} {H : Hp} (h : ∀ b ∈ S, b ∈ S') : Le (hid S' H) (hid S H) := le_of fun b o q => by
  obtain ⟨n, q⟩ := hid_at q
  rw [hid_of fun m => n (h b m)]
  exact q
theorem SX.refl {S : List Addr} (A : Hp) : SX S A A := fun _ _ _ h => h
theorem SX.trans {S : List Addr} {A B C : Hp} (a : SX S A B) (b : SX S B C) : SX S A C := fun x o n h => b x o n (a x o n h)
theorem SX.sub {S S' : List Addr} {A B : Hp} (h : ∀ b ∈ S, b ∈ S') (a : SX S A B) : SX S' A B := fun x o n q => a x o (fun m => n (h x m)) q
theorem SX.le {S : List Addr} {A B : Hp} (a : SX S A B) : Le (hid S A) (hid S B) := le_of fun b o q => by
  obtain ⟨n, q⟩ := hid_at q
  rw [hid_of n]
  exact a b o n q
theorem SX.le0 {A B : Hp} (a : SX [] A B) : Le A B := le_of fun b o q => a b o List.not_mem_nil q
theorem SX.leH {S : List Addr} {A B : Hp} (a : SX S A B) : Le (hid S A) B := a.le.trans le_hid
theorem SX.new {S : List Addr} {A : Hp} {p : Addr} {o : HO} (h : A p = none) : SX S A (upd A p o) := fun b u _ q => by
  rw [upd_ne (ne_of_none q h)]
  exact q
theorem SX.mut {S : List Addr} {A : Hp} {p : Addr} {o : HO} (h : p ∈ S) : SX S A (upd A p o) := fun b u n q => by
  rw [upd_ne (by rintro rfl; exact n h)]
  exact q
theorem SX.same {A B : Hp} (h : ∀ b o, A b = some o → B b = some o) {S : List Addr} : SX S A B := fun b o _ q => h b o q
theorem SX.at_ {S : List Addr} {A B : Hp} {b : Addr} {o : HO} (a : SX S A B) (q : A b = some o) (n : b ∉ S) : B b = some o := a b o n q
/-- fresh behind is fresh ahead -/
theorem SX.free {S : List Addr} {A B : Hp} {b : Addr} (a : SX S A B) (q : B b = none) (n : b ∉ S) : A b = none := by
  cases e : A b with
  | none => rfl
  | some o =>
    rw [a b o n e] at q
    cases q
theorem not_in_of_none {H : Hp} {p : Addr} {S : List Addr} (h : H p = none) (hs : ∀ b ∈ S, H b ≠ none) : p ∉ S := fun m => hs p m h
/-- locks -/
theorem le_lock {A : Hp} {d : Addr} {u : HO} {od : Obj} (h : A d = some u) (hm : Mut (some u)) (hi : ∀ C dx fs, u ≠ .ins C dx fs) : Le A (upd A d (.frz od u)) := by
  refine ⟨fun b v p q => ?_, fun b C dx fs q => ?_, fun b xs q => ?_⟩
  · by_cases e : b = d
    · subst e
      rcases q with q | ⟨o, q⟩
      · rw [h] at q
        cases q
        exact .inr ⟨od, upd_same⟩
      · rw [h] at q
        cases q
        exact hm.elim
    · unfold Rd
      rw [upd_ne e]
      exact q
  · rw [upd_ne]
    · exact q
    · rintro rfl
      rw [h] at q
      cases q
      exact hi _ _ _ rfl
  · rw [upd_ne]
    · exact q
    · rintro rfl
      rw [h] at q
      cases q
      exact hm
theorem le_unlock {A : Hp} {d : Addr} {u : HO} {od : Obj} (h : A d = some (.frz od u)) : Le A (upd A d u) := by
  refine ⟨fun b v p q => ?_, fun b C dx fs q => ?_, fun b xs q => ?_⟩
  · by_cases e : b = d
    · subst e
      rcases q with q | ⟨o, q⟩
      · rw [h] at q
        cases q
        exact p.elim
      · rw [h] at q
        cases q
        exact .inl upd_same
    · unfold Rd
      rw [upd_ne e]
      exact q
  · rw [upd_ne]
    · exact q
    · rintro rfl
      rw [h] at q
      cases q
  · rw [upd_ne]
    · exact q
    · rintro rfl
      rw [h] at q
      cases q

/-! ### steps of readings -/
section
variable {K : PySem.W.Frag} {σ σ' : L2.St} {H H' : Hp} {ta tb tc te : TE} {t u : TT} {x y z v : V} {r : R2} {Q : VK} {D : Ends} {t1 t2 : TS} {ag : TA} {QA : List V → Hp → Prop} {QB : Bool → Hp → Prop} {i j : Int}
theorem x_var {n : Nat} (h : σ[n]? = some (some v)) (k : Q v H) : tVar n σ H Q := ⟨v, h, k⟩
theorem x_c (k : Q v H) : tC v σ H Q := k
theorem x_op (k : ta σ H fun x H1 => tb σ H1 fun y H2 => r x y H2 Q) : tOp r ta tb σ H Q := k
theorem x_un {r : V → Hp → VK → Prop} (k : ta σ H fun x H1 => r x H1 Q) : tUn r ta σ H Q := k
theorem x_I0 {g : Int → Int → V} (k : Q (g i j) H) : rI0 g (.int i) (.int j) H Q := ⟨i, j, rfl, rfl, k⟩
theorem x_I {C : Int → Int → Prop} {g : Int → Int → V} (c : C i j) (k : Q (g i j) H) : rI C g (.int i) (.int j) H Q := ⟨i, j, rfl, rfl, c, k⟩
theorem x_U {g : Int → V} (k : Q (g i) H) : rU g (.int i) H Q := ⟨i, rfl, k⟩
theorem x_eq (h : scal x y = true) (k : Q (.bl (decide (x = y))) H) : rEq x y H Q := ⟨h, k⟩
theorem x_ne (h : scal x y = true) (k : Q (.bl (!decide (x = y))) H) : rNe x y H Q := ⟨h, k⟩
theorem x_test {te : TE} (k : te σ H fun x H' => ∃ c, x = .bl c ∧ QB c H') : tTest te σ H QB := k
theorem x_B {te : TE} (k : te σ H fun x H' => ∃ c, x = .bl c ∧ QB c H') : tB te σ H QB := k
theorem x_bl {b : Bool} {R : Bool → Prop} (k : R b) : ∃ c, V.bl b = .bl c ∧ R c := ⟨b, rfl, k⟩
theorem x_and (k : t σ H fun c H1 => if c = true then u σ H1 QB else QB false H1) : tAnd t u σ H QB := k
theorem x_or (k : t σ H fun c H1 => if c = true then QB true H1 else u σ H1 QB) : tOr t u σ H QB := k
theorem x_not (k : t σ H fun c H1 => QB (!c) H1) : tNot t σ H QB := k
theorem x_andV (k : ta σ H fun x H1 => ∃ c, x = .bl c ∧ if c = true then tb σ H1 Q else Q (.bl false) H1) : tAndV ta tb σ H Q := k
theorem x_orV (k : ta σ H fun x H1 => ∃ c, x = .bl c ∧ if c = true then Q (.bl true) H1 else tb σ H1 Q) : tOrV ta tb σ H Q := k
theorem x_notV (k : ta σ H fun x H1 => ∃ c, x = .bl c ∧ Q (.bl (!c)) H1) : tNotV ta σ H Q := k
theorem x_if (k : t σ H fun c H1 => if c = true then ta σ H1 Q else tb σ H1 Q) : tIf t ta tb σ H Q := k
theorem x_chain {r' : R2} (k : ta σ H fun x H1 => tb σ H1 fun y H2 => r x y H2 fun z H3 => ∃ k, z = .bl k ∧ (if k = true then tc σ H3 fun w' H4 => r' y w' H4 Q else Q (.bl false) H3)) : tChain r r' ta tb tc σ H Q := k
theorem x_CB {r : List V → Hp → VK → Prop} (k : ag σ H fun vs H1 => r vs H1 Q) : tCB r ag σ H Q := k
theorem x_nil (k : QA [] H) : tNil σ H QA := k
theorem x_cons {ar : TA} (k : ta σ H fun x H1 => ar σ H1 fun xs H2 => QA (x :: xs) H2) : tCons ta ar σ H QA := k
theorem x_tup (k : ag σ H fun xs H1 => xs.length ≤ sizeLine ∧ ∀ p, H1 p = none → Q (.ref p) (upd H1 p (.tup xs))) : tTup ag σ H Q := k
theorem x_lst (k : ag σ H fun xs H1 => xs.length ≤ sizeLine ∧ ∀ p, H1 p = none → Q (.ref p) (upd H1 p (.lst xs))) : tLst ag σ H Q := k
theorem x_call {sp : Sp} {dvs : List V} {E : XK} (k : ag σ H fun vs H1 => sp (vs ++ dvs) H1 Q E) : tCall sp dvs E ag σ H Q := k
theorem x_dnew (k : ∀ p, H p = none → Q (.ref p) (upd H p (.dK []))) : tDNewK σ H Q := k
theorem x_seq (k : t1 { D with nx := t2 D } σ H) : tSeq t1 t2 D σ H := k
theorem x_next (k : D.nx σ H) : tNext D σ H := k
theorem x_break (k : D.bk σ H) : tBreak D σ H := k
theorem x_cont (k : D.ct σ H) : tCont D σ H := k
theorem x_ret (k : te σ H D.rt) : tRet te D σ H := k
theorem x_retN (k : D.rt .non H) : tRetN D σ H := k
theorem x_drop (k : te σ H fun _ H1 => D.nx σ H1) : tDrop te D σ H := k
theorem x_ifS (k : t σ H fun b H1 => if b = true then t1 D σ H1 else t2 D σ H1) : tIfS t t1 t2 D σ H := k
theorem x_asg {g : TG} (k : te σ H fun x H1 => g x σ H1 D.nx) : tAsg te g D σ H := k
theorem x_name {n : Nat} {Q : L2.St → Hp → Prop} (e : σ.set n (some v) = σ') (k : Q σ' H) : gName n v σ H Q := by
  subst e
  exact k
theorem x_sub {to ti : TE} {st : TSet} {Q : L2.St → Hp → Prop} (k : to σ H fun o H1 => ti σ H1 fun i H2 => st o i v H2 fun H3 => Q σ H3) : gSub to ti st v σ H Q := k
theorem x_gnil {Q : L2.St → Hp → Prop} (k : Q σ H) : gNil [] σ H Q := ⟨rfl, k⟩
theorem x_gcons {g : TG} {gs : TGs} {vs : List V} {Q : L2.St → Hp → Prop} (k : g v σ H fun σ' H' => gs vs σ' H' Q) : gCons g gs (v :: vs) σ H Q := ⟨v, vs, rfl, k⟩
theorem x_gtup {n : Nat} {gs : TGs} {a : Addr} {xs : List V} {Q : L2.St → Hp → Prop} (h : SqT K H a xs) (hl : xs.length = n) (k : gs xs σ H Q) : gTup K n gs (.ref a) σ H Q := ⟨a, xs, rfl, h, hl, k⟩
theorem x_par {n m : Nat} (k : ag σ H fun vs H1 => ∃ v w, vs = [v, w] ∧ D.nx ((σ.set n (some v)).set m (some w)) H1) : tPar n m ag D σ H := k
theorem x_par2 {v w : V} {R : V → V → Prop} (k : R v w) : ∃ v' w', [v, w] = [v', w'] ∧ R v' w' := ⟨v, w, rfl, k⟩
theorem x_aug {n : Nat} {ti : TIp} (h : σ[n]? = some (some x)) (k : te σ H fun y H1 => ti x y H1 fun z H2 => D.nx (σ.set n (some z)) H2) : tAug n te ti D σ H := ⟨x, h, k⟩
theorem x_ipI {f : Int → Int → Int} (k : Q (.int (f i j)) H) : ipI f (.int i) (.int j) H Q := ⟨i, j, rfl, rfl, k⟩
theorem x_dput {td ty tv : TE} (k : tv σ H fun v H1 => td σ H1 fun x H2 => ty σ H2 fun y H3 => ∃ a H4, x = .ref a ∧ DPut H3 a y v H4 ∧ D.nx σ H4) : sDPut td ty tv D σ H := k
theorem x_dget {td ty : TE} (k : td σ H fun x H1 => ty σ H1 fun y H2 => ∃ a v, x = .ref a ∧ DGet H2 a y (some v) ∧ Q v H2) : tDGet td ty σ H Q := k
theorem x_din {td ty : TE} (k : ty σ H fun y H1 => td σ H1 fun x H2 => ∃ a o, x = .ref a ∧ DGet H2 a y o ∧ Q (.bl o.isSome) H2) : tDIn ty td σ H Q := k
theorem x_dnotin {td ty : TE} (k : ty σ H fun y H1 => td σ H1 fun x H2 => ∃ a o, x = .ref a ∧ DGet H2 a y o ∧ Q (.bl (!o.isSome)) H2) : tDNotIn ty td σ H Q := k
theorem x_bm {T : String} {r : V → List V → Hp → VK → Prop} (k : ta σ H fun x H1 => tyV K T x H1 ∧ ag σ H1 fun xs H2 => r x xs H2 Q) : tBM K T r ta ag σ H Q := k
theorem x_bm0 {T : String} {r : V → List V → Hp → VK → Prop} (k : ta σ H fun x H1 => tyV K T x H1 ∧ r x [] H1 Q) : tBM0 K T r ta σ H Q := k
theorem x_sl {r : V → Option Int → Option Int → Hp → VK → Prop} {tl th : TO} (k : te σ H fun x H1 => tl σ H1 fun l H2 => th σ H2 fun u H3 => r x l u H3 Q) : tSl r te tl th σ H Q := k
theorem x_nopart {Q : Option Int → Hp → Prop} (k : Q none H) : tNoPart σ H Q := k
theorem x_part {Q : Option Int → Hp → Prop} (k : te σ H fun x H1 => ∃ i, x = .int i ∧ Q (some i) H1) : tPart te σ H Q := k
theorem x_int {Q : Int → Prop} (k : Q i) : ∃ j, V.int i = .int j ∧ Q j := ⟨i, rfl, k⟩
theorem x_fld {f : Str} (k : te σ H fun x H1 => ∃ a C dx fs v, x = .ref a ∧ H1 a = some (.ins C dx fs) ∧ Cls K C ∧ NoAttr K C f ∧ fs.lookup f = some v ∧ Q v H1) : tFld K te f σ H Q := k
theorem x_start {t : TS} (e : σ = σ') (k : t D σ' H) : t D σ H := by
  rw [e]
  exact k
theorem x_for {wi : TI} {g : TG} {tb : TS} (k : wi σ H fun J H1 => ∃ W : Nat → Nat → L2.St → Hp → Prop, (∃ m, W 0 m σ H1) ∧ ∀ i m σ H, W i m σ H →
  (J.stop i H ∧ D.nx σ H) ∨ (J.go i H ∧ ∃ N : L2.St → Hp → Prop, (∀ σ' H', N σ' H' → ∃ m', m' < m ∧ W (i + 1) m' σ' H') ∧ ∀ x H', J.yld i H x H' → g x σ H' fun σ2 H2 => tb { D with nx := N, ct := N, bk := D.nx } σ2 H2)) : tFor wi g tb D σ H := k
theorem x_iStr {R : It → Hp → Prop} (k : te σ H fun v H1 => ∃ x, v = .str x ∧ R (Its x) H1) : iStr te σ H R := k
theorem x_str {s : Str} {R : Str → Prop} (k : R s) : ∃ x, V.str s = .str x ∧ R x := ⟨s, rfl, k⟩
theorem x_iRng1 {R : It → Hp → Prop} (k : ag σ H fun vs H1 => ∃ j : Int, vs = [.int j] ∧ -(2 ^ 62) ≤ j ∧ j < 2 ^ 62 ∧ R (Itr 0 j.toNat) H1) : iRng1 ag σ H R := k
theorem x_rng1 {R : Int → Prop} (h1 : -(2 ^ 62) ≤ i) (h2 : i < 2 ^ 62) (k : R i) : ∃ j : Int, [V.int i] = [.int j] ∧ -(2 ^ 62) ≤ j ∧ j < 2 ^ 62 ∧ R j := ⟨i, rfl, h1, h2, k⟩
theorem x_iRng2 {R : It → Hp → Prop} (k : ag σ H fun vs H1 => ∃ i j : Int, vs = [.int i, .int j] ∧ (-(2 ^ 62) ≤ i ∧ i < 2 ^ 62 ∧ -(2 ^ 62) ≤ j ∧ j < 2 ^ 62) ∧ R (Itr i (j - i).toNat) H1) : iRng2 ag σ H R := k
theorem x_rng2 {R : Int → Int → Prop} (h : -(2 ^ 62) ≤ i ∧ i < 2 ^ 62 ∧ -(2 ^ 62) ≤ j ∧ j < 2 ^ 62) (k : R i j) : ∃ i' j' : Int, [V.int i, V.int j] = [.int i', .int j'] ∧ (-(2 ^ 62) ≤ i' ∧ i' < 2 ^ 62 ∧ -(2 ^ 62) ≤ j' ∧ j' < 2 ^ 62) ∧ R i' j' := ⟨i, j, rfl, h, k⟩
theorem x_iList {R : It → Hp → Prop} (k : te σ H fun x H1 => ∃ a, x = .ref a ∧ (∃ xs, SqL K H1 a xs) ∧ R (Itl K a) H1) : iList K te σ H R := k
theorem x_itl {a : Addr} {xs : List V} {R : Addr → Prop} (h : SqL K H a xs) (k : R a) : ∃ a', V.ref a = .ref a' ∧ (∃ xs, SqL K H a' xs) ∧ R a' := ⟨a, rfl, ⟨xs, h⟩, k⟩
theorem x_iTup {R : It → Hp → Prop} (k : te σ H fun x H1 => ∃ a, x = .ref a ∧ (∃ xs, SqT K H1 a xs) ∧ R (Itt K a) H1) : iTup K te σ H R := k
theorem x_itt {a : Addr} {xs : List V} {R : Addr → Prop} (h : SqT K H a xs) (k : R a) : ∃ a', V.ref a = .ref a' ∧ (∃ xs, SqT K H a' xs) ∧ R a' := ⟨a, rfl, ⟨xs, h⟩, k⟩
theorem x_iKeys {R : It → Hp → Prop} (k : te σ H fun x H1 => ∃ d o, x = .ref d ∧ ((∃ kvs, H1 d = some (.frz o (.dK kvs)) ∧ R (Itk d o kvs) H1) ∨ ∃ kvs, H1 d = some (.frz o (.dT kvs)) ∧ R (Itkt d o kvs) H1)) : iKeys te σ H R := k
theorem x_itk {d : Addr} {o : Obj} {kvs : List (Key × V)} {R : Addr → Obj → List (Key × V) → Prop} {R' : Addr → Obj → Prop} (h : H d = some (.frz o (.dK kvs))) (k : R d o kvs) : ∃ d' o', V.ref d = .ref d' ∧ ((∃ kvs, H d' = some (.frz o' (.dK kvs)) ∧ R d' o' kvs) ∨ R' d' o') := ⟨d, o, rfl, .inl ⟨kvs, h, k⟩⟩
theorem x_iVals {R : It → Hp → Prop} (k : te σ H fun x H1 => ∃ d o kvs, x = .ref d ∧ H1 d = some (.frz o (.dK kvs)) ∧ R (Itd d o kvs) H1) : iVals te σ H R := k
theorem x_itd {d : Addr} {o : Obj} {kvs : List (Key × V)} {R : Addr → Obj → List (Key × V) → Prop} (h : H d = some (.frz o (.dK kvs))) (k : R d o kvs) : ∃ d' o' kvs', V.ref d = .ref d' ∧ H d' = some (.frz o' (.dK kvs')) ∧ R d' o' kvs' := ⟨d, o, kvs, rfl, h, k⟩
theorem x_iItems {R : It → Hp → Prop} (k : te σ H fun x H1 => ∃ d o kvs, x = .ref d ∧ H1 d = some (.frz o (.dK kvs)) ∧ R (Iti d o kvs) H1) : iItems te σ H R := k
theorem x_iti {d : Addr} {o : Obj} {kvs : List (Key × V)} {R : Addr → Obj → List (Key × V) → Prop} (h : H d = some (.frz o (.dK kvs))) (k : R d o kvs) : ∃ d' o' kvs', V.ref d = .ref d' ∧ H d' = some (.frz o' (.dK kvs')) ∧ R d' o' kvs' := ⟨d, o, kvs, rfl, h, k⟩
theorem x_nt {A B : Prop} (k : B) : if (!true) = true then A else B := iteF k
theorem x_nf {A B : Prop} (k : A) : if (!false) = true then A else B := iteT k
theorem x_true {c : Bool} {A B : Prop} (h : c = true) (k : A) : if c = true then A else B := by
  rw [if_pos h]
  exact k
theorem x_false {c : Bool} {A B : Prop} (h : c = false) (k : B) : if c = true then A else B := by
  rw [h]
  exact iteF k
theorem x_cases {c : Bool} {A B : Prop} (h1 : c = true → A) (h2 : c = false → B) : if c = true then A else B := by
  cases c
  · exact iteF (h2 rfl)
  · exact iteT (h1 rfl)
end

theorem cx_K {CX : CXT} {P : Program} {w : World} {K : PySem.W.Frag} {mg : Str → Option Value} {base : Heap} {N : List Str} {qual : Str} {scope : Scope} {f : Addr} {cd : Value} {A : Around} {outer : List Env} {s : Shared} {H : Hp} {E : XK} :
    (cxOf CX P w K mg base N qual scope f cd A outer s H E).K = K := rfl
theorem cx_w {CX : CXT} {P : Program} {w : World} {K : PySem.W.Frag} {mg : Str → Option Value} {base : Heap} {N : List Str} {qual : Str} {scope : Scope} {f : Addr} {cd : Value} {A : Around} {outer : List Env} {s : Shared} {H : Hp} {E : XK} :
    (cxOf CX P w K mg base N qual scope f cd A outer s H E).w = w := rfl
theorem cx_P {CX : CXT} {P : Program} {w : World} {K : PySem.W.Frag} {mg : Str → Option Value} {base : Heap} {N : List Str} {qual : Str} {scope : Scope} {f : Addr} {cd : Value} {A : Around} {outer : List Env} {s : Shared} {H : Hp} {E : XK} :
    (cxOf CX P w K mg base N qual scope f cd A outer s H E).prog = P := rfl
theorem cx_n {X : Cx} {E : Value → Shared → Prop} : (X.wish E).K = X.K := rfl
/-! ### defs of the top -/
structure FX (K : PySem.W.Frag) (mg : Str → Option Value) (x qual : Str) (st : Stmt) (ps : List Str) where
  f : Addr
  fd : FuncData
  F : Fun K x qual st f fd
  g : mg x = some (.ref f)
  B : Binds K fd ps []
structure MX (K : PySem.W.Frag) (x qual : Str) (st : Stmt) (ps : List Str) where
  f : Addr
  fd : FuncData
  F : Fun K x qual st f fd
  B : Binds K fd ps []

/-! ### readings of plain data -/
abbrev RR (α : Type) := Hp → V → α → Prop
/-- a reading that stays as the heap grows -/
def Mono {α : Type} (R : RR α) : Prop := ∀ A B v x, Le A B → R A v x → R B v x
def rI : RR Int := fun _ v i => v = .int i
def rS : RR Str := fun _ v s => v = .str s
def rB : RR Bool := fun _ v b => v = .bl b
theorem mono_I : Mono rI := fun _ _ _ _ _ h => h
theorem mono_S : Mono rS := fun _ _ _ _ _ h => h
theorem mono_B : Mono rB := fun _ _ _ _ _ h => h
/-- a list, a tuple of alike things -/
def rL (K : PySem.W.Frag) {α : Type} (R : RR α) : RR (List α) := fun H v l => ∃ a xs, v = .ref a ∧ SqL K H a xs ∧ Paired (R H) xs l
def rTL (K : PySem.W.Frag) {α : Type} (R : RR α) : RR (List α) := fun H v l => ∃ a xs, v = .ref a ∧ SqT K H a xs ∧ Paired (R H) xs l
def rP (K : PySem.W.Frag) {α β : Type} (R : RR α) (S : RR β) : RR (α × β) := fun H v p => ∃ a x y, v = .ref a ∧ SqT K H a [x, y] ∧ R H x p.1 ∧ S H y p.2
/-- a dict whose keys are texts -/
def KVs {α : Type} (R : RR α) (H : Hp) : List (Key × V) → List (Str × α) → Prop := Paired fun kv p => kv.1 = Sum.inr p.1 ∧ R H kv.2 p.2
def rD {α : Type} (R : RR α) : RR (List (Str × α)) := fun H v l => ∃ a kvs, v = .ref a ∧ Rd H a (.dK kvs) ∧ KVs R H kvs l
section
variable {K : PySem.W.Frag} {α β : Type} {R : RR α} {S : RR β}
theorem paired_le {A B : Hp} (m : Mono R) (e : Le A B) : ∀ {xs : List V} {l : List α}, Paired (R A) xs l → Paired (R B) xs l
  | _, _, .nil => .nil
  | _, _, .cons h t => .cons (m _ _ _ _ e h) (paired_le m e t)
theorem KVs.le {A B : Hp} (m : Mono R) (e : Le A B) : ∀ {xs : List (Key × V)} {l : List (Str × α)}, KVs R A xs l → KVs R B xs l
  | _, _, .nil => .nil
  | _, _, .cons h t => .cons ⟨h.1, m _ _ _ _ e h.2⟩ (KVs.le m e t)
theorem mono_L (m : Mono R) : Mono (rL K R) := fun A B v l e ⟨a, xs, h1, h2, h3⟩ => ⟨a, xs, h1, e.l h2, paired_le m e h3⟩
theorem mono_TL (m : Mono R) : Mono (rTL K R) := fun A B v l e ⟨a, xs, h1, h2, h3⟩ => ⟨a, xs, h1, e.t h2, paired_le m e h3⟩
theorem mono_P (m : Mono R) (n : Mono S) : Mono (rP K R S) := fun A B v p e ⟨a, x, y, h1, h2, h3, h4⟩ => ⟨a, x, y, h1, e.t h2, m _ _ _ _ e h3, n _ _ _ _ e h4⟩
theorem mono_D (m : Mono R) : Mono (rD R) := fun A B v l e ⟨a, kvs, h1, h2, h3⟩ => ⟨a, kvs, h1, e.rd _ _ trivial h2, KVs.le m e h3⟩
end

/-! ### paired lists -/
section
variable {α β : Type} {F : α → β → Prop}
theorem Paired.get : ∀ {xs : List α} {l : List β} {i : Nat} {y : β}, Paired F xs l → l[i]? = some y → ∃ x, xs[i]? = some x ∧ F x y
  | _, _, _, _, .nil, e => by simp at e
  | _, _, 0, y, .cons h _, e => by simp at e; subst e; exact ⟨_, rfl, h⟩
  | _, _, i + 1, y, .cons _ t, e => by
    obtain ⟨x, h1, h2⟩ := Paired.get (i := i) (y := y) t (by simpa using e)
    exact ⟨x, by simpa using h1, h2⟩
theorem Paired.getL : ∀ {xs : List α} {l : List β} {i : Nat} {x : α}, Paired F xs l → xs[i]? = some x → ∃ y, l[i]? = some y ∧ F x y
  | _, _, _, _, .nil, e => by simp at e
  | _, _, 0, y, .cons h _, e => by simp at e; subst e; exact ⟨_, rfl, h⟩
  | _, _, i + 1, y, .cons _ t, e => by
    obtain ⟨x, h1, h2⟩ := Paired.getL (i := i) (x := y) t (by simpa using e)
    exact ⟨x, by simpa using h1, h2⟩
theorem Paired.app : ∀ {xs xs' : List α} {l l' : List β}, Paired F xs l → Paired F xs' l' → Paired F (xs ++ xs') (l ++ l')
  | _, _, _, _, .nil, h => h
  | _, _, _, _, .cons a t, h => .cons a (Paired.app t h)
theorem Paired.map_right {γ : Type} {g : γ → β} : ∀ {xs : List α} {l : List γ}, Paired (fun x y => F x (g y)) xs l → Paired F xs (l.map g)
  | _, _, .nil => .nil
  | _, _, .cons a t => .cons a (Paired.map_right t)
end
/-- ints, texts in a list are told by what they are -/
theorem paired_I {H : Hp} : ∀ {xs : List V} {l : List Int}, Paired (rI H) xs l → xs = l.map V.int
  | _, _, .nil => rfl
  | _, _, .cons h t => by rw [h, paired_I t]; rfl
theorem paired_S {H : Hp} : ∀ {xs : List V} {l : List Str}, Paired (rS H) xs l → xs = l.map V.str
  | _, _, .nil => rfl
  | _, _, .cons h t => by rw [h, paired_S t]; rfl
theorem paired_B {H : Hp} : ∀ {xs : List V} {l : List Bool}, Paired (rB H) xs l → xs = l.map V.bl
  | _, _, .nil => rfl
  | _, _, .cons h t => by rw [h, paired_B t]; rfl
theorem paired_I' {H : Hp} : ∀ (l : List Int), Paired (rI H) (l.map V.int) l
  | [] => .nil
  | a :: t => .cons rfl (paired_I' t)
theorem paired_S' {H : Hp} : ∀ (l : List Str), Paired (rS H) (l.map V.str) l
  | [] => .nil
  | a :: t => .cons rfl (paired_S' t)
theorem KVs.keys {α : Type} {R : RR α} {H : Hp} : ∀ {kvs : List (Key × V)} {l : List (Str × α)}, KVs R H kvs l → kvs.map (·.1) = (l.map (·.1)).map Sum.inr
  | _, _, .nil => rfl
  | _, _, .cons h t => by
    rw [List.map_cons, List.map_cons, List.map_cons, h.1, KVs.keys t]

/-! ### a dict's look-up by what it holds -/
def lookA {α : Type} : List (Str × α) → Str → Option α
  | [], _ => none
  | (k, a) :: r, x => if k = x then some a else lookA r x
theorem KVs.look {α : Type} {R : RR α} {H : Hp} : ∀ {kvs : List (Key × V)} {l : List (Str × α)} (x : Str), KVs R H kvs l → (∃ v a, valV kvs (Sum.inr x) = some v ∧ lookA l x = some a ∧ R H v a) ∨ (valV kvs (Sum.inr x) = none ∧ lookA l x = none)
  | _, _, x, .nil => .inr ⟨rfl, rfl⟩
  | kv :: kvs, (y, a) :: l, x, .cons h t => by
    by_cases e : y = x
    · left
      refine ⟨kv.2, a, valV_pos (by rw [h.1, e]), ?_, h.2⟩
      unfold lookA
      rw [if_pos e]
    · have n : ¬ kv.1 = (Sum.inr x : Key) := by
        rw [h.1]
        intro q
        exact e (Sum.inr.inj q)
      rw [valV_neg n]
      unfold lookA
      rw [if_neg e]
      exact KVs.look x t
theorem lookA_mem {α : Type} : ∀ {l : List (Str × α)} {x : Str} {a : α}, lookA l x = some a → (x, a) ∈ l
  | (k, b) :: r, x, a, h => by
    unfold lookA at h
    split at h
    · rename_i e
      cases h
      subst e
      exact List.mem_cons_self
    · exact List.mem_cons_of_mem _ (lookA_mem h)
theorem lookA_some {α : Type} : ∀ {l : List (Str × α)} {x : Str}, x ∈ l.map (·.1) → ∃ a, lookA l x = some a
  | (k, b) :: r, x, h => by
    unfold lookA
    by_cases e : k = x
    · exact ⟨b, if_pos e⟩
    · rw [if_neg e]
      rcases List.mem_cons.mp h with h | h
      · exact absurd h.symm e
      · exact lookA_some h
theorem lookA_none {α : Type} : ∀ {l : List (Str × α)} {x : Str}, x ∉ l.map (·.1) → lookA l x = none
  | [], _, _ => rfl
  | (k, b) :: r, x, h => by
    unfold lookA
    rw [if_neg fun e => h (List.mem_cons.mpr (.inl e.symm)), lookA_none fun m => h (List.mem_cons_of_mem _ m)]
theorem lookA_isSome {α : Type} {l : List (Str × α)} {x : Str} : (lookA l x).isSome = true ↔ x ∈ l.map (·.1) := by
  constructor
  · intro h
    by_cases m : x ∈ l.map (·.1)
    · exact m
    · rw [lookA_none m] at h
      cases h
  · intro h
    obtain ⟨a, e⟩ := lookA_some h
    rw [e]
    rfl
theorem lookA_nodup {α : Type} : ∀ {l : List (Str × α)} {x : Str} {a : α}, (l.map (·.1)).Nodup → (x, a) ∈ l → lookA l x = some a
  | (k, b) :: r, x, a, hn, h => by
    have hn : (k :: r.map (·.1)).Nodup := hn
    obtain ⟨h1, h2⟩ := List.nodup_cons.mp hn
    unfold lookA
    rcases List.mem_cons.mp h with h | h
    · cases h
      exact if_pos rfl
    · rw [if_neg]
      · exact lookA_nodup h2 h
      · rintro rfl
        exact h1 (List.mem_map.mpr ⟨_, h, rfl⟩)
/-- d[x] = a -/
def putA {α : Type} : List (Str × α) → Str → α → List (Str × α)
  | [], x, a => [(x, a)]
  | (k, b) :: r, x, a => if k = x then (k, a) :: r else (k, b) :: putA r x a

/-! ### more steps -/
section
variable {K : PySem.W.Frag} {σ σ' : L2.St} {H H' : Hp} {x y z v : V} {Q : VK} {D : Ends} {i : Int}
theorem ty_tup {a : Addr} {xs : List V} (h : SqT K H a xs) : TyX K H (.ref a) (.type "tuple") := by
  rcases h with (h | ⟨o, h⟩) | ⟨o, its, n, h1, h2, _⟩
  · exact .base (.tup h)
  · exact .fTuple h
  · exact .kTuple h1 h2
theorem ty_dict {a : Addr} {kvs : List (Key × V)} (h : Rd H a (.dK kvs)) : TyX K H (.ref a) (.type "dict") := by
  rcases h with h | ⟨o, h⟩
  · exact .base (.dK h)
  · exact .fDict h
theorem ty_list {a : Addr} {xs : List V} (h : SqL K H a xs) : TyX K H (.ref a) (.type "list") := by
  rcases h with (h | ⟨o, h⟩) | ⟨o, its, n, h1, h2, _⟩
  · exact .base (.lst h)
  · exact .base (.frz h)
  · exact .kList h1 h2
theorem x_isi {a b : String} {r : Bool} (ty : TyX K H x (.type a)) (h : kitB a b = some r) (k : Q (.bl r) H) : rIsi K [x, .ty b] H Q := ⟨x, .ty b, _, _, r, rfl, .ty b, ty, kit_ty h, k⟩
theorem x_isiT {a b : String} (ty : TyX K H x (.type a)) (h : kitB a b = some true) (k : Q (.bl true) H) : rIsi K [x, .ty b] H Q := x_isi ty h k
theorem x_isiF {a b : String} (ty : TyX K H x (.type a)) (h : kitB a b = some false) (k : Q (.bl false) H) : rIsi K [x, .ty b] H Q := x_isi ty h k
theorem x_lenS {s : Str} (h : s.length ≤ sizeLine) (k : Q (.int s.length) H) : ∃ x n, [V.str s] = [x] ∧ LenV K x H n ∧ Q (.int n) H := ⟨_, _, rfl, ⟨h, rfl⟩, k⟩
theorem x_lenL {a : Addr} {xs : List V} (h : SqL K H a xs) (k : Q (.int xs.length) H) : ∃ x n, [V.ref a] = [x] ∧ LenV K x H n ∧ Q (.int n) H := ⟨_, _, rfl, .inl ⟨xs, h, rfl⟩, k⟩
theorem x_lenT {a : Addr} {xs : List V} (h : SqT K H a xs) (k : Q (.int xs.length) H) : ∃ x n, [V.ref a] = [x] ∧ LenV K x H n ∧ Q (.int n) H := ⟨_, _, rfl, .inr ⟨xs, h, rfl⟩, k⟩
theorem x_ixT {a : Addr} {xs : List V} (h : SqT K H a xs) (e : atI xs i = some v) (k : Q v H) : rIxT K (.ref a) (.int i) H Q := ⟨a, xs, i, v, rfl, rfl, h, e, k⟩
theorem x_ixL {a : Addr} {xs : List V} (h : SqL K H a xs) (e : atI xs i = some v) (k : Q v H) : rIxL K (.ref a) (.int i) H Q := ⟨a, xs, i, v, rfl, rfl, h, e, k⟩
theorem x_ixS {s : Str} {c : Nat} (h : s.length ≤ sizeLine) (e : atI s.cps.toList i = some c) (k : Q (.str ⟨#[c]⟩) H) : rIxS (.str s) (.int i) H Q := ⟨s, i, c, rfl, rfl, h, e, k⟩
/-- what a dict of texts holds at a text -/
theorem dget_rd {a : Addr} {kvs : List (Key × V)} {s : Str} (h : Rd H a (.dK kvs)) : DGet H a (.str s) (valV kvs (Sum.inr s)) := .inl ⟨kvs, Sum.inr s, h, rfl, rfl⟩
end
/-- len of a dict that may be locked -/
theorem call_lenR {X : Cx} : CallR X (.builtin "len") (fun xs H Q => ∃ a kvs, xs = [V.ref a] ∧ Rd H a (.dK kvs) ∧ Q (.int kvs.length) H) := by
  intro pins s σ H xs us Q I r h
  obtain ⟨a, kvs, rfl, ha, q⟩ := h
  obtain ⟨u, rfl, ru⟩ := vals1 r
  cases ru
  exact d_len I ha fun t s' I' => ⟨.int kvs.length, H, I', ⟨t, rfl⟩, q⟩
/-- H with o (or nothing) at d -/
def put (H : Hp) (d : Addr) (o : Option HO) : Hp := fun b => if b = d then o else H b
theorem put_ne {H : Hp} {d b : Addr} {o : Option HO} (h : b ≠ d) : put H d o b = H b := by
  unfold put
  rw [if_neg h]
theorem put_same {H : Hp} {d : Addr} {o : Option HO} : put H d o d = o := by
  unfold put
  rw [if_pos rfl]
theorem put_upd {H : Hp} {d : Addr} {u : HO} : put H d (some u) = upd H d u := rfl
theorem put_self {H : Hp} {d : Addr} {o : Option HO} (h : H d = o) : put H d o = H := by
  funext b
  unfold put
  split
  · rename_i e
    rw [e, h]
  · rfl
/-- a thing is locked, or it was locked before -/
def tLockR (t : TS) : TS := fun D σ H => ∃ d u, Rd H d u ∧ Mut (some u) ∧ ∀ od HL, HL d = some (.frz od u) → (∀ b, b ≠ d → HL b = H b) →
  t ⟨fun σ' H' => H' d = some (.frz od u) ∧ D.nx σ' (put H' d (H d)), fun v H' => H' d = some (.frz od u) ∧ D.rt v (put H' d (H d)), fun σ' H' => H' d = some (.frz od u) ∧ D.bk σ' (put H' d (H d)), fun σ' H' => H' d = some (.frz od u) ∧ D.ct σ' (put H' d (H d))⟩ σ HL
def tLockRE (t : TE) : TE := fun σ H Q => ∃ d u, Rd H d u ∧ Mut (some u) ∧ ∀ od HL, HL d = some (.frz od u) → (∀ b, b ≠ d → HL b = H b) → t σ HL fun v H' => H' d = some (.frz od u) ∧ Q v (put H' d (H d))
theorem ps_lockR {X : Cx} {st : Stmt} {t : TS} (h : PS X st t) : PS X st (tLockR t) := by
  refine ⟨fun pins s σ H D I hw => ?_⟩
  obtain ⟨d, u, hd, mu, hw⟩ := hw
  rcases hd with hd | ⟨o, hd⟩
  · refine (ps_lock h).run pins s σ H D I ⟨d, u, hd, mu, fun od => ?_⟩
    have q := hw od (upd H d (.frz od u)) upd_same fun b hb => upd_ne hb
    rw [hd] at q
    exact q
  · refine thn (h.run pins s σ _ _ I (hw o H hd fun _ _ => rfl)) fun f s1 q => ?_
    cases f with
    | next => obtain ⟨σ', H', I2, e, q⟩ := q; rw [put_self (e.trans hd.symm)] at q; exact ⟨σ', _, I2, q⟩
    | brk => obtain ⟨σ', H', I2, e, q⟩ := q; rw [put_self (e.trans hd.symm)] at q; exact ⟨σ', _, I2, q⟩
    | cont => obtain ⟨σ', H', I2, e, q⟩ := q; rw [put_self (e.trans hd.symm)] at q; exact ⟨σ', _, I2, q⟩
    | ret v => obtain ⟨x, σ', H', I2, r, e, q⟩ := q; rw [put_self (e.trans hd.symm)] at q; exact ⟨x, σ', _, I2, r, q⟩
theorem pe_lockR {X : Cx} {e : Expr} {t : TE} (h : PE X e t) : PE X e (tLockRE t) := by
  refine ⟨fun pins s σ H Q I hw => ?_⟩
  obtain ⟨d, u, hd, mu, hw⟩ := hw
  rcases hd with hd | ⟨o, hd⟩
  · refine (pe_lock h).run pins s σ H Q I ⟨d, u, hd, mu, fun od => ?_⟩
    have q := hw od (upd H d (.frz od u)) upd_same fun b hb => upd_ne hb
    rw [hd] at q
    exact q
  · refine thn (h.run pins s σ _ _ I (hw o H hd fun _ _ => rfl)) fun v s1 ⟨x, H1, I2, r, e2, q⟩ => ?_
    rw [put_self (e2.trans hd.symm)] at q
    exact ⟨x, _, I2, r, q⟩
section
variable {H HL H' : Hp} {d : Addr} {kvs : List (Key × V)} {od : Obj} {S : List Addr}
theorem lock_le (h : Rd H d (.dK kvs)) (e : HL d = some (.frz od (.dK kvs))) (ne : ∀ b, b ≠ d → HL b = H b) : Le H HL := by
  refine ⟨fun b v p q => ?_, fun b C dx fs q => ?_, fun b xs q => ?_⟩
  · by_cases hb : b = d
    · subst hb
      have z : v = .dK kvs := by
        rcases q with q | ⟨o, q⟩ <;> rcases h with h | ⟨o', h⟩ <;> rw [h] at q <;> cases q
        · rfl
        · exact p.elim
        · rfl
      exact .inr ⟨od, by rw [e, z]⟩
    · unfold Rd
      rw [ne b hb]
      exact q
  · rw [ne]
    · exact q
    · rintro rfl
      rcases h with h | ⟨o', h⟩ <;> rw [h] at q <;> cases q
  · rw [ne]
    · exact q
    · rintro rfl
      rcases h with h | ⟨o', h⟩ <;> rw [h] at q <;> cases q
theorem unlock_sx (ne : ∀ b, b ≠ d → HL b = H b) (a : SX S HL H') : SX S H (put H' d (H d)) := fun b o n q => by
  by_cases hb : b = d
  · subst hb
    rw [put_same]
    exact q
  · rw [put_ne hb]
    exact a b o n (by rw [ne b hb]; exact q)
theorem unlock_le (h : Rd H d (.dK kvs)) (e : H' d = some (.frz od (.dK kvs))) : Le H' (put H' d (H d)) := by
  rcases h with h | ⟨o, h⟩
  · rw [h, put_upd]
    exact le_unlock e
  · refine ⟨fun b v p q => ?_, fun b C dx fs q => ?_, fun b xs q => ?_⟩
    · by_cases hb : b = d
      · subst hb
        have z : v = .dK kvs := by
          rcases q with q | ⟨o, q⟩ <;> rw [e] at q <;> cases q
          · exact p.elim
          · rfl
        refine .inr ⟨o, ?_⟩
        rw [put_same, h, z]
      · unfold Rd
        rw [put_ne hb]
        exact q
    · rw [put_ne]
      · exact q
      · rintro rfl
        rw [e] at q
        cases q
    · rw [put_ne]
      · exact q
      · rintro rfl
        rw [e] at q
        cases q
end

/-! ### names for the readings of operators and calls -/
def rLeS : R2 := fun x y H Q => ∃ i j, x = .str i ∧ y = .str j ∧ Q (.bl (!decide (j.cps.toList < i.cps.toList))) H
def rCatS : R2 := fun x y H Q => ∃ i j, x = .str i ∧ y = .str j ∧ i.length + j.length ≤ sizeLine ∧ Q (.str (i ++ j)) H
def rIsNo : R2 := fun x y H Q => y = .non ∧ Q (.bl (decide (x = .non))) H
def rNotNo : R2 := fun x y H Q => y = .non ∧ Q (.bl (!decide (x = .non))) H
def rInSg (neg : Bool) : R2 := fun x y H Q => ∃ (c : Nat) (z : Str), x = .str ⟨#[c]⟩ ∧ y = .str z ∧ Q (.bl (if neg then !decide (c ∈ z.cps.toList) else decide (c ∈ z.cps.toList))) H
def cLen (K : PySem.W.Frag) : List V → Hp → VK → Prop := fun xs H Q => ∃ x n, xs = [x] ∧ LenV K x H n ∧ Q (.int n) H
def cLenD : List V → Hp → VK → Prop := fun xs H Q => ∃ a kvs, xs = [V.ref a] ∧ Rd H a (.dK kvs) ∧ Q (.int kvs.length) H
def cMin2 : List V → Hp → VK → Prop := fun xs H Q => ∃ i j, xs = [.int i, .int j] ∧ Q (.int (if j < i then j else i)) H
def cMax2 : List V → Hp → VK → Prop := fun xs H Q => ∃ i j, xs = [.int i, .int j] ∧ Q (.int (if j > i then j else i)) H
def cAbs : List V → Hp → VK → Prop := fun xs H Q => ∃ i, xs = [.int i] ∧ Q (.int (if i < 0 then -i else i)) H
def cInt : List V → Hp → VK → Prop := fun xs H Q => (∃ i, xs = [.int i] ∧ Q (.int i) H) ∨ ∃ k, xs = [.bl k] ∧ Q (.int (if k then 1 else 0)) H
def cStr : List V → Hp → VK → Prop := fun xs H Q => ∃ i, xs = [.int i] ∧ i.natAbs.log2 < 1920 ∧ Q (.str (toString i)) H
def cList (K : PySem.W.Frag) : List V → Hp → VK → Prop := fun xs H Q => ∃ p ys, xs = [.ref p] ∧ (SqL K H p ys ∨ SqT K H p ys) ∧ ∀ l, H l = none → Q (.ref l) (upd H l (.lst ys))
def cTup (K : PySem.W.Frag) : List V → Hp → VK → Prop := fun xs H Q => ∃ p ys, xs = [.ref p] ∧ SqL K H p ys ∧ ∀ l, H l = none → Q (.ref l) (upd H l (.tup ys))
def cDict : List V → Hp → VK → Prop := fun xs H Q => ∃ (a : Addr) (kvs : List (Key × V)), xs = [.ref a] ∧ Rd H a (.dK kvs) ∧ ∀ p, H p = none → Q (.ref p) (upd H p (.dK kvs))
def cListD : List V → Hp → VK → Prop := fun xs H Q => ∃ (a : Addr) (kvs : List (Key × V)), xs = [.ref a] ∧ Rd H a (.dK kvs) ∧ ∀ p, H p = none → Q (.ref p) (upd H p (.lst (kvs.map fun kv => kV kv.1)))
section
variable {X : Cx}
theorem op_leS : OpR X (compareOp .LtE) rLeS := op_le_str
theorem op_catS : OpR X (binaryOp .Add) rCatS := op_add_str
theorem op_isNo : OpR X (compareOp .Is) rIsNo := op_isN
theorem op_notNo : OpR X (compareOp .IsNot) rNotNo := op_notN
theorem op_inSg : OpR X (compareOp .In) (rInSg false) := op_in_sign
theorem op_notInSg : OpR X (compareOp .NotIn) (rInSg true) := op_notIn_sign
theorem cl_len : CallR X (.builtin "len") (cLen X.K) := call_len
theorem cl_lenD : CallR X (.builtin "len") cLenD := call_lenR
theorem cl_min2 (hc : X.calm = true) : CallR X (.builtin "min") cMin2 := call_min2 hc
theorem cl_max2 (hc : X.calm = true) : CallR X (.builtin "max") cMax2 := call_max2 hc
theorem cl_abs : CallR X (.builtin "abs") cAbs := call_abs
theorem cl_int : CallR X (.type "int") cInt := call_int1
theorem cl_str : CallR X (.type "str") cStr := call_str_int
theorem cl_list : CallR X (.type "list") (cList X.K) := call_list_of
theorem cl_tup : CallR X (.type "tuple") (cTup X.K) := by
  intro pins s σ H xs us Q I r h
  obtain ⟨p, ys, e, hs, q⟩ := h
  exact call_tuple_of pins s σ H xs us Q I r ⟨p, ys, e, .inl ⟨hs, q⟩⟩
theorem cl_dict : CallR X (.type "dict") cDict := call_dictD
theorem cl_listD (hc : X.calm = true) : CallR X (.type "list") cListD := call_listD hc
end
section
variable {K : PySem.W.Frag} {H : Hp} {Q : VK} {i j : Int} {a : Addr}
theorem x_leS {s t : Str} (k : Q (.bl (!decide (t.cps.toList < s.cps.toList))) H) : rLeS (.str s) (.str t) H Q := ⟨s, t, rfl, rfl, k⟩
theorem x_catS {s t : Str} (h : s.length + t.length ≤ sizeLine) (k : Q (.str (s ++ t)) H) : rCatS (.str s) (.str t) H Q := ⟨s, t, rfl, rfl, h, k⟩
theorem x_isNo {x : V} (k : Q (.bl (decide (x = .non))) H) : rIsNo x .non H Q := ⟨rfl, k⟩
theorem x_notNo {x : V} (k : Q (.bl (!decide (x = .non))) H) : rNotNo x .non H Q := ⟨rfl, k⟩
theorem x_len {x : V} {n : Nat} (h : LenV K x H n) (k : Q (.int n) H) : cLen K [x] H Q := ⟨x, n, rfl, h, k⟩
theorem x_lenL' {xs : List V} (h : SqL K H a xs) (k : Q (.int xs.length) H) : cLen K [.ref a] H Q := ⟨_, _, rfl, .inl ⟨xs, h, rfl⟩, k⟩
theorem x_lenT' {xs : List V} (h : SqT K H a xs) (k : Q (.int xs.length) H) : cLen K [.ref a] H Q := ⟨_, _, rfl, .inr ⟨xs, h, rfl⟩, k⟩
theorem x_lenS' {s : Str} (h : s.length ≤ sizeLine) (k : Q (.int s.length) H) : cLen K [.str s] H Q := ⟨_, _, rfl, ⟨h, rfl⟩, k⟩
theorem x_lenD {kvs : List (Key × V)} (h : Rd H a (.dK kvs)) (k : Q (.int kvs.length) H) : cLenD [.ref a] H Q := ⟨a, kvs, rfl, h, k⟩
theorem x_min2 (k : Q (.int (if j < i then j else i)) H) : cMin2 [.int i, .int j] H Q := ⟨i, j, rfl, k⟩
theorem x_max2 (k : Q (.int (if j > i then j else i)) H) : cMax2 [.int i, .int j] H Q := ⟨i, j, rfl, k⟩
theorem x_abs (k : Q (.int (if i < 0 then -i else i)) H) : cAbs [.int i] H Q := ⟨i, rfl, k⟩
theorem x_cint (k : Q (.int i) H) : cInt [.int i] H Q := .inl ⟨i, rfl, k⟩
theorem x_cintB {b : Bool} (k : Q (.int (if b then 1 else 0)) H) : cInt [.bl b] H Q := .inr ⟨b, rfl, k⟩
theorem x_cstr (h : i.natAbs.log2 < 1920) (k : Q (.str (toString i)) H) : cStr [.int i] H Q := ⟨i, rfl, h, k⟩
theorem x_clist {ys : List V} (h : SqL K H a ys) (k : ∀ l, H l = none → Q (.ref l) (upd H l (.lst ys))) : cList K [.ref a] H Q := ⟨a, ys, rfl, .inl h, k⟩
theorem x_clistT {ys : List V} (h : SqT K H a ys) (k : ∀ l, H l = none → Q (.ref l) (upd H l (.lst ys))) : cList K [.ref a] H Q := ⟨a, ys, rfl, .inr h, k⟩
theorem x_ctup {ys : List V} (h : SqL K H a ys) (k : ∀ l, H l = none → Q (.ref l) (upd H l (.tup ys))) : cTup K [.ref a] H Q := ⟨a, ys, rfl, h, k⟩
theorem x_cdict {kvs : List (Key × V)} (h : Rd H a (.dK kvs)) (k : ∀ p, H p = none → Q (.ref p) (upd H p (.dK kvs))) : cDict [.ref a] H Q := ⟨a, kvs, rfl, h, k⟩
theorem x_clistD {kvs : List (Key × V)} (h : Rd H a (.dK kvs)) (k : ∀ p, H p = none → Q (.ref p) (upd H p (.lst (kvs.map fun kv => kV kv.1)))) : cListD [.ref a] H Q := ⟨a, kvs, rfl, h, k⟩
end

/-! ### walks over what is read -/
section
variable {K : PySem.W.Frag} {α β : Type} {R : RR α} {Hb : Hp} {a d : Addr} {o : Obj}
theorem x_lockR {t : TS} {D : Ends} {σ : L2.St} {H : Hp} {kvs : List (Key × V)} (h : Rd H d (.dK kvs)) (k : ∀ od HL, HL d = some (.frz od (.dK kvs)) → (∀ b, b ≠ d → HL b = H b) →
  t ⟨fun σ' H' => H' d = some (.frz od (.dK kvs)) ∧ D.nx σ' (put H' d (H d)), fun v H' => H' d = some (.frz od (.dK kvs)) ∧ D.rt v (put H' d (H d)), fun σ' H' => H' d = some (.frz od (.dK kvs)) ∧ D.bk σ' (put H' d (H d)), fun σ' H' => H' d = some (.frz od (.dK kvs)) ∧ D.ct σ' (put H' d (H d))⟩ σ HL) : tLockR t D σ H := ⟨d, _, h, trivial, k⟩
theorem x_lockRE {t : TE} {σ : L2.St} {H : Hp} {Q : VK} {kvs : List (Key × V)} (h : Rd H d (.dK kvs)) (k : ∀ od HL, HL d = some (.frz od (.dK kvs)) → (∀ b, b ≠ d → HL b = H b) →
  t σ HL fun v H' => H' d = some (.frz od (.dK kvs)) ∧ Q v (put H' d (H d))) : tLockRE t σ H Q := ⟨d, _, h, trivial, k⟩
theorem walk_itemsR {kvs : List (Key × V)} {l : List (Str × α)} (h : KVs R Hb kvs l) : Walk (Iti d o kvs) l.length (fun H => H d = some (.frz o (.dK kvs)))
    (fun i H x H' => ∃ T p v, l[i]? = some p ∧ R Hb v p.2 ∧ x = .ref T ∧ H T = none ∧ H' = upd H T (.tup [.str p.1, v])) := by
  rw [← Paired.length h]
  refine walk_items.mono (fun _ h => h) fun i H x H' hi _ y => ?_
  obtain ⟨T, k, v, rfl, h2, rfl, h4, h5⟩ := y
  obtain ⟨kv, ekv⟩ : ∃ kv, kvs[i]? = some kv := ⟨kvs[i], by simp [hi]⟩
  obtain ⟨p, ep, e1, r⟩ := Paired.getL h ekv
  dsimp only at h4 h5
  rw [ekv] at h4 h5
  cases h4
  cases h5
  exact ⟨T, p, _, ep, r, rfl, h2, by dsimp only; rw [e1]; rfl⟩
theorem walk_keysR {kvs : List (Key × V)} {l : List (Str × α)} (h : KVs R Hb kvs l) : Walk (Itk d o kvs) l.length (fun H => H d = some (.frz o (.dK kvs)))
    (fun i H x H' => H' = H ∧ ∃ p v, l[i]? = some p ∧ x = .str p.1 ∧ R Hb v p.2) := by
  rw [← Paired.length h]
  refine walk_keys.mono (fun _ h => h) fun i H x H' hi _ y => ?_
  obtain ⟨rfl, k, v, h1, rfl⟩ := y
  obtain ⟨p, ep, e1, r⟩ := Paired.getL h h1
  exact ⟨rfl, p, v, ep, by rw [show k = Sum.inr p.1 from e1]; rfl, r⟩
theorem walk_valsR {kvs : List (Key × V)} {l : List (Str × α)} (h : KVs R Hb kvs l) : Walk (Itd d o kvs) l.length (fun H => H d = some (.frz o (.dK kvs)))
    (fun i H x H' => H' = H ∧ ∃ p, l[i]? = some p ∧ R Hb x p.2) := by
  rw [← Paired.length h]
  refine walk_values.mono (fun _ h => h) fun i H x H' hi _ y => ?_
  obtain ⟨rfl, k, h1⟩ := y
  obtain ⟨p, ep, e1, r⟩ := Paired.getL h h1
  exact ⟨rfl, p, ep, r⟩
theorem walk_listR {xs : List V} {l : List α} (h : Paired (R Hb) xs l) : Walk (Itl K a) l.length (fun H => SqL K H a xs) (fun i H x H' => H' = H ∧ ∃ y, l[i]? = some y ∧ R Hb x y) := by
  rw [← Paired.length h]
  refine walk_list.mono (fun _ h => h) fun i H x H' hi _ y => ?_
  obtain ⟨rfl, h1⟩ := y
  exact ⟨rfl, Paired.getL h h1⟩
theorem walk_tupR {xs : List V} {l : List α} (h : Paired (R Hb) xs l) : Walk (Itt K a) l.length (fun H => SqT K H a xs) (fun i H x H' => H' = H ∧ ∃ y, l[i]? = some y ∧ R Hb x y) := by
  rw [← Paired.length h]
  refine walk_tup.mono (fun _ h => h) fun i H x H' hi _ y => ?_
  obtain ⟨rfl, h1⟩ := y
  exact ⟨rfl, Paired.getL h h1⟩
end
/-! ### the names that a dict has -/
def rK : RR (List Str) := fun H v l => ∃ a kvs, v = .ref a ∧ Rd H a (.dK kvs) ∧ kvs.map (·.1) = l.map Sum.inr
theorem mono_K : Mono rK := fun _ _ _ _ e ⟨a, kvs, h1, h2, h3⟩ => ⟨a, kvs, h1, e.rd _ _ trivial h2, h3⟩
theorem rD.toK {α : Type} {R : RR α} {H : Hp} {v : V} {l : List (Str × α)} (h : rD R H v l) : rK H v (l.map (·.1)) := by
  obtain ⟨a, kvs, h1, h2, h3⟩ := h
  exact ⟨a, kvs, h1, h2, h3.keys⟩
theorem keys_val {kvs : List (Key × V)} {l : List Str} (h : kvs.map (·.1) = l.map Sum.inr) (s : Str) : (valV kvs (Sum.inr s)).isSome = decide (s ∈ l) := by
  rw [← valV_any]
  by_cases m : s ∈ l
  · rw [decide_eq_true m, List.any_eq_true]
    have : (Sum.inr s : Key) ∈ kvs.map (·.1) := by
      rw [h]
      exact List.mem_map.mpr ⟨s, m, rfl⟩
    obtain ⟨kv, h1, h2⟩ := List.mem_map.mp this
    exact ⟨kv, h1, decide_eq_true h2⟩
  · rw [decide_eq_false m, List.any_eq_false]
    intro kv hkv q
    have q := of_decide_eq_true q
    have : (Sum.inr s : Key) ∈ l.map Sum.inr := by
      rw [← h]
      exact List.mem_map.mpr ⟨kv, hkv, q⟩
    obtain ⟨t, h1, h2⟩ := List.mem_map.mp this
    cases h2
    exact m h1
theorem x_din' {H : Hp} {a : Addr} {s : Str} {kvs : List (Key × V)} {R : Option V → Prop} (h : Rd H a (.dK kvs)) (k : R (valV kvs (Sum.inr s))) : ∃ a' o, V.ref a = .ref a' ∧ DGet H a' (.str s) o ∧ R o := ⟨a, _, rfl, dget_rd h, k⟩
theorem x_dni' {H : Hp} {a : Addr} {s : Str} {kvs : List (Key × V)} {R : Option V → Prop} (h : Rd H a (.dK kvs)) (k : R (valV kvs (Sum.inr s))) : ∃ a' o, V.ref a = .ref a' ∧ DGet H a' (.str s) o ∧ R o := ⟨a, _, rfl, dget_rd h, k⟩
theorem x_dg' {H : Hp} {a : Addr} {s : Str} {kvs : List (Key × V)} {v : V} {R : V → Prop} (h : Rd H a (.dK kvs)) (e : valV kvs (Sum.inr s) = some v) (k : R v) : ∃ a' v', V.ref a = .ref a' ∧ DGet H a' (.str s) (some v') ∧ R v' := ⟨a, v, rfl, by rw [← e]; exact dget_rd h, k⟩
theorem Rd.le {A B : Hp} {a : Addr} {kvs : List (Key × V)} (e : Le A B) (h : Rd A a (.dK kvs)) : Rd B a (.dK kvs) := e.rd _ _ trivial h
theorem SX.rd {A B : Hp} {a : Addr} {kvs : List (Key × V)} (e : SX [] A B) (h : Rd A a (.dK kvs)) : Rd B a (.dK kvs) := e.le0.rd _ _ trivial h
theorem nil_sx {S : List Addr} {A B : Hp} (a : SX [] A B) : SX S A B := a.sub fun _ h => absurd h List.not_mem_nil
theorem getLt {α : Type} {l : List α} {i : Nat} {x : α} (h : l[i]? = some x) : i < l.length := (List.getElem?_eq_some_iff.mp h).1
theorem getMem {α : Type} {l : List α} {i : Nat} {x : α} (h : l[i]? = some x) : x ∈ l := List.mem_of_getElem? h
/-! ### works -/
inductive Stand where
  | fin
  | hand (h : Int) (ms : List (Str × Str))
  | chance (ds : List (Str × (Str × Int)))
def rStand (K : PySem.W.Frag) : RR Stand := fun H v s => match s with
  | .fin => ∃ p, v = .ref p ∧ SqT K H p [.str "end"]
  | .hand h ms => ∃ p d, v = .ref p ∧ SqT K H p [.str "hand", .int h, d] ∧ rD rS H d ms
  | .chance ds => ∃ p d, v = .ref p ∧ SqT K H p [.str "chance", d] ∧ rD (rP K rS rI) H d ds
theorem mono_stand (K : PySem.W.Frag) : Mono (rStand K) := fun A B v s e h => by
  cases s with
  | fin => obtain ⟨p, h1, h2⟩ := h; exact ⟨p, h1, e.t h2⟩
  | hand h ms => obtain ⟨p, d, h1, h2, h3⟩ := h; exact ⟨p, d, h1, e.t h2, mono_D mono_S _ _ _ _ e h3⟩
  | chance ds => obtain ⟨p, d, h1, h2, h3⟩ := h; exact ⟨p, d, h1, e.t h2, mono_D (mono_P mono_S mono_I) _ _ _ _ e h3⟩

/-! ### sorted of a dict of texts, of a list of texts, whatever their number -/
def cSortD : List V → Hp → VK → Prop := fun xs H Q => ∃ (a : Addr) (kvs : List (Key × V)) (ks : List Str), xs = [.ref a] ∧ Rd H a (.dK kvs) ∧ kvs.map (·.1) = ks.map Sum.inr ∧
  ∀ ys p, ys.Perm ks → sortedS ys = true → H p = none → Q (.ref p) (upd H p (.lst (ys.map V.str)))
def cSortL (K : PySem.W.Frag) : List V → Hp → VK → Prop := fun xs H Q => ∃ (a : Addr) (ks : List Str), xs = [.ref a] ∧ SqL K H a (ks.map V.str) ∧
  ∀ ys p, ys.Perm ks → sortedS ys = true → H p = none → Q (.ref p) (upd H p (.lst (ys.map V.str)))
section
variable {X : Cx}
theorem cl_sortL : CallR X (.builtin "sorted") (cSortL X.K) := by
  intro pi s0 st Hp0 args us Qk In rel hh
  obtain ⟨lx, ks, rfl, hq, kk⟩ := hh
  obtain ⟨its, rv, hl, hsz⟩ := In.list hq
  rw [Vals.ref1 rel]
  have n0 : ks.length = its.length := by simpa using rv.length
  have nl : its.length ≤ sizeLine := by rw [← n0]; simpa using hsz
  refine PyProof.Rows.sorted_strsAny hl.isList rv.strs nl fun ot ys p1 p2 p3 => ?_
  obtain ⟨ep, at1⟩ := PyProof.Rows.sortedAll_at s0.heap its ot
  have fit : (ys.map V.str).length ≤ sizeLine := by rw [List.length_map, p2.length_eq, n0]; exact nl
  refine ⟨.ref _, upd Hp0 (s0.heap.objs.size + 1) (.lst (ys.map V.str)), ?_, rfl, kk ys _ p2 p3 (In.hok.fresh (Nat.le_succ _))⟩
  exact In.laid (t' := s0.toks) (fun _ _ => PyProof.Rows.sortedAll_old) (Nat.le_succ _) ⟨fit, ot.toList, ep, vals_of_strs p1, at1⟩
theorem cl_sortD (calmly : X.calm = true) : CallR X (.builtin "sorted") cSortD := by
  intro pi s0 st Hp0 args us Qk In rel hh
  obtain ⟨ad, kv0, ks, exs, rd0, names, kk⟩ := hh
  subst exs
  obtain ⟨u0, eu0, r0⟩ := vals1 rel
  subst eu0
  cases r0
  obtain ⟨zd, od0, vv, prs, dof⟩ := dk_rd In.hok rd0
  obtain ⟨epo, dAt⟩ := dof.dictAt
  have nm : vv.map (·.1) = ks.map Sum.inr := by rw [← names, prs.keys]
  have nl : vv.length = ks.length := by simpa using congrArg List.length nm
  have fit0 : vv.length ≤ sizeLine := by rw [← prs.length]; exact zd
  refine Calls.call_function_entry PyProof.Rows.kind_sorted PyProof.Rows.plain_sorted PyProof.Rows.entry_sorted (by exact PyProof.Rows.args_sorted1 _) ?_
  unfold Builtin.«sorted»
  refine wpAny_bind (m := checkCount "sorted" 1 1 _) ?_; refine wpAny_pure ?_
  refine wpAny_bind (PySem.W.kdu_collect (A := X.A.in1) (PySem.W.kdl_dict (knd := mixKind X.prog X.w) (kvs := vv) (ep := epo) od0) (In.ok.hd calmly) dAt fit0 fun hp1 tk1 got keep1 ⟨gsz, gat⟩ => ?_)
  have al : got.toList.length = ks.length := by rw [Array.length_toList, gsz, nl]
  have txt : StrsAre got.toList ks := strs_at al fun n v ev => by
    obtain ⟨kq, xq, f1, f2⟩ := gat n v (by rw [← Array.getElem?_toList]; exact ev)
    have f3 : (ks.map Sum.inr : List Key)[n]? = some kq := by rw [← nm, List.getElem?_map, f1]; rfl
    rw [List.getElem?_map] at f3
    match q4 : ks[n]? with
    | none =>
      rw [q4] at f3
      cases f3
    | some y =>
      rw [q4] at f3
      have f5 : Sum.inr y = kq := Option.some.inj f3
      subst f5
      obtain ⟨tt, f6⟩ := Value.isStrOf_shape (x := y) (v := v) f2
      exact ⟨y, tt, rfl, f6⟩
  have sml : got.toList.length ≤ sizeLine := by rw [al, ← nl]; exact fit0
  have In1 : Inv X pi st Hp0 { s0 with heap := hp1, toks := tk1 } := In.kept keep1
  refine wpAny_bind (wpAny_newList ?_ (by simpa using sml))
  have at0 : (hp1.push (seqObj "list" got.toList.toArray 0)).get? hp1.objs.size = some (seqObj "list" got.toList.toArray 0) := by exact Heap.get?_push_size _ rfl
  show wpAny _ _ _ _ _ { s0 with heap := hp1.push (seqObj "list" got.toList.toArray 0), toks := tk1 }
  refine wpAny_bind (wpAny_holding (wpAny_call_entry PyProof.Rows.slot_list_sort ⟨_, at0, rfl⟩ PyProof.Rows.entry_list_sort
    (PyProof.Rows.list_sort_treeKAny strKind_oneLt (s := { s0 with heap := hp1.push (seqObj "list" got.toList.toArray 0), toks := tk1 }) at0 txt.keysOf (fun _ _ _ e => keyKind_strs (by rw [← e]; exact txt)) sml fun sst p1 p2 => ⟨_, rfl, ?_⟩)
    (by exact PyProof.Rows.args_list_sort _)))
  obtain ⟨ys, g1, g2, g3⟩ := sorted_out_str txt p1 p2
  obtain ⟨ep2, at2⟩ := PyProof.Rows.sortedHeap_at (vs := got.toList) (out := (arrOf sst).map (·.2)) at0
  have fit : (ys.map V.str).length ≤ sizeLine := by rw [List.length_map, g2.length_eq, ← al]; exact sml
  refine wpAny_pure ⟨_, rfl, .ref hp1.objs.size, upd Hp0 hp1.objs.size (.lst (ys.map V.str)), ?_, rfl, kk ys _ g2 g3 (In1.hok.fresh (Nat.le_refl _))⟩
  refine In1.laid (t' := tk1) (fun b u e => ?_) (Nat.le_refl _) (show ObjOk X.prog X.w _ _ _ (.lst (ys.map V.str)) from ⟨fit, ((arrOf sst).map (·.2)).toList, ep2, vals_of_strs g1, ?_⟩)
  · have lt : b < hp1.objs.size := Heap.lt_size e
    rw [PyProof.Rows.sortedHeap_old (Nat.ne_of_lt lt) (Nat.lt_of_lt_of_eq (Nat.lt_succ_of_lt lt) (size_push' _ _).symm)]
    exact Heap.get?_push_of_some _ e
  · rw [Array.toArray_toList]
    exact at2
end
section
variable {K : PySem.W.Frag} {H : Hp} {Q : VK} {a : Addr}
theorem x_sortD {kvs : List (Key × V)} {ks : List Str} (h : Rd H a (.dK kvs)) (e : kvs.map (·.1) = ks.map Sum.inr) (k : ∀ ys p, ys.Perm ks → sortedS ys = true → H p = none → Q (.ref p) (upd H p (.lst (ys.map V.str)))) : cSortD [.ref a] H Q := ⟨a, kvs, ks, rfl, h, e, k⟩
theorem x_sortL {ks : List Str} (h : SqL K H a (ks.map V.str)) (k : ∀ ys p, ys.Perm ks → sortedS ys = true → H p = none → Q (.ref p) (upd H p (.lst (ys.map V.str)))) : cSortL K [.ref a] H Q := ⟨a, ks, rfl, h, k⟩
end

/-- a dict comprehension over a walk: Iv by the turn and the heap (the new dict at D within) -/
theorem dc_walk {J : It} {n : Nat} {G : Hp → Prop} {Y : Nat → Hp → V → Hp → Prop} (wk : Walk J n G Y) {g : TG} {tt : TT} {tk tv : TE} {own : List Nat} {σ : L2.St} {H1 : Hp} {D : Addr} {fin : Hp → Prop} (Iv : Nat → Hp → Prop)
    (ini : Iv 0 (upd H1 D (.dK []))) (std : ∀ i A, i ≤ n → Iv i A → G A)
    (one : ∀ i x A B, i < n → Iv i A → Y i A x B → g x (wipe σ own) B fun σ2 B2 => wipe σ2 own = wipe σ own ∧ tt σ2 B2 fun b B3 =>
      if b = true then tk σ2 B3 fun y B4 => tv σ2 B4 fun z B5 => ∃ kvs k, y = kV k ∧ B5 D = some (.dK kvs) ∧ kvs.length < sizeLine ∧ Iv (i + 1) (upd B5 D (.dK (putK kvs k z))) else Iv (i + 1) B3)
    (all : ∀ A, Iv n A → fin A) :
    ∃ W : Nat → Nat → Hp → Prop, (∃ m, W 0 m (upd H1 D (.dK []))) ∧ ∀ i m A, W i m A →
      (J.stop i A ∧ fin A) ∨ (J.go i A ∧ ∃ Nx : Hp → Prop, (∀ B, Nx B → ∃ m', m' < m ∧ W (i + 1) m' B) ∧ ∀ x B, J.yld i A x B → g x (wipe σ own) B fun σ2 B2 => wipe σ2 own = wipe σ own ∧ tt σ2 B2 fun b B3 =>
        if b = true then tk σ2 B3 fun y B4 => tv σ2 B4 fun z B5 => ∃ kvs k, y = kV k ∧ B5 D = some (.dK kvs) ∧ kvs.length < sizeLine ∧ Nx (upd B5 D (.dK (putK kvs k z))) else Nx B3) := by
  refine ⟨fun i m A => m + i = n ∧ Iv i A, ⟨n, rfl, ini⟩, fun i m A ⟨e, v⟩ => ?_⟩
  have gi := std i A (by omega) v
  rcases Nat.lt_or_ge i n with l | l
  · exact .inr ⟨wk.goes i A l gi, Iv (i + 1), fun B vB => ⟨m - 1, by omega, by omega, vB⟩, fun x B yl => one i x A B l v (wk.yields i A x B l gi yl)⟩
  · obtain rfl : i = n := by omega
    exact .inl ⟨wk.stops A gi, all A v⟩
section
variable {K : PySem.W.Frag} {σ : L2.St} {H : Hp} {Q : VK}
theorem x_lc {wi : TI} {g : TG} {tt : TT} {te : TE} {vs : List Nat} (k : wi σ H fun J H1 => ∀ D, H1 D = none → ∃ W : Nat → Nat → Hp → Prop, (∃ m, W 0 m (upd H1 D (.lst []))) ∧ ∀ i m H, W i m H →
  (J.stop i H ∧ Q (.ref D) H) ∨ (J.go i H ∧ ∃ Nx : Hp → Prop, (∀ H', Nx H' → ∃ m', m' < m ∧ W (i + 1) m' H') ∧ ∀ x H', J.yld i H x H' → g x (wipe σ vs) H' fun σ2 H2 => wipe σ2 vs = wipe σ vs ∧ tt σ2 H2 fun b H3 =>
    if b = true then te σ2 H3 fun y H4 => ∃ acc, H4 D = some (.lst acc) ∧ acc.length < sizeLine ∧ Nx (upd H4 D (.lst (acc ++ [y]))) else Nx H3)) : tLc wi g tt te vs σ H Q := k
theorem x_dc {wi : TI} {g : TG} {tt : TT} {tk tv : TE} {vs : List Nat} (k : wi σ H fun J H1 => ∀ D, H1 D = none → ∃ W : Nat → Nat → Hp → Prop, (∃ m, W 0 m (upd H1 D (.dK []))) ∧ ∀ i m H, W i m H →
  (J.stop i H ∧ Q (.ref D) H) ∨ (J.go i H ∧ ∃ Nx : Hp → Prop, (∀ H', Nx H' → ∃ m', m' < m ∧ W (i + 1) m' H') ∧ ∀ x H', J.yld i H x H' → g x (wipe σ vs) H' fun σ2 H2 => wipe σ2 vs = wipe σ vs ∧ tt σ2 H2 fun b H3 =>
    if b = true then tk σ2 H3 fun y H4 => tv σ2 H4 fun z H5 => ∃ kvs k, y = kV k ∧ H5 D = some (.dK kvs) ∧ kvs.length < sizeLine ∧ Nx (upd H5 D (.dK (putK kvs k z))) else Nx H3)) : tDc wi g tt tk tv vs σ H Q := k
theorem x_yes {QB : Bool → Hp → Prop} (k : QB true H) : tYes σ H QB := k
theorem x_wipe {n : Nat} {r : List Nat} {A : L2.St} {B C : Prop} (e : A = σ) (k : C) : A = σ ∧ C := ⟨e, k⟩
theorem x_sfld {ta tv : TE} {f : Str} {D : Ends} (k : tv σ H fun y H1 => ta σ H1 fun x H2 => ∃ a C dx fs, x = .ref a ∧ H2 a = some (.ins C dx fs) ∧ Cls K C ∧ NoAttr K C f ∧ fs.length < 1000 ∧ D.nx σ (upd H2 a (.ins C dx (putF f y fs)))) : sFld K ta tv f D σ H := k
theorem x_while {c : TT} {tb : TS} {D : Ends} (Pv : L2.St → Hp → Prop) (μ : L2.St → Hp → Nat) (h0 : Pv σ H)
    (hs : ∀ σ H, Pv σ H → c σ H fun b H1 => if b = true then tb { D with nx := fun σ' H' => Pv σ' H' ∧ μ σ' H' < μ σ H, ct := fun σ' H' => Pv σ' H' ∧ μ σ' H' < μ σ H, bk := D.nx } σ H1 else D.nx σ H1)
    (mono : ∀ σ H Q Q', (∀ b H1, Q b H1 → Q' b H1) → c σ H Q → c σ H Q') : tWhile c tb D σ H := while_by Pv μ h0 hs mono
end
/-- sorted by the keys, the same pairs -/
structure Srt {α : Type} (l l' : List (Str × α)) : Prop where
  perm : l'.Perm l
  srt : sortedS (l'.map (·.1)) = true
/-- the pairs of l in the order of ys -/
def pick {α : Type} [Inhabited α] (l : List (Str × α)) (ys : List Str) : List (Str × α) := ys.map fun k => (k, (lookA l k).getD default)
theorem pick_keys {α : Type} [Inhabited α] (l : List (Str × α)) (ys : List Str) : (pick l ys).map (·.1) = ys := by
  unfold pick
  rw [List.map_map]
  exact List.map_id' ys
theorem pick_perm {α : Type} [Inhabited α] {l : List (Str × α)} {ys : List Str} (hn : (l.map (·.1)).Nodup) (h : ys.Perm (l.map (·.1))) : (pick l ys).Perm l := by
  have h1 : (pick l ys).Perm (pick l (l.map (·.1))) := h.map _
  have h2 : pick l (l.map (·.1)) = l := by
    unfold pick
    rw [List.map_map]
    have : ∀ p ∈ l, ((fun k => (k, (lookA l k).getD default)) ∘ fun x => x.1) p = p := fun p hp => by
      show (p.1, (lookA l p.1).getD default) = p
      rw [lookA_nodup hn (show (p.1, p.2) ∈ l from hp)]
      rfl
    exact (List.map_congr_left this).trans (List.map_id' l)
  rw [h2] at h1
  exact h1
theorem pick_srt {α : Type} [Inhabited α] {l : List (Str × α)} {ys : List Str} (hn : (l.map (·.1)).Nodup) (h : ys.Perm (l.map (·.1))) (hs : sortedS ys = true) : Srt l (pick l ys) := ⟨pick_perm hn h, by rw [pick_keys]; exact hs⟩
/-- a new key goes to the end -/
theorem putK_fresh {kvs : List (Key × V)} {l : List Str} {s : Str} (v : V) (e : kvs.map (·.1) = l.map Sum.inr) (n : s ∉ l) : putK kvs (Sum.inr s) v = kvs ++ [(Sum.inr s, v)] := by
  refine putK_new v ?_
  have := keys_val e s
  rw [decide_eq_false n] at this
  cases h : valV kvs (Sum.inr s) with
  | none => rfl
  | some x =>
    rw [h] at this
    cases this
theorem take_succ_of {α : Type} {l : List α} {i : Nat} {x : α} (h : l[i]? = some x) : l.take (i + 1) = l.take i ++ [x] := by
  rw [List.take_add_one, h]
  rfl
theorem nodup_take {α : Type} {l : List α} (hn : l.Nodup) {i : Nat} {x : α} (h : l[i]? = some x) : x ∉ l.take i := by
  intro m
  obtain ⟨j, hj⟩ := List.getElem?_of_mem m
  have hj' := getLt hj
  rw [List.length_take] at hj'
  rw [List.getElem?_take] at hj
  split at hj
  · rename_i hlt
    have := nd_ix hn h hj
    omega
  · cases hj
instance : Inhabited Stand := ⟨.fin⟩

/-! ### {k: d[k] for k in sorted(d)} -/
theorem wipe1 (σ : L2.St) (j : Nat) : wipe σ [j] = σ.set j none := rfl
theorem wipe_set (σ : L2.St) (j : Nat) (v : Option V) : wipe ((wipe σ [j]).set j v) [j] = wipe σ [j] := by
  rw [wipe1, wipe1, List.set_set, List.set_set]
theorem wiped_other {σ : L2.St} {i j : Nat} {x : Option V} {v : Option (Option V)} (h : σ[i]? = v) (n : i ≠ j) : ((wipe σ [j]).set j x)[i]? = v := by
  rw [wipe1, List.set_set, List.getElem?_set_ne (Ne.symm n)]
  exact h
theorem wiped_self {σ : L2.St} {j : Nat} {x : V} (h : j < σ.length) : ((wipe σ [j]).set j (some x))[j]? = some (some x) := by
  rw [wipe1, List.set_set, List.getElem?_set_self h]
theorem lt_size {n : Nat} (h : n ≤ 10000) : n < sizeLine := Nat.lt_of_le_of_lt h (by decide)
theorem sx_nil_of {S : List Addr} {A B : Hp} (a : SX S A B) (h : ∀ b ∈ S, A b = none) : SX [] A B := fun b o _ q => a b o (fun m => by rw [h b m] at q; cases q) q
theorem x_copyD {α : Type} [Inhabited α] {R : RR α} (mR : Mono R) {K : PySem.W.Frag} {σ : L2.St} {H : Hp} {Q : VK} {i j : Nat} {d : Addr} {l : List (Str × α)} {S : List Addr} (hS : ∀ b ∈ S, H b ≠ none) (hi : σ[i]? = some (some (.ref d))) (hj : j < σ.length) (hij : i ≠ j)
    (h : rD R (hid S H) (.ref d) l) (hn : (l.map (·.1)).Nodup) (hl : l.length ≤ 10000) (k : ∀ D H' l', SX [] H H' → H D = none → rD R (hid S H') (.ref D) l' → H' D ≠ none → Srt l l' → Q (.ref D) H') :
    tDc (iList K (tCB cSortD (tCons (tVar i) tNil))) (gName j) tYes (tVar j) (tDGet (tVar i) (tVar j)) [j] σ H Q := by
  obtain ⟨d', kvs, hd, hr0, hk⟩ := h
  cases hd
  have hr : Rd H d (.dK kvs) := le_hid.rd _ _ trivial hr0
  refine x_dc (x_iList (x_CB (x_cons (x_var hi (x_nil ?_)))))
  refine x_sortD hr hk.keys fun ys p hp hs np => ?_
  refine x_itl (sqL upd_same) fun D hD => ?_
  have hDp : D ≠ p := by
    rintro rfl
    rw [upd_same] at hD
    cases hD
  have hD0 : H D = none := by rw [upd_ne hDp] at hD; exact hD
  have ysn : ys.Nodup := hp.nodup_iff.mpr hn
  have hyl : ys.length = l.length := by rw [hp.length_eq, List.length_map]
  refine dc_walk (walk_list (xs := ys.map V.str)) (fun n A => SX [] H A ∧ A p = some (.lst (ys.map V.str)) ∧ ∃ kv, A D = some (.dK kv) ∧ KVs R (hid S H) kv (pick l (ys.take n))) ?_ ?_ ?_ ?_
  · exact ⟨(SX.new np).trans (SX.new hD), by rw [upd_ne (Ne.symm hDp)]; exact upd_same, [], upd_same, .nil⟩
  · exact fun n A _ ⟨_, h2, _⟩ => sqL h2
  · rintro n x A B hn' ⟨s1, s2, kv, s3, s4⟩ ⟨rfl, hx⟩
    rw [List.getElem?_map] at hx
    cases ey : ys[n]? with
    | none => rw [ey] at hx; cases hx
    | some y =>
      rw [ey] at hx
      cases hx
      have ym : y ∈ l.map (·.1) := hp.mem_iff.mp (getMem ey)
      obtain ⟨v, a, e1, e2, r⟩ : ∃ v a, valV kvs (Sum.inr y) = some v ∧ lookA l y = some a ∧ R (hid S H) v a := by
        rcases KVs.look y hk with q | ⟨_, q⟩
        · exact q
        · obtain ⟨a, e⟩ := lookA_some ym
          rw [e] at q
          cases q
      refine x_name rfl ⟨wipe_set σ j _, x_yes (iteT (x_var (wiped_self hj) (x_dget (x_var (wiped_other hi hij) (x_var (wiped_self hj) ?_)))))⟩
      refine x_dg' (s1.rd hr) e1 ⟨kv, Sum.inr y, rfl, s3, ?_, ?_⟩
      · rw [Paired.length s4]
        unfold pick
        rw [List.length_map, List.length_take]
        exact lt_size (by omega)
      have kk : kv.map (·.1) = (ys.take n).map Sum.inr := by rw [s4.keys, pick_keys]
      rw [putK_fresh v kk (nodup_take ysn ey)]
      have nD : p ≠ D := Ne.symm hDp
      refine ⟨sx_nil_of (S := [D]) ((nil_sx s1).trans (SX.mut List.mem_cons_self)) (by simp [hD0]), by rw [upd_ne nD]; exact s2, _, upd_same, ?_⟩
      have : pick l (ys.take (n + 1)) = pick l (ys.take n) ++ [(y, a)] := by
        rw [take_succ_of ey]
        unfold pick
        rw [List.map_append]
        show _ ++ [(y, (lookA l y).getD default)] = _
        rw [e2]
        rfl
      rw [this]
      exact Paired.app s4 (.cons ⟨rfl, r⟩ .nil)
  · rintro A ⟨s1, s2, kv, s3, s4⟩
    rw [List.length_map, List.take_length] at s4
    have nDS : D ∉ S := fun m => hS D m hD0
    exact k D A _ s1 hD0 ⟨D, kv, rfl, .inl (by rw [hid_of nDS]; exact s3), KVs.le mR (nil_sx s1).le s4⟩ (by rw [s3]; exact fun z => nomatch z) (pick_srt hn hp hs)
/-! ### fields -/
theorem putF_fresh : ∀ {fs : List (Str × V)} {f : Str} {v : V}, f ∉ fs.map (·.1) → putF f v fs = fs ++ [(f, v)]
  | [], f, v, _ => rfl
  | (g, w) :: r, f, v, h => by
    have n : ¬ g = f := fun e => h (List.mem_cons.mpr (.inl e.symm))
    show (if g = f then (g, v) :: r else (g, w) :: putF f v r) = _
    rw [if_neg n, putF_fresh fun m => h (List.mem_cons_of_mem _ m)]
    rfl
theorem look_here {f : Str} {v : V} {r : List (Str × V)} : List.lookup f ((f, v) :: r) = some v := by simp [List.lookup]
theorem look_next {f g : Str} {v w : V} {r : List (Str × V)} (n : (f == g) = false) (h : List.lookup f r = some w) : List.lookup f ((g, v) :: r) = some w := by
  simp only [List.lookup, n]
  exact h

/-! ### y = {k: v for ..}, y a local name -/
section
variable {X : Cx}
theorem sw_dc {ke ve : Expr} {gs : List Comprehension} {sco : Scope} {po pn : Pos} {y : Str} {ln : Nat} {en : Env} (f1 : en.scope.kind = .function) (f2 : en.scope.names.lookup y = some .local) (f3 : (pn.line == po.line) = true)
    (f4 : (sco.names.any fun (n, k) => n == y && (k == .local || k == .cell)) = false) : swapsWith (.DictComp ke ve gs sco po) (some (.Name y pn)) ln en = pure true := by
  have g1 : en.kindOf y = some .local := f2
  have g2 : en.blockKind = .function := by unfold Env.blockKind; rw [f1] <;> rfl
  unfold swapsWith
  simp only [g2, g1, f4, Expr.pos, f3]
  rfl
theorem ps_setDc {i : Nat} {y : Str} {py : Pos} {ke ve tgt itr : Expr} {cnd : List Expr} {sco : Scope} {own : List (Str × Nat)} {po sp : Pos} {wi : TI} {g : TG} {tt : TT} {tk tv : TE} (hc : X.calm = true) (hN : X.N.Nodup) (hy : X.N[i]? = some y) (hyl : X.env.scope.names.lookup y = some .local)
    (hsw : swapsWith (.DictComp ke ve [⟨tgt, itr, cnd, 0⟩] sco po) (some (.Name y py)) sp.line X.env = pure true) (hi : PI X tgt itr wi) (ok : BlkOk X.N X.env.scope sco own)
    (hg : ∀ (s : Shared) (H : Hp) (C : Addr) (cl : List (Str × Addr)) (fp : List Addr), PG (X.blk s H sco (compEnvC sco cl C X.env) fp) tgt g) (ht : ∀ (s : Shared) (H : Hp) (C : Addr) (cl : List (Str × Addr)) (fp : List Addr), PTs (X.blk s H sco (compEnvC sco cl C X.env) fp) cnd tt)
    (hk : ∀ (s : Shared) (H : Hp) (C : Addr) (cl : List (Str × Addr)) (fp : List Addr), PE (X.blk s H sco (compEnvC sco cl C X.env) fp) ke tk) (hv : ∀ (s : Shared) (H : Hp) (C : Addr) (cl : List (Str × Addr)) (fp : List Addr), PE (X.blk s H sco (compEnvC sco cl C X.env) fp) ve tv)
    (hs : ∀ x, foldedSetIterable itr X.env x = pure x := by intro _; rfl) :
    PS X (.Assign [.Name y py] (.DictComp ke ve [⟨tgt, itr, cnd, 0⟩] sco po) sp) (tAsg (tDc wi g tt tk tv (own.map (·.2))) (gName i)) := by
  refine ⟨fun pi s0 st A D In hh => ?_⟩
  rw [exec_Assign_Name_used _ _ _ _ hsw]
  refine wpAny_bind (wpAny_standAt ?_)
  refine wpAny_bind ?_
  show wpAny _ X.A (do let _ ← comprehension (.DictComp ke ve [⟨tgt, itr, cnd, 0⟩] sco po) sco X.env (firstIterPos [⟨tgt, itr, cnd, 0⟩] po) newDict false (eval itr X.env) (some (assign (.Name y py) X.env))) _ _ s0
  have h2 : tDc wi g tt tk tv (own.map (·.2)) st A (fun x B => gName i x st B D.nx) := hh
  refine wpAny_bind (thn (dc_core (Qf := fun _ s' => SP X pi D .next s') hc hN In hi ok hg ht hk hv hs h2 fun Ld C s1 m B In1 q hn fr => ?_) fun _ s1 hq => ?_)
  · show wpAny _ _ (assign (.Name y py) X.env (.ref Ld)) _ _ _
    obtain ⟨f0, f1, f2, f3, f4, f5⟩ := fr
    refine wpAny_assign_Name (store_ok2 (v := V.ref Ld) In1 hN hy (.inl hyl) rfl (fun s2 In2 ⟨a, sb, ha⟩ => ?_) (.inr hyl))
    have ne : C ≠ a := by
      rcases ha with z | z
      · exact fun e => f1 (e.trans z)
      · exact fun e => f4 y a z e.symm
    exact ⟨m, hn.sameBut sb ne, fun h3 sb3 => ⟨_, B, In2.turned (t' := s2.toks) (fun b o hb e => (sb3.2 b hb).trans e) f0 f1 f3 f4 f5, q⟩⟩
  · exact wpAny_pure (wpAny_pure hq)
end

theorem KVs.at_ {α : Type} {R : RR α} {H : Hp} {kvs : List (Key × V)} {l : List (Str × α)} {x : Str} {a : α} (h : KVs R H kvs l) (e : lookA l x = some a) : ∃ v, valV kvs (Sum.inr x) = some v ∧ R H v a := by
  rcases KVs.look x h with ⟨v, b, e1, e2, r⟩ | ⟨_, q⟩
  · rw [e] at e2
    cases e2
    exact ⟨v, e1, r⟩
  · rw [e] at q
    cases q
theorem KVs.in_ {α : Type} {R : RR α} {H : Hp} {kvs : List (Key × V)} {l : List (Str × α)} {p : Str × α} (h : KVs R H kvs l) (hn : (l.map (·.1)).Nodup) (m : p ∈ l) : ∃ v, valV kvs (Sum.inr p.1) = some v ∧ R H v p.2 := h.at_ (lookA_nodup hn m)

/-! ### the rules that speak of the written part, by its name -/
section
variable {X : Cx} {K : PySem.W.Frag}
theorem w_ixT (h : X.K = K) : IxR X (rIxT K) := by subst h; exact ix_tup
theorem w_ixL (h : X.K = K) : IxR X (rIxL K) := by subst h; exact ix_list
theorem w_slL (h : X.K = K) : SlR X (rSlL K) := by subst h; exact sl_list
theorem w_slT (h : X.K = K) : SlR X (rSlA K) := by subst h; exact sl_tupA
theorem w_in (h : X.K = K) : OpR X (compareOp .In) (rIn K false) := by subst h; exact op_in_seq
theorem w_nin (h : X.K = K) : OpR X (compareOp .NotIn) (rIn K true) := by subst h; exact op_notIn_seq
theorem w_catT (h : X.K = K) : OpR X (binaryOp .Add) (rCatA K) := by subst h; exact op_catA
theorem w_eqD (h : X.K = K) (hu : X.A.units + 64 < cLine) : OpR X (compareOp .Eq) (rEqD K) := by subst h; exact op_eqD hu
theorem w_neD (h : X.K = K) (hu : X.A.units + 64 < cLine) : OpR X (compareOp .NotEq) (rNeD K) := by subst h; exact op_neD hu
theorem w_ltT (h : X.K = K) (hu : X.A.units < cLine) : OpR X (compareOp .Lt) (rLtT K) := by subst h; exact op_ltT hu
theorem w_len (h : X.K = K) : CallR X (.builtin "len") (cLen K) := by subst h; exact cl_len
theorem w_list (h : X.K = K) : CallR X (.type "list") (cList K) := by subst h; exact cl_list
theorem w_tup (h : X.K = K) : CallR X (.type "tuple") (cTup K) := by subst h; exact cl_tup
theorem w_sortL (h : X.K = K) : CallR X (.builtin "sorted") (cSortL K) := by subst h; exact cl_sortL
theorem w_max (h : X.K = K) (hc : X.calm = true) : CallR X (.builtin "max") (rMax K) := by subst h; exact cr_max hc
theorem w_min (h : X.K = K) (hc : X.calm = true) : CallR X (.builtin "min") (rMin K) := by subst h; exact cr_min hc
theorem w_sum (h : X.K = K) (hc : X.calm = true) : CallR X (.builtin "sum") (rSum K) := by subst h; exact cr_sum hc
theorem w_all (h : X.K = K) (hc : X.calm = true) : CallR X (.builtin "all") (rAll K) := by subst h; exact cr_all hc
theorem w_any (h : X.K = K) (hc : X.calm = true) : CallR X (.builtin "any") (rAny K) := by subst h; exact cr_any hc
theorem w_isi (h : X.K = K) : CallR X (.builtin "isinstance") (rIsi K) := by subst h; exact call_isi
theorem w_isiT (h : X.K = K) : CallR X (.builtin "isinstance") (rIsiT K) := by subst h; exact call_isiT
theorem w_fld {e : Expr} {f : Str} {ta : TE} {pos : Pos} (h : X.K = K) (he : PE X e ta) (hb : attributeBase e f X.env (eval e X.env) = eval e X.env) : PE X (.Attribute e f pos) (tFld K ta f) := by subst h; exact pe_fld he hb
theorem w_pilist {tg l : Expr} {tl : TE} (h : X.K = K) (hl : PE X l tl) : PI X tg l (iList K tl) := by subst h; exact pi_list hl
theorem w_pitup {tg l : Expr} {tl : TE} (h : X.K = K) (hl : PE X l tl) : PI X tg l (iTup K tl) := by subst h; exact pi_tup hl
theorem w_pgtup {es : List Expr} {k n : Nat} {t : TGs} {pos : Pos} (h : X.K = K) (hc : X.calm = true) (ht : PGs X es t) (hn : (assignEach es X.env).length = n) (hst : (assignEach es X.env).findIdx? (·.1) = none) : PG X (.Tuple es k pos) (gTup K n t) := by subst h; exact pg_tup hc ht hn hst
theorem w_truth {a : Expr} {ta : TE} (h : X.K = K) (ha : PE X a ta) (he : ∀ whole, isTrue a X.env whole = (do let v ← whole; standAt a.pos; holding [v] (truthy v))) : PT X a (tTru K ta) := by subst h; exact pt_truth ha he
theorem w_bm {T name id : String} {r : V → List V → Hp → VK → Prop} {o e : Expr} {es : List Expr} {to : TE} {t : TA} {apos cpos : Pos} (h : X.K = K) (pa : PlainAttrs T) (slot : Slot T name id) (hty : typeOf (.builtin id) = pure (.type "method_descriptor")) (hm : MtR X id r) (ho : PE X o to) (ha : PA X (e :: es) t)
    (hp : PE X (.Call (.Attribute o name apos) (e :: es) [] cpos) (tBM X.K T r to t)) : PE X (.Call (.Attribute o name apos) (e :: es) [] cpos) (tBM K T r to t) := by subst h; exact hp
end

/-- what is hidden may grow by what is new -/
theorem le_hidS {S S' : List Addr} {H A : Hp} (a : SX S H A) (h : ∀ b ∈ S', b ∈ S ∨ H b = none) : Le (hid S H) (hid S' A) := le_of fun b o q => by
  obtain ⟨n, q⟩ := hid_at q
  rw [hid_of]
  · exact a b o n q
  · intro m
    rcases h b m with z | z
    · exact n z
    · rw [q] at z
      cases z
theorem hid_new {S : List Addr} {H : Hp} {p : Addr} {o : HO} (hp : H p = none) (hS : ∀ b ∈ S, H b ≠ none) : hid S (upd H p o) p = some o := by
  rw [hid_of fun m => hS p m hp]
  exact upd_same
theorem there {S : List Addr} {A B : Hp} (a : SX [] A B) (h : ∀ b ∈ S, A b ≠ none) : ∀ b ∈ S, B b ≠ none := fun b m e => h b m (a.free e List.not_mem_nil)

/-! ### the one ascending list of texts -/
def leS (a b : Str) : Prop := a.cps.toList ≤ b.cps.toList
theorem leS_trans {a b c : Str} (h1 : leS a b) (h2 : leS b c) : leS a c := List.le_trans h1 h2
theorem leS_antisymm {a b : Str} (h1 : leS a b) (h2 : leS b a) : a = b := by
  have e : a.cps.toList = b.cps.toList := List.le_antisymm h1 h2
  obtain ⟨a⟩ := a
  obtain ⟨b⟩ := b
  have : a = b := Array.toList_inj.mp e
  rw [this]
theorem rising_pw : ∀ (p : Str) (l : List Str), risingS p l = true → (p :: l).Pairwise leS
  | p, [], _ => List.pairwise_singleton _ _
  | p, x :: r, h => by
    have h : (!ltCps x.cps.toList p.cps.toList && risingS x r) = true := h
    rw [Bool.and_eq_true] at h
    have h1 : leS p x := by
      have q := h.1
      rw [PyProof.Rows.ltCps_eq] at q
      exact List.not_lt.mp (by simpa using q)
    have h2 := rising_pw x r h.2
    refine List.pairwise_cons.mpr ⟨fun y hy => ?_, h2⟩
    rcases List.mem_cons.mp hy with rfl | hy
    · exact h1
    · exact leS_trans h1 (List.rel_of_pairwise_cons h2 hy)
theorem sortedS_pw : ∀ {l : List Str}, sortedS l = true → l.Pairwise leS
  | [], _ => .nil
  | x :: r, h => rising_pw x r h
theorem sorted_one {l l' : List Str} (h : sortedS l = true) (h' : sortedS l' = true) (p : l.Perm l') : l = l' :=
  List.Perm.eq_of_pairwise (fun _ _ _ _ a b => leS_antisymm a b) (sortedS_pw h) (sortedS_pw h') p
theorem x_setF {K : PySem.W.Frag} {H : Hp} {C a dx : Addr} {f : Str} {fs : List (Str × V)} {y : V} {R : Hp → Prop} (ns : List Str) (h : H a = some (.ins C dx fs)) (c : Cls K C) (n : NoAttr K C f) (e : fs.map (·.1) = ns) (hl : ns.length < 1000) (hf : decide (f ∈ ns) = false)
    (k : R (upd H a (.ins C dx (fs ++ [(f, y)])))) : ∃ a' C' dx' fs', V.ref a = .ref a' ∧ H a' = some (.ins C' dx' fs') ∧ Cls K C' ∧ NoAttr K C' f ∧ fs'.length < 1000 ∧ R (upd H a' (.ins C' dx' (putF f y fs'))) :=
  ⟨a, C, dx, fs, rfl, h, c, n, by rw [← e, List.length_map] at hl; exact hl, by
    rw [putF_fresh (by rw [e]; exact of_decide_eq_false hf)]
    exact k⟩
theorem x_getF {K : PySem.W.Frag} {H : Hp} {C a dx : Addr} {f : Str} {fs : List (Str × V)} {v : V} {R : V → Prop} (h : H a = some (.ins C dx fs)) (c : Cls K C) (n : NoAttr K C f) (e : fs.lookup f = some v) (k : R v) :
    ∃ a' C' dx' fs' v', V.ref a = .ref a' ∧ H a' = some (.ins C' dx' fs') ∧ Cls K C' ∧ NoAttr K C' f ∧ fs'.lookup f = some v' ∧ R v' := ⟨a, C, dx, fs, v, rfl, h, c, n, e, k⟩

/-! ### d[s] = a, told by what the dict holds -/
section
variable {α : Type} {R : RR α} {H : Hp}
theorem putA_keys (s : Str) (a : α) : ∀ l : List (Str × α), (putA l s a).map (·.1) = if s ∈ l.map (·.1) then l.map (·.1) else l.map (·.1) ++ [s]
  | [] => rfl
  | (k, b) :: r => by
    unfold putA
    by_cases e : k = s
    · subst e
      rw [if_pos rfl, if_pos (by simp)]
      rfl
    · rw [if_neg e]
      show k :: (putA r s a).map (·.1) = _
      rw [putA_keys s a r]
      by_cases m : s ∈ r.map (·.1)
      · rw [if_pos m, List.map_cons, if_pos (List.mem_cons_of_mem _ m)]
      · rw [if_neg m, if_neg (by
          intro q
          rcases List.mem_cons.mp q with q | q
          · exact e q.symm
          · exact m q)]
        rfl
theorem putA_mem {s : Str} {a : α} {p : Str × α} : ∀ {l : List (Str × α)}, p ∈ putA l s a → p ∈ l ∨ p = (s, a)
  | [], h => .inr (List.mem_singleton.mp h)
  | (k, b) :: r, h => by
    unfold putA at h
    split at h
    · rename_i e
      rcases List.mem_cons.mp h with h | h
      · exact .inr (by rw [h, e])
      · exact .inl (List.mem_cons_of_mem _ h)
    · rcases List.mem_cons.mp h with h | h
      · exact .inl (by rw [h]; exact List.mem_cons_self)
      · rcases putA_mem h with h | h
        · exact .inl (List.mem_cons_of_mem _ h)
        · exact .inr h
theorem putA_nodup {s : Str} {a : α} {l : List (Str × α)} (h : (l.map (·.1)).Nodup) : ((putA l s a).map (·.1)).Nodup := by
  rw [putA_keys]
  split
  · exact h
  · exact nd_snoc h (by assumption)
theorem putA_len {s : Str} {a : α} {l : List (Str × α)} : (putA l s a).length ≤ l.length + 1 := by
  have := congrArg List.length (putA_keys s a l)
  rw [List.length_map] at this
  rw [this]
  split
  · simp
  · simp
theorem putA_pos {s : Str} {a : α} {l : List (Str × α)} : 1 ≤ (putA l s a).length := by
  cases l with
  | nil => exact Nat.le_refl _
  | cons p r =>
    obtain ⟨k, b⟩ := p
    unfold putA
    split <;> simp
theorem putA_fresh {s : Str} {a : α} : ∀ {l : List (Str × α)}, s ∉ l.map (·.1) → putA l s a = l ++ [(s, a)]
  | [], _ => rfl
  | (k, b) :: r, h => by
    unfold putA
    rw [if_neg (fun e => h (List.mem_cons.mpr (.inl e.symm))), putA_fresh fun m => h (List.mem_cons_of_mem _ m)]
    rfl
theorem putA_key_in {s : Str} {a : α} {l : List (Str × α)} : s ∈ (putA l s a).map (·.1) := by
  rw [putA_keys]
  split
  · assumption
  · simp
theorem putA_key_mono {s x : Str} {a : α} {l : List (Str × α)} (h : x ∈ l.map (·.1)) : x ∈ (putA l s a).map (·.1) := by
  rw [putA_keys]
  split
  · exact h
  · exact List.mem_append_left _ h
theorem putA_key_of {s x : Str} {a : α} {l : List (Str × α)} (h : x ∈ (putA l s a).map (·.1)) : x ∈ l.map (·.1) ∨ x = s := by
  rw [putA_keys] at h
  split at h
  · exact .inl h
  · rcases List.mem_append.mp h with h | h
    · exact .inl h
    · exact .inr (List.mem_singleton.mp h)
theorem putK_cons_pos {p : Key × V} {r : List (Key × V)} {k : Key} {v : V} (e : p.1 = k) (hn : valV r k = none) : putK (p :: r) k v = (p.1, v) :: r := by
  unfold putK
  rw [if_pos (by rw [List.any_cons, decide_eq_true e]; rfl), List.map_cons, if_pos e]
  congr 1
  have : ∀ q ∈ r, (if q.1 = k then (q.1, v) else q) = q := fun q hq => by
    rw [if_neg]
    intro z
    have : (r.any fun kv => decide (kv.1 = k)) = true := List.any_eq_true.mpr ⟨q, hq, decide_eq_true z⟩
    rw [valV_any, hn] at this
    cases this
  rw [List.map_congr_left this, List.map_id']
theorem putK_cons_neg {p : Key × V} {r : List (Key × V)} {k : Key} {v : V} (e : ¬ p.1 = k) : putK (p :: r) k v = p :: putK r k v := by
  unfold putK
  rw [List.any_cons, decide_eq_false e, Bool.false_or]
  split
  · rw [List.map_cons, if_neg e]
  · rfl
theorem KVs.put {s : Str} {v : V} {a : α} (hr : R H v a) : ∀ {kvs : List (Key × V)} {l : List (Str × α)}, KVs R H kvs l → (l.map (·.1)).Nodup → KVs R H (putK kvs (Sum.inr s) v) (putA l s a)
  | _, _, .nil, _ => .cons ⟨rfl, hr⟩ .nil
  | p :: kvs, (k, b) :: l, .cons h t, hn => by
    have hn : (k :: l.map (·.1)).Nodup := hn
    obtain ⟨n1, n2⟩ := List.nodup_cons.mp hn
    unfold putA
    by_cases e : k = s
    · subst e
      have no : valV kvs (Sum.inr k) = none := by
        have := keys_val (KVs.keys t) k
        rw [decide_eq_false n1] at this
        cases q : valV kvs (Sum.inr k) with
        | none => rfl
        | some x => rw [q] at this; cases this
      rw [putK_cons_pos h.1 no, if_pos rfl]
      exact .cons ⟨h.1, hr⟩ t
    · have ne : ¬ p.1 = (Sum.inr s : Key) := by
        rw [h.1]
        exact fun z => e (Sum.inr.inj z)
      rw [putK_cons_neg ne, if_neg e]
      exact .cons h (KVs.put hr t n2)
end

/-! ### powers of great numbers -/
def CPowB (i j : Int) : Prop := 0 ≤ j ∧ (Builtin.Int.intBits i : Int) * j ≤ 2 ^ 27
theorem op_powB {X : Cx} : OpR X (binaryOp .Pow) (L2.rI CPowB fun i j => V.int (i ^ j.toNat)) := opI fun _ _ _ _ _ _ _ hc q => pow_int hc.1 hc.2 q

theorem walk_rng {n : Nat} : Walk (Itr 0 n) n (fun _ => True) (fun i H x H' => H' = H ∧ x = .int (i : Int)) :=
  walk_range.mono (fun _ h => h) fun i H x H' _ _ y => ⟨y.1, y.2.trans (by show V.int (0 + (i : Int)) = _; rw [Int.zero_add])⟩
end M

set_option Elab.async false
set_option linter.all false
set_option maxRecDepth 100000
set_option maxHeartbeats 2000000
namespace M
open PySem PySem.Spec PyProof.Rows L2
/-! ### enumerate over a list or a tuple -/
section
open PySem.Sem (wp)
set_option maxHeartbeats 4000000 in
theorem meets_enum1 {v : Value} {o : Obj} {G : Heap → Prop} (B : Begins v o G) :
    Meets (Builtin.«enumerate.__new__» ⟨[.type "enumerate", v], []⟩) (fun _ R s => G s.heap ∧
      R (.ok (.ret (.ref (s.heap.push o).objs.size)))
        { s with heap := (s.heap.push o).push { cls := .type "enumerate",
                                                data := .fields #[.none, .bool false, .ref s.heap.objs.size, rawInt 0, .none, .none] } }) :=
  .of_wp fun prog w A R s hh => by
    obtain ⟨hp, gl, di, tk, os⟩ := s
    obtain ⟨hG, hR⟩ := hh
    have hsub := sub_enumerate
    have it1 : ∀ {A1 : Around} {E1 : Value → Shared → Prop} {Q1 : Value → Shared → Prop}, Q1 (.ref hp.objs.size) ⟨hp.push o, gl, di, tk, os⟩ →
        wpAny (model prog w) A1 (pyIter v) Q1 E1 ⟨hp, gl, di, tk, os⟩ := fun q => B.iter prog w _ _ ⟨hp, gl, di, tk, os⟩ _ hG q
    wp_walk using it1
    refine wpAny_stack_any fun st => wpAny_pure ?_
    split
    · rename_i cc _ _ _ _ _
      cases (cc == Value.type "enumerate")
      · wp_walk using it1
        exact ⟨_, rfl, hR⟩
      · wp_walk using it1
        exact ⟨_, rfl, hR⟩
    · wp_walk using it1
      exact ⟨_, rfl, hR⟩
theorem enum_begin1 {prog : Program} {w : World} {A : Around} {E : Value → Shared → Prop} {s : Shared} {v : Value} {o : Obj} {G : Heap → Prop} {Q : Value → Shared → Prop} (B : Begins v o G) (hG : G s.heap)
    (k : ∀ h', IsEnum h' (s.heap.objs.size + 1) s.heap.objs.size 0 .none → h'.get? s.heap.objs.size = some o →
      (∀ b ob, s.heap.get? b = some ob → h'.get? b = some ob) → Q (.ref (s.heap.objs.size + 1)) { s with heap := h' }) : wpAny (model prog w) A (call (.type "enumerate") [v]) Q E s := by
  refine callType_new F.called_enumerate (by decide) (F.typeCall_enumerate_1 _) (F.newCall_enumerate_1 _) (fun ob => F.args_object_init_2 ob _) F.entry_enumerate_new (meets_enum1 B) ⟨hG, ?_⟩
  have sz : (s.heap.push o).objs.size = s.heap.objs.size + 1 := Heap.size_push ..
  show _ ∧ _
  rw [sz]
  have en := Heap.get?_push_size (s.heap.push o) (o := { cls := .type "enumerate", data := .fields #[.none, .bool false, .ref s.heap.objs.size, rawInt 0, .none, .none] }) rfl
  rw [sz] at en
  exact ⟨⟨_, en, rfl⟩, k _ en (Heap.get?_push_of_some _ (Heap.get?_push_size _ B.free)) fun b ob q => Heap.get?_push_of_some _ (Heap.get?_push_of_some _ q)⟩
end
/-- the tuple at a, each item in a new pair with its place -/
def IteT (K : PySem.W.Frag) (a : Addr) : It :=
  ⟨fun i H => ∃ (xs : List V) (x : V), SqT K H a xs ∧ xs[i]? = some x,
   fun i H v H' => ∃ T x, v = .ref T ∧ H T = none ∧ H' = upd H T (.tup [.int (i : Nat), x]) ∧ ∀ xs, SqT K H a xs → xs[i]? = some x,
   fun i H => ∃ xs : List V, SqT K H a xs ∧ xs.length ≤ i⟩
theorem turn_enumT {P : Program} {w : World} {K : PySem.W.Frag} {elts : List Expr} {kk : Nat} {tpos : Pos} (a e it : Addr) :
    Turn P w K (.Tuple elts kk tpos) (IteT K a) [e, it] e (fun i h => (∃ old, IsEnum h e it ((i : Nat) : Int) old) ∧ h.IsTupleIter it a i ∧ e ≠ it) where
  mem := by simp
  obj := fun i h st b hb => by
    obtain ⟨⟨old, he⟩, ⟨o, ho, hc, hd⟩, _⟩ := st
    rcases List.mem_cons.mp hb with rfl | hb
    · exact ⟨_, he, fun v q => nomatch q⟩
    · cases List.mem_singleton.mp hb
      exact ⟨o, ho, fun v q => by rw [hd] at q; cases q⟩
  keep := fun i h h' st k => by
    obtain ⟨⟨old, he⟩, hi, ne⟩ := st
    exact ⟨⟨old, k e (by simp) _ he⟩, hi.at fun o q => k it (by simp) o q, ne⟩
  item := by
    intro X hP hw hK hc i pins s σ H E I hf st hg
    subst hP hw hK
    obtain ⟨⟨old, he⟩, hit, ne⟩ := st
    obtain ⟨xs, x, hq, hx⟩ := hg
    obtain ⟨its, rv, pt, hz⟩ := I.tuple hq
    have pt : s.heap.IsTuple a its.toArray := pt
    obtain ⟨u, hu, ru⟩ := rv.get hx
    have hel : e < s.heap.objs.size := Heap.lt_size he
    have hil : it < s.heap.objs.size := by obtain ⟨_, q, _⟩ := hit; exact Heap.lt_size q
    obtain ⟨h1, h2, h3, h4, h5, h6⟩ := hf e (by simp)
    have nea : e ∉ [it, a] := by
      simp only [List.mem_cons, List.not_mem_nil, or_false, not_or]
      refine ⟨ne, fun q => ?_⟩
      obtain ⟨ob, hob, hcl, _⟩ := pt
      rw [← q, he] at hob
      cases hob
      injection hcl with hcl
      exact absurd hcl (by decide)
    have nai : a ≠ it := fun q => by
      obtain ⟨ob, hob, hcl, _⟩ := pt
      obtain ⟨o2, ho2, hc2, _⟩ := hit
      rw [q, ho2] at hob
      cases hob
      rw [hc2] at hcl
      injection hcl with hcl
      exact absurd hcl (by decide)
    have D := Draws.tuple (prog := X.prog) (w := X.w) (A := X.A.in1) (I.ok.hd hc) it a nai its.toArray
    refine wpAny_pyNext_enum_itemD D he ⟨hit, pt⟩ (getLt (l := its) hu |> fun q => by simpa using q) ne nea fun y h' tk hy ho st' hT hsz hk => ?_
    obtain rfl : y = u := by simpa [hu] using hy.symm
    refine ⟨_, rfl, wpAny_letOwnedTupleGo_enum (s := { s with heap := h', toks := tk + 1 }) ho fun h'' he' sb => ?_⟩
    have hT2 : h''.get? s.heap.objs.size = some { cls := .type "tuple", data := .seq #[.int i tk, y] } := (sb.2 _ (Nat.ne_of_gt hel)).trans hT
    have new : ObjOk X.prog X.w (upd H s.heap.objs.size (.tup [.int (i : Nat), x])) h'' s.heap.objs.size (.tup [.int (i : Nat), x]) :=
      ⟨(by decide : 2 ≤ sizeLine), [.int i tk, y], .cons ⟨_, rfl⟩ (.cons ru .nil), ⟨_, hT2, rfl, _, rfl⟩⟩
    have I1 : Inv X pins σ (upd H s.heap.objs.size (.tup [.int (i : Nat), x])) { s with heap := h'', toks := tk + 1 } :=
      I.turnedNew (ch := [e, it]) (fun b ob hb q => by
        have n1 : b ≠ e := fun z => hb (by simp [z])
        have n2 : b ≠ it := fun z => hb (by simp [z])
        exact (sb.2 b n1).trans (hk b ob n1 n2 q)) hf (Nat.le_refl _) new
    refine ⟨.ref s.heap.objs.size, _, I1, rfl, ⟨_, x, rfl, I.hok.fresh (Nat.le_refl _), rfl, fun ys hys => by rw [I.tuple_inj hys hq]; exact hx⟩, ⟨⟨y, ?_⟩, st'.1.at fun o q => (sb.2 it (Ne.symm ne)).trans q, ne⟩, fun b hb => ?_⟩
    · have e1 : ((i + 1 : Nat) : Int) = (i : Int) + 1 := by omega
      rw [e1]
      exact he'
    · have hb' : b < s.heap.objs.size := by
        rcases List.mem_cons.mp hb with rfl | hb2
        · exact hel
        · cases List.mem_singleton.mp hb2
          exact hil
      rw [upd_ne (Nat.ne_of_lt hb')]
      exact (hf b hb).1
  done := by
    intro X hP hw hK hc i pins s σ H E I hf st hg
    subst hP hw hK
    obtain ⟨⟨old, he⟩, hit, ne⟩ := st
    obtain ⟨xs, hq, hx⟩ := hg
    obtain ⟨its, rv, pt, hz⟩ := I.tuple hq
    have pt : s.heap.IsTuple a its.toArray := pt
    obtain ⟨f0, f1, f2, f3, f4, f5⟩ := hf it (by simp)
    have hl := rv.length
    have hT : s.TypeIs (.ref e) "enumerate" := ⟨_, he, rfl⟩
    have go : wpAny (model X.prog X.w) X.A (pyNext (.ref e)) (fun r s1 => r = none ∧ Inv X pins σ H s1) E s := by
      unfold pyNext
      refine wpAny_bind (wpAny_attempt (wpAny_callSpecial?_slot (name := Str.ofString "__next__") hT F.slot_enumerate_next (wpAny_call_entry F.slot_enumerate_next hT F.entry_enumerate_next ?_ (F.args_enumerate_next_1 _))))
      show wpAny _ _ (field (.ref e) 2 >>= _) _ _ _
      refine wpAny_bind (wpAny_field he rfl (x := .ref it) rfl ?_)
      refine wpAny_bind (wpAny_nextOf_tuple_end (I.ok.hd hc) hit pt (by simp; omega) fun h' z eb hz' => ?_)
      obtain ⟨o, ho, hcl⟩ := hz'
      refine wpAny_bind (wpAny_isInstance (T := "StopIteration") (b := true) ⟨o, ho, hcl⟩ isSubtype_stop ?_)
      exact wpAny_pure ⟨rfl, I.turned (t' := s.toks) (fun b o hb q => eb b o hb q) f0 f1 f3 f4 f5⟩
    exact go
  self := fun A i s Q E st h => by
    obtain ⟨⟨_, he⟩, _⟩ := st
    exact wpAny_pyIter_enum he h
/-- a row: a list or a tuple -/
def RowAt (H : Hp) (a : Addr) (xs : List V) : Prop := H a = some (.lst xs) ∨ H a = some (.tup xs)
theorem RowAt.sx {S : List Addr} {A B : Hp} {a : Addr} {xs : List V} (s : SX S A B) (n : a ∉ S) (h : RowAt A a xs) : RowAt B a xs := h.imp (s _ _ n) (s _ _ n)
theorem RowAt.there {A : Hp} {a : Addr} {xs : List V} (h : RowAt A a xs) : A a ≠ none := by rcases h with h | h <;> rw [h] <;> exact fun z => nomatch z
/-- enumerate(x): x a list or a tuple that is no part of the top's -/
def iEnumA (K : PySem.W.Frag) (ta : TA) : TI := fun σ H R => ta σ H fun vs H1 => ∃ a xs, vs = [.ref a] ∧ RowAt H1 a xs ∧
  ∀ J, Walk J xs.length (fun A => A a = H1 a) (fun i A x A' => ∃ T y, xs[i]? = some y ∧ x = .ref T ∧ A T = none ∧ A' = upd A T (.tup [.int (i : Int), y])) → R J H1
theorem walk_eL {K : PySem.W.Frag} {H : Hp} {a : Addr} {xs : List V} (h : H a = some (.lst xs)) :
    Walk (Ite K a) xs.length (fun A => A a = H a) (fun i A x A' => ∃ T y, xs[i]? = some y ∧ x = .ref T ∧ A T = none ∧ A' = upd A T (.tup [.int (i : Int), y])) :=
  ⟨fun i A hi q => ⟨xs, xs[i], sqL (q.trans h), by simp [hi]⟩, fun A q => ⟨xs, sqL (q.trans h), Nat.le_refl _⟩, fun i A v A' hi q y => by
    obtain ⟨T, x, h1, h2, h3, h4⟩ := y
    exact ⟨T, x, h4 xs (sqL (q.trans h)), h1, h2, h3⟩⟩
theorem walk_eT {K : PySem.W.Frag} {H : Hp} {a : Addr} {xs : List V} (h : H a = some (.tup xs)) :
    Walk (IteT K a) xs.length (fun A => A a = H a) (fun i A x A' => ∃ T y, xs[i]? = some y ∧ x = .ref T ∧ A T = none ∧ A' = upd A T (.tup [.int (i : Int), y])) :=
  ⟨fun i A hi q => ⟨xs, xs[i], sqT (q.trans h), by simp [hi]⟩, fun A q => ⟨xs, sqT (q.trans h), Nat.le_refl _⟩, fun i A v A' hi q y => by
    obtain ⟨T, x, h1, h2, h3, h4⟩ := y
    exact ⟨T, x, h4 xs (sqT (q.trans h)), h1, h2, h3⟩⟩
theorem pi_enumA {X : Cx} {e : Expr} {ta : TA} {p pos tpos : Pos} {elts : List Expr} {kk : Nat} (hg : Gl X "enumerate") (hm : X.mg "enumerate" = none) (ha : PA X [e] ta) (hs : starEach [e] X.env = [(false, eval e X.env)] := by rfl) :
    PI X (.Tuple elts kk tpos) (.Call (.Name "enumerate" p) [e] [] pos) (iEnumA X.K ta) := by
  refine ⟨fun pins s σ H R I h => ?_⟩
  refine Call_ (ld_blt I hg hm boot_enumerate (PyProof.Rows.callWith_type1 (thn (ha.run pos pins s σ H _ I h) fun us s1 ⟨vs, H1, I1, r1, a, xs, ex, hq, q⟩ => ?_) hs rfl))
  subst ex
  cases r1 with
  | cons r rr =>
    cases rr
    cases r
    have fp : ∀ (h' : Heap), Inv X pins σ H1 { s1 with heap := h' } → ∀ b ∈ [s1.heap.objs.size + 1, s1.heap.objs.size], FpOk X pins H1 b := fun h' I2 b hb => by
      have hle : s1.heap.objs.size ≤ b := by
        rcases List.mem_cons.mp hb with rfl | hb
        · exact Nat.le_succ _
        · cases List.mem_singleton.mp hb
          exact Nat.le_refl _
      exact I1.fpOk hle (I1.hok.fresh hle)
    rcases hq with hq | hq
    · obtain ⟨its, rv, pl, hz⟩ := I1.list (sqL (K := X.K) hq)
      refine call_enumerate_list pl.isList fun h' he hit hsz hk => wpAny_pyIter_enum he ?_
      have I2 : Inv X pins σ H1 { s1 with heap := h' } := I1.kept (t' := s1.toks) hk
      exact ⟨s1.heap.objs.size + 1, [s1.heap.objs.size + 1, s1.heap.objs.size], _, _, H1, rfl, I2, turn_enum a (s1.heap.objs.size + 1) s1.heap.objs.size, ⟨⟨.none, he⟩, hit, Nat.succ_ne_self _⟩, fp h' I2, q _ (walk_eL hq)⟩
    · obtain ⟨its, rv, pt, hz⟩ := I1.tuple (sqT (K := X.K) hq)
      refine enum_begin1 (begins_tuple a its.toArray) pt fun h' he hit hk => wpAny_pyIter_enum he ?_
      have I2 : Inv X pins σ H1 { s1 with heap := h' } := I1.kept (t' := s1.toks) hk
      exact ⟨s1.heap.objs.size + 1, [s1.heap.objs.size + 1, s1.heap.objs.size], _, _, H1, rfl, I2, turn_enumT a (s1.heap.objs.size + 1) s1.heap.objs.size, ⟨⟨.none, he⟩, ⟨_, hit, rfl, rfl⟩, Nat.succ_ne_self _⟩, fp h' I2, q _ (walk_eT hq)⟩
section
variable {K : PySem.W.Frag}
theorem w_enumA {X : Cx} {e : Expr} {ta : TA} {p pos tpos : Pos} {elts : List Expr} {kk : Nat} (h : X.K = K) (hg : Gl X "enumerate") (hm : X.mg "enumerate" = none) (ha : PA X [e] ta) (hs : starEach [e] X.env = [(false, eval e X.env)] := by rfl) :
    PI X (.Tuple elts kk tpos) (.Call (.Name "enumerate" p) [e] [] pos) (iEnumA K ta) := by subst h; exact pi_enumA hg hm ha hs
theorem x_iEnumA {ta : TA} {σ : L2.St} {H : Hp} {R : It → Hp → Prop} (k : ta σ H fun vs H1 => ∃ a xs, vs = [.ref a] ∧ RowAt H1 a xs ∧
  ∀ J, Walk J xs.length (fun A => A a = H1 a) (fun i A x A' => ∃ T y, xs[i]? = some y ∧ x = .ref T ∧ A T = none ∧ A' = upd A T (.tup [.int (i : Int), y])) → R J H1) : iEnumA K ta σ H R := k
end
end M

set_option Elab.async false
set_option linter.all false
set_option maxRecDepth 100000
set_option maxHeartbeats 2000000
namespace M
open PySem PySem.Spec PyProof.Rows L2
/-! ### list(d.values()), tuple(d) -/
section
variable {X : Cx}
def tListVals (td : TE) : TE := fun σ H Q => td σ H fun x H1 => ∃ d kvs, x = .ref d ∧ H1 d = some (.dK kvs) ∧ ∀ l, H1 l = none → Q (.ref l) (upd H1 l (.lst (kvs.map (·.2))))
theorem pe_listVals {e : Expr} {td : TE} {p apos cpos pos : Pos} (hc : X.calm = true) (hg : Gl X "list") (hm : X.mg "list" = none) (he : PE X e td)
    (hbase : attributeBase e "values" X.env (eval e X.env) = eval e X.env := by rfl) (hline : (apos.endLine == cpos.line) = true := by rfl)
    (na : starEach [.Call (.Attribute e "values" apos) [] [] cpos] X.env = (false, eval (.Call (.Attribute e "values" apos) [] [] cpos) X.env) :: starEach [] X.env := by rfl) :
    PE X (.Call (.Name "list" p) [.Call (.Attribute e "values" apos) [] [] cpos] [] pos) (tListVals td) := by
  refine ⟨fun pins s σ H Q I h => ?_⟩
  refine Call_ (ld_blt I hg hm boot_list (PyProof.Rows.callWith_type1 (args_cons ?_ na) na))
  refine wpAny_Call_method (T := "dict") (id := "dict.values") hbase rfl hline F.plainAttrs_dict F.slot_dict_values F.type_dict_values (thn (he.run pins s σ H _ I h) fun u s1 ⟨x, H1, I1, rx, d, kvs, ex, hd, q⟩ => ?_)
  subst ex
  obtain rfl : u = Value.ref d := rx
  obtain ⟨z, lo, vs, rk, hdic⟩ := (show ObjOk X.prog X.w H1 s1.heap d (.dK kvs) from I1.hok d _ hd)
  obtain ⟨ep, hat⟩ := hdic.dictAt
  have hl : kvs.length = vs.length := Paired.length rk
  refine ⟨hdic.typeIs, hdic.mapOf.noDict, ?_⟩
  have I2 : Inv X pins σ H1 { s1 with heap := s1.heap.push { cls := .type "dict_values", data := .fields #[.ref d] } } := I1.kept (t' := s1.toks) fun b ob q => Heap.get?_push_of_some _ q
  have fin : wpAny (model X.prog X.w) X.A (spliced (backTo pos (starEach [] X.env))) (fun us s' => wpAny (model X.prog X.w) X.A (call (.type "list") (.ref s1.heap.objs.size :: us)) (EP X pins σ Q) X.xe s') X.xe { s1 with heap := s1.heap.push { cls := .type "dict_values", data := .fields #[.ref d] } } := by
    refine args_nil ?_
    have vw : (s1.heap.push { cls := .type "dict_values", data := .fields #[.ref d] }).IsValuesView s1.heap.objs.size d := ⟨_, Heap.get?_push_size _ rfl, rfl, rfl⟩
    refine PySem.W.kdl_call (PySem.W.kdl_values (knd := mixKind X.prog X.w) (kvs := vs) (ep := ep) (d := d) (r := s1.heap.objs.size)) (I2.ok.hd hc) ⟨vw, hat.push _⟩ (by rw [← hl]; exact z) fun h' tk acc' c' hkeep hS hacc => ?_
    refine ⟨.ref _, upd H1 _ (.lst (kvs.map (·.2))), I2.laid (t' := tk) hkeep (Nat.le_refl _) (show ObjOk X.prog X.w _ _ _ (.lst (kvs.map (·.2))) from ⟨by rw [List.length_map]; exact z, acc'.toList, c', ?_, by rw [Array.toArray_toList]; exact hS⟩), rfl, q _ (I2.hok.fresh (Nat.le_refl _))⟩
    have z1 : acc'.toList.length = acc'.size := by simp
    have z2 : (kvs.map (·.2)).length = acc'.toList.length := by rw [List.length_map, z1, hacc.1, hl]
    refine vals_of_at z2 fun j y w h1 h2 => ?_
    obtain ⟨ky, hky⟩ := hacc.2 j w (by rw [← Array.getElem?_toList]; exact h2)
    rw [List.getElem?_map] at h1
    cases e1 : kvs[j]? with
    | none => rw [e1] at h1; cases h1
    | some kv =>
      rw [e1] at h1
      cases h1
      obtain ⟨vv, e2, _, r2⟩ := Paired.getL rk e1
      rw [hky] at e2
      cases e2
      exact r2
  show wpAny _ _ (callWith cpos (.builtin "dict.values") [.ref d] [] []) _ X.xe s1
  exact method_meetsIn F.slot_dict_values F.entry_dict_values rfl (PySem.evalArgs_none ⟨rfl, hdic.typeIs, F.args_dict_values_1 _, _, meets_dict_values (mixKind X.prog X.w) d lo, ⟨vs, hdic⟩, fin⟩)
/-- tuple(d): its keys -/
def cTupD : List V → Hp → VK → Prop := fun xs H Q => ∃ (p : Addr) (kvs : List (Key × V)), xs = [.ref p] ∧ H p = some (.dK kvs) ∧ ∀ q, H q = none → Q (.ref q) (upd H q (.tup (kvs.map fun kv => kV kv.1)))
theorem new_tup_of {prog : Program} {w : World} {A : Around} {E : Value → Shared → Prop} {s : Shared} {r d : Addr} {n : Nat} {G : Nat → Value → Prop} {OK : Heap → Prop} {Q1 : Value → Shared → Prop} (src : PySem.W.KdlSrc prog w "dict" r d n G OK) (hh : A.handled = none) (ok : OK s.heap) (hn : n ≤ sizeLine)
    (k : ∀ (h' : Heap) (tk : Nat) (acc : Array Value), (∀ b o, s.heap.get? b = some o → h'.get? b = some o) → ItemsOf G acc n →
      Q1 (.ref h'.objs.size) { s with heap := h'.push { cls := .type "tuple", data := .seq acc }, toks := tk }) :
    codeAny (model prog w) A (.call (.builtin "tuple.__new__") ⟨[.type "tuple", .ref r], []⟩) (wants Q1 E) s := by
  have tyT : s.TypeIs (.ref r) "dict" := src.type s ok
  refine codeAny_of_tree ?_
  show wpAny _ A.in1 (checkBuiltinCall "tuple.__new__" ⟨[.type "tuple", .ref r], []⟩ >>= fun _ => again (.builtin "tuple.__new__" ⟨[.type "tuple", .ref r], []⟩)) _ _ s
  refine wpAny_bind (wpAny_of_eq (F.newCall_tuple_1 _) (wpAny_pure ⟨plainId_quiet F.plain_tuple_new _, codeAny_builtin F.entry_tuple_new ?_⟩))
  rw [Around.under_plainId F.plain_tuple_new _]
  have hsub := sub_tuple_self
  have hinit := init_tuple_lookup
  have hmh := madeHere_tuple
  have hh1 : A.in1.handled = none := hh
  wp_walk using wpAny_typeOf tyT, PySem.W.kdu_collect (A := A.in1) src hh1 ok hn
  intro h' tk acc hk hacc
  have e1 : acc.toList.toArray = acc := by simp
  show wpAny _ _ (Builtin.Tuple.tupleExact acc.toList.toArray >>= fun z => ret z) _ _ _
  unfold Builtin.Tuple.tupleExact
  rw [e1]
  refine wpAny_bind (wpAny_newObj_type ?_ (by show acc.size ≤ sizeLine; rw [hacc.1]; exact hn))
  exact wpAny_pure (k h' tk acc hk hacc)
theorem cl_tupD (hc : X.calm = true) : CallR X (.type "tuple") cTupD := by
  intro pins s σ H vs us Q I r h
  obtain ⟨p, kvs, rfl, hk, q⟩ := h
  obtain ⟨u, rfl, ru⟩ := vals1 r
  obtain rfl : u = Value.ref p := ru
  obtain ⟨z, lo, ws, rk, hdic⟩ := (show ObjOk X.prog X.w H s.heap p (.dK kvs) from I.hok p _ hk)
  obtain ⟨ep, hat⟩ := hdic.dictAt
  have hl : kvs.length = ws.length := Paired.length rk
  refine callType_codes (Q₁ := fun ob s1 => s1.TypeIs ob "tuple" ∧ (EP X pins σ Q) ob s1) F.called_tuple (F.typeCall_tuple_1 _) F.entry_object_init
    (new_tup_of (A := X.A.in1) (PySem.W.kdl_dict (knd := mixKind X.prog X.w) (kvs := ws) (ep := ep) lo) (I.ok.hd hc) hat (by rw [← hl]; exact z) fun h' tk acc hkeep hacc => ⟨⟨_, Heap.get?_push_size _ rfl, rfl⟩, ?_⟩) fun ob s1 h1 => ?_
  · have I2 : Inv X pins σ H { s with heap := h', toks := tk } := I.kept hkeep
    have z1 : acc.toList.length = acc.size := by simp
    refine ⟨.ref h'.objs.size, upd H h'.objs.size (.tup (kvs.map fun kv => kV kv.1)), I2.laid (t' := tk) (fun b ob e => Heap.get?_push_of_some _ e) (Nat.le_refl _) (show ObjOk X.prog X.w _ _ _ (.tup (kvs.map fun kv => kV kv.1)) from ⟨by rw [List.length_map]; exact z, acc.toList, ?_, by rw [Array.toArray_toList]; exact IsTup.new _ _⟩), rfl, q _ (I2.hok.fresh (Nat.le_refl _))⟩
    refine vals_of_at (by rw [List.length_map, z1, hacc.1, hl]) fun j x w h1 h2 => ?_
    obtain ⟨ky, yy, hky, hi⟩ := hacc.2 j w (by rw [← Array.getElem?_toList]; exact h2)
    rw [List.getElem?_map] at h1
    cases e1 : kvs[j]? with
    | none => rw [e1] at h1; cases h1
    | some kv =>
      rw [e1] at h1
      cases h1
      obtain ⟨vv, e2, k1, _⟩ := Paired.getL rk e1
      rw [hky] at e2
      cases e2
      have k2 : kv.1 = ky := k1
      show L2.RelV (kV kv.1) w
      rw [k2]
      exact keyIs_rel hi
  · exact ⟨h1.1, F.args_object_init_2 ob _, object_init_meets F.called_tuple.init.lookup F.called_tuple.made (by decide) X.prog X.w X.A.in1 _ s1 ⟨h1.1, rfl, h1.2⟩⟩
end
/-! ### sorted, of tuples of ints of any lengths, the first one empty -/
/-- at v: a tuple of these ints -/
def TupAt (h : Heap) (v : Value) (ns : List Int) : Prop := ∃ a o xs n, v = .ref a ∧ h.get? a = some o ∧ o.cls = .type "tuple" ∧ o.data = .seq xs n ∧ IntsAre xs.toList ns
theorem TupAt.grow {h h' : Heap} {v : Value} {ns : List Int} (t : TupAt h v ns) (g : ∀ b o, h.get? b = some o → o.cls = .type "tuple" → h'.get? b = some o) : TupAt h' v ns := by
  obtain ⟨a, o, xs, n, e, ho, hc, hd, i⟩ := t
  exact ⟨a, o, xs, n, e, g _ _ ho hc, hc, hd, i⟩
section
variable {M : Model} {A : Around} {E : Value → Shared → Prop} {s : Shared}
theorem tup_looks {v : Value} {ns : List Int} (t : TupAt s.heap v ns) : PySem.W.Looks M s.heap (typeOf v) (.type "tuple") := by
  obtain ⟨a, o, xs, n, rfl, ho, hc, hd, i⟩ := t
  rw [← hc]
  exact (PySem.W.Looks.ld ho).andThen .now
theorem tups_firsts {k : Value → List Int} : ∀ (vs : List Value) {Q : List (Option Value) → Shared → Prop}, (∀ v ∈ vs, TupAt s.heap v (k v)) →
    (∀ fs : List (Option Value), fs.length = vs.length → (∀ v r, vs = v :: r → k v = [] → fs[0]? = some none) → Q fs s) → wpAny M A (vs.mapM firstOfTuple') Q E s
  | [], Q, _, h => by
    rw [List.mapM_nil]
    exact wpAny_pure (h [] rfl fun v r e => nomatch e)
  | v :: vs, Q, hv, h => by
    obtain ⟨a, o, xs, n, rfl, ho, hc, hd, i⟩ := hv v List.mem_cons_self
    rw [List.mapM_cons]
    refine wpAny_bind ?_
    rw [PySem.W.kas_first_eq]
    refine wpAny_bind (PySem.W.Looks.here (tup_looks ⟨a, o, xs, n, rfl, ho, hc, hd, i⟩) ?_)
    rw [if_neg (by decide)]
    refine wpAny_bind (listItems_at ho hd (wpAny_pure ?_))
    refine wpAny_bind (tups_firsts vs (Q := fun bs s' => wpAny M A (pure (xs[0]? :: bs)) Q E s') (fun u hu => hv u (List.mem_cons_of_mem _ hu)) fun fs hl _ => wpAny_pure (h _ (by simp [hl]) fun v' r e hk => ?_))
    injection e with e1 e2
    rw [← e1] at hk
    rw [hk] at i
    have : xs.toList.length = 0 := i.length
    have z : xs.size = 0 := by simpa using this
    have : xs[0]? = none := by simp [z]
    rw [this]
    rfl
theorem tups_kind {vs : List Value} {k : Value → List Int} {Q : SortKind → Shared → Prop} (hv : ∀ v ∈ vs, TupAt s.heap v (k v)) {v0 : Value} {r0 : List Value} (e0 : vs = v0 :: r0) (k0 : k v0 = []) (h : Q oneType' s) : wpAny M A (keyKind' vs.toArray) Q E s := by
  rw [keyKind'_eq, List.mapM_toArray, map_eq_pure_bind]
  refine wpAny_bind (wpAny_bind (tups_firsts vs hv fun fs hl hf => wpAny_pure ?_))
  have f0 : fs[0]? = some none := hf v0 r0 e0 k0
  have na : (fs.toArray.all fun x => x.isSome) = false := by
    rw [List.all_toArray, List.all_eq_false]
    exact ⟨none, List.mem_of_getElem? f0, by simp⟩
  rw [na, if_neg (by decide)]
  have nb : ((fs.toArray[0]?).bind id).isSome = false := by
    have : fs.toArray[0]? = some none := by simpa using f0
    rw [this]
    rfl
  rw [nb, if_neg (by decide), oneTypeOnly'_eq, List.mapM_toArray, map_eq_pure_bind]
  refine wpAny_bind (wpAny_bind (wpAny_bind (PySem.W.kas_mapM (r := Value.type "tuple") _ (fun v m Q' hq => (tup_looks (hv v m)).here hq) (wpAny_pure ?_))))
  subst e0
  have al : ((List.map (fun _ => Value.type "tuple") (v0 :: r0)).toArray.all fun x => x == Value.type "tuple") = true := by
    simp only [List.all_toArray, List.all_map, List.all_eq_true]
    intro _ _
    rfl
  have h0 : (List.map (fun _ => Value.type "tuple") (v0 :: r0)).toArray[0]? = some (Value.type "tuple") := by simp
  rw [h0]
  simp only [al, if_true]
  exact wpAny_pure (wpAny_pure h)
end
section
variable {prog : Program} {w : World} {A : Around} {E : Value → Shared → Prop} {s : Shared}
theorem tups_lt {v u : Value} {ns ms : List Int} {Q : Bool → Shared → Prop} (hu : A.units < cLine) (hv : TupAt s.heap v ns) (hw : TupAt s.heap u ms) (h : Q (HT.lexLt ns ms) s) : wpAny (model prog w) A (keyLt' oneType' v u) Q E s := by
  obtain ⟨a, ⟨c1, d1, q1, l1⟩, xs, n, rfl, ho, hc, hd, i⟩ := hv
  obtain ⟨b, ⟨c2, d2, q2, l2⟩, ys, m, rfl, ho2, hc2, hd2, j⟩ := hw
  have hc : c1 = .type "tuple" := hc
  have hc2 : c2 = .type "tuple" := hc2
  have hd : q1 = .seq xs n := hd
  have hd2 : q2 = .seq ys m := hd2
  subst hc hc2 hd hd2
  rw [keyLt'_oneType, oneLt'_eq]
  simp only [if_true]
  refine wpAny_bind (wpAny_cRoomFor hu ?_)
  have tT : s.TypeIs (.ref a) "tuple" := ⟨_, ho, rfl⟩
  refine wpAny_bind (wpAny_callSpecialIfBound?_slot (name := Str.ofString "__lt__") tT PySem.F.slot_tuple_lt (call_meets PySem.F.slot_tuple_lt tT PySem.F.entry_tuple_lt (PySem.F.args_tuple_lt_2 _ _) (HT.tuple_lt_ints a b xs ys n m d1 d2 l1 l2 ns ms i j) ⟨ho, ho2, ?_⟩))
  exact wpAny_truthy_bool h
theorem tups_sortable {a : Addr} {vs : List Value} {k : Value → List Int} (hu : A.units < cLine) (hv : ∀ v ∈ vs, TupAt s.heap v (k v)) {v0 : Value} {r0 : List Value} (e0 : vs = v0 :: r0) (k0 : k v0 = []) (ha : ∀ o, s.heap.get? a = some o → o.cls ≠ .type "tuple") :
    SrtO.SortableO prog w A s a vs fun v u => HT.lexLt (k v) (k u) := by
  intro h' keep
  have hv' : ∀ v ∈ vs, TupAt h' v (k v) := fun v m => (hv v m).grow fun b o q c => keep b o (fun z => ha o (z ▸ q) c) q
  refine ⟨oneType', fun Q E hq => tups_kind (s := { s with heap := h' }) hv' e0 k0 hq, ?_⟩
  intro p q hp hq
  exact tups_lt (s := { s with heap := h' }) (Q := fun r s' => s' = { s with heap := h' } ∧ r = HT.lexLt (k p.1) (k q.1)) (E := fun _ _ => False) hu (hv' p.1 hp) (hv' q.1 hq) ⟨rfl, rfl⟩
end
/-- sorted(xs), xs a list of tuples of ints (k says which), the first one empty -/
def rSortL (K : PySem.W.Frag) : List V → Hp → VK → Prop := fun vs H Q => ∃ (a : Addr) (ts : List Addr) (k : Addr → List Int), vs = [V.ref a] ∧ SqL K H a (ts.map V.ref) ∧ (∀ t ∈ ts, H t = some (.tup ((k t).map V.int))) ∧ (∃ t0 r0, ts = t0 :: r0 ∧ k t0 = []) ∧
  ∀ (ts' : List Addr) (p : Addr), ts'.Perm ts → ts'.Pairwise (fun p q => HT.lexLt (k q) (k p) = false) → H p = none → Q (.ref p) (upd H p (.lst (ts'.map V.ref)))
section
variable {X : Cx}
theorem cr_sortL (hu : X.A.units + 64 < cLine) : CallR X (.builtin "sorted") (rSortL X.K) := by
  intro pins s σ H vs us Q I r h
  obtain ⟨a, ts, k, rfl, hs, hx, ⟨t0, r0, e0, k0⟩, q⟩ := h
  obtain ⟨its, rv, hl, hz⟩ := I.list hs
  obtain ⟨u, rfl, ru⟩ := vals1 r
  obtain rfl : u = Value.ref a := ru
  have ei := L2.nts_of rv
  have hv : ∀ v ∈ its, TupAt s.heap v (k (L2.adO v)) := fun v m => by
    rw [ei] at m
    obtain ⟨t, ht, rfl⟩ := List.mem_map.mp m
    obtain ⟨_, its2, r2, o, ho, hc, n, hd⟩ := I.hok _ _ (hx t ht)
    exact ⟨t, o, its2.toArray, n, rfl, ho, hc, hd, intsAre_of r2⟩
  have eh : its = Value.ref t0 :: r0.map Value.ref := by rw [ei, e0]; rfl
  refine SrtO.sorted_ord (NtL.swo_lexL fun v => k (L2.adO v)) hl.isList (by rw [← rv.length]; exact hz) (fun h2 h1 b hb kk => ?_) fun out hs1 hb1 => ?_
  · refine tups_sortable (s := { s with heap := h1 }) (by show X.A.units + 2 < cLine; omega) (fun v m => (hv v m).grow fun c o e _ => (kk c o e).2) eh k0 fun o e => ?_
    have e' : some o = some (seqObj "list" its.toArray 0) := e.symm.trans hb
    cases e'
    intro c
    exact absurd (Value.type.inj c) (by decide)
  · have eo : out = (out.map L2.adO).map Value.ref := L2.ref_map fun v m => by
      have m' : v ∈ its := hb1.perm.mem_iff.mp m
      rw [ei] at m'
      obtain ⟨t, _, e⟩ := List.mem_map.mp m'
      exact ⟨t, e.symm⟩
    have hp : (out.map L2.adO).Perm ts := by
      have p1 := hb1.perm.map L2.adO
      rw [ei, L2.ad_map] at p1
      exact p1
    have hs2 : (out.map L2.adO).Pairwise (fun p q => HT.lexLt (k q) (k p) = false) := List.pairwise_map.mpr (hs1.imp fun {x y} z => z)
    have fit : ((out.map L2.adO).map V.ref).length ≤ sizeLine := by
      rw [List.length_map, hp.length_eq]
      rw [List.length_map] at hz
      exact hz
    have rvo : Vals ((out.map L2.adO).map V.ref) out := by
      have z := L2.of_nts (out.map L2.adO)
      rw [← eo] at z
      exact z
    obtain ⟨ep, at2⟩ := PyProof.Rows.sortedAll_at s.heap its out.toArray
    have dn : H (s.heap.objs.size + 1) = none := I.hok.fresh (Nat.le_succ _)
    exact ⟨.ref (s.heap.objs.size + 1), upd H _ (.lst ((out.map L2.adO).map V.ref)), I.laid (t' := s.toks) (fun b o e => sortedAll_old e) (Nat.le_succ _) ⟨fit, out, ep, rvo, at2⟩, rfl, q _ _ hp hs2 dn⟩
theorem w_sortT {K : PySem.W.Frag} (h : X.K = K) (hu : X.A.units + 64 < cLine) : CallR X (.builtin "sorted") (rSortL K) := by subst h; exact cr_sortL hu
end
section
variable {K : PySem.W.Frag} {X : Cx} {pos : Pos}
theorem w_pglst {es : List Expr} {k : Nat} {t : TGs} {n : Nat} (h : X.K = K) (hc : X.calm = true) (ht : PGs X es t) (hn : (assignEach es X.env).length = n) (hst : (assignEach es X.env).findIdx? (·.1) = none) : PG X (.Tuple es k pos) (gLst K n t) := by subst h; exact pg_lst hc ht hn hst
theorem w_revL {e : Expr} {te : TE} {k : Nat} {p1 p2 p3 : Pos} (h : X.K = K) (he : PE X e te) : PE X (.Subscript e (.Slice none none (some (.UnaryOp .USub (.Constant (.int 1) k p1) p2)) p3) pos) (tRevL K te) := by subst h; exact pe_revL he
end
end M

set_option Elab.async false
set_option linter.all false
set_option maxRecDepth 100000
set_option maxHeartbeats 2000000
/-! sorted(d, reverse=True) of a dict of texts; == of dicts of plain data; going through a list or a tuple. -/
namespace M
open PySem PySem.Spec PyProof.Rows L2
def svOf : Value → List Nat
  | .str x _ => x.cps.toList
  | _ => []
def ltSv (v u : Value) : Bool := decide (svOf v < svOf u)
theorem swo_sv : SrtO.Swo ltSv := ⟨fun x y h => by
    have := of_decide_eq_true h
    exact decide_eq_false fun z => List.lt_irrefl _ (List.lt_trans this z),
  fun x y z h1 h2 => by
    have a := of_decide_eq_false h1
    have b := of_decide_eq_false h2
    exact decide_eq_false (List.not_lt.mpr (List.le_trans (List.not_lt.mp a) (List.not_lt.mp b)))⟩
def toS : Value → Str
  | .str x _ => x
  | _ => Str.empty
theorem strs_mem : ∀ {vs : List Value} {ss : List Str}, StrsAre vs ss → ∀ v ∈ vs, ∃ x t, v = Value.str x t
  | _, _, .nil, v, h => absurd h (by simp)
  | _, _, .cons n t r, v, h => by
    rcases List.mem_cons.mp h with e | h
    · exact ⟨n, t, e⟩
    · exact strs_mem r v h
theorem strs_of : ∀ {vs : List Value}, (∀ v ∈ vs, ∃ x t, v = Value.str x t) → StrsAre vs (vs.map toS)
  | [], _ => .nil
  | v :: vs, h => by
    obtain ⟨i, t, e⟩ := h v List.mem_cons_self
    subst e
    exact .cons i t (strs_of fun u hu => h u (List.mem_cons_of_mem _ hu))
theorem toS_strs : ∀ {vs : List Value} {ss : List Str}, StrsAre vs ss → vs.map toS = ss
  | _, _, .nil => rfl
  | _, _, .cons n t r => congrArg (n :: ·) (toS_strs r)
theorem strs_sortable {prog : Program} {w : World} {A : Around} {s : Shared} {a : Addr} {vs : List Value} {ss : List Str} (hI : StrsAre vs ss) (h2 : 2 ≤ vs.length) : SrtO.SortableO prog w A s a vs ltSv := by
  intro h' _
  refine ⟨oneType', fun Q E hq => ?_, fun p q hm hm' => ?_⟩
  · match vs, hI, h2 with
    | v1 :: v2 :: rest, hI, _ =>
      rw [keyKind_strs hI]
      exact wpAny_pure hq
    | [], _, h => exact absurd h (by decide)
    | [v], _, h => exact absurd h (by simp)
  · obtain ⟨a, t, e⟩ := strs_mem hI _ hm
    obtain ⟨b, u, e'⟩ := strs_mem hI _ hm'
    show wpAny (model prog w) A (keyLt' oneType' p.1 q.1) (fun r s' => s' = { s with heap := h' } ∧ r = ltSv p.1 q.1) (fun _ _ => False) { s with heap := h' }
    rw [e, e', keyLt'_oneType]
    exact oneLt_str ⟨rfl, rfl⟩
/-- sorted(d, reverse=True): the keys in some order -/
def rSortDR : List V → List V → Hp → VK → Prop := fun xs zs H Q => ∃ (a : Addr) (kvs : List (Key × V)) (ks : List Str), xs = [.ref a] ∧ zs = [.bl true] ∧ Rd H a (.dK kvs) ∧ kvs.map (·.1) = ks.map Sum.inr ∧
  ∀ (ys : List Str) (p : Addr), ys.Perm ks → H p = none → Q (.ref p) (upd H p (.lst (ys.map V.str)))
section
variable {X : Cx}
theorem cl_sortDR (calmly : X.calm = true) : CallRK X (.builtin "sorted") [Str.ofString "reverse"] rSortDR := by
  intro pi s0 st Hp0 args zs us ws Qk In rel rz hh
  obtain ⟨ad, kv0, ks, exs, ezs, rd0, names, kk⟩ := hh
  subst exs
  subst ezs
  obtain ⟨u0, eu0, r0⟩ := vals1 rel
  subst eu0
  cases r0
  obtain ⟨w1, rfl, e1⟩ := vals1 rz
  obtain rfl : w1 = Value.bool true := e1
  obtain ⟨zd, od0, vv, prs, dof⟩ := dk_rd In.hok rd0
  obtain ⟨epo, dAt⟩ := dof.dictAt
  have nm : vv.map (·.1) = ks.map Sum.inr := by rw [← names, prs.keys]
  have nl : vv.length = ks.length := by simpa using congrArg List.length nm
  have fit0 : vv.length ≤ sizeLine := by rw [← prs.length]; exact zd
  refine call_function_entry_kw kind_sorted plain_sorted entry_sorted (args_sorted_rev _ _) ?_
  unfold Builtin.«sorted»
  refine wpAny_bind (m := checkCount "sorted" 1 1 _) (wpAny_pure ?_)
  refine wpAny_bind (PySem.W.kdu_collect (A := X.A.in1) (PySem.W.kdl_dict (knd := mixKind X.prog X.w) (kvs := vv) (ep := epo) od0) (In.ok.hd calmly) dAt fit0 fun hp1 tk1 got keep1 ⟨gsz, gat⟩ => ?_)
  have al : got.toList.length = ks.length := by rw [Array.length_toList, gsz, nl]
  have txt : StrsAre got.toList ks := strs_at al fun n v ev => by
    obtain ⟨kq, xq, f1, f2⟩ := gat n v (by rw [← Array.getElem?_toList]; exact ev)
    have f3 : (ks.map Sum.inr : List Key)[n]? = some kq := by rw [← nm, List.getElem?_map, f1]; rfl
    rw [List.getElem?_map] at f3
    match q4 : ks[n]? with
    | none =>
      rw [q4] at f3
      cases f3
    | some y =>
      rw [q4] at f3
      have f5 : Sum.inr y = kq := Option.some.inj f3
      subst f5
      obtain ⟨tt, f6⟩ := Value.isStrOf_shape (x := y) (v := v) f2
      exact ⟨y, tt, rfl, f6⟩
  have sml : got.toList.length ≤ sizeLine := by rw [al, ← nl]; exact fit0
  have In1 : Inv X pi st Hp0 { s0 with heap := hp1, toks := tk1 } := In.kept keep1
  refine wpAny_bind (wpAny_newList ?_ (by simpa using sml))
  have at0 : (hp1.push (seqObj "list" got.toList.toArray 0)).get? hp1.objs.size = some (seqObj "list" got.toList.toArray 0) := by exact Heap.get?_push_size _ rfl
  show wpAny _ _ _ _ _ { s0 with heap := hp1.push (seqObj "list" got.toList.toArray 0), toks := tk1 }
  refine wpAny_bind (wpAny_holding (wpAny_call_entry_kw slot_list_sort ⟨_, at0, rfl⟩ entry_list_sort ?_ (args_list_sort_rev _ _)))
  refine SrtR.list_sort_ordR (b := true) (s := { s0 with heap := hp1.push (seqObj "list" got.toList.toArray 0), toks := tk1 }) swo_sv at0 sml (fun h2 => strs_sortable txt h2) fun out hs hb => ⟨_, rfl, ?_⟩
  have pm : out.reverse.Perm got.toList := (List.reverse_perm _).trans (hb.perm.trans (List.reverse_perm _))
  have g1 : StrsAre out.reverse (out.reverse.map toS) := strs_of fun v hv => strs_mem txt v (pm.mem_iff.mp hv)
  have g2 : (out.reverse.map toS).Perm ks := by
    have := pm.map toS
    rw [toS_strs txt] at this
    exact this
  have ea : (if true = true then out.toArray.reverse else out.toArray) = out.reverse.toArray := by
    rw [if_pos rfl]
    simp
  rw [ea]
  obtain ⟨ep2, at2⟩ := PyProof.Rows.sortedHeap_at (vs := got.toList) (out := out.reverse.toArray) at0
  have fit : ((out.reverse.map toS).map V.str).length ≤ sizeLine := by rw [List.length_map, g2.length_eq, ← al]; exact sml
  refine wpAny_pure ⟨_, rfl, .ref hp1.objs.size, upd Hp0 hp1.objs.size (.lst ((out.reverse.map toS).map V.str)), ?_, rfl, kk _ _ g2 (In1.hok.fresh (Nat.le_refl _))⟩
  refine In1.laid (t' := tk1) (fun b u e => ?_) (Nat.le_refl _) (show ObjOk X.prog X.w _ _ _ (.lst ((out.reverse.map toS).map V.str)) from ⟨fit, out.reverse, ep2, vals_of_strs g1, ?_⟩)
  · have lt : b < hp1.objs.size := Heap.lt_size e
    rw [PyProof.Rows.sortedHeap_old (Nat.ne_of_lt lt) (Nat.lt_of_lt_of_eq (Nat.lt_succ_of_lt lt) (size_push' _ _).symm)]
    exact Heap.get?_push_of_some _ e
  · exact at2
end
/-! ### a list or a tuple, whichever a name holds -/
def iAny (K : PySem.W.Frag) (i : Nat) : TI := fun σ H R => iList K (tVar i) σ H R ∨ iTup K (tVar i) σ H R
theorem w_piany {K : PySem.W.Frag} {X : Cx} {i : Nat} {tg l : Expr} (h : X.K = K) (hl : PE X l (tVar i)) : PI X tg l (iAny K i) := by
  subst h
  refine ⟨fun pins s σ H R I q => ?_⟩
  rcases q with q | q
  · exact (pi_list hl).run pins s σ H R I q
  · exact (pi_tup hl).run pins s σ H R I q
theorem x_iAnyL {K : PySem.W.Frag} {i : Nat} {σ : L2.St} {H : Hp} {R : It → Hp → Prop} (k : iList K (tVar i) σ H R) : iAny K i σ H R := .inl k
theorem x_iAnyT {K : PySem.W.Frag} {i : Nat} {σ : L2.St} {H : Hp} {R : It → Hp → Prop} (k : iTup K (tVar i) σ H R) : iAny K i σ H R := .inr k
/-! ### dicts of plain data that are equal -/
structure DKeq (K : PySem.W.Frag) (H : Hp) (a b : Addr) (ks ls : List (Key × V)) : Prop where
  l : H a = some (.dK ks)
  r : H b = some (.dK ls)
  len : ks.length = ls.length
  all : ∀ p ∈ ks, ∃ u d e, valV ls p.1 = some u ∧ Dp K H p.2 d ∧ Dp K H u e ∧ d.canLay0 = true ∧ e.canLay0 = true ∧ d.depth ≤ 50 ∧ PyData.eqv d e = true
def rDEq (K : PySem.W.Frag) (neg : Bool) : R2 := fun x y H Q => (x = .non ∧ y = .non ∧ Q (.bl (!neg)) H) ∨ (∃ a b ks ls, x = .ref a ∧ y = .ref b ∧ DKeq K H a b ks ls ∧ Q (.bl (!neg)) H)
section
variable {X : Cx}
theorem dk_hits {pins : List (Addr × Obj)} {σ : L2.St} {H : Hp} {s : Shared} (I : Inv X pins σ H s) (hu : X.A.units + 64 < cLine) {ls : List (Key × V)} {vb : List (Key × Value)} (rb : KV ls vb) {ks : List (Key × V)} {va : List (Key × Value)} (ra : KV ks va)
    (h : ∀ p ∈ ks, ∃ u d e, valV ls p.1 = some u ∧ Dp X.K H p.2 d ∧ Dp X.K H u e ∧ d.canLay0 = true ∧ e.canLay0 = true ∧ d.depth ≤ 50 ∧ PyData.eqv d e = true) : PySem.W.KeqHits X.A.in1 s vb va true := by
  unfold KV at ra
  induction ra with
  | nil => exact .nil
  | @cons p q ps qs h0 t k =>
    obtain ⟨h1, h2⟩ := h0
    obtain ⟨u, d, e, ev, hd, he, cd, ce, dd, eqv⟩ := h p List.mem_cons_self
    have rr : RelO (some u) (valueAt vb p.1) := by rw [← ev]; exact rb.val p.1
    obtain ⟨y, hy, ry⟩ := rr.some_of
    obtain ⟨key, v⟩ := q
    have h1' : p.1 = key := h1
    rw [h1'] at hy
    obtain ⟨as, r1⟩ := Dp.reads I d p.2 v hd h2
    obtain ⟨bs, r2⟩ := Dp.reads I e u y he ry
    show PySem.W.KeqHits X.A.in1 s vb ((key, v) :: qs) (true && true)
    refine .hit hy ?_ (k fun p' hm => h p' (List.mem_cons_of_mem _ hm))
    have := SeqAt.eqAt_reads d e X.A.in1 s v y as bs r1 r2 cd ce (by show X.A.units + 1 + min d.depth e.depth < cLine; omega)
    rw [eqv] at this
    exact this
theorem op_dEq (hu : X.A.units + 64 < cLine) : OpR X (compareOp .Eq) (rDEq X.K false) := by
  intro pins s σ H x y v u Q I rx ry h
  rcases h with ⟨rfl, rfl, q⟩ | ⟨a, b, ks, ls, rfl, rfl, D, q⟩
  · exact op_eqD hu pins s σ H .non .non v u Q I rx ry ⟨.none, .none, .non, .non, by rfl, by rfl, q⟩
  · cases (show v = Value.ref a from rx)
    cases (show u = Value.ref b from ry)
    obtain ⟨_, ya, va, ra, da⟩ := (show ObjOk X.prog X.w H s.heap a (.dK ks) from I.hok a _ D.l)
    obtain ⟨_, yb, vb, rb, db⟩ := (show ObjOk X.prog X.w H s.heap b (.dK ls) from I.hok b _ D.r)
    have e : va.length = vb.length := by rw [← ra.length, ← rb.length]; exact D.len
    refine PySem.W.keq_eq (knd := mixKind X.prog X.w) (r := true) ya yb da db (by omega) (fun _ => dk_hits I hu rb ra D.all) ?_
    rw [show (va.length == vb.length && true) = true from by rw [e]; simp]
    exact ⟨.bl true, H, I, rfl, q⟩
theorem op_dNe (hu : X.A.units + 64 < cLine) : OpR X (compareOp .NotEq) (rDEq X.K true) := by
  intro pins s σ H x y v u Q I rx ry h
  rcases h with ⟨rfl, rfl, q⟩ | ⟨a, b, ks, ls, rfl, rfl, D, q⟩
  · exact op_neD hu pins s σ H .non .non v u Q I rx ry ⟨.none, .none, .non, .non, by rfl, by rfl, q⟩
  · cases (show v = Value.ref a from rx)
    cases (show u = Value.ref b from ry)
    obtain ⟨_, ya, va, ra, da⟩ := (show ObjOk X.prog X.w H s.heap a (.dK ks) from I.hok a _ D.l)
    obtain ⟨_, yb, vb, rb, db⟩ := (show ObjOk X.prog X.w H s.heap b (.dK ls) from I.hok b _ D.r)
    have e : va.length = vb.length := by rw [← ra.length, ← rb.length]; exact D.len
    refine PySem.W.keq_ne (knd := mixKind X.prog X.w) (r := true) ya yb da db (by omega) (fun _ => dk_hits I hu rb ra D.all) ?_
    rw [show (va.length == vb.length && true) = true from by rw [e]; simp]
    exact ⟨.bl false, H, I, rfl, q⟩
theorem w_dEq {K : PySem.W.Frag} (h : X.K = K) (hu : X.A.units + 64 < cLine) : OpR X (compareOp .Eq) (rDEq K false) := by subst h; exact op_dEq hu
theorem w_dNe {K : PySem.W.Frag} (h : X.K = K) (hu : X.A.units + 64 < cLine) : OpR X (compareOp .NotEq) (rDEq K true) := by subst h; exact op_dNe hu
theorem w_dclear {K : PySem.W.Frag} {o : Expr} {to : TE} {apos cpos : Pos} (h : X.K = K) (ho : PE X o to) (hbase : attributeBase o "clear" X.env (eval o X.env) = eval o X.env := by rfl) (hline : (apos.endLine == cpos.line) = true := by rfl) :
    PE X (.Call (.Attribute o "clear" apos) [] [] cpos) (tBM0 K "dict" rDClear to) := by subst h; exact pe_dclear ho hbase hline
end
end M

set_option Elab.async false
set_option linter.all false
set_option maxRecDepth 100000
set_option maxHeartbeats 2000000
/-! {t: v}, t a tuple; setdefault; join; index -/
namespace M
open PySem PySem.Spec PyProof.Rows L2
def tDispT (tk tv : TE) : TE := fun σ H Q => ∀ p, H p = none → tk σ (upd H p (.dT [])) fun x H1 => tv σ H1 fun y H2 => ∃ (b : Addr) (k : List Key), x = .ref b ∧ H2 p = some (.dT []) ∧ H2 b = some (.tup (k.map kV)) ∧ Q (.ref p) (upd H2 p (.dT [(k, y)]))
theorem pe_dispT {X : Cx} {pos : Pos} {k v : Expr} {tk tv : TE} (hu : X.A.units + 1 < cLine) (hk : PE X k tk) (hv : PE X v tv) : PE X (.Dict [some k] [v] pos) (tDispT tk tv) := by
  refine ⟨fun pins s σ H Q I q => ?_⟩
  have hn := I.hok.fresh (Nat.le_refl s.heap.objs.size)
  have I1 := I.laid (a := s.heap.objs.size) (o := .dT []) (h' := s.heap.push { cls := .type "dict", data := .dict #[] }) (t' := s.toks) (fun _ _ q => Heap.get?_push_of_some _ q) (Nat.le_refl _) (dt_empty s.heap I.big)
  have hl := pairTrees_length [some k] [v] X.env pos rfl rfl
  have hz := zip_pairTrees [some k] [v] X.env pos rfl rfl
  rw [arm_eval_Dict, hz, dictDisplay_pairs _ (fun e => by rw [e] at hl; cases hl) (by rw [hl]; exact Nat.le_of_ble_eq_true rfl)]
  refine wpAny_bind (wpAny_standAt (wpAny_bind (wpAny_subDictH (knd := tupleKind (mixKind X.prog X.w)) (Q := fun d s' => wpAny (model X.prog X.w) X.A (pure (Value.ref d)) (EP X pins σ Q) X.xe s') (Nat.lt_of_succ_lt hu) (by rw [hl]; exact Nat.le_of_ble_eq_true rfl) ?_)))
  refine pairTrees_cons_walk (thn (hk.run pins _ σ _ _ I1 (q _ hn)) fun u s1 ⟨x, H1, I2, rx, q1⟩ => thn (hv.run pins s1 σ H1 _ I2 q1) fun w2 s2 ⟨y, H2, I3, ry, b, ky, ex, hp, hb, q2⟩ => pairTrees_nil_walk ?_)
  subst ex
  obtain rfl : u = Value.ref b := rx
  obtain ⟨z, hd, xs0, r0, dd⟩ := dt_of I3.hok hp
  cases r0
  refine ⟨[(ky, b, w2)], ⟨rfl, rfl, key_of I3.hok hb, trivial⟩, dd, fun h' tk' dd' hs => wpAny_pure ?_⟩
  refine ⟨.ref s.heap.objs.size, upd H2 s.heap.objs.size (.dT [(ky, y)]), ?_, rfl, q2⟩
  have e1 : storedAllH ([] : List (List Key × Addr × Value)) [(ky, b, w2)] = [(ky, b, w2)] := rfl
  rw [e1] at dd'
  obtain ⟨o, es, ep, hq, h2, h3, h4, _, h5⟩ := dd'
  refine d_write I3 (by rw [hp]; exact True.intro) hs ⟨o, hq⟩ ⟨Nat.le_of_ble_eq_true rfl, hd, [(ky, b, w2)], .cons ⟨rfl, ?_, ry⟩ .nil, o, es, ep, hq, h2, h3, h4, h5⟩
  rw [upd_ne (ne_of hb hp (fun z => nomatch z))]
  exact hb
def rJoin (K : PySem.W.Frag) : V → List V → Hp → VK → Prop := fun x xs H Q => ∃ a p, ∃ ys : List Str, x = .str a ∧ xs = [.ref p] ∧ (SqL K H p (ys.map V.str) ∨ SqT K H p (ys.map V.str)) ∧
    (ys.map (·.length)).sum + ys.length * a.length ≤ 16777216 ∧ Q (.str (Txt.join a ys)) H
section
variable {X : Cx} {K : PySem.W.Frag} {o e : Expr} {to : TE} {t : TA} {apos cpos : Pos}
theorem w_join (h : X.K = K) (ho : PE X o to) (ha : PA X [e] t)
    (hbase : attributeBase o "join" X.env (eval o X.env) = eval o X.env := by rfl)
    (hfew : ((backTo cpos (starEach [e] X.env)).all (fun x => !x.1) && (backToKw cpos (keywordEach [] X.env)).all (fun x => x.1.isSome)
      && decide (([e] : List Expr).length + ([] : List Keyword).length + (if ([] : List Keyword).isEmpty then 0 else 1) < 30)) = true := by rfl)
    (hline : (apos.endLine == cpos.line) = true := by rfl) (hs : starEach [e] X.env = (false, eval e X.env) :: starEach [] X.env := by rfl) (hplain : (backTo cpos (starEach [] X.env)).any (·.1) = false := by rfl) :
    PE X (.Call (.Attribute o "join" apos) [e] [] cpos) (tBM K "str" (rJoin K) to t) := by
  subst h
  exact pe_bm PySem.F.plainAttrs_str PySem.F.slot_str_join PySem.F.type_str_join mt_join ho ha hbase hfew hline hs hplain
theorem w_index (h : X.K = K) (ho : PE X o to) (ha : PA X [e] t)
    (hbase : attributeBase o "index" X.env (eval o X.env) = eval o X.env := by rfl)
    (hfew : ((backTo cpos (starEach [e] X.env)).all (fun x => !x.1) && (backToKw cpos (keywordEach [] X.env)).all (fun x => x.1.isSome)
      && decide (([e] : List Expr).length + ([] : List Keyword).length + (if ([] : List Keyword).isEmpty then 0 else 1) < 30)) = true := by rfl)
    (hline : (apos.endLine == cpos.line) = true := by rfl) (hs : starEach [e] X.env = (false, eval e X.env) :: starEach [] X.env := by rfl) (hplain : (backTo cpos (starEach [] X.env)).any (·.1) = false := by rfl) :
    PE X (.Call (.Attribute o "index" apos) [e] [] cpos) (tBM K "list" (rIndex K) to t) := by
  subst h
  exact pe_bm PySem.F.plainAttrs_list PySem.F.slot_list_index PySem.F.type_list_index mt_index ho ha hbase hfew hline hs hplain
end
section
variable {K : PySem.W.Frag} {σ : L2.St} {H : Hp} {Q : VK}
theorem x_dispT {tk tv : TE} (k : ∀ p, H p = none → tk σ (upd H p (.dT [])) fun x H1 => tv σ H1 fun y H2 => ∃ (b : Addr) (k : List Key), x = .ref b ∧ H2 p = some (.dT []) ∧ H2 b = some (.tup (k.map kV)) ∧ Q (.ref p) (upd H2 p (.dT [(k, y)]))) : tDispT tk tv σ H Q := k
theorem x_dsetd {td ty tx : TE} (k : td σ H fun x H1 => ∃ a, x = .ref a ∧ IsD H1 a ∧ ty σ H1 fun y H2 => tx σ H2 fun z H3 => ∃ (kvs : List (Key × V)) (k : Key), H3 a = some (.dK kvs) ∧ y = kV k ∧ kvs.length < sizeLine ∧
  (∀ v, valV kvs k = some v → Q v H3) ∧ (valV kvs k = none → Q z (upd H3 a (.dK (putK kvs k z))))) : tDSetd td ty tx σ H Q := k
theorem x_join {a : Str} {p : Addr} {ys : List Str} (h : SqL K H p (ys.map V.str)) (hz : (ys.map (·.length)).sum + ys.length * a.length ≤ 16777216) (k : Q (.str (Txt.join a ys)) H) : rJoin K (.str a) [.ref p] H Q := ⟨a, p, ys, rfl, rfl, .inl h, hz, k⟩
end
end M

set_option Elab.async false
set_option linter.all false
set_option maxRecDepth 100000
set_option maxHeartbeats 2000000
/-! repr of data at any depth; a def that is run where no repr is under way -/
namespace ReR
open PySem PySem.Spec PyProof.Rows L2
def SysIs (base : Heap) : Prop := ∃ mm, base.Ns sysModules mm
def kD : Key → PyData
  | .inl i => .int i
  | .inr x => .str x
mutual
/-- the data that stands at a value -/
inductive DpD (H : Hp) : V → PyData → Prop
  | non : DpD H .non .none
  | bl (b : Bool) : DpD H (.bl b) (.bool b)
  | int (i : Int) : DpD H (.int i) (.int i)
  | str (x : Str) : DpD H (.str x) (.str x)
  | lst {a : Addr} {xs : List V} {ds : List PyData} : H a = some (.lst xs) → DpDs H xs ds → DpD H (.ref a) (.list ds)
  | tup {a : Addr} {xs : List V} {ds : List PyData} : H a = some (.tup xs) → DpDs H xs ds → DpD H (.ref a) (.tuple ds)
  | dic {a : Addr} {kvs : List (Key × V)} {ds : List (PyData × PyData)} : Rd H a (.dK kvs) → DpDk H kvs ds → DpD H (.ref a) (.dict ds)
inductive DpDs (H : Hp) : List V → List PyData → Prop
  | nil : DpDs H [] []
  | cons {v : V} {vs : List V} {d : PyData} {ds : List PyData} : DpD H v d → DpDs H vs ds → DpDs H (v :: vs) (d :: ds)
inductive DpDk (H : Hp) : List (Key × V) → List (PyData × PyData) → Prop
  | nil : DpDk H [] []
  | cons {k : Key} {v : V} {r : List (Key × V)} {d : PyData} {ds : List (PyData × PyData)} : DpD H v d → DpDk H r ds → DpDk H ((k, v) :: r) ((kD k, d) :: ds)
end
section
variable {A B : Hp}
mutual
theorem DpD.mono (e : ∀ b o, A b = some o → B b = some o) : ∀ {v : V} {d : PyData}, DpD A v d → DpD B v d
  | _, _, .non => .non
  | _, _, .bl b => .bl b
  | _, _, .int i => .int i
  | _, _, .str x => .str x
  | _, _, .lst h r => .lst (e _ _ h) (r.mono e)
  | _, _, .tup h r => .tup (e _ _ h) (r.mono e)
  | _, _, .dic h r => .dic (h.elim (fun h => .inl (e _ _ h)) fun ⟨o, h⟩ => .inr ⟨o, e _ _ h⟩) (r.mono e)
theorem DpDs.mono (e : ∀ b o, A b = some o → B b = some o) : ∀ {v : List V} {d : List PyData}, DpDs A v d → DpDs B v d
  | _, _, .nil => .nil
  | _, _, .cons h r => .cons (h.mono e) (r.mono e)
theorem DpDk.mono (e : ∀ b o, A b = some o → B b = some o) : ∀ {v : List (Key × V)} {d : List (PyData × PyData)}, DpDk A v d → DpDk B v d
  | _, _, .nil => .nil
  | _, _, .cons h r => .cons (h.mono e) (r.mono e)
end
end
theorem readsAll_key {h : Heap} {k : Key} {u : Value} (e : keyIs k u = true) : Reads h u (kD k) [] := by
  rcases keyIs_shape e with ⟨i, t, rfl, rfl⟩ | ⟨x, t, rfl, rfl⟩
  · exact Reads.int i t
  · exact Reads.str x t
section
variable {X : Cx} {pins : List (Addr × Obj)} {σ : L2.St} {H : Hp} {s : Shared}
theorem no_sys (hb : SysIs X.base) (I : Inv X pins σ H s) {a : Addr} (h : H a ≠ none) : a ≠ sysModules := by
  obtain ⟨mm, o, es, ep, e, _⟩ := hb
  intro z
  rw [z] at h
  exact h (I.bs _ _ e).2
mutual
theorem DpD.reads (hb : SysIs X.base) (I : Inv X pins σ H s) : ∀ {v : V} {d : PyData} {u : Value}, DpD H v d → RelV v u → ∃ as, Reads s.heap u d as ∧ sysModules ∉ as
  | _, _, u, .non, r => by
    cases (show u = Value.none from r)
    exact ⟨_, .none, List.not_mem_nil⟩
  | _, _, u, .bl b, r => by
    cases (show u = Value.bool b from r)
    exact ⟨_, .bool b, List.not_mem_nil⟩
  | _, _, u, .int i, r => by
    obtain ⟨t, rfl⟩ := (show ∃ t, u = Value.int i t from r)
    exact ⟨_, .int i t, List.not_mem_nil⟩
  | _, _, u, .str x, r => by
    obtain ⟨t, rfl⟩ := (show ∃ t, u = Value.str x t from r)
    exact ⟨_, .str x t, List.not_mem_nil⟩
  | _, _, u, .lst (a := a) (xs := xs) e h, r => by
    cases (show u = Value.ref a from r)
    obtain ⟨z, its, n, rv, g⟩ : xs.length ≤ sizeLine ∧ ∃ (its : List Value) (n : Nat), Vals xs its ∧ s.heap.get? a = some { cls := .type "list", data := .seq its.toArray n } := I.hok _ _ e
    obtain ⟨as, q, ns⟩ := h.reads hb I rv
    have na := no_sys hb I (a := a) (by rw [e]; exact fun z => nomatch z)
    exact ⟨_, .list g rfl rfl (by simpa using q), fun m => (List.mem_cons.mp m).elim (fun z => na z.symm) ns⟩
  | _, _, u, .tup (a := a) (xs := xs) e h, r => by
    cases (show u = Value.ref a from r)
    obtain ⟨z, its, rv, o, g, hc, n, hd⟩ : xs.length ≤ sizeLine ∧ ∃ its : List Value, Vals xs its ∧ IsTup s.heap a its.toArray := I.hok _ _ e
    obtain ⟨as, q, ns⟩ := h.reads hb I rv
    exact ⟨_, .tuple g hc hd (by simpa using q), ns⟩
  | _, _, u, .dic (a := a) (kvs := kvs) e h, r => by
    cases (show u = Value.ref a from r)
    obtain ⟨z, hS, vs, rel, o, es, ep, g, hx, hd, hk, pr, nd⟩ := dk_rd I.hok e
    obtain ⟨as, bs, q1, q2, n1, n2⟩ := h.reads hb I rel pr
    exact ⟨_, .dict g hx.1 hd q1 q2, fun m => (List.mem_append.mp m).elim (fun m => (List.mem_cons.mp m).elim (fun z => (beq_eq_false_iff_ne.mp hS) z.symm) n1) n2⟩
theorem DpDs.reads (hb : SysIs X.base) (I : Inv X pins σ H s) : ∀ {v : List V} {d : List PyData} {u : List Value}, DpDs H v d → Vals v u → ∃ as, ReadsAll s.heap u d as ∧ sysModules ∉ as
  | _, _, _, .nil, r => by
    cases r
    exact ⟨_, .nil, List.not_mem_nil⟩
  | _, _, _, .cons h hs, r => by
    cases r with
    | cons r1 r2 =>
      obtain ⟨as, q1, n1⟩ := h.reads hb I r1
      obtain ⟨bs, q2, n2⟩ := hs.reads hb I r2
      exact ⟨_, .cons q1 q2, fun m => (List.mem_append.mp m).elim n1 n2⟩
theorem DpDk.reads (hb : SysIs X.base) (I : Inv X pins σ H s) : ∀ {v : List (Key × V)} {d : List (PyData × PyData)} {vs : List (Key × Value)} {es : List DictEntry}, DpDk H v d → KV v vs → Pairs (mixKind X.prog X.w) es vs →
    ∃ as bs, ReadsAll s.heap (es.map (·.key)) (d.map (·.1)) as ∧ ReadsAll s.heap (es.map (·.val)) (d.map (·.2)) bs ∧ sysModules ∉ as ∧ sysModules ∉ bs
  | _, _, _, _, .nil, r, p => by
    cases r
    cases p
    exact ⟨_, _, .nil, .nil, List.not_mem_nil, List.not_mem_nil⟩
  | _, _, _, _, .cons h hs, r, p => by
    cases r with
    | cons r1 r2 =>
      cases p with
      | cons p1 p2 p3 =>
        obtain ⟨k1, rv⟩ := r1
        obtain ⟨as, q1, n1⟩ := h.reads hb I rv
        obtain ⟨bs, cs, q2, q3, n2, n3⟩ := hs.reads hb I r2 p3
        rw [← p2] at q1
        rw [← k1] at p1
        exact ⟨_, _, .cons (readsAll_key p1) q2, .cons q1 q3, fun m => n2 (by simpa using m), fun m => (List.mem_append.mp m).elim n1 n3⟩
end
end
/-- data whose text is short -/
def okD (d : PyData) : Prop := d.showable = true ∧ d.depth ≤ 60 ∧ d.leavesShort 40 = true ∧ d.bulk ≤ 100000
theorem okD.len {d : PyData} (h : okD d) : d.shown.length ≤ sizeLine := by
  have q := PyData.shown_le_bulk 40 (by decide) d h.2.2.1
  have b := h.2.2.2
  have e := sizeLine_eq
  rw [e]
  omega
def rRepr : List V → Hp → VK → Prop := fun xs H Q => ∃ v d, xs = [v] ∧ DpD H v d ∧ okD d ∧ Q (.str d.shown) H
theorem cr_repr {X : Cx} (hg : X.A.guards = some []) (hu : X.A.units + 64 < cLine) (hb : SysIs X.base) : CallR X (.builtin "repr") rRepr := by
  intro pins s σ H xs us Q I r h
  obtain ⟨v, d, rfl, hd, ok, q⟩ := h
  obtain ⟨u, rfl, ru⟩ := vals1 r
  obtain ⟨as, rd, ns⟩ := hd.reads hb I ru
  have hl := ok.len
  cases rd with
  | none => exact PySem.P.repr_of_none ⟨.str _, H, I.tok _, ⟨_, rfl⟩, q⟩
  | bool b => exact PySem.P.repr_of_bool ⟨.str _, H, I.tok _, ⟨_, rfl⟩, q⟩
  | int i t => exact PySem.P.repr_of_int (by simpa [PyData.showable] using ok.1) ⟨.str _, H, I.tok _, ⟨_, rfl⟩, q⟩
  | str x t => exact PySem.P.repr_of_str ⟨.str _, H, I.tok _, ⟨_, rfl⟩, q⟩ (by simpa only [PyData.shown] using hl)
  | list h1 h2 h3 h4 => exact repr_of_reads' (.list h1 h2 h3 h4) ok.1 (fun _ => ns) hg (by have := ok.2.1; omega) (fun _ _ e => e) (fun h' u tk hk => ⟨.str _, H, I.kept hk, ⟨_, rfl⟩, q⟩) hl
  | tuple h1 h2 h3 h4 => exact repr_of_reads' (.tuple h1 h2 h3 h4) ok.1 (fun _ => ns) hg (by have := ok.2.1; omega) (fun _ _ e => e) (fun h' u tk hk => ⟨.str _, H, I.kept hk, ⟨_, rfl⟩, q⟩) hl
  | dict h1 h2 h3 h4 h5 => exact repr_of_reads' (.dict h1 h2 h3 h4 h5) ok.1 (fun _ => ns) hg (by have := ok.2.1; omega) (fun _ _ e => e) (fun h' u tk hk => ⟨.str _, H, I.kept hk, ⟨_, rfl⟩, q⟩) hl

/-! ### a def that is run where no repr is under way -/
structure FnG (P : Program) (w : World) (K : PySem.W.Frag) (mg : Str → Option Value) (base : Heap) (CX : CXT) (k : Nat) (f : Addr) (fd : FuncData) (ps : List Str) (sp : Sp) : Prop where
  len : ∀ vs H Q E, sp vs H Q E → vs.length = ps.length
  run : ∀ (A : Around) (outer : List Env) (s : Shared) (H : Hp) (args : Args) (us : List Value) (vs : List V) (Q : VK) (E : XK), Room k A → A.guards = some [] → Env0 P w K mg base A outer s H → BindsTo s fd args (ps.zip us) → Vals vs us → sp vs H Q E →
    codeAny (model P w) A (.call (.ref f) args) (CR CX outer P w H s Q E) s
section
variable {P : Program} {w : World} {K : PySem.W.Frag} {mg : Str → Option Value} {base : Heap}
theorem _root_.L2.Fun.okG {x qual : Str} {st : Stmt} {f : Addr} {fd : FuncData} {N ps : List Str} {k : Nat} {sp : Sp} (F : Fun K x qual st f fd) (S : FnScope N ps (defScope st)) (len : ∀ vs H Q E, sp vs H Q E → vs.length = ps.length)
    (hbody : ∀ (cdv : Value) (A : Around) (outer : List Env) (s : Shared) (H : Hp) (vs : List V) (Q : VK) (E : XK), Room k (A.deeper (envOfC qual (defScope st) s.heap.objs.size f cdv)) → (A.deeper (envOfC qual (defScope st) s.heap.objs.size f cdv)).guards = some [] → sp vs H Q E →
      ∃ t, PSs (cxOf CX0 P w K mg base N qual (defScope st) f cdv A outer s H E).nox (defBody st) t ∧ t { nx := fun _ H' => Q .non H', rt := Q } (start N vs) H) : FnG P w K mg base CX0 (k + 1) f fd ps sp := by
  obtain ⟨oc, od, kV, doc, pm, an, cdv, ct, osl, rfl, lk, hcd⟩ := F.ex
  refine ⟨len, fun A outer s H args us vs Q E hr hg e0 hb r hsp => ?_⟩
  have kept := fun b o e => (e0.bs b o e).1
  have KX : K.In s.heap := e0.mod.kin.keeps kept
  have free : s.heap.NoLimit := e0.mod.nolimit.keeps kept
  have there : ∀ y ∈ ps.zip us, (defScope st).names.lookup y.1 = some .local ∨ ((defScope st).names.lookup y.1 = some .cell ∧ ((cellsFrom (s.heap.objs.size + 1) (defScope st).names []).lookup y.1).isSome = true) := by
    intro y hy
    rcases S.par y.1 (List.of_mem_zip (a := y.1) (b := y.2) hy).1 with q | q
    · exact .inl q
    · exact .inr ⟨q, PySem.W.cellsFrom_some _ _ _ (.inl q)⟩
  refine codeAny_call_function hr.depth (KX _ _ lk) rfl S.co S.gen rfl (PySem.W.codeRec_of KX hcd) (hb _ _ _ _ ?_)
  refine wpAny_newFunctionEnv_cells S.kind there fun env he s1 x => ?_
  subst he
  refine ⟨free.keeps x.toInCall.keep, codeAny_func ?_⟩
  obtain ⟨t, ht, hq⟩ := hbody cdv A outer s H vs Q E (hr.deeper _) hg hsp
  refine wpAny_mono (ht.nox.run [] s1 (start N vs) H _ (inv_start S hr.hd e0 (len _ _ _ _ hsp) r x) hq) (fun fl s' hs => ?_) fun e s' hs => hs
  cases fl with
  | ret u =>
    obtain ⟨v, σ', H', J, rv, q⟩ := hs
    exact ⟨v, H', J.os, J.bare, J.base, J.hok, rv, q⟩
  | next =>
    obtain ⟨σ', H', J, q⟩ := hs
    exact ⟨V.non, H', J.os, J.bare, J.base, J.hok, rfl, q⟩
  | brk => exact False.elim hs.choose_spec.choose_spec.2
  | cont => exact False.elim hs.choose_spec.choose_spec.2
end
/-- the head: the law's promise at the state behind the top -/
theorem law_callG {P : Program} {w : World} {K : PySem.W.Frag} {mg mb : Str → Option Value} {CX : CXT} {k : Nat} {fa a : Addr} {fd : FuncData} {x : Str} {sp : Sp} {s₁ : Shared} {vs : List Value} {ns : List Int}
    (KX : K.In s₁.heap) (hns : s₁.heap.Ns mainGlobals mg) (hb : s₁.heap.Ns builtinsNs mb) (hbb : ∀ x : Str, x ≠ "__name__" → mb x = bootBuiltins x) (hlim : s₁.heap.NoLimit) (hsy : SysIs s₁.heap) (hg : s₁.gens = #[])
    (ha : s₁.heap.get? a = some { cls := .type "list", data := .seq vs.toArray }) (hi : IntsAre vs ns) (hl : ns.length ≤ sizeLine) (hr : Room k callerA)
    (F : ∀ base : Heap, K.In base → base.Ns mainGlobals mg → SysIs base → FnG P w K mg base CX k fa fd [x] sp) (hbind : ∀ (s : Shared) (u : Value), BindsTo s fd ⟨[u], []⟩ [(x, u)])
    (hsp : ∀ H : Hp, Only H → SqL K H a (ns.map V.int) → sp [.ref a] H (fun v _ => v = .bl true) fun _ _ _ => False)
    (hCX : ∀ H e s', CX [] H s₁ (fun _ _ _ => False) e s' → False) :
    codeAny (model P w) callerA (.call (.ref fa) ⟨[.ref a], []⟩) (fun r s' => r = .ok (.ret (.bool true)) ∧ OldK s₁.heap s'.heap ∧ s'.os = s₁.os ∧ AllBare s'.gens) s₁ := by
  have rv := vals_ints hi
  have lv := hi.length
  -- the start's abstract heap: the script alone, as it lies; nothing where it is an object of the module
  have pick : ∃ H : Hp, Only H ∧ SqL K H a (ns.map V.int) ∧ HOk P w H s₁.heap ∧ (∀ b, H b ≠ none → b = a) ∧ (H a ≠ none → K.lookup a = none) := by
    cases hk : K.lookup a with
    | some o =>
      have e := KX a o hk
      rw [ha] at e
      cases e
      exact ⟨fun _ => none, fun _ => .inl rfl, .inr ⟨_, vs.toArray, _, hk, rfl, rfl, rfl, by rw [List.size_toArray, lv]; exact hl, by simpa using rv⟩, (fun b u z => nomatch (show (none : Option HO) = some u from z)), fun b z => absurd rfl z, fun z => absurd rfl z⟩
    | none =>
      refine ⟨fun b => if b = a then some (.frz { cls := .type "list", data := .seq vs.toArray } (.lst (ns.map V.int))) else none, fun b => ?_, .inl (.inr ⟨_, if_pos rfl⟩), fun b u z => ?_, fun b z => ?_, fun _ => rfl⟩
      · by_cases c : b = a
        · exact .inr ⟨_, _, if_pos c⟩
        · exact .inl (if_neg c)
      · by_cases c : b = a
        · cases (if_pos c).symm.trans z
          rw [c]
          exact ⟨ha, by rw [List.length_map]; exact hl, vs, _, rv, ha⟩
        · cases (if_neg c).symm.trans z
      · exact Decidable.byContradiction fun c => z (if_neg c)
  obtain ⟨H, hO, hS, hok, one, notK⟩ := pick
  have clear : ∀ {b : Addr} {o : Obj}, s₁.heap.get? b = some o → b ≠ a → H b = none := fun {b o} _ n => Decidable.byContradiction fun z => n (one b z)
  have ns_ne : ∀ {b : Addr} {m : Str → Option Value}, s₁.heap.Ns b m → b ≠ a := fun {b m} ⟨o, es, ep, e, d, _⟩ z => by
    rw [z, ha] at e
    cases e
    cases (show Data.seq vs.toArray _ = Data.dict es ep from d)
  have nsK : ∀ {b : Addr} {m : Str → Option Value}, s₁.heap.Ns b m → (hidT s₁.heap H).Ns b m := fun {b m} n => by
    have ne := ns_ne n
    obtain ⟨o, es, ep, e, r⟩ := n
    exact ⟨o, es, ep, hidT_get e (clear e ne), r⟩
  have hKb : K.In (hidT s₁.heap H) := fun b o e => hidT_get (KX b o e) (Decidable.byContradiction fun z => by
    have := one b z
    subst this
    rw [notK z] at e
    cases e)
  obtain ⟨mc, c1, c2⟩ := hlim
  obtain ⟨mm, m1⟩ := hsy
  have hM : Mod K mg (hidT s₁.heap H) := ⟨hKb, nsK hns, ⟨mb, nsK hb, hbb⟩, mc, nsK c1, c2⟩
  have e0 : Env0 P w K mg (hidT s₁.heap H) callerA [] s₁ H := ⟨rfl, hM, fun b o e => of_hidT e, Nat.le_of_eq (hidT_size _ _), trivial, (fun b z => nomatch (show b ∈ ([] : List Addr) from z)), hok, .of_eq hg⟩
  refine codeAny_mono ((F _ hKb (nsK hns) ⟨mm, nsK m1⟩).run callerA [] s₁ H ⟨[.ref a], []⟩ [.ref a] [.ref a] _ _ hr rfl e0 (hbind s₁ (.ref a)) (.cons rfl .nil) (hsp H hO hS)) fun r s' h => ?_
  cases r with
  | error e => exact (hCX H e s' h).elim
  | ok fl =>
    cases fl with
    | next => exact False.elim h
    | brk => exact False.elim h
    | cont => exact False.elim h
    | ret u =>
      obtain ⟨v, H', os, bare, un, hok', r', q⟩ := h
      subst q
      obtain rfl : u = Value.bool true := r'
      refine ⟨rfl, OldK.of_keep fun b o e => ?_, os, bare⟩
      by_cases n : H b = none
      · exact un.keep b o e n (fun z => nomatch (show b ∈ ([] : List Addr) from z)) (by simp)
      · rcases hO b with z | ⟨ob, xs, z⟩
        · exact absurd z n
        · obtain ⟨e1, _⟩ := hok b _ z
          obtain ⟨e2, _⟩ := hok' b _ (un.frzs b ob _ z)
          rw [e] at e1
          cases e1
          exact e2
theorem walk_ofG {l : PySem.W.OpenLaw} {n k : Nat} {q : Program} {loose : List Str} {XP : (Str → Option Value) → Heap → Prop} {YP : World → Heap → Prop} {d : DefRec} {K : Params → PySem.W.Frag} {CX : World → CXT} {sp : World → Sp} {x : Str}
    (hn : l.most = some n) (hn2 : n ≤ sizeLine) (hdf : d.params.defaults = []) (hr : Room k callerA) (him : importsNone q = true)
    (hY : ∀ (w : World) (h : Heap), YP w h → (K w.params).In h)
    (F : ∀ (w : World) (mg : Str → Option Value) (fa : Addr) (h : Heap), (K w.params).In h → h.Ns mainGlobals mg → mg d.name = some (.ref fa) →
      ∃ fd : FuncData, (∀ (s : Shared) (u : Value), BindsTo s fd ⟨[u], []⟩ [(x, u)]) ∧
        ∀ base : Heap, (K w.params).In base → base.Ns mainGlobals mg → SysIs base → FnG l.prog w (K w.params) mg base (CX w) k fa fd [x] (sp w))
    (hsp : ∀ (w : World) (H : Hp) (a : Addr) (ns : List Int), ns.length ≤ n → Only H → SqL (K w.params) H a (ns.map V.int) → sp w [.ref a] H (fun v _ => v = .bl true) fun _ _ _ => False)
    (hCX : ∀ (w : World) (H : Hp) (s : Shared) (e : Value) (s' : Shared), CX w [] H s (fun _ _ _ => False) e s' → False) :
    PySem.W.WalkO q loose XP YP l.row.toRowW d [] (fun f vs => PySem.call f vs) := by
  refine Att.attach_call hn hdf fun w s₀ s₁ mg mb fa o pm cd doc a vs ns G Y ho hd hcd hmg hobj hints hlen hg => ?_
  obtain ⟨fd, hb, hF⟩ := F w mg fa _ (hY w _ Y) G.T.g hmg
  obtain ⟨mm, m1, _⟩ := (G.T.seer him).mods
  exact law_callG (hY w _ Y) G.T.g G.T.b G.T.builtins G.T.nolimit ⟨mm, m1⟩ hg hobj hints (Nat.le_trans hlen hn2) hr hF hb (fun H hO hS => hsp w H a ns hlen hO hS) fun H e s' => hCX w H s₁ e s'
end ReR

set_option Elab.async false
set_option linter.all false
set_option maxRecDepth 100000
set_option maxHeartbeats 2000000
/-! a tuple whose first item is a text, compared with a tuple of one text -/
namespace L2
open PySem PySem.Spec PyProof.Rows
def rEqH (K : PySem.W.Frag) : R2 := fun x y H Q => ∃ a b s t xs, x = .ref a ∧ y = .ref b ∧ SqT K H a (.str s :: xs) ∧ SqT K H b [.str t] ∧ Q (.bl (decide (s = t) && xs.isEmpty)) H
theorem op_eqH {X : Cx} (hu : X.A.units < cLine) : OpR X (compareOp .Eq) (rEqH X.K) := by
  intro pins s σ H x y v u Q I rx ry h
  obtain ⟨a, b, s0, t0, xs, rfl, rfl, h1, h2, q⟩ := h
  cases (show v = Value.ref a from rx)
  cases (show u = Value.ref b from ry)
  obtain ⟨us, r1, ⟨o1, e1, c1, n1, d1⟩, _⟩ := I.tuple h1
  obtain ⟨ws, r2, ⟨o2, e2, c2, n2, d2⟩, _⟩ := I.tuple h2
  cases r1 with
  | @cons _ u0 _ ur ru rr =>
    cases r2 with
    | @cons _ w0 _ wr rw0 rrw =>
      cases rrw
      obtain ⟨tu, rfl⟩ := (show ∃ t, u0 = Value.str s0 t from ru)
      obtain ⟨tw, rfl⟩ := (show ∃ t, w0 = Value.str t0 t from rw0)
      have lx : xs.length = ur.length := rr.length
      refine SeqAt.RcAt.tuples ⟨o1, e1, c1, n1, d1⟩ ⟨o2, e2, c2, n2, d2⟩ hu (e := fun _ => s0 == t0) (fun j g1 g2 => ?_) X.prog X.w _ _ ?_
      · have g2 : j < 1 := by simpa using g2
        obtain rfl : j = 0 := by omega
        exact SeqAt.EqAt.str_str s0 tu t0 tw
      · have e9 : ((List.range (min (Value.str s0 tu :: ur).toArray.size (#[Value.str t0 tw] : Array Value).size)).all (fun _ => s0 == t0) && (Value.str s0 tu :: ur).toArray.size == (#[Value.str t0 tw] : Array Value).size) = (decide (s0 = t0) && xs.isEmpty) := by
          have m1 : min (Value.str s0 tu :: ur).toArray.size (#[Value.str t0 tw] : Array Value).size = 1 := by
            rw [List.size_toArray, List.length_cons]
            show min (ur.length + 1) 1 = 1
            omega
          rw [m1, List.size_toArray, List.length_cons, ← lx]
          cases xs with
          | nil => by_cases h : s0 = t0 <;> simp [h]
          | cons z zs => simp
        first
          | (rw [e9]; exact ⟨.bl _, H, I, rfl, q⟩)
          | (have e8 := e9; simp only [List.size_toArray] at e8 ⊢; rw [e8]; exact ⟨.bl _, H, I, rfl, q⟩)
end L2
namespace M
open PySem PySem.Spec PyProof.Rows L2
theorem w_eqH {X : Cx} {K : PySem.W.Frag} (h : X.K = K) (hu : X.A.units < cLine) : OpR X (compareOp .Eq) (rEqH K) := by subst h; exact op_eqH hu
end M

set_option Elab.async false
set_option linter.all false
set_option maxRecDepth 100000
set_option maxHeartbeats 4000000
/-! dict comprehensions for any kind of new dict: what the new dict is (`o0`) and what a turn's store does (`Put`) are told by the user; one such kind: keys None, ints or texts, told by the number of entries alone -/
namespace L2
open PySem PySem.Spec PyProof.Rows
/-- a kind of new dict: how it begins, what a store may do -/
structure DictKind (X : Cx) where
  o0 : Addr → HO
  Put : Addr → V → V → Hp → Hp → Prop
  new : ∀ {H : Hp} (h : Heap), sysModules < h.objs.size → ObjOk X.prog X.w H (h.push { cls := .type "dict", data := .dict #[] }) h.objs.size (o0 h.objs.size)
  set : ∀ {Y : Cx} {pn : List (Addr × Obj)} {σ : St} {H H' : Hp} {s : Shared} {E : Value → Shared → Prop} {D : Addr} {y z : V} {u r : Value} {Q : Unit → Shared → Prop}, Y.prog = X.prog → Y.w = X.w → Inv Y pn σ H s → Put D y z H H' → RelV y u → RelV z r →
    (∀ s', Inv Y pn σ H' s' → Q () s') → wpAny (model Y.prog Y.w) Y.A (dictSet D u r) Q E s
section
variable {X : Cx}
/-- one more turn, or the end -/
def TurnG (C : DictKind X) (g : TG) (tt : TT) (tk tv : TE) (vs : List Nat) (σ : St) (D : Addr) (J : It) (Q : VK) (W : Nat → Nat → Hp → Prop) : Prop := ∀ i m H, W i m H →
  (J.stop i H ∧ Q (.ref D) H) ∨ (J.go i H ∧ ∃ Nx : Hp → Prop, (∀ H', Nx H' → ∃ m', m' < m ∧ W (i + 1) m' H') ∧ ∀ x H', J.yld i H x H' → g x (wipe σ vs) H' fun σ2 H2 => wipe σ2 vs = wipe σ vs ∧ tt σ2 H2 fun b H3 =>
    if b = true then tk σ2 H3 fun y H4 => tv σ2 H4 fun z H5 => ∃ H6, C.Put D y z H5 H6 ∧ Nx H6 else Nx H3)
def tDcG (C : DictKind X) (wi : TI) (g : TG) (tt : TT) (tk tv : TE) (vs : List Nat) : TE := fun σ H Q => wi σ H fun J H1 => ∀ D, H1 D = none → ∃ W : Nat → Nat → Hp → Prop, (∃ m, W 0 m (upd H1 D (C.o0 D))) ∧ TurnG C g tt tk tv vs σ D J Q W
/-- the turns, in the comprehension's block -/
theorem dcG_loop (C : DictKind X) (calmly : X.calm = true) {sb : Shared} {Hb : Hp} {sco : Scope} {ce : Env} {own : List Addr} {it D : Addr} {tn : Nat → Heap → Prop} {J : It} {tg itx kx vx : Expr} {ifs : List Expr} {po : Pos} {σ : St} {vs : List Nat} {Q : VK} {W : Nat → Nat → Hp → Prop} {g : TG} {tt : TT} {tk tv : TE} {R : Result → Shared → Prop}
    (T : Turn X.prog X.w X.K tg J own it tn) (turn : TurnG C g tt tk tv vs σ D J Q W) (pg : PG (X.blk sb Hb sco ce own) tg g) (pt : PTs (X.blk sb Hb sco ce own) ifs tt) (pk : PE (X.blk sb Hb sco ce own) kx tk) (pv : PE (X.blk sb Hb sco ce own) vx tv)
    (fin : ∀ s H, Inv (X.blk sb Hb sco ce own) [] (wipe σ vs) H s → Q (.ref D) H → R (.ok .next) s) {m0 : Nat} {s0 : Shared} (I0 : Inv (X.blk sb Hb sco ce own) [] (wipe σ vs) Hb s0) (t0 : tn 0 s0.heap) (f0 : ∀ b ∈ own, Hb b = none) (w0 : W 0 m0 Hb) :
    codeAny (model X.prog X.w) X.A (.compLoop (.DictComp kx vx [⟨tg, itx, ifs, 0⟩] sco po) 0 (.ref it) (.ref D) ce) R s0 := by
  have own_ok : ∀ {σ' : St} {A : Hp} {s : Shared}, Inv (X.blk sb Hb sco ce own) [] σ' A s → (∀ b ∈ own, A b = none) → ∀ b ∈ own, FpOk (X.blk sb Hb sco ce own) [] A b := fun I n b hb =>
    ⟨n b hb, (I.ok.exf b hb).1, I.ok.exfs b hb, .inl hb, fun x c e => (I.ok.exf b hb).2 x c e, fun p hp => absurd (show p ∈ ([] : List (Addr × Obj)) ++ [] from hp) (by simp)⟩
  refine compLoop_anyD (fun n s => ∃ i A, Inv (X.blk sb Hb sco ce own) [] (wipe σ vs) A s ∧ tn i s.heap ∧ (∀ b ∈ own, A b = none) ∧ W i n A) ?_ m0 ⟨0, Hb, I0, t0, f0, w0⟩
  rintro n s1 ⟨i, A, I1, t1, n1, w1⟩
  cases turn i n A w1 with
  | inl e =>
    refine thnF (T.done (X.blk sb Hb sco ce own) rfl rfl rfl calmly i [] s1 _ A (fun _ _ => False) I1 (own_ok I1 n1) t1 e.1) fun r s2 z => ?_
    cases z.1
    exact fin s2 A z.2 e.2
  | inr e =>
    obtain ⟨go, Nx, hNx, step⟩ := e
    refine thnF (T.item (X.blk sb Hb sco ce own) rfl rfl rfl calmly i [] s1 _ A (fun _ _ => False) I1 (own_ok I1 n1) t1 go) fun r s2 ⟨u, er, z2⟩ => ?_
    cases er
    refine thnF z2 fun _ s3 ⟨x, B, I3, rx, yx, t3, n3⟩ => ?_
    refine thnF (pg.run _ s3 _ B x u _ (I3.pinned (own_ok I3 n3) (T.obj _ _ t3)) rx (step x B yx)) fun _ s4 ⟨σ4, B4, I4, hw, q4⟩ => ?_
    refine thnF (pt.run _ s4 σ4 B4 _ I4 q4) fun b s5 ⟨B5, I5, q5⟩ => ?_
    -- the turn's end
    have done : ∀ {s : Shared} {A' : Hp}, Inv (X.blk sb Hb sco ce own) ([] ++ pinsAt own s3.heap) σ4 A' s → Nx A' → ∃ m, m < n ∧ ∃ i A, Inv (X.blk sb Hb sco ce own) [] (wipe σ vs) A s ∧ tn i s.heap ∧ (∀ b ∈ own, A b = none) ∧ W i m A := fun {s A'} I nx => by
      obtain ⟨m, lt, w'⟩ := hNx A' nx
      have kept : ∀ b ∈ own, ∀ o, s3.heap.get? b = some o → s.heap.get? b = some o ∧ A' b = none := fun b hb o e =>
        have z := I.pin (b, o) (List.mem_append_right _ (List.mem_append_right _ (mem_pinsAt hb e)))
        ⟨z.1, z.2.1⟩
      refine ⟨m, lt, i + 1, A', (I.unpinned (pins := [])).weak (by rw [← hw, wipe_length]) (fun j v e => ?_), T.keep _ _ _ t3 fun b hb o e => (kept b hb o e).1, fun b hb => ?_, w'⟩
      · rw [← hw] at e
        exact (wipe_some e).1
      · obtain ⟨o, e, _⟩ := T.obj _ _ t3 b hb
        exact (kept b hb o e).2
    cases b with
    | false =>
      rw [if_neg Bool.false_ne_true] at q5 ⊢
      exact done I5 q5
    | true =>
      rw [if_pos rfl] at q5 ⊢
      refine thnF (pk.run _ s5 σ4 B5 _ I5 q5) fun ku s6 ⟨y, B6, I6, ry, q6⟩ => ?_
      refine thnF (pv.run _ s6 σ4 B6 _ I6 q6) fun vu s7 ⟨z, B7, I7, rz, B8, put, nx⟩ => ?_
      exact C.set (Y := X.blk sb Hb sco ce own) rfl rfl I7 put ry rz fun s8 I8 => done I8 nx
theorem dcG_core (C : DictKind X) {pins : List (Addr × Obj)} {s : Shared} {σ : St} {H : Hp} {Q : VK} {kx vx tg itx : Expr} {ifs : List Expr} {sco : Scope} {own : List (Str × Nat)} {po pn : Pos} {wi : TI} {g : TG} {tt : TT} {tk tv : TE} {use : Option (Value → Sem Unit)} {Qf : Value → Shared → Prop}
    (calmly : X.calm = true) (hN : X.N.Nodup) (I : Inv X pins σ H s) (hi : PI X tg itx wi) (ok : BlkOk X.N X.env.scope sco own)
    (hg : ∀ (s : Shared) (H : Hp) (c : Addr) (cl : List (Str × Addr)) (fp : List Addr), PG (X.blk s H sco (compEnvC sco cl c X.env) fp) tg g) (ht : ∀ (s : Shared) (H : Hp) (c : Addr) (cl : List (Str × Addr)) (fp : List Addr), PTs (X.blk s H sco (compEnvC sco cl c X.env) fp) ifs tt)
    (hk : ∀ (s : Shared) (H : Hp) (c : Addr) (cl : List (Str × Addr)) (fp : List Addr), PE (X.blk s H sco (compEnvC sco cl c X.env) fp) kx tk) (hv : ∀ (s : Shared) (H : Hp) (c : Addr) (cl : List (Str × Addr)) (fp : List Addr), PE (X.blk s H sco (compEnvC sco cl c X.env) fp) vx tv)
    (hs : ∀ x, foldedSetIterable itx X.env x = pure x) (h : tDcG C wi g tt tk tv (own.map (·.2)) σ H Q)
    (out : ∀ D c s' m A, Inv X pins σ A s' → Q (.ref D) A → s'.heap.Ns c m → FpOk X pins A c → compPost (model X.prog X.w) X.A X.xe use Qf (.ref D) c (.ok .next) s') :
    wpAny (model X.prog X.w) X.A (comprehension (.DictComp kx vx [⟨tg, itx, ifs, 0⟩] sco po) sco X.env pn newDict false (eval itx X.env) use) Qf X.xe s := by
  have free : ∀ y ∈ sco.names, y.2 = .free → ∃ c, X.env.cells.lookup y.1 = some c := fun y hy e => (ok.free y hy e).elim (fun k => I.ok.has _ (.inl k)) fun k => I.ok.has _ (.inr k)
  refine wpAny_comprehension_free (use := use) rfl hs (closure_ok free) ok.kind (fun y hy e => by rw [ok.uniq y hy, e]) (thn (hi.run pins s σ H _ I h) fun xv s1 z1 => thn z1 fun _ s2 ⟨it, fp, tn, J, A, eit, I2, T, t2, f2, q⟩ => ?_)
  cases eit
  refine wpAny_newObj_type (newEnv_comp ?_)
  obtain ⟨W, ⟨m0, w0⟩, turn⟩ := q s2.heap.objs.size (I2.hok.fresh (Nat.le_refl _))
  -- the new dict
  have I3 : Inv X pins σ (upd A s2.heap.objs.size (C.o0 s2.heap.objs.size)) { s2 with heap := s2.heap.push { cls := .type "dict", data := .dict #[] } } :=
    I2.laid (t' := s2.toks) (fun b o e => Heap.get?_push_of_some _ e) (Nat.le_refl _) (C.new s2.heap I2.big)
  have lt : ∀ b ∈ fp, b < s2.heap.objs.size := fun b hb => (T.obj _ _ t2 b hb).elim fun o e => Heap.lt_size e.1
  have f3 : ∀ b ∈ fp, FpOk X pins (upd A s2.heap.objs.size (C.o0 s2.heap.objs.size)) b ∧ b < (s2.heap.push { cls := .type "dict", data := .dict #[] }).objs.size := fun b hb =>
    ⟨⟨by rw [upd_ne (Nat.ne_of_lt (lt b hb))]; exact (f2 b hb).1, (f2 b hb).2⟩, by rw [Heap.size_push]; exact Nat.lt_succ_of_lt (lt b hb)⟩
  have t3 : tn 0 (s2.heap.push { cls := .type "dict", data := .dict #[] }) := T.keep _ _ _ t2 fun b _ o e => Heap.get?_push_of_some _ e
  generalize s2.heap.objs.size = D at I3 turn w0 f3 ⊢
  generalize upd A D (C.o0 D) = B at I3 w0 f3
  generalize eh : s2.heap.push { cls := .type "dict", data := .dict #[] } = h3 at I3 f3 t3 ⊢
  generalize es : ({ s2 with heap := h3 } : Shared) = s3 at I3
  have hp : s3.heap = h3 := by rw [← es]
  have f4 : ∀ b ∈ fp, FpOk X pins B b ∧ b < s3.heap.objs.size := fun b hb => by rw [hp]; exact f3 b hb
  have t4 : tn 0 s3.heap := by rw [hp]; exact t3
  clear f3 t3 hp es eh
  have I4 := block_start I3 ok hN f4
  have pg := hg s3 B s3.heap.objs.size (cellsFrom (s3.heap.objs.size + 1) sco.names (cloFrom X.env.cells sco.names [])) fp
  have pt := ht s3 B s3.heap.objs.size (cellsFrom (s3.heap.objs.size + 1) sco.names (cloFrom X.env.cells sco.names [])) fp
  have pk := hk s3 B s3.heap.objs.size (cellsFrom (s3.heap.objs.size + 1) sco.names (cloFrom X.env.cells sco.names [])) fp
  have pv := hv s3 B s3.heap.objs.size (cellsFrom (s3.heap.objs.size + 1) sco.names (cloFrom X.env.cells sco.names [])) fp
  show codeAny _ _ (.compStart (.DictComp kx vx [⟨tg, itx, ifs, 0⟩] sco po) 0 (.ref it) (.ref D) (compEnvC sco (cellsFrom (s3.heap.objs.size + 1) sco.names (cloFrom X.env.cells sco.names [])) s3.heap.objs.size X.env)) (compPost (model X.prog X.w) X.A X.xe use Qf (.ref D) s3.heap.objs.size) { s3 with heap := pushCells (s3.heap.push { cls := .type "dict", data := .dict #[] }) sco.names }
  generalize ec : compEnvC sco (cellsFrom (s3.heap.objs.size + 1) sco.names (cloFrom X.env.cells sco.names [])) s3.heap.objs.size X.env = ce at I4 pg pt pk pv ⊢
  have loc : ce.locals = s3.heap.objs.size := by rw [← ec]; rfl
  clear ec
  generalize e4 : ({ s3 with heap := pushCells (s3.heap.push { cls := .type "dict", data := .dict #[] }) sco.names } : Shared) = s4 at I4 ⊢
  have t5 : tn 0 s4.heap := T.keep _ _ _ t4 fun b _ o e => by rw [← e4]; exact pushCells_keeps _ _ _ _ (Heap.get?_push_of_some _ e)
  have loop : codeAny (model X.prog X.w) X.A (.compLoop (.DictComp kx vx [⟨tg, itx, ifs, 0⟩] sco po) 0 (.ref it) (.ref D) ce) (compPost (model X.prog X.w) X.A X.xe use Qf (.ref D) s3.heap.objs.size) s4 := by
    refine dcG_loop C calmly T turn pg pt pk pv (fun s A I5 qa => ?_) I4 t5 (fun b hb => (f4 b hb).1.1) w0
    have nC : A s3.heap.objs.size = none := by
      have z : A ce.locals = none := I5.free
      rw [loc] at z
      exact z
    obtain ⟨m, hn, _⟩ := I5.loc
    have hn : s.heap.Ns ce.locals m := hn
    rw [loc] at hn
    exact out D _ s m A (I3.call' (ch := fp) I5.os I5.base I5.hok I5.bare fun b hb => ⟨(f4 b hb).1.2.2.2.1, (f4 b hb).1.2.1, (f4 b hb).1.2.2.2.2.1, (f4 b hb).1.2.2.2.2.2⟩) qa hn (I3.fpOk (Nat.le_refl _) nC)
  exact codeAny_compStart_dict loop (T.self X.A 0 _ _ _ t5 loop)
/-- as a value -/
theorem pe_dcG (C : DictKind X) {kx vx tg itx : Expr} {ifs : List Expr} {sco : Scope} {own : List (Str × Nat)} {po : Pos} {wi : TI} {g : TG} {tt : TT} {tk tv : TE} (calmly : X.calm = true) (hN : X.N.Nodup) (hi : PI X tg itx wi) (ok : BlkOk X.N X.env.scope sco own)
    (hg : ∀ (s : Shared) (H : Hp) (c : Addr) (cl : List (Str × Addr)) (fp : List Addr), PG (X.blk s H sco (compEnvC sco cl c X.env) fp) tg g) (ht : ∀ (s : Shared) (H : Hp) (c : Addr) (cl : List (Str × Addr)) (fp : List Addr), PTs (X.blk s H sco (compEnvC sco cl c X.env) fp) ifs tt)
    (hk : ∀ (s : Shared) (H : Hp) (c : Addr) (cl : List (Str × Addr)) (fp : List Addr), PE (X.blk s H sco (compEnvC sco cl c X.env) fp) kx tk) (hv : ∀ (s : Shared) (H : Hp) (c : Addr) (cl : List (Str × Addr)) (fp : List Addr), PE (X.blk s H sco (compEnvC sco cl c X.env) fp) vx tv)
    (hs : ∀ x, foldedSetIterable itx X.env x = pure x := by intro _; rfl) : PE X (.DictComp kx vx [⟨tg, itx, ifs, 0⟩] sco po) (tDcG C wi g tt tk tv (own.map (·.2))) := by
  refine ⟨fun pins s σ H Q I h => ?_⟩
  rw [arm_eval_DictComp]
  exact dcG_core C calmly hN I hi ok hg ht hk hv hs h fun D c s' m A I' q hn ⟨f0, f1, f2, f3, f4, f5⟩ => ⟨m, hn, fun h'' sb => ⟨.ref D, A, I'.turned (t' := s'.toks) (fun b o hb e => (sb.2 b hb).trans e) f0 f1 f3 f4 f5, rfl, q⟩⟩
/-- y = {k: v for ..}, y a local name -/
theorem ps_setDcG (C : DictKind X) {i : Nat} {y : Str} {py : Pos} {kx vx tg itx : Expr} {ifs : List Expr} {sco : Scope} {own : List (Str × Nat)} {po sp : Pos} {wi : TI} {g : TG} {tt : TT} {tk tv : TE} (calmly : X.calm = true) (hN : X.N.Nodup) (hy : X.N[i]? = some y) (hyl : X.env.scope.names.lookup y = some .local)
    (hsw : swapsWith (.DictComp kx vx [⟨tg, itx, ifs, 0⟩] sco po) (some (.Name y py)) sp.line X.env = pure true) (hi : PI X tg itx wi) (ok : BlkOk X.N X.env.scope sco own)
    (hg : ∀ (s : Shared) (H : Hp) (c : Addr) (cl : List (Str × Addr)) (fp : List Addr), PG (X.blk s H sco (compEnvC sco cl c X.env) fp) tg g) (ht : ∀ (s : Shared) (H : Hp) (c : Addr) (cl : List (Str × Addr)) (fp : List Addr), PTs (X.blk s H sco (compEnvC sco cl c X.env) fp) ifs tt)
    (hk : ∀ (s : Shared) (H : Hp) (c : Addr) (cl : List (Str × Addr)) (fp : List Addr), PE (X.blk s H sco (compEnvC sco cl c X.env) fp) kx tk) (hv : ∀ (s : Shared) (H : Hp) (c : Addr) (cl : List (Str × Addr)) (fp : List Addr), PE (X.blk s H sco (compEnvC sco cl c X.env) fp) vx tv)
    (hs : ∀ x, foldedSetIterable itx X.env x = pure x := by intro _; rfl) : PS X (.Assign [.Name y py] (.DictComp kx vx [⟨tg, itx, ifs, 0⟩] sco po) sp) (tAsg (tDcG C wi g tt tk tv (own.map (·.2))) (gName i)) := by
  refine ⟨fun pi s0 st A D In hh => ?_⟩
  rw [exec_Assign_Name_used _ _ _ _ hsw]
  refine wpAny_bind (wpAny_standAt (wpAny_bind ?_))
  show wpAny _ X.A (do let _ ← comprehension (.DictComp kx vx [⟨tg, itx, ifs, 0⟩] sco po) sco X.env (firstIterPos [⟨tg, itx, ifs, 0⟩] po) newDict false (eval itx X.env) (some (assign (.Name y py) X.env))) _ _ s0
  refine wpAny_bind (thn (dcG_core C (Qf := fun _ s' => SP X pi D .next s') (Q := fun x B => gName i x st B D.nx) calmly hN In hi ok hg ht hk hv hs hh fun Ld c s1 m B In1 q hn ⟨f0, f1, f2, f3, f4, f5⟩ => ?_) fun _ s1 hq => wpAny_pure (wpAny_pure hq))
  show wpAny _ _ (assign (.Name y py) X.env (.ref Ld)) _ _ _
  refine wpAny_assign_Name (store_ok2 (v := V.ref Ld) In1 hN hy (.inl hyl) rfl (fun s2 In2 ⟨a, sb, ha⟩ => ?_) (.inr hyl))
  have ne : c ≠ a := ha.elim (fun z e => f1 (e.trans z)) fun z e => f4 y a z e.symm
  exact ⟨m, hn.sameBut sb ne, fun h3 sb3 => ⟨_, B, In2.turned (t' := s2.toks) (fun b o hb e => (sb3.2 b hb).trans e) f0 f1 f3 f4 f5, q⟩⟩
end
/-- a dict comprehension over a walk -/
theorem dcG_walk {X : Cx} (C : DictKind X) {J : It} {n : Nat} {G : Hp → Prop} {Y : Nat → Hp → V → Hp → Prop} (wk : Walk J n G Y) {g : TG} {tt : TT} {tk tv : TE} {own : List Nat} {σ : L2.St} {A : Hp} {D : Addr} {Q : VK} (Iv : Nat → Hp → Prop)
    (ini : Iv 0 (upd A D (C.o0 D))) (std : ∀ i A, i ≤ n → Iv i A → G A)
    (one : ∀ i x A B, i < n → Iv i A → Y i A x B → g x (wipe σ own) B fun σ2 B2 => wipe σ2 own = wipe σ own ∧ tt σ2 B2 fun b B3 => if b = true then tk σ2 B3 fun y B4 => tv σ2 B4 fun z B5 => ∃ B6, C.Put D y z B5 B6 ∧ Iv (i + 1) B6 else Iv (i + 1) B3)
    (all : ∀ A, Iv n A → Q (.ref D) A) : ∃ W : Nat → Nat → Hp → Prop, (∃ m, W 0 m (upd A D (C.o0 D))) ∧ TurnG C g tt tk tv own σ D J Q W := by
  refine ⟨fun i m B => i + m = n ∧ Iv i B, ⟨n, Nat.zero_add _, ini⟩, fun i m B z => ?_⟩
  have gi := std i B (by have := z.1; omega) z.2
  by_cases l : i < n
  · exact .inr ⟨wk.goes i B l gi, Iv (i + 1), fun B' v => ⟨n - (i + 1), by have := z.1; omega, by omega, v⟩, fun x B' yl => one i x B B' l z.2 (wk.yields i B x B' l gi yl)⟩
  · obtain rfl : i = n := by have := z.1; omega
    exact .inl ⟨wk.stops B gi, all B z.2⟩
theorem x_dcG {X : Cx} {C : DictKind X} {wi : TI} {g : TG} {tt : TT} {tk tv : TE} {vs : List Nat} {σ : L2.St} {H : Hp} {Q : VK} (k : wi σ H fun J H1 => ∀ D, H1 D = none → ∃ W : Nat → Nat → Hp → Prop, (∃ m, W 0 m (upd H1 D (C.o0 D))) ∧ TurnG C g tt tk tv vs σ D J Q W) : tDcG C wi g tt tk tv vs σ H Q := k
/-! ### keys None, ints, texts -/
/-- a dict of at most n entries whose keys are whole numbers, texts, None -/
def LfO (P : Program) (w : World) (D : Addr) (n : Nat) : HO := .ext fun h => (D == sysModules) = false ∧ ∃ vs : List (Leaf × Value), vs.length ≤ n ∧ h.DictOf (leafKind P w) D vs
theorem lf_ok {P : Program} {w : World} {H : Hp} {h : Heap} {D : Addr} {n : Nat} {vs : List (Leaf × Value)} (hd : (D == sysModules) = false) (l : vs.length ≤ n) (dd : h.DictOf (leafKind P w) D vs) : ObjOk P w H h D (LfO P w D n) :=
  ⟨⟨hd, vs, l, dd⟩, let ⟨o, es, ep, e, _⟩ := dd; ⟨o, e⟩, fun _ _ ⟨hd, vs, l, o, es, ep, e, r⟩ k => ⟨hd, vs, l, o, es, ep, k _ e, r⟩⟩
/-- None or a text -/
def KeyL (y : V) : Prop := y = .non ∨ ∃ s, y = .str s
theorem keyL_is {P : Program} {w : World} {y : V} {u : Value} (k : KeyL y) (r : RelV y u) : ∃ x : Leaf, (leafKind P w).is x u = true := by
  rcases k with rfl | ⟨s, rfl⟩
  · cases (show u = Value.none from r)
    exact ⟨.none, rfl⟩
  · obtain ⟨t, rfl⟩ := (show ∃ t, u = Value.str s t from r)
    exact ⟨.text s, by show (s == s) = true; simp⟩
def leafDict (X : Cx) : DictKind X where
  o0 := fun D => LfO X.prog X.w D 0
  Put := fun D y _ A B => KeyL y ∧ ∃ n, A D = some (LfO X.prog X.w D n) ∧ n < sizeLine ∧ B = upd A D (LfO X.prog X.w D (n + 1))
  new := fun {H} h hb => lf_ok (beq_eq_false_iff_ne.mpr (Ne.symm (Nat.ne_of_lt hb))) (Nat.le_refl _) (Heap.DictOf.new h)
  set := fun {Y pn σ H H' s E D y z u r Q} eP eW I put ry rz k => by
    obtain ⟨ky, n, hD, hz, rfl⟩ := put
    rw [← eP, ← eW] at hD k
    obtain ⟨⟨hd, vs, l, dd⟩, _, _⟩ := (show ObjOk Y.prog Y.w H s.heap D (LfO Y.prog Y.w D n) from I.hok D _ hD)
    obtain ⟨x, hx⟩ := keyL_is (P := Y.prog) (w := Y.w) ky ry
    refine wpAny_dictSet_pairs (hsz := by omega) hx dd fun h' dd' hs => k _ ?_
    have he : ∃ q, h'.get? D = some q := let ⟨q, _, _, hq, _⟩ := dd'; ⟨q, hq⟩
    exact d_write I (by rw [hD]; exact True.intro) hs he (lf_ok hd (by have := stored_length_le vs x r; omega) dd')
end L2

set_option Elab.async false
set_option linter.all false
set_option maxRecDepth 100000
set_option maxHeartbeats 4000000
/-! dicts whose keys are any nested keys (None, ints, bools, texts, tuples of such), mixed in one dict -/
namespace PySem
open Sem (wp)
open SeqAt
namespace NK
/-- an entry: the key, the value that stands for it, what it leads to -/
abbrev En := NestedKey × Value × Value
def ent (w : World) (x : En) : DictEntry := ⟨x.1.hash w, x.2.1, x.2.2⟩
def KeyOk (h : Heap) (k : NestedKey) (v : Value) : Prop := NestedIs h k v ∧ k.depth ≤ 8
structure Ents (w : World) (h : Heap) (es : Array DictEntry) (xs : List En) : Prop where
  lay : es.toList = xs.map (ent w)
  key : ∀ x ∈ xs, KeyOk h x.1 x.2.1
  nd : (xs.map (·.1)).Nodup
/-- the i-th key is k -/
def AtK (xs : List En) (k : NestedKey) (i : Nat) : Prop := ∃ p, xs[i]? = some (k, p)
section
variable {prog : Program} {w : World} {A : Around} {E : Value → Shared → Prop} {s : Shared} {es : Array DictEntry} {xs : List En}
theorem Ents.at_ {h : Heap} (e : Ents w h es xs) (i : Nat) : es[i]? = (xs[i]?).map (ent w) := by rw [← Array.getElem?_toList, e.lay, List.getElem?_map]
theorem Ents.size {h : Heap} (e : Ents w h es xs) : es.size = xs.length := by rw [← Array.length_toList, e.lay, List.length_map]
theorem Ents.uniq {h : Heap} (e : Ents w h es xs) {k : NestedKey} {i j : Nat} (a : AtK xs k i) (b : AtK xs k j) : i = j := by
  obtain ⟨p, ha⟩ := a
  obtain ⟨q, hb⟩ := b
  have ha' : (xs.map (·.1))[i]? = some k := by rw [List.getElem?_map, ha]; rfl
  have hb' : (xs.map (·.1))[j]? = some k := by rw [List.getElem?_map, hb]; rfl
  exact (List.getElem?_inj (List.getElem?_eq_some_iff.mp ha').1 e.nd).mp (ha'.trans hb'.symm)
theorem Ents.place {h : Heap} (e : Ents w h es xs) {k : NestedKey} {i : Nat} (a : AtK xs k i) : i ∈ placesWithHash es.size (fun i => es[i]?.map (·.hash)) (k.hash w) := by
  obtain ⟨p, ha⟩ := a
  unfold placesWithHash
  refine List.mem_filter.mpr ⟨List.mem_range.mpr ?_, ?_⟩
  · rw [e.size]
    exact (List.getElem?_eq_some_iff.mp ha).1
  · show ((es[i]?).map (·.hash) == some (k.hash w)) = true
    rw [e.at_ i, ha]
    simp [ent]
theorem places_nodup {n : Nat} {f : Nat → Option Int} {h : Int} : (placesWithHash n f h).Nodup := List.nodup_range.sublist List.filter_sublist
/-- one question: is the key at x the key -/
theorem Ents.ask {d : Addr} {o : Obj} {ep : Nat} {k : NestedKey} {v : Value} (e : Ents w s.heap es xs) (hu : A.units + 8 < cLine) (hk : KeyOk s.heap k v) (ho : s.heap.get? d = some o) (hd : o.data = .dict es ep) {x : Nat} {y : En} (hy : xs[x]? = some y) {kp : Option Value} {Q : Bool → Shared → Prop} (q : Q (decide (y.1 = k)) s) :
    wpAny (model prog w) A (eqBool (ent w y).key v) Q E s :=
  eqAt_key y.1 k A s _ _ (e.key y (List.mem_of_getElem? hy)).1 hk.1 (by have := hk.2; have : min y.1.depth k.depth ≤ k.depth := Nat.min_le_right ..; omega) _ _ _ _ (by rw [← NestedKey.decide_eq]; exact q)
/-- what is kept of a walk: the places still to come hold the key, if any does -/
theorem walk_plain {d : Addr} {o : Obj} {ep : Nat} {k : NestedKey} {v : Value} {Q : Option Nat → Shared → Prop} (e : Ents w s.heap es xs) (hu : A.units + 8 < cLine) (hk : KeyOk s.heap k v) (ho : s.heap.get? d = some o) (hd : o.data = .dict es ep)
    (no : (∀ i, ¬ AtK xs k i) → Q none s) (yes : ∀ i, AtK xs k i → Q (some i) s) {pl : List Nat} (hp : ∀ i, AtK xs k i → i ∈ pl) : wpAny (model prog w) A (dictWalkPlain d v (k.hash w) es pl) Q E s := by
  unfold dictWalkPlain
  refine wpAny_bind ?_
  refine wpAny_forIn_list _ (fun rest b s' => s' = s ∧ b = (none, ()) ∧ ∀ i, AtK xs k i → i ∈ rest) _ ?_ ?_ _ _ ⟨rfl, rfl, hp⟩
  · rintro x rest b s' ⟨rfl, rfl, hr⟩
    have go : ¬ AtK xs k x → ∀ i, AtK xs k i → i ∈ rest := fun n i a => (List.mem_cons.mp (hr i a)).elim (fun z => absurd (z ▸ a) n) id
    cases hx : xs[x]? with
    | none =>
      rw [e.at_ x, hx]
      exact wpAny_pure ⟨rfl, rfl, go fun ⟨p, z⟩ => by rw [hx] at z; cases z⟩
    | some y =>
      rw [e.at_ x, hx]
      show wpAny _ _ (if ((ent w y).hash == k.hash w) = true then _ else _) _ E _
      by_cases hh : ((ent w y).hash == k.hash w) = true
      · rw [if_pos hh]
        refine wpAny_bind (wpAny_dictEpoch ho hd (wpAny_bind (e.ask hu hk ho hd hx (kp := none) (wpAny_bind (wpAny_dictEpoch ho hd ?_)))))
        show wpAny _ _ (if (ep != ep) = true then _ else _) _ E _
        rw [if_neg (by simp)]
        by_cases c : y.1 = k
        · rw [decide_eq_true c]
          exact wpAny_bind (wpAny_rule (wpAny_pure (wpAny_pure (yes x ⟨y.2, by rw [hx, ← c]⟩))))
        · rw [decide_eq_false c]
          exact wpAny_bind (wpAny_rule (wpAny_pure ⟨rfl, rfl, go fun ⟨p, z⟩ => c (by rw [hx] at z; cases z; rfl)⟩))
      · rw [if_neg hh]
        refine wpAny_pure ⟨rfl, rfl, go fun ⟨p, z⟩ => hh ?_⟩
        rw [hx] at z
        cases z
        simp [ent]
  · rintro b s' ⟨rfl, rfl, hr⟩
    exact wpAny_pure (no fun i a => List.not_mem_nil (hr i a))
theorem tell_quiet {k : NestedKey} {v : Value} {st : List Value} {Q : Bool → Shared → Prop} (hk : KeyOk s.heap k v) (hst : ∀ u ∈ st, ∃ k', KeyOk s.heap k' u) (h : Q false s) : wpAny (model prog w) A (tableMayTell v st) Q E s := by
  unfold tableMayTell
  split
  · exact wpAny_pure h
  · refine wpAny_bind (quiet_key k v 8 s hk.1 hk.2 A E _ ?_)
    simp only [Bool.not_true, Bool.false_eq_true, if_false]
    refine wpAny_bind (wpAny_forIn_list _ (fun rest r s' => s' = s ∧ r = (none, ()) ∧ ∀ u ∈ rest, ∃ k', KeyOk s.heap k' u) _ ?_ ?_ _ _ ⟨rfl, rfl, hst⟩)
    · rintro x rest r s' ⟨rfl, rfl, hr⟩
      obtain ⟨k', hb⟩ := hr x List.mem_cons_self
      refine wpAny_bind (quiet_key k' x 8 s' hb.1 hb.2 A E _ ?_)
      simp only [Bool.not_true, Bool.false_eq_true, if_false]
      exact wpAny_pure ⟨rfl, rfl, fun v hv => hr v (List.mem_cons_of_mem _ hv)⟩
    · rintro r s' ⟨rfl, rfl, _⟩
      exact wpAny_pure h
theorem shape {h : Heap} {k : NestedKey} {v : Value} (hk : KeyOk h k v) : v = .none ∨ (∃ b, v = .bool b) ∨ (∃ i t, v = .int i t) ∨ (∃ x t, v = .str x t) ∨ ∃ a, v = .ref a := by
  cases hk.1 with
  | none => exact .inl rfl
  | bool _ => exact .inr (.inl ⟨_, rfl⟩)
  | int i t => exact .inr (.inr (.inl ⟨_, _, rfl⟩))
  | text x t => exact .inr (.inr (.inr (.inl ⟨_, _, rfl⟩)))
  | tup _ _ _ _ => exact .inr (.inr (.inr (.inr ⟨_, rfl⟩)))
theorem isStr_iff {h : Heap} {k : NestedKey} {u : Value} {x : Str} (hk : KeyOk h k u) : u.isStr x = true ↔ k = .text x := by
  constructor
  · intro z
    rcases shape hk with rfl | ⟨b, rfl⟩ | ⟨i, t, rfl⟩ | ⟨y, t, rfl⟩ | ⟨a, rfl⟩
    all_goals first
      | cases z
      | (have : y = x := by simpa [Value.isStr] using z
         rw [this] at hk
         cases hk.1
         rfl)
  · rintro rfl
    cases hk.1
    simp [Value.isStr]
theorem find {d : Addr} {o : Obj} {ep : Nat} {k : NestedKey} {v : Value} {Q : Option Nat → Shared → Prop} (e : Ents w s.heap es xs) (hu : A.units + 8 < cLine) (hk : KeyOk s.heap k v) (ho : s.heap.get? d = some o) (hd : o.data = .dict es ep)
    (no : (∀ i, ¬ AtK xs k i) → Q none s) (yes : ∀ i, AtK xs k i → Q (some i) s) : wpAny (model prog w) A (dictFind d v (k.hash w)) Q E s := by
  have hst : ∀ u ∈ (placesWithHash es.size (fun i => es[i]?.map (·.hash)) (k.hash w)).filterMap (fun i => es[i]?.map (·.key)), ∃ k', KeyOk s.heap k' u := fun u hu' => by
    obtain ⟨i, _, hi⟩ := List.mem_filterMap.mp hu'
    rw [e.at_ i] at hi
    cases hx : xs[i]? with
    | none => rw [hx] at hi; cases hi
    | some y =>
      rw [hx] at hi
      cases hi
      exact ⟨y.1, e.key y (List.mem_of_getElem? hx)⟩
  have hany : ¬ (es.any fun e => e.key == v && e.hash != k.hash w) = true := by
    rw [← Array.any_toList, e.lay, List.any_eq_true]
    rintro ⟨z, hz, hc⟩
    obtain ⟨y, hy, rfl⟩ := List.mem_map.mp hz
    simp only [ent, Bool.and_eq_true, beq_iff_eq, bne_iff_ne, ne_eq] at hc
    have h1 := (e.key y hy).1
    rw [hc.1] at h1
    exact hc.2 (by rw [NestedIs.inj _ _ _ h1 hk.1])
  have tl : ∀ Q' : Bool → Shared → Prop, Q' false s → wpAny (model prog w) A (tableMayTell v ((placesWithHash es.size (fun i => es[i]?.map (·.hash)) (k.hash w)).filterMap (fun i => es[i]?.map (·.key)))) Q' E s := fun Q' q => tell_quiet hk hst q
  unfold dictFind
  try with_reducible refine wpAny_holding ?_
  refine wpAny_bind (wpAny_dictEntries ho hd ?_)
  dsimp only
  by_cases hs : (∃ x t, v = .str x t) ∧ (es.all fun e => isExactStrKey e.key) = true
  · obtain ⟨⟨x, t, rfl⟩, hstr⟩ := hs
    obtain rfl : k = .text x := by
      cases hk.1
      rfl
    dsimp only
    rw [if_pos hstr]
    unfold foundByValue
    cases hf : es.findIdx? (fun e => e.key.isStr x) with
    | none =>
      refine wpAny_pure (no fun i ⟨p, z⟩ => ?_)
      have h1 := Array.findIdx?_eq_none_iff.mp hf (ent w (.text x, p)) (by
        have : es[i]? = some (ent w (.text x, p)) := by rw [e.at_ i, z]; rfl
        exact Array.mem_of_getElem? this)
      have h2 : (ent w (.text x, p)).key.isStr x = true := (isStr_iff (e.key _ (List.mem_of_getElem? z))).mpr rfl
      rw [h2] at h1
      cases h1
    | some i =>
      obtain ⟨hlt, hi, _⟩ := Array.findIdx?_eq_some_iff_getElem.mp hf
      obtain ⟨y, hy⟩ : ∃ y, xs[i]? = some y := ⟨xs[i]'(by rw [← e.size]; exact hlt), List.getElem?_eq_getElem _⟩
      have ei : es[i]? = some (ent w y) := by rw [e.at_ i, hy]; rfl
      have ei2 : es[i] = ent w y := by
        rw [Array.getElem?_eq_getElem hlt] at ei
        exact Option.some.inj ei
      rw [ei2] at hi
      have c : y.1 = .text x := (isStr_iff (e.key _ (List.mem_of_getElem? hy))).mp hi
      simp only [ei]
      refine wpAny_bind (wpAny_dictEpoch ho hd (wpAny_bind (e.ask hu hk ho hd hy (kp := none) (wpAny_bind (wpAny_dictEpoch ho hd ?_)))))
      show wpAny _ _ (if (ep != ep) = true then _ else _) _ E _
      rw [if_neg (by simp), decide_eq_true c]
      exact wpAny_bind (wpAny_rule (wpAny_pure (yes i ⟨y.2, by rw [hy, ← c]⟩)))
  · by_cases hall : ((v :: (placesWithHash es.size (fun i => es[i]?.map (·.hash)) (k.hash w)).filterMap fun i => es[i]?.map (·.key)).all carriedByValue) = true
    · rcases shape hk with rfl | ⟨b, rfl⟩ | ⟨i, t, rfl⟩ | ⟨y, t, rfl⟩ | ⟨a, rfl⟩
      case' inr.inr.inr.inl => refine (?_ : wpAny _ _ (if (es.all fun e => isExactStrKey e.key) = true then _ else _) _ _ _)
      case' inr.inr.inr.inl => rw [if_neg (fun z => hs ⟨⟨_, _, rfl⟩, z⟩)]
      all_goals
        rw [if_pos hall]
        exact walk_plain e hu hk ho hd no yes fun i a => e.place a
    · by_cases hone : (((placesWithHash es.size (fun i => es[i]?.map (·.hash)) (k.hash w)).filterMap fun i => es[i]?.map (·.key)) == [v]) = true
      all_goals
        rcases shape hk with rfl | ⟨b, rfl⟩ | ⟨i, t, rfl⟩ | ⟨y, t, rfl⟩ | ⟨a, rfl⟩
        case' inr.inr.inr.inl => refine (?_ : wpAny _ _ (if (es.all fun e => isExactStrKey e.key) = true then _ else _) _ _ _)
        case' inr.inr.inr.inl => rw [if_neg (fun z => hs ⟨⟨_, _, rfl⟩, z⟩)]
        all_goals rw [if_neg hall]
        case' inr.inr.inr.inr => refine (?_ : wpAny _ _ (if (es.any fun e => e.key == Value.ref a && e.hash != k.hash w) = true then _ else _) _ _ _)
        case' inr.inr.inr.inr => rw [if_neg hany]
        all_goals
          first | rw [if_pos hone] | rw [if_neg hone]
          first | refine wpAny_bind (wpAny_pure ?_) | refine wpAny_bind (tl _ ?_)
          rw [if_neg (by simp)]
          refine wpAny_bind (wpAny_forIn_list _ (fun rest b s' => s' = s ∧ rest.Nodup ∧ b.1 = none ∧ ((b.2 = none ∧ ∀ i, AtK xs k i → i ∈ rest) ∨ ∃ j, b.2 = some j ∧ AtK xs k j ∧ ∀ i ∈ rest, ¬ AtK xs k i)) _ ?_ ?_ _ _ ⟨rfl, places_nodup, rfl, .inl ⟨rfl, fun i a => e.place a⟩⟩)
          · rintro x rest ⟨b1, hit⟩ s' ⟨rfl, nd, e1, hr⟩
            obtain rfl : b1 = none := e1
            obtain ⟨nx, nr⟩ := List.nodup_cons.mp nd
            have go : ¬ AtK xs k x → (hit = none ∧ ∀ i, AtK xs k i → i ∈ rest) ∨ ∃ j, hit = some j ∧ AtK xs k j ∧ ∀ i ∈ rest, ¬ AtK xs k i := fun n => hr.elim
              (fun z => .inl ⟨z.1, fun i a => (List.mem_cons.mp (z.2 i a)).elim (fun q => absurd (q ▸ a) n) id⟩) fun ⟨j, h1, h2, h3⟩ => .inr ⟨j, h1, h2, fun i hi => h3 i (List.mem_cons_of_mem _ hi)⟩
            cases hx : xs[x]? with
            | none =>
              rw [e.at_ x, hx]
              exact wpAny_pure ⟨rfl, nr, rfl, go fun ⟨p, z⟩ => by rw [hx] at z; cases z⟩
            | some y =>
              rw [e.at_ x, hx]
              refine (?_ : wpAny _ _ (if ((ent w y).hash == k.hash w) = true then _ else _) _ E _)
              by_cases hh : ((ent w y).hash == k.hash w) = true
              · rw [if_pos hh]
                refine wpAny_bind (wpAny_dictEpoch ho hd (wpAny_bind (e.ask hu hk ho hd hx (kp := none) (wpAny_bind (wpAny_dictEpoch ho hd ?_)))))
                refine (?_ : wpAny _ _ (if (ep != ep) = true then _ else _) _ E _)
                rw [if_neg (by simp)]
                by_cases c : y.1 = k
                · rw [decide_eq_true c]
                  have ax : AtK xs k x := ⟨y.2, by rw [hx, ← c]⟩
                  obtain ⟨rfl, hr⟩ : hit = none ∧ ∀ i, AtK xs k i → i ∈ x :: rest := hr.elim id fun ⟨j, _, _, h3⟩ => absurd ax (h3 x List.mem_cons_self)
                  rw [if_pos rfl]
                  refine (?_ : wpAny _ _ (if (Option.isSome (none : Option Nat)) = true then _ else _) _ E _)
                  rw [if_neg (by simp)]
                  refine wpAny_bind (wpAny_rule ?_)
                  split
                  · exact wpAny_pure (wpAny_pure (yes x ax))
                  · exact wpAny_pure ⟨rfl, nr, rfl, .inr ⟨x, rfl, ax, fun i hi a => nx (e.uniq a ax ▸ hi)⟩⟩
                · rw [decide_eq_false c]
                  rw [if_neg Bool.false_ne_true]
                  refine wpAny_bind (wpAny_rule ?_)
                  have n : ¬ AtK xs k x := fun ⟨p, z⟩ => c (by rw [hx] at z; cases z; rfl)
                  rw [if_neg (by simp)]
                  exact wpAny_pure ⟨rfl, nr, rfl, go n⟩
              · rw [if_neg hh]
                refine wpAny_pure ⟨rfl, nr, rfl, go fun ⟨p, z⟩ => hh ?_⟩
                rw [hx] at z
                cases z
                simp [ent]
          · rintro ⟨b1, hit⟩ s' ⟨rfl, _, e1, hr⟩
            obtain rfl : b1 = none := e1
            rcases hr with ⟨rfl, hr⟩ | ⟨j, rfl, aj, _⟩
            · exact wpAny_pure (no fun i a => List.not_mem_nil (hr i a))
            · exact wpAny_pure (yes j aj)
/-- at d stands a dict with these entries -/
def Dict (w : World) (h : Heap) (d : Addr) (xs : List En) : Prop := ∃ o es ep, h.get? d = some o ∧ o.ExactDict ∧ o.data = .dict es ep ∧ Ents w h es xs
def valN {α : Type} (xs : List (NestedKey × α)) (k : NestedKey) : Option α := (xs.find? fun x => decide (x.1 = k)).map (·.2)
def putN {α β : Type} (xs : List (NestedKey × α × β)) (k : NestedKey) (u : α) (v : β) : List (NestedKey × α × β) :=
  if (valN xs k).isSome then xs.map fun x => if x.1 = k then (x.1, x.2.1, v) else x else xs ++ [(k, u, v)]
theorem valN_at {α : Type} {xs : List (NestedKey × α)} (nd : (xs.map (·.1)).Nodup) {k : NestedKey} {p : α} (h : (k, p) ∈ xs) : valN xs k = some p := by
  induction xs with
  | nil => cases h
  | cons x r ih =>
    have nd : (x.1 :: r.map (·.1)).Nodup := nd
    obtain ⟨n1, n2⟩ := List.nodup_cons.mp nd
    unfold valN
    rw [List.find?_cons]
    by_cases c : x.1 = k
    · rw [decide_eq_true c]
      rcases List.mem_cons.mp h with h | h
      · rw [← h]
        rfl
      · exact absurd (List.mem_map.mpr ⟨_, h, rfl⟩) (by rw [c] at n1; exact n1)
    · rw [decide_eq_false c]
      rcases List.mem_cons.mp h with h | h
      · rw [← h] at c
        exact absurd rfl c
      · exact ih n2 h
theorem valN_none {α : Type} {xs : List (NestedKey × α)} {k : NestedKey} (h : k ∉ xs.map (·.1)) : valN xs k = none := by
  unfold valN
  rw [Option.map_eq_none_iff, List.find?_eq_none]
  intro x hx c
  exact h (List.mem_map.mpr ⟨x, hx, of_decide_eq_true c⟩)
theorem valN_some {α : Type} {xs : List (NestedKey × α)} {k : NestedKey} : (valN xs k).isSome = decide (k ∈ xs.map (·.1)) := by
  by_cases h : k ∈ xs.map (·.1)
  · rw [decide_eq_true h]
    unfold valN
    rw [Option.isSome_map, List.find?_isSome]
    obtain ⟨x, hx, e⟩ := List.mem_map.mp h
    exact ⟨x, hx, decide_eq_true e⟩
  · rw [decide_eq_false h, valN_none h]
    rfl
theorem AtK.val {h : Heap} (e : Ents w h es xs) {k : NestedKey} {i : Nat} (a : AtK xs k i) : ∃ p, xs[i]? = some (k, p) ∧ valN xs k = some p := by
  obtain ⟨p, hp⟩ := a
  exact ⟨p, hp, valN_at e.nd (List.mem_of_getElem? hp)⟩
theorem noAt {k : NestedKey} (h : ∀ i, ¬ AtK xs k i) : k ∉ xs.map (·.1) := fun m => by
  obtain ⟨x, hx, rfl⟩ := List.mem_map.mp m
  obtain ⟨j, hj⟩ := List.mem_iff_getElem?.mp hx
  exact h j ⟨x.2, hj⟩
theorem KeyOk.keeps {h h' : Heap} {k : NestedKey} {v : Value} {d : Addr} {o : Obj} {ep : Nat} (x : KeyOk h k v) (ho : h.get? d = some o) (hd : o.data = .dict es ep) (hs : Heap.SameBut d h h') : KeyOk h' k v :=
  ⟨NestedIs.at (fun b ob vs n hb hc => by
    refine (hs.2 b fun z => ?_).trans hb
    subst z
    rw [ho] at hb
    cases hb
    rw [hd] at hc
    cases hc) k _ x.1, x.2⟩
theorem get {d : Addr} {k : NestedKey} {v : Value} {Q : Option Value → Shared → Prop} (hu : A.units + 8 < cLine) (hk : KeyOk s.heap k v) (hm : Dict w s.heap d xs) (h : Q ((valN xs k).map (·.2)) { s with toks := s.toks + k.draws }) :
    wpAny (model prog w) A (dictGet d v) Q E s := by
  obtain ⟨o, es, ep, ho, _, hd, e⟩ := hm
  unfold dictGet
  try with_reducible refine wpAny_holding ?_
  refine wpAny_bind (pyHash_key k v A s _ hk.1 (by have := hk.2; omega) (wpAny_bind (find (s := { s with toks := s.toks + k.draws }) e hu hk ho hd (fun no => ?_) fun i a => ?_)))
  · rw [valN_none (noAt no)] at h
    exact wpAny_pure h
  · obtain ⟨p, hp, hv⟩ := a.val e
    rw [hv] at h
    refine wpAny_bind (wpAny_dictEntries (s := { s with toks := s.toks + k.draws }) ho hd ?_)
    rw [e.at_ i, hp]
    exact wpAny_pure h
theorem put_map {k : NestedKey} {v : Value} : ∀ {xs : List En} {i : Nat} {p : Value × Value}, (xs.map (·.1)).Nodup → xs[i]? = some (k, p) → (xs.map (ent w)).modify i (fun z => { z with val := v }) = (xs.map fun x => if x.1 = k then (x.1, x.2.1, v) else x).map (ent w)
  | [], i, p, _, h => by simp at h
  | x :: r, 0, p, nd, h => by
    simp only [List.getElem?_cons_zero, Option.some.injEq] at h
    subst h
    have nd : (k :: r.map (·.1)).Nodup := nd
    obtain ⟨n1, _⟩ := List.nodup_cons.mp nd
    have er : (r.map fun x : En => if x.1 = k then (x.1, x.2.1, v) else x) = r := (List.map_congr_left fun q hq => if_neg fun z => n1 (List.mem_map.mpr ⟨q, hq, z⟩)).trans (List.map_id r)
    rw [List.map_cons, List.map_cons, er, if_pos rfl, List.map_cons]
    rfl
  | x :: r, i + 1, p, nd, h => by
    simp only [List.getElem?_cons_succ] at h
    have nd : (x.1 :: r.map (·.1)).Nodup := nd
    obtain ⟨n1, n2⟩ := List.nodup_cons.mp nd
    have ne : ¬ x.1 = k := fun z => n1 (by rw [z]; exact List.mem_map.mpr ⟨(k, p), List.mem_of_getElem? h, rfl⟩)
    rw [List.map_cons, List.map_cons, if_neg ne, List.map_cons]
    show ent w x :: (r.map (ent w)).modify i _ = ent w x :: _
    rw [put_map n2 h]
theorem set {d : Addr} {k : NestedKey} {u v : Value} {Q : Unit → Shared → Prop} (hu : A.units + 8 < cLine) (hk : KeyOk s.heap k u) (hm : Dict w s.heap d xs) (hz : xs.length ≤ sizeLine)
    (h : ∀ h', Dict w h' d (putN xs k u v) → Heap.SameBut d s.heap h' → Q () { s with heap := h', toks := s.toks + k.draws }) : wpAny (model prog w) A (dictSet d u v) Q E s := by
  obtain ⟨o, es, ep, ho, hc, hd, e⟩ := hm
  unfold dictSet
  try with_reducible refine wpAny_holding ?_
  refine wpAny_bind (pyHash_key k u A s _ hk.1 (by have := hk.2; omega) ?_)
  unfold dictSetHashed
  try with_reducible refine wpAny_holding ?_
  refine wpAny_bind (find (s := { s with toks := s.toks + k.draws }) e hu hk ho hd (fun no => ?_) fun i a => ?_)
  · have nk := noAt no
    have ep : putN xs k u v = xs ++ [(k, u, v)] := by
      unfold putN
      rw [valN_none nk]
      rfl
    rw [ep] at h
    refine wpAny_bind (wpAny_rule (wpAny_updateDictKeys (hz := by rw [e.size]; exact hz) (s := { s with toks := s.toks + k.draws }) ho hd (h _ ⟨_, _, _, Heap.get?_update_self _ ho (Obj.isFreed_of_dict (Obj.data_mapDictKeys hd _)), hc.mapDictKeys _, Obj.data_mapDictKeys hd _, ⟨?_, fun x hx => ?_, ?_⟩⟩ (Heap.SameBut.update ..))))
    · rw [Array.toList_push, e.lay, List.map_append]
      rfl
    · rcases List.mem_append.mp hx with hx | hx
      · exact (e.key x hx).keeps ho hd (Heap.SameBut.update ..)
      · cases List.mem_singleton.mp hx
        exact hk.keeps ho hd (Heap.SameBut.update ..)
    · rw [List.map_append, List.nodup_append]
      refine ⟨e.nd, List.nodup_cons.mpr ⟨List.not_mem_nil, List.nodup_nil⟩, fun x hx y hy z => ?_⟩
      cases List.mem_singleton.mp hy
      have z : x = k := z
      rw [z] at hx
      exact nk hx
  · obtain ⟨p, hp, hv⟩ := a.val e
    have ep : putN xs k u v = xs.map fun x => if x.1 = k then (x.1, x.2.1, v) else x := by
      unfold putN
      rw [hv]
      rfl
    rw [ep] at h
    have keys : (xs.map fun x : En => if x.1 = k then (x.1, x.2.1, v) else x).map (·.1) = xs.map (·.1) := by
      rw [List.map_map]
      refine List.map_congr_left fun x _ => ?_
      show (if x.1 = k then (x.1, x.2.1, v) else x).1 = x.1
      split <;> rfl
    refine wpAny_bind (wpAny_rule (wpAny_bind (wpAny_updateDict (s := { s with toks := s.toks + k.draws }) ho hd (wpAny_point (h _ ⟨_, _, _, Heap.get?_update_self _ ho (Obj.isFreed_of_dict (Obj.data_mapDict hd _)), hc.mapDict _, Obj.data_mapDict hd _, ⟨?_, fun x hx => ?_, ?_⟩⟩ (Heap.SameBut.update ..))))))
    · have := put_map (w := w) (v := v) e.nd hp
      rw [← e.lay] at this
      obtain ⟨l⟩ := es
      simpa using this
    · obtain ⟨y, hy, rfl⟩ := List.mem_map.mp hx
      split <;> exact (e.key y hy).keeps ho hd (Heap.SameBut.update ..)
    · rw [keys]
      exact e.nd
theorem Dict.typeIs {d : Addr} (hm : Dict w s.heap d xs) : s.TypeIs (.ref d) "dict" := let ⟨o, _, _, ho, hc, _⟩ := hm; ⟨o, ho, hc.1⟩
/-- d[k], there -/
theorem getItem {d : Addr} {k : NestedKey} {u : Value} {p : Value × Value} {Q : Value → Shared → Prop} (hu : A.in1.units + 8 < cLine) (hk : KeyOk s.heap k u) (hm : Dict w s.heap d xs) (hp : valN xs k = some p) (h : Q p.2 { s with toks := s.toks + k.draws }) :
    wpAny (model prog w) A (PySem.getItem (.ref d) u) Q E s := by
  unfold PySem.getItem
  try with_reducible refine wpAny_holding ?_
  refine wpAny_bind (wpAny_sequenceKey hm.typeIs (by decide) ?_)
  refine wpAny_bind (wpAny_callSpecial?_slot (name := Str.ofString "__getitem__") hm.typeIs slot_dict_getitem
    (wpAny_call_entry slot_dict_getitem hm.typeIs entry_dict_getitem ?_ (args_dict_getitem _ _)))
  show wpAny _ _ (dictGet d u >>= _) _ _ s
  refine wpAny_bind (get hu hk hm ?_)
  rw [hp]
  exact wpAny_pure ⟨p.2, rfl, wpAny_pure h⟩
/-- k in d -/
theorem isIn {d : Addr} {k : NestedKey} {u : Value} {Q : Value → Shared → Prop} (hu : A.in1.units + 8 < cLine) (hd : (d == sysModules) = false) (hk : KeyOk s.heap k u) (hm : Dict w s.heap d xs) (h : Q (.bool (valN xs k).isSome) { s with toks := s.toks + k.draws }) :
    wpAny (model prog w) A (compareOp .In u (.ref d)) Q E s := by
  show wpAny _ _ (do return .bool (← contains (.ref d) u)) Q E s
  refine wpAny_bind ?_
  unfold contains
  try with_reducible refine wpAny_holding ?_
  refine wpAny_bind (wpAny_specialOf hm.typeIs slot_dict_contains.lookup ?_)
  show wpAny _ _ (if (some (Value.builtin "dict.__contains__") == some Value.none) = true then _ else _) _ E s
  rw [if_neg (by rw [beq_builtin_none]; exact Bool.false_ne_true)]
  refine wpAny_bind (wpAny_callSpecialUnlessNone?_slot (name := Str.ofString "__contains__") hm.typeIs slot_dict_contains
    (wpAny_call_entry slot_dict_contains hm.typeIs entry_dict_contains ?_ (args_dict_contains _ _)))
  show wpAny _ _ (dictGet d u >>= _) _ _ s
  refine wpAny_bind (get hu hk hm ?_)
  cases hf : valN xs k with
  | some p =>
    rw [hf] at h
    show wpAny _ _ (ret (.bool true)) _ _ _
    exact wpAny_pure ⟨_, rfl, wpAny_truthy_bool (wpAny_pure h)⟩
  | none =>
    rw [hf] at h
    show wpAny _ _ (Builtin.Dict.pendingKey? d u >>= _) _ _ _
    exact wpAny_bind (wpAny_pendingKey_other hd (wpAny_pure ⟨_, rfl, wpAny_truthy_bool (wpAny_pure h)⟩))
/-- k not in d -/
theorem notIn {d : Addr} {k : NestedKey} {u : Value} {Q : Value → Shared → Prop} (hu : A.in1.units + 8 < cLine) (hd : (d == sysModules) = false) (hk : KeyOk s.heap k u) (hm : Dict w s.heap d xs) (h : Q (.bool (!(valN xs k).isSome)) { s with toks := s.toks + k.draws }) :
    wpAny (model prog w) A (compareOp .NotIn u (.ref d)) Q E s := by
  show wpAny _ _ (do return .bool (!(← contains (.ref d) u))) Q E s
  refine wpAny_bind ?_
  unfold contains
  try with_reducible refine wpAny_holding ?_
  refine wpAny_bind (wpAny_specialOf hm.typeIs slot_dict_contains.lookup ?_)
  show wpAny _ _ (if (some (Value.builtin "dict.__contains__") == some Value.none) = true then _ else _) _ E s
  rw [if_neg (by rw [beq_builtin_none]; exact Bool.false_ne_true)]
  refine wpAny_bind (wpAny_callSpecialUnlessNone?_slot (name := Str.ofString "__contains__") hm.typeIs slot_dict_contains
    (wpAny_call_entry slot_dict_contains hm.typeIs entry_dict_contains ?_ (args_dict_contains _ _)))
  show wpAny _ _ (dictGet d u >>= _) _ _ s
  refine wpAny_bind (get hu hk hm ?_)
  cases hf : valN xs k with
  | some p =>
    rw [hf] at h
    show wpAny _ _ (ret (.bool true)) _ _ _
    exact wpAny_pure ⟨_, rfl, wpAny_truthy_bool (wpAny_pure h)⟩
  | none =>
    rw [hf] at h
    show wpAny _ _ (Builtin.Dict.pendingKey? d u >>= _) _ _ _
    exact wpAny_bind (wpAny_pendingKey_other hd (wpAny_pure ⟨_, rfl, wpAny_truthy_bool (wpAny_pure h)⟩))
/-- d[k] = v -/
theorem setItem {d : Addr} {k : NestedKey} {u v : Value} {Q : Unit → Shared → Prop} (hu : A.in1.units + 8 < cLine) (hk : KeyOk s.heap k u) (hm : Dict w s.heap d xs) (hz : xs.length ≤ sizeLine)
    (h : ∀ h', Dict w h' d (putN xs k u v) → Heap.SameBut d s.heap h' → Q () { s with heap := h', toks := s.toks + k.draws }) : wpAny (model prog w) A (PySem.setItem (.ref d) u v) Q E s := by
  unfold PySem.setItem
  try with_reducible refine wpAny_holding ?_
  refine wpAny_bind (wpAny_sequenceKey hm.typeIs (by decide) ?_)
  refine wpAny_bind (wpAny_callSpecial?_slot (name := Str.ofString "__setitem__") hm.typeIs slot_dict_setitem
    (wpAny_call_entry slot_dict_setitem hm.typeIs entry_dict_setitem ?_ (args_dict_setitem _ _ _)))
  show wpAny _ _ (Builtin.Dict.notOrdered "__setitem__" ⟨[.ref d, u, v], []⟩ >>= _) _ _ s
  refine wpAny_bind (wpAny_notOrdered_dict hm.typeIs ?_)
  show wpAny _ _ (dictSet d u v >>= _) _ _ s
  exact wpAny_bind (set hu hk hm hz fun h' hm' hs' => wpAny_pure ⟨.none, rfl, wpAny_pure (h h' hm' hs')⟩)
end
end NK
end PySem

set_option Elab.async false
set_option linter.all false
set_option maxRecDepth 100000
set_option maxHeartbeats 4000000
/-! dicts whose keys are any nested keys, over the abstract heap -/
namespace L2
open PySem PySem.Spec PyProof.Rows
mutual
/-- the value v is the key k -/
inductive HN (H : Hp) : NestedKey → V → Prop
  | non : HN H .none .non
  | bl (b : Bool) : HN H (.num (if b = true then 1 else 0)) (.bl b)
  | int (i : Int) : HN H (.num i) (.int i)
  | str (x : Str) : HN H (.text x) (.str x)
  | tup {a : Addr} {vs : List V} {ks : List NestedKey} : H a = some (.tup vs) → HNs H ks vs → HN H (.tup ks) (.ref a)
inductive HNs (H : Hp) : List NestedKey → List V → Prop
  | nil : HNs H [] []
  | cons {k : NestedKey} {v : V} {ks : List NestedKey} {vs : List V} : HN H k v → HNs H ks vs → HNs H (k :: ks) (v :: vs)
end
mutual
theorem HN.mono {A B : Hp} (e : ∀ t xs, A t = some (.tup xs) → B t = some (.tup xs)) : ∀ {k : NestedKey} {v : V}, HN A k v → HN B k v
  | _, _, .non => .non
  | _, _, .bl b => .bl b
  | _, _, .int i => .int i
  | _, _, .str x => .str x
  | _, _, .tup h r => .tup (e _ _ h) (r.mono e)
theorem HNs.mono {A B : Hp} (e : ∀ t xs, A t = some (.tup xs) → B t = some (.tup xs)) : ∀ {k : List NestedKey} {v : List V}, HNs A k v → HNs B k v
  | _, _, .nil => .nil
  | _, _, .cons h r => .cons (h.mono e) (r.mono e)
end
mutual
theorem HN.is {P : Program} {w : World} {H : Hp} {h : Heap} (ok : HOk P w H h) : ∀ {k : NestedKey} {v : V} {u : Value}, HN H k v → RelV v u → NestedIs h k u
  | _, _, u, .non, r => by
    cases (show u = Value.none from r)
    exact .none
  | _, _, u, .bl b, r => by
    cases (show u = Value.bool b from r)
    exact .bool rfl
  | _, _, u, .int i, r => by
    obtain ⟨t, rfl⟩ := (show ∃ t, u = Value.int i t from r)
    exact .int _ _
  | _, _, u, .str x, r => by
    obtain ⟨t, rfl⟩ := (show ∃ t, u = Value.str x t from r)
    exact .text _ _
  | _, _, u, .tup (a := a) (vs := vs) e hs, r => by
    cases (show u = Value.ref a from r)
    obtain ⟨_, its, rv, o, h1, h2, n, h3⟩ := (show ObjOk P w H h a (.tup vs) from ok a _ e)
    exact .tup h1 h2 h3 (by simpa using hs.is ok rv)
theorem HNs.is {P : Program} {w : World} {H : Hp} {h : Heap} (ok : HOk P w H h) : ∀ {k : List NestedKey} {v : List V} {u : List Value}, HNs H k v → Vals v u → NestedAll h k u
  | _, _, _, .nil, .nil => .nil
  | _, _, _, .cons h1 hs, .cons r rs => .cons (h1.is ok r) (hs.is ok rs)
end
theorem HN.text {H : Hp} {s : Str} {v : V} (h : HN H (.text s) v) : v = .str s := by cases h; rfl
/-- a dict with these keys (what each is, what stands for it) and values -/
abbrev KVN := List (NestedKey × V × V)
def NdO (P : Program) (w : World) (D : Addr) (kvs : KVN) : HO := .ext fun h => (D == sysModules) = false ∧ kvs.length ≤ sizeLine ∧ ∃ o es ep, h.get? D = some o ∧ o.ExactDict ∧ o.data = .dict es ep ∧
  Paired (fun (kv : NestedKey × V × V) (e : DictEntry) => e.hash = kv.1.hash w ∧ RelV kv.2.1 e.key ∧ RelV kv.2.2 e.val) kvs es.toList
structure KeysN (H : Hp) (kvs : KVN) : Prop where
  is : ∀ x ∈ kvs, HN H x.1 x.2.1 ∧ x.1.depth ≤ 8
  nd : (kvs.map (·.1)).Nodup
theorem KeysN.mono {A B : Hp} {kvs : KVN} (e : ∀ t xs, A t = some (.tup xs) → B t = some (.tup xs)) (k : KeysN A kvs) : KeysN B kvs := ⟨fun x hx => ⟨(k.is x hx).1.mono e, (k.is x hx).2⟩, k.nd⟩
def nk : Key → NestedKey
  | .inl i => .num i
  | .inr x => .text x
theorem nk_inj {a b : Key} (h : nk a = nk b) : a = b := by
  cases a <;> cases b <;> simp_all [nk]
theorem nk_hn {H : Hp} (k : Key) : HN H (nk k) (kV k) := by
  cases k with
  | inl i => exact .int i
  | inr x => exact .str x
theorem nk_depth (k : Key) : (nk k).depth ≤ 8 := by
  cases k with
  | inl i => exact Nat.zero_le _
  | inr x => exact Nat.zero_le _
theorem nk_hash (w : World) (k : Key) : (nk k).hash w = keyH w k := by
  cases k with
  | inl i => rfl
  | inr x => rfl
def liftK (kk : List (Key × V)) : KVN := kk.map fun kv => (nk kv.1, kV kv.1, kv.2)
/-- a dict of any kind, to be read -/
def AnyD (P : Program) (w : World) (H : Hp) (a : Addr) (kvs : KVN) : Prop := (Rd H a (NdO P w a kvs) ∧ KeysN H kvs) ∨ ∃ kk, Rd H a (.dK kk) ∧ kvs = liftK kk
def RelN : KVN → List NK.En → Prop := Paired fun kv x => kv.1 = x.1 ∧ RelV kv.2.1 x.2.1 ∧ RelV kv.2.2 x.2.2
theorem RelN.val {kvs : KVN} {xs : List NK.En} (r : RelN kvs xs) (k : NestedKey) : (∀ y v, NK.valN kvs k = some (y, v) → ∃ p, NK.valN xs k = some p ∧ RelV v p.2) ∧ (NK.valN xs k).isSome = (NK.valN kvs k).isSome := by
  induction r with
  | nil => exact ⟨fun y v h => (by cases h), rfl⟩
  | @cons a b l m h t ih =>
    unfold NK.valN at ih ⊢
    rw [List.find?_cons, List.find?_cons, ← h.1]
    by_cases c : a.1 = k
    · rw [decide_eq_true c]
      refine ⟨fun y v e => ?_, rfl⟩
      have : a.2 = (y, v) := Option.some.inj e
      refine ⟨b.2, rfl, ?_⟩
      have h3 := h.2.2
      rw [this] at h3
      exact h3
    · rw [decide_eq_false c]
      exact ih
theorem RelN.keys {kvs : KVN} {xs : List NK.En} (r : RelN kvs xs) : kvs.map (·.1) = xs.map (·.1) := by
  induction r with
  | nil => rfl
  | cons h t ih => rw [List.map_cons, List.map_cons, h.1, ih]
theorem RelN.over {kvs : KVN} {xs : List NK.En} (r : RelN kvs xs) (k : NestedKey) {v : V} {z : Value} (rv : RelV v z) : RelN (kvs.map fun x => if x.1 = k then (x.1, x.2.1, v) else x) (xs.map fun x => if x.1 = k then (x.1, x.2.1, z) else x) := by
  induction r with
  | nil => exact .nil
  | @cons a b l m h t ih =>
    rw [List.map_cons, List.map_cons]
    refine .cons ?_ ih
    show (if a.1 = k then (a.1, a.2.1, v) else a).1 = (if b.1 = k then (b.1, b.2.1, z) else b).1 ∧ RelV (if a.1 = k then (a.1, a.2.1, v) else a).2.1 (if b.1 = k then (b.1, b.2.1, z) else b).2.1 ∧ RelV (if a.1 = k then (a.1, a.2.1, v) else a).2.2 (if b.1 = k then (b.1, b.2.1, z) else b).2.2
    rw [← h.1]
    by_cases c : a.1 = k
    · rw [if_pos c, if_pos c]
      exact ⟨rfl, h.2.1, rv⟩
    · rw [if_neg c, if_neg c]
      exact h
theorem RelN.put {kvs : KVN} {xs : List NK.En} (r : RelN kvs xs) (k : NestedKey) {y v : V} {u z : Value} (ry : RelV y u) (rv : RelV v z) : RelN (NK.putN kvs k y v) (NK.putN xs k u z) := by
  unfold NK.putN
  rw [(r.val k).2]
  split
  · exact r.over k rv
  · exact M.Paired.app r (.cons ⟨rfl, ry, rv⟩ .nil)
theorem putN_len {α β : Type} (xs : List (NestedKey × α × β)) (k : NestedKey) (u : α) (v : β) : (NK.putN xs k u v).length ≤ xs.length + 1 := by
  unfold NK.putN
  split
  · rw [List.length_map]
    exact Nat.le_succ _
  · rw [List.length_append]
    exact Nat.le_refl _
theorem putN_keys {kvs : KVN} {H : Hp} {k : NestedKey} {y v : V} (K : KeysN H kvs) (hk : HN H k y) (d8 : k.depth ≤ 8) : KeysN H (NK.putN kvs k y v) := by
  unfold NK.putN
  split
  · refine ⟨fun x hx => ?_, ?_⟩
    · obtain ⟨z, hz, rfl⟩ := List.mem_map.mp hx
      have := K.is z hz
      split
      · exact this
      · exact this
    · rw [List.map_map]
      have : ((fun x : NestedKey × V × V => x.1) ∘ fun x => if x.1 = k then (x.1, x.2.1, v) else x) = (·.1) := by
        funext x
        show (if x.1 = k then (x.1, x.2.1, v) else x).1 = x.1
        split <;> rfl
      rw [this]
      exact K.nd
  · rename_i c
    refine ⟨fun x hx => ?_, ?_⟩
    · rcases List.mem_append.mp hx with hx | hx
      · exact K.is x hx
      · cases List.mem_singleton.mp hx
        exact ⟨hk, d8⟩
    · rw [List.map_append, List.nodup_append]
      refine ⟨K.nd, List.nodup_cons.mpr ⟨List.not_mem_nil, List.nodup_nil⟩, fun a ha b hb z => c ?_⟩
      cases List.mem_singleton.mp hb
      have z : a = k := z
      rw [NK.valN_some]
      exact decide_eq_true (z ▸ ha)
section
variable {X : Cx} {pins : List (Addr × Obj)} {σ : St} {H : Hp} {s : Shared} {a : Addr} {kvs : KVN} {A : Around} {E : Value → Shared → Prop}
theorem HN.ok {k : NestedKey} {y : V} {u : Value} (I : Inv X pins σ H s) (h : HN H k y) (d8 : k.depth ≤ 8) (r : RelV y u) : NK.KeyOk s.heap k u := ⟨h.is I.hok r, d8⟩
theorem nodup_nk : ∀ {l : List Key}, l.Nodup → (l.map nk).Nodup
  | [], _ => List.nodup_nil
  | a :: l, nd => by
    obtain ⟨n1, n2⟩ := List.nodup_cons.mp nd
    refine List.nodup_cons.mpr ⟨fun m => ?_, nodup_nk n2⟩
    obtain ⟨b, hb, e⟩ := List.mem_map.mp m
    exact n1 (nk_inj e ▸ hb)
theorem kv_keys {kk : List (Key × V)} {vs : List (Key × Value)} (rel : KV kk vs) : kk.map (·.1) = vs.map (·.1) := by
  induction rel with
  | nil => rfl
  | cons h t ih => rw [List.map_cons, List.map_cons, h.1, ih]
theorem keyOks (I : Inv X pins σ H s) {l : KVN} {xs : List NK.En} (r : RelN l xs) (K : ∀ x ∈ l, HN H x.1 x.2.1 ∧ x.1.depth ≤ 8) : ∀ x ∈ xs, NK.KeyOk s.heap x.1 x.2.1 := by
  induction r with
  | nil => intro x hx; cases hx
  | @cons kv y l m h t ih =>
    intro x hx
    rcases List.mem_cons.mp hx with rfl | hx
    · have := K kv List.mem_cons_self
      rw [← h.1]
      exact HN.ok I this.1 this.2 h.2.1
    · exact ih (fun x hx => K x (List.mem_cons_of_mem _ hx)) x hx
theorem lift_keys {kk : List (Key × V)} (nd : (kk.map (·.1)).Nodup) : KeysN H (liftK kk) := by
  refine ⟨fun x hx => ?_, ?_⟩
  · obtain ⟨z, _, rfl⟩ := List.mem_map.mp hx
    exact ⟨nk_hn _, nk_depth _⟩
  · have e : (liftK kk).map (·.1) = (kk.map (·.1)).map nk := by
      unfold liftK
      rw [List.map_map, List.map_map]
      rfl
    rw [e]
    exact nodup_nk nd
theorem anyD_dict (I : Inv X pins σ H s) (g : AnyD X.prog X.w H a kvs) : (a == sysModules) = false ∧ kvs.length ≤ sizeLine ∧ KeysN H kvs ∧ ∃ xs, NK.Dict X.w s.heap a xs ∧ RelN kvs xs := by
  rcases g with ⟨e, K⟩ | ⟨kk, e, rfl⟩
  · obtain ⟨⟨hd, z, o, es, ep, h1, h2, h3, rel⟩, _, _⟩ := (show ObjOk X.prog X.w H s.heap a (NdO X.prog X.w a kvs) from rd_of I.hok e)
    refine ⟨hd, z, K, ?_⟩
    have : ∀ {l : KVN} {m : List DictEntry}, Paired (fun (kv : NestedKey × V × V) (e : DictEntry) => e.hash = kv.1.hash X.w ∧ RelV kv.2.1 e.key ∧ RelV kv.2.2 e.val) l m → ∃ xs, m = xs.map (NK.ent X.w) ∧ RelN l xs := by
      intro l m p
      induction p with
      | nil => exact ⟨[], rfl, .nil⟩
      | @cons kv e l m h t ih =>
        obtain ⟨xs, e1, r⟩ := ih
        refine ⟨(kv.1, e.key, e.val) :: xs, ?_, .cons ⟨rfl, h.2.1, h.2.2⟩ r⟩
        rw [List.map_cons, e1]
        show e :: _ = NK.ent X.w (kv.1, e.key, e.val) :: _
        unfold NK.ent
        rw [← h.1]
    obtain ⟨xs, e1, r⟩ := this rel
    refine ⟨xs, ⟨o, es, ep, h1, h2, h3, e1, fun x hx => ?_, by rw [← r.keys]; exact K.nd⟩, r⟩
    exact keyOks I r K.is x hx
  · obtain ⟨z, hd, vs, rel, o, es, ep, h1, h2, h3, hk, ps, nd⟩ := dk_rd I.hok e
    have ndk : (kk.map (·.1)).Nodup := by
      rw [kv_keys rel]
      exact nd
    have K := lift_keys (H := H) ndk
    refine ⟨hd, by unfold liftK; rw [List.length_map]; exact z, K, ?_⟩
    have key : ∀ {kk : List (Key × V)} {vs : List (Key × Value)} {m : List DictEntry}, KV kk vs → Pairs (mixKind X.prog X.w) m vs → (∀ e ∈ m, ∃ k, keyIs k e.key = true ∧ e.hash = keyH X.w k) → ∃ xs, m = xs.map (NK.ent X.w) ∧ RelN (liftK kk) xs := by
      intro kk vs m rel
      induction rel generalizing m with
      | nil => intro p _; cases p; exact ⟨[], rfl, .nil⟩
      | @cons kv x l n h t ih =>
        intro p hk
        cases p with
        | @cons e _ es _ h1 h2 h3 =>
          obtain ⟨xs, e1, r⟩ := ih h3 fun e he => hk e (List.mem_cons_of_mem _ he)
          obtain ⟨k', hk1, hk2⟩ := hk e List.mem_cons_self
          have ek : kv.1 = k' := by
            rw [h.1]
            exact (mixKind X.prog X.w).inj _ _ _ h1 hk1
          refine ⟨(nk kv.1, e.key, e.val) :: xs, ?_, .cons ⟨rfl, ?_, by rw [h2]; exact h.2⟩ r⟩
          · rw [List.map_cons, e1]
            show e :: _ = NK.ent X.w (nk kv.1, e.key, e.val) :: _
            unfold NK.ent
            show _ = (⟨(nk kv.1).hash X.w, e.key, e.val⟩ : DictEntry) :: _
            rw [nk_hash, ek, ← hk2]
          · have h1' : keyIs kv.1 e.key = true := by rw [h.1]; exact h1
            rcases keyIs_shape h1' with ⟨i, t, ei, e2⟩ | ⟨y, t, ei, e2⟩
            · show RelV (kV kv.1) e.key
              rw [ei, e2]
              exact ⟨t, rfl⟩
            · show RelV (kV kv.1) e.key
              rw [ei, e2]
              exact ⟨t, rfl⟩
    obtain ⟨xs, e1, r⟩ := key rel ps fun e he => by
      obtain ⟨k, h9, h8⟩ := hk e (Array.mem_toList_iff.mp he)
      exact ⟨k, h9, h8⟩
    refine ⟨xs, ⟨o, es, ep, h1, h2, h3, e1, fun x hx => ?_, by rw [← r.keys]; exact K.nd⟩, r⟩
    exact keyOks I r K.is x hx
/-- what a dict of any kind holds at y -/
def NGet (P : Program) (w : World) (H : Hp) (a : Addr) (y : V) (r : Option V) : Prop := ∃ kvs k, AnyD P w H a kvs ∧ HN H k y ∧ k.depth ≤ 8 ∧ r = (NK.valN kvs k).map (·.2)
/-- the heap behind a[y] = v, a dict of any kind -/
def NPut (P : Program) (w : World) (H : Hp) (a : Addr) (y v : V) (H' : Hp) : Prop := ∃ kvs k, ((H a = some (NdO P w a kvs) ∧ KeysN H kvs) ∨ ∃ kk, H a = some (.dK kk) ∧ kvs = liftK kk) ∧ HN H k y ∧ k.depth ≤ 8 ∧ kvs.length < sizeLine ∧ H' = upd H a (NdO P w a (NK.putN kvs k y v))
theorem in1_units (hu : A.units + 64 < cLine) : A.in1.units + 8 < cLine := by
  have : A.in1.units = A.units + 1 := rfl
  omega
theorem n_getItem {y v : V} {u : Value} {Q : Value → Shared → Prop} (hu : A.units + 64 < cLine) (I : Inv X pins σ H s) (g : NGet X.prog X.w H a y (some v)) (ry : RelV y u) (h : ∀ w' s', Inv X pins σ H s' → RelV v w' → Q w' s') :
    wpAny (model X.prog X.w) A (getItem (.ref a) u) Q E s := by
  obtain ⟨kvs, k, g, hk, d8, e⟩ := g
  obtain ⟨_, _, _, xs, hm, r⟩ := anyD_dict I g
  obtain ⟨p, hp, ep⟩ := Option.map_eq_some_iff.mp e.symm
  obtain ⟨q, hq, rv⟩ := (r.val k).1 p.1 p.2 hp
  rw [ep] at rv
  exact NK.getItem (in1_units hu) (HN.ok I hk d8 ry) hm hq (h q.2 _ (I.tok _) rv)
theorem n_in {y : V} {u : Value} {o : Option V} {Q : Value → Shared → Prop} (hu : A.units + 64 < cLine) (I : Inv X pins σ H s) (g : NGet X.prog X.w H a y o) (ry : RelV y u) (h : ∀ s', Inv X pins σ H s' → Q (.bool o.isSome) s') :
    wpAny (model X.prog X.w) A (compareOp .In u (.ref a)) Q E s := by
  obtain ⟨kvs, k, g, hk, d8, e⟩ := g
  obtain ⟨hd, _, _, xs, hm, r⟩ := anyD_dict I g
  refine NK.isIn (in1_units hu) hd (HN.ok I hk d8 ry) hm ?_
  rw [(r.val k).2]
  rw [e, Option.isSome_map] at h
  exact h _ (I.tok _)
theorem n_notIn {y : V} {u : Value} {o : Option V} {Q : Value → Shared → Prop} (hu : A.units + 64 < cLine) (I : Inv X pins σ H s) (g : NGet X.prog X.w H a y o) (ry : RelV y u) (h : ∀ s', Inv X pins σ H s' → Q (.bool (!o.isSome)) s') :
    wpAny (model X.prog X.w) A (compareOp .NotIn u (.ref a)) Q E s := by
  obtain ⟨kvs, k, g, hk, d8, e⟩ := g
  obtain ⟨hd, _, _, xs, hm, r⟩ := anyD_dict I g
  refine NK.notIn (in1_units hu) hd (HN.ok I hk d8 ry) hm ?_
  rw [(r.val k).2]
  rw [e, Option.isSome_map] at h
  exact h _ (I.tok _)
theorem nd_ok {P : Program} {w : World} {H : Hp} {h : Heap} {a : Addr} {kvs : KVN} {xs : List NK.En} (hd : (a == sysModules) = false) (z : kvs.length ≤ sizeLine) (r : RelN kvs xs) (hm : NK.Dict w h a xs) : ObjOk P w H h a (NdO P w a kvs) := by
  obtain ⟨o, es, ep, h1, h2, h3, e⟩ := hm
  refine ⟨⟨hd, z, o, es, ep, h1, h2, h3, ?_⟩, ⟨o, h1⟩, fun _ _ ⟨hd, z, o, es, ep, h1, h2, h3, r⟩ k => ⟨hd, z, o, es, ep, k _ h1, h2, h3, r⟩⟩
  rw [e.lay]
  have : ∀ {l : KVN} {m : List NK.En}, RelN l m → Paired (fun (kv : NestedKey × V × V) (e : DictEntry) => e.hash = kv.1.hash w ∧ RelV kv.2.1 e.key ∧ RelV kv.2.2 e.val) l (m.map (NK.ent w)) := by
    intro l m r
    induction r with
    | nil => exact .nil
    | @cons kv x l m h t ih =>
      rw [List.map_cons]
      exact .cons ⟨by rw [h.1]; rfl, h.2.1, h.2.2⟩ ih
  exact this r
theorem n_setItem {y v : V} {u z : Value} {H' : Hp} {Q : Unit → Shared → Prop} (hu : A.units + 64 < cLine) (I : Inv X pins σ H s) (g : NPut X.prog X.w H a y v H') (ry : RelV y u) (rv : RelV v z) (h : ∀ s', Inv X pins σ H' s' → Q () s') :
    wpAny (model X.prog X.w) A (setItem (.ref a) u z) Q E s := by
  obtain ⟨kvs, k, g, hk, d8, lt, rfl⟩ := g
  have mu : Mut (H a) := by
    rcases g with ⟨e, _⟩ | ⟨kk, e, _⟩
    · rw [e]; exact True.intro
    · rw [e]; exact True.intro
  have g' : AnyD X.prog X.w H a kvs := g.elim (fun z => .inl ⟨.inl z.1, z.2⟩) fun ⟨kk, e, q⟩ => .inr ⟨kk, .inl e, q⟩
  obtain ⟨hd, hz, _, xs, hm, r⟩ := anyD_dict I g'
  have len : xs.length = kvs.length := (Paired.length r).symm
  refine NK.setItem (in1_units hu) (HN.ok I hk d8 ry) hm (by omega) fun h' hm' hs => h _ ?_
  have he : ∃ q, h'.get? a = some q := let ⟨q, _, _, hq, _⟩ := hm'; ⟨q, hq⟩
  exact d_write I mu hs he (nd_ok hd (by have := putN_len kvs k y v; omega) (r.put k ry rv) hm')
theorem any_typeIs (I : Inv X pins σ H s) (g : AnyD X.prog X.w H a kvs) : s.TypeIs (.ref a) "dict" := by
  obtain ⟨_, _, _, xs, hm, _⟩ := anyD_dict I g
  exact hm.typeIs
/-- d[y], y in d, y not in d, d[y] = v for dicts of any kind -/
def tNGet (P : Program) (w : World) (td ty : TE) : TE := fun σ H Q => td σ H fun x H1 => ty σ H1 fun y H2 => ∃ a v, x = .ref a ∧ NGet P w H2 a y (some v) ∧ Q v H2
def tNIn (P : Program) (w : World) (ty td : TE) : TE := fun σ H Q => ty σ H fun y H1 => td σ H1 fun x H2 => ∃ a o, x = .ref a ∧ NGet P w H2 a y o ∧ Q (.bl o.isSome) H2
def tNNotIn (P : Program) (w : World) (ty td : TE) : TE := fun σ H Q => ty σ H fun y H1 => td σ H1 fun x H2 => ∃ a o, x = .ref a ∧ NGet P w H2 a y o ∧ Q (.bl (!o.isSome)) H2
def sNPut (P : Program) (w : World) (td ty tv : TE) : TS := fun D σ H => tv σ H fun v H1 => td σ H1 fun x H2 => ty σ H2 fun y H3 => ∃ a H4, x = .ref a ∧ NPut P w H3 a y v H4 ∧ D.nx σ H4
end
section
variable {X : Cx} {o i e value : Expr} {pos pos' tpos : Pos} {td ty tv : TE}
theorem pe_nget (hu : X.A.units + 64 < cLine) (ho : PE X o td) (hi : PE X i ty) (hs : NoSl i) : PE X (.Subscript o i pos) (tNGet X.prog X.w td ty) := by
  refine ⟨fun pins s σ H Q I h => ?_⟩
  refine subD_of PySem.F.slot_dict_getitem.lookup hs (thn (ho.run pins s σ H _ I h) fun u s1 ⟨x, H1, I1, rx, q1⟩ => thn (hi.run pins s1 σ H1 _ I1 q1) fun iv s2 ⟨y, H2, I2, ry, a, v, ex, g, q2⟩ => ?_)
  subst ex
  obtain rfl : u = Value.ref a := rx
  have ⟨kvs, k, g', _⟩ := g
  exact ⟨any_typeIs I2 g', n_getItem hu I2 g ry fun w' s3 I3 rw' => ⟨v, H2, I3, rw', q2⟩⟩
theorem pc_nin (hu : X.A.units + 64 < cLine) (hi : PE X i ty) (ho : PE X o td) : PC X .In i o (tNIn X.prog X.w ty td) := by
  refine ⟨fun pins s σ H Q I h => ?_⟩
  refine thn (hi.run pins s σ H _ I h) fun iv s1 ⟨y, H1, I1, ry, q1⟩ => thn (ho.run pins s1 σ H1 _ I1 q1) fun u s2 ⟨x, H2, I2, rx, a, ov, ex, g, q2⟩ => ?_
  subst ex
  obtain rfl : u = Value.ref a := rx
  exact n_in hu I2 g ry fun s3 I3 => ⟨.bl ov.isSome, H2, I3, rfl, q2⟩
theorem pc_nnotin (hu : X.A.units + 64 < cLine) (hi : PE X i ty) (ho : PE X o td) : PC X .NotIn i o (tNNotIn X.prog X.w ty td) := by
  refine ⟨fun pins s σ H Q I h => ?_⟩
  refine thn (hi.run pins s σ H _ I h) fun iv s1 ⟨y, H1, I1, ry, q1⟩ => thn (ho.run pins s1 σ H1 _ I1 q1) fun u s2 ⟨x, H2, I2, rx, a, ov, ex, g, q2⟩ => ?_
  subst ex
  obtain rfl : u = Value.ref a := rx
  exact n_notIn hu I2 g ry fun s3 I3 => ⟨.bl (!ov.isSome), H2, I3, rfl, q2⟩
theorem ps_nput (hu : X.A.units + 64 < cLine) (ho : PE X o td) (hi : PE X i ty) (hv : PE X value tv) (hs : swapsWith value (some (.Subscript o i pos')) pos.line X.env = pure false) :
    PS X (.Assign [.Subscript o i pos'] value pos) (sNPut X.prog X.w td ty tv) := by
  refine ⟨fun pins s σ H D I h => ?_⟩
  refine wpAny_Assign_Subscript (thn (hv.run pins s σ H _ I h) fun r s1 ⟨v, H1, I1, rv, q1⟩ => thn (ho.run pins s1 σ H1 _ I1 q1) fun u s2 ⟨x, H2, I2, rx, q2⟩ => thn (hi.run pins s2 σ H2 _ I2 q2) fun iv s3 ⟨y, H3, I3, ry, a, H4, ex, g, q3⟩ => ?_) hs
  subst ex
  obtain rfl : u = Value.ref a := rx
  exact n_setItem hu I3 g ry rv fun s4 I4 => ⟨σ, H4, I4, q3⟩
end
section
variable {X : Cx} {P : Program} {w : World} {o i e value : Expr} {pos pos' tpos : Pos} {td ty tv : TE}
theorem wN_get (hP : X.prog = P) (hw : X.w = w) (hu : X.A.units + 64 < cLine) (ho : PE X o td) (hi : PE X i ty) (hs : NoSl i) : PE X (.Subscript o i pos) (tNGet P w td ty) := by subst hP hw; exact pe_nget hu ho hi hs
theorem wN_in (hP : X.prog = P) (hw : X.w = w) (hu : X.A.units + 64 < cLine) (hi : PE X i ty) (ho : PE X o td) : PC X .In i o (tNIn P w ty td) := by subst hP hw; exact pc_nin hu hi ho
theorem wN_notin (hP : X.prog = P) (hw : X.w = w) (hu : X.A.units + 64 < cLine) (hi : PE X i ty) (ho : PE X o td) : PC X .NotIn i o (tNNotIn P w ty td) := by subst hP hw; exact pc_nnotin hu hi ho
theorem wN_put (hP : X.prog = P) (hw : X.w = w) (hu : X.A.units + 64 < cLine) (ho : PE X o td) (hi : PE X i ty) (hv : PE X value tv) (hs : swapsWith value (some (.Subscript o i pos')) pos.line X.env = pure false) : PS X (.Assign [.Subscript o i pos'] value pos) (sNPut P w td ty tv) := by subst hP hw; exact ps_nput hu ho hi hv hs
end
/-! ### len, isinstance, repr -/
section
variable {X : Cx}
def rLenN (P : Program) (w : World) : List V → Hp → VK → Prop := fun xs H Q => ∃ a kvs, xs = [.ref a] ∧ AnyD P w H a kvs ∧ Q (.int kvs.length) H
theorem cl_lenN : CallR X (.builtin "len") (rLenN X.prog X.w) := by
  intro pins s σ H xs us Q I r h
  obtain ⟨a, kvs, rfl, g, q⟩ := h
  cases Vals.ref1 r
  obtain ⟨hd, z, _, xs, hm, rel⟩ := anyD_dict I g
  obtain ⟨o, es, ep, h1, h2, h3, e⟩ := id hm
  have lx : kvs.length = xs.length := Paired.length rel
  have sz : es.size = kvs.length := by rw [e.size, lx]
  have fit : (kvs.length : Int) < 2 ^ 63 := by rw [sizeLine_eq] at z; omega
  refine Calls.call_function_entry PySem.kind_len PySem.plain_len PySem.entry_len (PySem.args_len1 _) ?_
  unfold Builtin.«len»
  refine wpAny_bind (m := oneArg "len" _) (wpAny_pure ?_)
  refine wpAny_bind (m := callSpecial? (.ref a) (Str.ofString "__len__")) (wpAny_callSpecial?_slot (name := Str.ofString "__len__") hm.typeIs PySem.F.slot_dict_len (call_len_raw hd ⟨o, h1, h2, h3⟩ ?_))
  refine wpAny_bind (wpAny_holding (wpAny_pure ?_))
  refine wpAny_bind (wpAny_letGo ?_)
  rw [sz]
  show wpAny _ _ (if ((kvs.length : Nat) : Int) < 0 then _ else _) _ _ _
  rw [if_neg (by omega)]
  show wpAny _ _ (if ((kvs.length : Nat) : Int) ≥ 2 ^ 63 then _ else _) _ _ _
  rw [if_neg (by omega)]
  exact wpAny_bind (wpAny_mkInt (wpAny_pure ⟨_, rfl, .int kvs.length, H, (I.tok _).tok _, ⟨_, rfl⟩, q⟩))
/-- isinstance, the thing a dict of any kind or else what can be told -/
def rIsiN (P : Program) (w : World) (K : PySem.W.Frag) : List V → Hp → VK → Prop := fun xs H Q => rIsi K xs H Q ∨ ∃ a kvs c u b, xs = [.ref a, c] ∧ ClsV c u ∧ AnyD P w H a kvs ∧ PySem.W.kitOne K (.type "dict") u = some b ∧ Q (.bl b) H
theorem call_isiN : CallR X (.builtin "isinstance") (rIsiN X.prog X.w X.K) := by
  intro pins s σ H xs us Q I r h
  rcases h with h | ⟨a, kvs, c, u, b, rfl, k, g, e, q⟩
  · exact call_isi pins s σ H xs us Q I r h
  · obtain ⟨u1, u2, rfl, r1, r2⟩ := vals2 r
    have e2 := k.eq r2
    subst e2
    cases (show u1 = Value.ref a from r1)
    obtain ⟨_, _, _, xs, ⟨o, es, ep, h1, h2, h3, _⟩, _⟩ := anyD_dict I g
    exact PySem.W.kia_one PySem.W.kitx_dict I.kIn ⟨o, h1, h2.1⟩ e (fun z => nomatch z) fun tk => ⟨.bl b, H, I.tok tk, rfl, q⟩
end
end L2
namespace ReR
open PySem PySem.Spec PyProof.Rows L2
/-- the keys and the values as data -/
def DpP (H : Hp) (kvs : KVN) (ds : List (PyData × PyData)) : Prop := Paired (fun (kv : NestedKey × V × V) (d : PyData × PyData) => DpD H kv.2.1 d.1 ∧ DpD H kv.2.2 d.2) kvs ds
mutual
/-- data that may hold dicts of any kind -/
inductive DpN (P : Program) (w : World) (H : Hp) : V → PyData → Prop
  | base {v : V} {d : PyData} : DpD H v d → DpN P w H v d
  | lst {a : Addr} {xs : List V} {ds : List PyData} : H a = some (.lst xs) → DpNs P w H xs ds → DpN P w H (.ref a) (.list ds)
  | dic {a : Addr} {kvs : KVN} {ds : List (PyData × PyData)} : AnyD P w H a kvs → DpP H kvs ds → DpN P w H (.ref a) (.dict ds)
inductive DpNs (P : Program) (w : World) (H : Hp) : List V → List PyData → Prop
  | nil : DpNs P w H [] []
  | cons {v : V} {vs : List V} {d : PyData} {ds : List PyData} : DpN P w H v d → DpNs P w H vs ds → DpNs P w H (v :: vs) (d :: ds)
end
section
variable {X : Cx} {pins : List (Addr × Obj)} {σ : L2.St} {H : Hp} {s : Shared}
theorem DpP.reads (hb : SysIs X.base) (I : Inv X pins σ H s) {kvs : KVN} {ds : List (PyData × PyData)} {xs : List NK.En} (h : DpP H kvs ds) (r : RelN kvs xs) :
    ∃ as bs, ReadsAll s.heap ((xs.map (NK.ent X.w)).map (·.key)) (ds.map (·.1)) as ∧ ReadsAll s.heap ((xs.map (NK.ent X.w)).map (·.val)) (ds.map (·.2)) bs ∧ sysModules ∉ as ∧ sysModules ∉ bs := by
  unfold DpP at h
  induction h generalizing xs with
  | nil =>
    cases r
    exact ⟨_, _, .nil, .nil, List.not_mem_nil, List.not_mem_nil⟩
  | cons h t ih =>
    cases r with
    | cons r1 r2 =>
      obtain ⟨as, bs, q2, q3, n2, n3⟩ := ih r2
      obtain ⟨cs, q1, n1⟩ := h.1.reads hb I r1.2.1
      obtain ⟨es, q4, n4⟩ := h.2.reads hb I r1.2.2
      exact ⟨_, _, .cons q1 q2, .cons q4 q3, fun m => (List.mem_append.mp m).elim n1 n2, fun m => (List.mem_append.mp m).elim n4 n3⟩
mutual
theorem DpN.reads (hb : SysIs X.base) (I : Inv X pins σ H s) : ∀ {v : V} {d : PyData} {u : Value}, DpN X.prog X.w H v d → RelV v u → ∃ as, Reads s.heap u d as ∧ sysModules ∉ as
  | _, _, _, .base h, r => h.reads hb I r
  | _, _, u, .lst (a := a) (xs := xs) e h, r => by
    cases (show u = Value.ref a from r)
    obtain ⟨z, its, n, rv, g⟩ : xs.length ≤ sizeLine ∧ ∃ (its : List Value) (n : Nat), Vals xs its ∧ s.heap.get? a = some { cls := .type "list", data := .seq its.toArray n } := I.hok _ _ e
    obtain ⟨as, q, ns⟩ := h.reads hb I rv
    have na := no_sys hb I (a := a) (by rw [e]; exact fun z => nomatch z)
    exact ⟨_, .list g rfl rfl (by simpa using q), fun m => (List.mem_cons.mp m).elim (fun z => na z.symm) ns⟩
  | _, _, u, .dic (a := a) (kvs := kvs) g h, r => by
    cases (show u = Value.ref a from r)
    obtain ⟨hS, _, _, xs, ⟨o, es, ep, h1, h2, h3, e⟩, rel⟩ := anyD_dict I g
    obtain ⟨as, bs, q1, q2, n1, n2⟩ := h.reads hb I rel
    rw [← e.lay] at q1 q2
    exact ⟨_, .dict h1 h2.1 h3 q1 q2, fun m => (List.mem_append.mp m).elim (fun m => (List.mem_cons.mp m).elim (fun z => (beq_eq_false_iff_ne.mp hS) z.symm) n1) n2⟩
theorem DpNs.reads (hb : SysIs X.base) (I : Inv X pins σ H s) : ∀ {v : List V} {d : List PyData} {u : List Value}, DpNs X.prog X.w H v d → Vals v u → ∃ as, ReadsAll s.heap u d as ∧ sysModules ∉ as
  | _, _, _, .nil, r => by
    cases r
    exact ⟨_, .nil, List.not_mem_nil⟩
  | _, _, _, .cons h hs, r => by
    cases r with
    | cons r1 r2 =>
      obtain ⟨as, q1, n1⟩ := h.reads hb I r1
      obtain ⟨bs, q2, n2⟩ := hs.reads hb I r2
      exact ⟨_, .cons q1 q2, fun m => (List.mem_append.mp m).elim n1 n2⟩
end
end
def rReprN (P : Program) (w : World) : List V → Hp → VK → Prop := fun xs H Q => ∃ v d, xs = [v] ∧ DpN P w H v d ∧ okD d ∧ Q (.str d.shown) H
theorem cr_reprN {X : Cx} (hg : X.A.guards = some []) (hu : X.A.units + 64 < cLine) (hb : SysIs X.base) : CallR X (.builtin "repr") (rReprN X.prog X.w) := by
  intro pins s σ H xs us Q I r h
  obtain ⟨v, d, rfl, hd, ok, q⟩ := h
  obtain ⟨u, rfl, ru⟩ := vals1 r
  obtain ⟨as, rd, ns⟩ := hd.reads hb I ru
  have hl := ok.len
  cases rd with
  | none => exact PySem.P.repr_of_none ⟨.str _, H, I.tok _, ⟨_, rfl⟩, q⟩
  | bool b => exact PySem.P.repr_of_bool ⟨.str _, H, I.tok _, ⟨_, rfl⟩, q⟩
  | int i t => exact PySem.P.repr_of_int (by simpa [PyData.showable] using ok.1) ⟨.str _, H, I.tok _, ⟨_, rfl⟩, q⟩
  | str x t => exact PySem.P.repr_of_str ⟨.str _, H, I.tok _, ⟨_, rfl⟩, q⟩ (by simpa only [PyData.shown] using hl)
  | list h1 h2 h3 h4 => exact repr_of_reads' (.list h1 h2 h3 h4) ok.1 (fun _ => ns) hg (by have := ok.2.1; omega) (fun _ _ e => e) (fun h' u tk hk => ⟨.str _, H, I.kept hk, ⟨_, rfl⟩, q⟩) hl
  | tuple h1 h2 h3 h4 => exact repr_of_reads' (.tuple h1 h2 h3 h4) ok.1 (fun _ => ns) hg (by have := ok.2.1; omega) (fun _ _ e => e) (fun h' u tk hk => ⟨.str _, H, I.kept hk, ⟨_, rfl⟩, q⟩) hl
  | dict h1 h2 h3 h4 h5 => exact repr_of_reads' (.dict h1 h2 h3 h4 h5) ok.1 (fun _ => ns) hg (by have := ok.2.1; omega) (fun _ _ e => e) (fun h' u tk hk => ⟨.str _, H, I.kept hk, ⟨_, rfl⟩, q⟩) hl
end ReR

set_option Elab.async false
set_option linter.all false
set_option maxRecDepth 100000
set_option maxHeartbeats 4000000
/-! dicts of any kind: what gen.py prints -/
namespace L2
open PySem PySem.Spec PyProof.Rows
section
variable {X : Cx} {P : Program} {w : World} {K : PySem.W.Frag}
theorem wN_isi (hP : X.prog = P) (hw : X.w = w) (hK : X.K = K) : CallR X (.builtin "isinstance") (rIsiN P w K) := by subst hP hw hK; exact call_isiN
theorem wN_len (hP : X.prog = P) (hw : X.w = w) : CallR X (.builtin "len") (rLenN P w) := by subst hP hw; exact cl_lenN
theorem wN_repr (hP : X.prog = P) (hw : X.w = w) (hg : X.A.guards = some []) (hu : X.A.units + 64 < cLine) (hb : ReR.SysIs X.base) : CallR X (.builtin "repr") (ReR.rReprN P w) := by subst hP hw; exact ReR.cr_reprN hg hu hb
end
theorem n_put {P : Program} {w : World} {td ty tv : TE} {D : Ends} {σ : L2.St} {H : Hp} (k : tv σ H fun v H1 => td σ H1 fun x H2 => ty σ H2 fun y H3 => ∃ a H4, x = .ref a ∧ NPut P w H3 a y v H4 ∧ D.nx σ H4) : sNPut P w td ty tv D σ H := k
theorem n_notin {P : Program} {w : World} {td ty : TE} {σ : L2.St} {H : Hp} {Q : VK} (k : ty σ H fun y H1 => td σ H1 fun x H2 => ∃ a o, x = .ref a ∧ NGet P w H2 a y o ∧ Q (.bl (!o.isSome)) H2) : tNNotIn P w ty td σ H Q := k
theorem n_inn {P : Program} {w : World} {td ty : TE} {σ : L2.St} {H : Hp} {Q : VK} (k : ty σ H fun y H1 => td σ H1 fun x H2 => ∃ a o, x = .ref a ∧ NGet P w H2 a y o ∧ Q (.bl o.isSome) H2) : tNIn P w ty td σ H Q := k
theorem n_get {P : Program} {w : World} {td ty : TE} {σ : L2.St} {H : Hp} {Q : VK} (k : td σ H fun x H1 => ty σ H1 fun y H2 => ∃ a v, x = .ref a ∧ NGet P w H2 a y (some v) ∧ Q v H2) : tNGet P w td ty σ H Q := k
/-- what is told stays: every fact of the heap but those of lists and dicts that are written -/
def Ext (A B : Hp) : Prop := ∀ b o, A b = some o → B b = some o
/-- what is told stays, though dicts may have been locked -/
structure ExtR (A B : Hp) : Prop where
  lst : ∀ a xs, A a = some (.lst xs) → B a = some (.lst xs)
  tup : ∀ a xs, A a = some (.tup xs) → B a = some (.tup xs)
  dK : ∀ a kk, Rd A a (.dK kk) → Rd B a (.dK kk)
  ext : ∀ a f, Rd A a (.ext f) → Rd B a (.ext f)
theorem Ext.r {A B : Hp} (e : Ext A B) : ExtR A B :=
  ⟨fun _ _ h => e _ _ h, fun _ _ h => e _ _ h, fun _ _ h => h.imp (e _ _) fun ⟨u, h⟩ => ⟨u, e _ _ h⟩, fun _ _ h => h.imp (e _ _) fun ⟨u, h⟩ => ⟨u, e _ _ h⟩⟩
theorem ExtR.trans {A B C : Hp} (e : ExtR A B) (f : ExtR B C) : ExtR A C :=
  ⟨fun _ _ h => f.lst _ _ (e.lst _ _ h), fun _ _ h => f.tup _ _ (e.tup _ _ h), fun _ _ h => f.dK _ _ (e.dK _ _ h), fun _ _ h => f.ext _ _ (e.ext _ _ h)⟩
theorem ExtR.lock {A B : Hp} {d : Addr} {kvs : List (Key × V)} {od : Obj} (h : Rd A d (.dK kvs)) (e : B d = some (.frz od (.dK kvs))) (ne : ∀ b, b ≠ d → B b = A b) : ExtR A B := by
  have n1 : ∀ {a o}, A a = some o → (∀ kk, o ≠ .dK kk) → (∀ u kk, o ≠ .frz u (.dK kk)) → a ≠ d := fun q x y z => by
    rw [z] at q
    rcases h with h | ⟨u, h⟩
    · rw [h] at q; cases q; exact x _ rfl
    · rw [h] at q; cases q; exact y _ _ rfl
  refine ⟨fun a xs q => ?_, fun a xs q => ?_, fun a kk q => ?_, fun a f q => ?_⟩
  · rw [ne a (n1 q (fun _ z => nomatch z) fun _ _ z => nomatch z)]; exact q
  · rw [ne a (n1 q (fun _ z => nomatch z) fun _ _ z => nomatch z)]; exact q
  · by_cases z : a = d
    · subst z
      have : kk = kvs := by
        rcases h with h | ⟨u, h⟩ <;> rcases q with q | ⟨u2, q⟩ <;> rw [h] at q <;> cases q <;> rfl
      subst this
      exact .inr ⟨od, e⟩
    · unfold Rd
      rw [ne a z]
      exact q
  · have z : a ≠ d := by
      rcases q with q | ⟨u, q⟩
      · exact n1 q (fun _ z => nomatch z) fun _ _ z => nomatch z
      · exact n1 q (fun _ z => nomatch z) fun _ _ z => nomatch z
    unfold Rd
    rw [ne a z]
    exact q
theorem AnyD.mono {P : Program} {w : World} {A B : Hp} {a : Addr} {kvs : KVN} (e : ExtR A B) (h : AnyD P w A a kvs) : AnyD P w B a kvs := by
  rcases h with ⟨h1, h2⟩ | ⟨kk, h1, h2⟩
  · exact .inl ⟨e.ext _ _ h1, h2.mono e.tup⟩
  · exact .inr ⟨kk, e.dK _ _ h1, h2⟩
theorem paired_rel {α β : Type} {R S : α → β → Prop} (h : ∀ a b, R a b → S a b) : ∀ {xs : List α} {ys : List β}, Paired R xs ys → Paired S xs ys
  | [], [], .nil => .nil
  | _ :: _, _ :: _, .cons a r => .cons (h _ _ a) (paired_rel h r)
end L2
namespace ReR
open PySem PySem.Spec PyProof.Rows L2
section
variable {A B : Hp}
mutual
theorem DpD.monoR (e : ExtR A B) : ∀ {v : V} {d : PyData}, DpD A v d → DpD B v d
  | _, _, .non => .non
  | _, _, .bl b => .bl b
  | _, _, .int i => .int i
  | _, _, .str x => .str x
  | _, _, .lst h r => .lst (e.lst _ _ h) (r.monoR e)
  | _, _, .tup h r => .tup (e.tup _ _ h) (r.monoR e)
  | _, _, .dic h r => .dic (e.dK _ _ h) (r.monoR e)
theorem DpDs.monoR (e : ExtR A B) : ∀ {v : List V} {d : List PyData}, DpDs A v d → DpDs B v d
  | _, _, .nil => .nil
  | _, _, .cons h r => .cons (h.monoR e) (r.monoR e)
theorem DpDk.monoR (e : ExtR A B) : ∀ {v : List (Key × V)} {d : List (PyData × PyData)}, DpDk A v d → DpDk B v d
  | _, _, .nil => .nil
  | _, _, .cons h r => .cons (h.monoR e) (r.monoR e)
end
end
theorem DpP.mono {A B : Hp} (e : ExtR A B) {kvs : KVN} {ds : List (PyData × PyData)} (h : DpP A kvs ds) : DpP B kvs ds := paired_rel (fun _ _ h => ⟨h.1.monoR e, h.2.monoR e⟩) h
/-- a thing of which all is told: data, or a dict whose keys are any nested keys -/
inductive Thg (P : Program) (w : World) (H : Hp) : V → PyData → Option KVN → Prop
  | odd {v : V} {d : PyData} : DpD H v d → (∀ ds, d ≠ .dict ds) → Thg P w H v d none
  | dic {a : Addr} {kvs : KVN} {ds : List (PyData × PyData)} : AnyD P w H a kvs → DpP H kvs ds → Thg P w H (.ref a) (.dict ds) (some kvs)
theorem Thg.mono {P : Program} {w : World} {A B : Hp} {v : V} {d : PyData} {o : Option KVN} (e : ExtR A B) (h : Thg P w A v d o) : Thg P w B v d o := by
  cases h with
  | odd h n => exact .odd (h.monoR e) n
  | dic h1 h2 => exact .dic (h1.mono e) (h2.mono e)
theorem Thg.dn {P : Program} {w : World} {H : Hp} {v : V} {d : PyData} {o : Option KVN} (h : Thg P w H v d o) : DpN P w H v d := by
  cases h with
  | odd h n => exact .base h
  | dic h1 h2 => exact .dic h1 h2
end ReR

set_option Elab.async false
set_option linter.all false
set_option maxRecDepth 100000
set_option maxHeartbeats 2000000
/-! own errors whose __init__ says super().__init__('..') and keeps one field -/
namespace SupX
open PySem PySem.Spec PyProof.Rows L2 NdefX PySem.W PySem.Calls
/-! ### the text of such an __init__ -/
def sA (fld : Str) (p1 p2 : Pos) : Arguments := { posonlyargs := [], args := [{ arg := "self", annotation := none, pos := p1 }, { arg := fld, annotation := none, pos := p2 }], vararg := none, kwonlyargs := [], kw_defaults := [], kwarg := none, defaults := [] }
def sB (fld msg : Str) (k : Nat) (q1 q2 q3 q4 q5 q6 q7 q8 q9 q10 : Pos) : List Stmt :=
  [.Expr (.Call (.Attribute (.Call (.Name "super" q1) [] [] q2) "__init__" q3) [.Constant (.str msg) k q4] [] q5) q6, .Assign [.Attribute (.Name "self" q7) fld q8] (.Name fld q9) q10]
def sS (fld : Str) : Scope := { kind := .function, names := [("self", .local), (fld, .local), ("__class__", .free), ("super", .globalImplicit)], isGenerator := false, isCoroutine := false, more := [] }
theorem sup_eval (env : Env) {msg : Str} {k : Nat} {q1 q2 q3 q4 q5 : Pos} (hq : (q3.endLine == q5.line) = true) :
    eval (.Call (.Attribute (.Call (.Name "super" q1) [] [] q2) "__init__" q3) [.Constant (.str msg) k q4] [] q5) env = (do
      let ov ← attributeBase (.Call (.Name "super" q1) [] [] q2) "__init__" env (eval (.Call (.Name "super" q1) [] [] q2) env)
      standAt q3.atName
      let (f, first) ← holding [ov] (getMethod ov "__init__" (do return (← importBound (.Call (.Name "super" q1) [] [] q2) env).getD true))
      callWith q5 f first (backTo q5 (starEach [.Constant (.str msg) k q4] env)) []) := by
  show (do
      let ov ← attributeBase (.Call (.Name "super" q1) [] [] q2) "__init__" env (eval (.Call (.Name "super" q1) [] [] q2) env)
      standAt q3.atName
      methodCall (.Call (.Name "super" q1) [] [] q2) "__init__" q3 q5 env ov 1 (backTo q5 (starEach [.Constant (.str msg) k q4] env)) []) = _
  unfold methodCall calleeOf methodCallPos
  have f : methodCallForm 1 (backTo q5 (starEach [.Constant (.str msg) k q4] env)) [] = true := rfl
  simp only [f, hq, if_true, Bool.not_true, Bool.false_or, pure_bind]
/-- what is asked of the program -/
class PX (P : Program) : Prop where
  top : (P.main.scope.names.lookup ("super" : Str)).isSome = false
  file : P.main.file = "/claim/cut.py"
/-- what the written part says of the class at C, and of its __init__ at fI -/
structure SupTxt (K : Frag) (mg : Str → Option Value) (C fI : Addr) (fd : FuncData) (qual fld : Str) : Prop where
  oex : OexC K C
  xf : XfC K C
  noN : findIn K (.ref C) fld = some none
  iC : findIn K (.ref C) "__init__" = some (some (.ref fI))
  tI : typeIn K (.ref fI) = some (.type "function")
  sup : ks_superIn K C C "__init__" = some (some (.builtin "ValueError.__init__"))
  mro : mroIn K C (.ref C) = some true
  sub : subIn K (.ref C) (.type "ValueError") = some true
  nsu : mg "super" = none
  bnd : Binds K fd ["self", fld] []
  any : nsIn K cStatics "thirdparty.any" = some none
  sc : NScope ["self", fld, "__class__"] ["self", fld] ["__class__"] (sS fld)
  d1 : (fld == ("__debug__" : Str)) = false
  d2 : (fld == ("__classdict__" : Str)) = false
  scs : (sS fld).names.lookup ("super" : Str) = some .globalImplicit
  fn : ∃ (oc : Value) (od : Option Addr) (dV kV doc pm : Value) (an : Option Addr) (cda cc : Addr) (ct : Value) (osl : Array (Option Value)) (p1 p2 : Pos) (msg : Str) (k : Nat) (q1 q2 q3 q4 q5 q6 q7 q8 q9 q10 : Pos),
    fd = ksFn "__init__" qual (sA fld p1 p2) (sB fld msg k q1 q2 q3 q4 q5 q6 q7 q8 q9 q10) (sS fld) dV kV doc pm an (.ref cda) ct cc ∧ (q3.endLine == q5.line) = true ∧ K.lookup fI = some ⟨oc, od, .func fd, osl⟩ ∧ codeIn K (.ref cda) qual = true ∧
    (∃ (cl : Value) (cld : Option Addr) (csl : Array (Option Value)), K.lookup cc = some ⟨cl, cld, .cell (some (.ref C)), csl⟩) ∧
    ∃ (cl : Value) (cld : Option Addr) (csl : Array (Option Value)) (vs : Array Value) (tf : Tok), K.lookup cda = some ⟨cl, cld, .fields vs, csl⟩ ∧ vs[2]? = some (.str "/claim/cut.py" tf)
/-- what such an __init__ promises -/
def spSup (C : Addr) (fld : Str) : Sp := fun vs H Q _ => ∃ (a : Addr) (v : V), vs = [.ref a, v] ∧ H a = some (exo a C none) ∧ ∀ dx, H dx = none → dx ≠ a → Q .non (upd (upd H dx (exd dx [(fld, v)])) a (exo a C (some dx)))
section
variable {P : Program} {w : World} {A : Around} {E : Value → Shared → Prop} {hp : Heap} {g : Array GenState} {d : Drawn} {t : Nat} {os : OsState}
/-- the bound built-in __init__ called: the error's args are laid anew -/
theorem bw_call {nm q : Str} {C N u x t0 : Addr} {bs bm : List Value} {hdct : Bool} {sn : List Str} {sub : List Value} {ab : Bool} {col : Option Bool} {dd : Option Addr} {k0 k1 k2 k3 k5 : Option Value} {us : List Value} {Q : Value → Shared → Prop}
    (hC : hp.get? C = some (excClassObj nm q C N bs bm hdct sn sub ab col dd k0 k1 k2 k3 k5 "ValueError.__new__")) (hx : hp.get? x = some (PySem.HandSPX.excO C t0)) (hu : hp.get? u = some (kxs_mw "ValueError.__init__" x)) (hz : us.length ≤ sizeLine)
    (h : ∀ h' t1, (∀ b o, b ≠ x → hp.get? b = some o → h'.get? b = some o) → h'.get? x = some (PySem.HandSPX.excO C t1) → Q .none ⟨h', g, d, t, os⟩) : wpAny (model P w) A (call (.ref u) us) Q E ⟨hp, g, d, t, os⟩ := by
  have isMw : (Value.type "method-wrapper" == Value.type "method" || Value.type "method-wrapper" == Value.type "builtin_function_or_method" || Value.type "method-wrapper" == Value.type "method-wrapper") = true := by decide
  refine wpAny_call (codeAny_of_tree ?_)
  show wpAny _ A.in1 (callAny (.ref u) ⟨us, []⟩) _ _ _
  simp only [callAny]
  refine wpAny_bind (wpAny_load hu ?_)
  simp only [kxs_mw, isMw, if_true]
  refine KFB.if_so (by decide) (wpAny_bind (check_bound_init F.excBase_ValueError.toExcCallFacts hC hx rfl (wpAny_bind (wpAny_pure (wpAny_pure ?_)))))
  exact ⟨plainId_quiet F.excBase_ValueError.init.plain _, codeAny_builtin F.excBase_ValueError.initEntry (exc_init_tree (cls := .ref C) (t0 := t0) (dv := none) (c2 := .none) (c3 := .none) (b4 := .bool false) hx hz fun h' k e _ => h h' _ k e)⟩
end
section
variable {P : Program} {w : World} {K : Frag} {mg : Str → Option Value} {base : Heap} {CX : CXT} {C fI : Addr} {fd : FuncData} {qual fld : Str}
theorem sup_ok [px : PX P] (T : SupTxt K mg C fI fd qual fld) : FnOk P w K mg base CX 1 fI fd ["self", fld] (spSup C fld) := by
  refine ⟨fun vs H Q E h => ?_, fun A outer s H args us vs Q E hr e0 hb r h => ?_⟩
  · obtain ⟨a, v, rfl, _⟩ := h
    rfl
  obtain ⟨oc, od, dV, kV, doc, pm, an, cda, cc, ct, osl, p1, p2, msg, k, q1, q2, q3, q4, q5, q6, q7, q8, q9, q10, rfl, hln, hfI, hcd, ⟨cl1, cld1, csl1, hcc⟩, cl2, cld2, csl2, fv, tf, hcda, hfv⟩ := T.fn
  have hfile : ((P.main.file : Str) == "/claim/cut.py") = true := by rw [px.file]; decide +kernel
  have kin : K.In s.heap := e0.mod.kin.keeps fun b o e => (e0.bs b o e).1
  have lim : s.heap.NoLimit := e0.mod.nolimit.keeps fun b o e => (e0.bs b o e).1
  let NFm : NF := ⟨"__init__", qual, sA fld p1 p2, sB fld msg k q1 q2 q3 q4 q5 q6 q7 q8 q9 q10, sS fld, [("__class__", cc)], cda⟩
  refine ks_codeAny_call_defAt hr.depth (kin _ _ hfI) rfl lim (codeRec_of kin hcd) rfl hb T.sc.nocell (fun y hy => T.sc.par _ (List.of_mem_zip hy).1) (fun h₁ hns kp => ?_) rfl rfl rfl
  obtain ⟨a, v, rfl, ea, hq⟩ := h
  cases r with
  | @cons _ u0 _ ur ra rr =>
  obtain rfl : u0 = Value.ref a := ra
  cases rr with
  | @cons _ u1 _ ur' rv rn =>
  cases rn
  have hcell : s.heap.IsCell cc (some (.ref C)) := ⟨_, kin _ _ hcc, rfl⟩
  have ncc : H cc = none := (e0.bs cc _ (e0.mod.kin _ _ hcc)).2
  have CA : CellsAt NFm.cl ["__class__"] [some (V.ref C)] s.heap H := by
    refine ⟨rfl, fun y c e => ?_, fun x y c e1 e2 => ?_, fun i y e => ?_⟩
    · have z := PySem.mem_of_lookup e
      cases List.mem_singleton.mp z
      exact ⟨ncc, _, hcell⟩
    · have z1 := PySem.mem_of_lookup e1
      have z2 := PySem.mem_of_lookup e2
      cases List.mem_singleton.mp z1
      cases List.mem_singleton.mp z2
      rfl
    · cases i with
      | zero =>
        cases e
        exact ⟨cc, rfl, fun w e => by cases e; exact ⟨_, rfl, hcell⟩⟩
      | succ i => cases e
  have I : L2.Inv (ncx CX P w K mg base [("self" : Str), fld, "__class__"] NFm fI A outer s H E) [] (startF [("self" : Str), fld, "__class__"] [V.ref a, v] [some (V.ref C)]) H { s with heap := h₁, toks := s.toks + ([("self" : Str), fld].zip [Value.ref a, u1]).length } :=
    inv_startN T.sc hr.hd e0 rfl (.cons (show L2.RelV (.ref a) (.ref a) from rfl) (.cons rv .nil)) CA hns kp
  have kin1 : K.In h₁ := kin.keeps kp
  obtain ⟨nm, q, N, bs, bm, sn, sub, ab, col, dd, k0, k1, k2, k3, k5, hC, hbm⟩ := T.oex.cls
  have hcl : clsIn K C = some { name := nm, bases := bs, mro := .ref C :: bm, ns := N, qualname := q, hasDict := true, slotNames := sn, subclasses := sub, abstract := ab, collection := col, hasDel := false } := by unfold clsIn; rw [hC] <;> rfl
  have hself : ([("self" : Str), fld].zip [Value.ref a, u1]).reverse.lookup ("self" : Str) = some (.ref a) := by
    have nd : (["self", fld] : List Str).Nodup := by
      have q := T.sc.nd.sublist (List.take_sublist 2 _)
      exact q
    exact zip_look (i := 0) nd rfl rfl
  obtain ⟨t1, hx1⟩ := exo_at I.hok ea
  have gl1 := I.mod.glob.keeps I.bk
  obtain ⟨mb, hb1, hb2⟩ := I.mod.blt
  refine ks_wpAt_execs_cons (ks_wpAt_Expr_any (ks_wpAt_MethodCall (he := sup_eval _ hln) (ks_wpAt_super_base (f := fI) (cc := cda) (ar := { arg := "self", annotation := none, pos := p1 }) T.scs (T.sc.frk _ List.mem_cons_self) (by decide) rfl (kin1 _ _ hfI) rfl rfl rfl (kin1 _ _ hcda) rfl hfv hfile px.top ?_)))
  refine ks_loadName_global rfl T.scs (loadGlobal_builtin gl1 T.nsu (hb1.keeps I.bk) ((hb2 _ (by decide)).trans (by decide +kernel)) ⟨rfl, ?_⟩)
  refine wpAny_loadName_free rfl (T.sc.frk _ List.mem_cons_self) rfl ⟨_, kin1 _ _ hcc, rfl⟩ ?_
  refine wpAny_loadName_local rfl (T.sc.par _ List.mem_cons_self) hns hself ?_
  obtain ⟨oC, hoC, hdC⟩ : ∃ oC, h₁.get? C = some oC ∧ oC.data = .cls _ := ⟨_, kin1 _ _ hC, rfl⟩
  refine ks_wpAny_isType_cls hoC hdC ⟨rfl, ?_⟩
  refine ks_wpAny_call_super hoC hdC hx1 rfl (fun c z => by cases z) (looks_mroIn kin1 T.mro) (fun h2 so2 kp2 => ?_)
  have kin2 := kin1.keeps kp2
  have hx2 := kp2 _ _ hx1
  have IA : InstAt h2 a (PySem.HandSPX.excO C t1) C none := ⟨hx2, rfl, rfl, trivial⟩
  refine kxs_getMethod kxs_ValueError so2 (looks_opaque kin2 T.any) (l₀ := .ref C :: bm) (fun A Q E s k q => wpAny_bind ((looks_clsIn kin2 hcl) A _ E s k (wpAny_pure q))) rfl kin2 (by
    have z := T.sup
    unfold ks_superIn at z
    rw [hcl] at z
    exact z) (IA.type.andThen (looks_subIn kin2 T.sub)) (ks_ne kin2 IA hcl) (by decide) ?_
  have kp3 : ∀ b o, h₁.get? b = some o → (h2.push (kxs_mw "ValueError.__init__" a)).get? b = some o := fun b o e => Heap.get?_push_of_some _ (kp2 b o e)
  have I2 := I.kept (h' := h2.push (kxs_mw "ValueError.__init__" a)) (t' := s.toks + ([("self" : Str), fld].zip [Value.ref a, u1]).length + 1) kp3
  have sz : h₁.objs.size ≤ h2.objs.size := Nat.le_of_lt (Heap.lt_size so2)
  have I3 : L2.Inv (ncx CX P w K mg base [("self" : Str), fld, "__class__"] NFm fI A outer s H E) [(h2.objs.size, kxs_mw "ValueError.__init__" a)] (startF [("self" : Str), fld, "__class__"] [V.ref a, v] [some (V.ref C)]) H ⟨h2.push (kxs_mw "ValueError.__init__" a), s.gens, s.drawn, s.toks + ([("self" : Str), fld].zip [Value.ref a, u1]).length + 1, s.os⟩ := by
    refine I2.pins_of fun p hp => ?_
    cases List.mem_singleton.mp hp
    exact ⟨Heap.get?_push_size _ rfl, I.hok.fresh sz, fun z => absurd (Nat.lt_of_lt_of_le I.lt sz) (by rw [← z]; exact Nat.lt_irrefl _), I.nofs sz, fun v z => by cases z⟩
  refine kxs_callWith (i := "ValueError.__init__") (x := a) rfl (evalArgs_plain ?_)
  refine wpAny_mono ((pa_cons (X := ncx CX P w K mg base [("self" : Str), fld, "__class__"] NFm fI A outer s H E) (pe_str (x := msg) (j := k) (pos := q4)) pa_nil).run q5 _ _ _ H (fun vs H1 => vs = [.str msg] ∧ H1 = H) I3 ⟨rfl, rfl⟩) (fun us s1 h1 => ?_) fun e s' he => he
  obtain ⟨vs1, H1, I4, r1, rfl, rfl⟩ := h1
  obtain ⟨pin1, _⟩ := I4.pin _ (List.mem_append_right _ List.mem_cons_self)
  refine ⟨pin1, ?_⟩
  obtain ⟨t4, hx4⟩ := exo_at I4.hok ea
  have kin4 : K.In s1.heap := I4.kIn
  obtain ⟨hp4, g4, d4, tk4, os4⟩ := s1
  refine bw_call (kin4 _ _ hC) hx4 pin1 (by show us.length ≤ sizeLine; rw [← r1.length, sizeLine_eq]; exact (by decide : 1 ≤ 16777216)) fun h5 t5 k5 hx5 => ?_
  have J := I4.write (t' := tk4) (x := a) (e := a) (o := exo a C none) (by rw [ea]; exact True.intro) (.inl rfl) k5 ⟨_, hx5⟩ (exo_ok hx5)
  have eu : upd H1 a (exo a C none) = H1 := by
    funext b
    by_cases hb : b = a
    · rw [hb, upd_same, ea]
    · rw [upd_ne hb]
  rw [eu] at J
  have J0 := J.pins_of (pins' := []) fun p hp => absurd hp (by simp)
  have vis : ∀ x, x ∈ [("self" : Str), fld] → Vis (sS fld) x := fun x hx => .inl (T.sc.par x hx)
  refine wpAt_of_wpAny ?_
  refine wpAny_mono ((pss_one (ps_ost (X := ncx CX P w K mg base [("self" : Str), fld, "__class__"] NFm fI A outer s H1 E) (p' := q8) (pos := q10) (pe_var (i := 0) (pos := q7) rfl (vis _ List.mem_cons_self)) (pe_var (i := 1) (pos := q9) rfl (vis _ (List.mem_cons_of_mem _ List.mem_cons_self)) T.d1 T.d2))).run [] _ _ H1 { nx := fun _ H' => Q .non H', rt := Q } J0 ⟨_, rfl, _, rfl, a, C, rfl, T.oex, T.noN, .inl ⟨ea, fun dx n ne => hq dx n ne⟩⟩) (fun fl s' hs => ?_) fun e s' he => he
  have fin : ∀ {σ' : L2.St} {H' : Hp} {v' : V} {u : Value}, L2.Inv (ncx CX P w K mg base [("self" : Str), fld, "__class__"] NFm fI A outer s H1 E) [] σ' H' s' → L2.RelV v' u → Q v' H' → CE outer P w H1 s Q u s' :=
    fun {σ' H' v' u} J rv q => ⟨v', H', J.os, J.bare, J.base, J.hok, rv, q⟩
  cases fl with
  | ret u =>
    obtain ⟨v', σ', H', J, rv, q⟩ := hs
    exact fin J rv q
  | next =>
    obtain ⟨σ', H', J, q⟩ := hs
    exact fin (v' := V.non) (u := Value.none) J rfl q
  | brk => exact hs.elim fun _ z => z.elim fun _ z => False.elim z.2
  | cont => exact hs.elim fun _ z => z.elim fun _ z => False.elim z.2
end
/-- X(e) made, to be raised -/
def tMkS (C : Addr) (fld : Str) (ta : TA) : L2.St → Hp → XK → Prop := tMkO C (spSup C fld) [] ta
theorem pmk_sup {X : Cx} {P : Program} [px : PX P] (hp : X.prog = P) {C fI : Addr} {fd : FuncData} {qual fld x : Str} {e : Expr} {ta : TA} {p pos : Pos} (T : SupTxt X.K X.mg C fI fd qual fld) (hr : Room 2 X.A) (hg : Gl X x) (hm : X.mg x = some (.ref C)) (ha : PA X [e] ta)
    (hdb : (x == ("__debug__" : Str)) = false := by decide) (he : starEach [e] X.env = (false, eval e X.env) :: starEach [] X.env := by rfl) (hpl : (backTo pos (starEach [] X.env)).any (·.1) = false := by rfl) :
    PMk X (.Call (.Name x p) [e] [] pos) (tMkS C fld ta) := by
  subst hp
  exact pmk_oex (CX := CX0) (ds := []) (dvs := []) T.oex T.iC T.tI (sup_ok T) hr T.bnd .nil pass0 hg hm ha hdb he hpl
/-- what is left to show of it, its argument read -/
theorem x_mkS {C : Addr} {fld : Str} {v : V} {G : Hp} {Q : XK} (h : ∀ d, G d = none → Q (.ref C) (some d) (upd G d (.xd [(fld, v)]))) :
    [v].length ≤ 1000 ∧ ∀ a, G a = none → spSup C fld (.ref a :: ([v] ++ [])) (upd G a (exo a C none)) (fun u H2 => u = .non ∧ ∃ (d : Addr) (fs : List (Str × V)), H2 a = some (exo a C (some d)) ∧ H2 d = some (exd d fs) ∧ G d = none ∧ Q (.ref C) (some d) (upd (del H2 a) d (.xd fs))) (fun _ _ _ => False) := by
  refine ⟨Nat.le_of_ble_eq_true rfl, fun a na => ⟨a, v, rfl, upd_same, fun dx ndx ne => ⟨rfl, dx, [(fld, v)], upd_same, ?_, ?_, ?_⟩⟩⟩
  · rw [upd_ne ne, upd_same]
  · rwa [upd_ne ne] at ndx
  · have nd : G dx = none := by rwa [upd_ne ne] at ndx
    have e : upd (del (upd (upd (upd G a (exo a C none)) dx (exd dx [(fld, v)])) a (exo a C (some dx))) a) dx (.xd [(fld, v)]) = upd G dx (.xd [(fld, v)]) := by
      funext b
      by_cases h1 : b = dx
      · rw [h1, upd_same, upd_same]
      · rw [upd_ne h1, upd_ne h1]
        by_cases h2 : b = a
        · rw [h2, del_same, na]
        · rw [del_ne h2, upd_ne h2, upd_ne h1, upd_ne h2]
    rw [e]
    exact h dx nd
theorem x_tMkS {C : Addr} {fld : Str} {ta : TA} {τ : L2.St} {G : Hp} {Q : XK} (h : ta τ G fun vs H1 => vs.length ≤ 1000 ∧ ∀ a, H1 a = none → spSup C fld (.ref a :: (vs ++ [])) (upd H1 a (exo a C none))
    (fun v H2 => v = .non ∧ ∃ (d : Addr) (fs : List (Str × V)), H2 a = some (exo a C (some d)) ∧ H2 d = some (exd d fs) ∧ H1 d = none ∧ Q (.ref C) (some d) (upd (del H2 a) d (.xd fs))) (fun _ _ _ => False)) : tMkS C fld ta τ G Q := h
section
variable {X : Cx} {CX : CXT} {k : Nat} {f C : Addr} {fd : FuncData} {ps : List Str} {sp : Sp} {E : L2.St → XK} {m : Str} {p pos apos : Pos} {e o : Expr} {es : List Expr} {ta : TE} {t : TA}
/-- o.m(e, ..), what it may raise wished by the slots -/
def tMethX (C : Addr) (m : Str) (sp : Sp) (E : L2.St → XK) (ta : TE) (t : TA) : TE := fun τ G Q => ta τ G fun x G1 => ∃ a dx fs, x = .ref a ∧ G1 a = some (.ins C dx fs) ∧ fs.lookup m = none ∧ t τ G1 fun vs G2 => sp (x :: vs) G2 Q (E τ)
theorem pe_methX {pl : Sem Bool} (he : PE X o ta) (c : Cls X.K C) (hm : Meth X.K C m f) (F : FnOk X.prog X.w X.K X.mg X.base CX k f fd ps sp) (hr : Room k X.A) (hb : Binds X.K fd ps []) (hx : ∀ τ, PassesAt CX X τ (E τ)) (ha : PA X (e :: es) t)
    (hst : starEach (e :: es) X.env = (false, eval e X.env) :: starEach es X.env := by rfl) (hpl : (backTo pos (starEach es X.env)).any (·.1) = false := by rfl)
    (ht : eval (.Call (.Attribute o m apos) (e :: es) [] pos) X.env = (do
      let ov ← eval o X.env
      standAt apos.atName
      let (g, first) ← holding [ov] (getMethod ov m pl)
      callWith pos g first (backTo pos (starEach (e :: es) X.env)) (backToKw pos (keywordEach [] X.env))) := by rfl) :
    PE X (.Call (.Attribute o m apos) (e :: es) [] pos) (tMethX C m sp E ta t) := by
  refine ⟨fun pins s τ G Q I rd => PySem.W.methodCall_KW (pl := pl) (thn (he.run pins s τ G _ I rd) fun u s1 h1 => ?_) ht⟩
  obtain ⟨x, G1, I1, rx, a, dx, fs, rfl, ea, l, q⟩ := h1
  cases (show u = Value.ref a from rx)
  refine getmeth_ok I1 ea c hm l (PySem.W.callWith_K (first := [.ref a]) (h₀ := X.base) I.ok.mod.kin hm.kp (thn (ha.run pos pins s1 τ G1 _ I1 q) fun us s2 h2 => ?_) hst hpl)
  obtain ⟨vs, G2, I2, r, q2⟩ := h2
  exact ⟨I2.kIn, run_fnS (us := .ref a :: us) (vs := .ref a :: vs) F hr hb (hx τ) I2 (.cons rfl r) q2⟩
end
end SupX

/-! ### try with several clauses, each with or without a name -/
namespace L2
open PySem PySem.Spec PyProof.Rows
/-- the ends of a suite whose name's slot is emptied behind it -/
def Ends.gone (D : Ends) : Option Nat → Ends
  | none => D
  | some i => { nx := fun τ G => D.nx (τ.set i none) G, rt := D.rt, bk := fun τ G => D.bk (τ.set i none) G, ct := fun τ G => D.ct (τ.set i none) G }
def held (τ : St) (a : Addr) : Option Nat → St
  | none => τ
  | some i => τ.set i (some (.ref a))
structure MixC where
  cls : Value
  slot : Option Nat
  suite : Addr → Value → Option Addr → TS
def wMix (K : PySem.W.Frag) (Wout : WX) (D : Ends) : List MixC → WX
  | [] => Wout
  | m :: r => fun cv dv τ G => ∃ b, PySem.W.exmOne K cv m.cls = some b ∧ (b = true → ∀ a, G a = none → m.suite a cv dv (D.gone m.slot) (held τ a m.slot) G) ∧ (b = false → wMix K Wout D r cv dv τ G)
/-- a clause's name: none, or a local name in its slot -/
def NameAt (X : Cx) : Option Str → Option Nat → Prop
  | none, none => True
  | some n, some i => X.N[i]? = some n ∧ X.env.kindOf n = some .local
  | _, _ => False
inductive MixOk (X : Cx) : List ExceptHandler → List MixC → Prop
  | nil : MixOk X [] []
  | cons {x : Str} {m : MixC} {o : Option Str} {st₀ : Stmt} {sts : List Stmt} {p₁ p₂ : Pos} {hds : List ExceptHandler} {l : List MixC} (hc : Names X x m.cls) (hn : NameAt X o m.slot)
      (hs : ∀ (a : Addr) (ob : Obj) (cv : Value) (dv : Option Addr) (pn : List (Addr × Obj)), Zc cv dv ob → (∃ vs, ob.data = .fields vs) → PSs (X.suite a ((a, ob) :: pn)) (st₀ :: sts) (m.suite a cv dv)) (r : MixOk X hds l) :
      MixOk X (.ExceptHandler (some (.Name x p₁)) o (st₀ :: sts) p₂ :: hds) (m :: l)
section
variable {X : Cx} {body : List Stmt} {hd₀ : ExceptHandler} {hds : List ExceptHandler} {l : List MixC} {pos : Pos} {tb : WX → TS} {Wout : WX}
theorem ps_try_mix (hstk : X.stack = X.env :: X.outer) (hfr : X.env.frame = some X.env.locals) (nd : X.N.Nodup) (tk : Takes X Wout)
    (hb : ∀ (W : WX) (pn : List (Addr × Obj)) (xe : Value → Shared → Prop), Takes (X.tr pn xe) W → PassesOwn (model X.prog X.w) X.A X.env xe → PSs (X.tr pn xe) body (tb W))
    (hh : MixOk X (hd₀ :: hds) l) : PS X (.Try body (hd₀ :: hds) [] [] pos) (fun D τ G => tb (wMix X.K Wout D l) D τ G) := by
  refine ⟨fun pins s τ G D I rd => ?_⟩
  have okX := I.ok
  have framesX : X.A.frames = some (X.env :: X.outer) := okX.frames.trans (congrArg some hstk)
  refine wpAny_Try_except ?_
  let xe : Value → Shared → Prop := fun e s₁ => wpAny (model X.prog X.w) X.A (noteFrame e X.env) (fun _ s₂ =>
      wpAny (model X.prog X.w) X.A (setFlight e none) (fun _ s₃ =>
        wpAny (model X.prog X.w) X.A (handleBy e X.env (hd₀ :: hds)) (SP X pins D) X.xe s₃) X.xe s₂) X.xe s₁
  have tkB : Takes (X.tr (X.pn ++ pins) xe) (wMix X.K Wout D l) := by
    intro u s' caught
    obtain ⟨a, B, sI, pins', τ', G', cv, dv, rfl, J', nb, up, sky, na, os, ag, wsh⟩ := caught
    have J : Inv X pins τ' G' sI := J'.ofTry okX
    have skyX : Sky B (X.env :: X.outer) a (Zc cv dv) X.env.locals s'.heap := hstk ▸ sky
    show wpAny (model X.prog X.w) X.A (noteFrame (.ref a) X.env) _ _ _
    refine Sky.land Zc.steady framesX hfr skyX fun g3 fl3 up3 => ?_
    have J3 : Inv X pins τ' G' { s' with heap := g3 } := J.landed nb fl3.1 (up.trans up3) os ag
    obtain ⟨o3, vs3, e3, z3, d3⟩ := fl3.there
    have nfr : a ∉ frs (X.env :: X.outer) := fun m => by
      obtain ⟨_, o', e', hnf⟩ := fl3.2.2.1.mem m
      rw [e3] at e'
      cases e'
      exact hnf _ d3
    have nL : a ≠ X.env.locals := fun z => nfr (List.mem_filterMap.mpr ⟨X.env, List.mem_cons_self, hfr.trans (congrArg some z.symm)⟩)
    have nF : a ∉ X.fs := fun m => by
      obtain ⟨ev, hev, q⟩ := List.mem_filterMap.mp m
      exact nfr (List.mem_filterMap.mpr ⟨ev, List.mem_cons_of_mem _ hev, q⟩)
    have S3 := J3.suite e3 d3 na nL nF
    have go : ∀ {hs' : List ExceptHandler} {l' : List MixC}, MixOk X hs' l' → wMix X.K Wout D l' cv dv τ' G' →
        wpAny (model X.prog X.w) X.A (handleBy (.ref a) X.env hs') (SP X pins D) X.xe { s' with heap := g3 } := by
      intro hs' l' mo
      induction mo with
      | nil =>
        intro wsh
        refine wpAny_handleBy_nil ?_
        obtain ⟨_, _, _, oe, vs, T, oT, ts', he, hz, hdt, h1, hr⟩ := id fl3
        unfold PySem.passOn
        refine wpAny_bind (wpAny_field he hdt h1 ?_)
        rw [if_neg (show ¬ ((Value.ref T == Value.none) = true) from by simp)]
        have up_ : wpAny (model X.prog X.w) X.A (setFlight (.ref a) X.env.frame) (fun _ s4 =>
            wpAny (model X.prog X.w) X.A (throw (.ref a) : Sem Flow) (SP X pins D) X.xe s4) X.xe { s' with heap := g3 } := by
          rw [hfr]
          exact HandSPX.setFlight_upZ fl3 fun g4 hg4 up4 => wpAny_throw (tk _ _
            ⟨a, B, sI, pins, τ', G', cv, dv, rfl, J, nb, (up.trans up3).trans up4, .inr (.inr (hstk.symm ▸ hg4)), na, os, ag, wsh⟩)
        first
          | exact wpAny_bind (wpAny_pure (wpAny_bind up_))
          | exact wpAny_bind up_
      | @cons x m o st₀ sts p₁ p₂ hds2 l2 hc hn hsu r ih =>
        intro wsh
        obtain ⟨b, hb1, yes, no⟩ := wsh
        refine wpAny_handleBy_cons (codeAny_handlers_test ?_) (by intro q; cases q)
        have tyA : PySem.W.Looks (model X.prog X.w) g3 (typeOf (.ref a)) cv := fun A Q E s k q => wpAny_typeOf_ref (k _ _ e3) (by rw [z3.1]; exact q)
        have isA := PySem.W.exm_one (M := model X.prog X.w) (J3.kIn) tyA hb1
        have test : ∀ {Q E : Value → Shared → Prop}, Q m.cls { s' with heap := g3 } →
            wpAny (model X.prog X.w) (X.A.mark (some (.ref a))) (eval (.Name x p₁) X.env) Q E { s' with heap := g3 } := fun {Q E} q => by
          obtain ⟨hg, hdb, hm | ⟨hm, hv, hnn⟩⟩ := hc
          · exact ld_glob (X := X.suite a ((a, o3) :: (X.pn ++ pins))) S3 hg hm q hdb
          · exact ld_blt (X := X.suite a ((a, o3) :: (X.pn ++ pins))) S3 hg hm hv q hnn hdb
        refine test (isA.here ?_)
        cases b with
        | false =>
          show wpAny _ X.A (handleBy (.ref a) X.env hds2) _ _ _
          exact ih (no rfl)
        | true =>
          have rdS := yes rfl a na
          obtain ⟨mc, ms, mt⟩ := m
          cases o with
          | none =>
            cases ms with
            | some i => exact hn.elim
            | none =>
              refine codeAny_handlers_suite ?_
              refine HandSPX.lands_againZ fl3 fun g4 fl4 up4 => ?_
              have J4 : Inv X pins τ' G' { s' with heap := g4 } := J.landed nb fl4.1 ((up.trans up3).trans up4) os ag
              obtain ⟨o4, vs4, e4, z4, d4⟩ := fl4.there
              refine wpAny_mono ((hsu a o4 cv dv (X.pn ++ pins) z4 ⟨_, d4⟩).run [] _ _ G' _ (J4.suite e4 d4 na nL nF) rdS) (fun f s6 hsp => ?_) (fun _ _ z => False.elim z)
              cases f with
              | ret u => exact let ⟨v6, τ6, G6, S6, r6, q6⟩ := hsp; ⟨v6, τ6, G6, S6.unsuite okX, r6, q6⟩
              | next => exact let ⟨τ6, G6, S6, q6⟩ := hsp; ⟨τ6, G6, S6.unsuite okX, q6⟩
              | brk => exact let ⟨τ6, G6, S6, q6⟩ := hsp; ⟨τ6, G6, S6.unsuite okX, q6⟩
              | cont => exact let ⟨τ6, G6, S6, q6⟩ := hsp; ⟨τ6, G6, S6.unsuite okX, q6⟩
          | some n =>
            cases ms with
            | none => exact hn.elim
            | some i =>
              obtain ⟨hi, hln⟩ := hn
              refine codeAny_handlers_suite_as ?_
              refine HandSPX.lands_againZ fl3 fun g4 fl4 up4 => ?_
              have J4 : Inv X pins τ' G' { s' with heap := g4 } := J.landed nb fl4.1 ((up.trans up3).trans up4) os ag
              obtain ⟨o4, vs4, e4, z4, d4⟩ := fl4.there
              refine store_ok (X := X.suite a ((a, o4) :: (X.pn ++ pins))) (v := .ref a) (J4.suite e4 d4 na nL nF) nd hi (.inl hln) rfl (fun s5 S5 => ?_) (.inr hln)
              refine wpAny_mono ((hsu a o4 cv dv (X.pn ++ pins) z4 ⟨_, d4⟩).run [] s5 _ G' _ S5 rdS) (fun f s6 hsp => ?_) (fun _ _ z => False.elim z)
              have close : ∀ {τ6 : St} {G6 : Hp} {Q : Shared → Prop}, Inv (X.suite a ((a, o4) :: (X.pn ++ pins))) [] τ6 G6 s6 → (∀ s7, Inv X pins (τ6.set i none) G6 s7 → Q s7) →
                  wpAny (model X.prog X.w) X.A (do bindName X.env n .none; unbindBehindTheSuite X.env n p₂) (fun _ s7 => Q s7) X.xe s6 := fun {τ6 G6 Q} S6 hq =>
                gone_ok (S6.unsuite okX) nd hi hln hq
              cases f with
              | ret u => exact let ⟨v6, τ6, G6, S6, r6, q6⟩ := hsp; close S6 fun s7 J7 => ⟨_, _, _, J7, r6, q6⟩
              | next => exact let ⟨τ6, G6, S6, q6⟩ := hsp; close S6 fun s7 J7 => ⟨_, _, J7, q6⟩
              | brk => exact let ⟨τ6, G6, S6, q6⟩ := hsp; close S6 fun s7 J7 => ⟨_, _, J7, q6⟩
              | cont => exact let ⟨τ6, G6, S6, q6⟩ := hsp; close S6 fun s7 J7 => ⟨_, _, J7, q6⟩
    exact go hh wsh
  refine wpAny_mono ((hb (wMix X.K Wout D l) (X.pn ++ pins) xe tkB PassesOwn.looking).run [] s τ G D (I.toTry _) rd) (fun f s1 hsp => ?_) (fun e s1 he => he)
  cases f with
  | ret u => exact let ⟨v, τ', G', J', r, q⟩ := hsp; ⟨v, τ', G', J'.ofTry okX, r, q⟩
  | next => exact let ⟨τ', G', J', q⟩ := hsp; wpAny_execs_nil ⟨τ', G', J'.ofTry okX, q⟩
  | brk => exact let ⟨τ', G', J', q⟩ := hsp; ⟨τ', G', J'.ofTry okX, q⟩
  | cont => exact let ⟨τ', G', J', q⟩ := hsp; ⟨τ', G', J'.ofTry okX, q⟩
end
end L2

/-! ### tuples of the same items compared -/
namespace L2
open PySem PySem.Spec PyProof.Rows
def plainV : V → Bool
  | .non | .bl _ | .int _ | .str _ | .ref _ => true
  | _ => false
theorem eqAt_plain {A : Around} {s : Shared} {v : V} {u w : Value} (h : plainV v = true) (ru : RelV v u) (rw' : RelV v w) : SeqAt.EqAt A s u w true := by
  cases v with
  | non =>
    cases (show u = Value.none from ru)
    cases (show w = Value.none from rw')
    exact SeqAt.EqAt.same _
  | bl b =>
    cases (show u = Value.bool b from ru)
    cases (show w = Value.bool b from rw')
    exact SeqAt.EqAt.same _
  | ref a =>
    cases (show u = Value.ref a from ru)
    cases (show w = Value.ref a from rw')
    exact SeqAt.EqAt.same _
  | int i =>
    obtain ⟨t, rfl⟩ := (show ∃ t, u = Value.int i t from ru)
    obtain ⟨t', rfl⟩ := (show ∃ t, w = Value.int i t from rw')
    have := SeqAt.EqAt.int_int (A := A) (s := s) i t i t'
    rwa [beq_self_eq_true] at this
  | str x =>
    obtain ⟨t, rfl⟩ := (show ∃ t, u = Value.str x t from ru)
    obtain ⟨t', rfl⟩ := (show ∃ t, w = Value.str x t from rw')
    have := SeqAt.EqAt.str_str (A := A) (s := s) x t x t'
    rwa [beq_self_eq_true] at this
  | byt b => cases h
  | flt b => cases h
  | ty n => cases h
def rEqS (K : PySem.W.Frag) : R2 := fun x y H Q => ∃ a b xs, x = .ref a ∧ y = .ref b ∧ SqT K H a xs ∧ SqT K H b xs ∧ (∀ v ∈ xs, plainV v = true) ∧ Q (.bl true) H
def rNeS (K : PySem.W.Frag) : R2 := fun x y H Q => ∃ a b xs, x = .ref a ∧ y = .ref b ∧ SqT K H a xs ∧ SqT K H b xs ∧ (∀ v ∈ xs, plainV v = true) ∧ Q (.bl false) H
section
variable {X : Cx} {pins : List (Addr × Obj)} {σ : St} {H : Hp} {s : Shared}
theorem tup_same {a b : Addr} {xs : List V} (I : Inv X pins σ H s) (h1 : SqT X.K H a xs) (h2 : SqT X.K H b xs) (ok : ∀ v ∈ xs, plainV v = true) :
    ∃ us ws : List Value, s.heap.IsTuple a us.toArray ∧ s.heap.IsTuple b ws.toArray ∧ us.length = ws.length ∧ ∀ A j (g1 : j < us.toArray.size) (g2 : j < ws.toArray.size), SeqAt.EqAt A s us.toArray[j] ws.toArray[j] ((fun _ => true) j) := by
  obtain ⟨us, r1, ⟨o1, e1, c1, n1, d1⟩, _⟩ := I.tuple h1
  obtain ⟨ws, r2, ⟨o2, e2, c2, n2, d2⟩, _⟩ := I.tuple h2
  refine ⟨us, ws, ⟨o1, e1, c1, n1, d1⟩, ⟨o2, e2, c2, n2, d2⟩, r1.length.symm.trans r2.length, fun A j g1 g2 => ?_⟩
  have g1' : j < us.length := by simpa using g1
  have hj : j < xs.length := by rw [r1.length]; exact g1'
  obtain ⟨u, hu, ru⟩ := r1.get (List.getElem?_eq_getElem hj)
  obtain ⟨w, hw, rw'⟩ := r2.get (List.getElem?_eq_getElem hj)
  obtain ⟨_, eu⟩ := List.getElem?_eq_some_iff.mp hu
  obtain ⟨_, ew⟩ := List.getElem?_eq_some_iff.mp hw
  have e3 : us.toArray[j] = u := by simpa using eu
  have e4 : ws.toArray[j] = w := by simpa using ew
  rw [e3, e4]
  exact eqAt_plain (ok _ (List.getElem_mem hj)) ru rw'
theorem all_true {n m : Nat} (h : n = m) : ((List.range (min n m)).all (fun _ => true) && n == m) = true := by
  subst h
  simp
theorem op_eqS (hu : X.A.units < cLine) : OpR X (compareOp .Eq) (rEqS X.K) := by
  intro pins s σ H x y v u Q I rx ry h
  obtain ⟨a, b, xs, rfl, rfl, h1, h2, ok, q⟩ := h
  cases (show v = Value.ref a from rx)
  cases (show u = Value.ref b from ry)
  obtain ⟨us, ws, t1, t2, l, e⟩ := tup_same I h1 h2 ok
  refine SeqAt.RcAt.tuples t1 t2 hu (e := fun _ => true) (fun j g1 g2 => e _ j g1 g2) X.prog X.w _ _ ?_
  rw [all_true (by simpa using l)]
  exact ⟨.bl true, H, I, rfl, q⟩
theorem op_neS (hu : X.A.units < cLine) : OpR X (compareOp .NotEq) (rNeS X.K) := by
  intro pins s σ H x y v u Q I rx ry h
  obtain ⟨a, b, xs, rfl, rfl, h1, h2, ok, q⟩ := h
  cases (show v = Value.ref a from rx)
  cases (show u = Value.ref b from ry)
  obtain ⟨us, ws, t1, t2, l, e⟩ := tup_same I h1 h2 ok
  refine SeqAt.RcNeAt.tuples t1 t2 hu (e := fun _ => true) (fun j g1 g2 => e _ j g1 g2) X.prog X.w _ _ ?_
  rw [all_true (by simpa using l)]
  exact ⟨.bl false, H, I, rfl, q⟩
end
end L2
namespace M
open PySem PySem.Spec PyProof.Rows L2
theorem w_eqS {X : Cx} {K : PySem.W.Frag} (h : X.K = K) (hu : X.A.units < cLine) : OpR X (compareOp .Eq) (rEqS K) := by subst h; exact op_eqS hu
theorem w_neS {X : Cx} {K : PySem.W.Frag} (h : X.K = K) (hu : X.A.units < cLine) : OpR X (compareOp .NotEq) (rNeS K) := by subst h; exact op_neS hu
theorem x_tryMix {c : Value} {K : PySem.W.Frag} {D : Ends} {l : List MixC} {m : MixC} {Wout : WX} {cv : Value} {dv : Option Addr} {τ : L2.St} {G : Hp} (e : PySem.W.exmOne K cv m.cls = some true) (h : ∀ a, G a = none → m.suite a cv dv (D.gone m.slot) (held τ a m.slot) G) : wMix K Wout D (m :: l) cv dv τ G :=
  ⟨true, e, fun _ => h, fun z => nomatch z⟩
theorem x_tryMixN {K : PySem.W.Frag} {D : Ends} {l : List MixC} {m : MixC} {Wout : WX} {cv : Value} {dv : Option Addr} {τ : L2.St} {G : Hp} (e : PySem.W.exmOne K cv m.cls = some false) (h : wMix K Wout D l cv dv τ G) : wMix K Wout D (m :: l) cv dv τ G :=
  ⟨false, e, (fun z => nomatch z), fun _ => h⟩
theorem exm_pair {K : PySem.W.Frag} {x y : Addr} {b : Bool} (h1 : PySem.W.subIn K (.ref y) (.type "BaseException") = some true) (h2 : PySem.W.isClsIn K y = true) (h3 : PySem.W.typeIn K (.ref y) = some (.type "type")) (h4 : PySem.W.subIn K (.ref x) (.ref y) = some b) :
    PySem.W.exmOne K (.ref x) (.ref y) = some b := by
  unfold PySem.W.exmOne
  rw [h1]
  show PySem.W.kitCls K (.ref x) (.ref y) = some b
  unfold PySem.W.kitCls
  show (if ((PySem.W.clsIn K y).isSome && PySem.W.typeIn K (.ref y) == some (.type "type")) = true then _ else _) = _
  rw [h3]
  have : (PySem.W.clsIn K y).isSome = true := h2
  rw [this]
  exact h4
end M

set_option Elab.async false
set_option linter.all false
set_option maxRecDepth 100000
set_option maxHeartbeats 2000000
/-! own errors without an __init__ of their own; isinstance of a caught one -/
namespace SupX
open PySem PySem.Spec PyProof.Rows L2 PySem.W PySem.Calls
abbrev bmVE : List Value := [.type "ValueError", .type "Exception", .type "BaseException", .type "object"]
/-- what the written part says of such a class -/
structure PlnTxt (K : Frag) (C : Addr) : Prop where
  exc : excIn K C bmVE "ValueError.__new__" = true
  kp : keepIn K (.ref C) = true
  sb : subIn K (.ref C) (.type "BaseException") = some true
  ty : typeIn K (.ref C) = some (.type "type")
  isc : L2.ExcC K C
section
variable {X : Cx} {C : Addr}
/-- X() -/
theorem pmk_own0 {K : Frag} {x : Str} {p pos : Pos} (hK : X.K = K) (T : PlnTxt K C) (gC : X.mg x = some (.ref C)) (hg : Gl X x) (hdb : (x == ("__debug__" : Str)) = false := by decide) :
    PMk X (.Call (.Name x p) [] [] pos) (fun _ H Q => Q (.ref C) none H) := by
  subst hK
  intro pins s σ H Q I h
  refine wpAny_Call_Name_kw (ld_glob I hg gC ?_ hdb)
  refine PySem.W.callWith_K0 I.kIn T.kp ?_
  show wpAny _ _ (call (.ref C) []) _ _ _
  obtain ⟨bm, N, nm, qn, bs, hdct, sn, sub, ab, col, dd, k0, k1, k2, k3, k5, mN, hC, hN, hni, TT⟩ := exc_obj I.kIn T.exc
  refine wpAny_call_exc_subT PySem.F.excBase_ValueError TT hC hN hni (fun h' e hm => ?_) (Nat.zero_le _)
  exact mk_of I hm (raises_own T.sb T.ty) h (I.hok.gone hm.new)
/-- isinstance(e, c), e the error that the suite holds, of whatever class it is -/
def rIsX (K : Frag) (cv : Value) (dv : Option Addr) (a : Addr) : List V → Hp → VK → Prop := fun xs H Q => ∃ (D : Addr) (c : V) (u : Value) (b : Bool), cv = .ref D ∧ dv = none ∧ L2.ExcC K D ∧ xs = [.ref a, c] ∧ (∀ z, RelV c z → z = u) ∧ kitOne K (.ref D) u = some b ∧ Q (.bl b) H
theorem cl_isX {K : Frag} {a : Addr} {cv : Value} {dv : Option Addr} {oe : Obj} {pn : List (Addr × Obj)} (hK : X.K = K) (hz : Zc cv dv oe) (hf : ∃ vs, oe.data = .fields vs) : CallR (X.suite a ((a, oe) :: pn)) (.builtin "isinstance") (rIsX K cv dv a) := by
  subst hK
  intro pins s σ H xs us Q I r h
  obtain ⟨D, c, u, b, rfl, rfl, C, rfl, hcv, e, q⟩ := h
  exact call_isE C hz hf pins s σ H [.ref a, c] us Q I r ⟨c, u, b, rfl, hcv, e, q⟩
theorem x_isX {K : Frag} {D E a : Addr} {Q : VK} {H : Hp} {b : Bool} (C : L2.ExcC K D) (e : kitOne K (.ref D) (.ref E) = some b) (q : Q (.bl b) H) : rIsX K (.ref D) none a [.ref a, .ref E] H Q := ⟨D, _, .ref E, b, rfl, rfl, C, rfl, (fun z h => h), e, q⟩
theorem x_isXT {K : Frag} {D a : Addr} {n : String} {Q : VK} {H : Hp} {b : Bool} (C : L2.ExcC K D) (e : kitOne K (.ref D) (.type n) = some b) (q : Q (.bl b) H) : rIsX K (.ref D) none a [.ref a, .ty n] H Q := ⟨D, _, .type n, b, rfl, rfl, C, rfl, (fun z h => h), e, q⟩
end
theorem kit_own {K : Frag} {D E : Addr} (h1 : isClsIn K E = true) (h2 : typeIn K (.ref E) = some (.type "type")) (h3 : subIn K (.ref D) (.ref E) = some true) : kitOne K (.ref D) (.ref E) = some true := by
  unfold kitOne
  split
  · rfl
  · unfold kitCls
    show (if ((clsIn K E).isSome && typeIn K (.ref E) == some (.type "type")) = true then _ else _) = _
    rw [h2]
    have : (clsIn K E).isSome = true := h1
    rw [this]
    exact h3
theorem kit_VE {K : Frag} {D : Addr} (h3 : subIn K (.ref D) (.type "ValueError") = some true) : kitOne K (.ref D) (.type "ValueError") = some true := by
  unfold kitOne
  split
  · rfl
  · show (if kitMeta "ValueError" = true then subIn K (.ref D) (.type "ValueError") else none) = _
    rw [if_pos (by decide +kernel : kitMeta "ValueError" = true)]
    exact h3
end SupX

set_option Elab.async false
set_option linter.all false
set_option maxRecDepth 100000
set_option maxHeartbeats 2000000
/-! t[::-1] of a tuple -/
namespace HT
open PySem PyProof.Rows PySem.MeetsSeq
theorem rev_adjust (n : Nat) : Builtin.Slice.sliceAdjust none none (-1) (n : Int) = ((n : Int) - 1, -1) := by
  unfold Builtin.Slice.sliceAdjust
  simp
theorem rev_places (n : Nat) : Builtin.Slice.slicePlaces ((n : Int) - 1) (-1) (-1) = n := by
  unfold Builtin.Slice.slicePlaces
  rw [if_neg (by omega)]
  by_cases h : n = 0
  · subst h; rfl
  · rw [if_pos (by omega)]
    have : ((n : Int) - 1 - -1 - 1) / (- -1) + 1 = n := by
      have e : (- -1 : Int) = 1 := by decide
      rw [e, Int.ediv_one]; omega
    rw [this, Int.toNat_natCast]
theorem rev_pick (xs : Array Value) : ((List.range xs.size).filterMap fun (k : Nat) => xs[((xs.size : Int) - 1 + (k : Int) * (-1)).toNat]?).toArray = xs.toList.reverse.toArray := by
  have e : ∀ k ∈ List.range xs.size, xs[((xs.size : Int) - 1 + (k : Int) * (-1)).toNat]? = xs[xs.size - 1 - k]? := fun k hk => by
    have := List.mem_range.mp hk
    have : ((xs.size : Int) - 1 + (k : Int) * (-1)).toNat = xs.size - 1 - k := by omega
    rw [this]
  have e2 : ((List.range xs.size).filterMap fun (k : Nat) => xs[((xs.size : Int) - 1 + (k : Int) * (-1)).toNat]?) = ((List.range xs.size).map fun k => xs.size - 1 - k).filterMap (xs[·]?) := by
    rw [List.filterMap_map]
    have : ∀ l : List Nat, (∀ k ∈ l, xs[((xs.size : Int) - 1 + (k : Int) * (-1)).toNat]? = xs[xs.size - 1 - k]?) → (l.filterMap fun (k : Nat) => xs[((xs.size : Int) - 1 + (k : Int) * (-1)).toNat]?) = l.filterMap ((fun x => xs[x]?) ∘ fun k => xs.size - 1 - k) := by
      intro l
      induction l with
      | nil => intro _; rfl
      | cons a l ih =>
        intro h
        rw [List.filterMap_cons, List.filterMap_cons, h a List.mem_cons_self, ih fun k hk => h k (List.mem_cons_of_mem _ hk)]
        rfl
    exact this _ e
  rw [e2, PySem.W.krv_range, List.filterMap_reverse, PySem.W.krv_all]
section
variable {prog : Program} {w : World} {A : Around} {E : Value → Shared → Prop} {s : Shared}
theorem getItem_tuple_rev {t sl : Addr} {items : Array Value} {vs : Value} {Q : Value → Shared → Prop} (ht : IsTup s.heap t items) (hs : s.heap.IsSliceOf sl .none .none vs) (ps : IsPart vs (some (-1)))
    (h : Q (.ref s.heap.objs.size) { s with heap := s.heap.push { cls := .type "tuple", data := .seq items.toList.reverse.toArray } })
    (hsz : items.size ≤ sizeLine) : wpAny (model prog w) A (getItem (.ref t) (.ref sl)) Q E s := by
  have htake : sizeOk (.seq items.toList.reverse.toArray) := by
    show items.toList.reverse.toArray.size ≤ sizeLine
    rw [List.size_toArray, List.length_reverse, Array.length_toList]
    exact hsz
  obtain ⟨os, hos, hcs, hds⟩ := id hs
  have hTs : s.TypeIs (.ref sl) "slice" := ⟨os, hos, hcs⟩
  unfold getItem
  try with_reducible refine wpAny_holding ?_
  first | refine wpAny_bind (wpAny_pure ?_) | skip
  refine wpAny_bind (wpAny_sequenceKey ht.typeIs (by decide) ?_)
  refine wpAny_bind (wpAny_callSpecial?_slot (name := Str.ofString "__getitem__") ht.typeIs PyProof.Rows.slot_tuple_getitem
    (wpAny_call_entry PyProof.Rows.slot_tuple_getitem ht.typeIs entry_tuple_getitem ?_ (args_tuple_getitem _ _)))
  show wpAny _ _ (Builtin.Tuple.tupleItemsOf (.ref t) >>= _) _ _ s
  refine wpAny_bind (tupleItemsOf_ ht ?_)
  refine wpAny_bind (wpAny_typeOf hTs ?_)
  rw [if_pos (by decide)]
  have ap : ∀ {Q' : Int × Int × Nat → Shared → Prop} {A' : Around} {E' : Value → Shared → Prop}, Q' ((items.size : Int) - 1, -1, items.size) s → wpAny (model prog w) A' (Builtin.Slice.sliceApplied (.ref sl) (pure (items.size : Int))) Q' E' s := by
    intro Q' A' E' q
    unfold Builtin.Slice.sliceApplied Builtin.Slice.sliceFields
    refine wpAny_bind (wpAny_bind (wpAny_field hos hds (x := .none) rfl (wpAny_bind (wpAny_field hos hds (x := .none) rfl (wpAny_bind (wpAny_field hos hds (x := vs) rfl (wpAny_pure ?_)))))))
    refine wpAny_bind (slicePart_ ps ?_)
    show wpAny _ _ (if ((-1 : Int) == 0) = true then _ else _) _ _ s
    rw [if_neg (by decide)]
    refine wpAny_bind (slicePart_none (wpAny_bind (slicePart_none (wpAny_bind (wpAny_pure ?_)))))
    show wpAny _ _ (match Builtin.Slice.sliceAdjust none none (-1) (items.size : Int) with | (lo, hi) => pure (lo, (-1 : Int), Builtin.Slice.slicePlaces lo hi (-1))) _ _ s
    rw [rev_adjust]
    show wpAny _ _ (pure ((items.size : Int) - 1, (-1 : Int), Builtin.Slice.slicePlaces ((items.size : Int) - 1) (-1) (-1))) _ _ s
    rw [rev_places]
    exact wpAny_pure q
  refine wpAny_bind (ap ?_)
  have hno : ¬ (((items.size : Int) - 1 == 0 && (-1 : Int) == 1 && items.size == items.size) = true) := by simp
  show wpAny _ _ (if ((items.size : Int) - 1 == 0 && (-1 : Int) == 1 && items.size == items.size) = true then _ else _) _ _ s
  rw [if_neg hno, rev_pick]
  first
    | exact wpAny_bind (m := Builtin.Tuple.tupleExact _) (wpAny_newObj_type (wpAny_pure ⟨_, rfl, wpAny_pure h⟩) htake)
    | exact wpAny_bind (m := Builtin.Tuple.tupleExact _) (wpAny_newObj_type (wpAny_bind (wpAny_pure (wpAny_pure ⟨_, rfl, wpAny_pure h⟩))) htake)
    | exact wpAny_bind (wpAny_bind (m := Builtin.Tuple.tupleExact _) (wpAny_newObj_type (wpAny_pure (wpAny_pure ⟨_, rfl, wpAny_pure h⟩)) htake))
    | exact wpAny_bind (wpAny_bind (m := Builtin.Tuple.tupleExact _) (wpAny_newObj_type (wpAny_pure ⟨_, rfl, wpAny_pure h⟩) htake))
end
end HT
namespace L2
open PySem PySem.Spec PyProof.Rows
variable {X : Cx}
def tRevT (K : PySem.W.Frag) (te : TE) : TE := fun σ H Q => te σ H fun x H1 => ∃ a xs, x = .ref a ∧ SqT K H1 a xs ∧ ∀ p, H1 p = none → Q (.ref p) (upd H1 p (.tup xs.reverse))
theorem pe_revT {e : Expr} {te : TE} {k : Nat} {p1 p2 p3 pos : Pos} (he : PE X e te) : PE X (.Subscript e (.Slice none none (some (.UnaryOp .USub (.Constant (.int 1) k p1) p2)) p3) pos) (tRevT X.K te) := by
  refine ⟨fun pins s σ H Q I h => ?_⟩
  refine Subscript_ (thn (he.run pins s σ H _ I h) fun v s1 ⟨x, H1, I1, r1, q1⟩ => ?_)
  obtain ⟨a, xs, ex, hx, q⟩ := q1
  subst ex
  cases r1
  have hst : PO X (some (.UnaryOp .USub (.Constant (.int 1) k p1) p2)) (tPart (tUn (rU fun i => .int (-i)) (tC (.int 1)))) := po_some (pe_un un_neg pe_int)
  refine wpAny_Slice ?_
  refine wpAny_mono (po_none.run pins s1 σ H1 (fun o H2 => o = none ∧ H2 = H1) I1 ⟨rfl, rfl⟩) (fun vl s2 hh => ?_) fun _ _ z => z
  obtain ⟨l, H2, I2, pl, el, e2⟩ := hh
  subst el e2
  refine thn (po_none.run pins s2 σ H2 (fun o H3 => o = none ∧ H3 = H2) I2 ⟨rfl, rfl⟩) fun vu s3 ⟨u, H3, I3, pu, eu, e3⟩ => ?_
  subst eu e3
  refine thn (hst.run pins s3 σ H3 (fun o H4 => o = some (-1) ∧ H4 = H3) I3 ⟨1, rfl, -1, rfl, rfl, rfl⟩) fun vs s4 ⟨o, H4, I4, ps, eo, e4⟩ => ?_
  subst eo e4
  have I5 : Inv X pins σ H4 { s4 with heap := s4.heap.push { cls := .type "slice", data := .fields #[vl, vu, vs] } } := I4.kept (t' := s4.toks) fun b ob q => Heap.get?_push_of_some _ q
  obtain ⟨its, r, ht, hz⟩ := I5.tuple hx
  have hlen := r.length
  have ev : vl = .none := by cases pl; rfl
  have eu : vu = .none := by cases pu; rfl
  subst ev eu
  show wpAny (model X.prog X.w) X.A (subscriptTail e (.Slice none none (some (.UnaryOp .USub (.Constant (.int 1) k p1) p2)) p3) (.ref a) (.ref s4.heap.objs.size)) (EP X pins σ Q) X.xe { s4 with heap := s4.heap.push { cls := .type "slice", data := .fields #[.none, .none, vs] } }
  refine tail_any (ops := [.ref a, .ref s4.heap.objs.size]) ht.typeIs (PyProof.Rows.slot_tuple_getitem.lookup) ?_ (by with_unfolding_all rfl)
  refine HT.getItem_tuple_rev ht (Heap.IsSliceOf.new _ .none .none vs) ps ?_ (by rw [List.size_toArray, ← hlen]; exact hz)
  refine ⟨.ref _, _, I5.laid (t' := s4.toks) (o := .tup xs.reverse) (fun b ob q => Heap.get?_push_of_some _ q) (Nat.le_refl _) ?_, rfl, q _ (I5.hok.fresh (Nat.le_refl _))⟩
  exact ⟨by rw [List.length_reverse]; exact hz, _, r.reverse, IsTup.new _ _⟩
theorem w_revT {K : PySem.W.Frag} {e : Expr} {te : TE} {k : Nat} {p1 p2 p3 pos : Pos} (h : X.K = K) (he : PE X e te) : PE X (.Subscript e (.Slice none none (some (.UnaryOp .USub (.Constant (.int 1) k p1) p2)) p3) pos) (tRevT K te) := by subst h; exact pe_revT he
end L2

set_option Elab.async false
set_option linter.all false
set_option maxRecDepth 100000
set_option maxHeartbeats 4000000
/-! for k in d, d a dict of any kind -/
namespace L2
open PySem PySem.Spec PyProof.Rows
def ItN (P : Program) (w : World) (d : Addr) (o : Obj) (u : HO) (kvs : KVN) : It :=
  ⟨fun i H => (H d = some (.frz o u) ∧ AnyD P w H d kvs) ∧ i < kvs.length, fun i H x H' => H' = H ∧ ∃ q, kvs[i]? = some q ∧ x = q.2.1, fun i H => (H d = some (.frz o u) ∧ AnyD P w H d kvs) ∧ kvs.length ≤ i⟩
section
variable {X : Cx} {pins : List (Addr × Obj)} {σ : St} {H : Hp} {s : Shared} {d : Addr} {o : Obj} {u : HO} {kvs : KVN}
theorem Inv.frzN (I : Inv X pins σ H s) (h : H d = some (.frz o u)) (g : AnyD X.prog X.w H d kvs) :
    (d == sysModules) = false ∧ s.heap.get? d = some o ∧ o.ExactDict ∧ ∃ (es : Array DictEntry) (ep : Nat), o.data = .dict es ep ∧ es.size = kvs.length ∧ ∀ (i : Nat) (q : NestedKey × V × V), kvs[i]? = some q → ∃ en : DictEntry, es[i]? = some en ∧ RelV q.2.1 en.key := by
  obtain ⟨hd, z, K, xs, ⟨o', es, ep, h1, h2, h3, e⟩, r⟩ := anyD_dict I g
  obtain ⟨q1, _⟩ := (show ObjOk X.prog X.w H s.heap d (.frz o u) from I.hok d _ h)
  rw [q1] at h1
  cases h1
  refine ⟨hd, q1, h2, es, ep, h3, by rw [e.size]; exact (Paired.length r).symm, fun i q hq => ?_⟩
  obtain ⟨x, hx, rx⟩ := paired_get r hq
  exact ⟨NK.ent X.w x, by rw [e.at_ i, hx]; rfl, rx.2.1⟩
end
section
variable {P : Program} {w : World} {K : PySem.W.Frag} {tg : Expr} {d : Addr} {o : Obj} {u : HO} {es : Array DictEntry} {ep : Nat}
theorem turn_keysN {kvs : KVN} (it : Addr) (hod : o.data = .dict es ep) : Turn P w K tg (ItN P w d o u kvs) [it] it (fun i h => h.IsKeyIter it d i kvs.length ep) where
  mem := by simp
  obj := fun i h st b hb => by
    have e : b = it := by simpa using hb
    subst e
    obtain ⟨oi, e, c, dd⟩ := st
    exact ⟨oi, e, fun v z => by rw [dd] at z; cases z⟩
  keep := fun i h h' st k => st.at fun oi e => k it (by simp) oi e
  item := by
    intro X hP hw hK hc i pins s σ H E I hf st hg
    subst hP hw hK
    obtain ⟨⟨hd, gd⟩, hi⟩ := hg
    obtain ⟨f0, f1, f2, f3, f4, f5⟩ := hf it (by simp)
    obtain ⟨hs, hgd, hx, es', ep', hdt, hsz, ent⟩ := I.frzN hd gd
    obtain ⟨rfl, rfl⟩ := dict_ep hod hdt
    obtain ⟨q, hkv⟩ : ∃ q, kvs[i]? = some q := ⟨kvs[i], List.getElem?_eq_getElem hi⟩
    obtain ⟨en, hen, hkey⟩ := ent i q hkv
    refine next_key_item st hgd hdt hsz hen fun h' st' sb => ?_
    have I1 : Inv X pins σ H { s with heap := h' } := I.turned (t' := s.toks) (fun b ob hb e => (sb.2 b hb).trans e) f0 f1 f3 f4 f5
    obtain ⟨oi, e, c, dd⟩ := id st'
    exact ⟨en.key, rfl, go_of (s := { s with heap := h' }) e c dd (by decide) ⟨q.2.1, H, I1, hkey, ⟨rfl, q, hkv, rfl⟩, st', fun b hb => (hf b hb).1⟩⟩
  done := by
    intro X hP hw hK hc i pins s σ H E I hf st hg
    subst hP hw hK
    obtain ⟨⟨hd, gd⟩, hi⟩ := hg
    obtain ⟨f0, f1, f2, f3, f4, f5⟩ := hf it (by simp)
    obtain ⟨hs, hgd, hx, es', ep', hdt, hsz, ent⟩ := I.frzN hd gd
    obtain ⟨rfl, rfl⟩ := dict_ep hod hdt
    exact next_key_end (I.ok.hd hc) st hgd hdt hsz hi fun h' eb => ⟨rfl, I.turned (t' := s.toks) (fun b ob hb e => eb b ob hb e) f0 f1 f3 f4 f5⟩
  self := fun A i s Q E st h => by
    refine wpAny_pyIter_slot st.typeIs F.slot_dict_keyiterator_iter (wpAny_call_entry F.slot_dict_keyiterator_iter st.typeIs F.entry_dict_keyiterator_iter ?_ (F.args_dict_keyiterator_iter_1 _))
    show wpAny _ _ (ret (.ref it)) _ _ s
    exact wpAny_pure ⟨_, rfl, "dict_keyiterator", _, st.typeIs, F.slot_dict_keyiterator_next.lookup, h⟩
end
/-- the dict is locked -/
def iKeysN (P : Program) (w : World) (td : TE) : TI := fun σ H R => td σ H fun x H1 => ∃ d o u kvs, x = .ref d ∧ H1 d = some (.frz o u) ∧ AnyD P w H1 d kvs ∧ R (ItN P w d o u kvs) H1
section
variable {X : Cx} {tg e : Expr} {td : TE}
theorem pi_keysN (he : PE X e td) : PI X tg e (iKeysN X.prog X.w td) := by
  refine ⟨fun pins s σ H R I h => ?_⟩
  refine thn (he.run pins s σ H _ I h) fun v s1 ⟨x, H1, I1, rx, d, o, u, kvs, ex, hd, g, q⟩ => ?_
  subst ex
  obtain rfl : v = Value.ref d := rx
  obtain ⟨hs, hgd, hx, es, ep, hdt, hsz, ent⟩ := I1.frzN hd g
  refine iter_keys hs hgd hx hdt (pi_one (tk := s1.toks) I1 _ (turn_keysN _ hdt) ⟨_, Heap.get?_push_size _ rfl, rfl, ?_⟩ q)
  rw [hsz] <;> rfl
theorem w_pikeysN {P : Program} {w : World} (hP : X.prog = P) (hw : X.w = w) (he : PE X e td) : PI X tg e (iKeysN P w td) := by subst hP hw; exact pi_keysN he
end
end L2
namespace M
open PySem PySem.Spec PyProof.Rows L2
theorem x_iKeysN {P : Program} {w : World} {td : TE} {σ : L2.St} {H : Hp} {R : It → Hp → Prop} (k : td σ H fun x H1 => ∃ d o u kvs, x = .ref d ∧ H1 d = some (.frz o u) ∧ AnyD P w H1 d kvs ∧ R (ItN P w d o u kvs) H1) : iKeysN P w td σ H R := k
theorem walk_keysN {P : Program} {w : World} {d : Addr} {o : Obj} {u : HO} {kvs : KVN} : Walk (ItN P w d o u kvs) kvs.length (fun H => H d = some (.frz o u) ∧ AnyD P w H d kvs) (fun i H x H' => H' = H ∧ ∃ q, kvs[i]? = some q ∧ x = q.2.1) :=
  ⟨fun _ _ hi q => ⟨q, hi⟩, fun _ q => ⟨q, Nat.le_refl _⟩, fun _ _ _ _ _ _ y => y⟩
section
variable {P : Program} {w : World} {H HL : Hp} {d : Addr} {kvs : KVN} {od : Obj}
theorem lockN_le (h : Rd H d (NdO P w d kvs)) (ne : ∀ b, b ≠ d → HL b = H b) : Le H HL := by
  have n1 : ∀ {b : Addr} {o : HO}, H b = some o → (∀ φ, o ≠ .ext φ) → (∀ u φ, o ≠ .frz u (.ext φ)) → b ≠ d := fun q x y z => by
    rw [z] at q
    rcases h with h | ⟨u, h⟩
    · rw [h] at q; cases q; exact x _ rfl
    · rw [h] at q; cases q; exact y _ _ rfl
  refine ⟨fun b v p q => ?_, fun b C dx fs q => ?_, fun b xs q => ?_⟩
  · have hb : b ≠ d := by
      rcases q with q | ⟨o, q⟩
      · exact n1 q (fun φ z => by subst z; exact p) (fun u φ z => by subst z; exact p)
      · exact n1 q (fun φ z => nomatch z) (fun u φ z => by cases z; exact p)
    unfold Rd
    rw [ne b hb]
    exact q
  · rw [ne b (n1 q (fun _ z => nomatch z) fun _ _ z => nomatch z)]; exact q
  · rw [ne b (n1 q (fun _ z => nomatch z) fun _ _ z => nomatch z)]; exact q
theorem lockN_ext (h : Rd H d (NdO P w d kvs)) (e : HL d = some (.frz od (NdO P w d kvs))) (ne : ∀ b, b ≠ d → HL b = H b) : ExtR H HL := by
  have n1 : ∀ {b : Addr} {o : HO}, H b = some o → (∀ φ, o ≠ .ext φ) → (∀ u φ, o ≠ .frz u (.ext φ)) → b ≠ d := fun q x y z => by
    rw [z] at q
    rcases h with h | ⟨u, h⟩
    · rw [h] at q; cases q; exact x _ rfl
    · rw [h] at q; cases q; exact y _ _ rfl
  refine ⟨fun a xs q => ?_, fun a xs q => ?_, fun a kk q => ?_, fun a f q => ?_⟩
  · rw [ne a (n1 q (fun _ z => nomatch z) fun _ _ z => nomatch z)]; exact q
  · rw [ne a (n1 q (fun _ z => nomatch z) fun _ _ z => nomatch z)]; exact q
  · have z : a ≠ d := by
      rcases q with q | ⟨u, q⟩
      · exact n1 q (fun _ z => nomatch z) fun _ _ z => nomatch z
      · exact n1 q (fun _ z => nomatch z) fun _ _ z => nomatch z
    unfold Rd
    rw [ne a z]
    exact q
  · by_cases z : a = d
    · subst z
      have : (HO.ext f) = NdO P w a kvs := by
        rcases h with h | ⟨u, h⟩ <;> rcases q with q | ⟨u2, q⟩ <;> rw [h] at q <;> injection q with q
        · exact q.symm
        · cases q
        · cases q
        · injection q with _ q
          exact q.symm
      rw [this]
      exact .inr ⟨od, e⟩
    · unfold Rd
      rw [ne a z]
      exact q
theorem x_lockN {t : TS} {D : Ends} {σ : L2.St} (h : AnyD P w H d kvs) (k : ∀ od u HL, HL d = some (.frz od u) → (∀ b, b ≠ d → HL b = H b) → Le H HL → ExtR H HL → AnyD P w HL d kvs →
    t ⟨fun σ' H' => H' d = some (.frz od u) ∧ D.nx σ' (put H' d (H d)), fun v H' => H' d = some (.frz od u) ∧ D.rt v (put H' d (H d)), fun σ' H' => H' d = some (.frz od u) ∧ D.bk σ' (put H' d (H d)), fun σ' H' => H' d = some (.frz od u) ∧ D.ct σ' (put H' d (H d))⟩ σ HL) : tLockR t D σ H := by
  rcases id h with ⟨r, K⟩ | ⟨kk, r, rfl⟩
  · refine ⟨d, NdO P w d kvs, r, trivial, fun od HL e ne => ?_⟩
    have ex := lockN_ext r e ne
    exact k od _ HL e ne (lockN_le r ne) ex (h.mono ex)
  · refine ⟨d, .dK kk, r, trivial, fun od HL e ne => ?_⟩
    have ex := ExtR.lock r e ne
    exact k od _ HL e ne (lock_le r e ne) ex (h.mono ex)
theorem x_lockNE {t : TE} {σ : L2.St} {Q : VK} (h : AnyD P w H d kvs) (k : ∀ od u HL, HL d = some (.frz od u) → (∀ b, b ≠ d → HL b = H b) → Le H HL → ExtR H HL → AnyD P w HL d kvs →
    t σ HL fun v H' => H' d = some (.frz od u) ∧ Q v (put H' d (H d))) : tLockRE t σ H Q := by
  rcases id h with ⟨r, K⟩ | ⟨kk, r, rfl⟩
  · refine ⟨d, NdO P w d kvs, r, trivial, fun od HL e ne => ?_⟩
    have ex := lockN_ext r e ne
    exact k od _ HL e ne (lockN_le r ne) ex (h.mono ex)
  · refine ⟨d, .dK kk, r, trivial, fun od HL e ne => ?_⟩
    have ex := ExtR.lock r e ne
    exact k od _ HL e ne (lock_le r e ne) ex (h.mono ex)
end
end M

set_option Elab.async false
set_option linter.all false
set_option maxRecDepth 100000
set_option maxHeartbeats 4000000
/-! dicts of any kind: items, list(d), d[k] = v that keeps the kind; a class whose __init__ may raise, in a try -/
namespace L2
open PySem PySem.Spec PyProof.Rows
def ItiN (P : Program) (w : World) (d : Addr) (o : Obj) (u : HO) (kvs : KVN) : It :=
  ⟨fun i H => (H d = some (.frz o u) ∧ AnyD P w H d kvs) ∧ i < kvs.length, fun i H x H' => ∃ T q, kvs[i]? = some q ∧ x = .ref T ∧ H T = none ∧ H' = upd H T (.tup [q.2.1, q.2.2]), fun i H => (H d = some (.frz o u) ∧ AnyD P w H d kvs) ∧ kvs.length ≤ i⟩
section
variable {X : Cx} {pins : List (Addr × Obj)} {σ : St} {H : Hp} {s : Shared} {d : Addr} {o : Obj} {u : HO} {kvs : KVN}
theorem anyD_raw (I : Inv X pins σ H s) (g : AnyD X.prog X.w H d kvs) : (d == sysModules) = false ∧ kvs.length ≤ sizeLine ∧ ∃ (es : Array DictEntry) (ep : Nat), s.heap.DictRaw d es ep ∧ es.size = kvs.length ∧ ∀ (i : Nat) (q : NestedKey × V × V), kvs[i]? = some q → ∃ en : DictEntry, es[i]? = some en ∧ RelV q.2.1 en.key ∧ RelV q.2.2 en.val := by
  obtain ⟨hd, z, K, xs, ⟨o', es, ep, h1, h2, h3, e⟩, r⟩ := anyD_dict I g
  refine ⟨hd, z, es, ep, ⟨o', h1, h2, h3⟩, by rw [e.size]; exact (Paired.length r).symm, fun i q hq => ?_⟩
  obtain ⟨x, hx, rx⟩ := paired_get r hq
  exact ⟨NK.ent X.w x, by rw [e.at_ i, hx]; rfl, rx.2.1, rx.2.2⟩
theorem raw_data {h : Heap} {es : Array DictEntry} {ep : Nat} (m : h.DictRaw d es ep) (q : h.get? d = some o) : o.data = .dict es ep := by
  obtain ⟨o', h1, _, h3⟩ := m
  rw [q] at h1
  cases h1
  exact h3
end
section
variable {P : Program} {w : World} {K : PySem.W.Frag} {d : Addr} {o : Obj} {u : HO} {es : Array DictEntry} {ep : Nat}
theorem turn_itemsN {kvs : KVN} {elts : List Expr} {kk : Nat} {tpos : Pos} (it : Addr) (hod : o.data = .dict es ep) :
    Turn P w K (.Tuple elts kk tpos) (ItiN P w d o u kvs) [it] it (fun i h => ∃ ok ov, IsItemIter h it d i kvs.length ep ok ov) where
  mem := by simp
  obj := fun i h st b hb => by
    have e : b = it := by simpa using hb
    subst e
    obtain ⟨ok, ov, e⟩ := st
    exact ⟨_, e, fun v z => nomatch z⟩
  keep := fun i h h' st k => let ⟨ok, ov, e⟩ := st; ⟨ok, ov, k it (by simp) _ e⟩
  item := by
    intro X hP hw hK hc i pins s σ H E I hf st hg
    subst hP hw hK
    obtain ⟨⟨hd, gd⟩, hi⟩ := hg
    obtain ⟨_, _, es', ep', hm, hsz, ent⟩ := anyD_raw I gd
    obtain ⟨q1, _⟩ := (show ObjOk X.prog X.w H s.heap d (.frz o u) from I.hok d _ hd)
    obtain ⟨rfl, rfl⟩ := dict_ep hod (raw_data hm q1)
    obtain ⟨q, hkv⟩ : ∃ q, kvs[i]? = some q := ⟨kvs[i], List.getElem?_eq_getElem hi⟩
    obtain ⟨en, hen, hkey, hval⟩ := ent i q hkv
    obtain ⟨ok, ov, he⟩ := st
    rw [← hsz] at he
    have hlt : it < s.heap.objs.size := Heap.lt_size he
    have hie : i < es'.size := by rw [hsz]; exact hi
    obtain rfl : es'[i] = en := by
      rw [Array.getElem?_eq_getElem hie] at hen
      exact Option.some.inj hen
    refine wpAny_pyNext_items_item_raw he hm hie fun h' ho hT hz hk => ?_
    refine ⟨_, rfl, wpAny_letOwnedTupleGo_items (s := { s with heap := h' }) ho fun h'' he' sb => ?_⟩
    have hT2 : h''.get? s.heap.objs.size = some { cls := .type "tuple", data := .seq #[es'[i].key, es'[i].val] } := (sb.2 _ (Nat.ne_of_gt hlt)).trans hT
    have new : ObjOk X.prog X.w (upd H s.heap.objs.size (.tup [q.2.1, q.2.2])) h'' s.heap.objs.size (.tup [q.2.1, q.2.2]) :=
      ⟨by show 2 ≤ sizeLine; decide, [es'[i].key, es'[i].val], .cons hkey (.cons hval .nil), ⟨_, hT2, rfl, _, rfl⟩⟩
    have I1 : Inv X pins σ (upd H s.heap.objs.size (.tup [q.2.1, q.2.2])) { s with heap := h'' } :=
      I.turnedNew (t' := s.toks) (ch := [it]) (fun b ob hb e => (sb.2 b (by simpa using hb)).trans (hk b ob (by simpa using hb) e)) hf (Nat.le_refl _) new
    refine ⟨.ref s.heap.objs.size, _, I1, rfl, ⟨_, q, hkv, rfl, I.hok.fresh (Nat.le_refl _), rfl⟩, ⟨es'[i].key, es'[i].val, ?_⟩, fun b hb => ?_⟩
    · rw [← hsz]; exact he'
    · have e : b = it := by simpa using hb
      rw [e, upd_ne (Nat.ne_of_lt hlt)]
      exact (hf it (by simp)).1
  done := by
    intro X hP hw hK hc i pins s σ H E I hf st hg
    subst hP hw hK
    obtain ⟨⟨hd, gd⟩, hi⟩ := hg
    obtain ⟨f0, f1, f2, f3, f4, f5⟩ := hf it (by simp)
    obtain ⟨_, _, es', ep', hm, hsz, ent⟩ := anyD_raw I gd
    obtain ⟨q1, _⟩ := (show ObjOk X.prog X.w H s.heap d (.frz o u) from I.hok d _ hd)
    obtain ⟨rfl, rfl⟩ := dict_ep hod (raw_data hm q1)
    obtain ⟨ok, ov, he⟩ := st
    rw [← hsz] at he
    exact wpAny_pyNext_items_end_raw (I.ok.hd hc) he hm (by rw [hsz]; exact hi) fun h' eb => ⟨rfl, I.turned (t' := s.toks) (fun b ob hb e => eb b ob hb e) f0 f1 f3 f4 f5⟩
  self := fun A i s Q E st h => let ⟨_, _, e⟩ := st; PySem.W.kcp_self e h
end
/-- the dict is locked -/
def iItemsN (P : Program) (w : World) (td : TE) : TI := fun σ H R => td σ H fun x H1 => ∃ d o u kvs, x = .ref d ∧ H1 d = some (.frz o u) ∧ AnyD P w H1 d kvs ∧ R (ItiN P w d o u kvs) H1
section
variable {X : Cx} {tg e : Expr} {td : TE} {apos cpos : Pos}
theorem pi_itemsN {elts : List Expr} {kk : Nat} {tpos : Pos} (he : PE X e td) (hbase : attributeBase e "items" X.env (eval e X.env) = eval e X.env := by rfl) (hline : (apos.endLine == cpos.line) = true := by rfl) :
    PI X (.Tuple elts kk tpos) (.Call (.Attribute e "items" apos) [] [] cpos) (iItemsN X.prog X.w td) := by
  refine ⟨fun pins s σ H R I h => ?_⟩
  refine wpAny_Call_method (T := "dict") (id := "dict.items") hbase rfl hline F.plainAttrs_dict F.slot_dict_items F.type_dict_items (thn (he.run pins s σ H _ I h) fun v s1 ⟨x, H1, I1, rx, d, o, u, kvs, ex, hd, g, q⟩ => ?_)
  subst ex
  obtain rfl : v = Value.ref d := rx
  obtain ⟨hs, _, es, ep, hm, hsz, ent⟩ := anyD_raw I1 g
  obtain ⟨q1, _⟩ := (show ObjOk X.prog X.w H1 s1.heap d (.frz o u) from I1.hok d _ hd)
  have hdt := raw_data hm q1
  refine ⟨hm.typeIs, ?_, ?_⟩
  · intro b e
    cases e
    obtain ⟨o', h1, h2, h3⟩ := hm
    exact ⟨o', h1, h2.2.1⟩
  have I2 : Inv X pins σ H1 { s1 with heap := s1.heap.push { cls := .type "dict_items", data := .fields #[.ref d] } } := I1.kept (t' := s1.toks) fun b ob q => Heap.get?_push_of_some _ q
  have fin : wpAny (model X.prog X.w) X.A (pyIter (.ref s1.heap.objs.size)) (PIE X pins σ (.Tuple elts kk tpos) R) X.xe { s1 with heap := s1.heap.push { cls := .type "dict_items", data := .fields #[.ref d] } } := by
    refine wpAny_pyIter_items_raw (d := d) ⟨_, Heap.get?_push_size _ rfl, rfl, rfl⟩ (hm.push _) (pi_one (tk := s1.toks) I2 _ (turn_itemsN _ hdt) ⟨.none, .none, ?_⟩ q)
    rw [← hsz]
    exact Heap.get?_push_size _ rfl
  show wpAny _ _ (callWith cpos (.builtin "dict.items") [.ref d] [] []) _ X.xe s1
  exact method_meetsIn F.slot_dict_items F.entry_dict_items rfl (PySem.evalArgs_none ⟨rfl, hm.typeIs, F.args_dict_items_1 _, _, meets_dict_items_raw d hs, ⟨es, ep, hm⟩, fin⟩)
end
theorem vals_by : ∀ {l : List V} {m : List Value}, l.length = m.length → (∀ (j : Nat) (y : V) (v : Value), l[j]? = some y → m[j]? = some v → RelV y v) → Vals l m
  | [], [], _, _ => .nil
  | [], _ :: _, h, _ => by cases h
  | _ :: _, [], h, _ => by cases h
  | y :: l, v :: m, h, k => .cons (k 0 y v rfl rfl) (vals_by (Nat.succ.inj h) fun j y v h1 h2 => k (j + 1) y v h1 h2)
/-- list(d) -/
def rListN (P : Program) (w : World) : List V → Hp → VK → Prop := fun xs H Q => ∃ (a : Addr) (kvs : KVN), xs = [.ref a] ∧ AnyD P w H a kvs ∧ ∀ p, H p = none → Q (.ref p) (upd H p (.lst (kvs.map (·.2.1))))
theorem cl_listN {X : Cx} (hcalm : X.calm = true) : CallR X (.type "list") (rListN X.prog X.w) := by
  intro pins s σ H xs us Q I r q
  obtain ⟨a, kvs, ex, g, q⟩ := q
  subst ex
  obtain ⟨u, eu, rx⟩ := vals1 r
  subst eu
  cases rx
  obtain ⟨lo, z, es, ep, hm, hsz, ent⟩ := anyD_raw I g
  refine PySem.W.kdl_call (PySem.KdlSrc.rawDict (es := es) (ep := ep) lo) (I.ok.hd hcalm) hm (by rw [hsz]; exact z) fun h' tk acc c' hk hD hacc => ?_
  have hv : Vals (kvs.map (·.2.1)) acc.toList := vals_by (by rw [List.length_map, ← hsz, ← hacc.1, Array.length_toList]) fun j y v hy hv => by
    rw [List.getElem?_map] at hy
    cases e : kvs[j]? with
    | none => rw [e] at hy; cases hy
    | some q =>
      rw [e] at hy
      cases hy
      obtain ⟨en, hen, hkey, _⟩ := ent j q e
      obtain ⟨hi, rfl⟩ := hacc.2 j v (by rw [← Array.getElem?_toList]; exact hv)
      rw [Array.getElem?_eq_getElem hi] at hen
      cases hen
      exact hkey
  refine ⟨.ref s.heap.objs.size, upd H s.heap.objs.size (.lst (kvs.map (·.2.1))), I.laid (t' := tk) hk (Nat.le_refl _)
    (show ObjOk X.prog X.w _ _ _ (.lst (kvs.map (·.2.1))) from ⟨by rw [List.length_map]; exact z, acc.toList, c', hv, by rw [Array.toArray_toList]; exact hD⟩), rfl, q _ (I.hok.fresh (Nat.le_refl _))⟩
/-- d[y] = v: a dict of ints and texts stays one where it can -/
def sAPut (P : Program) (w : World) (td ty tv : TE) : TS := fun D σ H => tv σ H fun v H1 => td σ H1 fun x H2 => ty σ H2 fun y H3 => ∃ a H4, x = .ref a ∧ (NPut P w H3 a y v H4 ∨ DPut H3 a y v H4) ∧ D.nx σ H4
theorem ps_aput {X : Cx} {o i value : Expr} {pos pos' : Pos} {td ty tv : TE} (hu : X.A.units + 64 < cLine) (ho : PE X o td) (hi : PE X i ty) (hv : PE X value tv) (hs : swapsWith value (some (.Subscript o i pos')) pos.line X.env = pure false) :
    PS X (.Assign [.Subscript o i pos'] value pos) (sAPut X.prog X.w td ty tv) := by
  refine ⟨fun pins s σ H D I h => ?_⟩
  refine wpAny_Assign_Subscript (thn (hv.run pins s σ H _ I h) fun r s1 ⟨v, H1, I1, rv, q1⟩ => thn (ho.run pins s1 σ H1 _ I1 q1) fun u s2 ⟨x, H2, I2, rx, q2⟩ => thn (hi.run pins s2 σ H2 _ I2 q2) fun iv s3 ⟨y, H3, I3, ry, a, H4, ex, g, q3⟩ => ?_) hs
  subst ex
  obtain rfl : u = Value.ref a := rx
  rcases g with g | g
  · exact n_setItem hu I3 g ry rv fun s4 I4 => ⟨σ, H4, I4, q3⟩
  · exact d_setItem (by omega) I3 g ry rv fun s4 I4 => ⟨σ, H4, I4, q3⟩
/-- C(..) in a try -/
def tMakeS (C : Addr) (sp : Sp) (E : St → XK) (t : TA) : TE := fun σ H Q => t σ H fun vs H1 => ∀ x dx, H1 x = none → H1 dx = none → dx ≠ x → sp (.ref x :: vs) (upd (upd H1 dx (.own x)) x (.ins C dx [])) (fun v H2 => v = .non ∧ Q (.ref x) H2) (E σ)
section
variable {X : Cx} {CX : CXT} {k : Nat} {f C : Addr} {fd : FuncData} {ps : List Str} {sp : Sp} {E : St → XK} {x : Str} {p pos : Pos} {e : Expr} {es : List Expr} {t : TA}
theorem run_makeS {pins : List (Addr × Obj)} {σ : St} {H : Hp} {s : Shared} {Q : VK} {us : List Value} {vs : List V} (M : Mk X.K C f) (F : FnOk X.prog X.w X.K X.mg X.base CX k f fd ps sp) (hr : Room (k + 1) X.A) (hb : Binds X.K fd ps [])
    (hx : PassesAt CX X σ (E σ)) (I : Inv X pins σ H s) (r : Vals vs us)
    (h : ∀ x dx, H x = none → H dx = none → dx ≠ x → sp (.ref x :: vs) (upd (upd H dx (.own x)) x (.ins C dx [])) (fun v H2 => v = .non ∧ Q (.ref x) H2) (E σ)) :
    wpAny (model X.prog X.w) X.A (call (.ref C) us) (EP X pins σ Q) X.xe s := by
  have hq := h (s.heap.objs.size + 1) s.heap.objs.size (I.hok.fresh (Nat.le_succ _)) (I.hok.fresh (Nat.le_refl _)) (Nat.ne_of_lt (Nat.lt_succ_self _))
  have I2 := Inv.made (C := C) I
  have r2 : Vals (V.ref (s.heap.objs.size + 1) :: vs) (Value.ref (s.heap.objs.size + 1) :: us) := .cons rfl r
  have hl : (Value.ref (s.heap.objs.size + 1) :: us).length = ps.length := by
    have e := r2.length
    rw [F.len _ _ _ _ hq] at e
    exact e.symm
  have b := hb _ (Value.ref (s.heap.objs.size + 1) :: us) I2.kIn (by rw [List.append_nil]; exact hl)
  rw [List.append_nil] at b
  refine wpAny_call (make_map (f := f) I.kIn M.makes M.init (beq_iff_eq.mp M.fn) (codeAny_mono (F.run _ X.stack _ _ ⟨Value.ref (s.heap.objs.size + 1) :: us, []⟩ _ (V.ref (s.heap.objs.size + 1) :: vs) _ (E σ) (hr.make C us [])
    (I2.env0.make C us []) b r2 hq) fun r s' hq' => ?_))
  cases r with
  | error e => exact hx pins _ _ e s' I2 hq'
  | ok fl =>
    cases fl with
    | ret u =>
      obtain ⟨v, H', I3, rv, ev, q3⟩ := I2.after hq'
      subst ev
      exact ⟨rv, ⟨V.ref (s.heap.objs.size + 1), H', I3, rfl, q3⟩⟩
    | next => exact False.elim hq'
    | brk => exact False.elim hq'
    | cont => exact False.elim hq'
theorem pe_makeS (M : Mk X.K C f) (F : FnOk X.prog X.w X.K X.mg X.base CX k f fd ps sp) (hr : Room (k + 1) X.A) (hg : Gl X x) (hm : X.mg x = some (.ref C)) (hb : Binds X.K fd ps []) (hx : ∀ σ, PassesAt CX X σ (E σ))
    (ha : PA X (e :: es) t) (hdb : (x == ("__debug__" : Str)) = false := by decide) (he : starEach (e :: es) X.env = (false, eval e X.env) :: starEach es X.env := by rfl) (hpl : (backTo pos (starEach es X.env)).any (·.1) = false := by rfl) :
    PE X (.Call (.Name x p) (e :: es) [] pos) (tMakeS C sp E t) := by
  refine ⟨fun pins s σ H Q I h => ?_⟩
  refine wpAny_Call_Name_kw (ld_glob I hg hm ?_ hdb)
  refine PySem.W.callWith_K (h₀ := X.base) I.ok.mod.kin M.kp (thn (ha.run pos pins s σ H _ I h) fun us s1 ⟨vs, H1, I1, r, q⟩ => ⟨I1.kIn, ?_⟩) he hpl
  exact run_makeS M F hr hb (hx σ) I1 r q
end
section
variable {X : Cx} {P : Program} {w : World} {K : PySem.W.Frag}
theorem w_piitemsN {e : Expr} {td : TE} {apos cpos : Pos} {elts : List Expr} {kk : Nat} {tpos : Pos} (hP : X.prog = P) (hw : X.w = w) (he : PE X e td) (hbase : attributeBase e "items" X.env (eval e X.env) = eval e X.env := by rfl) (hline : (apos.endLine == cpos.line) = true := by rfl) :
    PI X (.Tuple elts kk tpos) (.Call (.Attribute e "items" apos) [] [] cpos) (iItemsN P w td) := by subst hP hw; exact pi_itemsN he hbase hline
theorem wN_list (hP : X.prog = P) (hw : X.w = w) (hc : X.calm = true) : CallR X (.type "list") (rListN P w) := by subst hP hw; exact cl_listN hc
theorem wA_put {o i value : Expr} {pos pos' : Pos} {td ty tv : TE} (hP : X.prog = P) (hw : X.w = w) (hu : X.A.units + 64 < cLine) (ho : PE X o td) (hi : PE X i ty) (hv : PE X value tv) (hs : swapsWith value (some (.Subscript o i pos')) pos.line X.env = pure false) :
    PS X (.Assign [.Subscript o i pos'] value pos) (sAPut P w td ty tv) := by subst hP hw; exact ps_aput hu ho hi hv hs
end
end L2
namespace M
open PySem PySem.Spec PyProof.Rows L2
section
variable {P : Program} {w : World} {σ : L2.St} {H : Hp} {Q : VK}
theorem x_iItemsN {td : TE} {R : It → Hp → Prop} (k : td σ H fun x H1 => ∃ d o u kvs, x = .ref d ∧ H1 d = some (.frz o u) ∧ AnyD P w H1 d kvs ∧ R (ItiN P w d o u kvs) H1) : iItemsN P w td σ H R := k
theorem walk_itemsN {d : Addr} {o : Obj} {u : HO} {kvs : KVN} : Walk (ItiN P w d o u kvs) kvs.length (fun H => H d = some (.frz o u) ∧ AnyD P w H d kvs) (fun i H x H' => ∃ T q, kvs[i]? = some q ∧ x = .ref T ∧ H T = none ∧ H' = upd H T (.tup [q.2.1, q.2.2])) :=
  ⟨fun _ _ hi q => ⟨q, hi⟩, fun _ q => ⟨q, Nat.le_refl _⟩, fun _ _ _ _ _ _ y => y⟩
theorem x_listN {a : Addr} {kvs : KVN} (g : AnyD P w H a kvs) (k : ∀ p, H p = none → Q (.ref p) (upd H p (.lst (kvs.map (·.2.1))))) : rListN P w [.ref a] H Q := ⟨a, kvs, rfl, g, k⟩
theorem x_aput {td ty tv : TE} {D : Ends} (k : tv σ H fun v H1 => td σ H1 fun x H2 => ty σ H2 fun y H3 => ∃ a H4, x = .ref a ∧ (NPut P w H3 a y v H4 ∨ DPut H3 a y v H4) ∧ D.nx σ H4) : sAPut P w td ty tv D σ H := k
theorem x_mkS' {C : Addr} {sp : Sp} {E : L2.St → XK} {t : TA} (k : t σ H fun vs H1 => ∀ x dx, H1 x = none → H1 dx = none → dx ≠ x → sp (.ref x :: vs) (upd (upd H1 dx (.own x)) x (.ins C dx [])) (fun v H2 => v = .non ∧ Q (.ref x) H2) (E σ)) : tMakeS C sp E t σ H Q := k
end
end M

open PySem PySem.Spec PyProof.Rows L2 M
/-! one step of a reading that asks nothing -/
local macro_rules | `(tactic| walk_at "rd1") => `(tactic| first
  | with_reducible (refine x_seq ?_)
  | with_reducible (refine x_c ?_)
  | ((with_reducible refine' x_var ?h ?k); (case h => exact rfl))
  | with_reducible (refine x_op ?_)
  | with_reducible (refine x_I0 ?_)
  | with_reducible (refine x_asg ?_)
  | ((with_reducible refine' x_name ?h ?k); (case h => (first | (simp only [List.set_cons_zero, List.set_cons_succ]; rfl) | simp only [List.set_cons_zero, List.set_cons_succ] | rfl)))
  | with_reducible (refine x_ifS ?_)
  | with_reducible (refine x_test ?_)
  | with_reducible (refine x_bl ?_)
  | with_reducible (refine x_B ?_)
  | ((with_reducible refine x_eq ?h ?k); (case h => exact rfl))
  | ((with_reducible refine x_ne ?h ?k); (case h => exact rfl))
  | with_reducible (refine x_and ?_)
  | with_reducible (refine x_or ?_)
  | with_reducible (refine x_not ?_)
  | with_reducible (refine x_andV ?_)
  | with_reducible (refine x_orV ?_)
  | with_reducible (refine x_notV ?_)
  | with_reducible (refine x_if ?_)
  | with_reducible (refine x_chain ?_)
  | with_reducible (refine x_CB ?_)
  | with_reducible (refine x_cons ?_)
  | with_reducible (refine x_nil ?_)
  | with_reducible (refine x_tup ?_)
  | with_reducible (refine x_lst ?_)
  | with_reducible (refine x_call ?_)
  | with_reducible (refine x_ret ?_)
  | with_reducible (refine x_retN ?_)
  | with_reducible (refine x_drop ?_)
  | with_reducible (refine x_next ?_)
  | with_reducible (refine x_break ?_)
  | with_reducible (refine x_cont ?_)
  | with_reducible (refine x_sub ?_)
  | with_reducible (refine x_gnil ?_)
  | with_reducible (refine x_gcons ?_)
  | with_reducible (refine x_par ?_)
  | with_reducible (refine x_un ?_)
  | with_reducible (refine x_U ?_)
  | ((with_reducible refine' x_aug ?h ?k); (case h => exact rfl))
  | with_reducible (refine x_ipI ?_)
  | with_reducible (refine x_dput ?_)
  | with_reducible (refine x_dget ?_)
  | with_reducible (refine x_din ?_)
  | with_reducible (refine x_dnotin ?_)
  | with_reducible (refine x_bm ?_)
  | with_reducible (refine x_bm0 ?_)
  | with_reducible (refine x_sl ?_)
  | with_reducible (refine x_nopart ?_)
  | with_reducible (refine x_part ?_)
  | with_reducible (refine x_int ?_)
  | with_reducible (refine x_leS ?_)
  | with_reducible (refine x_isNo ?_)
  | with_reducible (refine x_notNo ?_)
  | with_reducible (refine x_min2 ?_)
  | with_reducible (refine x_max2 ?_)
  | with_reducible (refine x_abs ?_)
  | with_reducible (refine x_cint ?_)
  | with_reducible (refine x_cintB ?_)
  | with_reducible (refine x_par2 ?_)
  | with_reducible (refine x_for ?_)
  | with_reducible (refine x_iStr ?_)
  | with_reducible (refine x_str ?_)
  | with_reducible (refine x_iRng1 ?_)
  | with_reducible (refine x_iRng2 ?_)
  | with_reducible (refine x_iList ?_)
  | with_reducible (refine x_iTup ?_)
  | with_reducible (refine x_iKeys ?_)
  | with_reducible (refine x_iVals ?_)
  | with_reducible (refine x_iItems ?_)
  | (refine x_gtup (Or.inl (Or.inl upd_same)) rfl ?_)
  | with_reducible (refine x_lc ?_)
  | with_reducible (refine x_yes ?_)
  | with_reducible (refine x_sfld ?_)
  | with_reducible (refine x_fld ?_)
  | with_reducible (refine x_nt ?_)
  | with_reducible (refine x_nf ?_)
  | with_reducible (refine iteT ?_)
  | with_reducible (refine iteF ?_))
local macro_rules | `(tactic| walk_at "rd") => `(tactic| repeat (walk_at "rd1"))
local macro_rules | `(tactic| walk_at "if!") => `(tactic| first
  | refine x_true (by decide +kernel) ?_
  | refine x_false (by decide +kernel) ?_
  | refine x_true (by rfl) ?_
  | refine x_false (by rfl) ?_)

namespace M
open PySem PySem.Spec PyProof.Rows L2
def topS (i : Nat) : Stmt := PySem.Challenge.pw_ownshares_k07_wishes_judged.main.body.getD i (.Pass ⟨0, 0, 0, 0⟩)
abbrev s_is_integer : Stmt := topS 1
abbrev N_is_integer : List Str := ["thing"]
abbrev P_is_integer : List Str := ["thing"]
theorem sc_is_integer : FnScope N_is_integer P_is_integer (defScope s_is_integer) := ⟨rfl, rfl, rfl, by decide +kernel, rfl, by decide +kernel, by decide +kernel⟩
abbrev s_is_name : Stmt := topS 2
abbrev N_is_name : List Str := ["thing", "char"]
abbrev P_is_name : List Str := ["thing"]
theorem sc_is_name : FnScope N_is_name P_is_name (defScope s_is_name) := ⟨rfl, rfl, rfl, by decide +kernel, rfl, by decide +kernel, by decide +kernel⟩
abbrev s_is_value : Stmt := topS 7
abbrev N_is_value : List Str := ["thing"]
abbrev P_is_value : List Str := ["thing"]
theorem sc_is_value : FnScope N_is_value P_is_value (defScope s_is_value) := ⟨rfl, rfl, rfl, by decide +kernel, rfl, by decide +kernel, by decide +kernel⟩
abbrev s_are_worths : Stmt := topS 8
abbrev N_are_worths : List Str := ["thing", "name", "value"]
abbrev P_are_worths : List Str := ["thing"]
theorem sc_are_worths : FnScope N_are_worths P_are_worths (defScope s_are_worths) := ⟨rfl, rfl, rfl, by decide +kernel, rfl, by decide +kernel, by decide +kernel⟩
abbrev s_Wish_init : Stmt := inClass (topS 9) 0
abbrev N_Wish_init : List Str := ["self", "worths", "endless", "below", "value", "above", "name"]
abbrev P_Wish_init : List Str := ["self", "worths", "endless"]
theorem sc_Wish_init : FnScope N_Wish_init P_Wish_init (defScope s_Wish_init) := ⟨rfl, rfl, rfl, by decide +kernel, rfl, by decide +kernel, by decide +kernel⟩
abbrev s_Wish_worths : Stmt := inClass (topS 9) 1
abbrev N_Wish_worths : List Str := ["self", "name"]
abbrev P_Wish_worths : List Str := ["self"]
theorem sc_Wish_worths : FnScope N_Wish_worths P_Wish_worths (defScope s_Wish_worths) := ⟨rfl, rfl, rfl, by decide +kernel, rfl, by decide +kernel, by decide +kernel⟩
abbrev s_law_pool : Stmt := topS 11
abbrev N_law_pool : List Str := ["script", "pool", "k", "number"]
abbrev P_law_pool : List Str := ["script"]
theorem sc_law_pool : FnScope N_law_pool P_law_pool (defScope s_law_pool) := ⟨rfl, rfl, rfl, by decide +kernel, rfl, by decide +kernel, by decide +kernel⟩
abbrev s_law_draw : Stmt := topS 12
abbrev N_law_draw : List Str := ["pool", "many", "found", "mixed"]
abbrev P_law_draw : List Str := ["pool", "many"]
theorem sc_law_draw : FnScope N_law_draw P_law_draw (defScope s_law_draw) := ⟨rfl, rfl, rfl, by decide +kernel, rfl, by decide +kernel, by decide +kernel⟩
abbrev s_law_word : Stmt := topS 13
abbrev N_law_word : List Str := ["pool", "longest", "letters", "signs", "word", "k"]
abbrev P_law_word : List Str := ["pool", "longest"]
theorem sc_law_word : FnScope N_law_word P_law_word (defScope s_law_word) := ⟨rfl, rfl, rfl, by decide +kernel, rfl, by decide +kernel, by decide +kernel⟩
abbrev s_law_words : Stmt := topS 14
abbrev N_law_words : List Str := ["pool", "many", "longest", "words", "k", "word", "j"]
abbrev P_law_words : List Str := ["pool", "many"]
theorem sc_law_words : FnScope N_law_words P_law_words (defScope s_law_words) := ⟨rfl, rfl, rfl, by decide +kernel, rfl, by decide +kernel, by decide +kernel⟩
abbrev s_law_endless : Stmt := topS 15
abbrev N_law_endless : List Str := ["pool", "wanted", "values", "name", "side", "gap"]
abbrev P_law_endless : List Str := ["pool", "wanted"]
theorem sc_law_endless : FnScope N_law_endless P_law_endless (defScope s_law_endless) := ⟨rfl, rfl, rfl, by decide +kernel, rfl, by decide +kernel, by decide +kernel⟩
abbrev s_law_is_int : Stmt := topS 16
abbrev N_law_is_int : List Str := ["thing"]
abbrev P_law_is_int : List Str := ["thing"]
theorem sc_law_is_int : FnScope N_law_is_int P_law_is_int (defScope s_law_is_int) := ⟨rfl, rfl, rfl, by decide +kernel, rfl, by decide +kernel, by decide +kernel⟩
abbrev s_law_thing : Stmt := topS 17
abbrev N_law_thing : List Str := ["pool", "things"]
abbrev P_law_thing : List Str := ["pool"]
theorem sc_law_thing : FnScope N_law_thing P_law_thing (defScope s_law_thing) := ⟨rfl, rfl, rfl, by decide +kernel, rfl, by decide +kernel, by decide +kernel⟩
abbrev s_law_is_name : Stmt := topS 18
abbrev N_law_is_name : List Str := ["thing", "letters", "sign"]
abbrev P_law_is_name : List Str := ["thing"]
theorem sc_law_is_name : FnScope N_law_is_name P_law_is_name (defScope s_law_is_name) := ⟨rfl, rfl, rfl, by decide +kernel, rfl, by decide +kernel, by decide +kernel⟩
abbrev s_law_key : Stmt := topS 19
abbrev N_law_key : List Str := ["thing"]
abbrev P_law_key : List Str := ["thing"]
theorem sc_law_key : FnScope N_law_key P_law_key (defScope s_law_key) := ⟨rfl, rfl, rfl, by decide +kernel, rfl, by decide +kernel, by decide +kernel⟩
abbrev s_law_is_value : Stmt := topS 20
abbrev N_law_is_value : List Str := ["thing"]
abbrev P_law_is_value : List Str := ["thing"]
theorem sc_law_is_value : FnScope N_law_is_value P_law_is_value (defScope s_law_is_value) := ⟨rfl, rfl, rfl, by decide +kernel, rfl, by decide +kernel, by decide +kernel⟩
abbrev s_law_is_good : Stmt := topS 21
abbrev N_law_is_good : List Str := ["worths", "endless", "name", "below"]
abbrev P_law_is_good : List Str := ["worths", "endless"]
theorem sc_law_is_good : FnScope N_law_is_good P_law_is_good (defScope s_law_is_good) := ⟨rfl, rfl, rfl, by decide +kernel, rfl, by decide +kernel, by decide +kernel⟩
abbrev s_law_drawn_worths : Stmt := topS 22
abbrev N_law_drawn_worths : List Str := ["pool", "reach", "worths", "name", "k"]
abbrev P_law_drawn_worths : List Str := ["pool"]
theorem sc_law_drawn_worths : FnScope N_law_drawn_worths P_law_drawn_worths (defScope s_law_drawn_worths) := ⟨rfl, rfl, rfl, by decide +kernel, rfl, by decide +kernel, by decide +kernel⟩
abbrev s_law_spoil_wish : Stmt := topS 23
abbrev N_law_spoil_wish : List Str := ["pool", "parts", "thing", "kind", "worths", "names"]
abbrev P_law_spoil_wish : List Str := ["pool", "parts"]
theorem sc_law_spoil_wish : FnScope N_law_spoil_wish P_law_spoil_wish (defScope s_law_spoil_wish) := ⟨rfl, rfl, rfl, by decide +kernel, rfl, by decide +kernel, by decide +kernel⟩
abbrev s_law : Stmt := topS 24
abbrev N_law : List Str := ["script", "pool", "many", "worths", "parts", "k", "before", "wish", "refused", "e", "name", "found"]
abbrev P_law : List Str := ["script"]
theorem sc_law : FnScope N_law P_law (defScope s_law) := ⟨rfl, rfl, rfl, by decide +kernel, rfl, by decide +kernel, by decide +kernel⟩
/-- what the top has written, as the walk asks it -/
structure Tx (K : PySem.W.Frag) (mg : Str → Option Value) where
  is_integer : FX K mg "is_integer" "is_integer" s_is_integer P_is_integer
  is_name : FX K mg "is_name" "is_name" s_is_name P_is_name
  is_value : FX K mg "is_value" "is_value" s_is_value P_is_value
  are_worths : FX K mg "are_worths" "are_worths" s_are_worths P_are_worths
  Wish_init : MX K "__init__" "Wish.__init__" s_Wish_init P_Wish_init
  Wish_worths : MX K "worths" "Wish.worths" s_Wish_worths P_Wish_worths
  law_pool : FX K mg "_law_pool" "_law_pool" s_law_pool P_law_pool
  law_draw : FX K mg "_law_draw" "_law_draw" s_law_draw P_law_draw
  law_word : FX K mg "_law_word" "_law_word" s_law_word P_law_word
  law_words : FX K mg "_law_words" "_law_words" s_law_words P_law_words
  law_endless : FX K mg "_law_endless" "_law_endless" s_law_endless P_law_endless
  law_is_int : FX K mg "_law_is_int" "_law_is_int" s_law_is_int P_law_is_int
  law_thing : FX K mg "_law_thing" "_law_thing" s_law_thing P_law_thing
  law_is_name : FX K mg "_law_is_name" "_law_is_name" s_law_is_name P_law_is_name
  law_key : FX K mg "_law_key" "_law_key" s_law_key P_law_key
  law_is_value : FX K mg "_law_is_value" "_law_is_value" s_law_is_value P_law_is_value
  law_is_good : FX K mg "_law_is_good" "_law_is_good" s_law_is_good P_law_is_good
  law_drawn_worths : FX K mg "_law_drawn_worths" "_law_drawn_worths" s_law_drawn_worths P_law_drawn_worths
  law_spoil_wish : FX K mg "_law_spoil_wish" "_law_spoil_wish" s_law_spoil_wish P_law_spoil_wish
  law : FX K mg "law" "law" s_law P_law
  b_ValueError : mg "ValueError" = none
  b_all : mg "all" = none
  b_bool : mg "bool" = none
  b_dict : mg "dict" = none
  b_int : mg "int" = none
  b_isinstance : mg "isinstance" = none
  b_len : mg "len" = none
  b_list : mg "list" = none
  b_max : mg "max" = none
  b_min : mg "min" = none
  b_range : mg "range" = none
  b_repr : mg "repr" = none
  b_sorted : mg "sorted" = none
  b_str : mg "str" = none
  a_Wish : Addr
  g_Wish : mg "Wish" = some (.ref a_Wish)
  cl_Wish : Cls K a_Wish
  m_Wish : Mk K a_Wish Wish_init.f
  n_Wish_table : NoAttr K a_Wish "table"
  n_Wish_endless : NoAttr K a_Wish "endless"
  n_Wish_coming : NoAttr K a_Wish "coming"
  p_Wish_worths : Addr
  pr_Wish_worths : PropOf K a_Wish "worths" p_Wish_worths Wish_worths.f
  c_BadWish : Addr
  g_BadWish : mg "BadWish" = some (.ref c_BadWish)
  p_BadWish : SupX.PlnTxt K c_BadWish
  c_OwnError : Addr
  g_OwnError : mg "OwnError" = some (.ref c_OwnError)
  is_BadWish_OwnError : PySem.W.kitOne K (.ref c_BadWish) (.ref c_OwnError) = some true
  is_BadWish_ValueError : PySem.W.kitOne K (.ref c_BadWish) (.type "ValueError") = some true
  xp_BadWish_BadWish : PySem.W.exmOne K (.ref c_BadWish) (.ref c_BadWish) = some true
end M

namespace M
open PySem PySem.Spec PyProof.Rows L2
/-! ### names -/
def lowB (c : Nat) : Bool := decide (97 ≤ c) && decide (c ≤ 122)
def digB (c : Nat) : Bool := decide (48 ≤ c) && decide (c ≤ 57)
def nameL (l : List Nat) : Bool := decide (1 ≤ l.length) && decide (l.length ≤ 8) && lowB (l.getD 0 0) && l.all fun c => lowB c || digB c
def nameB (s : Str) : Bool := nameL s.cps.toList
theorem lt1 (a b : Nat) : decide (([a] : List Nat) < [b]) = decide (a < b) := by
  by_cases h : a < b
  · rw [decide_eq_true h, decide_eq_true]
    exact List.Lex.rel h
  · rw [decide_eq_false h, decide_eq_false]
    intro q
    cases q with
    | rel q => exact h q
    | cons q => cases q
section
variable {P : Program} {w : World} {K : PySem.W.Frag} {mg : Str → Option Value} {base : Heap}
def sp_is_integer (T : Tx K mg) : Sp := fun vs H Q _ => ∃ i, vs = [.int i] ∧ Q (.bl true) H
theorem ok_is_integer (T : Tx K mg) : FnOk P w K mg base CX0 1 T.is_integer.f T.is_integer.fd P_is_integer (sp_is_integer T) := by
  refine T.is_integer.F.ok sc_is_integer (fun vs H Q E h => ?_) (fun cdv A outer s H vs Q E hr h => ?_)
  · obtain ⟨i, rfl, k⟩ := h
    rfl
  have hu := hu_of hr
  have nd := sc_is_integer.nd
  obtain ⟨i, rfl, k⟩ := h
  refine ⟨_, (pss_one (ps_ret (pe_and (pe_callB (w_isi (K := K) rfl) (by rfl) T.b_isinstance (by decide +kernel) (pa_cons (pv 0) (pa_cons (pe_bltn (v := .ty "int") (by rfl) T.b_int (by decide +kernel) rfl) pa_nil))) (pe_one (pe_not (pe_callB (w_isi (K := K) rfl) (by rfl) T.b_isinstance (by decide +kernel) (pa_cons (pv 0) (pa_cons (pe_bltn (v := .ty "bool") (by rfl) T.b_bool (by decide +kernel) rfl) pa_nil)))))))), ?_⟩
  refine x_start (σ' := [some _]) rfl ?_
  try simp only [cx_n, cx_K, cx_w, cx_P]
  walk_at "rd"
  refine x_isiT (.base (.int i)) (by decide +kernel) ?_
  walk_at "rd"
  refine x_isiF (.base (.int i)) (by decide +kernel) ?_
  walk_at "rd"
  exact k
def sp_is_name (T : Tx K mg) : Sp := fun vs H Q _ => ∃ s, vs = [.str s] ∧ s.length ≤ 10000 ∧ Q (.bl (nameB s)) H
theorem nameB_len {s : Str} (h : ¬ (1 ≤ s.length ∧ s.length ≤ 8)) : nameB s = false := by
  unfold nameB nameL
  have e : s.cps.toList.length = s.length := by simp [Str.length]
  rw [e]
  by_cases h1 : 1 ≤ s.length
  · have h2 : ¬ s.length ≤ 8 := fun q => h ⟨h1, q⟩
    simp [h2]
  · simp [h1]
theorem nameB_low {s : Str} (h : lowB (s.cps.toList.getD 0 0) = false) : nameB s = false := by
  unfold nameB nameL
  rw [h]
  simp
theorem nameB_all {s : Str} {c : Nat} (hc : c ∈ s.cps.toList) (h : (lowB c || digB c) = false) : nameB s = false := by
  unfold nameB nameL
  have : (s.cps.toList.all fun c => lowB c || digB c) = false := by
    rw [List.all_eq_false]
    exact ⟨c, hc, by simpa using h⟩
  rw [this]
  simp
theorem nameB_yes {s : Str} (h1 : 1 ≤ s.length ∧ s.length ≤ 8) (h2 : lowB (s.cps.toList.getD 0 0) = true) (h3 : ∀ c ∈ s.cps.toList, (lowB c || digB c) = true) : nameB s = true := by
  unfold nameB nameL
  have e : s.cps.toList.length = s.length := by simp [Str.length]
  rw [e, h2, List.all_eq_true.mpr h3]
  simp [h1.1, h1.2]
theorem sz10 {n : Nat} (h : n ≤ 10000) : n ≤ sizeLine := Nat.le_trans h (by decide)
/-- 'a' <= c, c <= 'z' and the like -/
theorem le_lit (a c : Nat) : (!decide ((⟨#[c]⟩ : Str).cps.toList < (⟨#[a]⟩ : Str).cps.toList)) = decide (a ≤ c) := by
  show (!decide (([c] : List Nat) < [a])) = decide (a ≤ c)
  rw [lt1]
  by_cases h : a ≤ c
  · rw [decide_eq_true h, decide_eq_false (by omega)]
    rfl
  · rw [decide_eq_false h, decide_eq_true (by omega)]
    rfl
theorem lit_a : ("a" : Str) = ⟨#[97]⟩ := by decide +kernel
theorem lit_z : ("z" : Str) = ⟨#[122]⟩ := by decide +kernel
theorem lit_0 : ("0" : Str) = ⟨#[48]⟩ := by decide +kernel
theorem lit_9 : ("9" : Str) = ⟨#[57]⟩ := by decide +kernel
theorem ok_is_name (T : Tx K mg) : FnOk P w K mg base CX0 1 T.is_name.f T.is_name.fd P_is_name (sp_is_name T) := by
  refine T.is_name.F.ok sc_is_name (fun vs H Q E h => ?_) (fun cdv A outer s H vs Q E hr h => ?_)
  · obtain ⟨s, rfl, hs, k⟩ := h
    rfl
  have hu := hu_of hr
  have nd := sc_is_name.nd
  obtain ⟨s, rfl, hs, k⟩ := h
  refine ⟨_, (pss_cons (ps_if (PW.pt (pw_or (pt_not (pt_val (pe_callB (w_isi (K := K) rfl) (by rfl) T.b_isinstance (by decide +kernel) (pa_cons (pv 0) (pa_cons (pe_bltn (v := .ty "str") (by rfl) T.b_str (by decide +kernel) rfl) pa_nil))))) (pw_or1 (pt_not (pt_chain op_le op_le pe_int (pe_callB (w_len (K := K) rfl) (by rfl) T.b_len (by decide +kernel) (pa_cons (pv 0) pa_nil)) pe_int))))) (pss_one (ps_ret pe_bl)) pss_nil)
      (pss_cons (ps_if (pt_not (pt_chain op_leS op_leS pe_str (pe_ix ix_str (pv 0) pe_int (fun _ _ => rfl)) pe_str)) (pss_one (ps_ret pe_bl)) pss_nil)
      (pss_cons (ps_for PassesOwn.never rfl (pi_str (pv 0)) (pg_name (i := 1) nd rfl (Or.inl rfl)) (pss_one (ps_if (PW.pt (pw_and (pt_not (pt_chain op_leS op_leS pe_str (pv 1) pe_str)) (pw_and1 (pt_not (pt_chain op_leS op_leS pe_str (pv 1) pe_str))))) (pss_one (ps_ret pe_bl)) pss_nil)))
      (pss_one (ps_ret pe_bl))))), ?_⟩
  refine x_start (σ' := [some _, none]) rfl ?_
  try simp only [cx_n, cx_K, cx_w, cx_P]
  simp only [lit_a, lit_z, lit_0, lit_9]
  walk_at "rd"
  refine x_isiT (.base (.str s)) (by decide +kernel) ?_
  walk_at "rd"
  refine x_lenS' (sz10 hs) ?_
  walk_at "rd"
  have es : s.cps.toList.length = s.length := by simp [Str.length]
  have kf : nameB s = false → Q (.bl false) H := fun e => by
    rw [e] at k
    exact k
  refine x_cases (fun h1 => ?_) (fun h1 => ?_)
  rotate_left
  · walk_at "rd"
    exact kf (nameB_len fun q => by simp at h1; omega)
  walk_at "rd"
  refine x_cases (fun h2 => ?_) (fun h2 => ?_)
  · walk_at "rd"
    exact kf (nameB_len fun q => by simp at h2; omega)
  walk_at "rd"
  have hlen : 1 ≤ s.length ∧ s.length ≤ 8 := by simp at h1 h2; omega
  obtain ⟨c0, hc0⟩ : ∃ c, s.cps.toList[0]? = some c := ⟨s.cps.toList[0]'(by omega), by simp⟩
  have hd0 : s.cps.toList.getD 0 0 = c0 := by rw [List.getD_eq_getElem?_getD, hc0]; rfl
  refine x_ixS (sz10 hs) (atI_nat (j := 0) hc0) ?_
  walk_at "rd"
  rw [le_lit]
  refine x_cases (fun h3 => ?_) (fun h3 => ?_)
  rotate_left
  · walk_at "rd"
    exact kf (nameB_low (by rw [hd0]; unfold lowB; rw [h3]; rfl))
  walk_at "rd"
  rw [le_lit]
  refine x_cases (fun h4 => ?_) (fun h4 => ?_)
  · walk_at "rd"
    exact kf (nameB_low (by rw [hd0]; unfold lowB; simp at h4; simp [h4]))
  walk_at "rd"
  have hlow : lowB (s.cps.toList.getD 0 0) = true := by
    rw [hd0]
    unfold lowB
    simp at h3 h4
    simp [h3, h4]
  refine for_it walk_str (fun i σ H' => H' = H ∧ ∃ c, σ = [some (.str s), c] ∧ ∀ j, j < i → ∀ c, s.cps.toList[j]? = some c → (lowB c || digB c) = true) ⟨rfl, _, rfl, fun j hj => absurd hj (Nat.not_lt_zero _)⟩ (fun _ _ _ _ _ => trivial) ?_ ?_
  · rintro i x σ H0 H1 hi ⟨rfl, cc, rfl, hj⟩ ⟨rfl, c, hc, rfl⟩
    walk_at "rd"
    rw [le_lit]
    have mem : c ∈ s.cps.toList := by
      rw [Array.mem_toList_iff]
      exact Array.mem_of_getElem? hc
    have next : (lowB c || digB c) = true → ∀ j, j < i + 1 → ∀ c, s.cps.toList[j]? = some c → (lowB c || digB c) = true := fun h j hj' d hd => by
      by_cases e : j = i
      · subst e
        have : some c = some d := by rw [← hc, ← hd]; simp
        cases this
        exact h
      · exact hj j (by omega) d hd
    refine x_cases (fun h5 => ?_) (fun h5 => ?_)
    · walk_at "rd"
      rw [le_lit]
      refine x_cases (fun h6 => ?_) (fun h6 => ?_)
      · walk_at "rd"
        rw [le_lit]
        refine x_cases (fun h7 => ?_) (fun h7 => ?_)
        · walk_at "rd"
          rw [le_lit]
          refine x_cases (fun h8 => ?_) (fun h8 => ?_)
          · walk_at "rd"
            exact kf (nameB_all mem (by simp at h5 h6 h7 h8; simp [lowB, digB]; omega))
          · walk_at "rd"
            exact ⟨rfl, _, rfl, next (by simp at h5 h6 h7 h8; simp [lowB, digB]; omega)⟩
        · walk_at "rd"
          exact kf (nameB_all mem (by simp at h5 h6 h7; simp [lowB, digB]; omega))
      · walk_at "rd"
        exact ⟨rfl, _, rfl, next (by simp at h5 h6; simp [lowB, digB]; omega)⟩
    · walk_at "rd"
      rw [le_lit]
      refine x_cases (fun h7 => ?_) (fun h7 => ?_)
      · walk_at "rd"
        rw [le_lit]
        refine x_cases (fun h8 => ?_) (fun h8 => ?_)
        · walk_at "rd"
          exact kf (nameB_all mem (by simp at h5 h7 h8; simp [lowB, digB]; omega))
        · walk_at "rd"
          exact ⟨rfl, _, rfl, next (by simp at h5 h7 h8; simp [lowB, digB]; omega)⟩
      · walk_at "rd"
        exact kf (nameB_all mem (by simp at h5 h7; simp [lowB, digB]; omega))
  · rintro σ H1 ⟨rfl, c, rfl, hj⟩
    walk_at "rd"
    have e : nameB s = true := nameB_yes hlen hlow fun c hc => by
      obtain ⟨j, hj'⟩ := List.getElem?_of_mem hc
      refine hj j ?_ c hj'
      have := (List.getElem?_eq_some_iff.mp hj').1
      simpa using this
    rw [e] at k
    exact k
end
end M

namespace M
open PySem PySem.Spec PyProof.Rows L2
/-- a stand that is right, of so many hands, all steps to names -/
def StandOk (hands : Int) (names : List Str) : Stand → Prop
  | .fin => True
  | .hand h ms => 0 ≤ h ∧ h < hands ∧ 1 ≤ ms.length ∧ ms.length ≤ 4 ∧ (ms.map (·.1)).Nodup ∧ ∀ p ∈ ms, nameB p.1 = true ∧ nameB p.2 = true ∧ p.2 ∈ names
  | .chance ds => 1 ≤ ds.length ∧ ds.length ≤ 4 ∧ (ds.map (·.1)).Nodup ∧ ∀ p ∈ ds, nameB p.1 = true ∧ nameB p.2.1 = true ∧ p.2.1 ∈ names ∧ 1 ≤ p.2.2 ∧ p.2.2 ≤ 9
theorem nameB_size {s : Str} (h : nameB s = true) : s.length ≤ 10000 := by
  by_cases q : 1 ≤ s.length ∧ s.length ≤ 8
  · omega
  · rw [nameB_len q] at h
    cases h
section
variable {P : Program} {w : World} {K : PySem.W.Frag} {mg : Str → Option Value} {base : Heap}
end
end M

namespace M
open PySem PySem.Spec PyProof.Rows L2
/-! ### the pool of numbers that a law draws from -/
def PoolOk (ns : List Int) : Prop := ns.length ≤ 64 ∧ ∃ x r, ns = x :: r ∧ 0 ≤ x ∧ x < 2147483648
def Pool (H : Hp) (p : Addr) : Prop := ∃ ns, H p = some (.lst (ns.map V.int)) ∧ PoolOk ns
theorem Pool.there {H : Hp} {p : Addr} (h : Pool H p) : H p ≠ none := by
  obtain ⟨ns, e, _⟩ := h
  rw [e]
  exact fun z => nomatch z
theorem Pool.sx {S : List Addr} {A B : Hp} {p : Addr} (h : Pool A p) (a : SX S A B) (n : p ∉ S) : Pool B p := by
  obtain ⟨ns, e, o⟩ := h
  exact ⟨ns, a _ _ n e, o⟩
theorem at_map {ns : List Int} {i : Nat} {n : Int} (h : ns[i]? = some n) : atI (ns.map V.int) (i : Int) = some (.int n) := atI_nat (by rw [List.getElem?_map, h]; rfl)
theorem ixN_nat {n j : Nat} (h : j < n) : ixN n (j : Int) = some j := by
  unfold ixN
  rw [if_pos (by omega), if_pos (by omega)]
  rfl
section
variable {P : Program} {w : World} {K : PySem.W.Frag} {mg : Str → Option Value} {base : Heap}
def sp_law_draw (T : Tx K mg) : Sp := fun vs H Q _ => ∃ p n, vs = [.ref p, .int n] ∧ Pool H p ∧ 0 < n ∧ n < 2 ^ 200 ∧ ∀ r H', 0 ≤ r → r < n → SX [p] H H' → Pool H' p → Q (.int r) H'
theorem ok_law_draw (T : Tx K mg) : FnOk P w K mg base CX0 1 T.law_draw.f T.law_draw.fd P_law_draw (sp_law_draw T) := by
  refine T.law_draw.F.ok sc_law_draw (fun vs H Q E h => ?_) (fun cdv A outer s H vs Q E hr h => ?_)
  · obtain ⟨p, n, rfl, ⟨ns, hp, hlen, x, rest, rfl, hx0, hx1⟩, hn0, hn1, k⟩ := h
    rfl
  have hu := hu_of hr
  have nd := sc_law_draw.nd
  obtain ⟨p, n, rfl, ⟨ns, hp, hlen, x, rest, rfl, hx0, hx1⟩, hn0, hn1, k⟩ := h
  refine ⟨_, (pss_cons (ps_if (pt_cmpR op_gt (pe_callB (w_len (K := K) rfl) (by rfl) T.b_len (by decide +kernel) (pa_cons (pv 0) pa_nil)) pe_int (nomark _)) (pss_cons (ps_set (i := 2) nd rfl (Or.inl rfl) (pe_op op_mod (pe_callTy cl_int (by rfl) T.b_int (by decide +kernel) (pa_cons (pe_ix (w_ixL (K := K) rfl) (pv 0) pe_int (fun _ _ => rfl)) pa_nil)) (pv 1)))
      (pss_cons (ps_asg (pe_op op_fdivW (pe_ix (w_ixL (K := K) rfl) (pv 0) pe_int (fun _ _ => rfl)) (pv 1)) (pg_sub (pv 0) pe_int set_list))
      (pss_cons (ps_if (pt_cmpR op_le (pe_ix (w_ixL (K := K) rfl) (pv 0) pe_int (fun _ _ => rfl)) pe_int (nomark _)) (pss_one (ps_expr (pe_bm PySem.F.plainAttrs_list PySem.F.slot_list_pop PySem.F.type_list_pop mt_popAt (pv 0) (pa_cons pe_int pa_nil)))) pss_nil)
      (pss_one (ps_ret (pv 2)))))) pss_nil)
      (pss_cons (ps_asg (pe_op op_mod (pe_callTy cl_int (by rfl) T.b_int (by decide +kernel) (pa_cons (pe_op op_add (pe_op op_mul (pe_ix (w_ixL (K := K) rfl) (pv 0) pe_int (fun _ _ => rfl)) pe_int) pe_int) pa_nil)) pe_int) (pg_sub (pv 0) pe_int set_list))
      (pss_cons (ps_set (i := 3) nd rfl (Or.inl rfl) (pe_op op_mod (pe_callTy cl_int (by rfl) T.b_int (by decide +kernel) (pa_cons (pe_op op_mul (pe_ix (w_ixL (K := K) rfl) (pv 0) pe_int (fun _ _ => rfl)) (pe_op op_add (pe_op op_fdivW (pe_ix (w_ixL (K := K) rfl) (pv 0) pe_int (fun _ _ => rfl)) pe_int) pe_int)) pa_nil)) pe_int))
      (pss_one (ps_ret (pe_op op_mod (pe_callTy cl_int (by rfl) T.b_int (by decide +kernel) (pa_cons (pe_op op_fdivW (pv 3) pe_int) pa_nil)) (pv 1))))))), ?_⟩
  refine x_start (σ' := [some _, some _, none, none]) rfl ?_
  try simp only [cx_n, cx_K, cx_w, cx_P]
  walk_at "rd"
  refine x_lenL' (sqL hp) ?_
  walk_at "rd"
  have divN : CDivW x n := wide_div (b := 200) hn0 (by omega) (by decide) (by decide)
  rw [List.length_map]
  refine x_cases (fun h => ?_) (fun h => ?_)
  · -- a number of the script's own
    cases rest with
    | nil => simp at h
    | cons y r =>
      have a1 : atI ((x :: y :: r).map V.int) 1 = some (.int y) := at_map (i := 1) rfl
      walk_at "rd"
      refine x_ixL (sqL hp) a1 ?_
      walk_at "rd"
      refine x_I hn0 ?_
      walk_at "rd"
      refine x_ixL (sqL hp) a1 ?_
      walk_at "rd"
      refine x_I (wide_div (b := 200) hn0 (by omega) (by decide) (by decide)) ?_
      walk_at "rd"
      refine ⟨p, _, _, 1, rfl, rfl, hp, ixN_nat (j := 1) (by simp), ?_⟩
      have e : (List.map V.int (x :: y :: r)).set 1 (V.int (y / n)) = List.map V.int (x :: (y / n) :: r) := rfl
      rw [e]
      have hn' : 0 < n := hn0
      walk_at "rd"
      refine x_ixL (sqL upd_same) (at_map (i := 1) rfl) ?_
      walk_at "rd"
      have g0 : 0 ≤ y % n := Int.emod_nonneg _ (by omega)
      have g1 : y % n < n := Int.emod_lt_of_pos _ hn0
      refine x_cases (fun h2 => ?_) (fun h2 => ?_)
      · walk_at "rd"
        refine ⟨.inl ⟨rfl, _, sqL upd_same⟩, ?_⟩
        walk_at "rd"
        refine ⟨p, _, 1, 1, .int (y / n), rfl, rfl, upd_same, by decide, by decide, by simp [seqIndex?]; omega, rfl, ?_⟩
        walk_at "rd"
        refine k _ _ g0 g1 ((SX.mut List.mem_cons_self).trans (SX.mut List.mem_cons_self)) ⟨x :: r, ?_, ?_, x, r, rfl, hx0, hx1⟩
        · rw [upd_same]
          rfl
        · simp at hlen ⊢
          omega
      · walk_at "rd"
        exact k _ _ g0 g1 (SX.mut List.mem_cons_self) ⟨x :: (y / n) :: r, upd_same, by simpa using hlen, x, _, rfl, hx0, hx1⟩
  · walk_at "rd"
    have a0 : atI ((x :: rest).map V.int) 0 = some (.int x) := at_map (i := 0) rfl
    refine x_ixL (sqL hp) a0 ?_
    walk_at "rd"
    refine x_I (.inl ⟨by omega, by omega⟩) ?_
    walk_at "rd"
    refine x_I (by decide) ?_
    walk_at "rd"
    refine ⟨p, _, _, 0, rfl, rfl, hp, ixN_nat (j := 0) (by simp), ?_⟩
    generalize hy : (x * 48271 + 30103) % 2147483647 = y
    have y0 : 0 ≤ y := by omega
    have y1 : y < 2147483647 := by omega
    have e : (List.map V.int (x :: rest)).set 0 (V.int y) = List.map V.int (y :: rest) := rfl
    rw [e]
    have b0 : atI ((y :: rest).map V.int) 0 = some (.int y) := at_map (i := 0) rfl
    walk_at "rd"
    refine x_ixL (sqL upd_same) b0 ?_
    walk_at "rd"
    refine x_ixL (sqL upd_same) b0 ?_
    walk_at "rd"
    refine x_I ⟨by decide, by decide⟩ ?_
    walk_at "rd"
    refine x_I (.inl ⟨by omega, by omega⟩) ?_
    walk_at "rd"
    refine x_I (by decide) ?_
    walk_at "rd"
    refine x_I ⟨by decide, by decide⟩ ?_
    walk_at "rd"
    refine x_I hn0 ?_
    exact k _ _ (Int.emod_nonneg _ (by omega)) (Int.emod_lt_of_pos _ hn0) (SX.mut List.mem_cons_self) ⟨y :: rest, upd_same, by simpa using hlen, y, rest, rfl, y0, by omega⟩
def sp_law_pool (T : Tx K mg) : Sp := fun vs H Q _ => ∃ (a : Addr) (ns : List Int), vs = [.ref a] ∧ SqL K H a (ns.map V.int) ∧ ns.length ≤ 10000 ∧ ∀ p H', H p = none → SX [] H H' → Pool H' p → Q (.ref p) H'
theorem bits60 : ((Builtin.Int.intBits (10 ^ (60 : Int).toNat) : Nat) : Int) * 10 ≤ 2 ^ 27 := by decide +kernel
theorem ok_law_pool (T : Tx K mg) : FnOk P w K mg base CX0 1 T.law_pool.f T.law_pool.fd P_law_pool (sp_law_pool T) := by
  refine T.law_pool.F.ok sc_law_pool (fun vs H Q E h => ?_) (fun cdv A outer s H vs Q E hr h => ?_)
  · obtain ⟨a, ns, rfl, ha, hlen, k⟩ := h
    rfl
  have hu := hu_of hr
  have nd := sc_law_pool.nd
  obtain ⟨a, ns, rfl, ha, hlen, k⟩ := h
  refine ⟨_, (pss_cons (ps_set (i := 1) nd rfl (Or.inl rfl) (pe_lst (pa_cons (pe_op op_add (pe_op op_mod (pe_callB (w_len (K := K) rfl) (by rfl) T.b_len (by decide +kernel) (pa_cons (pv 0) pa_nil)) pe_int) pe_int) pa_nil)))
      (pss_cons (ps_for PassesOwn.never rfl (pi_range1 (by rfl) T.b_range (pa_cons (pe_callB (cl_min2 rfl) (by rfl) T.b_min (by decide +kernel) (pa_cons pe_int (pa_cons (pe_callB (w_len (K := K) rfl) (by rfl) T.b_len (by decide +kernel) (pa_cons (pv 0) pa_nil)) pa_nil))) pa_nil)) (pg_name (i := 2) nd rfl (Or.inl rfl)) (pss_cons (ps_asg (pe_op op_mod (pe_callTy cl_int (by rfl) T.b_int (by decide +kernel) (pa_cons (pe_op op_add (pe_op op_add (pe_op op_mul (pe_ix (w_ixL (K := K) rfl) (pv 1) pe_int (fun _ _ => rfl)) pe_int) (pe_op op_mod (pe_callTy cl_int (by rfl) T.b_int (by decide +kernel) (pa_cons (pe_ix (w_ixL (K := K) rfl) (pv 0) (pv 2) (fun _ _ => rfl)) pa_nil)) pe_int)) (pe_op op_mul pe_int (pv 2))) pa_nil)) pe_int) (pg_sub (pv 1) pe_int set_list))
      (pss_one (ps_if (pt_cmpR op_ge (pe_ix (w_ixL (K := K) rfl) (pv 0) (pv 2) (fun _ _ => rfl)) (pe_op op_powB pe_int pe_int) (nomark _)) (pss_cons (ps_set (i := 3) nd rfl (Or.inl rfl) (pe_op op_mod (pe_callTy cl_int (by rfl) T.b_int (by decide +kernel) (pa_cons (pe_ix (w_ixL (K := K) rfl) (pv 0) (pv 2) (fun _ _ => rfl)) pa_nil)) (pe_op op_powB (pe_op op_powB pe_int pe_int) pe_int)))
      (pss_one (ps_if (pt_cmpR op_gt (pv 3) pe_int (nomark _)) (pss_one (ps_expr (pe_bm PySem.F.plainAttrs_list PySem.F.slot_list_append PySem.F.type_list_append mt_append (pv 1) (pa_cons (pv 3) pa_nil)))) pss_nil))) pss_nil))))
      (pss_one (ps_ret (pv 1))))), ?_⟩
  refine x_start (σ' := [some _, none, none, none]) rfl ?_
  try simp only [cx_n, cx_K, cx_w, cx_P]
  walk_at "rd"
  refine x_lenL' ha ?_
  walk_at "rd"
  refine x_I (by decide) ?_
  walk_at "rd"
  refine ⟨Nat.le_of_ble_eq_true rfl, fun p hp => ?_⟩
  walk_at "rd"
  rw [List.length_map]
  have s1 : SX [] H (upd H p (.lst [.int ((ns.length : Int) % 1009 + 17)])) := SX.new hp
  refine x_lenL' (s1.le0.l ha) ?_
  walk_at "rd"
  rw [List.length_map]
  refine x_rng1 (by omega) (by omega) ?_
  generalize hm : (if (ns.length : Int) < 63 then (ns.length : Int) else 63) = m
  have m0 : 0 ≤ m ∧ m ≤ 63 ∧ m ≤ ns.length := by
    rw [← hm]
    split <;> omega
  refine for_it walk_rng (fun i σ A => SX [] H A ∧ (∃ qs, A p = some (.lst (qs.map V.int)) ∧ qs.length ≤ 1 + i ∧ ∃ x r, qs = x :: r ∧ 0 ≤ x ∧ x < 2147483648) ∧ ∃ b c, σ = [some (.ref a), some (.ref p), b, c]) ?_ (fun _ _ _ _ _ => trivial) ?_ ?_
  · refine ⟨s1, ⟨[(ns.length : Int) % 1009 + 17], upd_same, Nat.le_refl _, _, _, rfl, by omega, by omega⟩, none, none, rfl⟩
  · rintro i x σ A0 A hi ⟨sA, ⟨qs, hq, hql, y, r, rfl, hy0, hy1⟩, b, c, rfl⟩ ⟨rfl, rfl⟩
    have hi2 : i < ns.length := by omega
    obtain ⟨z, hz⟩ : ∃ z, ns[i]? = some z := ⟨ns[i], by simp [hi2]⟩
    have az : atI (ns.map V.int) (i : Int) = some (.int z) := at_map hz
    walk_at "rd"
    refine x_ixL (sqL hq) (at_map (i := 0) rfl) ?_
    walk_at "rd"
    refine x_I (.inr ⟨by decide, by decide⟩) ?_
    walk_at "rd"
    refine x_ixL (sA.le0.l ha) az ?_
    walk_at "rd"
    refine x_I (by decide) ?_
    walk_at "rd"
    refine x_I (.inl ⟨by decide, by decide⟩) ?_
    walk_at "rd"
    refine x_I (by decide) ?_
    walk_at "rd"
    refine ⟨p, _, _, 0, rfl, rfl, hq, ixN_nat (j := 0) (by simp), ?_⟩
    generalize hy' : (y * 69621 + z % 1000003 + 7 * (i : Int)) % 2147483647 = y'
    have y0 : 0 ≤ y' := by omega
    have y1 : y' < 2147483647 := by omega
    have e : (List.map V.int (y :: r)).set 0 (V.int y') = List.map V.int (y' :: r) := rfl
    rw [e]
    have sA' : SX [] H (upd A p (.lst (List.map V.int (y' :: r)))) := sx_nil_of (S := [p]) ((nil_sx sA).trans (SX.mut List.mem_cons_self)) (by simp [hp])
    walk_at "rd"
    refine x_ixL (sA'.le0.l ha) az ?_
    walk_at "rd"
    refine x_I ⟨by decide, by decide +kernel⟩ ?_
    walk_at "rd"
    simp at hql
    refine x_cases (fun h => ?_) (fun h => ?_)
    · walk_at "rd"
      refine x_ixL (sA'.le0.l ha) az ?_
      walk_at "rd"
      refine x_I ⟨by decide, by decide +kernel⟩ ?_
      walk_at "rd"
      refine x_I ⟨by decide, bits60⟩ ?_
      walk_at "rd"
      refine x_I (by decide +kernel) ?_
      walk_at "rd"
      refine x_cases (fun h2 => ?_) (fun h2 => ?_)
      · walk_at "rd"
        refine ⟨.inl ⟨rfl, _, sqL upd_same⟩, ?_⟩
        walk_at "rd"
        refine ⟨p, _, _, rfl, rfl, upd_same, lt_size (by simp; omega), ?_⟩
        refine ⟨sx_nil_of (S := [p]) ((nil_sx sA').trans (SX.mut List.mem_cons_self)) (by simp [hp]), ⟨(y' :: r) ++ [z % (10 ^ (60 : Int).toNat) ^ (10 : Int).toNat], ?_, by simp; omega, y', _, rfl, y0, by omega⟩, _, _, rfl⟩
        rw [upd_same, List.map_append]
        rfl
      · walk_at "rd"
        exact ⟨sA', ⟨y' :: r, upd_same, by simp; omega, y', r, rfl, y0, by omega⟩, _, _, rfl⟩
    · walk_at "rd"
      exact ⟨sA', ⟨y' :: r, upd_same, by simp; omega, y', r, rfl, y0, by omega⟩, _, _, rfl⟩
  · rintro σ A ⟨sA, ⟨qs, hq, hql, hrest⟩, b, c, rfl⟩
    walk_at "rd"
    exact k p A hp sA ⟨qs, hq, by omega, hrest⟩
end
end M

namespace M
open PySem PySem.Spec PyProof.Rows L2
/-! ### words -/
theorem app_cps (a b : Str) : (a ++ b : Str).cps.toList = a.cps.toList ++ b.cps.toList := by
  show (a.cps ++ b.cps).toList = _
  exact Array.toList_append
theorem app_len (a b : Str) : (a ++ b : Str).length = a.length + b.length := by
  have := congrArg List.length (app_cps a b)
  simpa [Str.length] using this
theorem str_len (a : Str) : a.cps.toList.length = a.length := by simp [Str.length]
theorem letters_at : ∀ i, i < 26 → ((("abcdefghijklmnopqrstuvwxyz" : Str).cps.toList[i]?).map lowB) = some true := by decide +kernel
theorem signs_at : ∀ i, i < 36 → (((("abcdefghijklmnopqrstuvwxyz" : Str) ++ ("0123456789" : Str) : Str).cps.toList[i]?).map fun c => lowB c || digB c) = some true := by decide +kernel
theorem at_opt {l : List Nat} {f : Nat → Bool} {i : Nat} (h : (l[i]?).map f = some true) : ∃ c, l[i]? = some c ∧ f c = true := by
  cases e : l[i]? with
  | none => rw [e] at h; cases h
  | some c => rw [e] at h; exact ⟨c, rfl, Option.some.inj h⟩
theorem at_ints {ns : List Int} {r : Int} (h0 : 0 ≤ r) (h1 : r < ns.length) : ∃ n, atI (ns.map V.int) r = some (.int n) ∧ n ∈ ns := by
  obtain ⟨i, rfl⟩ : ∃ i : Nat, r = (i : Int) := ⟨r.toNat, by omega⟩
  have hi : i < ns.length := by omega
  exact ⟨ns[i], at_map (by simp [hi]), List.getElem_mem hi⟩
theorem at_strs {ns : List Str} {r : Int} (h0 : 0 ≤ r) (h1 : r < ns.length) : ∃ n, atI (ns.map V.str) r = some (.str n) ∧ n ∈ ns := by
  obtain ⟨i, rfl⟩ : ∃ i : Nat, r = (i : Int) := ⟨r.toNat, by omega⟩
  have hi : i < ns.length := by omega
  exact ⟨ns[i], atI_nat (by rw [List.getElem?_map]; simp [hi]), List.getElem_mem hi⟩
theorem flat_strs (l : List Str) : (l.map V.str).all flatV = true := by
  rw [List.all_map]
  exact List.all_eq_true.mpr fun _ _ => rfl
/-- the first is a letter, all are letters or digits -/
structure WordOk (s : Str) : Prop where
  low : lowB (s.cps.toList.getD 0 0) = true
  all : ∀ c ∈ s.cps.toList, (lowB c || digB c) = true
theorem WordOk.name {s : Str} (h : WordOk s) (h1 : 1 ≤ s.length ∧ s.length ≤ 8) : nameB s = true := nameB_yes h1 h.low h.all
theorem WordOk.app {s : Str} {c : Nat} (h : WordOk s) (h1 : 1 ≤ s.length) (hc : (lowB c || digB c) = true) : WordOk (s ++ ⟨#[c]⟩) := by
  refine ⟨?_, fun d hd => ?_⟩
  · rw [app_cps, List.getD_eq_getElem?_getD, List.getElem?_append_left (by rw [str_len]; exact h1), ← List.getD_eq_getElem?_getD]
    exact h.low
  · rw [app_cps] at hd
    rcases List.mem_append.mp hd with hd | hd
    · exact h.all d hd
    · cases List.mem_singleton.mp hd
      exact hc
theorem n_names : ∀ j, j < 60 → nameB (("n" : Str) ++ (toString ((j : Nat) : Int) : Str)) = true := by decide +kernel
theorem small_log {j : Nat} (h : j < 1000000) : ((j : Int)).natAbs.log2 < 1920 := by
  have : ((j : Int)).natAbs = j := rfl
  rw [this]
  by_cases h0 : j = 0
  · subst h0
    decide
  · exact Nat.lt_of_lt_of_le ((Nat.log2_lt h0).mpr (show j < 2 ^ 20 by omega)) (by decide)
section
variable {P : Program} {w : World} {K : PySem.W.Frag} {mg : Str → Option Value} {base : Heap}
def sp_law_word (T : Tx K mg) : Sp := fun vs H Q _ => ∃ p n, vs = [.ref p, .int n] ∧ Pool H p ∧ 1 ≤ n ∧ n ≤ 8 ∧ ∀ s H', nameB s = true → (s.length : Int) ≤ n → SX [p] H H' → Pool H' p → Q (.str s) H'
theorem ok_law_word (T : Tx K mg) : FnOk P w K mg base CX0 2 T.law_word.f T.law_word.fd P_law_word (sp_law_word T) := by
  refine T.law_word.F.ok sc_law_word (fun vs H Q E h => ?_) (fun cdv A outer s H vs Q E hr h => ?_)
  · obtain ⟨p, n, rfl, hp, hn1, hn8, k⟩ := h
    rfl
  have hu := hu_of hr
  have nd := sc_law_word.nd
  obtain ⟨p, n, rfl, hp, hn1, hn8, k⟩ := h
  refine ⟨_, (pss_cons (ps_set (i := 2) nd rfl (Or.inl rfl) pe_str)
      (pss_cons (ps_set (i := 3) nd rfl (Or.inl rfl) (pe_op op_catS (pv 2) pe_str))
      (pss_cons (ps_set (i := 4) nd rfl (Or.inl rfl) (pe_ix ix_str (pv 2) (pe_call (ok_law_draw (P := P) (w := w) T) (hr.mono (by decide)) (by rfl) T.law_draw.g T.law_draw.F.kp T.law_draw.B .nil pass0 (pa_cons (pv 0) (pa_cons pe_int pa_nil))) (fun _ _ => rfl)))
      (pss_cons (ps_for PassesOwn.never rfl (pi_range1 (by rfl) T.b_range (pa_cons (pe_call (ok_law_draw (P := P) (w := w) T) (hr.mono (by decide)) (by rfl) T.law_draw.g T.law_draw.F.kp T.law_draw.B .nil pass0 (pa_cons (pv 0) (pa_cons (pv 1) pa_nil))) pa_nil)) (pg_name (i := 5) nd rfl (Or.inl rfl)) (pss_one (ps_set (i := 4) nd rfl (Or.inl rfl) (pe_op op_catS (pv 4) (pe_ix ix_str (pv 3) (pe_call (ok_law_draw (P := P) (w := w) T) (hr.mono (by decide)) (by rfl) T.law_draw.g T.law_draw.F.kp T.law_draw.B .nil pass0 (pa_cons (pv 0) (pa_cons pe_int pa_nil))) (fun _ _ => rfl))))))
      (pss_one (ps_ret (pv 4))))))), ?_⟩
  refine x_start (σ' := [some _, some _, none, none, none, none]) rfl ?_
  try simp only [cx_n, cx_K, cx_w, cx_P]
  walk_at "rd"
  refine x_catS (by decide +kernel) ?_
  walk_at "rd"
  refine ⟨p, 26, rfl, hp, by decide, by decide, fun r H1 r0 r1 s1 p1 => ?_⟩
  obtain ⟨i, rfl⟩ : ∃ i : Nat, r = (i : Int) := ⟨r.toNat, by omega⟩
  obtain ⟨c, hc, lc⟩ := at_opt (letters_at i (by omega))
  refine x_ixS (by decide +kernel) (atI_nat hc) ?_
  walk_at "rd"
  refine ⟨p, n, rfl, p1, by omega, by omega, fun m H2 m0 m1 s2 p2 => ?_⟩
  refine x_rng1 (by omega) (by omega) ?_
  refine for_it walk_rng (fun i σ A => SX [p] H A ∧ Pool A p ∧ ∃ s b, WordOk s ∧ s.length = 1 + i ∧ σ = [some (.ref p), some (.int n), some (.str "abcdefghijklmnopqrstuvwxyz"), some (.str ((("abcdefghijklmnopqrstuvwxyz" : Str) ++ ("0123456789" : Str) : Str))), some (.str s), b])
    ⟨s1.trans s2, p2, ⟨#[c]⟩, none, ⟨lc, fun d hd => by cases List.mem_singleton.mp hd; rw [lc]; rfl⟩, rfl, rfl⟩ (fun _ _ _ _ _ => trivial) ?_ ?_
  · rintro j x σ A0 A hj ⟨sA, pA, s, b, ws, wl, rfl⟩ ⟨rfl, rfl⟩
    walk_at "rd"
    refine ⟨p, 36, rfl, pA, by decide, by decide, fun r H3 r0 r1 s3 p3 => ?_⟩
    obtain ⟨i2, rfl⟩ : ∃ i : Nat, r = (i : Int) := ⟨r.toNat, by omega⟩
    obtain ⟨d, hd, ld⟩ := at_opt (signs_at i2 (by omega))
    refine x_ixS (by decide +kernel) (atI_nat hd) ?_
    walk_at "rd"
    refine x_catS (Nat.le_of_lt (lt_size (by rw [wl]; show 1 + j + 1 ≤ 10000; omega))) ?_
    walk_at "rd"
    exact ⟨sA.trans s3, p3, _, _, ws.app (by omega) ld, by rw [app_len, wl]; rfl, rfl⟩
  · rintro σ A ⟨sA, pA, s, b, ws, wl, rfl⟩
    walk_at "rd"
    exact k s A (ws.name (by omega)) (by omega) sA pA
def sp_law_words (T : Tx K mg) : Sp := fun vs H Q _ => ∃ p n, vs = [.ref p, .int n] ∧ Pool H p ∧ 0 ≤ n ∧ n ≤ 50 ∧
  ∀ (q : Addr) (ws : List Str) (H' : Hp), H q = none → SX [p] H H' → Pool H' p → H' q = some (.lst (ws.map V.str)) → (ws.length : Int) = n → (∀ s ∈ ws, nameB s = true) → Q (.ref q) H'
theorem ok_law_words (T : Tx K mg) : FnOk P w K mg base CX0 3 T.law_words.f T.law_words.fd P_law_words (sp_law_words T) := by
  refine T.law_words.F.ok sc_law_words (fun vs H Q E h => ?_) (fun cdv A outer s H vs Q E hr h => ?_)
  · obtain ⟨p, n, rfl, hp, hn0, hn1, k⟩ := h
    rfl
  have hu := hu_of hr
  have nd := sc_law_words.nd
  obtain ⟨p, n, rfl, hp, hn0, hn1, k⟩ := h
  refine ⟨_, (pss_cons (ps_set (i := 2) nd rfl (Or.inl rfl) (pe_ix (w_ixL (K := K) rfl) (pe_lst (pa_cons pe_int (pa_cons pe_int (pa_cons pe_int (pa_cons pe_int pa_nil))))) (pe_call (ok_law_draw (P := P) (w := w) T) (hr.mono (by decide)) (by rfl) T.law_draw.g T.law_draw.F.kp T.law_draw.B .nil pass0 (pa_cons (pv 0) (pa_cons pe_int pa_nil))) (fun _ _ => rfl)))
      (pss_cons (ps_set (i := 3) nd rfl (Or.inl rfl) (pe_lst pa_nil))
      (pss_cons (ps_for PassesOwn.never rfl (pi_range1 (by rfl) T.b_range (pa_cons (pv 1) pa_nil)) (pg_name (i := 4) nd rfl (Or.inl rfl)) (pss_cons (ps_set (i := 5) nd rfl (Or.inl rfl) (pe_call (ok_law_word (P := P) (w := w) T) (hr.mono (by decide)) (by rfl) T.law_word.g T.law_word.F.kp T.law_word.B .nil pass0 (pa_cons (pv 0) (pa_cons (pv 2) pa_nil))))
      (pss_cons (ps_for PassesOwn.never rfl (pi_range1 (by rfl) T.b_range (pa_cons (pe_op op_add (pv 1) pe_int) pa_nil)) (pg_name (i := 6) nd rfl (Or.inl rfl)) (pss_one (ps_if (pt_cmpR (w_in (K := K) rfl) (pv 5) (pv 3) (by rfl)) (pss_one (ps_set (i := 5) nd rfl (Or.inl rfl) (pe_op op_catS pe_str (pe_callTy cl_str (by rfl) T.b_str (by decide +kernel) (pa_cons (pv 6) pa_nil))))) pss_nil)))
      (pss_one (ps_expr (pe_bm PySem.F.plainAttrs_list PySem.F.slot_list_append PySem.F.type_list_append mt_append (pv 3) (pa_cons (pv 5) pa_nil)))))))
      (pss_one (ps_ret (pv 3)))))), ?_⟩
  refine x_start (σ' := [some _, some _, none, none, none, none, none]) rfl ?_
  try simp only [cx_n, cx_K, cx_w, cx_P]
  walk_at "rd"
  refine ⟨Nat.le_of_ble_eq_true rfl, fun l hl => ?_⟩
  walk_at "rd"
  have npl : p ≠ l := fun e => hp.there (e ▸ hl)
  refine ⟨p, 4, rfl, hp.sx (SX.new (S := []) hl) List.not_mem_nil, by decide, by decide, fun r H1 r0 r1 s1 p1 => ?_⟩
  obtain ⟨m, em, hm⟩ := at_ints (ns := [1, 2, 3, 8]) r0 r1
  have hm2 : 1 ≤ m ∧ m ≤ 8 := by simp at hm; omega
  refine x_ixL (sqL (s1 _ _ (by simpa using Ne.symm npl) upd_same)) em ?_
  walk_at "rd"
  refine ⟨Nat.le_of_ble_eq_true rfl, fun q hq => ?_⟩
  walk_at "rd"
  refine x_rng1 (by omega) (by omega) ?_
  have sH1 : SX [p] H H1 := (SX.new hl).trans s1
  have npq : p ≠ q := fun e => p1.there (e ▸ hq)
  have hq0 : H q = none := sH1.free hq (by simpa using Ne.symm npq)
  refine for_it walk_rng (fun i σ A => SX [p] H A ∧ Pool A p ∧ ∃ (ws : List Str) (a b c : Option V), A q = some (.lst (ws.map V.str)) ∧ ws.length = i ∧ (∀ s ∈ ws, nameB s = true) ∧ σ = [some (.ref p), some (.int n), some (.int m), some (.ref q), a, b, c])
    ⟨sH1.trans (SX.new hq), p1.sx (SX.new (S := []) hq) List.not_mem_nil, [], none, none, none, upd_same, rfl, (fun _ h => nomatch h), rfl⟩ (fun _ _ _ _ _ => trivial) ?_ ?_
  · rintro i x σ A0 A hi ⟨sA, pA, ws, a, b, c, eA, lA, allA, rfl⟩ ⟨rfl, rfl⟩
    walk_at "rd"
    refine ⟨p, m, rfl, pA, hm2.1, hm2.2, fun s H2 hs hsl s2 p2 => ?_⟩
    walk_at "rd"
    refine x_rng1 (by omega) (by omega) ?_
    refine for_it walk_rng (fun j σ B => B = H2 ∧ ∃ s c, nameB s = true ∧ σ = [some (.ref p), some (.int n), some (.int m), some (.ref q), some (.int (i : Int)), some (.str s), c]) ⟨rfl, s, _, hs, rfl⟩ (fun _ _ _ _ _ => trivial) ?_ ?_
    · rintro j x σ B0 B hj ⟨rfl, s', c', hs', rfl⟩ ⟨rfl, rfl⟩
      walk_at "rd"
      have eB := s2 _ _ (by simpa using Ne.symm npq) eA
      refine ⟨q, _, rfl, .inl (sqL eB), rfl, flat_strs ws, ?_⟩
      walk_at "rd"
      refine x_cases (fun h => ?_) (fun h => ?_)
      · walk_at "rd"
        refine x_cstr (small_log (by omega)) ?_
        walk_at "rd"
        have nm := n_names j (by omega)
        refine x_catS (by have := nameB_size nm; rw [app_len] at this; exact Nat.le_of_lt (lt_size this)) ?_
        walk_at "rd"
        exact ⟨rfl, _, _, nm, rfl⟩
      · walk_at "rd"
        exact ⟨rfl, _, _, hs', rfl⟩
    · rintro σ B ⟨rfl, s', c', hs', rfl⟩
      have eB := s2 _ _ (by simpa using Ne.symm npq) eA
      walk_at "rd"
      refine ⟨.inl ⟨rfl, _, sqL eB⟩, ?_⟩
      walk_at "rd"
      refine ⟨q, _, _, rfl, rfl, eB, lt_size (by rw [List.length_map]; omega), ?_⟩
      refine ⟨?_, p2.sx (SX.mut (S := [q]) List.mem_cons_self) (by simpa using npq), ws ++ [s'], _, _, _, by rw [upd_same, List.map_append]; rfl, by simp [lA], fun t ht => ?_, rfl⟩
      · intro b o nb hb
        have hbq : b ≠ q := fun e => by rw [e, hq0] at hb; cases hb
        rw [upd_ne hbq]
        exact (sA.trans s2) b o nb hb
      · rcases List.mem_append.mp ht with ht | ht
        · exact allA t ht
        · cases List.mem_singleton.mp ht
          exact hs'
  · rintro σ A ⟨sA, pA, ws, a, b, c, eA, lA, allA, rfl⟩
    walk_at "rd"
    exact k q ws A hq0 sA pA eA (by omega) allA
end
end M

namespace M
open PySem PySem.Spec PyProof.Rows L2
section
variable {P : Program} {w : World} {K : PySem.W.Frag} {mg : Str → Option Value} {base : Heap}
def sp_law_endless (T : Tx K mg) : Sp := fun vs H Q _ => ∃ (p d : Addr) (l : List (Str × Int)), vs = [.ref p, .ref d] ∧ Pool H p ∧ rD rI H (.ref d) l ∧ (l.map (·.1)).Nodup ∧ l.length ≤ 5000 ∧ (∀ q ∈ l, -99 ≤ q.2 ∧ q.2 ≤ 99) ∧
  ∀ e H', SX [p] H H' → Pool H' p → -99 ≤ e → e ≤ 99 → ((∀ q ∈ l, e ≤ q.2) ∨ (∀ q ∈ l, q.2 ≤ e)) → Q (.int e) H'
theorem ok_law_endless (T : Tx K mg) : FnOk P w K mg base CX0 2 T.law_endless.f T.law_endless.fd P_law_endless (sp_law_endless T) := by
  refine T.law_endless.F.ok sc_law_endless (fun vs H Q E h => ?_) (fun cdv A outer s H vs Q E hr h => ?_)
  · obtain ⟨p, d, l, rfl, hp, ⟨d', kvs, ed, hrd, hk⟩, hnd, hlen, hb, k⟩ := h
    rfl
  have hu := hu_of hr
  have nd := sc_law_endless.nd
  obtain ⟨p, d, l, rfl, hp, ⟨d', kvs, ed, hrd, hk⟩, hnd, hlen, hb, k⟩ := h
  refine ⟨_, (pss_cons (ps_lockR (ps_setLc (i := 2) (own := [("name", 3)]) rfl nd rfl rfl (sw_true rfl rfl rfl (by decide +kernel)) (pi_keys (pv 1)) (blkOk_by (own := [("name", 3)]) (N := N_law_endless) (sc := defScope s_law_endless) (by decide +kernel)) (fun _ _ _ _ _ => (pg_name (i := 3) nd rfl (Or.inl rfl))) (fun _ _ _ _ _ => pts_nil) (fun _ _ _ _ _ => (pe_dget hu (pv 1) (pv 3) (fun _ _ => rfl)))))
      (pss_cons (ps_set (i := 4) nd rfl (Or.inl rfl) (pe_call (ok_law_draw (P := P) (w := w) T) (hr.mono (by decide)) (by rfl) T.law_draw.g T.law_draw.F.kp T.law_draw.B .nil pass0 (pa_cons (pv 0) (pa_cons pe_int pa_nil))))
      (pss_cons (ps_set (i := 5) nd rfl (Or.inl rfl) (pe_call (ok_law_draw (P := P) (w := w) T) (hr.mono (by decide)) (by rfl) T.law_draw.g T.law_draw.F.kp T.law_draw.B .nil pass0 (pa_cons (pv 0) (pa_cons pe_int pa_nil))))
      (pss_cons (ps_if (pt_cmpR op_eq (pe_callB (w_len (K := K) rfl) (by rfl) T.b_len (by decide +kernel) (pa_cons (pv 2) pa_nil)) pe_int (nomark _)) (pss_one (ps_ret (pe_op op_sub (pv 5) pe_int))) pss_nil)
      (pss_cons (ps_if (pt_cmpR op_eq (pv 4) pe_int (nomark _)) (pss_one (ps_ret (pe_callB (cl_max2 rfl) (by rfl) T.b_max (by decide +kernel) (pa_cons (pe_un un_neg pe_int) (pa_cons (pe_op op_sub (pe_callB (w_min (K := K) rfl rfl) (by rfl) T.b_min (by decide +kernel) (pa_cons (pv 2) pa_nil)) (pv 5)) pa_nil))))) pss_nil)
      (pss_one (ps_ret (pe_callB (cl_min2 rfl) (by rfl) T.b_min (by decide +kernel) (pa_cons pe_int (pa_cons (pe_op op_add (pe_callB (w_max (K := K) rfl rfl) (by rfl) T.b_max (by decide +kernel) (pa_cons (pv 2) pa_nil)) (pv 5)) pa_nil)))))))))), ?_⟩
  refine x_start (σ' := [some _, some _, none, none, none, none]) rfl ?_
  try simp only [cx_n, cx_K, cx_w, cx_P]
  cases ed
  have ndp : d ≠ p := by
    rintro rfl
    obtain ⟨ns, e, _⟩ := hp
    rcases hrd with h | ⟨o, h⟩ <;> rw [h] at e <;> cases e
  walk_at "rd"
  refine x_lockR hrd fun od HL eL ne => ?_
  walk_at "rd"
  refine ⟨d, od, rfl, .inl ⟨kvs, eL, fun D hD => ?_⟩⟩
  have hDd : d ≠ D := ne_of_none eL hD
  have hD0 : H D = none := by rw [← ne D (Ne.symm hDd)]; exact hD
  have npD : p ≠ D := fun e => hp.there (e ▸ hD0)
  refine lc_it (walk_keysR hk) (fun n A => SX [] HL A ∧ A D = some (.lst (((l.take n).map (·.2)).map V.int))) ⟨SX.new hD, upd_same⟩ (fun _ _ _ h => h.1 _ _ List.not_mem_nil eL) ?_ ?_
  · rintro n y A0 A hn ⟨s1, s2⟩ ⟨rfl, q, v, hq, rfl, _⟩
    obtain ⟨v, ev, rfl⟩ := hk.in_ hnd (getMem hq)
    walk_at "rd"
    refine ⟨rfl, ?_⟩
    walk_at "rd"
    refine x_dg' (.inr ⟨od, s1 _ _ List.not_mem_nil eL⟩) ev ?_
    refine ⟨_, s2, lt_size (by rw [List.length_map, List.length_map, List.length_take]; omega), sx_nil_of (S := [D]) ((nil_sx s1).trans (SX.mut List.mem_cons_self)) (by simp [hD]), ?_⟩
    rw [upd_same, take_succ_of hq, List.map_append, List.map_append]
    rfl
  rintro A ⟨s1, s2⟩
  rw [List.take_length] at s2
  have eA := s1 _ _ List.not_mem_nil eL
  walk_at "rd"
  refine ⟨eA, ?_⟩
  have sB : SX [] H (put A d (H d)) := unlock_sx ne s1
  have dB : (put A d (H d)) D = some (.lst ((l.map (·.2)).map V.int)) := by rw [put_ne (Ne.symm hDd)]; exact s2
  have pB : Pool (put A d (H d)) p := hp.sx sB List.not_mem_nil
  generalize put A d (H d) = B at sB dB pB
  walk_at "rd"
  refine ⟨p, 2, rfl, pB, by decide, by decide, fun side B1 b0 b1 t1 q1 => ?_⟩
  walk_at "rd"
  refine ⟨p, 3, rfl, q1, by decide, by decide, fun gap B2 g0 g1 t2 q2 => ?_⟩
  have dB2 := t2 _ _ (by simpa using Ne.symm npD) (t1 _ _ (by simpa using Ne.symm npD) dB)
  have sx2 : SX [p] H B2 := ((nil_sx sB).trans t1).trans t2
  walk_at "rd"
  refine x_lenL' (sqL dB2) ?_
  walk_at "rd"
  rw [List.length_map, List.length_map]
  refine x_cases (fun c => ?_) (fun c => ?_)
  · walk_at "rd"
    have e0 : l = [] := by
      have := of_decide_eq_true c
      injection this with this
      exact List.eq_nil_of_length_eq_zero (by omega)
    exact k _ _ sx2 q2 (by omega) (by omega) (.inl fun q hq => by rw [e0] at hq; cases hq)
  · have hl : 0 < l.length := by
      rcases Nat.eq_zero_or_pos l.length with h | h
      · rw [h] at c
        exact absurd c (by decide)
      · exact h
    walk_at "rd"
    refine x_cases (fun c2 => ?_) (fun c2 => ?_)
    · walk_at "rd"
      refine ⟨D, l.map (·.2), rfl, sqL dB2, by rw [List.length_map]; exact hl, fun m mm ml => ?_⟩
      walk_at "rd"
      have hm : -99 ≤ m ∧ m ≤ 99 := by
        obtain ⟨q, hq, rfl⟩ := List.mem_map.mp mm
        exact hb q hq
      refine k _ _ sx2 q2 ?_ ?_ (.inl fun q hq => ?_)
      · split <;> omega
      · split <;> omega
      · have := ml q.2 (List.mem_map.mpr ⟨q, hq, rfl⟩)
        have := hb q hq
        split <;> omega
    · walk_at "rd"
      refine ⟨D, l.map (·.2), rfl, sqL dB2, by rw [List.length_map]; exact hl, fun m mm ml => ?_⟩
      walk_at "rd"
      have hm : -99 ≤ m ∧ m ≤ 99 := by
        obtain ⟨q, hq, rfl⟩ := List.mem_map.mp mm
        exact hb q hq
      refine k _ _ sx2 q2 ?_ ?_ (.inr fun q hq => ?_)
      · split <;> omega
      · split <;> omega
      · have := ml q.2 (List.mem_map.mpr ⟨q, hq, rfl⟩)
        have := hb q hq
        split <;> omega
end
end M

namespace M
open PySem PySem.Spec PyProof.Rows L2
/-! ### deep comparing of lists of flat items -/
def dv : V → PyData
  | .str s => .str s
  | .int i => .int i
  | .bl b => .bool b
  | _ => .none
def okV : V → Bool
  | .str s => PyData.strOk s
  | .int _ | .bl _ | .non => true
  | _ => false
theorem dp_all {K : PySem.W.Frag} {H : Hp} : ∀ {xs : List V}, (∀ x ∈ xs, okV x = true) → DpAll K H xs (xs.map dv)
  | [], _ => .nil
  | x :: xs, h => by
    refine .cons ?_ (dp_all fun y hy => h y (List.mem_cons_of_mem _ hy))
    have := h x List.mem_cons_self
    cases x with
    | str s => exact .str s
    | int i => exact .int i
    | bl b => exact .bl b
    | non => exact .non
    | _ => cases this
theorem lay_all : ∀ {xs : List V}, (∀ x ∈ xs, okV x = true) → PyData.canLayAll0 (xs.map dv) = true ∧ PyData.depthAll (xs.map dv) = 0
  | [], _ => ⟨by simp [PyData.canLayAll0], by simp [PyData.depthAll]⟩
  | x :: xs, h => by
    obtain ⟨a, b⟩ := lay_all fun y hy => h y (List.mem_cons_of_mem _ hy)
    have := h x List.mem_cons_self
    rw [List.map_cons]
    refine ⟨?_, ?_⟩
    · rw [PyData.canLayAll0, a, Bool.and_true]
      cases x <;> first | exact this | rfl | cases this
    · rw [PyData.depthAll, b]
      cases x <;> first | rfl | cases this | simp [dv, PyData.depth]
theorem shaped_flat {xs : List V} (h : ∀ x ∈ xs, okV x = true) : SeqAt.shaped (.list (xs.map dv)) = true := by
  obtain ⟨a, b⟩ := lay_all h
  unfold SeqAt.shaped
  rw [Bool.and_eq_true]
  refine ⟨?_, decide_eq_true ?_⟩
  · rw [PyData.canLay0]
    exact a
  · rw [PyData.depth, b]
    decide
theorem eqv_flat {xs : List V} (h : ∀ x ∈ xs, okV x = true) : PyData.eqv (.list (xs.map dv)) (.list (xs.map dv)) = true := by
  refine SeqAt.eqv_refl _ ?_
  rw [PyData.canLay0]
  exact (lay_all h).1
theorem x_neSame {K : PySem.W.Frag} {H : Hp} {Q : VK} {a b : Addr} {xs : List V} (h1 : SqL K H a xs) (h2 : SqL K H b xs) (ok : ∀ x ∈ xs, okV x = true) (k : Q (.bl false) H) : rNeD K (.ref a) (.ref b) H Q :=
  ⟨_, _, .lst h1 (dp_all ok), .lst h2 (dp_all ok), shaped_flat ok, shaped_flat ok, by rw [eqv_flat ok]; exact k⟩
theorem x_eqSame {K : PySem.W.Frag} {H : Hp} {Q : VK} {a b : Addr} {xs : List V} (h1 : SqL K H a xs) (h2 : SqL K H b xs) (ok : ∀ x ∈ xs, okV x = true) (k : Q (.bl true) H) : rEqD K (.ref a) (.ref b) H Q :=
  ⟨_, _, .lst h1 (dp_all ok), .lst h2 (dp_all ok), shaped_flat ok, shaped_flat ok, by rw [eqv_flat ok]; exact k⟩
theorem nameB_strOk {s : Str} (h : nameB s = true) : PyData.strOk s = true := by
  unfold nameB nameL at h
  simp only [Bool.and_eq_true, List.all_eq_true] at h
  unfold PyData.strOk
  rw [Array.all_eq_true_iff_forall_mem]
  intro c hc
  have := h.2 c (by simpa using hc)
  simp [lowB, digB] at this
  simp
  omega
theorem shaped_flatT {xs : List V} (h : ∀ x ∈ xs, okV x = true) : SeqAt.shaped (.tuple (xs.map dv)) = true := by
  obtain ⟨a, b⟩ := lay_all h
  unfold SeqAt.shaped
  rw [Bool.and_eq_true]
  refine ⟨?_, decide_eq_true ?_⟩
  · rw [PyData.canLay0]
    exact a
  · rw [PyData.depth, b]
    decide
theorem eqv_flatT {xs : List V} (h : ∀ x ∈ xs, okV x = true) : PyData.eqv (.tuple (xs.map dv)) (.tuple (xs.map dv)) = true := by
  refine SeqAt.eqv_refl _ ?_
  rw [PyData.canLay0]
  exact (lay_all h).1
theorem x_neSameT {K : PySem.W.Frag} {H : Hp} {Q : VK} {a b : Addr} {xs : List V} (h1 : SqT K H a xs) (h2 : SqT K H b xs) (ok : ∀ x ∈ xs, okV x = true) (k : Q (.bl false) H) : rNeD K (.ref a) (.ref b) H Q :=
  ⟨_, _, .tup h1 (dp_all ok), .tup h2 (dp_all ok), shaped_flatT ok, shaped_flatT ok, by rw [eqv_flatT ok]; exact k⟩
end M

namespace M
open PySem PySem.Spec PyProof.Rows L2 ReR
/-! ### data, over heaps -/
theorem hid_sx {A B : Hp} {p : Addr} (s : SX [p] A B) : ∀ b o, hid [p] A b = some o → hid [p] B b = some o := fun b o h => by
  obtain ⟨n, e⟩ := hid_at h
  rw [hid_of n]
  exact s b o n e
theorem _root_.ReR.DpD.sx {A B : Hp} {p : Addr} {v : V} {d : PyData} (s : SX [p] A B) (h : DpD (hid [p] A) v d) : DpD (hid [p] B) v d := h.mono (hid_sx s)
theorem _root_.ReR.DpDs.sx {A B : Hp} {p : Addr} {v : List V} {d : List PyData} (s : SX [p] A B) (h : DpDs (hid [p] A) v d) : DpDs (hid [p] B) v d := h.mono (hid_sx s)
theorem _root_.ReR.DpD.out {A : Hp} {S : List Addr} {v : V} {d : PyData} (h : DpD (hid S A) v d) : DpD A v d := h.mono fun b o e => (hid_at e).2
theorem _root_.ReR.DpDs.out {A : Hp} {S : List Addr} {v : List V} {d : List PyData} (h : DpDs (hid S A) v d) : DpDs A v d := h.mono fun b o e => (hid_at e).2
theorem _root_.ReR.DpD.nil {A B : Hp} {v : V} {d : PyData} (s : SX [] A B) (h : DpD A v d) : DpD B v d := h.mono fun b o e => s b o List.not_mem_nil e
theorem _root_.ReR.DpDs.nil_ {A B : Hp} {v : List V} {d : List PyData} (s : SX [] A B) (h : DpDs A v d) : DpDs B v d := h.mono fun b o e => s b o List.not_mem_nil e
theorem _root_.ReR.DpDs.len {A : Hp} : ∀ {v : List V} {d : List PyData}, DpDs A v d → v.length = d.length
  | _, _, .nil => rfl
  | _, _, .cons _ r => congrArg (· + 1) r.len
theorem _root_.ReR.DpDs.at_ {A : Hp} : ∀ {v : List V} {d : List PyData} {i : Nat} {y : V}, DpDs A v d → v[i]? = some y → ∃ e, d[i]? = some e ∧ DpD A y e
  | _, _, i, _, .nil, h => by cases i <;> cases h
  | _, _, 0, _, .cons h r, e => by cases e; exact ⟨_, rfl, h⟩
  | _, _, i + 1, _, .cons h r, e => r.at_ (i := i) e
theorem _root_.ReR.DpDs.app {A : Hp} : ∀ {v w : List V} {d e : List PyData}, DpDs A v d → DpDs A w e → DpDs A (v ++ w) (d ++ e)
  | _, _, _, _, .nil, h => h
  | _, _, _, _, .cons h r, k => .cons h (r.app k)
theorem _root_.ReR.DpDs.take {A : Hp} : ∀ {v : List V} {d : List PyData} (n : Nat), DpDs A v d → DpDs A (v.take n) (d.take n)
  | _, _, _, .nil => by rw [List.take_nil, List.take_nil]; exact .nil
  | _, _, 0, .cons h r => .nil
  | _, _, n + 1, .cons h r => .cons h (r.take n)
theorem _root_.ReR.DpDs.drop {A : Hp} : ∀ {v : List V} {d : List PyData} (n : Nat), DpDs A v d → DpDs A (v.drop n) (d.drop n)
  | _, _, _, .nil => by rw [List.drop_nil, List.drop_nil]; exact .nil
  | _, _, 0, .cons h r => .cons h r
  | _, _, n + 1, .cons h r => r.drop n
theorem _root_.ReR.DpDs.strs {A : Hp} : ∀ (l : List Str), DpDs A (l.map V.str) (l.map PyData.str)
  | [] => .nil
  | s :: l => .cons (.str s) (ReR.DpDs.strs l)
mutual
theorem _root_.ReR.DpD.dp {K : PySem.W.Frag} {H : Hp} : ∀ {v : V} {d : PyData}, DpD H v d → d.canLay0 = true → Dp K H v d
  | _, _, .non, _ => .non
  | _, _, .bl b, _ => .bl b
  | _, _, .int i, _ => .int i
  | _, _, .str x, _ => .str x
  | _, _, .lst e h, c => .lst (sqL e) (h.dp (by rw [PyData.canLay0] at c; exact c))
  | _, _, .tup e h, c => .tup (sqT e) (h.dp (by rw [PyData.canLay0] at c; exact c))
  | _, _, .dic e h, c => by rw [PyData.canLay0] at c; cases c
theorem _root_.ReR.DpDs.dp {K : PySem.W.Frag} {H : Hp} : ∀ {v : List V} {d : List PyData}, DpDs H v d → PyData.canLayAll0 d = true → DpAll K H v d
  | _, _, .nil, _ => .nil
  | _, _, .cons h r, c => by
    rw [PyData.canLayAll0, Bool.and_eq_true] at c
    exact .cons (h.dp c.1) (r.dp c.2)
end
theorem shaped_lay {d : PyData} (h : SeqAt.shaped d = true) : d.canLay0 = true := by
  unfold SeqAt.shaped at h
  rw [Bool.and_eq_true] at h
  exact h.1
/-- two things with the same data are equal -/
theorem x_eqDat {K : PySem.W.Frag} {H : Hp} {Q : VK} {v u : V} {d : PyData} (h1 : DpD H v d) (h2 : DpD H u d) (s : SeqAt.shaped d = true) (q : Q (.bl true) H) : rEqD K v u H Q :=
  ⟨d, d, h1.dp (shaped_lay s), h2.dp (shaped_lay s), s, s, by rw [SeqAt.eqv_refl _ (shaped_lay s)]; exact q⟩
theorem x_neDat {K : PySem.W.Frag} {H : Hp} {Q : VK} {v u : V} {d : PyData} (h1 : DpD H v d) (h2 : DpD H u d) (s : SeqAt.shaped d = true) (q : Q (.bl false) H) : rNeD K v u H Q :=
  ⟨d, d, h1.dp (shaped_lay s), h2.dp (shaped_lay s), s, s, by rw [SeqAt.eqv_refl _ (shaped_lay s)]; exact q⟩
end M

namespace M
open PySem PySem.Spec PyProof.Rows L2 ReR
/-! ### things as data -/
def tyD : PyData → String
  | .none => "NoneType"
  | .bool _ => "bool"
  | .int _ => "int"
  | .str _ => "str"
  | .list _ => "list"
  | .tuple _ => "tuple"
  | .dict _ => "dict"
theorem _root_.ReR.DpD.ty {K : PySem.W.Frag} {H : Hp} {v : V} {d : PyData} (h : DpD H v d) : TyX K H v (.type (tyD d)) := by
  cases h with
  | non => exact .base .non
  | bl b => exact .base (.bl b)
  | int i => exact .base (.int i)
  | str x => exact .base (.str x)
  | lst e _ => exact .base (.lst e)
  | tup e _ => exact .base (.tup e)
  | dic e _ =>
    rcases e with e | ⟨o, e⟩
    · exact .base (.dK e)
    · exact .fDict e
theorem kit_str : ∀ d : PyData, kitB (tyD d) "str" = some (match d with | .str _ => true | _ => false)
  | .none => (by decide +kernel : kitB "NoneType" "str" = some false)
  | .bool _ => (by decide +kernel : kitB "bool" "str" = some false)
  | .int _ => (by decide +kernel : kitB "int" "str" = some false)
  | .str _ => (by decide +kernel : kitB "str" "str" = some true)
  | .list _ => (by decide +kernel : kitB "list" "str" = some false)
  | .tuple _ => (by decide +kernel : kitB "tuple" "str" = some false)
  | .dict _ => (by decide +kernel : kitB "dict" "str" = some false)
theorem kit_tup : ∀ d : PyData, kitB (tyD d) "tuple" = some (match d with | .tuple _ => true | _ => false)
  | .none => (by decide +kernel : kitB "NoneType" "tuple" = some false)
  | .bool _ => (by decide +kernel : kitB "bool" "tuple" = some false)
  | .int _ => (by decide +kernel : kitB "int" "tuple" = some false)
  | .str _ => (by decide +kernel : kitB "str" "tuple" = some false)
  | .list _ => (by decide +kernel : kitB "list" "tuple" = some false)
  | .tuple _ => (by decide +kernel : kitB "tuple" "tuple" = some true)
  | .dict _ => (by decide +kernel : kitB "dict" "tuple" = some false)
theorem kit_lst : ∀ d : PyData, kitB (tyD d) "list" = some (match d with | .list _ => true | _ => false)
  | .none => (by decide +kernel : kitB "NoneType" "list" = some false)
  | .bool _ => (by decide +kernel : kitB "bool" "list" = some false)
  | .int _ => (by decide +kernel : kitB "int" "list" = some false)
  | .str _ => (by decide +kernel : kitB "str" "list" = some false)
  | .list _ => (by decide +kernel : kitB "list" "list" = some true)
  | .tuple _ => (by decide +kernel : kitB "tuple" "list" = some false)
  | .dict _ => (by decide +kernel : kitB "dict" "list" = some false)
theorem kit_dict : ∀ d : PyData, kitB (tyD d) "dict" = some (match d with | .dict _ => true | _ => false)
  | .none => (by decide +kernel : kitB "NoneType" "dict" = some false)
  | .bool _ => (by decide +kernel : kitB "bool" "dict" = some false)
  | .int _ => (by decide +kernel : kitB "int" "dict" = some false)
  | .str _ => (by decide +kernel : kitB "str" "dict" = some false)
  | .list _ => (by decide +kernel : kitB "list" "dict" = some false)
  | .tuple _ => (by decide +kernel : kitB "tuple" "dict" = some false)
  | .dict _ => (by decide +kernel : kitB "dict" "dict" = some true)
theorem x_isiO {P : Program} {w : World} {K : PySem.W.Frag} {H : Hp} {Q : VK} {v : V} {d : PyData} (h : DpD H v d) (n : ∀ ds, d ≠ .dict ds) (k : Q (.bl false) H) : rIsiN P w K [v, .ty "dict"] H Q := by
  refine .inl (x_isi h.ty (kit_dict d) ?_)
  cases d with
  | dict ds => exact absurd rfl (n ds)
  | _ => exact k
theorem x_isiDic {P : Program} {w : World} {K : PySem.W.Frag} {H : Hp} {Q : VK} {a : Addr} {kvs : KVN} (h : AnyD P w H a kvs) (k : Q (.bl true) H) : rIsiN P w K [.ref a, .ty "dict"] H Q :=
  .inr ⟨_, _, _, _, true, rfl, .ty _, h, kit_ty (by decide +kernel : kitB "dict" "dict" = some true), k⟩
def nameD : PyData → Bool
  | .str s => nameB s
  | _ => false
/-- no long text -/
def ShortD (d : PyData) : Prop := ∀ s, d = .str s → s.length ≤ 10000
def ShortO (d : PyData) : Prop := ∀ ds, d = .dict ds → ∀ q ∈ ds, ShortD q.2
theorem sx_ext {A B : Hp} (s : SX [] A B) : ExtR A B := Ext.r fun b o h => s b o List.not_mem_nil h
theorem strs_eqv : ∀ xs ys : List Str, PyData.eqvAll ((xs.map V.str).map dv) ((ys.map V.str).map dv) = decide (xs = ys)
  | [], [] => rfl
  | [], _ :: _ => by
    rw [decide_eq_false (by simp)]
    rfl
  | _ :: _, [] => by
    rw [decide_eq_false (by simp)]
    rfl
  | a :: xs, b :: ys => by
    show ((a == b) && PyData.eqvAll ((xs.map V.str).map dv) ((ys.map V.str).map dv)) = _
    rw [strs_eqv xs ys]
    by_cases e : a = b
    · subst e
      by_cases f : xs = ys
      · subst f; simp
      · rw [decide_eq_false f, decide_eq_false (by simpa using f)]; simp
    · have : (a == b) = false := by
        cases h : (a == b)
        · rfl
        · exact absurd (eq_of_beq h) e
      rw [this, Bool.false_and, decide_eq_false fun z => e (List.cons.inj z).1]
/-- what a dict of any kind holds at a text -/
def lkN (kvs : KVN) (n : Str) : Option V := (NK.valN kvs (.text n)).map (·.2)
theorem valN_data {H : Hp} : ∀ {kvs : KVN} {ds : List (PyData × PyData)} {k : NestedKey} {p : V × V}, DpP H kvs ds → NK.valN kvs k = some p → ∃ q ∈ ds, DpD H p.2 q.2
  | [], _, _, _, .nil, h => by cases h
  | x :: kvs, y :: ds, k, p, .cons a r, h => by
    unfold NK.valN at h
    rw [List.find?_cons] at h
    by_cases e : x.1 = k
    · rw [decide_eq_true e] at h
      cases h
      exact ⟨y, List.mem_cons_self, a.2⟩
    · rw [decide_eq_false e] at h
      obtain ⟨q, m, z⟩ := valN_data (kvs := kvs) (ds := ds) (k := k) (p := p) r h
      exact ⟨q, List.mem_cons_of_mem _ m, z⟩
theorem lkN_data {H : Hp} {kvs : KVN} {ds : List (PyData × PyData)} {n : Str} {v : V} (h : DpP H kvs ds) (e : lkN kvs n = some v) : ∃ q ∈ ds, DpD H v q.2 := by
  unfold lkN at e
  cases f : NK.valN kvs (.text n) with
  | none => rw [f] at e; cases e
  | some p =>
    rw [f] at e
    cases e
    exact valN_data h f
theorem nget_text {P : Program} {w : World} {H : Hp} {a : Addr} {kvs : KVN} (g : AnyD P w H a kvs) (n : Str) : NGet P w H a (.str n) (lkN kvs n) := ⟨kvs, .text n, g, .str n, Nat.zero_le _, rfl⟩
section
variable {P : Program} {w : World} {K : PySem.W.Frag} {mg : Str → Option Value} {base : Heap}
def sp_is_name2 (T : Tx K mg) : Sp := fun vs H Q _ => ∃ v d, vs = [v] ∧ DpD H v d ∧ (∀ s, d ≠ .str s) ∧ Q (.bl false) H
theorem ok_is_name2 (T : Tx K mg) : FnOk P w K mg base CX0 1 T.is_name.f T.is_name.fd P_is_name (sp_is_name2 T) := by
  refine T.is_name.F.ok sc_is_name (fun vs H Q E h => ?_) (fun cdv A outer s H vs Q E hr h => ?_)
  · obtain ⟨v, d, rfl, hv, ns, k⟩ := h
    rfl
  have hu := hu_of hr
  have nd := sc_is_name.nd
  obtain ⟨v, d, rfl, hv, ns, k⟩ := h
  refine ⟨_, (pss_cons (ps_if (PW.pt (pw_or (pt_not (pt_val (pe_callB (w_isi (K := K) rfl) (by rfl) T.b_isinstance (by decide +kernel) (pa_cons (pv 0) (pa_cons (pe_bltn (v := .ty "str") (by rfl) T.b_str (by decide +kernel) rfl) pa_nil))))) (pw_or1 (pt_not (pt_chain op_le op_le pe_int (pe_callB (w_len (K := K) rfl) (by rfl) T.b_len (by decide +kernel) (pa_cons (pv 0) pa_nil)) pe_int))))) (pss_one (ps_ret pe_bl)) pss_nil)
      (pss_cons (ps_if (pt_not (pt_chain op_leS op_leS pe_str (pe_ix ix_str (pv 0) pe_int (fun _ _ => rfl)) pe_str)) (pss_one (ps_ret pe_bl)) pss_nil)
      (pss_cons (ps_for PassesOwn.never rfl (pi_str (pv 0)) (pg_name (i := 1) nd rfl (Or.inl rfl)) (pss_one (ps_if (PW.pt (pw_and (pt_not (pt_chain op_leS op_leS pe_str (pv 1) pe_str)) (pw_and1 (pt_not (pt_chain op_leS op_leS pe_str (pv 1) pe_str))))) (pss_one (ps_ret pe_bl)) pss_nil)))
      (pss_one (ps_ret pe_bl))))), ?_⟩
  refine x_start (σ' := [some _, none]) rfl ?_
  try simp only [cx_n, cx_K, cx_w, cx_P]
  walk_at "rd"
  refine x_isi hv.ty (kit_str d) ?_
  cases d with
  | str s => exact absurd rfl (ns s)
  | _ =>
    walk_at "rd"
    exact k
def sp_is_name3 (T : Tx K mg) : Sp := fun vs H Q _ => ∃ v d, vs = [v] ∧ DpD H v d ∧ ShortD d ∧ Q (.bl (nameD d)) H
theorem ok_is_name3 (T : Tx K mg) : FnOk P w K mg base CX0 1 T.is_name.f T.is_name.fd P_is_name (sp_is_name3 T) := by
  have F1 := ok_is_name (P := P) (w := w) (base := base) T
  have F2 := ok_is_name2 (P := P) (w := w) (base := base) T
  have sp : ∀ vs H Q E, sp_is_name3 T vs H Q E → sp_is_name T vs H Q E ∨ sp_is_name2 T vs H Q E := by
    rintro vs H Q E ⟨v, d, rfl, hv, sh, k⟩
    cases d with
    | str s =>
      cases hv
      exact .inl ⟨s, rfl, sh s rfl, k⟩
    | _ => exact .inr ⟨v, _, rfl, hv, (fun s z => nomatch z), k⟩
  refine ⟨fun vs H Q E h => (sp vs H Q E h).elim (F1.len vs H Q E) (F2.len vs H Q E), fun A outer s H args us vs Q E hr he hb hv h => ?_⟩
  exact (sp vs H Q E h).elim (F1.run A outer s H args us vs Q E hr he hb hv) (F2.run A outer s H args us vs Q E hr he hb hv)
end
end M

namespace M
open PySem PySem.Spec PyProof.Rows L2 ReR
/-- small data -/
def itmOk (d : PyData) : Bool := d.showable && decide (d.depth ≤ 1) && d.leavesShort 40 && decide (d.bulk ≤ 50)
theorem nameB_itm {s : Str} (h : nameB s = true) : itmOk (.str s) = true := by
  unfold nameB nameL at h
  simp only [Bool.and_eq_true, List.all_eq_true] at h
  have e1 : (s.cps.toList.all fun c => decide (c < 16 ^ 8)) = true := List.all_eq_true.mpr fun c hc => decide_eq_true (by
    have := h.2 c hc
    simp [lowB, digB] at this
    omega)
  have e2 : s.cps.size ≤ 50 := by
    have := h.1
    simp at this
    omega
  have e3 : itmOk (.str s) = (true && decide (0 ≤ 1) && (s.cps.toList.all fun c => decide (c < 16 ^ 8)) && decide (s.cps.size ≤ 50)) := by
    simp only [itmOk, PyData.showable, PyData.depth, PyData.leavesShort, PyData.bulk]
    rfl
  rw [e3, e1, decide_eq_true e2]
  rfl
theorem itm_parts {d : PyData} (h : itmOk d = true) : d.showable = true ∧ d.depth ≤ 1 ∧ d.leavesShort 40 = true ∧ d.bulk ≤ 50 := by
  unfold itmOk at h
  simp only [Bool.and_eq_true, decide_eq_true_eq] at h
  exact ⟨h.1.1.1, h.1.1.2, h.1.2, h.2⟩
theorem all_itm : ∀ {ds : List PyData}, (∀ d ∈ ds, itmOk d = true) → PyData.showableAll ds = true ∧ PyData.depthAll ds ≤ 1 ∧ PyData.leavesShortAll 40 ds = true ∧ PyData.bulkAll ds ≤ 51 * ds.length
  | [], _ => ⟨rfl, Nat.zero_le _, rfl, Nat.le_refl _⟩
  | d :: ds, h => by
    obtain ⟨a, b, c, e⟩ := itm_parts (h d List.mem_cons_self)
    obtain ⟨a', b', c', e'⟩ := all_itm (ds := ds) fun x hx => h x (List.mem_cons_of_mem _ hx)
    simp only [PyData.showableAll, PyData.depthAll, PyData.leavesShortAll, PyData.bulkAll, List.length_cons, a, a', c, c']
    exact ⟨rfl, Nat.max_le.mpr ⟨b, b'⟩, rfl, by omega⟩
theorem itm_short {d : PyData} (h : itmOk d = true) : ShortD d := fun s e => by
  subst e
  have := (itm_parts h).2.2.2
  simp only [PyData.bulk] at this
  have e : s.length = s.cps.size := by simp [Str.length]
  omega
def EntOk (q : PyData × PyData) : Prop := itmOk q.1 = true ∧ itmOk q.2 = true
theorem all_ent : ∀ {ds : List (PyData × PyData)}, (∀ q ∈ ds, EntOk q) → PyData.showableKv ds = true ∧ PyData.depthKv ds ≤ 1 ∧ PyData.leavesShortKv 40 ds = true ∧ PyData.bulkKv ds ≤ 102 * ds.length
  | [], _ => ⟨rfl, Nat.zero_le _, rfl, Nat.le_refl _⟩
  | (k, v) :: ds, h => by
    obtain ⟨h1, h2⟩ := h (k, v) List.mem_cons_self
    change itmOk k = true at h1
    change itmOk v = true at h2
    obtain ⟨a, b, c, e⟩ := itm_parts h1
    obtain ⟨a2, b2, c2, e2⟩ := itm_parts h2
    obtain ⟨a', b', c', e'⟩ := all_ent (ds := ds) fun x hx => h x (List.mem_cons_of_mem _ hx)
    simp only [PyData.showableKv, PyData.depthKv, PyData.leavesShortKv, PyData.bulkKv, List.length_cons, a, a', c, c', a2, c2]
    exact ⟨rfl, by omega, rfl, by omega⟩
theorem kv_okD {ds : List (PyData × PyData)} (h : ∀ q ∈ ds, EntOk q) (l : ds.length ≤ 300) : okD (.dict ds) := by
  obtain ⟨a, b, c, e⟩ := all_ent h
  exact ⟨by simpa only [PyData.showable] using a, by simp only [PyData.depth]; omega, by simpa only [PyData.leavesShort] using c, by simp only [PyData.bulk]; omega⟩
theorem lst_okD {ds : List PyData} (h : ∀ d ∈ ds, itmOk d = true) (l : ds.length ≤ 300) : okD (.list ds) := by
  obtain ⟨a, b, c, e⟩ := all_itm h
  exact ⟨by simpa only [PyData.showable] using a, by simp only [PyData.depth]; omega, by simpa only [PyData.leavesShort] using c, by simp only [PyData.bulk]; omega⟩
theorem itm_okD {d : PyData} (h : itmOk d = true) : okD d := by
  obtain ⟨a, b, c, e⟩ := itm_parts h
  exact ⟨a, by omega, c, by omega⟩
/-- an entry whose key and value are small data -/
def EntV (H : Hp) (x : NestedKey × V × V) : Prop := ∃ q : PyData × PyData, (DpD H x.2.1 q.1 ∧ DpD H x.2.2 q.2) ∧ EntOk q
theorem dpp_of {H : Hp} : ∀ {kvs : KVN}, (∀ x ∈ kvs, EntV H x) → ∃ ds, DpP H kvs ds ∧ (∀ q ∈ ds, EntOk q) ∧ ds.length = kvs.length
  | [], _ => ⟨[], .nil, (fun _ h => nomatch h), rfl⟩
  | x :: kvs, h => by
    obtain ⟨q, h1, h2⟩ := h x List.mem_cons_self
    obtain ⟨ds, a, b, c⟩ := dpp_of (kvs := kvs) fun y hy => h y (List.mem_cons_of_mem _ hy)
    refine ⟨q :: ds, .cons h1 a, fun y hy => ?_, by rw [List.length_cons, List.length_cons, c]⟩
    rcases List.mem_cons.mp hy with rfl | hy
    · exact h2
    · exact b y hy
theorem thg_of {P : Program} {w : World} {H : Hp} {a : Addr} {kvs : KVN} (g : AnyD P w H a kvs) (h : ∀ x ∈ kvs, EntV H x) (l : kvs.length ≤ 300) : ∃ d o, Thg P w H (.ref a) d o ∧ ShortO d ∧ okD d := by
  obtain ⟨ds, h1, h2, h3⟩ := dpp_of h
  exact ⟨_, _, .dic g h1, (fun ds' e q hq => by cases e; exact itm_short (h2 q hq).2), kv_okD h2 (by omega)⟩
theorem put_ent {H : Hp} {kvs : KVN} {k : NestedKey} {y v : V} (h : ∀ x ∈ kvs, EntV H x) {dk dv : PyData} (hk : DpD H y dk) (hv : DpD H v dv) (ok : itmOk dk = true) (ov : itmOk dv = true) : ∀ x ∈ NK.putN kvs k y v, EntV H x := by
  intro x hx
  unfold NK.putN at hx
  split at hx
  · obtain ⟨z, hz, rfl⟩ := List.mem_map.mp hx
    obtain ⟨q, h1, h2⟩ := h z hz
    split
    · exact ⟨(q.1, dv), ⟨h1.1, hv⟩, h2.1, ov⟩
    · exact ⟨q, h1, h2⟩
  · rcases List.mem_append.mp hx with hx | hx
    · exact h x hx
    · cases List.mem_singleton.mp hx
      exact ⟨(dk, dv), ⟨hk, hv⟩, ok, ov⟩
theorem lift_ent {A H : Hp} {kv : List (Key × V)} {looks : List (Str × Str)} (h : KVs rS A kv looks) (nm : ∀ q ∈ looks, nameB q.1 = true ∧ nameB q.2 = true) : ∀ x ∈ liftK kv, EntV H x := by
  intro x hx
  obtain ⟨z, hz, rfl⟩ := List.mem_map.mp hx
  obtain ⟨i, hi⟩ := List.mem_iff_getElem?.mp hz
  obtain ⟨q, hq, e1, e2⟩ := Paired.getL h hi
  obtain ⟨n1, n2⟩ := nm q (getMem hq)
  have e2 : z.2 = .str q.2 := e2
  refine ⟨(.str q.1, .str q.2), ⟨?_, ?_⟩, nameB_itm n1, nameB_itm n2⟩
  · show DpD H (kV z.1) _
    rw [e1]
    exact .str _
  · show DpD H z.2 _
    rw [e2]
    exact .str _
theorem ent_ext {A B : Hp} (e : ExtR A B) {kvs : KVN} (h : ∀ x ∈ kvs, EntV A x) : ∀ x ∈ kvs, EntV B x := fun x hx => by
  obtain ⟨q, h1, h2⟩ := h x hx
  exact ⟨q, ⟨h1.1.monoR e, h1.2.monoR e⟩, h2⟩
end M

namespace M
open PySem PySem.Spec PyProof.Rows L2 ReR
/-! ### odd things as data -/
def oddD : List PyData := [.none, .bool true, .bool false, .int 0, .int (-1), .int 1, .int 5, .int 10, .int (10 ^ 29), .str "", .str "A", .str "a-", .str "1a", .str "abcdefghi", .str "a b", .str "b\n", .str "*", .tuple [], .list [], .dict [],
  .tuple [.str "end"], .list [.str "a"], .tuple [.str "a", .int 1], .dict [(.str "a", .int 1)], .str "aB"]
theorem odd_ok : ∀ d ∈ oddD, itmOk d = true := by decide +kernel
theorem odd_at {d : PyData} (i : Nat) (h : oddD[i]? = some d) : d ∈ oddD := List.mem_of_getElem? h
theorem out_S {H B : Hp} {p a : Addr} {S : List Addr} (hp : Pool H p) (hS : ∀ b ∈ S, H b ≠ none) (s : SX [] H B) (hn : B a = none) : a ∉ p :: S := fun m => by
  rcases List.mem_cons.mp m with rfl | m
  · exact (hp.sx s List.not_mem_nil).there hn
  · cases e : H a with
    | none => exact hS a m e
    | some o => rw [s _ _ List.not_mem_nil e] at hn; cases hn
theorem hid_eqS {H : Hp} {S : List Addr} {a : Addr} {o : HO} (n : a ∉ S) (h : H a = some o) : hid S H a = some o := by
  rw [hid_of n]
  exact h
theorem hid_sxS {A B : Hp} {S S' : List Addr} (sub : ∀ b ∈ S, b ∈ S') (s : SX S A B) : ∀ b o, hid S' A b = some o → hid S' B b = some o := fun b o h => by
  obtain ⟨n, e⟩ := hid_at h
  rw [hid_of n]
  exact s b o (fun m => n (sub b m)) e
/-- an odd thing, whatever the pool is, whatever lies at S -/
def OddS (S : List Addr) (H0 H : Hp) (p : Addr) (v : V) : Prop := ∃ d ∈ oddD, DpD (hid (p :: S) H) v d ∧ ((∃ ds, d = .dict ds) → ∃ a kk, v = .ref a ∧ H0 a = none ∧ hid (p :: S) H a = some (.dK kk))
theorem OddS.sx {S : List Addr} {H0 A B : Hp} {p : Addr} {v : V} (s : SX [p] A B) : OddS S H0 A p v → OddS S H0 B p v := fun ⟨d, m, h, f⟩ =>
  have e := hid_sxS (S' := p :: S) (fun b hb => by rw [List.mem_singleton.mp hb]; exact List.mem_cons_self) s
  ⟨d, m, h.mono e, fun x => let ⟨a, kk, h1, h2, h3⟩ := f x; ⟨a, kk, h1, h2, e _ _ h3⟩⟩
theorem at_mem {xs : List V} {r : Int} (h0 : 0 ≤ r) (h1 : r < (xs.length : Int)) : ∃ v, atI xs r = some v ∧ v ∈ xs := by
  obtain ⟨n, rfl⟩ := Int.eq_ofNat_of_zero_le h0
  have hn : n < xs.length := by omega
  exact ⟨xs[n], atI_nat (by rw [List.getElem?_eq_getElem hn]), List.getElem_mem hn⟩
section
variable {P : Program} [SupX.PX P] {w : World} {K : PySem.W.Frag} {mg : Str → Option Value} {base : Heap}
theorem x_disp {trs : List (TE × TE)} {σ : L2.St} {H : Hp} {Q : VK} (k : ∀ p, H p = none → tPairs trs σ (upd H p (.dK [])) fun ps H2 => H2 p = some (.dK []) ∧ ∃ kvs : List (Key × V), ps = kvs.map (fun kv => (kV kv.1, kv.2)) ∧ kvs.length ≤ 15 ∧ Q (.ref p) (upd H2 p (.dK (mergeK [] kvs)))) : tDisp trs σ H Q := k
def sp_law_thing (T : Tx K mg) : Sp := fun vs H Q _ => ∃ (p : Addr) (S : List Addr), vs = [.ref p] ∧ Pool H p ∧ (∀ b ∈ S, H b ≠ none) ∧ ∀ v H', OddS S H H' p v → SX [p] H H' → Pool H' p → Q v H'
theorem ok_law_thing (T : Tx K mg) : FnOk P w K mg base CX0 2 T.law_thing.f T.law_thing.fd P_law_thing (sp_law_thing T) := by
  refine T.law_thing.F.ok sc_law_thing (fun vs H Q E h => ?_) (fun cdv A outer s H vs Q E hr h => ?_)
  · obtain ⟨p, S, rfl, hp, hS, k⟩ := h
    rfl
  have hu := hu_of hr
  have nd := sc_law_thing.nd
  obtain ⟨p, S, rfl, hp, hS, k⟩ := h
  refine ⟨_, (pss_cons (ps_set (i := 1) nd rfl (Or.inl rfl) (pe_lst (pa_cons pe_non (pa_cons pe_bl (pa_cons pe_bl (pa_cons pe_int (pa_cons (pe_un un_neg pe_int) (pa_cons pe_int (pa_cons pe_int (pa_cons pe_int (pa_cons (pe_op op_powB pe_int pe_int) (pa_cons pe_str (pa_cons pe_str (pa_cons pe_str (pa_cons pe_str (pa_cons pe_str (pa_cons pe_str (pa_cons pe_str (pa_cons pe_str (pa_cons (pe_tup pa_nil) (pa_cons (pe_lst pa_nil) (pa_cons pe_dnewK pa_nil))))))))))))))))))))))
      (pss_cons (ps_set (i := 1) nd rfl (Or.inl rfl) (pe_op op_cat (pv 1) (pe_lst (pa_cons (pe_tup (pa_cons pe_str pa_nil)) (pa_cons (pe_lst (pa_cons pe_str pa_nil)) (pa_cons (pe_tup (pa_cons pe_str (pa_cons pe_int pa_nil))) (pa_cons (pe_disp (pps_cons pe_str pe_int pps_nil) (by rfl) (by rfl) (fun z => by cases z) (by decide)) (pa_cons pe_str pa_nil))))))))
      (pss_one (ps_ret (pe_ix (w_ixL (K := K) rfl) (pv 1) (pe_call (ok_law_draw (P := P) (w := w) T) (hr.mono (by decide)) (by rfl) T.law_draw.g T.law_draw.F.kp T.law_draw.B .nil pass0 (pa_cons (pv 0) (pa_cons pe_int pa_nil))) (fun _ _ => rfl)))))), ?_⟩
  refine x_start (σ' := [some _, none]) rfl ?_
  try simp only [cx_n, cx_K, cx_w, cx_P]
  walk_at "rd"
  refine x_I ⟨by decide, by decide +kernel⟩ ?_
  walk_at "rd"
  refine ⟨Nat.le_of_ble_eq_true rfl, fun t1 h1 => ?_⟩
  walk_at "rd"
  refine ⟨Nat.le_of_ble_eq_true rfl, fun l1 h2 => ?_⟩
  walk_at "rd"
  intro d1 h3
  walk_at "rd"
  refine ⟨Nat.le_of_ble_eq_true rfl, fun l2 h4 => ?_⟩
  have s1 : SX [] H (upd H t1 (.tup [])) := SX.new h1
  have e1 : (upd H t1 (.tup [])) t1 = some (.tup []) := upd_same
  generalize upd H t1 (.tup []) = H1 at s1 e1 h2 h3 h4
  have s2 : SX [] H1 (upd H1 l1 (.lst [])) := SX.new h2
  have e2 : (upd H1 l1 (.lst [])) l1 = some (.lst []) := upd_same
  generalize upd H1 l1 (.lst []) = H2 at s2 e2 h3 h4
  have s3 : SX [] H2 (upd H2 d1 (.dK [])) := SX.new h3
  have e3 : (upd H2 d1 (.dK [])) d1 = some (.dK []) := upd_same
  generalize upd H2 d1 (.dK []) = H3 at s3 e3 h4
  let L1 : List V := [V.non, V.bl true, V.bl false, V.int 0, V.int (-1), V.int 1, V.int 5, V.int 10, V.int (10 ^ Int.toNat 29), V.str "", V.str "A", V.str "a-", V.str "1a", V.str "abcdefghi", V.str "a b", V.str "b\n", V.str "*", V.ref t1, V.ref l1, V.ref d1]
  have s4 : SX [] H3 (upd H3 l2 (.lst L1)) := SX.new h4
  have e4 : (upd H3 l2 (.lst L1)) l2 = some (.lst L1) := upd_same
  have n1 : t1 ∉ p :: S := out_S hp hS (SX.refl H) h1
  have n2 : l1 ∉ p :: S := out_S hp hS s1 h2
  have n3 : d1 ∉ p :: S := out_S hp hS (s1.trans s2) h3
  have z3 : H d1 = none := (s1.trans s2).free h3 List.not_mem_nil
  have T1 : ∀ v ∈ L1, OddS S H (upd H3 l2 (.lst L1)) p v := by
    have a1 := hid_eqS n1 (s4 _ _ List.not_mem_nil (s3 _ _ List.not_mem_nil (s2 _ _ List.not_mem_nil e1)))
    have a2 := hid_eqS n2 (s4 _ _ List.not_mem_nil (s3 _ _ List.not_mem_nil e2))
    have a3 := hid_eqS n3 (s4 _ _ List.not_mem_nil e3)
    intro v hv
    simp only [L1, List.mem_cons, List.not_mem_nil, or_false] at hv
    rcases hv with rfl | rfl | rfl | rfl | rfl | rfl | rfl | rfl | rfl | rfl | rfl | rfl | rfl | rfl | rfl | rfl | rfl | rfl | rfl | rfl
    · exact ⟨_, odd_at 0 rfl, .non, (fun ⟨_, z⟩ => nomatch z)⟩
    · exact ⟨_, odd_at 1 rfl, .bl _, (fun ⟨_, z⟩ => nomatch z)⟩
    · exact ⟨_, odd_at 2 rfl, .bl _, (fun ⟨_, z⟩ => nomatch z)⟩
    · exact ⟨_, odd_at 3 rfl, .int _, (fun ⟨_, z⟩ => nomatch z)⟩
    · exact ⟨_, odd_at 4 rfl, .int _, (fun ⟨_, z⟩ => nomatch z)⟩
    · exact ⟨_, odd_at 5 rfl, .int _, (fun ⟨_, z⟩ => nomatch z)⟩
    · exact ⟨_, odd_at 6 rfl, .int _, (fun ⟨_, z⟩ => nomatch z)⟩
    · exact ⟨_, odd_at 7 rfl, .int _, (fun ⟨_, z⟩ => nomatch z)⟩
    · exact ⟨_, odd_at 8 rfl, .int _, (fun ⟨_, z⟩ => nomatch z)⟩
    · exact ⟨_, odd_at 9 rfl, .str _, (fun ⟨_, z⟩ => nomatch z)⟩
    · exact ⟨_, odd_at 10 rfl, .str _, (fun ⟨_, z⟩ => nomatch z)⟩
    · exact ⟨_, odd_at 11 rfl, .str _, (fun ⟨_, z⟩ => nomatch z)⟩
    · exact ⟨_, odd_at 12 rfl, .str _, (fun ⟨_, z⟩ => nomatch z)⟩
    · exact ⟨_, odd_at 13 rfl, .str _, (fun ⟨_, z⟩ => nomatch z)⟩
    · exact ⟨_, odd_at 14 rfl, .str _, (fun ⟨_, z⟩ => nomatch z)⟩
    · exact ⟨_, odd_at 15 rfl, .str _, (fun ⟨_, z⟩ => nomatch z)⟩
    · exact ⟨_, odd_at 16 rfl, .str _, (fun ⟨_, z⟩ => nomatch z)⟩
    · exact ⟨_, odd_at 17 rfl, .tup a1 .nil, (fun ⟨_, z⟩ => nomatch z)⟩
    · exact ⟨_, odd_at 18 rfl, .lst a2 .nil, (fun ⟨_, z⟩ => nomatch z)⟩
    · exact ⟨_, odd_at 19 rfl, .dic (.inl a3) .nil, fun _ => ⟨_, _, rfl, z3, a3⟩⟩
  have l20 : L1.length = 20 := rfl
  change gName 1 (V.ref l2) _ (upd H3 l2 (.lst L1)) _
  have sH4 := s1.trans (s2.trans (s3.trans s4))
  generalize upd H3 l2 (.lst L1) = H4 at s4 e4 T1 sH4
  clear_value L1
  clear s1 s2 s3 s4 e1 e2 e3 h1 h2 h3 h4
  walk_at "rd"
  refine ⟨Nat.le_of_ble_eq_true rfl, fun t2 h5 => ?_⟩
  walk_at "rd"
  refine ⟨Nat.le_of_ble_eq_true rfl, fun l3 h6 => ?_⟩
  walk_at "rd"
  refine ⟨Nat.le_of_ble_eq_true rfl, fun t3 h7 => ?_⟩
  have s5 : SX [] H4 (upd H4 t2 (.tup [.str "end"])) := SX.new h5
  have e5 : (upd H4 t2 (.tup [.str "end"])) t2 = some (.tup [.str "end"]) := upd_same
  generalize upd H4 t2 (.tup [.str "end"]) = H5 at s5 e5 h6 h7
  have s6 : SX [] H5 (upd H5 l3 (.lst [.str "a"])) := SX.new h6
  have e6 : (upd H5 l3 (.lst [.str "a"])) l3 = some (.lst [.str "a"]) := upd_same
  generalize upd H5 l3 (.lst [.str "a"]) = H6 at s6 e6 h7
  have s7 : SX [] H6 (upd H6 t3 (.tup [.str "a", .int 1])) := SX.new h7
  have e7 : (upd H6 t3 (.tup [.str "a", .int 1])) t3 = some (.tup [.str "a", .int 1]) := upd_same
  generalize upd H6 t3 (.tup [.str "a", .int 1]) = H7 at s7 e7
  refine x_disp fun d2 h8 => ?_
  show tPairs _ _ _ _
  unfold tPairs
  walk_at "rd"
  unfold tPairs
  have s8 : SX [] H7 (upd H7 d2 (.dK [])) := SX.new h8
  refine ⟨upd_same, [(Sum.inr "a", .int 1)], rfl, Nat.le_of_ble_eq_true rfl, ?_⟩
  have s9 : SX [] H7 (upd (upd H7 d2 (.dK [])) d2 (.dK (mergeK [] [(Sum.inr "a", .int 1)]))) := by rw [upd_upd]; exact SX.new h8
  have e9 : (upd (upd H7 d2 (.dK [])) d2 (.dK (mergeK [] [(Sum.inr "a", .int 1)]))) d2 = some (.dK _) := upd_same
  generalize upd (upd H7 d2 (.dK [])) d2 (.dK (mergeK [] [(Sum.inr "a", .int 1)])) = H9 at s9 e9
  walk_at "rd"
  refine ⟨Nat.le_of_ble_eq_true rfl, fun l4 h10 => ?_⟩
  let R5 : List V := [.ref t2, .ref l3, .ref t3, .ref d2, .str "aB"]
  have s59 := s5.trans (s6.trans (s7.trans s9))
  have s10 : SX [] H9 (upd H9 l4 (.lst R5)) := SX.new h10
  have e10 : (upd H9 l4 (.lst R5)) l4 = some (.lst _) := upd_same
  have s410 := s59.trans s10
  have m2 : t2 ∉ p :: S := out_S hp hS sH4 h5
  have m3 : l3 ∉ p :: S := out_S hp hS (sH4.trans s5) h6
  have m4 : t3 ∉ p :: S := out_S hp hS (sH4.trans (s5.trans s6)) h7
  have m5 : d2 ∉ p :: S := out_S hp hS (sH4.trans (s5.trans (s6.trans s7))) h8
  have z5 : H d2 = none := (sH4.trans (s5.trans (s6.trans s7))).free h8 List.not_mem_nil
  have a2 := (s6.trans (s7.trans (s9.trans s10))) _ _ List.not_mem_nil e5
  have a3 := (s7.trans (s9.trans s10)) _ _ List.not_mem_nil e6
  have a4 := (s9.trans s10) _ _ List.not_mem_nil e7
  have a5 := s10 _ _ List.not_mem_nil e9
  generalize upd H9 l4 (.lst R5) = H10 at s10 e10 s410 a2 a3 a4 a5
  refine ⟨l2, l4, L1, _, rfl, rfl, s410 _ _ List.not_mem_nil e4, e10, by rw [l20]; exact Nat.le_of_ble_eq_true rfl, fun l5 h11 => ?_⟩
  have s11 : SX [] H10 (upd H10 l5 (.lst (L1 ++ R5))) := SX.new h11
  have e11 : (upd H10 l5 (.lst (L1 ++ R5))) l5 = some (.lst (L1 ++ R5)) := upd_same
  generalize upd H10 l5 (.lst (L1 ++ R5)) = H11 at s11 e11
  have sAll : SX [] H H11 := sH4.trans (s410.trans s11)
  have T2 : ∀ v ∈ L1 ++ R5, OddS S H H11 p v := by
    intro v hv
    rcases List.mem_append.mp hv with hv | hv
    · exact (T1 v hv).sx (nil_sx (s410.trans s11))
    · simp only [R5, List.mem_cons, List.not_mem_nil, or_false] at hv
      rcases hv with rfl | rfl | rfl | rfl | rfl
      · exact ⟨_, odd_at 20 rfl, .tup (hid_eqS m2 (s11 _ _ List.not_mem_nil a2)) (.cons (.str _) .nil), (fun ⟨_, z⟩ => nomatch z)⟩
      · exact ⟨_, odd_at 21 rfl, .lst (hid_eqS m3 (s11 _ _ List.not_mem_nil a3)) (.cons (.str _) .nil), (fun ⟨_, z⟩ => nomatch z)⟩
      · exact ⟨_, odd_at 22 rfl, .tup (hid_eqS m4 (s11 _ _ List.not_mem_nil a4)) (.cons (.str _) (.cons (.int _) .nil)), (fun ⟨_, z⟩ => nomatch z)⟩
      · exact ⟨_, odd_at 23 rfl, .dic (.inl (hid_eqS m5 (s11 _ _ List.not_mem_nil a5))) (.cons (.int _) .nil), fun _ => ⟨_, _, rfl, z5, hid_eqS m5 (s11 _ _ List.not_mem_nil a5)⟩⟩
      · exact ⟨_, odd_at 24 rfl, .str _, (fun ⟨_, z⟩ => nomatch z)⟩
  have l25 : (L1 ++ R5).length = 25 := by rw [List.length_append, l20]; rfl
  generalize L1 ++ R5 = LL at e11 T2 l25
  walk_at "rd"
  refine ⟨p, 25, rfl, hp.sx sAll List.not_mem_nil, by decide, by decide, fun r H12 r0 r1 s12 p12 => ?_⟩
  have n5 : l5 ≠ p := fun z => (hp.sx (sH4.trans s410) List.not_mem_nil).there (z ▸ h11)
  obtain ⟨v, ev, mv⟩ := at_mem (xs := LL) r0 (by rw [l25]; exact r1)
  refine x_ixL (sqL (s12 _ _ (by simpa using n5) e11)) ev ?_
  exact k v H12 ((T2 v mv).sx s12) ((nil_sx sAll).trans s12) p12
end
end M

namespace M
open PySem PySem.Spec PyProof.Rows L2 ReR
theorem abc_low (c : Nat) : (!decide (c ∈ (Str.ofString "abcdefghijklmnopqrstuvwxyz").cps.toList)) = !lowB c := by
  congr 1
  rw [show (Str.ofString "abcdefghijklmnopqrstuvwxyz").cps.toList = [97, 98, 99, 100, 101, 102, 103, 104, 105, 106, 107, 108, 109, 110, 111, 112, 113, 114, 115, 116, 117, 118, 119, 120, 121, 122] from by decide +kernel]
  rw [Bool.eq_iff_iff]
  simp only [lowB, decide_eq_true_iff, Bool.and_eq_true, List.mem_cons, List.not_mem_nil, or_false]
  omega
theorem abc_dig (c : Nat) : decide (c ∈ (Str.ofString "abcdefghijklmnopqrstuvwxyz0123456789").cps.toList) = (lowB c || digB c) := by
  rw [show (Str.ofString "abcdefghijklmnopqrstuvwxyz0123456789").cps.toList = [97, 98, 99, 100, 101, 102, 103, 104, 105, 106, 107, 108, 109, 110, 111, 112, 113, 114, 115, 116, 117, 118, 119, 120, 121, 122, 48, 49, 50, 51, 52, 53, 54, 55, 56, 57] from by decide +kernel]
  rw [Bool.eq_iff_iff]
  simp only [lowB, digB, decide_eq_true_iff, Bool.and_eq_true, Bool.or_eq_true, List.mem_cons, List.not_mem_nil, or_false]
  omega
section
variable {P : Program} {w : World} {K : PySem.W.Frag} {mg : Str → Option Value} {base : Heap}
def sp_law_is_name (T : Tx K mg) : Sp := fun vs H Q _ => ∃ v d, vs = [v] ∧ DpD H v d ∧ ShortD d ∧ ∀ H', SX [] H H' → Q (.bl (nameD d)) H'
theorem ok_law_is_name (T : Tx K mg) : FnOk P w K mg base CX0 1 T.law_is_name.f T.law_is_name.fd P_law_is_name (sp_law_is_name T) := by
  refine T.law_is_name.F.ok sc_law_is_name (fun vs H Q E h => ?_) (fun cdv A outer s H vs Q E hr h => ?_)
  · obtain ⟨v, d, rfl, hv, sh, k⟩ := h
    rfl
  have hu := hu_of hr
  have nd := sc_law_is_name.nd
  obtain ⟨v, d, rfl, hv, sh, k⟩ := h
  refine ⟨_, (pss_cons (ps_set (i := 1) nd rfl (Or.inr rfl) pe_str)
      (pss_cons (ps_if (PW.pt (pw_or (pt_not (pt_val (pe_callB (w_isi (K := K) rfl) (by rfl) T.b_isinstance (by decide +kernel) (pa_cons (pv 0) (pa_cons (pe_bltn (v := .ty "str") (by rfl) T.b_str (by decide +kernel) rfl) pa_nil))))) (pw_or (pt_cmpR op_lt (pe_callB (w_len (K := K) rfl) (by rfl) T.b_len (by decide +kernel) (pa_cons (pv 0) pa_nil)) pe_int (nomark _)) (pw_or1 (pt_cmpR op_gt (pe_callB (w_len (K := K) rfl) (by rfl) T.b_len (by decide +kernel) (pa_cons (pv 0) pa_nil)) pe_int (nomark _)))))) (pss_one (ps_ret pe_bl)) pss_nil)
      (pss_cons (ps_if (pt_cmpR op_notInSg (pe_ix ix_str (pv 0) pe_int (fun _ _ => rfl)) (pv 1) (by rfl)) (pss_one (ps_ret pe_bl)) pss_nil)
      (pss_one (ps_ret (pe_callB (w_all (K := K) rfl rfl) (by rfl) T.b_all (by decide +kernel) (pa_cons (pe_lc (own := [("sign", 2)]) rfl nd (pi_str (pv 0)) (blkOk_by (own := [("sign", 2)]) (N := N_law_is_name) (sc := defScope s_law_is_name) (by decide +kernel)) (fun _ _ _ _ _ => (pg_name (i := 2) nd rfl (Or.inl rfl))) (fun _ _ _ _ _ => pts_nil) (fun _ _ _ _ _ => (pe_cmpR op_inSg (pv 2) (pe_op op_catS (pv 1) pe_str) (by rfl)))) pa_nil))))))), ?_⟩
  refine x_start (σ' := [some _, none, none]) rfl ?_
  try simp only [cx_n, cx_K, cx_w, cx_P]
  walk_at "rd"
  refine x_isi hv.ty (kit_str d) ?_
  cases hv with
  | str s =>
    walk_at "rd"
    have hs := sh s rfl
    have kf : nameB s = false → Q (.bl false) H := fun e => by
      have := k H (SX.refl _)
      change Q (.bl (nameB s)) H at this
      rw [e] at this
      exact this
    refine x_lenS' (sz10 hs) ?_
    walk_at "rd"
    refine x_cases (fun h1 => ?_) (fun h1 => ?_)
    · walk_at "rd"
      exact kf (nameB_len fun h => by simp at h1; omega)
    walk_at "rd"
    refine x_lenS' (sz10 hs) ?_
    walk_at "rd"
    refine x_cases (fun h2 => ?_) (fun h2 => ?_)
    · walk_at "rd"
      exact kf (nameB_len fun h => by simp at h2; omega)
    walk_at "rd"
    have hlen : 1 ≤ s.length ∧ s.length ≤ 8 := by simp at h1 h2; omega
    have es : s.cps.toList.length = s.length := by simp [Str.length]
    obtain ⟨c0, hc0⟩ : ∃ c, s.cps.toList[0]? = some c := ⟨s.cps.toList[0]'(by omega), by simp⟩
    have hd0 : s.cps.toList.getD 0 0 = c0 := by rw [List.getD_eq_getElem?_getD, hc0]; rfl
    refine x_ixS (sz10 hs) (atI_nat (j := 0) hc0) ?_
    walk_at "rd"
    refine ⟨c0, _, rfl, rfl, ?_⟩
    rw [if_pos rfl, abc_low]
    cases lo : lowB c0 with
    | false =>
      walk_at "rd"
      exact kf (nameB_low (by rw [hd0]; exact lo))
    | true =>
    walk_at "rd"
    intro D hD
    refine lc_it walk_str (fun n A => SX [] H A ∧ A D = some (.lst (((s.cps.toList.take n).map fun c => (lowB c || digB c)).map V.bl))) ⟨SX.new hD, upd_same⟩ (fun _ _ _ _ => trivial) ?_ ?_
    · rintro n x A0 A hn ⟨sA, dA⟩ ⟨rfl, c, hc, rfl⟩
      have hc' : s.cps.toList[n]? = some c := by simpa using hc
      walk_at "rd"
      refine ⟨rfl, ?_⟩
      walk_at "rd"
      refine x_catS (by decide +kernel) ?_
      rw [show ((Str.ofString "abcdefghijklmnopqrstuvwxyz") ++ (Str.ofString "0123456789") : Str) = Str.ofString "abcdefghijklmnopqrstuvwxyz0123456789" from by decide +kernel]
      refine ⟨c, _, rfl, rfl, ?_⟩
      rw [if_neg Bool.false_ne_true, abc_dig]
      refine ⟨_, dA, lt_size (by rw [List.length_map, List.length_map, List.length_take]; omega), sx_nil_of (S := [D]) ((nil_sx sA).trans (SX.mut List.mem_cons_self)) (by simp [hD]), ?_⟩
      rw [upd_same, take_succ_of hc', List.map_append, List.map_append]
      rfl
    · rintro A ⟨sA, dA⟩
      rw [show s.cps.size = s.cps.toList.length by simp, List.take_length] at dA
      refine ⟨D, _, rfl, sqL dA, ?_⟩
      walk_at "rd"
      have eb : ((s.cps.toList.map fun c => (lowB c || digB c)).all id) = nameB s := by
        cases h : ((s.cps.toList.map fun c => (lowB c || digB c)).all id) with
        | true =>
          rw [List.all_eq_true] at h
          exact (nameB_yes hlen (by rw [hd0]; exact lo) fun c hc => h _ (List.mem_map.mpr ⟨c, hc, rfl⟩)).symm
        | false =>
          rw [List.all_eq_false] at h
          obtain ⟨b, hb, hn⟩ := h
          obtain ⟨c, hc, rfl⟩ := List.mem_map.mp hb
          exact (nameB_all hc (by simpa using hn)).symm
      rw [eb]
      exact k A sA
  | _ => walk_at "rd"; exact k _ (SX.refl _)
end
end M

namespace M
open PySem PySem.Spec PyProof.Rows L2 ReR
theorem kit_int : ∀ d : PyData, kitB (tyD d) "int" = some (match d with | .int _ => true | .bool _ => true | _ => false)
  | .none => (by decide +kernel : kitB "NoneType" "int" = some false)
  | .bool _ => (by decide +kernel : kitB "bool" "int" = some true)
  | .int _ => (by decide +kernel : kitB "int" "int" = some true)
  | .str _ => (by decide +kernel : kitB "str" "int" = some false)
  | .list _ => (by decide +kernel : kitB "list" "int" = some false)
  | .tuple _ => (by decide +kernel : kitB "tuple" "int" = some false)
  | .dict _ => (by decide +kernel : kitB "dict" "int" = some false)
def intD : PyData → Bool
  | .int _ => true
  | _ => false
def valD : PyData → Bool
  | .int i => decide (-99 ≤ i) && decide (i ≤ 99)
  | _ => false
def okQ (q : PyData × PyData) : Bool := nameD q.1 && valD q.2
/-- names to worths -/
def AreD (d : PyData) : Prop := ∃ ds, d = .dict ds ∧ ds.length ≤ 100 ∧ ∀ q ∈ ds, okQ q = true
/-- keys and values are small -/
def EntsS (d : PyData) : Prop := ∀ ds, d = .dict ds → ∀ q ∈ ds, EntOk q
theorem dpp_at {H : Hp} {kvs : KVN} {ds : List (PyData × PyData)} (h : DpP H kvs ds) {i : Nat} {x : NestedKey × V × V} (hx : kvs[i]? = some x) : ∃ q, ds[i]? = some q ∧ DpD H x.2.1 q.1 ∧ DpD H x.2.2 q.2 := by
  obtain ⟨q, hq, r⟩ := paired_get h hx
  exact ⟨q, hq, r.1, r.2⟩
section
variable {P : Program} [SupX.PX P] {w : World} {K : PySem.W.Frag} {mg : Str → Option Value} {base : Heap}
def sp_is_integer2 (T : Tx K mg) : Sp := fun vs H Q _ => ∃ v d, vs = [v] ∧ DpD H v d ∧ Q (.bl (intD d)) H
theorem ok_is_integer2 (T : Tx K mg) : FnOk P w K mg base CX0 1 T.is_integer.f T.is_integer.fd P_is_integer (sp_is_integer2 T) := by
  refine T.is_integer.F.ok sc_is_integer (fun vs H Q E h => ?_) (fun cdv A outer s H vs Q E hr h => ?_)
  · obtain ⟨v, d, rfl, hd, k⟩ := h
    rfl
  have hu := hu_of hr
  have nd := sc_is_integer.nd
  obtain ⟨v, d, rfl, hd, k⟩ := h
  refine ⟨_, (pss_one (ps_ret (pe_and (pe_callB (w_isi (K := K) rfl) (by rfl) T.b_isinstance (by decide +kernel) (pa_cons (pv 0) (pa_cons (pe_bltn (v := .ty "int") (by rfl) T.b_int (by decide +kernel) rfl) pa_nil))) (pe_one (pe_not (pe_callB (w_isi (K := K) rfl) (by rfl) T.b_isinstance (by decide +kernel) (pa_cons (pv 0) (pa_cons (pe_bltn (v := .ty "bool") (by rfl) T.b_bool (by decide +kernel) rfl) pa_nil)))))))), ?_⟩
  refine x_start (σ' := [some _]) rfl ?_
  try simp only [cx_n, cx_K, cx_w, cx_P]
  walk_at "rd"
  refine x_isi hd.ty (kit_int d) ?_
  cases hd with
  | int i =>
    walk_at "rd"
    refine x_isiF (.base (.int i)) (by decide +kernel) ?_
    walk_at "rd"
    exact k
  | bl b =>
    walk_at "rd"
    refine x_isiT (.base (.bl b)) (by decide +kernel) ?_
    walk_at "rd"
    exact k
  | non => walk_at "rd"; exact k
  | str b => walk_at "rd"; exact k
  | lst e h => walk_at "rd"; exact k
  | tup e h => walk_at "rd"; exact k
  | dic e h => walk_at "rd"; exact k
def sp_is_value (T : Tx K mg) : Sp := fun vs H Q _ => ∃ v d, vs = [v] ∧ DpD H v d ∧ Q (.bl (valD d)) H
theorem ok_is_value (T : Tx K mg) : FnOk P w K mg base CX0 2 T.is_value.f T.is_value.fd P_is_value (sp_is_value T) := by
  refine T.is_value.F.ok sc_is_value (fun vs H Q E h => ?_) (fun cdv A outer s H vs Q E hr h => ?_)
  · obtain ⟨v, d, rfl, hd, k⟩ := h
    rfl
  have hu := hu_of hr
  have nd := sc_is_value.nd
  obtain ⟨v, d, rfl, hd, k⟩ := h
  refine ⟨_, (pss_one (ps_ret (pe_and (pe_call (ok_is_integer2 (P := P) (w := w) T) (hr.mono (by decide)) (by rfl) T.is_integer.g T.is_integer.F.kp T.is_integer.B .nil pass0 (pa_cons (pv 0) pa_nil)) (pe_one (pe_chain op_le op_le (pe_un un_neg pe_int) (pv 0) pe_int))))), ?_⟩
  refine x_start (σ' := [some _]) rfl ?_
  try simp only [cx_n, cx_K, cx_w, cx_P]
  walk_at "rd"
  refine ⟨v, d, rfl, hd, ?_⟩
  cases hd with
  | int i =>
    rw [show intD (.int i) = true from rfl]
    walk_at "rd"
    refine x_cases (fun c => ?_) (fun c => ?_)
    · walk_at "rd"
      have c := of_decide_eq_true c
      have : valD (.int i) = decide (i ≤ 99) := by
        show (decide (-99 ≤ i) && decide (i ≤ 99)) = _
        rw [decide_eq_true (by omega : -99 ≤ i)]
        rfl
      rw [this] at k
      exact k
    · have c := of_decide_eq_false c
      have : valD (.int i) = false := by
        show (decide (-99 ≤ i) && decide (i ≤ 99)) = _
        rw [decide_eq_false (by omega : ¬ -99 ≤ i)]
        rfl
      rw [this] at k
      walk_at "rd"
      exact k
  | _ => walk_at "rd"; exact k
def sp_law_is_int (T : Tx K mg) : Sp := fun vs H Q _ => ∃ v d, vs = [v] ∧ DpD H v d ∧ Q (.bl (intD d)) H
theorem ok_law_is_int (T : Tx K mg) : FnOk P w K mg base CX0 1 T.law_is_int.f T.law_is_int.fd P_law_is_int (sp_law_is_int T) := by
  refine T.law_is_int.F.ok sc_law_is_int (fun vs H Q E h => ?_) (fun cdv A outer s H vs Q E hr h => ?_)
  · obtain ⟨v, d, rfl, hd, k⟩ := h
    rfl
  have hu := hu_of hr
  have nd := sc_law_is_int.nd
  obtain ⟨v, d, rfl, hd, k⟩ := h
  refine ⟨_, (pss_one (ps_ret (pe_and (pe_callB (w_isi (K := K) rfl) (by rfl) T.b_isinstance (by decide +kernel) (pa_cons (pv 0) (pa_cons (pe_bltn (v := .ty "int") (by rfl) T.b_int (by decide +kernel) rfl) pa_nil))) (pe_one (pe_not (pe_callB (w_isi (K := K) rfl) (by rfl) T.b_isinstance (by decide +kernel) (pa_cons (pv 0) (pa_cons (pe_bltn (v := .ty "bool") (by rfl) T.b_bool (by decide +kernel) rfl) pa_nil)))))))), ?_⟩
  refine x_start (σ' := [some _]) rfl ?_
  try simp only [cx_n, cx_K, cx_w, cx_P]
  walk_at "rd"
  refine x_isi hd.ty (kit_int d) ?_
  cases hd with
  | int i =>
    walk_at "rd"
    refine x_isiF (.base (.int i)) (by decide +kernel) ?_
    walk_at "rd"
    exact k
  | bl b =>
    walk_at "rd"
    refine x_isiT (.base (.bl b)) (by decide +kernel) ?_
    walk_at "rd"
    exact k
  | non => walk_at "rd"; exact k
  | str b => walk_at "rd"; exact k
  | lst e h => walk_at "rd"; exact k
  | tup e h => walk_at "rd"; exact k
  | dic e h => walk_at "rd"; exact k
def sp_law_is_value (T : Tx K mg) : Sp := fun vs H Q _ => ∃ v d, vs = [v] ∧ DpD H v d ∧ Q (.bl (valD d)) H
theorem ok_law_is_value (T : Tx K mg) : FnOk P w K mg base CX0 2 T.law_is_value.f T.law_is_value.fd P_law_is_value (sp_law_is_value T) := by
  refine T.law_is_value.F.ok sc_law_is_value (fun vs H Q E h => ?_) (fun cdv A outer s H vs Q E hr h => ?_)
  · obtain ⟨v, d, rfl, hd, k⟩ := h
    rfl
  have hu := hu_of hr
  have nd := sc_law_is_value.nd
  obtain ⟨v, d, rfl, hd, k⟩ := h
  refine ⟨_, (pss_one (ps_ret (pe_and (pe_call (ok_law_is_int (P := P) (w := w) T) (hr.mono (by decide)) (by rfl) T.law_is_int.g T.law_is_int.F.kp T.law_is_int.B .nil pass0 (pa_cons (pv 0) pa_nil)) (pe_and (pe_cmpR op_ge (pv 0) (pe_un un_neg pe_int) (nomark _)) (pe_one (pe_cmpR op_le (pv 0) pe_int (nomark _))))))), ?_⟩
  refine x_start (σ' := [some _]) rfl ?_
  try simp only [cx_n, cx_K, cx_w, cx_P]
  walk_at "rd"
  refine ⟨v, d, rfl, hd, ?_⟩
  cases hd with
  | int i =>
    rw [show intD (.int i) = true from rfl]
    walk_at "rd"
    refine x_cases (fun c => ?_) (fun c => ?_)
    · walk_at "rd"
      have c := of_decide_eq_true c
      have : valD (.int i) = decide (i ≤ 99) := by
        show (decide (-99 ≤ i) && decide (i ≤ 99)) = _
        rw [decide_eq_true (by omega : -99 ≤ i)]
        rfl
      rw [this] at k
      exact k
    · have c := of_decide_eq_false c
      have : valD (.int i) = false := by
        show (decide (-99 ≤ i) && decide (i ≤ 99)) = _
        rw [decide_eq_false (by omega : ¬ -99 ≤ i)]
        rfl
      rw [this] at k
      walk_at "rd"
      exact k
  | _ => walk_at "rd"; exact k
def sp_are_worths (P : Program) (w : World) (T : Tx K mg) : Sp := fun vs H Q _ => ∃ (v : V) (d : PyData) (o : Option KVN), vs = [v] ∧ Thg P w H v d o ∧ EntsS d ∧ ∀ (bb : Bool) H', SX [] H H' → (bb = true ↔ AreD d) → Q (.bl bb) H'
theorem ok_are_worths (T : Tx K mg) : FnOk P w K mg base CX0 3 T.are_worths.f T.are_worths.fd P_are_worths (sp_are_worths P w T) := by
  refine T.are_worths.F.ok sc_are_worths (fun vs H Q E h => ?_) (fun cdv A outer s H vs Q E hr h => ?_)
  · obtain ⟨v, d, o, rfl, tg, es, k⟩ := h
    rfl
  have hu := hu_of hr
  have nd := sc_are_worths.nd
  obtain ⟨v, d, o, rfl, tg, es, k⟩ := h
  refine ⟨_, (pss_cons (ps_if (PW.pt (pw_or (pt_not (pt_val (pe_callB (wN_isi (P := P) (w := w) (K := K) rfl rfl rfl) (by rfl) T.b_isinstance (by decide +kernel) (pa_cons (pv 0) (pa_cons (pe_bltn (v := .ty "dict") (by rfl) T.b_dict (by decide +kernel) rfl) pa_nil))))) (pw_or1 (pt_cmpR op_gt (pe_callB (wN_len (P := P) (w := w) rfl rfl) (by rfl) T.b_len (by decide +kernel) (pa_cons (pv 0) pa_nil)) pe_int (nomark _))))) (pss_one (ps_ret pe_bl)) pss_nil)
      (pss_cons (ps_lockR (ps_for PassesOwn.never rfl (w_piitemsN (P := P) (w := w) rfl rfl (pv 0)) (w_pgtup (K := K) (n := 2) rfl (by rfl) (pgs_cons (pg_name (i := 1) nd rfl (Or.inl rfl)) (pgs_cons (pg_name (i := 2) nd rfl (Or.inl rfl)) pgs_nil)) (by rfl) (by rfl)) (pss_one (ps_if (PW.pt (pw_or (pt_not (pt_val (pe_call (ok_is_name3 (P := P) (w := w) T) (hr.mono (by decide)) (by rfl) T.is_name.g T.is_name.F.kp T.is_name.B .nil pass0 (pa_cons (pv 1) pa_nil)))) (pw_or1 (pt_not (pt_val (pe_call (ok_is_value (P := P) (w := w) T) (hr.mono (by decide)) (by rfl) T.is_value.g T.is_value.F.kp T.is_value.B .nil pass0 (pa_cons (pv 2) pa_nil))))))) (pss_one (ps_ret pe_bl)) pss_nil))))
      (pss_one (ps_ret pe_bl)))), ?_⟩
  refine x_start (σ' := [some _, none, none]) rfl ?_
  try simp only [cx_n, cx_K, cx_w, cx_P]
  have no : ∀ B, SX [] H B → ¬ AreD d → Q (.bl false) B := fun B s h => k false B s ⟨(fun z => nomatch z), fun z => absurd z h⟩
  walk_at "rd"
  cases tg with
  | odd h n =>
    refine x_isiO h n ?_
    walk_at "rd"
    exact no _ (SX.refl _) fun ⟨ds, e, _⟩ => n ds e
  | dic g dp =>
  rename_i a kvs ds
  have ln : ds.length = kvs.length := (Paired.length dp).symm
  refine x_isiDic g ?_
  walk_at "rd"
  refine ⟨a, kvs, rfl, g, ?_⟩
  walk_at "rd"
  refine x_cases (fun c => ?_) (fun c => ?_)
  · walk_at "rd"
    have c := of_decide_eq_true c
    exact no _ (SX.refl _) fun ⟨ds', e, l, _⟩ => by cases e; omega
  have c := of_decide_eq_false c
  walk_at "rd"
  refine x_lockN g fun od u HL eL ne leL ext gL => ?_
  walk_at "rd"
  refine x_iItemsN ?_
  walk_at "rd"
  refine ⟨a, od, u, kvs, rfl, eL, gL, ?_⟩
  refine for_it walk_itemsN (fun i σ A => SX [] HL A ∧ (∀ q ∈ ds.take i, okQ q = true) ∧ ∃ c1 c2, σ = [some (.ref a), c1, c2]) ⟨SX.refl _, (fun _ h => nomatch h), none, none, rfl⟩ (fun _ _ _ _ h => ⟨h.1 _ _ List.not_mem_nil eL, gL.mono (sx_ext h.1)⟩) ?_ ?_
  · rintro i z σ A0 A9 hi ⟨sA, okA, c1, c2, rfl⟩ ⟨T1, x, hx, rfl, hT, rfl⟩
    obtain ⟨q, hq, d1, d2⟩ := dpp_at dp hx
    have mq := getMem hq
    have sB : SX [] HL (upd A0 T1 (.tup [x.2.1, x.2.2])) := sA.trans (SX.new hT)
    have bad : okQ q = false → Q (.bl false) (put (upd A0 T1 (.tup [x.2.1, x.2.2])) a (H a)) := fun e => no _ (unlock_sx ne sB) fun ⟨ds', e', _, h⟩ => by
      cases e'
      rw [h q mq] at e
      cases e
    walk_at "rd"
    refine ⟨x.2.1, q.1, rfl, (d1.monoR ext).monoR (sx_ext sB), itm_short (es _ rfl q mq).1, ?_⟩
    cases n1 : nameD q.1 with
    | false =>
      walk_at "rd"
      exact ⟨sB _ _ List.not_mem_nil eL, bad (by unfold okQ; rw [n1]; rfl)⟩
    | true =>
    walk_at "rd"
    refine ⟨x.2.2, q.2, rfl, (d2.monoR ext).monoR (sx_ext sB), ?_⟩
    cases n2 : valD q.2 with
    | false =>
      walk_at "rd"
      exact ⟨sB _ _ List.not_mem_nil eL, bad (by unfold okQ; rw [n1, n2]; rfl)⟩
    | true =>
    walk_at "rd"
    refine ⟨sB, fun y hy => ?_, _, _, rfl⟩
    rw [take_succ_of hq] at hy
    rcases List.mem_append.mp hy with h | h
    · exact okA y h
    · rw [List.mem_singleton.mp h]
      unfold okQ
      rw [n1, n2]
      rfl
  · rintro σ A ⟨sA, okA, c1, c2, rfl⟩
    rw [← ln, List.take_length] at okA
    refine ⟨sA _ _ List.not_mem_nil eL, ?_⟩
    walk_at "rd"
    exact k true _ (unlock_sx ne sA) ⟨fun _ => ⟨ds, rfl, by omega, okA⟩, fun _ => rfl⟩
end
end M

namespace M
open PySem PySem.Spec PyProof.Rows L2 ReR
theorem anyD_keys {P : Program} {w : World} {H : Hp} {a : Addr} {kvs : KVN} (g : AnyD P w H a kvs) (nd : (kvs.map (·.1)).Nodup) : KeysN H kvs := by
  rcases g with ⟨_, K⟩ | ⟨kk, _, rfl⟩
  · exact K
  · exact ⟨fun x hx => by obtain ⟨z, hz, rfl⟩ := List.mem_map.mp hx; exact ⟨nk_hn _, nk_depth _⟩, nd⟩
theorem nget_at {P : Program} {w : World} {H : Hp} {a : Addr} {kvs : KVN} (g : AnyD P w H a kvs) (nd : (kvs.map (·.1)).Nodup) {i : Nat} {x : NestedKey × V × V} (hx : kvs[i]? = some x) : NGet P w H a x.2.1 (some x.2.2) := by
  have K := anyD_keys g nd
  have m := getMem hx
  exact ⟨kvs, x.1, g, (K.is x m).1, (K.is x m).2, by rw [NK.valN_at nd (show (x.1, x.2) ∈ kvs from m)]; rfl⟩
def iv : PyData → Int
  | .int i => i
  | _ => 0
theorem val_int {H : Hp} {v : V} {d : PyData} (h : DpD H v d) (ok : valD d = true) : v = .int (iv d) ∧ d = .int (iv d) ∧ -99 ≤ iv d ∧ iv d ≤ 99 := by
  cases h with
  | int i =>
    have ok : (decide (-99 ≤ i) && decide (i ≤ 99)) = true := ok
    rw [Bool.and_eq_true, decide_eq_true_iff, decide_eq_true_iff] at ok
    exact ⟨rfl, rfl, ok.1, ok.2⟩
  | _ => cases ok
/-- a wish may be made of them -/
def GoodD (d0 d1 : PyData) : Prop := AreD d0 ∧ valD d1 = true ∧ ∀ ds, d0 = .dict ds → (∀ q ∈ ds, iv d1 ≤ iv q.2) ∨ (∀ q ∈ ds, iv q.2 ≤ iv d1)
theorem flagsB {α : Type} {l : List α} {p : α → Prop} [DecidablePred p] : ((l.map fun z => decide (p z)).all id) = decide (∀ z ∈ l, p z) := by
  rw [Bool.eq_iff_iff, decide_eq_true_iff, List.all_eq_true]
  constructor
  · intro h z hz
    exact of_decide_eq_true (h _ (List.mem_map.mpr ⟨z, hz, rfl⟩))
  · intro h b hb
    obtain ⟨z, hz, rfl⟩ := List.mem_map.mp hb
    exact decide_eq_true (h z hz)
section
variable {P : Program} [SupX.PX P] {w : World} {K : PySem.W.Frag} {mg : Str → Option Value} {base : Heap}
def sp_law_is_good (P : Program) (w : World) (T : Tx K mg) : Sp := fun vs H Q _ => ∃ (v0 v1 : V) (d0 d1 : PyData) (o : Option KVN), vs = [v0, v1] ∧ Thg P w H v0 d0 o ∧ (∀ kvs, o = some kvs → (kvs.map (·.1)).Nodup) ∧ EntsS d0 ∧ DpD H v1 d1 ∧ ∀ (bb : Bool) H', SX [] H H' → (bb = true ↔ GoodD d0 d1) → Q (.bl bb) H'
theorem ok_law_is_good (T : Tx K mg) : FnOk P w K mg base CX0 3 T.law_is_good.f T.law_is_good.fd P_law_is_good (sp_law_is_good P w T) := by
  refine T.law_is_good.F.ok sc_law_is_good (fun vs H Q E h => ?_) (fun cdv A outer s H vs Q E hr h => ?_)
  · obtain ⟨v0, v1, d0, d1, o, rfl, tg, knd, es, hv1, k⟩ := h
    rfl
  have hu := hu_of hr
  have nd := sc_law_is_good.nd
  obtain ⟨v0, v1, d0, d1, o, rfl, tg, knd, es, hv1, k⟩ := h
  refine ⟨_, (pss_cons (ps_if (PW.pt (pw_or (pt_not (pt_val (pe_callB (wN_isi (P := P) (w := w) (K := K) rfl rfl rfl) (by rfl) T.b_isinstance (by decide +kernel) (pa_cons (pv 0) (pa_cons (pe_bltn (v := .ty "dict") (by rfl) T.b_dict (by decide +kernel) rfl) pa_nil))))) (pw_or (pt_cmpR op_gt (pe_callB (wN_len (P := P) (w := w) rfl rfl) (by rfl) T.b_len (by decide +kernel) (pa_cons (pv 0) pa_nil)) pe_int (nomark _)) (pw_or1 (pt_not (pt_val (pe_call (ok_law_is_value (P := P) (w := w) T) (hr.mono (by decide)) (by rfl) T.law_is_value.g T.law_is_value.F.kp T.law_is_value.B .nil pass0 (pa_cons (pv 1) pa_nil)))))))) (pss_one (ps_ret pe_bl)) pss_nil)
      (pss_cons (ps_lockR (ps_for PassesOwn.never rfl (w_pikeysN (P := P) (w := w) rfl rfl (pv 0)) (pg_name (i := 2) nd rfl (Or.inl rfl)) (pss_one (ps_if (PW.pt (pw_or (pt_not (pt_val (pe_call (ok_law_is_name (P := P) (w := w) T) (hr.mono (by decide)) (by rfl) T.law_is_name.g T.law_is_name.F.kp T.law_is_name.B .nil pass0 (pa_cons (pv 2) pa_nil)))) (pw_or1 (pt_not (pt_val (pe_call (ok_law_is_value (P := P) (w := w) T) (hr.mono (by decide)) (by rfl) T.law_is_value.g T.law_is_value.F.kp T.law_is_value.B .nil pass0 (pa_cons (wN_get (P := P) (w := w) rfl rfl hr.units (pv 0) (pv 2) (fun _ _ => rfl)) pa_nil))))))) (pss_one (ps_ret pe_bl)) pss_nil))))
      (pss_cons (ps_set (i := 3) nd rfl (Or.inl rfl) (pe_callB (w_all (K := K) rfl rfl) (by rfl) T.b_all (by decide +kernel) (pa_cons (pe_lockR (pe_lc (own := [("name", 2)]) rfl nd (w_pikeysN (P := P) (w := w) rfl rfl (pv 0)) (blkOk_by (own := [("name", 2)]) (N := N_law_is_good) (sc := defScope s_law_is_good) (by decide +kernel)) (fun _ _ _ _ _ => (pg_name (i := 2) nd rfl (Or.inl rfl))) (fun _ _ _ _ _ => pts_nil) (fun _ _ _ _ _ => (pe_cmpR op_le (pv 1) (wN_get (P := P) (w := w) rfl rfl hr.units (pv 0) (pv 2) (fun _ _ => rfl)) (nomark _))))) pa_nil)))
      (pss_one (ps_ret (pe_or (pv 3) (pe_one (pe_callB (w_all (K := K) rfl rfl) (by rfl) T.b_all (by decide +kernel) (pa_cons (pe_lockR (pe_lc (own := [("name", 2)]) rfl nd (w_pikeysN (P := P) (w := w) rfl rfl (pv 0)) (blkOk_by (own := [("name", 2)]) (N := N_law_is_good) (sc := defScope s_law_is_good) (by decide +kernel)) (fun _ _ _ _ _ => (pg_name (i := 2) nd rfl (Or.inl rfl))) (fun _ _ _ _ _ => pts_nil) (fun _ _ _ _ _ => (pe_cmpR op_ge (pv 1) (wN_get (P := P) (w := w) rfl rfl hr.units (pv 0) (pv 2) (fun _ _ => rfl)) (nomark _))))) pa_nil))))))))), ?_⟩
  refine x_start (σ' := [some _, some _, none, none]) rfl ?_
  try simp only [cx_n, cx_K, cx_w, cx_P]
  have no : ∀ B, SX [] H B → ¬ GoodD d0 d1 → Q (.bl false) B := fun B s h => k false B s ⟨(fun z => nomatch z), fun z => absurd z h⟩
  walk_at "rd"
  cases tg with
  | odd h n =>
    refine x_isiO h n ?_
    walk_at "rd"
    exact no _ (SX.refl _) fun ⟨⟨ds, e, _⟩, _⟩ => n ds e
  | dic g dp =>
  rename_i a kvs ds
  have ln : ds.length = kvs.length := (Paired.length dp).symm
  have knd := knd kvs rfl
  refine x_isiDic g ?_
  walk_at "rd"
  refine ⟨a, kvs, rfl, g, ?_⟩
  walk_at "rd"
  refine x_cases (fun c => ?_) (fun c => ?_)
  · walk_at "rd"
    have c := of_decide_eq_true c
    exact no _ (SX.refl _) fun ⟨⟨ds', e, l, _⟩, _⟩ => by cases e; omega
  have c := of_decide_eq_false c
  walk_at "rd"
  refine ⟨v1, d1, rfl, hv1, ?_⟩
  cases ve : valD d1 with
  | false =>
    walk_at "rd"
    exact no _ (SX.refl _) fun ⟨_, h, _⟩ => by rw [ve] at h; cases h
  | true =>
  walk_at "rd"
  refine x_lockN g fun od u HL eL ne leL ext gL => ?_
  walk_at "rd"
  refine x_iKeysN ?_
  walk_at "rd"
  refine ⟨a, od, u, kvs, rfl, eL, gL, ?_⟩
  refine for_it walk_keysN (fun i σ A => SX [] HL A ∧ (∀ q ∈ ds.take i, okQ q = true) ∧ ∃ c1, σ = [some (.ref a), some v1, c1, none]) ⟨SX.refl _, (fun _ h => nomatch h), none, rfl⟩ (fun _ _ _ _ h => ⟨h.1 _ _ List.not_mem_nil eL, gL.mono (sx_ext h.1)⟩) ?_ ?_
  · rintro i z σ A0 A9 hi ⟨sA, okA, c1, rfl⟩ ⟨rfl, x, hx, rfl⟩
    obtain ⟨q, hq, e1, e2⟩ := dpp_at dp hx
    have mq := getMem hq
    have bad : ∀ {B : Hp}, SX [] HL B → okQ q = false → Q (.bl false) (put B a (H a)) := fun s e => no _ (unlock_sx ne s) fun ⟨⟨ds', e', _, h⟩, _⟩ => by
      cases e'
      rw [h q mq] at e
      cases e
    walk_at "rd"
    refine ⟨x.2.1, q.1, rfl, (e1.monoR ext).monoR (sx_ext sA), itm_short (es _ rfl q mq).1, fun A2 sA2 => ?_⟩
    have sB := sA.trans sA2
    cases n1 : nameD q.1 with
    | false =>
      walk_at "rd"
      exact ⟨sB _ _ List.not_mem_nil eL, bad sB (by unfold okQ; rw [n1]; rfl)⟩
    | true =>
    walk_at "rd"
    refine n_get ?_
    walk_at "rd"
    refine ⟨a, x.2.2, rfl, nget_at (gL.mono (sx_ext sB)) knd hx, ?_⟩
    walk_at "rd"
    refine ⟨x.2.2, q.2, rfl, (e2.monoR ext).monoR (sx_ext sB), ?_⟩
    cases n2 : valD q.2 with
    | false =>
      walk_at "rd"
      exact ⟨sB _ _ List.not_mem_nil eL, bad sB (by unfold okQ; rw [n1, n2]; rfl)⟩
    | true =>
    walk_at "rd"
    refine ⟨sB, fun y hy => ?_, _, rfl⟩
    rw [take_succ_of hq] at hy
    rcases List.mem_append.mp hy with h | h
    · exact okA y h
    · rw [List.mem_singleton.mp h]
      unfold okQ
      rw [n1, n2]
      rfl
  rintro σ A ⟨sA, okA, c1, rfl⟩
  rw [← ln, List.take_length] at okA
  refine ⟨sA _ _ List.not_mem_nil eL, ?_⟩
  have s1 := unlock_sx ne sA
  generalize put A a (H a) = H1 at s1
  obtain ⟨rfl, hd1, b0, b1⟩ := val_int hv1 ve
  have okv : ∀ {n : Nat} {x : NestedKey × V × V}, kvs[n]? = some x → ∃ q, ds[n]? = some q ∧ x.2.2 = .int (iv q.2) := fun {n x} hx => by
    obtain ⟨q, hq, e1, e2⟩ := dpp_at dp hx
    have o := okA q (getMem hq)
    unfold okQ at o
    rw [Bool.and_eq_true] at o
    exact ⟨q, hq, (val_int e2 o.2).1⟩
  have g1 := g.mono (sx_ext s1)
  clear sA ne eL leL ext gL
  have dsl : ds.length ≤ 100 := by omega
  have fin : ∀ B, SX [] H B → Q (.bl (decide (∀ q ∈ ds, iv d1 ≤ iv q.2) || decide (∀ q ∈ ds, iv q.2 ≤ iv d1))) B := fun B s => k _ B s (by
    rw [Bool.or_eq_true, decide_eq_true_iff, decide_eq_true_iff]
    exact ⟨fun h => ⟨⟨ds, rfl, dsl, okA⟩, ve, fun ds' e => by cases e; exact h⟩, fun h => h.2.2 ds rfl⟩)
  walk_at "rd"
  refine x_lockNE g1 fun od u HL eL ne leL ext gL => ?_
  walk_at "rd"
  refine x_iKeysN ?_
  walk_at "rd"
  refine ⟨a, od, u, kvs, rfl, eL, gL, fun D hD => ?_⟩
  have hDd : a ≠ D := ne_of_none eL hD
  refine lc_it walk_keysN (fun n A => SX [] HL A ∧ A D = some (.lst (((ds.take n).map fun q => decide (iv d1 ≤ iv q.2)).map V.bl))) ⟨SX.new hD, upd_same⟩ (fun _ _ _ h => ⟨h.1 _ _ List.not_mem_nil eL, gL.mono (sx_ext h.1)⟩) ?_ ?_
  · rintro n z A0 A9 hn ⟨sA, dA⟩ ⟨rfl, x, hx, rfl⟩
    obtain ⟨q, hq, ex⟩ := okv hx
    walk_at "rd"
    refine ⟨rfl, ?_⟩
    walk_at "rd"
    refine n_get ?_
    walk_at "rd"
    refine ⟨a, x.2.2, rfl, nget_at (gL.mono (sx_ext sA)) knd hx, ?_⟩
    rw [ex]
    walk_at "rd"
    refine ⟨_, dA, lt_size (by rw [List.length_map, List.length_map, List.length_take]; omega), sx_nil_of (S := [D]) ((nil_sx sA).trans (SX.mut List.mem_cons_self)) (by simp [hD]), ?_⟩
    rw [upd_same, take_succ_of hq, List.map_append, List.map_append]
    rfl
  rintro A ⟨sA, dA⟩
  rw [← ln, List.take_length] at dA
  refine ⟨sA _ _ List.not_mem_nil eL, ?_⟩
  have s2 := s1.trans (unlock_sx ne sA)
  have dB : (put A a (H1 a)) D = some (.lst ((ds.map fun q => decide (iv d1 ≤ iv q.2)).map V.bl)) := by rw [put_ne (Ne.symm hDd)]; exact dA
  generalize put A a (H1 a) = H2 at s2 dB
  have g2 := g.mono (sx_ext s2)
  clear sA ne eL leL ext gL dA hDd hD
  walk_at "rd"
  refine ⟨D, _, rfl, sqL dB, ?_⟩
  rw [flagsB]
  walk_at "rd"
  cases below : decide (∀ q ∈ ds, iv d1 ≤ iv q.2) with
  | true =>
    walk_at "rd"
    have := fin _ s2
    rw [below] at this
    exact this
  | false =>
  walk_at "rd"
  refine x_lockNE g2 fun od u HL eL ne leL ext gL => ?_
  walk_at "rd"
  refine x_iKeysN ?_
  walk_at "rd"
  refine ⟨a, od, u, kvs, rfl, eL, gL, fun D2 hD2 => ?_⟩
  have hDd : a ≠ D2 := ne_of_none eL hD2
  refine lc_it walk_keysN (fun n A => SX [] HL A ∧ A D2 = some (.lst (((ds.take n).map fun q => decide (iv q.2 ≤ iv d1)).map V.bl))) ⟨SX.new hD2, upd_same⟩ (fun _ _ _ h => ⟨h.1 _ _ List.not_mem_nil eL, gL.mono (sx_ext h.1)⟩) ?_ ?_
  · rintro n z A0 A9 hn ⟨sA, dA⟩ ⟨rfl, x, hx, rfl⟩
    obtain ⟨q, hq, ex⟩ := okv hx
    walk_at "rd"
    refine ⟨rfl, ?_⟩
    walk_at "rd"
    refine n_get ?_
    walk_at "rd"
    refine ⟨a, x.2.2, rfl, nget_at (gL.mono (sx_ext sA)) knd hx, ?_⟩
    rw [ex]
    walk_at "rd"
    refine ⟨_, dA, lt_size (by rw [List.length_map, List.length_map, List.length_take]; omega), sx_nil_of (S := [D2]) ((nil_sx sA).trans (SX.mut List.mem_cons_self)) (by simp [hD2]), ?_⟩
    rw [upd_same, take_succ_of hq, List.map_append, List.map_append]
    rfl
  rintro A ⟨sA, dA⟩
  rw [← ln, List.take_length] at dA
  refine ⟨sA _ _ List.not_mem_nil eL, ?_⟩
  have s3 := s2.trans (unlock_sx ne sA)
  have dC : (put A a (H2 a)) D2 = some (.lst ((ds.map fun q => decide (iv q.2 ≤ iv d1)).map V.bl)) := by rw [put_ne (Ne.symm hDd)]; exact dA
  generalize put A a (H2 a) = H3 at s3 dC
  refine ⟨D2, _, rfl, sqL dC, ?_⟩
  rw [flagsB]
  have := fin _ s3
  rw [below] at this
  exact this
end
end M

namespace M
open PySem PySem.Spec PyProof.Rows L2 ReR
def wishF (d : Addr) (e : Int) (cm : Bool) : List (Str × V) := [("table", .ref d), ("endless", .int e), ("coming", .bl cm)]
theorem wish_table {d : Addr} {e : Int} {cm : Bool} : List.lookup ("table" : Str) (wishF d e cm) = some (.ref d) := look_here
theorem wish_endless {d : Addr} {e : Int} {cm : Bool} : List.lookup ("endless" : Str) (wishF d e cm) = some (.int e) := look_next (by decide +kernel) look_here
theorem wish_coming {d : Addr} {e : Int} {cm : Bool} : List.lookup ("coming" : Str) (wishF d e cm) = some (.bl cm) := look_next (by decide +kernel) (look_next (by decide +kernel) look_here)
theorem pick_at {α : Type} [Inhabited α] {l : List (Str × α)} {ys : List Str} {n : Nat} {s : Str} (h : ys[n]? = some s) : pick l (ys.take (n + 1)) = pick l (ys.take n) ++ [(s, (lookA l s).getD default)] := by
  rw [take_succ_of h]
  unfold pick
  rw [List.map_append]
  rfl
/-- what a wish wants -/
structure WishOk (wl : List (Str × Int)) (e : Int) : Prop where
  nd : (wl.map (·.1)).Nodup
  len : wl.length ≤ 100
  all : ∀ z ∈ wl, nameB z.1 = true ∧ -99 ≤ z.2 ∧ z.2 ≤ 99
  e0 : -99 ≤ e
  e1 : e ≤ 99
  way : (∀ z ∈ wl, e ≤ z.2) ∨ (∀ z ∈ wl, z.2 ≤ e)
section
variable {P : Program} {w : World} {K : PySem.W.Frag} {mg : Str → Option Value} {base : Heap}
structure WishAt (T : Tx K mg) (H : Hp) (y : Addr) (tb : List (Str × Int)) (e : Int) (cm : Bool) : Prop where
  ex : ∃ dy d kv, H y = some (.ins T.a_Wish dy (wishF d e cm)) ∧ H d = some (.dK kv) ∧ KVs rI H kv tb
  srt : sortedS (tb.map (·.1)) = true
theorem WishAt.sx {T : Tx K mg} {A B : Hp} {y : Addr} {tb : List (Str × Int)} {e : Int} {cm : Bool} (s : SX [] A B) (h : WishAt T A y tb e cm) : WishAt T B y tb e cm := by
  obtain ⟨dy, d, kv, h1, h2, h3⟩ := h.ex
  exact ⟨⟨dy, d, kv, s _ _ List.not_mem_nil h1, s _ _ List.not_mem_nil h2, KVs.le mono_I s.le0 h3⟩, h.srt⟩
end
/-- all of a list's ints against e, as flags -/
theorem all_flags {l : List Int} {p : Int → Bool} : ((l.map p).all id) = true ↔ ∀ z ∈ l, p z = true := by
  rw [List.all_eq_true]
  constructor
  · intro h z hz
    exact h _ (List.mem_map.mpr ⟨z, hz, rfl⟩)
  · intro h b hb
    obtain ⟨z, hz, rfl⟩ := List.mem_map.mp hb
    exact h z hz
theorem x_listVals {td : TE} {σ : L2.St} {H : Hp} {Q : VK} (k : td σ H fun x H1 => ∃ d kvs, x = .ref d ∧ H1 d = some (.dK kvs) ∧ ∀ l, H1 l = none → Q (.ref l) (upd H1 l (.lst (kvs.map (·.2))))) : tListVals td σ H Q := k
theorem kvs_vals {H : Hp} : ∀ {kvs : List (Key × V)} {wl : List (Str × Int)}, KVs rI H kvs wl → kvs.map (·.2) = (wl.map (·.2)).map V.int
  | _, _, .nil => rfl
  | _, _, .cons h r => by
    rw [List.map_cons, List.map_cons, List.map_cons, kvs_vals r]
    have := h.2
    change _ = V.int _ at this
    rw [this]
theorem lift_val (kv : List (Key × V)) (n : Str) : lkN (liftK kv) n = valV kv (Sum.inr n) := by
  unfold lkN
  induction kv with
  | nil => rfl
  | cons p r ih =>
    show (NK.valN ((nk p.1, kV p.1, p.2) :: liftK r) (.text n)).map (·.2) = _
    unfold NK.valN valV
    rw [List.find?_cons, List.find?_cons]
    by_cases e : p.1 = Sum.inr n
    · have : nk p.1 = .text n := by rw [e]; rfl
      rw [decide_eq_true e, decide_eq_true this]
      rfl
    · have : nk p.1 ≠ .text n := fun z => e (nk_inj (b := Sum.inr n) z)
      rw [decide_eq_false e, decide_eq_false this]
      exact ih
theorem nget_dK {P : Program} {w : World} {H : Hp} {a : Addr} {kk : List (Key × V)} {s : Str} {v : V} (h : H a = some (.dK kk)) (e : valV kk (Sum.inr s) = some v) : NGet P w H a (.str s) (some v) := by
  refine ⟨liftK kk, .text s, .inr ⟨kk, .inl h, rfl⟩, .str s, Nat.zero_le _, ?_⟩
  have := lift_val kk s
  unfold lkN at this
  rw [this, e]
def wlD (wl : List (Str × Int)) : List (PyData × PyData) := wl.map fun z => (.str z.1, .int z.2)
theorem wl_of {H : Hp} : ∀ {kk : List (Key × V)} {ds : List (PyData × PyData)}, DpP H (liftK kk) ds → (∀ q ∈ ds, okQ q = true) → ∃ wl, KVs rI H kk wl ∧ ds = wlD wl ∧ ∀ z ∈ wl, nameB z.1 = true ∧ -99 ≤ z.2 ∧ z.2 ≤ 99
  | [], _, .nil, _ => ⟨[], .nil, rfl, fun _ h => nomatch h⟩
  | (k, v) :: kk, q :: ds, .cons ⟨h1, h2⟩ t, ok => by
    obtain ⟨wl, k1, k2, k3⟩ := wl_of (kk := kk) t fun q hq => ok q (List.mem_cons_of_mem _ hq)
    have o := ok q List.mem_cons_self
    unfold okQ at o
    rw [Bool.and_eq_true] at o
    obtain ⟨o1, o2⟩ := o
    obtain ⟨e1, e2, b0, b1⟩ := val_int h2 o2
    have h1 : DpD H (kV k) q.1 := h1
    obtain ⟨s, ek, eq, en⟩ : ∃ s, k = Sum.inr s ∧ q.1 = .str s ∧ nameB s = true := by
      cases k with
      | inl i =>
        have h1 : DpD H (.int i) q.1 := h1
        cases e : q.1 <;> rw [e] at h1 o1 <;> first | cases o1 | cases h1
      | inr s =>
        have h1 : DpD H (.str s) q.1 := h1
        cases e : q.1 with
        | str s' =>
          rw [e] at h1 o1
          cases h1
          exact ⟨s, rfl, rfl, o1⟩
        | _ => rw [e] at o1; cases o1
    refine ⟨(s, iv q.2) :: wl, .cons ⟨ek, e1⟩ k1, ?_, fun z hz => ?_⟩
    · rw [k2]
      show q :: wlD wl = (.str s, .int (iv q.2)) :: wlD wl
      rw [← eq, ← e2]
    · rcases List.mem_cons.mp hz with rfl | h
      · exact ⟨en, b0, b1⟩
      · exact k3 z h
/-- a dict of texts alone is one of the plain kind -/
def TxtK (H : Hp) (v : V) (o : Option KVN) : Prop := ∀ kvs, o = some kvs → (∃ a kk, v = .ref a ∧ H a = some (.dK kk) ∧ kvs = liftK kk ∧ (kk.map (·.1)).Nodup) ∨ ∃ x ∈ kvs, ∀ s, x.1 ≠ .text s
theorem TxtK.nil {A B : Hp} {v : V} {o : Option KVN} (s : SX [] A B) (h : TxtK A v o) : TxtK B v o := fun kvs e => (h kvs e).imp (fun ⟨a, kk, h1, h2, h3⟩ => ⟨a, kk, h1, s _ _ List.not_mem_nil h2, h3⟩) id
/-- what a good wish is made of -/
theorem good_wl {P : Program} {w : World} {H : Hp} {v0 : V} {d0 : PyData} {o : Option KVN} (tg : Thg P w H v0 d0 o) (knd : ∀ kvs, o = some kvs → (kvs.map (·.1)).Nodup) (tx : TxtK H v0 o) (ar : AreD d0) : ∃ a kk wl, v0 = .ref a ∧ H a = some (.dK kk) ∧ KVs rI H kk wl ∧ d0 = .dict (wlD wl) ∧ (wl.map (·.1)).Nodup ∧ wl.length ≤ 100 ∧ ∀ z ∈ wl, nameB z.1 = true ∧ -99 ≤ z.2 ∧ z.2 ≤ 99 := by
  obtain ⟨ds, rfl, l, ok⟩ := ar
  cases tg with
  | odd h n => exact absurd rfl (n _)
  | dic g dp =>
  rename_i a kvs
  rcases tx kvs rfl with ⟨a', kk, e, ha, rfl, nd⟩ | ⟨x, hx, nt⟩
  · cases e
    obtain ⟨wl, k1, k2, k3⟩ := wl_of dp ok
    have lw : wl.length = ds.length := by rw [k2]; exact (List.length_map _).symm
    refine ⟨a, kk, wl, rfl, ha, k1, by rw [k2], ?_, by omega, k3⟩
    have := nd
    rw [k1.keys] at this
    exact (List.pairwise_map.mp this).imp fun h e => h (by rw [e])
  · exfalso
    obtain ⟨i, hi⟩ := List.getElem?_of_mem hx
    obtain ⟨q, hq, d1, _⟩ := dpp_at dp hi
    have o := ok q (getMem hq)
    unfold okQ at o
    rw [Bool.and_eq_true] at o
    have K := anyD_keys g (knd kvs rfl)
    have hk := (K.is x hx).1
    cases e : q.1 with
    | str s =>
      rw [e] at d1
      cases ev : x.2.1 <;> rw [ev] at d1 hk <;> try cases d1
      cases ek : x.1 <;> rw [ek] at hk <;> try cases hk
      exact nt _ ek
    | _ =>
      rw [e] at o
      exact absurd o.1 (by intro z; cases z)
section
variable {P : Program} [SupX.PX P] {w : World} {K : PySem.W.Frag} {mg : Str → Option Value} {base : Heap}
def sp_Wish_init (P : Program) (w : World) (T : Tx K mg) : Sp := fun vs H Q E => ∃ (y dy : Addr) (v0 v1 : V) (d0 d1 : PyData) (o : Option KVN), vs = [.ref y, v0, v1] ∧ H y = some (.ins T.a_Wish dy []) ∧ Thg P w H v0 d0 o ∧ (∀ kvs, o = some kvs → (kvs.map (·.1)).Nodup) ∧ EntsS d0 ∧ TxtK H v0 o ∧ DpD H v1 d1 ∧
  (¬ GoodD d0 d1 → ∀ H', SX [y] H H' → E (.ref T.c_BadWish) none H') ∧
  (GoodD d0 d1 → ∀ a kk wl e, v0 = .ref a → H a = some (.dK kk) → KVs rI H kk wl → d0 = .dict (wlD wl) → v1 = .int e → WishOk wl e → ∀ H' tb, SX [y] H H' → WishAt T H' y tb e (decide (∀ z ∈ wl, e ≤ z.2)) → Srt wl tb → Q .non H')
theorem ok_Wish_init (T : Tx K mg) : FnOk P w K mg base (L2.CX P w) 4 T.Wish_init.f T.Wish_init.fd P_Wish_init (sp_Wish_init P w T) := by
  refine T.Wish_init.F.okX sc_Wish_init (fun vs H Q E h => ?_) (fun cdv A outer s H vs Q E hr h => ?_)
  · obtain ⟨y, dy, v0, v1, d0, d1, o, rfl, hy, tg, knd, es, tx, hv1, ke, kG⟩ := h
    rfl
  have hu := hu_of hr
  have nd := sc_Wish_init.nd
  obtain ⟨y, dy, v0, v1, d0, d1, o, rfl, hy, tg, knd, es, tx, hv1, ke, kG⟩ := h
  refine ⟨_, (pss_cons (ps_if (PW.pt (pw_or (pt_not (pt_val (pe_call (ok_are_worths (P := P) (w := w) T) (hr.mono (by decide)) (by rfl) T.are_worths.g T.are_worths.F.kp T.are_worths.B .nil pass0 (pa_cons (pv 1) pa_nil)))) (pw_or1 (pt_not (pt_val (pe_call (ok_is_value (P := P) (w := w) T) (hr.mono (by decide)) (by rfl) T.is_value.g T.is_value.F.kp T.is_value.B .nil pass0 (pa_cons (pv 2) pa_nil))))))) (pss_one (ps_raise rfl (takes_of rfl rfl rfl rfl) (SupX.pmk_own0 (K := K) rfl T.p_BadWish T.g_BadWish (by rfl)))) pss_nil)
      (pss_cons (ps_set (i := 3) nd rfl (Or.inl rfl) (pe_callB (w_all (K := K) rfl rfl) (by rfl) T.b_all (by decide +kernel) (pa_cons (pe_lc (own := [("value", 4)]) rfl nd (w_pilist (K := K) rfl (pe_listVals rfl (by rfl) T.b_list (pv 1) rfl rfl)) (blkOk_by (own := [("value", 4)]) (N := N_Wish_init) (sc := defScope s_Wish_init) (by decide +kernel)) (fun _ _ _ _ _ => (pg_name (i := 4) nd rfl (Or.inl rfl))) (fun _ _ _ _ _ => pts_nil) (fun _ _ _ _ _ => (pe_cmpR op_le (pv 2) (pv 4) (nomark _)))) pa_nil)))
      (pss_cons (ps_set (i := 5) nd rfl (Or.inl rfl) (pe_callB (w_all (K := K) rfl rfl) (by rfl) T.b_all (by decide +kernel) (pa_cons (pe_lc (own := [("value", 4)]) rfl nd (w_pilist (K := K) rfl (pe_listVals rfl (by rfl) T.b_list (pv 1) rfl rfl)) (blkOk_by (own := [("value", 4)]) (N := N_Wish_init) (sc := defScope s_Wish_init) (by decide +kernel)) (fun _ _ _ _ _ => (pg_name (i := 4) nd rfl (Or.inl rfl))) (fun _ _ _ _ _ => pts_nil) (fun _ _ _ _ _ => (pe_cmpR op_ge (pv 2) (pv 4) (nomark _)))) pa_nil)))
      (pss_cons (ps_if (PW.pt (pw_and (pt_not (pt_val (pv 3))) (pw_and1 (pt_not (pt_val (pv 5)))))) (pss_one (ps_raise rfl (takes_of rfl rfl rfl rfl) (SupX.pmk_own0 (K := K) rfl T.p_BadWish T.g_BadWish (by rfl)))) pss_nil)
      (pss_cons (ps_fld (pv 0) (pe_dc (own := [("name", 6)]) rfl nd (w_pilist (K := K) rfl (pe_callB (cl_sortD rfl) (by rfl) T.b_sorted (by decide +kernel) (pa_cons (pv 1) pa_nil))) (blkOk_by (own := [("name", 6)]) (N := N_Wish_init) (sc := defScope s_Wish_init) (by decide +kernel)) (fun _ _ _ _ _ => (pg_name (i := 6) nd rfl (Or.inl rfl))) (fun _ _ _ _ _ => pts_nil) (fun _ _ _ _ _ => (pv 6)) (fun _ _ _ _ _ => (wN_get (P := P) (w := w) rfl rfl hr.units (pv 1) (pv 6) (fun _ _ => rfl)))) rfl)
      (pss_cons (ps_fld (pv 0) (pv 2) rfl)
      (pss_one (ps_fld (pv 0) (pv 3) rfl)))))))), ?_⟩
  refine x_start (σ' := [some _, some _, some _, none, none, none, none]) rfl ?_
  try simp only [cx_n, cx_K, cx_w, cx_P]
  walk_at "rd"
  refine ⟨v0, d0, o, rfl, tg, es, fun bb H1 s1 iff => ?_⟩
  cases bb with
  | false =>
    walk_at "rd"
    exact ke (fun g => nomatch iff.mpr g.1) _ (nil_sx s1)
  | true =>
  have ar := iff.mp rfl
  walk_at "rd"
  refine ⟨v1, d1, rfl, hv1.nil s1, ?_⟩
  cases ve : valD d1 with
  | false =>
    walk_at "rd"
    exact ke (fun g => by have := g.2.1; rw [ve] at this; cases this) _ (nil_sx s1)
  | true =>
  walk_at "rd"
  obtain ⟨ev1, hd1, b0, b1⟩ := val_int hv1 ve
  generalize hiv : iv d1 = e at ev1 hd1 b0 b1
  subst ev1
  obtain ⟨wd, kvs, wl, rfl, hwd, hk, rfl, lnd, lln, lall⟩ := good_wl tg knd tx ar
  have kG := fun g ok => kG g wd kvs wl e rfl hwd hk rfl rfl ok
  have gd : (∀ z ∈ wl, e ≤ z.2) ∨ (∀ z ∈ wl, z.2 ≤ e) → GoodD (.dict (wlD wl)) d1 := fun h => ⟨ar, ve, fun ds ed => by
    cases ed
    rw [hiv]
    exact h.imp (fun h q hq => by obtain ⟨z, hz, rfl⟩ := List.mem_map.mp hq; exact h z hz) (fun h q hq => by obtain ⟨z, hz, rfl⟩ := List.mem_map.mp hq; exact h z hz)⟩
  have gd2 : GoodD (.dict (wlD wl)) d1 → (∀ z ∈ wl, e ≤ z.2) ∨ (∀ z ∈ wl, z.2 ≤ e) := fun g => by
    have := g.2.2 _ rfl
    rw [hiv] at this
    exact this.imp (fun h z hz => h _ (List.mem_map.mpr ⟨z, hz, rfl⟩)) (fun h z hz => h _ (List.mem_map.mpr ⟨z, hz, rfl⟩))
  have y1 := s1 _ _ List.not_mem_nil hy
  have w1 := s1 _ _ List.not_mem_nil hwd
  have wl' : (wl.map (·.2)).length = wl.length := List.length_map _
  have hl := lln
  refine x_listVals ?_
  walk_at "rd"
  refine ⟨wd, kvs, rfl, w1, fun v1 hv1 => ?_⟩
  rw [kvs_vals hk]
  have sv1 : SX [] H1 (upd H1 v1 (.lst ((wl.map (·.2)).map V.int))) := SX.new hv1
  refine x_itl (sqL upd_same) fun D hD => ?_
  have nvD : v1 ≠ D := ne_of_none upd_same hD
  have hD1 : H1 D = none := sv1.free hD List.not_mem_nil
  refine lc_it walk_list (fun n A => SX [] H1 A ∧ A v1 = some (.lst ((wl.map (·.2)).map V.int)) ∧ A D = some (.lst ((((wl.map (·.2)).take n).map fun z => decide (e ≤ z)).map V.bl))) ⟨sv1.trans (SX.new hD), by rw [upd_ne nvD]; exact upd_same, upd_same⟩ (fun n A _ h => sqL h.2.1) ?_ ?_
  · rintro n x A0 A hn ⟨sA, vA, dA⟩ ⟨rfl, hx⟩
    obtain ⟨z, hz, rfl⟩ : ∃ z, (wl.map (·.2))[n]? = some z ∧ V.int z = x := by
      rw [List.getElem?_map] at hx
      cases e1 : (wl.map (·.2))[n]? with
      | none => rw [e1] at hx; cases hx
      | some z => rw [e1] at hx; cases hx; exact ⟨z, rfl, rfl⟩
    walk_at "rd"
    refine ⟨rfl, ?_⟩
    walk_at "rd"
    refine ⟨_, dA, lt_size (by rw [List.length_map, List.length_map, List.length_take]; omega), sx_nil_of (S := [D]) ((nil_sx sA).trans (SX.mut List.mem_cons_self)) (by simp [hD1]), by rw [upd_ne nvD]; exact vA, ?_⟩
    rw [upd_same, take_succ_of hz, List.map_append, List.map_append]
    rfl
  rintro A ⟨sA, _, dA⟩
  have e0 : ((wl.map (·.2)).map V.int).length = (wl.map (·.2)).length := List.length_map _
  rw [e0, List.take_length] at dA
  refine ⟨D, _, rfl, sqL dA, ?_⟩
  walk_at "rd"
  have eb : (((wl.map (·.2)).map fun z => decide (e ≤ z)).all id) = decide (∀ z ∈ wl, e ≤ z.2) := by
    rw [Bool.eq_iff_iff, all_flags, decide_eq_true_iff]
    constructor
    · intro h z hz
      exact of_decide_eq_true (h z.2 (List.mem_map.mpr ⟨z, hz, rfl⟩))
    · intro h z hz
      obtain ⟨q, hq, rfl⟩ := List.mem_map.mp hz
      exact decide_eq_true (h q hq)
  rw [eb]
  have s2 := s1.trans sA
  have w2 := s2 _ _ List.not_mem_nil hwd
  refine x_listVals ?_
  walk_at "rd"
  refine ⟨wd, kvs, rfl, w2, fun v2 hv2 => ?_⟩
  rw [kvs_vals hk]
  have sv2 : SX [] A (upd A v2 (.lst ((wl.map (·.2)).map V.int))) := SX.new hv2
  refine x_itl (sqL upd_same) fun D2 hD2 => ?_
  have nvD2 : v2 ≠ D2 := ne_of_none upd_same hD2
  have hD2A : A D2 = none := sv2.free hD2 List.not_mem_nil
  refine lc_it walk_list (fun n B => SX [] A B ∧ B v2 = some (.lst ((wl.map (·.2)).map V.int)) ∧ B D2 = some (.lst ((((wl.map (·.2)).take n).map fun z => decide (z ≤ e)).map V.bl))) ⟨sv2.trans (SX.new hD2), by rw [upd_ne nvD2]; exact upd_same, upd_same⟩ (fun n A _ h => sqL h.2.1) ?_ ?_
  · rintro n x B0 B hn ⟨sB, vB, dB⟩ ⟨rfl, hx⟩
    obtain ⟨z, hz, rfl⟩ : ∃ z, (wl.map (·.2))[n]? = some z ∧ V.int z = x := by
      rw [List.getElem?_map] at hx
      cases e1 : (wl.map (·.2))[n]? with
      | none => rw [e1] at hx; cases hx
      | some z => rw [e1] at hx; cases hx; exact ⟨z, rfl, rfl⟩
    walk_at "rd"
    refine ⟨rfl, ?_⟩
    walk_at "rd"
    refine ⟨_, dB, lt_size (by rw [List.length_map, List.length_map, List.length_take]; omega), sx_nil_of (S := [D2]) ((nil_sx sB).trans (SX.mut List.mem_cons_self)) (by simp [hD2A]), by rw [upd_ne nvD2]; exact vB, ?_⟩
    rw [upd_same, take_succ_of hz, List.map_append, List.map_append]
    rfl
  rintro B ⟨sB, _, dB⟩
  rw [e0, List.take_length] at dB
  refine ⟨D2, _, rfl, sqL dB, ?_⟩
  walk_at "rd"
  have ea : (((wl.map (·.2)).map fun z => decide (z ≤ e)).all id) = decide (∀ z ∈ wl, z.2 ≤ e) := by
    rw [Bool.eq_iff_iff, all_flags, decide_eq_true_iff]
    constructor
    · intro h z hz
      exact of_decide_eq_true (h z.2 (List.mem_map.mpr ⟨z, hz, rfl⟩))
    · intro h z hz
      obtain ⟨q, hq, rfl⟩ := List.mem_map.mp hz
      exact decide_eq_true (h q hq)
  rw [ea]
  have s3 := s2.trans sB
  have w3 := s3 _ _ List.not_mem_nil hwd
  have y3 := s3 _ _ List.not_mem_nil hy
  generalize hcm : decide (∀ z ∈ wl, e ≤ z.2) = cm at kG
  cases cm with
  | true =>
    have way := Or.inl (b := ∀ z ∈ wl, z.2 ≤ e) (of_decide_eq_true hcm)
    have ok : WishOk wl e := ⟨lnd, lln, lall, b0, b1, way⟩
    have k := kG (gd way) ok
    walk_at "rd"
    refine x_dc (x_iList (x_CB (x_cons (x_var (by rfl) (x_nil ?_)))))
    refine x_sortD (.inl w3) hk.keys fun ys p hp hs np => ?_
    have ysl : ys.length = wl.length := by rw [hp.length_eq, List.length_map]
    refine x_itl (sqL upd_same) fun G hG => ?_
    have nGp : p ≠ G := ne_of_none upd_same hG
    have hGB : B G = none := by rw [upd_ne (Ne.symm nGp)] at hG; exact hG
    have nGy : y ≠ G := ne_of_none y3 hGB
    refine dc_walk (walk_listR (R := rS) (Hb := H) (paired_S' ys)) (fun n A => SX [] B A ∧ A p = some (.lst (ys.map V.str)) ∧ ∃ kv, A G = some (.dK kv) ∧ KVs rI A kv (pick wl (ys.take n))) ?_ ?_ ?_ ?_
    · exact ⟨(SX.new np).trans (SX.new hG), by rw [upd_ne nGp]; exact upd_same, [], upd_same, .nil⟩
    · exact fun n A _ h => sqL h.2.1
    · rintro n x A0 A hn ⟨sA, pA, kv, dA, kA⟩ ⟨rfl, s, hs', rfl⟩
      obtain ⟨a, ea⟩ := lookA_some (hp.mem_iff.mp (getMem hs'))
      obtain ⟨v, ev, rfl⟩ := (show KVs rI H kvs wl from hk).at_ ea
      walk_at "rd"
      refine ⟨rfl, ?_⟩
      walk_at "rd"
      refine n_get ?_
      walk_at "rd"
      refine ⟨wd, _, rfl, nget_dK (sA _ _ List.not_mem_nil w3) ev, ?_⟩
      have kk : kv.map (·.1) = (ys.take n).map Sum.inr := by rw [kA.keys, pick_keys]
      have kl : kv.length = (ys.take n).length := by simpa using congrArg List.length kk
      refine ⟨kv, Sum.inr s, rfl, dA, lt_size (by rw [kl, List.length_take]; omega), ?_⟩
      rw [putK_fresh _ kk (nodup_take (hp.nodup_iff.mpr ok.nd) hs')]
      refine ⟨sx_nil_of (S := [G]) ((nil_sx sA).trans (SX.mut List.mem_cons_self)) (by simp [hGB]), by rw [upd_ne nGp]; exact pA, _, upd_same, ?_⟩
      rw [pick_at hs', ea]
      exact Paired.app kA (.cons ⟨rfl, rfl⟩ .nil)
    rintro A ⟨sA, pA, kv, dA, kA⟩
    rw [List.take_length] at kA
    walk_at "rd"
    have y4 := sA _ _ List.not_mem_nil y3
    refine x_setF [] y4 T.cl_Wish T.n_Wish_table rfl (by decide) (by decide) ?_
    walk_at "rd"
    refine x_setF ["table"] upd_same T.cl_Wish T.n_Wish_endless rfl (by decide) (by decide +kernel) ?_
    rw [upd_upd]
    walk_at "rd"
    refine x_setF ["table", "endless"] upd_same T.cl_Wish T.n_Wish_coming rfl (by decide) (by decide +kernel) ?_
    rw [upd_upd]
    have sr := pick_srt ok.nd hp hs
    refine k _ (pick wl ys) ((nil_sx (s3.trans sA)).trans (SX.mut List.mem_cons_self)) ⟨⟨dy, G, kv, upd_same, by rw [upd_ne (Ne.symm nGy)]; exact dA, kA⟩, sr.srt⟩ sr
  | false =>
    walk_at "rd"
    cases hab : decide (∀ z ∈ wl, z.2 ≤ e) with
    | false =>
      walk_at "rd"
      refine ke (fun g => ?_) _ (nil_sx s3)
      rcases gd2 g with h | h
      · exact absurd h (of_decide_eq_false hcm)
      · exact absurd h (of_decide_eq_false hab)
    | true =>
    have way := Or.inr (a := ∀ z ∈ wl, e ≤ z.2) (of_decide_eq_true hab)
    have ok : WishOk wl e := ⟨lnd, lln, lall, b0, b1, way⟩
    have k := kG (gd way) ok
    walk_at "rd"
    refine x_dc (x_iList (x_CB (x_cons (x_var (by rfl) (x_nil ?_)))))
    refine x_sortD (.inl w3) hk.keys fun ys p hp hs np => ?_
    have ysl : ys.length = wl.length := by rw [hp.length_eq, List.length_map]
    refine x_itl (sqL upd_same) fun G hG => ?_
    have nGp : p ≠ G := ne_of_none upd_same hG
    have hGB : B G = none := by rw [upd_ne (Ne.symm nGp)] at hG; exact hG
    have nGy : y ≠ G := ne_of_none y3 hGB
    refine dc_walk (walk_listR (R := rS) (Hb := H) (paired_S' ys)) (fun n A => SX [] B A ∧ A p = some (.lst (ys.map V.str)) ∧ ∃ kv, A G = some (.dK kv) ∧ KVs rI A kv (pick wl (ys.take n))) ?_ ?_ ?_ ?_
    · exact ⟨(SX.new np).trans (SX.new hG), by rw [upd_ne nGp]; exact upd_same, [], upd_same, .nil⟩
    · exact fun n A _ h => sqL h.2.1
    · rintro n x A0 A hn ⟨sA, pA, kv, dA, kA⟩ ⟨rfl, s, hs', rfl⟩
      obtain ⟨a, ea⟩ := lookA_some (hp.mem_iff.mp (getMem hs'))
      obtain ⟨v, ev, rfl⟩ := (show KVs rI H kvs wl from hk).at_ ea
      walk_at "rd"
      refine ⟨rfl, ?_⟩
      walk_at "rd"
      refine n_get ?_
      walk_at "rd"
      refine ⟨wd, _, rfl, nget_dK (sA _ _ List.not_mem_nil w3) ev, ?_⟩
      have kk : kv.map (·.1) = (ys.take n).map Sum.inr := by rw [kA.keys, pick_keys]
      have kl : kv.length = (ys.take n).length := by simpa using congrArg List.length kk
      refine ⟨kv, Sum.inr s, rfl, dA, lt_size (by rw [kl, List.length_take]; omega), ?_⟩
      rw [putK_fresh _ kk (nodup_take (hp.nodup_iff.mpr ok.nd) hs')]
      refine ⟨sx_nil_of (S := [G]) ((nil_sx sA).trans (SX.mut List.mem_cons_self)) (by simp [hGB]), by rw [upd_ne nGp]; exact pA, _, upd_same, ?_⟩
      rw [pick_at hs', ea]
      exact Paired.app kA (.cons ⟨rfl, rfl⟩ .nil)
    rintro A ⟨sA, pA, kv, dA, kA⟩
    rw [List.take_length] at kA
    walk_at "rd"
    have y4 := sA _ _ List.not_mem_nil y3
    refine x_setF [] y4 T.cl_Wish T.n_Wish_table rfl (by decide) (by decide) ?_
    walk_at "rd"
    refine x_setF ["table"] upd_same T.cl_Wish T.n_Wish_endless rfl (by decide) (by decide +kernel) ?_
    rw [upd_upd]
    walk_at "rd"
    refine x_setF ["table", "endless"] upd_same T.cl_Wish T.n_Wish_coming rfl (by decide) (by decide +kernel) ?_
    rw [upd_upd]
    have sr := pick_srt ok.nd hp hs
    refine k _ (pick wl ys) ((nil_sx (s3.trans sA)).trans (SX.mut List.mem_cons_self)) ⟨⟨dy, G, kv, upd_same, by rw [upd_ne (Ne.symm nGy)]; exact dA, kA⟩, sr.srt⟩ sr
def sp_Wish_worths (T : Tx K mg) : Sp := fun vs H Q _ => ∃ (y : Addr) (tb : List (Str × Int)) (e : Int) (cm : Bool), vs = [.ref y] ∧ WishAt T H y tb e cm ∧ (tb.map (·.1)).Nodup ∧ tb.length ≤ 1000 ∧
  ∀ q H' kv, H q = none → SX [] H H' → H' q = some (.dK kv) → KVs rI H' kv tb → Q (.ref q) H'
theorem ok_Wish_worths (T : Tx K mg) : FnOk P w K mg base CX0 1 T.Wish_worths.f T.Wish_worths.fd P_Wish_worths (sp_Wish_worths T) := by
  refine T.Wish_worths.F.ok sc_Wish_worths (fun vs H Q E h => ?_) (fun cdv A outer s H vs Q E hr h => ?_)
  · obtain ⟨y, tb, e, cm, rfl, wa, nd1, hlen, k⟩ := h
    rfl
  have hu := hu_of hr
  have nd := sc_Wish_worths.nd
  obtain ⟨y, tb, e, cm, rfl, wa, nd1, hlen, k⟩ := h
  refine ⟨_, (pss_one (ps_ret (pe_lockR (pe_dc (own := [("name", 1)]) rfl nd (pi_keys (w_fld (K := K) rfl (pv 0) rfl)) (blkOk_by (own := [("name", 1)]) (N := N_Wish_worths) (sc := defScope s_Wish_worths) (by decide +kernel)) (fun _ _ _ _ _ => (pg_name (i := 1) nd rfl (Or.inl rfl))) (fun _ _ _ _ _ => pts_nil) (fun _ _ _ _ _ => (pv 1)) (fun _ _ _ _ _ => (pe_dget hu (w_fld (K := K) rfl (pv 0) rfl) (pv 1) (fun _ _ => rfl))))))), ?_⟩
  refine x_start (σ' := [some _, none]) rfl ?_
  try simp only [cx_n, cx_K, cx_w, cx_P]
  obtain ⟨dy, d, kvs, hy, hd, hk⟩ := id wa.ex
  walk_at "rd"
  refine x_lockRE (.inl hd) fun od HL eL ne => ?_
  have nyd : y ≠ d := ne_of hy hd (by intro z; cases z)
  have yL : HL y = some (.ins T.a_Wish dy (wishF d e cm)) := by rw [ne _ nyd]; exact hy
  refine x_dc ?_
  walk_at "rd"
  refine x_getF yL T.cl_Wish T.n_Wish_table wish_table ?_
  refine ⟨d, od, rfl, .inl ⟨kvs, eL, fun D hD => ?_⟩⟩
  have hDd : d ≠ D := ne_of_none eL hD
  have hD0 : H D = none := by rw [← ne D (Ne.symm hDd)]; exact hD
  refine dc_walk (walk_keysR hk) (fun n A => SX [] HL A ∧ ∃ kv, A D = some (.dK kv) ∧ KVs rI A kv (tb.take n)) ⟨SX.new hD, [], upd_same, .nil⟩ (fun n A _ h => h.1 _ _ List.not_mem_nil eL) ?_ ?_
  · rintro n x A0 A hn ⟨sA, kv, dA, kA⟩ ⟨rfl, q, v0, hq, rfl, _⟩
    obtain ⟨v, ev, rv⟩ := hk.in_ nd1 (getMem hq)
    walk_at "rd"
    refine ⟨rfl, ?_⟩
    walk_at "rd"
    refine x_getF (sA _ _ List.not_mem_nil yL) T.cl_Wish T.n_Wish_table wish_table ?_
    walk_at "rd"
    refine x_dg' (.inr ⟨od, sA _ _ List.not_mem_nil eL⟩) ev ?_
    have kk : kv.map (·.1) = ((tb.map (·.1)).take n).map Sum.inr := by rw [kA.keys, List.map_take]
    have kl : kv.length = (tb.take n).length := Paired.length kA
    have hq1 : (tb.map (·.1))[n]? = some q.1 := by rw [List.getElem?_map, hq]; rfl
    refine ⟨kv, Sum.inr q.1, rfl, dA, lt_size (by rw [kl, List.length_take]; omega), ?_⟩
    rw [putK_fresh _ kk (nodup_take nd1 hq1)]
    refine ⟨sx_nil_of (S := [D]) ((nil_sx sA).trans (SX.mut List.mem_cons_self)) (by simp [hD]), _, upd_same, ?_⟩
    rw [take_succ_of hq]
    exact Paired.app kA (.cons ⟨rfl, rv⟩ .nil)
  · rintro A ⟨sA, kv, dA, kA⟩
    rw [List.take_length] at kA
    refine ⟨sA _ _ List.not_mem_nil eL, ?_⟩
    exact k D _ kv hD0 (unlock_sx ne sA) (by rw [put_ne (Ne.symm hDd)]; exact dA) kA
end
end M

namespace M
open PySem PySem.Spec PyProof.Rows L2 ReR
theorem putK_memX {kk : List (Key × V)} {k : Key} {v : V} {z : Key × V} (h : z ∈ putK kk k v) : z ∈ kk ∨ z = (k, v) := by
  unfold putK at h
  split at h
  · obtain ⟨q, hq, rfl⟩ := List.mem_map.mp h
    split
    · rename_i e
      exact .inr (by rw [e])
    · exact .inl hq
  · rcases List.mem_append.mp h with h | h
    · exact .inl h
    · exact .inr (List.mem_singleton.mp h)
theorem putK_lenX (kk : List (Key × V)) (k : Key) (v : V) : (putK kk k v).length ≤ kk.length + 1 := by
  unfold putK
  split
  · rw [List.length_map]; exact Nat.le_succ _
  · rw [List.length_append]; exact Nat.le_refl _
theorem putK_ndX {kk : List (Key × V)} {k : Key} {v : V} (nd : (kk.map (·.1)).Nodup) : ((putK kk k v).map (·.1)).Nodup := by
  unfold putK
  split
  · rw [List.map_map]
    have : ((fun x : Key × V => x.1) ∘ fun kv => if kv.1 = k then (kv.1, v) else kv) = (·.1) := by
      funext x
      show (if x.1 = k then (x.1, v) else x).1 = x.1
      split <;> rfl
    rw [this]
    exact nd
  · rename_i c
    rw [List.map_append, List.nodup_append]
    refine ⟨nd, List.nodup_cons.mpr ⟨List.not_mem_nil, List.nodup_nil⟩, fun a ha b hb z => c ?_⟩
    have hb : b = k := List.mem_singleton.mp hb
    obtain ⟨q, hq, e⟩ := List.mem_map.mp ha
    exact List.any_eq_true.mpr ⟨q, hq, decide_eq_true (by rw [e, z, hb])⟩
theorem putN_has {kvs : KVN} {k : NestedKey} {y v : V} : ∃ x ∈ NK.putN kvs k y v, x.1 = k := by
  unfold NK.putN
  split
  · rename_i c
    rw [NK.valN_some, decide_eq_true_iff] at c
    obtain ⟨x, hx, rfl⟩ := List.mem_map.mp c
    exact ⟨_, List.mem_map.mpr ⟨x, hx, rfl⟩, by rw [if_pos rfl]⟩
  · exact ⟨_, List.mem_append_right _ List.mem_cons_self, rfl⟩
theorem putN_keep {kvs : KVN} {k : NestedKey} {y v : V} {x : NestedKey × V × V} (h : x ∈ kvs) : ∃ z ∈ NK.putN kvs k y v, z.1 = x.1 := by
  unfold NK.putN
  split
  · refine ⟨_, List.mem_map.mpr ⟨x, h, rfl⟩, ?_⟩
    split <;> rfl
  · exact ⟨x, List.mem_append_left _ h, rfl⟩
/-- flat data, or tuples of it, or no key at all -/
def flatP : PyData → Bool
  | .none | .bool _ | .int _ | .str _ => true
  | _ => false
def keyP : PyData → Bool
  | .tuple ds => ds.all flatP
  | d => flatP d
def lodP : PyData → Bool
  | .list _ | .dict _ => true
  | _ => false
theorem odd_key : ∀ d ∈ oddD, (keyP d || lodP d) = true := by decide +kernel
theorem flat_key {H : Hp} {v : V} {d : PyData} (h : DpD H v d) (f : flatP d = true) : ∃ k, HN H k v ∧ k.depth = 0 := by
  cases h with
  | non => exact ⟨_, .non, by simp only [NestedKey.depth]⟩
  | bl b => exact ⟨_, .bl b, by simp only [NestedKey.depth]⟩
  | int i => exact ⟨_, .int i, by simp only [NestedKey.depth]⟩
  | str s => exact ⟨_, .str s, by simp only [NestedKey.depth]⟩
  | lst _ _ => cases f
  | tup _ _ => cases f
  | dic _ _ => cases f
theorem flat_keys {H : Hp} : ∀ {vs : List V} {ds : List PyData}, DpDs H vs ds → ds.all flatP = true → ∃ ks, HNs H ks vs ∧ NestedKey.depthAll ks = 0
  | _, _, .nil, _ => ⟨[], .nil, by simp only [NestedKey.depthAll]⟩
  | _, _, .cons h t, f => by
    rw [List.all_cons, Bool.and_eq_true] at f
    obtain ⟨k, h1, h2⟩ := flat_key h f.1
    obtain ⟨ks, t1, t2⟩ := flat_keys t f.2
    exact ⟨k :: ks, .cons h1 t1, by simp only [NestedKey.depthAll, h2, t2]; rfl⟩
theorem key_is {H : Hp} {v : V} {d : PyData} (h : DpD H v d) (f : keyP d = true) : ∃ k, HN H k v ∧ k.depth ≤ 8 := by
  cases h with
  | tup e t =>
    obtain ⟨ks, h1, h2⟩ := flat_keys t f
    exact ⟨.tup ks, .tup e h1, by simp only [NestedKey.depth, h2]; decide⟩
  | non => exact ⟨_, .non, by simp only [NestedKey.depth]; decide⟩
  | bl b => exact ⟨_, .bl b, by simp only [NestedKey.depth]; decide⟩
  | int i => exact ⟨_, .int i, by simp only [NestedKey.depth]; decide⟩
  | str s => exact ⟨_, .str s, by simp only [NestedKey.depth]; decide⟩
  | lst _ _ => cases f
  | dic _ _ => cases f
theorem kvI {A B : Hp} : ∀ {kv : List (Key × V)} {l : List (Str × Int)}, KVs rI A kv l → KVs rI B kv l
  | _, _, .nil => .nil
  | _, _, .cons h t => .cons h (kvI t)
theorem sx_upd {S : List Addr} {A B : Hp} {F : Addr} {o : HO} (s : SX S A B) (h : A F = none) : SX S A (upd B F o) := fun b u hb e => by
  rw [upd_ne fun z => by rw [z, h] at e; cases e]
  exact s b u hb e
theorem w_names : ∀ j, j < 110 → nameB ((("w" : Str) ++ (toString ((j : Nat) : Int) : Str)) ++ ("x" : Str)) = true := by decide +kernel
section
variable {P : Program} [SupX.PX P] {w : World} {K : PySem.W.Frag} {mg : Str → Option Value} {base : Heap}
theorem x_isi2K {H : Hp} {Q : VK} {x : V} {t : Addr} {d : PyData} (h : DpD H x d) (ht : H t = some (.tup [.ty "list", .ty "dict"])) (k : Q (.bl (lodP d)) H) : rIsiT K [x, .ref t] H Q := by
  refine ⟨x, t, _, _, _, lodP d, rfl, ht, .cons (.ty "list") (.cons (.ty "dict") .nil), h.ty, ?_, k⟩
  unfold PySem.W.kitAny
  rw [kit_ty (kit_lst d)]
  cases d with
  | list _ => rfl
  | _ =>
    show PySem.W.kitAny K _ _ = _
    unfold PySem.W.kitAny
    rw [kit_ty (kit_dict _)]
    rfl
def sp_law_key (T : Tx K mg) : Sp := fun vs H Q _ => ∃ v d, vs = [v] ∧ DpD H v d ∧ (keyP d || lodP d) = true ∧ itmOk d = true ∧ ∀ (v' : V) (d' : PyData) (k : NestedKey) H', SX [] H H' → (v' = v ∧ d' = d ∧ keyP d = true ∨ v' = .int 7 ∧ d' = .int 7) → HN H' k v' → k.depth ≤ 8 → Q v' H'
theorem ok_law_key (T : Tx K mg) : FnOk P w K mg base CX0 1 T.law_key.f T.law_key.fd P_law_key (sp_law_key T) := by
  refine T.law_key.F.ok sc_law_key (fun vs H Q E h => ?_) (fun cdv A outer s H vs Q E hr h => ?_)
  · obtain ⟨v, d, rfl, hd, kl, it, k⟩ := h
    rfl
  have hu := hu_of hr
  have nd := sc_law_key.nd
  obtain ⟨v, d, rfl, hd, kl, it, k⟩ := h
  refine ⟨_, (pss_cons (ps_if (pt_val (pe_callB (w_isiT (K := K) rfl) (by rfl) T.b_isinstance (by decide +kernel) (pa_cons (pv 0) (pa_cons (pe_tup (pa_cons (pe_bltn (v := .ty "list") (by rfl) T.b_list (by decide +kernel) rfl) (pa_cons (pe_bltn (v := .ty "dict") (by rfl) T.b_dict (by decide +kernel) rfl) pa_nil))) pa_nil)))) (pss_one (ps_ret pe_int)) pss_nil)
      (pss_one (ps_ret (pv 0)))), ?_⟩
  refine x_start (σ' := [some _]) rfl ?_
  try simp only [cx_n, cx_K, cx_w, cx_P]
  walk_at "rd"
  refine ⟨Nat.le_of_ble_eq_true rfl, fun t ht => ?_⟩
  have st : SX [] H (upd H t (.tup [.ty "list", .ty "dict"])) := SX.new ht
  walk_at "rd"
  refine x_isi2K (hd.nil st) upd_same ?_
  cases lo : lodP d with
  | true =>
    walk_at "rd"
    exact k _ _ (.num 7) _ st (.inr ⟨rfl, rfl⟩) (.int 7) (Nat.zero_le _)
  | false =>
    walk_at "rd"
    rw [lo, Bool.or_false] at kl
    obtain ⟨nk, h1, h2⟩ := key_is (hd.nil st) kl
    exact k _ _ nk _ st (.inl ⟨rfl, rfl, kl⟩) h1 h2
def sp_law_drawn_worths (T : Tx K mg) : Sp := fun vs H Q _ => ∃ (p : Addr), vs = [.ref p] ∧ Pool H p ∧
  ∀ q H' kv (l : List (Str × Int)), H q = none → SX [p] H H' → Pool H' p → H' q = some (.dK kv) → KVs rI H' kv l → (l.map (·.1)).Nodup → l.length ≤ 200 → (∀ z ∈ l, nameB z.1 = true ∧ -99 ≤ z.2 ∧ z.2 ≤ 99) → Q (.ref q) H'
theorem ok_law_drawn_worths (T : Tx K mg) : FnOk P w K mg base CX0 4 T.law_drawn_worths.f T.law_drawn_worths.fd P_law_drawn_worths (sp_law_drawn_worths T) := by
  refine T.law_drawn_worths.F.ok sc_law_drawn_worths (fun vs H Q E h => ?_) (fun cdv A outer s H vs Q E hr h => ?_)
  · obtain ⟨p, rfl, hp, k⟩ := h
    rfl
  have hu := hu_of hr
  have nd := sc_law_drawn_worths.nd
  obtain ⟨p, rfl, hp, k⟩ := h
  refine ⟨_, (pss_cons (ps_set (i := 1) nd rfl (Or.inl rfl) (pe_ix (w_ixL (K := K) rfl) (pe_lst (pa_cons pe_int (pa_cons pe_int (pa_cons pe_int (pa_cons pe_int pa_nil))))) (pe_call (ok_law_draw (P := P) (w := w) T) (hr.mono (by decide)) (by rfl) T.law_draw.g T.law_draw.F.kp T.law_draw.B .nil pass0 (pa_cons (pv 0) (pa_cons pe_int pa_nil))) (fun _ _ => rfl)))
      (pss_cons (ps_set (i := 2) nd rfl (Or.inl rfl) pe_dnewK)
      (pss_cons (ps_for PassesOwn.never rfl (w_pilist (K := K) rfl (pe_call (ok_law_words (P := P) (w := w) T) (hr.mono (by decide)) (by rfl) T.law_words.g T.law_words.F.kp T.law_words.B .nil pass0 (pa_cons (pv 0) (pa_cons (pe_call (ok_law_draw (P := P) (w := w) T) (hr.mono (by decide)) (by rfl) T.law_draw.g T.law_draw.F.kp T.law_draw.B .nil pass0 (pa_cons (pv 0) (pa_cons pe_int pa_nil))) pa_nil)))) (pg_name (i := 3) nd rfl (Or.inl rfl)) (pss_one (ps_dput hu (pv 2) (pv 3) (pe_op op_sub (pe_call (ok_law_draw (P := P) (w := w) T) (hr.mono (by decide)) (by rfl) T.law_draw.g T.law_draw.F.kp T.law_draw.B .nil pass0 (pa_cons (pv 0) (pa_cons (pe_op op_add (pe_op op_mul pe_int (pv 1)) pe_int) pa_nil))) (pv 1)) rfl)))
      (pss_cons (ps_if (pt_cmpR op_eq (pe_call (ok_law_draw (P := P) (w := w) T) (hr.mono (by decide)) (by rfl) T.law_draw.g T.law_draw.F.kp T.law_draw.B .nil pass0 (pa_cons (pv 0) (pa_cons pe_int pa_nil))) pe_int (nomark _)) (pss_one (ps_for PassesOwn.never rfl (pi_range1 (by rfl) T.b_range (pa_cons (pe_op op_add pe_int (pe_call (ok_law_draw (P := P) (w := w) T) (hr.mono (by decide)) (by rfl) T.law_draw.g T.law_draw.F.kp T.law_draw.B .nil pass0 (pa_cons (pv 0) (pa_cons pe_int pa_nil)))) pa_nil)) (pg_name (i := 4) nd rfl (Or.inl rfl)) (pss_one (ps_dput hu (pv 2) (pe_op op_catS (pe_op op_catS pe_str (pe_callTy cl_str (by rfl) T.b_str (by decide +kernel) (pa_cons (pv 4) pa_nil))) pe_str) (pv 1) rfl)))) pss_nil)
      (pss_one (ps_ret (pv 2))))))), ?_⟩
  refine x_start (σ' := [some _, none, none, none, none]) rfl ?_
  try simp only [cx_n, cx_K, cx_w, cx_P]
  walk_at "rd"
  refine ⟨Nat.le_of_ble_eq_true rfl, fun l0 hl0 => ?_⟩
  walk_at "rd"
  have np0 : l0 ≠ p := fun e => hp.there (e ▸ hl0)
  refine ⟨p, 4, rfl, hp.sx (SX.new (S := []) hl0) List.not_mem_nil, by decide, by decide, fun r H1 r0 r1 s1 p1 => ?_⟩
  obtain ⟨m, em, hm⟩ := at_ints (ns := [1, 3, 9, 99]) r0 r1
  have hm2 : 1 ≤ m ∧ m ≤ 99 := by simp at hm; omega
  refine x_ixL (sqL (s1 _ _ (by simpa using np0) upd_same)) em ?_
  walk_at "rd"
  have sH1 : SX [p] H H1 := (SX.new hl0).trans s1
  clear s1
  intro F hF
  have nFp : F ≠ p := fun z => p1.there (z ▸ hF)
  have hF0 : H F = none := sH1.free hF (by simpa using nFp)
  have s2 : SX [] H1 (upd H1 F (.dK [])) := SX.new hF
  have f2 : (upd H1 F (.dK [])) F = some (.dK []) := upd_same
  generalize upd H1 F (.dK []) = H2 at s2 f2
  have p2 := p1.sx s2 List.not_mem_nil
  walk_at "rd"
  refine ⟨p, 9, rfl, p2, by decide, by decide, fun many H3 m0 m1 s3 p3 => ?_⟩
  refine ⟨p, many, rfl, p3, m0, by omega, fun wl ws H4 hwl s4 p4 ewl wlen wok => ?_⟩
  have sH4 : SX [p] H H4 := (sH1.trans (nil_sx s2)).trans (s3.trans s4)
  have f4 := (s3.trans s4) _ _ (by simpa using nFp) f2
  have nwp : wl ≠ p := fun z => p3.there (z ▸ hwl)
  have nwF : wl ≠ F := fun z => by
    have := s3 _ _ (by simpa using nFp) f2
    rw [← z, hwl] at this
    cases this
  refine x_itl (sqL ewl) ?_
  refine for_it (walk_listR (R := rS) (Hb := H) (paired_S' ws)) (fun i σ A => SX [p] H A ∧ Pool A p ∧ A wl = some (.lst (ws.map V.str)) ∧ ∃ (kv : List (Key × V)) (l : List (Str × Int)) (c : Option V), A F = some (.dK kv) ∧ KVs rI A kv l ∧ (l.map (·.1)).Nodup ∧ l.length ≤ i ∧ (∀ z ∈ l, nameB z.1 = true ∧ -99 ≤ z.2 ∧ z.2 ≤ 99) ∧
      σ = [some (.ref p), some (.int m), some (.ref F), c, none])
    ⟨sH4, p4, ewl, [], [], none, f4, .nil, List.nodup_nil, Nat.zero_le _, (fun _ h => nomatch h), rfl⟩ (fun i σ A _ h => sqL h.2.2.1) ?_ ?_
  · rintro i z0 σ A0 A hi ⟨sA, pA, wA, kv, l, c, FA, kA, nA, lA, bA, rfl⟩ ⟨rfl, s, hs, rfl⟩
    have i9 : i < 9 := by
      have := getLt hs
      omega
    walk_at "rd"
    refine x_I (.inl ⟨by omega, by omega⟩) ?_
    walk_at "rd"
    refine ⟨p, 2 * m + 1, rfl, pA, by omega, by omega, fun x A2 x0 x1 s5 p5 => ?_⟩
    walk_at "rd"
    have FA2 := s5 _ _ (by simpa using nFp) FA
    have kA2 : KVs rI A2 kv l := kvI kA
    have kl : kv.length = l.length := Paired.length kA
    refine ⟨F, _, rfl, DPut.k (k := Sum.inr s) FA2 (lt_size (by omega)), ?_⟩
    refine ⟨sx_upd (sA.trans s5) hF0, p5.sx (SX.mut (S := [F]) List.mem_cons_self) (by simpa using Ne.symm nFp), by rw [upd_ne nwF]; exact s5 _ _ (by simpa using nwp) wA, putK kv (Sum.inr s) (.int (x - m)), putA l s (x - m), _, upd_same, kvI (KVs.put (show rI A2 (.int (x - m)) (x - m) from rfl) kA2 nA), putA_nodup nA, Nat.le_trans putA_len (by omega), fun z hz => ?_, rfl⟩
    rcases putA_mem hz with h | rfl
    · exact bA z h
    · exact ⟨wok s (getMem hs), by show -99 ≤ x - m; omega, by show x - m ≤ 99; omega⟩
  rintro σ A ⟨sA, pA, wA, kv, l, c, FA, kA, nA, lA, bA, rfl⟩
  have ws9 : ws.length ≤ 9 := by omega
  walk_at "rd"
  refine ⟨p, 8, rfl, pA, by decide, by decide, fun x B _ _ s5 p5 => ?_⟩
  have FB := s5 _ _ (by simpa using nFp) FA
  walk_at "rd"
  refine x_cases (fun c1 => ?_) (fun c1 => ?_)
  · walk_at "rd"
    refine ⟨p, 3, rfl, p5, by decide, by decide, fun y B2 y0 y1 s6 p6 => ?_⟩
    have FB2 := s6 _ _ (by simpa using nFp) FB
    walk_at "rd"
    refine x_rng1 (by omega) (by omega) ?_
    refine for_it walk_rng (fun i σ A => SX [p] H A ∧ Pool A p ∧ ∃ (kv : List (Key × V)) (l : List (Str × Int)) (c c2 : Option V), A F = some (.dK kv) ∧ KVs rI A kv l ∧ (l.map (·.1)).Nodup ∧ l.length ≤ 9 + i ∧ (∀ z ∈ l, nameB z.1 = true ∧ -99 ≤ z.2 ∧ z.2 ≤ 99) ∧
        σ = [some (.ref p), some (.int m), some (.ref F), c, c2])
      ⟨sA.trans (s5.trans s6), p6, kv, l, _, _, FB2, kvI kA, nA, by omega, bA, rfl⟩ (fun _ _ _ _ _ => trivial) ?_ ?_
    · rintro j z σ A0 A hj ⟨sA, pA, kv, l, c, c2, FA, kA, nA, lA, bA, rfl⟩ ⟨rfl, rfl⟩
      have j9 : j < 110 := by omega
      walk_at "rd"
      refine x_cstr (small_log (by omega)) ?_
      have nm := w_names j j9
      have nl := nameB_size nm
      rw [app_len, app_len] at nl
      have x1 : (("x" : Str)).length = 1 := by decide +kernel
      refine x_catS (Nat.le_of_lt (lt_size (by omega))) ?_
      walk_at "rd"
      refine x_catS (by rw [app_len]; exact Nat.le_of_lt (lt_size (by omega))) ?_
      have kl : kv.length = l.length := Paired.length kA
      refine ⟨F, _, rfl, DPut.k (k := Sum.inr _) FA (lt_size (by omega)), ?_⟩
      refine ⟨sx_upd sA hF0, pA.sx (SX.mut (S := [F]) List.mem_cons_self) (by simpa using Ne.symm nFp), putK kv (Sum.inr _) (.int m), putA l _ m, _, _, upd_same, kvI (KVs.put (show rI A (.int m) m from rfl) kA nA), putA_nodup nA, Nat.le_trans putA_len (by omega), fun z hz => ?_, rfl⟩
      rcases putA_mem hz with h | rfl
      · exact bA z h
      · exact ⟨nm, by show -99 ≤ m; omega, by show m ≤ 99; omega⟩
    · rintro σ A ⟨sA, pA, kv, l, c, c2, FA, kA, nA, lA, bA, rfl⟩
      walk_at "rd"
      exact k F A kv l hF0 sA pA FA kA nA (by omega) bA
  · walk_at "rd"
    exact k F B kv l hF0 (sA.trans s5) p5 FB (kvI kA) nA (by omega) bA
end
end M

namespace M
open PySem PySem.Spec PyProof.Rows L2 ReR
/-- a dict that may be written: of ints and texts, or with a key that is no text -/
def MutD (P : Program) (w : World) (S : List Addr) (H : Hp) (a : Addr) (kvs : KVN) : Prop := (∃ kk, H a = some (.dK kk) ∧ kvs = liftK kk ∧ (kk.map (·.1)).Nodup) ∨ (H a = some (NdO P w a kvs) ∧ KeysN (hid S H) kvs ∧ ∃ x ∈ kvs, ∀ s, x.1 ≠ .text s)
/-- the first part: a dict at a0, or odd data -/
def Part0 (P : Program) (w : World) (S : List Addr) (H : Hp) (a0 : Addr) (v0 : V) (n : Nat) : Prop :=
  (∃ d, DpD (hid S H) v0 d ∧ (∀ ds, d ≠ .dict ds) ∧ itmOk d = true) ∨
  ∃ kvs, v0 = .ref a0 ∧ MutD P w S H a0 kvs ∧ (∀ x ∈ kvs, EntV (hid S H) x) ∧ kvs.length ≤ n
structure PSt (P : Program) (w : World) (H : Hp) (p pl a0 : Addr) (v0 v1 : V) (n : Nat) : Prop where
  hp : Pool H p
  hpl : H pl = some (.lst [v0, v1])
  n1 : pl ≠ p
  n2 : a0 ≠ p
  ha : H a0 ≠ none
  p0 : Part0 P w [p, pl, a0] H a0 v0 n
  p1 : ∃ d, DpD (hid [p, pl, a0] H) v1 d ∧ itmOk d = true
theorem hid_tups {S : List Addr} {A B : Hp} (e : ∀ b o, hid S A b = some o → hid S B b = some o) : ∀ t xs, hid S A t = some (.tup xs) → hid S B t = some (.tup xs) := fun t xs h => e _ _ h
theorem entV_mono {A B : Hp} (e : ∀ b o, A b = some o → B b = some o) {x : NestedKey × V × V} (h : EntV A x) : EntV B x := by
  obtain ⟨q, h1, h2⟩ := h
  exact ⟨q, ⟨h1.1.mono e, h1.2.mono e⟩, h2⟩
theorem Part0.mono {P : Program} {w : World} {S : List Addr} {A B : Hp} {a0 : Addr} {v0 : V} {n : Nat} (e : ∀ b o, hid S A b = some o → hid S B b = some o) (ea : A a0 = B a0) (h : Part0 P w S A a0 v0 n) : Part0 P w S B a0 v0 n := by
  rcases h with ⟨d, h1, h2⟩ | ⟨kvs, h1, h2, h3, h4⟩
  · exact .inl ⟨d, h1.mono e, h2⟩
  · refine .inr ⟨kvs, h1, ?_, fun x hx => entV_mono e (h3 x hx), h4⟩
    rcases h2 with ⟨kk, q1, q2⟩ | ⟨q1, q2, q3⟩
    · exact .inl ⟨kk, by rw [← ea]; exact q1, q2⟩
    · exact .inr ⟨by rw [← ea]; exact q1, q2.mono (hid_tups e), q3⟩
theorem MutD.anyD {P : Program} {w : World} {S : List Addr} {H : Hp} {a : Addr} {kvs : KVN} (h : MutD P w S H a kvs) : AnyD P w H a kvs := by
  rcases h with ⟨kk, h1, h2, _⟩ | ⟨h1, h2, _⟩
  · exact .inr ⟨kk, .inl h1, h2⟩
  · exact .inl ⟨.inl h1, h2.mono fun t xs e => (hid_at e).2⟩
theorem MutD.keys {P : Program} {w : World} {S : List Addr} {H : Hp} {a : Addr} {kvs : KVN} (h : MutD P w S H a kvs) : KeysN (hid S H) kvs := by
  rcases h with ⟨kk, _, rfl, nd⟩ | ⟨_, h2, _⟩
  · exact lift_keys nd
  · exact h2
/-- what lies there behind a[y] = v -/
theorem MutD.put {P : Program} {w : World} {S : List Addr} {H : Hp} {a : Addr} {kvs : KVN} {n : Nat} (h : MutD P w S H a kvs) (aS : a ∈ S) (ents : ∀ x ∈ kvs, EntV (hid S H) x) (l : kvs.length ≤ n) (n5 : n < 5000) {k : NestedKey} {y v : V} (hk : HN (hid S H) k y) (d8 : k.depth ≤ 8) {dy dv : PyData} (hy : DpD (hid S H) y dy) (oy : itmOk dy = true) (hv : DpD (hid S H) v dv) (ov : itmOk dv = true) :
    ∃ H' kvs', (NPut P w H a y v H' ∨ DPut H a y v H') ∧ SX [a] H H' ∧ H' a ≠ none ∧ MutD P w S H' a kvs' ∧ (∀ x ∈ kvs', EntV (hid S H') x) ∧ kvs'.length ≤ n + 1 := by
  have hidE : ∀ {o : HO}, hid S (upd H a o) = hid S H := fun {o} => by
    funext b
    by_cases m : b ∈ S
    · cases e : hid S (upd H a o) b with
      | none =>
        cases e2 : hid S H b with
        | none => rfl
        | some u => exact absurd m (hid_at e2).1
      | some u => exact absurd m (hid_at e).1
    · rw [hid_of m, hid_of m, upd_ne fun z => m (by rw [z]; exact aS)]
  have hkH : HN H k y := hk.mono fun t xs e => (hid_at e).2
  by_cases c : ∃ kk key, H a = some (.dK kk) ∧ kvs = liftK kk ∧ (kk.map (·.1)).Nodup ∧ y = kV key
  · obtain ⟨kk, key, h1, rfl, nd, rfl⟩ := c
    have ll : kk.length ≤ n := by
      have : (liftK kk).length = kk.length := List.length_map _
      omega
    refine ⟨_, liftK (putK kk key v), .inr (DPut.k h1 (lt_size (by omega))), SX.mut List.mem_cons_self, (by rw [upd_same]; exact fun z => nomatch z), .inl ⟨_, upd_same, rfl, putK_ndX nd⟩, fun x hx => ?_, ?_⟩
    · rw [hidE]
      obtain ⟨z, hz, rfl⟩ := List.mem_map.mp hx
      rcases putK_memX hz with h | rfl
      · exact ents _ (List.mem_map.mpr ⟨z, h, rfl⟩)
      · exact ⟨(dy, dv), ⟨hy, hv⟩, oy, ov⟩
    · show ((putK kk key v).map _).length ≤ n + 1
      rw [List.length_map]
      exact Nat.le_trans (putK_lenX _ _ _) (by omega)
  · have K := h.keys
    have K2 := putN_keys (v := v) K hk d8
    have nt : ∃ x ∈ NK.putN kvs k y v, ∀ s, x.1 ≠ .text s := by
      rcases h with ⟨kk, h1, h2, nd⟩ | ⟨_, _, x, hx, hn⟩
      · obtain ⟨x, hx, e⟩ := putN_has (kvs := kvs) (k := k) (y := y) (v := v)
        refine ⟨x, hx, fun s z => c ?_⟩
        rw [e] at z
        subst z
        exact ⟨kk, Sum.inr s, h1, h2, nd, hk.text⟩
      · obtain ⟨z, hz, e⟩ := putN_keep (k := k) (y := y) (v := v) hx
        exact ⟨z, hz, fun s q => hn s (by rw [← e]; exact q)⟩
    refine ⟨_, NK.putN kvs k y v, .inl ⟨kvs, k, ?_, hkH, d8, lt_size (by omega), rfl⟩, SX.mut List.mem_cons_self, (by rw [upd_same]; exact fun z => nomatch z), .inr ⟨upd_same, by rw [hidE]; exact K2, nt⟩, fun x hx => ?_, Nat.le_trans (putN_len _ _ _ _) (by omega)⟩
    · rcases h with ⟨kk, h1, h2, nd⟩ | ⟨h1, h2, _⟩
      · exact .inr ⟨kk, h1, h2⟩
      · exact .inl ⟨h1, h2.mono fun t xs e => (hid_at e).2⟩
    · rw [hidE]
      exact put_ent ents hy hv oy ov x hx
theorem MutD.mono {P : Program} {w : World} {S : List Addr} {A B : Hp} {a0 : Addr} {kvs : KVN} (e : ∀ b o, hid S A b = some o → hid S B b = some o) (ea : A a0 = B a0) (h : MutD P w S A a0 kvs) : MutD P w S B a0 kvs := by
  rcases h with ⟨kk, q1, q2⟩ | ⟨q1, q2, q3⟩
  · exact .inl ⟨kk, by rw [← ea]; exact q1, q2⟩
  · exact .inr ⟨by rw [← ea]; exact q1, q2.mono (hid_tups e), q3⟩
theorem MutD.ne {P : Program} {w : World} {S : List Addr} {H : Hp} {a b : Addr} {kvs : KVN} {xs : List V} (h : MutD P w S H a kvs) (e : H b = some (.lst xs)) : b ≠ a := fun z => by
  rw [z] at e
  rcases h with ⟨kk, q, _⟩ | ⟨q, _⟩ <;> (rw [e] at q; cases q)
theorem Part0.le {P : Program} {w : World} {S : List Addr} {H : Hp} {a0 : Addr} {v0 : V} {n m : Nat} (h : Part0 P w S H a0 v0 n) (l : n ≤ m) : Part0 P w S H a0 v0 m := h.imp id fun ⟨kvs, h1, h2, h3, h4⟩ => ⟨kvs, h1, h2, h3, Nat.le_trans h4 l⟩
theorem num_ok0 : EntOk (.str "a", .int 1) := by
  unfold EntOk
  decide +kernel
theorem odd_dict : ∀ d ∈ oddD, ∀ ds, d = .dict ds → ds = [] ∨ ds = [(.str "a", .int 1)] := by
  intro d hd ds e
  subst e
  simp [oddD] at hd
  rcases hd with rfl | rfl
  · exact .inl rfl
  · exact .inr rfl
theorem odd_ents {A : Hp} {kk : List (Key × V)} {ds : List (PyData × PyData)} (h : DpDk A kk ds) (c : ds = [] ∨ ds = [(.str "a", .int 1)]) : (kk.map (·.1)).Nodup ∧ kk.length ≤ 1 ∧ ∀ (B : Hp), ∀ x ∈ liftK kk, EntV B x := by
  cases h with
  | nil => exact ⟨List.nodup_nil, Nat.zero_le _, fun _ _ h => nomatch h⟩
  | @cons k v r d ds hv t =>
    rcases c with c | c
    · cases c
    · injection c with c1 c2
      subst c2
      injection c1 with c3 c4
      subst c4
      cases t
      cases hv
      refine ⟨List.nodup_cons.mpr ⟨List.not_mem_nil, List.nodup_nil⟩, Nat.le_refl _, fun B x hx => ?_⟩
      have hx : x = (nk k, kV k, V.int 1) := List.mem_singleton.mp hx
      subst hx
      refine ⟨(.str "a", .int 1), ⟨?_, .int 1⟩, num_ok0⟩
      rw [← c3]
      cases k with
      | inl i => exact .int i
      | inr s => exact .str s
theorem num_ok : itmOk (.int 99) = true ∧ itmOk (.int 100) = true ∧ itmOk (.int (-99)) = true ∧ itmOk (.int (-100)) = true ∧ itmOk (.int 7) = true ∧ itmOk (.int 1) = true ∧ itmOk (.str "a") = true := by decide +kernel
theorem sx_at {A B : Hp} {S : List Addr} {a : Addr} (s : SX S A B) (n : a ∉ S) (h : A a ≠ none) : A a = B a := by
  cases e : A a with
  | none => exact absurd e h
  | some o => exact (s _ _ n e).symm
section
variable {P : Program} [SupX.PX P] {w : World} {K : PySem.W.Frag} {mg : Str → Option Value} {base : Heap}
theorem x_setL {H : Hp} {Q : Hp → Prop} {p : Addr} {xs : List V} {j : Nat} {v : V} (h : H p = some (.lst xs)) (l : j < xs.length) (q : Q (upd H p (.lst (xs.set j v)))) : rSetL (.ref p) (.int (j : Int)) v H Q := ⟨p, xs, _, j, rfl, rfl, h, ixN_nat l, q⟩
def sp_law_spoil_wish (P : Program) (w : World) (T : Tx K mg) : Sp := fun vs H Q _ => ∃ (p pl a0 : Addr) (v0 v1 : V) (n : Nat), vs = [.ref p, .ref pl] ∧ PSt P w H p pl a0 v0 v1 n ∧ n < 5000 ∧ 2 ≤ n ∧
  ∀ H' a0' v0' v1', PSt P w H' p pl a0' v0' v1' (n + 1) → Q .non H'
theorem ok_law_spoil_wish (T : Tx K mg) : FnOk P w K mg base CX0 3 T.law_spoil_wish.f T.law_spoil_wish.fd P_law_spoil_wish (sp_law_spoil_wish P w T) := by
  refine T.law_spoil_wish.F.ok sc_law_spoil_wish (fun vs H Q E h => ?_) (fun cdv A outer s H vs Q E hr h => ?_)
  · obtain ⟨p, pl, a0, v0, v1, n, rfl, st, n5, n2, k⟩ := h
    rfl
  have hu := hu_of hr
  have nd := sc_law_spoil_wish.nd
  obtain ⟨p, pl, a0, v0, v1, n, rfl, st, n5, n2, k⟩ := h
  refine ⟨_, (pss_cons (ps_set (i := 2) nd rfl (Or.inl rfl) (pe_ix (w_ixL (K := K) rfl) (pe_lst (pa_cons (pe_call (ok_law_thing (P := P) (w := w) T) (hr.mono (by decide)) (by rfl) T.law_thing.g T.law_thing.F.kp T.law_thing.B .nil pass0 (pa_cons (pv 0) pa_nil)) (pa_cons pe_int (pa_cons pe_int (pa_cons (pe_un un_neg pe_int) (pa_cons (pe_un un_neg pe_int) pa_nil)))))) (pe_call (ok_law_draw (P := P) (w := w) T) (hr.mono (by decide)) (by rfl) T.law_draw.g T.law_draw.F.kp T.law_draw.B .nil pass0 (pa_cons (pv 0) (pa_cons pe_int pa_nil))) (fun _ _ => rfl)))
      (pss_cons (ps_set (i := 3) nd rfl (Or.inl rfl) (pe_call (ok_law_draw (P := P) (w := w) T) (hr.mono (by decide)) (by rfl) T.law_draw.g T.law_draw.F.kp T.law_draw.B .nil pass0 (pa_cons (pv 0) (pa_cons pe_int pa_nil))))
      (pss_cons (ps_set (i := 4) nd rfl (Or.inl rfl) (pe_ix (w_ixL (K := K) rfl) (pv 1) pe_int (fun _ _ => rfl)))
      (pss_one (ps_if (pt_cmpR op_eq (pv 3) pe_int (nomark _)) (pss_one (ps_asg (pv 2) (pg_sub (pv 1) pe_int set_list))) (pss_one (ps_if (pt_cmpR op_eq (pv 3) pe_int (nomark _)) (pss_one (ps_asg (pv 2) (pg_sub (pv 1) pe_int set_list))) (pss_one (ps_if (PW.pt (pw_and (pt_val (pe_callB (wN_isi (P := P) (w := w) (K := K) rfl rfl rfl) (by rfl) T.b_isinstance (by decide +kernel) (pa_cons (pv 4) (pa_cons (pe_bltn (v := .ty "dict") (by rfl) T.b_dict (by decide +kernel) rfl) pa_nil)))) (pw_and1 (pt_cmpR op_eq (pv 3) pe_int (nomark _))))) (pss_one (wA_put (P := P) (w := w) rfl rfl hr.units (pv 4) (pe_call (ok_law_key (P := P) (w := w) T) (hr.mono (by decide)) (by rfl) T.law_key.g T.law_key.F.kp T.law_key.B .nil pass0 (pa_cons (pv 2) pa_nil)) pe_int rfl)) (pss_one (ps_if (PW.pt (pw_and (pt_val (pe_callB (wN_isi (P := P) (w := w) (K := K) rfl rfl rfl) (by rfl) T.b_isinstance (by decide +kernel) (pa_cons (pv 4) (pa_cons (pe_bltn (v := .ty "dict") (by rfl) T.b_dict (by decide +kernel) rfl) pa_nil)))) (pw_and1 (pt_cmpR op_gt (pe_callB (wN_len (P := P) (w := w) rfl rfl) (by rfl) T.b_len (by decide +kernel) (pa_cons (pv 4) pa_nil)) pe_int (nomark _))))) (pss_cons (ps_set (i := 5) nd rfl (Or.inl rfl) (pe_callTy (wN_list (P := P) (w := w) rfl rfl rfl) (by rfl) T.b_list (by decide +kernel) (pa_cons (pv 4) pa_nil)))
      (pss_one (wA_put (P := P) (w := w) rfl rfl hr.units (pv 4) (pe_ix (w_ixL (K := K) rfl) (pv 5) (pe_call (ok_law_draw (P := P) (w := w) T) (hr.mono (by decide)) (by rfl) T.law_draw.g T.law_draw.F.kp T.law_draw.B .nil pass0 (pa_cons (pv 0) (pa_cons (pe_callB (w_len (K := K) rfl) (by rfl) T.b_len (by decide +kernel) (pa_cons (pv 5) pa_nil)) pa_nil))) (fun _ _ => rfl)) (pv 2) rfl))) pss_nil))))))))))), ?_⟩
  refine x_start (σ' := [some _, some _, none, none, none, none]) rfl ?_
  try simp only [cx_n, cx_K, cx_w, cx_P]
  obtain ⟨hp, hpl, npl, nap, ha, p0, ⟨d1, hv1, ok1⟩⟩ := id st
  walk_at "rd"
  refine ⟨p, [pl, a0], rfl, hp, fun b hb => ?_, fun t H1 ot s1 q1 => ?_⟩
  · rcases List.mem_cons.mp hb with rfl | hb
    · rw [hpl]; exact fun z => nomatch z
    · rw [List.mem_singleton.mp hb]; exact ha
  walk_at "rd"
  refine ⟨Nat.le_of_ble_eq_true rfl, fun l hl => ?_⟩
  let L1 : List V := [t, V.int 99, V.int 100, V.int (-99), V.int (-100)]
  have s2 : SX [] H1 (upd H1 l (.lst L1)) := SX.new hl
  have f2 : (upd H1 l (.lst L1)) l = some (.lst L1) := upd_same
  have nlp : l ≠ p := fun z => q1.there (z ▸ hl)
  change tCall _ _ _ _ _ (upd H1 l (.lst L1)) _
  generalize upd H1 l (.lst L1) = H2 at s2 f2
  walk_at "rd"
  refine ⟨p, 5, rfl, q1.sx s2 List.not_mem_nil, by decide, by decide, fun r H3 r0 r1 s3 q3 => ?_⟩
  obtain ⟨v, ev, mv⟩ := at_mem (xs := L1) r0 r1
  refine x_ixL (sqL (s3 _ _ (by simpa using nlp) f2)) ev ?_
  have s13 : SX [p] H1 H3 := (nil_sx s2).trans s3
  obtain ⟨d, hd, okd, kld, dcl⟩ : ∃ d, DpD (hid [p, pl, a0] H3) v d ∧ itmOk d = true ∧ (keyP d || lodP d) = true ∧ ((∃ ds, d = .dict ds) → d ∈ oddD ∧ ∃ a kk, v = .ref a ∧ H a = none ∧ hid [p, pl, a0] H3 a = some (.dK kk)) := by
    simp only [L1, List.mem_cons, List.not_mem_nil, or_false] at mv
    rcases mv with rfl | rfl | rfl | rfl | rfl
    · obtain ⟨d, hd, h1, h2⟩ := ot.sx s13
      exact ⟨d, h1, odd_ok d hd, odd_key d hd, fun x => ⟨hd, h2 x⟩⟩
    · exact ⟨_, .int _, num_ok.1, rfl, fun ⟨_, z⟩ => nomatch z⟩
    · exact ⟨_, .int _, num_ok.2.1, rfl, fun ⟨_, z⟩ => nomatch z⟩
    · exact ⟨_, .int _, num_ok.2.2.1, rfl, fun ⟨_, z⟩ => nomatch z⟩
    · exact ⟨_, .int _, num_ok.2.2.2.1, rfl, fun ⟨_, z⟩ => nomatch z⟩
  have s03 : SX [p] H H3 := s1.trans s13
  clear_value L1
  clear ot s13 s3 s2 f2 ev mv r0 r1 hl nlp s1 q1
  walk_at "rd"
  refine ⟨p, 5, rfl, q3, by decide, by decide, fun kind H4 k0 k1 s4 q4 => ?_⟩
  have sub : ∀ b ∈ [p], b ∈ [p, pl, a0] := fun b hb => by rw [List.mem_singleton.mp hb]; exact List.mem_cons_self
  have e34 := hid_sxS sub s4
  have s04 := s03.trans s4
  have e04 := hid_sxS sub s04
  have hd := hd.mono e34
  have dcl : (∃ ds, d = .dict ds) → d ∈ oddD ∧ ∃ a kk, v = .ref a ∧ H a = none ∧ hid [p, pl, a0] H4 a = some (.dK kk) := fun x => by
    obtain ⟨m, a, kk, h1, h2, h3⟩ := dcl x
    exact ⟨m, a, kk, h1, h2, e34 _ _ h3⟩
  have npl' : pl ∉ [p] := by simpa using npl
  have nap' : a0 ∉ [p] := by simpa using nap
  have hpl4 := s04 _ _ npl' hpl
  have ha4 : H4 a0 ≠ none := by rw [← sx_at s04 nap' ha]; exact ha
  have p04 : Part0 P w [p, pl, a0] H4 a0 v0 n := p0.mono e04 (sx_at s04 nap' ha)
  have hv14 := hv1.mono e04
  have st4 : PSt P w H4 p pl a0 v0 v1 (n + 1) := ⟨q4, hpl4, npl, nap, ha4, p04.le (Nat.le_succ _), d1, hv14, ok1⟩
  clear e34 s03 s4 q3 p0
  walk_at "rd"
  refine x_ixL (sqL hpl4) (atI_nat (j := 0) rfl) ?_
  walk_at "rd"
  -- what is put into parts
  have hidP : ∀ {o : HO}, hid [p, pl, a0] (upd H4 pl o) = hid [p, pl, a0] H4 := fun {o} => by
    funext b
    by_cases m : b ∈ [p, pl, a0]
    · cases e : hid [p, pl, a0] (upd H4 pl o) b with
      | none =>
        cases e2 : hid [p, pl, a0] H4 b with
        | none => rfl
        | some u => exact absurd m (hid_at e2).1
      | some u => exact absurd m (hid_at e).1
    · rw [hid_of m, hid_of m, upd_ne fun z => m (by rw [z]; simp)]
  have q5 : ∀ {o : HO}, Pool (upd H4 pl o) p := fun {o} => q4.sx (SX.mut (S := [pl]) List.mem_cons_self) (by simpa using Ne.symm npl)
  have ha5 : ∀ {o : HO}, (upd H4 pl o) a0 ≠ none := fun {o} => by
    by_cases c : a0 = pl
    · rw [c, upd_same]; exact fun z => nomatch z
    · rw [upd_ne c]; exact ha4
  refine x_cases (fun c0 => ?_) (fun c0 => ?_)
  · walk_at "rd"
    show rSetL (.ref pl) (.int ((1 : Nat) : Int)) _ _ _
    refine x_setL hpl4 (Nat.lt_succ_self 1) ?_
    refine k _ a0 v0 v ⟨q5, upd_same, npl, nap, ha5, ?_, d, by rw [hidP]; exact hd, okd⟩
    rcases p04 with ⟨d0, h1, h2⟩ | ⟨kvs, h1, mu, h3, h4⟩
    · exact .inl ⟨d0, by rw [hidP]; exact h1, h2⟩
    · exact .inr ⟨kvs, h1, mu.mono (fun b o h => by rw [hidP]; exact h) (upd_ne (Ne.symm (mu.ne hpl4))).symm, fun x hx => by rw [hidP]; exact h3 x hx, by omega⟩
  walk_at "rd"
  refine x_cases (fun c1 => ?_) (fun c1 => ?_)
  · walk_at "rd"
    show rSetL (.ref pl) (.int ((0 : Nat) : Int)) _ _ _
    refine x_setL hpl4 (Nat.succ_pos 1) ?_
    by_cases hdict : ∃ ds, d = .dict ds
    · obtain ⟨hm, a', kk, rfl, hfree, hat⟩ := dcl hdict
      obtain ⟨ds, rfl⟩ := hdict
      obtain ⟨na', ea'⟩ := hid_at hat
      have nap2 : a' ≠ p := fun z => na' (by rw [z]; exact List.mem_cons_self)
      have nal2 : a' ≠ pl := fun z => na' (by rw [z]; simp)
      have dk : DpDk (hid [p, pl, a0] H4) kk ds := by
        cases hd with
        | dic e dk =>
          rcases e with e | ⟨u, e⟩
          · rw [hat] at e
            cases e
            exact dk
          · rw [hat] at e
            cases e
      have e9 : ∀ b o, hid [p, pl, a0] H b = some o → hid [p, pl, a'] (upd H4 pl (.lst ([v0, v1].set 0 (.ref a')))) b = some o := fun b o h => by
        obtain ⟨nb, eb⟩ := hid_at h
        have b1 : b ≠ p := fun z => nb (by rw [z]; exact List.mem_cons_self)
        have b2 : b ≠ pl := fun z => nb (by rw [z]; simp)
        have b3 : b ≠ a' := fun z => by rw [z, hfree] at eb; cases eb
        rw [hid_of (by simp [b1, b2, b3]), upd_ne b2]
        exact s04 _ _ (by simpa using b1) eb
      refine k _ a' (.ref a') v1 ⟨q5, upd_same, npl, nap2, (by rw [upd_ne nal2, ea']; exact fun z => nomatch z), .inr ⟨liftK kk, rfl, .inl ⟨kk, by rw [upd_ne nal2]; exact ea', rfl, ?_⟩, ?_, ?_⟩, d1, hv1.mono e9, ok1⟩
      · exact (odd_ents dk (odd_dict _ hm ds rfl)).1
      · exact (odd_ents dk (odd_dict _ hm ds rfl)).2.2 _
      · have : (liftK kk).length = kk.length := List.length_map _
        have := (odd_ents dk (odd_dict _ hm ds rfl)).2.1
        omega
    · exact k _ a0 v v1 ⟨q5, upd_same, npl, nap, ha5, .inl ⟨d, by rw [hidP]; exact hd, fun ds e => hdict ⟨ds, e⟩, okd⟩, d1, by rw [hidP]; exact hv14, ok1⟩
  walk_at "rd"
  rcases p04 with ⟨d0, h1, h2, h3⟩ | ⟨kvs, rfl, mu, ents, kl⟩
  · refine x_isiO h1.out h2 ?_
    walk_at "rd"
    refine x_isiO h1.out h2 ?_
    walk_at "rd"
    exact k _ _ _ _ st4
  refine x_isiDic mu.anyD ?_
  walk_at "rd"
  have npa : pl ≠ a0 := mu.ne hpl4
  have fin : ∀ {H5 H6 : Hp} {kvs' : KVN}, SX [p] H4 H5 → Pool H5 p → SX [a0] H5 H6 → H6 a0 ≠ none → MutD P w [p, pl, a0] H6 a0 kvs' → (∀ x ∈ kvs', EntV (hid [p, pl, a0] H6) x) → kvs'.length ≤ n + 1 → Q .non H6 := fun {H5 H6 kvs'} s5 q5 s6 na6 mu6 en6 l6 =>
    k H6 a0 (.ref a0) v1 ⟨q5.sx s6 (by simpa using Ne.symm nap), s6 _ _ (by simpa using npa) (s5 _ _ npl' hpl4), npl, nap, na6, .inr ⟨kvs', rfl, mu6, en6, l6⟩, d1, (hv14.mono (hid_sxS sub s5)).mono (hid_sxS (fun b hb => by rw [List.mem_singleton.mp hb]; simp) s6), ok1⟩
  refine x_cases (fun c2 => ?_) (fun c2 => ?_)
  · refine x_aput ?_
    walk_at "rd"
    refine ⟨v, d, rfl, hd.out, kld, okd, fun v' d' k' H5 s5 hor hk d8 => ?_⟩
    have e45 := hid_sxS (S := []) (S' := [p, pl, a0]) (fun b hb => nomatch hb) s5
    obtain ⟨hd', kp', ok'⟩ : DpD (hid [p, pl, a0] H5) v' d' ∧ keyP d' = true ∧ itmOk d' = true := by
      rcases hor with ⟨rfl, rfl, kp⟩ | ⟨rfl, rfl⟩
      · exact ⟨hd.mono e45, kp, okd⟩
      · exact ⟨.int 7, rfl, num_ok.2.2.2.2.1⟩
    obtain ⟨k2, hk2, d82⟩ := key_is hd' kp'
    have mu5 := mu.mono e45 (sx_at s5 List.not_mem_nil ha4)
    obtain ⟨H6, kvs', pu, s6, na6, mu6, en6, l6⟩ := mu5.put (v := .int 1) (dv := .int 1) (by simp) (fun x hx => entV_mono e45 (ents x hx)) kl n5 hk2 d82 hd' ok' (.int 1) num_ok.2.2.2.2.2.1
    exact ⟨a0, H6, rfl, pu, fin (nil_sx s5) (q4.sx s5 List.not_mem_nil) s6 na6 mu6 en6 l6⟩
  walk_at "rd"
  refine x_isiDic mu.anyD ?_
  walk_at "rd"
  refine ⟨a0, kvs, rfl, mu.anyD, ?_⟩
  walk_at "rd"
  refine x_cases (fun c3 => ?_) (fun c3 => ?_)
  · have c3 := of_decide_eq_true c3
    walk_at "rd"
    refine x_listN mu.anyD fun nl hnl => ?_
    have s5 : SX [] H4 (upd H4 nl (.lst (kvs.map (·.2.1)))) := SX.new hnl
    have f5 : (upd H4 nl (.lst (kvs.map (·.2.1)))) nl = some (.lst (kvs.map (·.2.1))) := upd_same
    have nnp : nl ≠ p := fun z => q4.there (z ▸ hnl)
    generalize upd H4 nl (.lst (kvs.map (·.2.1))) = H5 at s5 f5
    walk_at "rd"
    dsimp only
    refine x_aput ?_
    walk_at "rd"
    refine x_lenL' (sqL f5) ?_
    walk_at "rd"
    rw [List.length_map]
    have two : (5000 : Int) < 2 ^ 200 := by decide
    refine ⟨p, (kvs.length : Int), rfl, q4.sx s5 List.not_mem_nil, by omega, by omega, fun j H6 j0 j1 s6 q6 => ?_⟩
    obtain ⟨y, ey, my⟩ := at_mem (xs := kvs.map (·.2.1)) j0 (by rw [List.length_map]; exact j1)
    obtain ⟨x, hx, rfl⟩ := List.mem_map.mp my
    refine x_ixL (sqL (s6 _ _ (by simpa using nnp) f5)) ey ?_
    have s46 : SX [p] H4 H6 := (nil_sx s5).trans s6
    have e46 := hid_sxS sub s46
    have mu6 := mu.mono e46 (sx_at s46 nap' ha4)
    obtain ⟨hk, d8⟩ := mu6.keys.is x hx
    obtain ⟨qd, ⟨hy, _⟩, oy, _⟩ := entV_mono e46 (ents x hx)
    obtain ⟨H7, kvs', pu, s7, na7, mu7, en7, l7⟩ := mu6.put (v := v) (dv := d) (by simp) (fun x hx => entV_mono e46 (ents x hx)) kl n5 hk d8 hy oy (hd.mono e46) okd
    exact ⟨a0, H7, rfl, pu, fin s46 q6 s7 na7 mu7 en7 l7⟩
  · walk_at "rd"
    exact k _ _ _ _ st4
end
end M

namespace M
open PySem PySem.Spec PyProof.Rows L2 ReR
/-- the parts, as they are judged -/
structure Pts (P : Program) (w : World) (H : Hp) (pl : Addr) (v0 v1 : V) (d0 d1 : PyData) (o : Option KVN) : Prop where
  hpl : H pl = some (.lst [v0, v1])
  tg : Thg P w H v0 d0 o
  knd : ∀ kvs, o = some kvs → (kvs.map (·.1)).Nodup
  es : EntsS d0
  tx : TxtK H v0 o
  hv1 : DpD H v1 d1
  ok : okD (.list [d0, d1])
theorem Pts.nil {P : Program} {w : World} {A B : Hp} {pl : Addr} {v0 v1 : V} {d0 d1 : PyData} {o : Option KVN} (s : SX [] A B) (h : Pts P w A pl v0 v1 d0 d1 o) : Pts P w B pl v0 v1 d0 d1 o :=
  ⟨s _ _ List.not_mem_nil h.hpl, h.tg.mono (sx_ext s), h.knd, h.es, h.tx.nil s, h.hv1.nil s, h.ok⟩
theorem Pts.dn {P : Program} {w : World} {H : Hp} {pl : Addr} {v0 v1 : V} {d0 d1 : PyData} {o : Option KVN} (h : Pts P w H pl v0 v1 d0 d1 o) : DpN P w H (.ref pl) (.list [d0, d1]) := .lst h.hpl (.cons h.tg.dn (.cons (.base h.hv1) .nil))
theorem okD_two {d0 d1 : PyData} (h0 : d0.showable = true ∧ d0.depth ≤ 10 ∧ d0.leavesShort 40 = true ∧ d0.bulk ≤ 50000) (h1 : itmOk d1 = true) : okD (.list [d0, d1]) := by
  obtain ⟨a, b, c, e⟩ := h0
  obtain ⟨a2, b2, c2, e2⟩ := itm_parts h1
  refine ⟨?_, ?_, ?_, ?_⟩
  · simp only [PyData.showable, PyData.showableAll, a, a2]
    rfl
  · simp only [PyData.depth, PyData.depthAll]
    omega
  · simp only [PyData.leavesShort, PyData.leavesShortAll, c, c2]
    rfl
  · simp only [PyData.bulk, PyData.bulkAll]
    omega
theorem PSt.pts {P : Program} {w : World} {H : Hp} {p pl a0 : Addr} {v0 v1 : V} {n : Nat} (st : PSt P w H p pl a0 v0 v1 n) (n3 : n ≤ 300) : ∃ d0 d1 o, Pts P w H pl v0 v1 d0 d1 o := by
  obtain ⟨hp, hpl, _, _, _, p0, d1, hv1, ok1⟩ := st
  rcases p0 with ⟨d, h1, h2, h3⟩ | ⟨kvs, rfl, mu, ents, kl⟩
  · obtain ⟨a, b, c, e⟩ := itm_parts h3
    exact ⟨d, d1, none, hpl, .odd h1.out h2, (fun _ z => nomatch z), (fun ds e => absurd e (h2 ds)), (fun _ z => nomatch z), hv1.out, okD_two ⟨a, by omega, c, by omega⟩ ok1⟩
  · obtain ⟨ds, h1, h2, h3⟩ := dpp_of ents
    have ex : ∀ b o, hid [p, pl, a0] H b = some o → H b = some o := fun b o h => (hid_at h).2
    obtain ⟨a, b, c, e⟩ := all_ent h2
    have K := mu.keys
    refine ⟨.dict ds, d1, some kvs, hpl, .dic mu.anyD (h1.mono (Ext.r ex)), (fun kvs e => by cases e; exact K.nd), (fun ds' e => by cases e; exact h2), (fun kvs e => ?_), hv1.out, okD_two ⟨?_, ?_, ?_, ?_⟩ ok1⟩
    · cases e
      rcases mu with ⟨kk, q1, q2, q3⟩ | ⟨_, _, q⟩
      · exact .inl ⟨a0, kk, rfl, q1, q2, q3⟩
      · exact .inr q
    · simpa only [PyData.showable] using a
    · simp only [PyData.depth]; omega
    · simpa only [PyData.leavesShort] using c
    · simp only [PyData.bulk]
      omega
theorem int_itm' : ∀ j, j < 401 → itmOk (.int ((j : Nat) - 200 : Int)) = true := by decide +kernel
theorem int_itm {i : Int} (h0 : -200 ≤ i) (h1 : i ≤ 200) : itmOk (.int i) = true := by
  obtain ⟨j, rfl⟩ : ∃ j : Nat, i = (j : Int) - 200 := ⟨(i + 200).toNat, by omega⟩
  exact int_itm' j (by omega)
theorem lift_entI {A H : Hp} {kv : List (Key × V)} {l : List (Str × Int)} (h : KVs rI A kv l) (nm : ∀ q ∈ l, nameB q.1 = true ∧ -99 ≤ q.2 ∧ q.2 ≤ 99) : ∀ x ∈ liftK kv, EntV H x := by
  intro x hx
  obtain ⟨z, hz, rfl⟩ := List.mem_map.mp hx
  obtain ⟨i, hi⟩ := List.mem_iff_getElem?.mp hz
  obtain ⟨q, hq, e1, e2⟩ := Paired.getL h hi
  obtain ⟨n1, n2, n3⟩ := nm q (getMem hq)
  have e2 : z.2 = .int q.2 := e2
  refine ⟨(.str q.1, .int q.2), ⟨?_, ?_⟩, nameB_itm n1, int_itm (by omega) (by omega)⟩
  · show DpD H (kV z.1) _
    rw [e1]
    exact .str _
  · show DpD H z.2 _
    rw [e2]
    exact .int _
theorem x_joinN {c : Bool} {A : Prop} {D : Ends} {σ : L2.St} {B : Hp} (J : L2.St → Hp → Prop) (hA : c = true → (∀ σ' B', J σ' B' → D.nx σ' B') → A) (hB : c = false → J σ B) (hR : ∀ σ' B', J σ' B' → D.nx σ' B') : if c = true then A else tNext D σ B := by
  cases c with
  | true => rw [if_pos rfl]; exact hA rfl hR
  | false => rw [if_neg Bool.false_ne_true]; exact hR _ _ (hB rfl)
theorem x_prop {C : Addr} {sp : Sp} {dvs : List V} {E : XK} {ta : TE} {σ : L2.St} {H : Hp} {Q : VK} (k : ta σ H fun x H1 => ∃ a dx fs, x = .ref a ∧ H1 a = some (.ins C dx fs) ∧ sp (.ref a :: dvs) H1 Q E) : tProp C sp dvs E ta σ H Q := k
theorem dk_same {K : PySem.W.Frag} {H : Hp} {a b : Addr} {kf kk : List (Key × V)} {tb wl : List (Str × Int)} (h1 : H a = some (.dK kf)) (h2 : H b = some (.dK kk)) (k1 : KVs rI H kf tb) (k2 : KVs rI H kk wl) (len : tb.length = wl.length) (lk : ∀ z ∈ tb, lookA wl z.1 = some z.2) : DKeq K H a b kf kk := by
  refine ⟨h1, h2, by rw [Paired.length k1, Paired.length k2, len], fun q hq => ?_⟩
  obtain ⟨i, hi⟩ := List.getElem?_of_mem hq
  obtain ⟨z, hz, e1, e2⟩ := Paired.getL k1 hi
  obtain ⟨v, ev, rv⟩ := k2.at_ (lk z (getMem hz))
  have e2 : q.2 = .int z.2 := e2
  have rv : v = .int z.2 := rv
  refine ⟨.int z.2, .int z.2, .int z.2, by rw [e1, ev, rv], by rw [e2]; exact .int _, .int _, by rw [PyData.canLay0], by rw [PyData.canLay0], by rw [PyData.depth]; decide, SeqAt.eqv_refl _ (by rw [PyData.canLay0])⟩
section
variable {P : Program} [SupX.PX P] {w : World} {K : PySem.W.Frag} {mg : Str → Option Value} {base : Heap}
def sp_law (T : Tx K mg) : Sp := fun vs H Q _ => ∃ (a : Addr) (ns : List Int), vs = [.ref a] ∧ SqL K H a (ns.map V.int) ∧ ns.length ≤ 10000 ∧ ∀ H', Q (.bl true) H'
theorem ok_law (T : Tx K mg) (hsy : ReR.SysIs base) : ReR.FnG P w K mg base CX0 6 T.law.f T.law.fd P_law (sp_law T) := by
  refine T.law.F.okG sc_law (fun vs H Q E h => ?_) (fun cdv A outer s H vs Q E hr hg h => ?_)
  · obtain ⟨a, ns, rfl, ha, hlen, k⟩ := h
    rfl
  have hu := hu_of hr
  have nd := sc_law.nd
  obtain ⟨a, ns, rfl, ha, hlen, k⟩ := h
  refine ⟨_, (pss_cons (ps_set (i := 1) nd rfl (Or.inl rfl) (pe_call (ok_law_pool (P := P) (w := w) T) (hr.mono (by decide)) (by rfl) T.law_pool.g T.law_pool.F.kp T.law_pool.B .nil pass0 (pa_cons (pv 0) pa_nil)))
      (pss_cons (ps_set (i := 2) nd rfl (Or.inl rfl) (pe_ix (w_ixL (K := K) rfl) (pe_lst (pa_cons pe_int (pa_cons pe_int (pa_cons pe_int (pa_cons pe_int pa_nil))))) (pe_call (ok_law_draw (P := P) (w := w) T) (hr.mono (by decide)) (by rfl) T.law_draw.g T.law_draw.F.kp T.law_draw.B .nil pass0 (pa_cons (pv 1) (pa_cons pe_int pa_nil))) (fun _ _ => rfl)))
      (pss_cons (ps_set (i := 3) nd rfl (Or.inl rfl) (pe_call (ok_law_drawn_worths (P := P) (w := w) T) (hr.mono (by decide)) (by rfl) T.law_drawn_worths.g T.law_drawn_worths.F.kp T.law_drawn_worths.B .nil pass0 (pa_cons (pv 1) pa_nil)))
      (pss_cons (ps_set (i := 4) nd rfl (Or.inr rfl) (pe_lst (pa_cons (pv 3) (pa_cons (pe_call (ok_law_endless (P := P) (w := w) T) (hr.mono (by decide)) (by rfl) T.law_endless.g T.law_endless.F.kp T.law_endless.B .nil pass0 (pa_cons (pv 1) (pa_cons (pv 3) pa_nil))) pa_nil))))
      (pss_cons (ps_if (pt_cmpR op_eq (pe_call (ok_law_draw (P := P) (w := w) T) (hr.mono (by decide)) (by rfl) T.law_draw.g T.law_draw.F.kp T.law_draw.B .nil pass0 (pa_cons (pv 1) (pa_cons pe_int pa_nil))) pe_int (nomark _)) (pss_one (ps_asg (pe_op op_sub (pe_call (ok_law_draw (P := P) (w := w) T) (hr.mono (by decide)) (by rfl) T.law_draw.g T.law_draw.F.kp T.law_draw.B .nil pass0 (pa_cons (pv 1) (pa_cons pe_int pa_nil))) pe_int) (pg_sub (pv 4) pe_int set_list))) pss_nil)
      (pss_cons (ps_for PassesOwn.never rfl (pi_range1 (by rfl) T.b_range (pa_cons (pv 2) pa_nil)) (pg_name (i := 5) nd rfl (Or.inl rfl)) (pss_one (ps_expr (pe_call (ok_law_spoil_wish (P := P) (w := w) T) (hr.mono (by decide)) (by rfl) T.law_spoil_wish.g T.law_spoil_wish.F.kp T.law_spoil_wish.B .nil pass0 (pa_cons (pv 1) (pa_cons (pv 4) pa_nil))))))
      (pss_cons (ps_set (i := 6) nd rfl (Or.inl rfl) (pe_callB (wN_repr (P := P) (w := w) rfl rfl hg hr.units hsy) (by rfl) T.b_repr (by decide +kernel) (pa_cons (pv 4) pa_nil)))
      (pss_cons (ps_set (i := 7) nd rfl (Or.inl rfl) pe_non)
      (pss_cons (ps_set (i := 8) nd rfl (Or.inl rfl) pe_non)
      (pss_cons (ps_try_mix rfl rfl nd takes0 (fun W pn xe tk0 po0 => (pss_one (ps_set (i := 7) nd rfl (Or.inl rfl) (pe_makeS T.m_Wish (ok_Wish_init (P := P) (w := w) T) (hr.mono (by decide)) (by rfl) T.g_Wish T.Wish_init.B (fun τ => passAt tk0 τ) (pa_cons (pe_ix (w_ixL (K := K) rfl) (pv 4) pe_int (fun _ _ => rfl)) (pa_cons (pe_ix (w_ixL (K := K) rfl) (pv 4) pe_int (fun _ _ => rfl)) pa_nil))))))
      (.cons (m := ⟨.ref T.c_BadWish, some 9, _⟩) ⟨by rfl, by decide, .inl T.g_BadWish⟩ ⟨rfl, rfl⟩ (fun a ob cv dv pn hz hf => (pss_one (ps_set (i := 8) nd rfl (Or.inl rfl) (pe_and (pe_callB (SupX.cl_isX (K := K) rfl hz hf) (by rfl) T.b_isinstance (by decide +kernel) (pa_cons (pv 9) (pa_cons (pe_glob (v := .ref T.c_OwnError) (by rfl) T.g_OwnError rfl) pa_nil))) (pe_one (pe_callB (SupX.cl_isX (K := K) rfl hz hf) (by rfl) T.b_isinstance (by decide +kernel) (pa_cons (pv 9) (pa_cons (pe_bltn (v := .ty "ValueError") (by rfl) T.b_ValueError (by decide +kernel) rfl) pa_nil)))))))) .nil))
      (pss_cons (ps_if (pt_cmpR op_ne (pe_callB (wN_repr (P := P) (w := w) rfl rfl hg hr.units hsy) (by rfl) T.b_repr (by decide +kernel) (pa_cons (pv 4) pa_nil)) (pv 6) (nomark _)) (pss_one (ps_ret pe_bl)) pss_nil)
      (pss_cons (ps_if (pt_not (pt_val (pe_call (ok_law_is_good (P := P) (w := w) T) (hr.mono (by decide)) (by rfl) T.law_is_good.g T.law_is_good.F.kp T.law_is_good.B .nil pass0 (pa_cons (pe_ix (w_ixL (K := K) rfl) (pv 4) pe_int (fun _ _ => rfl)) (pa_cons (pe_ix (w_ixL (K := K) rfl) (pv 4) pe_int (fun _ _ => rfl)) pa_nil))))) (pss_one (ps_ret (pe_and (pe_cmpR op_notNo (pv 8) pe_non (nomark _)) (pe_one (pv 8))))) pss_nil)
      (pss_cons (ps_if (PW.pt (pw_or (pt_cmpR op_isNo (pv 7) pe_non (nomark _)) (pw_or (pt_not (pt_val (pe_callB (w_isi (K := K) rfl) (by rfl) T.b_isinstance (by decide +kernel) (pa_cons (w_fld (K := K) rfl (pv 7) rfl) (pa_cons (pe_bltn (v := .ty "bool") (by rfl) T.b_bool (by decide +kernel) rfl) pa_nil))))) (pw_or1 (pt_cmpR op_ne (w_fld (K := K) rfl (pv 7) rfl) (pe_ix (w_ixL (K := K) rfl) (pv 4) pe_int (fun _ _ => rfl)) (nomark _)))))) (pss_one (ps_ret pe_bl)) pss_nil)
      (pss_cons (ps_if (pt_cmpR op_ne (w_fld (K := K) rfl (pv 7) rfl) (pe_callB (w_all (K := K) rfl rfl) (by rfl) T.b_all (by decide +kernel) (pa_cons (pe_lockR (pe_lc (own := [("name", 10)]) rfl nd (w_pikeysN (P := P) (w := w) rfl rfl (pe_ix (w_ixL (K := K) rfl) (pv 4) pe_int (fun _ _ => rfl))) (blkOk_by (own := [("name", 10)]) (N := N_law) (sc := defScope s_law) (by decide +kernel)) (fun _ _ _ _ _ => (pg_name (i := 10) nd rfl (Or.inl rfl))) (fun _ _ _ _ _ => pts_nil) (fun _ _ _ _ _ => (pe_cmpR op_le (pe_ix (w_ixL (K := K) rfl) (pv 4) pe_int (fun _ _ => rfl)) (wN_get (P := P) (w := w) rfl rfl hr.units (pe_ix (w_ixL (K := K) rfl) (pv 4) pe_int (fun _ _ => rfl)) (pv 10) (fun _ _ => rfl)) (nomark _))))) pa_nil)) (nomark _)) (pss_one (ps_ret pe_bl)) pss_nil)
      (pss_cons (ps_set (i := 11) nd rfl (Or.inl rfl) (pe_prop (pv 7) T.cl_Wish T.pr_Wish_worths (ok_Wish_worths (P := P) (w := w) T) (hr.mono (by decide)) T.Wish_worths.B .nil pass0 rfl))
      (pss_cons (ps_if (PW.pt (pw_or (pt_not (pt_val (pe_callB (w_isi (K := K) rfl) (by rfl) T.b_isinstance (by decide +kernel) (pa_cons (pv 11) (pa_cons (pe_bltn (v := .ty "dict") (by rfl) T.b_dict (by decide +kernel) rfl) pa_nil))))) (pw_or1 (pt_cmpR (w_dNe (K := K) rfl hr.units) (pv 11) (pe_ix (w_ixL (K := K) rfl) (pv 4) pe_int (fun _ _ => rfl)) (nomark _))))) (pss_one (ps_ret pe_bl)) pss_nil)
      (pss_cons (ps_dput hu (pv 11) pe_str pe_int rfl)
      (pss_one (ps_ret (pe_cmpR (w_dEq (K := K) rfl hr.units) (pe_prop (pv 7) T.cl_Wish T.pr_Wish_worths (ok_Wish_worths (P := P) (w := w) T) (hr.mono (by decide)) T.Wish_worths.B .nil pass0 rfl) (pe_ix (w_ixL (K := K) rfl) (pv 4) pe_int (fun _ _ => rfl)) (nomark _))))))))))))))))))))), ?_⟩
  refine x_start (σ' := [some _, none, none, none, none, none, none, none, none, none, none, none]) rfl ?_
  try simp only [cx_n, cx_K, cx_w, cx_P]
  walk_at "rd"
  refine ⟨a, ns, rfl, ha, hlen, fun p H1 hp s1 q1 => ?_⟩
  walk_at "rd"
  refine ⟨Nat.le_of_ble_eq_true rfl, fun l0 hl0 => ?_⟩
  walk_at "rd"
  have np0 : l0 ≠ p := fun e => q1.there (e ▸ hl0)
  refine ⟨p, 4, rfl, q1.sx (SX.new (S := []) hl0) List.not_mem_nil, by decide, by decide, fun r H2 r0 r1 s2 q2 => ?_⟩
  obtain ⟨m, em, hm⟩ := at_ints (ns := [0, 0, 1, 2]) r0 r1
  have hm2 : 0 ≤ m ∧ m ≤ 2 := by simp at hm; omega
  refine x_ixL (sqL (s2 _ _ (by simpa using np0) upd_same)) em ?_
  clear s2 s1 np0 hp hl0 em
  walk_at "rd"
  refine ⟨p, rfl, q2, fun wd H3 kv l hwd s3 q3 ewd kwk lnd lln lall => ?_⟩
  have nwp : wd ≠ p := fun z => q2.there (z ▸ hwd)
  walk_at "rd"
  refine ⟨p, wd, l, rfl, q3, ⟨wd, kv, rfl, .inl ewd, kwk⟩, lnd, by omega, fun z hz => (lall z hz).2, fun e H4 s4 q4 e0 e1 _ => ?_⟩
  have ewd4 := s4 _ _ (by simpa using nwp) ewd
  walk_at "rd"
  refine ⟨Nat.le_of_ble_eq_true rfl, fun pl hpl => ?_⟩
  have s5 : SX [] H4 (upd H4 pl (.lst [.ref wd, .int e])) := SX.new hpl
  have f5 : (upd H4 pl (.lst [.ref wd, .int e])) pl = some (.lst [.ref wd, .int e]) := upd_same
  have npl : pl ≠ p := fun z => q4.there (z ▸ hpl)
  generalize upd H4 pl (.lst [.ref wd, .int e]) = H5 at s5 f5
  have q5 := q4.sx s5 List.not_mem_nil
  have ewd5 := s5 _ _ List.not_mem_nil ewd4
  have nwl : wd ≠ pl := fun z => by rw [z, hpl] at ewd4; cases ewd4
  have kwk5 : KVs rI H5 kv l := kvI kwk
  clear s3 s4 s5 q3 q4 ewd ewd4 hwd hpl q2 q1
  walk_at "rd"
  refine ⟨p, 8, rfl, q5, by decide, by decide, fun x H6 _ _ s6 q6 => ?_⟩
  walk_at "rd"
  have mk : ∀ {B : Hp} {i : Int}, SX [p, pl] H5 B → Pool B p → B pl = some (.lst [.ref wd, .int i]) → -200 ≤ i → i ≤ 200 → PSt P w B p pl wd (.ref wd) (.int i) 200 := fun {B i} s q f i0 i1 => by
    have ew := s _ _ (by simp [nwp, nwl]) ewd5
    have kvn : (kv.map (·.1)).Nodup := by
      rw [kwk5.keys]
      exact lnd.map _ (fun a b h => by intro z; exact h (Sum.inr.inj z))
    refine ⟨q, f, npl, nwp, (by rw [ew]; exact fun z => nomatch z), .inr ⟨liftK kv, rfl, .inl ⟨kv, ew, rfl, kvn⟩, lift_entI kwk5 lall, ?_⟩, .int i, .int i, int_itm i0 i1⟩
    have : (liftK kv).length = kv.length := List.length_map _
    have : kv.length = l.length := Paired.length kwk5
    omega
  have f6 := s6 _ _ (by simpa using npl) f5
  have s6' : SX [p, pl] H5 H6 := s6.sub fun b hb => by rw [List.mem_singleton.mp hb]; exact List.mem_cons_self
  refine x_joinN (fun σ' B => ∃ i : Int, PSt P w B p pl wd (.ref wd) (.int i) 200 ∧ σ' = [some (.ref a), some (.ref p), some (.int m), some (.ref wd), some (.ref pl), none, none, none, none, none, none, none]) (fun _ join => ?_) (fun _ => ⟨e, mk s6' q6 f6 (by omega) (by omega), rfl⟩) ?_
  · walk_at "rd"
    refine ⟨p, 7, rfl, q6, by decide, by decide, fun y H7 y0 y1 s7 q7 => ?_⟩
    have f7 := s7 _ _ (by simpa using npl) f6
    have s57 : SX [p, pl] H5 H7 := s6'.trans (s7.sub fun b hb => by rw [List.mem_singleton.mp hb]; exact List.mem_cons_self)
    walk_at "rd1"
    walk_at "rd1"
    walk_at "rd1"
    walk_at "rd1"
    walk_at "rd1"
    show rSetL (.ref pl) (.int ((1 : Nat) : Int)) _ _ _
    refine x_setL f7 (Nat.lt_succ_self 1) ?_
    exact join _ _ ⟨y - 3, mk (s57.trans (SX.mut (by simp))) (q7.sx (SX.mut (S := [pl]) List.mem_cons_self) (by simpa using Ne.symm npl)) upd_same (by omega) (by omega), rfl⟩
  rintro σ' B ⟨i, st, rfl⟩
  walk_at "rd"
  refine x_rng1 (by omega) (by omega) ?_
  refine for_it walk_rng (fun i σ A => ∃ (a0 : Addr) (v0 v1 : V) (c : Option V), PSt P w A p pl a0 v0 v1 (200 + i) ∧ σ = [some (.ref a), some (.ref p), some (.int m), some (.ref wd), some (.ref pl), c, none, none, none, none, none, none])
    ⟨wd, _, _, none, st, rfl⟩ (fun _ _ _ _ _ => trivial) ?_ ?_
  · rintro j z σ A0 A hj ⟨a0, v0, v1, c, st, rfl⟩ ⟨rfl, rfl⟩
    walk_at "rd"
    refine ⟨p, pl, a0, v0, v1, 200 + j, rfl, st, by omega, by omega, fun H' a0' v0' v1' st' => ?_⟩
    exact ⟨a0', v0', v1', _, st', rfl⟩
  rintro σ G0 ⟨a0, v0, v1, c5, st, rfl⟩
  obtain ⟨d0, d1, o, pt⟩ := st.pts (by omega)
  clear st
  walk_at "rd"
  refine ⟨_, _, rfl, pt.dn, pt.ok, ?_⟩
  generalize hsh : (PyData.list [d0, d1]).shown = sh
  walk_at "rd"
  refine x_mkS' ?_
  walk_at "rd"
  refine x_ixL (sqL pt.hpl) (atI_nat (j := 0) rfl) ?_
  walk_at "rd"
  refine x_ixL (sqL pt.hpl) (atI_nat (j := 1) rfl) ?_
  walk_at "rd"
  intro x dx hx hdx ndx
  have s1 : SX [] G0 (upd (upd G0 dx (.own x)) x (.ins T.a_Wish dx [])) := (SX.new hdx).trans (SX.new (by rw [upd_ne (Ne.symm ndx)]; exact hx))
  have e1 : (upd (upd G0 dx (.own x)) x (.ins T.a_Wish dx [])) x = some (.ins T.a_Wish dx []) := upd_same
  generalize upd (upd G0 dx (.own x)) x (.ins T.a_Wish dx []) = G1 at s1 e1
  have pt1 := pt.nil s1
  have sx0 : ∀ {B : Hp}, SX [x] G1 B → SX [] G0 B := fun s => sx_nil_of (S := [x]) ((nil_sx s1).trans s) (by simp [hx])
  refine ⟨x, dx, v0, v1, d0, d1, o, rfl, e1, pt1.tg, pt1.knd, pt1.es, pt1.tx, pt1.hv1, fun nb G2 s2 => ?_, fun gd aw kk wl e' ev0 hwd hk ed0 ev1 wok G2 tb s2 wi srt => ⟨rfl, ?_⟩⟩
  · refine x_tryMix (c := Value.none) T.xp_BadWish_BadWish fun ae na => ?_
    have pt2 := pt.nil (sx0 s2)
    refine ⟨_, rfl, ?_⟩
    walk_at "rd"
    refine SupX.x_isX T.p_BadWish.isc T.is_BadWish_OwnError ?_
    refine ⟨true, rfl, ?_⟩
    rw [if_pos rfl]
    walk_at "rd"
    refine SupX.x_isXT T.p_BadWish.isc T.is_BadWish_ValueError ?_
    walk_at "rd"
    dsimp only [Ends.gone, held, List.set]
    walk_at "rd"
    refine ⟨_, _, rfl, pt2.dn, pt2.ok, ?_⟩
    rw [hsh]
    walk_at "rd"
    refine x_false (by rw [decide_eq_true rfl]; rfl) ?_
    walk_at "rd"
    refine x_ixL (sqL pt2.hpl) (atI_nat (j := 0) rfl) ?_
    walk_at "rd"
    refine x_ixL (sqL pt2.hpl) (atI_nat (j := 1) rfl) ?_
    walk_at "rd"
    refine ⟨v0, v1, d0, d1, o, rfl, pt2.tg, pt2.knd, pt2.es, pt2.hv1, fun bb G3 s3 iff => ?_⟩
    obtain rfl : bb = false := by
      cases bb with
      | false => rfl
      | true => exact absurd (iff.mp rfl) nb
    refine ⟨false, rfl, ?_⟩
    walk_at "rd"
    rw [if_pos (by rw [decide_eq_false (fun z => nomatch z)]; rfl)]
    walk_at "rd"
    exact k _
  · have pt2 := pt.nil (sx0 s2)
    walk_at "rd"
    refine ⟨_, _, rfl, pt2.dn, pt2.ok, ?_⟩
    rw [hsh]
    walk_at "rd"
    refine x_false (by rw [decide_eq_true rfl]; rfl) ?_
    walk_at "rd"
    refine x_ixL (sqL pt2.hpl) (atI_nat (j := 0) rfl) ?_
    walk_at "rd"
    refine x_ixL (sqL pt2.hpl) (atI_nat (j := 1) rfl) ?_
    walk_at "rd"
    refine ⟨v0, v1, d0, d1, o, rfl, pt2.tg, pt2.knd, pt2.es, pt2.hv1, fun bb G3 s3 iff => ?_⟩
    obtain rfl : bb = true := iff.mpr gd
    refine ⟨true, rfl, ?_⟩
    have pt3 := pt2.nil s3
    have wi3 := wi.sx s3
    have nax : aw ∉ [x] := fun m => by
      rw [List.mem_singleton.mp m, e1] at hwd
      cases hwd
    have hwd3 : G3 aw = some (.dK kk) := s3 _ _ List.not_mem_nil (s2 _ _ nax hwd)
    obtain ⟨dy, dt, kvt, hx3, ht3, ht4⟩ := id wi3.ex
    subst ev0 ev1
    walk_at "rd"
    refine x_false (decide_eq_false (fun z => nomatch z)) ?_
    walk_at "rd"
    refine x_getF hx3 T.cl_Wish T.n_Wish_coming wish_coming ?_
    walk_at "rd"
    refine x_isiT (.base (.bl _)) (by decide +kernel) ?_
    walk_at "rd"
    refine x_getF hx3 T.cl_Wish T.n_Wish_endless wish_endless ?_
    walk_at "rd"
    refine x_ixL (sqL pt3.hpl) (atI_nat (j := 1) rfl) ?_
    walk_at "rd"
    refine x_false (by rw [decide_eq_true rfl]; rfl) ?_
    walk_at "rd"
    refine x_getF hx3 T.cl_Wish T.n_Wish_coming wish_coming ?_
    walk_at "rd"
    have g3 : AnyD P w G3 aw (liftK kk) := .inr ⟨kk, .inl hwd3, rfl⟩
    have kkn : (kk.map (·.1)).Nodup := by
      rw [hk.keys]
      exact wok.nd.map _ (fun a b h => by intro z; exact h (Sum.inr.inj z))
    have knd3 : ((liftK kk).map (·.1)).Nodup := (lift_keys (H := G3) kkn).nd
    have lk3 : (liftK kk).length = wl.length := by
      have : (liftK kk).length = kk.length := List.length_map _
      rw [this]
      exact Paired.length hk
    have at3 : ∀ {n : Nat} {y : NestedKey × V × V}, (liftK kk)[n]? = some y → ∃ z, wl[n]? = some z ∧ y.2.2 = .int z.2 := fun {n y} hy => by
      unfold liftK at hy
      rw [List.getElem?_map] at hy
      cases e : kk[n]? with
      | none => rw [e] at hy; cases hy
      | some q =>
        rw [e] at hy
        cases hy
        obtain ⟨z, hz, _, r⟩ := Paired.getL hk e
        exact ⟨z, hz, r⟩
    have npa : pl ≠ aw := fun z => by
      have := pt3.hpl
      rw [z, hwd3] at this
      cases this
    refine x_lockNE g3 fun od u HL eL ne leL ext gL => ?_
    have plL : HL pl = some (.lst [.ref aw, .int e']) := by rw [ne _ npa]; exact pt3.hpl
    walk_at "rd"
    refine x_iKeysN ?_
    walk_at "rd"
    refine x_ixL (sqL plL) (atI_nat (j := 0) rfl) ?_
    refine ⟨aw, od, u, _, rfl, eL, gL, fun D hD => ?_⟩
    have hDd : aw ≠ D := ne_of_none eL hD
    have wlen := wok.len
    refine lc_it walk_keysN (fun n A => SX [] HL A ∧ A D = some (.lst (((wl.take n).map fun z => decide (e' ≤ z.2)).map V.bl))) ⟨SX.new hD, upd_same⟩ (fun _ _ _ h => ⟨h.1 _ _ List.not_mem_nil eL, gL.mono (sx_ext h.1)⟩) ?_ ?_
    · rintro n z A0 A9 hn ⟨sA, dA⟩ ⟨rfl, y, hy, rfl⟩
      obtain ⟨z, hz, ez⟩ := at3 hy
      have plA := sA _ _ List.not_mem_nil plL
      walk_at "rd"
      refine ⟨rfl, ?_⟩
      walk_at "rd"
      refine x_ixL (sqL plA) (atI_nat (j := 1) rfl) ?_
      refine n_get ?_
      walk_at "rd"
      refine x_ixL (sqL plA) (atI_nat (j := 0) rfl) ?_
      walk_at "rd"
      refine ⟨aw, y.2.2, rfl, nget_at (gL.mono (sx_ext sA)) knd3 hy, ?_⟩
      rw [ez]
      walk_at "rd"
      refine ⟨_, dA, lt_size (by rw [List.length_map, List.length_map, List.length_take]; omega), sx_nil_of (S := [D]) ((nil_sx sA).trans (SX.mut List.mem_cons_self)) (by simp [hD]), ?_⟩
      rw [upd_same, take_succ_of hz, List.map_append, List.map_append]
      rfl
    rintro A ⟨sA, dA⟩
    rw [lk3, List.take_length] at dA
    refine ⟨sA _ _ List.not_mem_nil eL, ?_⟩
    have s4 := unlock_sx ne sA
    have dB : (put A aw (G3 aw)) D = some (.lst ((wl.map fun z => decide (e' ≤ z.2)).map V.bl)) := by rw [put_ne (Ne.symm hDd)]; exact dA
    generalize put A aw (G3 aw) = G4 at s4 dB
    have pt4 := pt3.nil s4
    have wi4 := wi3.sx s4
    have hwd4 := s4 _ _ List.not_mem_nil hwd3
    clear sA dA eL ne leL ext gL plL hDd hD
    walk_at "rd"
    refine ⟨D, _, rfl, sqL dB, ?_⟩
    rw [flagsB]
    walk_at "rd"
    refine x_false (by rw [decide_eq_true rfl]; rfl) ?_
    walk_at "rd"
    refine x_prop ?_
    walk_at "rd"
    have tnd : (tb.map (·.1)).Nodup := (srt.perm.map _).nodup_iff.mpr wok.nd
    have tlen : tb.length = wl.length := srt.perm.length_eq
    obtain ⟨dy4, dt4, kvt4, hx4, _, _⟩ := id wi4.ex
    refine ⟨x, _, _, rfl, hx4, x, tb, e', _, rfl, wi4, tnd, by omega, fun fd G5 kf hfd s5 efd kfk => ?_⟩
    have pt5 := pt4.nil s5
    have wi5 := wi4.sx s5
    have hwd5 := s5 _ _ List.not_mem_nil hwd4
    walk_at "rd"
    refine x_isiT (ty_dict (.inl efd)) (by decide +kernel) ?_
    walk_at "rd"
    refine x_ixL (sqL pt5.hpl) (atI_nat (j := 0) rfl) ?_
    have lkT : ∀ z ∈ tb, lookA wl z.1 = some z.2 := fun z hz => lookA_nodup wok.nd (srt.perm.mem_iff.mp hz)
    refine .inr ⟨fd, aw, kf, kk, rfl, rfl, dk_same efd hwd5 kfk (kvI hk) tlen lkT, ?_⟩
    walk_at "rd"
    refine ⟨fd, _, rfl, DPut.k (k := Sum.inr "another") efd (lt_size (by have := Paired.length kfk; omega)), ?_⟩
    have s6 : SX [] G4 (upd G5 fd (.dK (putK kf (Sum.inr "another") (.int 3)))) := sx_upd s5 hfd
    generalize upd G5 fd (.dK (putK kf (Sum.inr "another") (.int 3))) = G6 at s6
    have pt6 := pt4.nil s6
    have wi6 := wi4.sx s6
    have hwd6 := s6 _ _ List.not_mem_nil hwd4
    obtain ⟨dy6, dt6, kvt6, hx6, _, _⟩ := id wi6.ex
    walk_at "rd"
    refine x_prop ?_
    walk_at "rd"
    refine ⟨x, _, _, rfl, hx6, x, tb, e', _, rfl, wi6, tnd, by omega, fun fd2 G7 kf2 hfd2 s7 efd2 kfk2 => ?_⟩
    have pt7 := pt6.nil s7
    walk_at "rd"
    refine x_ixL (sqL pt7.hpl) (atI_nat (j := 0) rfl) ?_
    refine .inr ⟨fd2, aw, kf2, kk, rfl, rfl, dk_same efd2 (s7 _ _ List.not_mem_nil hwd6) kfk2 (kvI hk) tlen lkT, ?_⟩
    exact k _
end
end M

namespace M
open PySem L2
def spLaw (K : PySem.W.Frag) : Sp := fun vs H Q _ => ∃ (a : Addr) (ns : List Int), vs = [.ref a] ∧ SqL K H a (ns.map V.int) ∧ ns.length ≤ 10000 ∧ ∀ H', Q (.bl true) H'
theorem all_mk {l : PySem.W.OpenLaw} [SupX.PX l.prog] {w : World} {K : PySem.W.Frag} {h : Heap} {mg : Str → Option Value} {fa : Addr} (X : K.In h) (G : h.Ns mainGlobals mg) (hfa : mg "law" = some (.ref fa))
    {f_is_integer f_is_name f_is_value f_are_worths f_Wish_init f_Wish_worths f_law_pool f_law_draw f_law_word f_law_words f_law_endless f_law_is_int f_law_thing f_law_is_name f_law_key f_law_is_value f_law_is_good f_law_drawn_worths f_law_spoil_wish f_law q_Wish : Addr}
    {od_is_integer an_is_integer od_is_name an_is_name od_is_value an_is_value od_are_worths an_are_worths od_Wish_init an_Wish_init od_Wish_worths an_Wish_worths od_law_pool an_law_pool od_law_draw an_law_draw od_law_word an_law_word od_law_words an_law_words od_law_endless an_law_endless od_law_is_int an_law_is_int od_law_thing an_law_thing od_law_is_name an_law_is_name od_law_key an_law_key od_law_is_value an_law_is_value od_law_is_good an_law_is_good od_law_drawn_worths an_law_drawn_worths od_law_spoil_wish an_law_spoil_wish od_law an_law : Option Addr} {sl_is_integer sl_is_name sl_is_value sl_are_worths sl_Wish_init sl_Wish_worths sl_law_pool sl_law_draw sl_law_word sl_law_words sl_law_endless sl_law_is_int sl_law_thing sl_law_is_name sl_law_key sl_law_is_value sl_law_is_good sl_law_drawn_worths sl_law_spoil_wish sl_law : Array (Option Value)}
    {oc_is_integer kV_is_integer dc_is_integer pm_is_integer cd_is_integer ct_is_integer oc_is_name kV_is_name dc_is_name pm_is_name cd_is_name ct_is_name oc_is_value kV_is_value dc_is_value pm_is_value cd_is_value ct_is_value oc_are_worths kV_are_worths dc_are_worths pm_are_worths cd_are_worths ct_are_worths oc_Wish_init kV_Wish_init dc_Wish_init pm_Wish_init cd_Wish_init ct_Wish_init oc_Wish_worths kV_Wish_worths dc_Wish_worths pm_Wish_worths cd_Wish_worths ct_Wish_worths oc_law_pool kV_law_pool dc_law_pool pm_law_pool cd_law_pool ct_law_pool oc_law_draw kV_law_draw dc_law_draw pm_law_draw cd_law_draw ct_law_draw oc_law_word kV_law_word dc_law_word pm_law_word cd_law_word ct_law_word oc_law_words kV_law_words dc_law_words pm_law_words cd_law_words ct_law_words oc_law_endless kV_law_endless dc_law_endless pm_law_endless cd_law_endless ct_law_endless oc_law_is_int kV_law_is_int dc_law_is_int pm_law_is_int cd_law_is_int ct_law_is_int oc_law_thing kV_law_thing dc_law_thing pm_law_thing cd_law_thing ct_law_thing oc_law_is_name kV_law_is_name dc_law_is_name pm_law_is_name cd_law_is_name ct_law_is_name oc_law_key kV_law_key dc_law_key pm_law_key cd_law_key ct_law_key oc_law_is_value kV_law_is_value dc_law_is_value pm_law_is_value cd_law_is_value ct_law_is_value oc_law_is_good kV_law_is_good dc_law_is_good pm_law_is_good cd_law_is_good ct_law_is_good oc_law_drawn_worths kV_law_drawn_worths dc_law_drawn_worths pm_law_drawn_worths cd_law_drawn_worths ct_law_drawn_worths oc_law_spoil_wish kV_law_spoil_wish dc_law_spoil_wish pm_law_spoil_wish cd_law_spoil_wish ct_law_spoil_wish oc_law kV_law dc_law pm_law cd_law ct_law : Value}
    {p_Wish_worths : Addr} {r_Wish_worths : List Value}
    (a_Wish : PySem.W.nsIn K mainGlobals "Wish" = some (some (.ref q_Wish)))
    (a_is_integer : PySem.W.nsIn K mainGlobals "is_integer" = some (some (.ref f_is_integer)))
    (l_is_integer : K.lookup f_is_integer = some ⟨oc_is_integer, od_is_integer, .func (PySem.W.fnOf "is_integer" "is_integer" (defArgs s_is_integer) (defBody s_is_integer) (defScope s_is_integer) .none kV_is_integer dc_is_integer pm_is_integer an_is_integer cd_is_integer ct_is_integer), sl_is_integer⟩) (c_is_integer : PySem.W.codeIn K cd_is_integer "is_integer" = true) (k_is_integer : PySem.W.keepIn K (.ref f_is_integer) = true)
    (a_is_name : PySem.W.nsIn K mainGlobals "is_name" = some (some (.ref f_is_name)))
    (l_is_name : K.lookup f_is_name = some ⟨oc_is_name, od_is_name, .func (PySem.W.fnOf "is_name" "is_name" (defArgs s_is_name) (defBody s_is_name) (defScope s_is_name) .none kV_is_name dc_is_name pm_is_name an_is_name cd_is_name ct_is_name), sl_is_name⟩) (c_is_name : PySem.W.codeIn K cd_is_name "is_name" = true) (k_is_name : PySem.W.keepIn K (.ref f_is_name) = true)
    (a_is_value : PySem.W.nsIn K mainGlobals "is_value" = some (some (.ref f_is_value)))
    (l_is_value : K.lookup f_is_value = some ⟨oc_is_value, od_is_value, .func (PySem.W.fnOf "is_value" "is_value" (defArgs s_is_value) (defBody s_is_value) (defScope s_is_value) .none kV_is_value dc_is_value pm_is_value an_is_value cd_is_value ct_is_value), sl_is_value⟩) (c_is_value : PySem.W.codeIn K cd_is_value "is_value" = true) (k_is_value : PySem.W.keepIn K (.ref f_is_value) = true)
    (a_are_worths : PySem.W.nsIn K mainGlobals "are_worths" = some (some (.ref f_are_worths)))
    (l_are_worths : K.lookup f_are_worths = some ⟨oc_are_worths, od_are_worths, .func (PySem.W.fnOf "are_worths" "are_worths" (defArgs s_are_worths) (defBody s_are_worths) (defScope s_are_worths) .none kV_are_worths dc_are_worths pm_are_worths an_are_worths cd_are_worths ct_are_worths), sl_are_worths⟩) (c_are_worths : PySem.W.codeIn K cd_are_worths "are_worths" = true) (k_are_worths : PySem.W.keepIn K (.ref f_are_worths) = true)
    (a_Wish_init : PySem.W.findIn K (.ref q_Wish) "__init__" = some (some (.ref f_Wish_init))) (i_Wish_init : PySem.W.isFn K (.ref f_Wish_init) = true)
    (l_Wish_init : K.lookup f_Wish_init = some ⟨oc_Wish_init, od_Wish_init, .func (PySem.W.fnOf "__init__" "Wish.__init__" (defArgs s_Wish_init) (defBody s_Wish_init) (defScope s_Wish_init) .none kV_Wish_init dc_Wish_init pm_Wish_init an_Wish_init cd_Wish_init ct_Wish_init), sl_Wish_init⟩) (c_Wish_init : PySem.W.codeIn K cd_Wish_init "Wish.__init__" = true) (k_Wish_init : PySem.W.keepIn K (.ref f_Wish_init) = true)
    (a_Wish_worths : PySem.W.findIn K (.ref q_Wish) "worths" = some (some (.ref p_Wish_worths))) (g_Wish_worths : PySem.W.specialIn K (.ref p_Wish_worths) "__get__" = some (some (.builtin "property.__get__"))) (t_Wish_worths : PySem.W.takesIn K (.ref p_Wish_worths) = some true) (rc_Wish_worths : PySem.W.recIn K p_Wish_worths "property" = some (.ref f_Wish_worths :: r_Wish_worths))
    (l_Wish_worths : K.lookup f_Wish_worths = some ⟨oc_Wish_worths, od_Wish_worths, .func (PySem.W.fnOf "worths" "Wish.worths" (defArgs s_Wish_worths) (defBody s_Wish_worths) (defScope s_Wish_worths) .none kV_Wish_worths dc_Wish_worths pm_Wish_worths an_Wish_worths cd_Wish_worths ct_Wish_worths), sl_Wish_worths⟩) (c_Wish_worths : PySem.W.codeIn K cd_Wish_worths "Wish.worths" = true) (k_Wish_worths : PySem.W.keepIn K (.ref f_Wish_worths) = true)
    (a_law_pool : PySem.W.nsIn K mainGlobals "_law_pool" = some (some (.ref f_law_pool)))
    (l_law_pool : K.lookup f_law_pool = some ⟨oc_law_pool, od_law_pool, .func (PySem.W.fnOf "_law_pool" "_law_pool" (defArgs s_law_pool) (defBody s_law_pool) (defScope s_law_pool) .none kV_law_pool dc_law_pool pm_law_pool an_law_pool cd_law_pool ct_law_pool), sl_law_pool⟩) (c_law_pool : PySem.W.codeIn K cd_law_pool "_law_pool" = true) (k_law_pool : PySem.W.keepIn K (.ref f_law_pool) = true)
    (a_law_draw : PySem.W.nsIn K mainGlobals "_law_draw" = some (some (.ref f_law_draw)))
    (l_law_draw : K.lookup f_law_draw = some ⟨oc_law_draw, od_law_draw, .func (PySem.W.fnOf "_law_draw" "_law_draw" (defArgs s_law_draw) (defBody s_law_draw) (defScope s_law_draw) .none kV_law_draw dc_law_draw pm_law_draw an_law_draw cd_law_draw ct_law_draw), sl_law_draw⟩) (c_law_draw : PySem.W.codeIn K cd_law_draw "_law_draw" = true) (k_law_draw : PySem.W.keepIn K (.ref f_law_draw) = true)
    (a_law_word : PySem.W.nsIn K mainGlobals "_law_word" = some (some (.ref f_law_word)))
    (l_law_word : K.lookup f_law_word = some ⟨oc_law_word, od_law_word, .func (PySem.W.fnOf "_law_word" "_law_word" (defArgs s_law_word) (defBody s_law_word) (defScope s_law_word) .none kV_law_word dc_law_word pm_law_word an_law_word cd_law_word ct_law_word), sl_law_word⟩) (c_law_word : PySem.W.codeIn K cd_law_word "_law_word" = true) (k_law_word : PySem.W.keepIn K (.ref f_law_word) = true)
    (a_law_words : PySem.W.nsIn K mainGlobals "_law_words" = some (some (.ref f_law_words)))
    (l_law_words : K.lookup f_law_words = some ⟨oc_law_words, od_law_words, .func (PySem.W.fnOf "_law_words" "_law_words" (defArgs s_law_words) (defBody s_law_words) (defScope s_law_words) .none kV_law_words dc_law_words pm_law_words an_law_words cd_law_words ct_law_words), sl_law_words⟩) (c_law_words : PySem.W.codeIn K cd_law_words "_law_words" = true) (k_law_words : PySem.W.keepIn K (.ref f_law_words) = true)
    (a_law_endless : PySem.W.nsIn K mainGlobals "_law_endless" = some (some (.ref f_law_endless)))
    (l_law_endless : K.lookup f_law_endless = some ⟨oc_law_endless, od_law_endless, .func (PySem.W.fnOf "_law_endless" "_law_endless" (defArgs s_law_endless) (defBody s_law_endless) (defScope s_law_endless) .none kV_law_endless dc_law_endless pm_law_endless an_law_endless cd_law_endless ct_law_endless), sl_law_endless⟩) (c_law_endless : PySem.W.codeIn K cd_law_endless "_law_endless" = true) (k_law_endless : PySem.W.keepIn K (.ref f_law_endless) = true)
    (a_law_is_int : PySem.W.nsIn K mainGlobals "_law_is_int" = some (some (.ref f_law_is_int)))
    (l_law_is_int : K.lookup f_law_is_int = some ⟨oc_law_is_int, od_law_is_int, .func (PySem.W.fnOf "_law_is_int" "_law_is_int" (defArgs s_law_is_int) (defBody s_law_is_int) (defScope s_law_is_int) .none kV_law_is_int dc_law_is_int pm_law_is_int an_law_is_int cd_law_is_int ct_law_is_int), sl_law_is_int⟩) (c_law_is_int : PySem.W.codeIn K cd_law_is_int "_law_is_int" = true) (k_law_is_int : PySem.W.keepIn K (.ref f_law_is_int) = true)
    (a_law_thing : PySem.W.nsIn K mainGlobals "_law_thing" = some (some (.ref f_law_thing)))
    (l_law_thing : K.lookup f_law_thing = some ⟨oc_law_thing, od_law_thing, .func (PySem.W.fnOf "_law_thing" "_law_thing" (defArgs s_law_thing) (defBody s_law_thing) (defScope s_law_thing) .none kV_law_thing dc_law_thing pm_law_thing an_law_thing cd_law_thing ct_law_thing), sl_law_thing⟩) (c_law_thing : PySem.W.codeIn K cd_law_thing "_law_thing" = true) (k_law_thing : PySem.W.keepIn K (.ref f_law_thing) = true)
    (a_law_is_name : PySem.W.nsIn K mainGlobals "_law_is_name" = some (some (.ref f_law_is_name)))
    (l_law_is_name : K.lookup f_law_is_name = some ⟨oc_law_is_name, od_law_is_name, .func (PySem.W.fnOf "_law_is_name" "_law_is_name" (defArgs s_law_is_name) (defBody s_law_is_name) (defScope s_law_is_name) .none kV_law_is_name dc_law_is_name pm_law_is_name an_law_is_name cd_law_is_name ct_law_is_name), sl_law_is_name⟩) (c_law_is_name : PySem.W.codeIn K cd_law_is_name "_law_is_name" = true) (k_law_is_name : PySem.W.keepIn K (.ref f_law_is_name) = true)
    (a_law_key : PySem.W.nsIn K mainGlobals "_law_key" = some (some (.ref f_law_key)))
    (l_law_key : K.lookup f_law_key = some ⟨oc_law_key, od_law_key, .func (PySem.W.fnOf "_law_key" "_law_key" (defArgs s_law_key) (defBody s_law_key) (defScope s_law_key) .none kV_law_key dc_law_key pm_law_key an_law_key cd_law_key ct_law_key), sl_law_key⟩) (c_law_key : PySem.W.codeIn K cd_law_key "_law_key" = true) (k_law_key : PySem.W.keepIn K (.ref f_law_key) = true)
    (a_law_is_value : PySem.W.nsIn K mainGlobals "_law_is_value" = some (some (.ref f_law_is_value)))
    (l_law_is_value : K.lookup f_law_is_value = some ⟨oc_law_is_value, od_law_is_value, .func (PySem.W.fnOf "_law_is_value" "_law_is_value" (defArgs s_law_is_value) (defBody s_law_is_value) (defScope s_law_is_value) .none kV_law_is_value dc_law_is_value pm_law_is_value an_law_is_value cd_law_is_value ct_law_is_value), sl_law_is_value⟩) (c_law_is_value : PySem.W.codeIn K cd_law_is_value "_law_is_value" = true) (k_law_is_value : PySem.W.keepIn K (.ref f_law_is_value) = true)
    (a_law_is_good : PySem.W.nsIn K mainGlobals "_law_is_good" = some (some (.ref f_law_is_good)))
    (l_law_is_good : K.lookup f_law_is_good = some ⟨oc_law_is_good, od_law_is_good, .func (PySem.W.fnOf "_law_is_good" "_law_is_good" (defArgs s_law_is_good) (defBody s_law_is_good) (defScope s_law_is_good) .none kV_law_is_good dc_law_is_good pm_law_is_good an_law_is_good cd_law_is_good ct_law_is_good), sl_law_is_good⟩) (c_law_is_good : PySem.W.codeIn K cd_law_is_good "_law_is_good" = true) (k_law_is_good : PySem.W.keepIn K (.ref f_law_is_good) = true)
    (a_law_drawn_worths : PySem.W.nsIn K mainGlobals "_law_drawn_worths" = some (some (.ref f_law_drawn_worths)))
    (l_law_drawn_worths : K.lookup f_law_drawn_worths = some ⟨oc_law_drawn_worths, od_law_drawn_worths, .func (PySem.W.fnOf "_law_drawn_worths" "_law_drawn_worths" (defArgs s_law_drawn_worths) (defBody s_law_drawn_worths) (defScope s_law_drawn_worths) .none kV_law_drawn_worths dc_law_drawn_worths pm_law_drawn_worths an_law_drawn_worths cd_law_drawn_worths ct_law_drawn_worths), sl_law_drawn_worths⟩) (c_law_drawn_worths : PySem.W.codeIn K cd_law_drawn_worths "_law_drawn_worths" = true) (k_law_drawn_worths : PySem.W.keepIn K (.ref f_law_drawn_worths) = true)
    (a_law_spoil_wish : PySem.W.nsIn K mainGlobals "_law_spoil_wish" = some (some (.ref f_law_spoil_wish)))
    (l_law_spoil_wish : K.lookup f_law_spoil_wish = some ⟨oc_law_spoil_wish, od_law_spoil_wish, .func (PySem.W.fnOf "_law_spoil_wish" "_law_spoil_wish" (defArgs s_law_spoil_wish) (defBody s_law_spoil_wish) (defScope s_law_spoil_wish) .none kV_law_spoil_wish dc_law_spoil_wish pm_law_spoil_wish an_law_spoil_wish cd_law_spoil_wish ct_law_spoil_wish), sl_law_spoil_wish⟩) (c_law_spoil_wish : PySem.W.codeIn K cd_law_spoil_wish "_law_spoil_wish" = true) (k_law_spoil_wish : PySem.W.keepIn K (.ref f_law_spoil_wish) = true)
    (a_law : PySem.W.nsIn K mainGlobals "law" = some (some (.ref f_law)))
    (l_law : K.lookup f_law = some ⟨oc_law, od_law, .func (PySem.W.fnOf "law" "law" (defArgs s_law) (defBody s_law) (defScope s_law) .none kV_law dc_law pm_law an_law cd_law ct_law), sl_law⟩) (c_law : PySem.W.codeIn K cd_law "law" = true) (k_law : PySem.W.keepIn K (.ref f_law) = true)
    (pg_Wish : PySem.W.plainGet K q_Wish Str.empty = true) (hd_Wish : PySem.W.hasDictIn K q_Wish = true) (po_Wish : PySem.W.plainOver K q_Wish = true) (sa_Wish : PySem.W.findIn K (.ref q_Wish) "__setattr__" = some (some (.builtin "object.__setattr__"))) (mk_Wish : PySem.W.makesIn K q_Wish = true) (kc_Wish : PySem.W.keepIn K (.ref q_Wish) = true)
    (n_Wish_table : PySem.W.findIn K (.ref q_Wish) "table" = some none)
    (n_Wish_endless : PySem.W.findIn K (.ref q_Wish) "endless" = some none)
    (n_Wish_coming : PySem.W.findIn K (.ref q_Wish) "coming" = some none)
    (z_ValueError : PySem.W.nsIn K mainGlobals "ValueError" = some none)
    (z_all : PySem.W.nsIn K mainGlobals "all" = some none)
    (z_bool : PySem.W.nsIn K mainGlobals "bool" = some none)
    (z_dict : PySem.W.nsIn K mainGlobals "dict" = some none)
    (z_int : PySem.W.nsIn K mainGlobals "int" = some none)
    (z_isinstance : PySem.W.nsIn K mainGlobals "isinstance" = some none)
    (z_len : PySem.W.nsIn K mainGlobals "len" = some none)
    (z_list : PySem.W.nsIn K mainGlobals "list" = some none)
    (z_max : PySem.W.nsIn K mainGlobals "max" = some none)
    (z_min : PySem.W.nsIn K mainGlobals "min" = some none)
    (z_range : PySem.W.nsIn K mainGlobals "range" = some none)
    (z_repr : PySem.W.nsIn K mainGlobals "repr" = some none)
    (z_sorted : PySem.W.nsIn K mainGlobals "sorted" = some none)
    (z_str : PySem.W.nsIn K mainGlobals "str" = some none)
    {q_OwnError : Addr}
    (xa_OwnError : PySem.W.nsIn K mainGlobals "OwnError" = some (some (.ref q_OwnError))) (xy_OwnError : PySem.W.typeIn K (.ref q_OwnError) = some (.type "type")) (xc_OwnError : PySem.W.isClsIn K q_OwnError = true)
    (z_clget : PySem.W.specialIn K (.builtin "object.__class__") "__get__" = some (some (.builtin "getset_descriptor.__get__"))) (z_cltk : PySem.W.takesIn K (.builtin "object.__class__") = some true)
    {q_BadWish : Addr} (xa_BadWish : PySem.W.nsIn K mainGlobals "BadWish" = some (some (.ref q_BadWish))) (xx_BadWish : PySem.W.excIn K q_BadWish SupX.bmVE "ValueError.__new__" = true) (xk_BadWish : PySem.W.keepIn K (.ref q_BadWish) = true) (xb_BadWish : PySem.W.subIn K (.ref q_BadWish) (.type "BaseException") = some true) (xy_BadWish : PySem.W.typeIn K (.ref q_BadWish) = some (.type "type")) (xc_BadWish : PySem.W.isClsIn K q_BadWish = true) (xg_BadWish : PySem.W.findIn K (.ref q_BadWish) "__getattribute__" = some (some (.builtin "BaseException.__getattribute__"))) (xh_BadWish : PySem.W.findIn K (.ref q_BadWish) "__getattr__" = some none) (xd_BadWish : PySem.W.hasDictIn K q_BadWish = true) (xe_BadWish : PySem.W.findIn K (.ref q_BadWish) "__class__" = some (some (.builtin "object.__class__"))) (xm_BadWish : PySem.W.mroIn K q_BadWish (.type "object") = some true)
    (is_BadWish_OwnError : PySem.W.subIn K (.ref q_BadWish) (.ref q_OwnError) = some true)
    (is_BadWish_ValueError : PySem.W.subIn K (.ref q_BadWish) (.type "ValueError") = some true)
    (pr_BadWish_BadWish : PySem.W.subIn K (.ref q_BadWish) (.ref q_BadWish) = some true)
    : ∃ fd : FuncData, (∀ (s : Shared) (v : Value), BindsTo s fd ⟨[v], []⟩ [("script", v)]) ∧ ∀ base : Heap, K.In base → base.Ns mainGlobals mg → ReR.SysIs base → ReR.FnG l.prog w K mg base CX0 6 fa fd ["script"] (spLaw K) := by
  have e := hfa.symm.trans (PySem.W.mg_of X G a_law)
  cases e
  have F_is_integer := fun_mk (st := s_is_integer) l_is_integer c_is_integer k_is_integer
  have b_is_integer := F_is_integer.binds (ps := P_is_integer) fun _ _ _ _ _ _ us hl => match us, hl with | [_], _ => rfl
  have F_is_name := fun_mk (st := s_is_name) l_is_name c_is_name k_is_name
  have b_is_name := F_is_name.binds (ps := P_is_name) fun _ _ _ _ _ _ us hl => match us, hl with | [_], _ => rfl
  have F_is_value := fun_mk (st := s_is_value) l_is_value c_is_value k_is_value
  have b_is_value := F_is_value.binds (ps := P_is_value) fun _ _ _ _ _ _ us hl => match us, hl with | [_], _ => rfl
  have F_are_worths := fun_mk (st := s_are_worths) l_are_worths c_are_worths k_are_worths
  have b_are_worths := F_are_worths.binds (ps := P_are_worths) fun _ _ _ _ _ _ us hl => match us, hl with | [_], _ => rfl
  have F_Wish_init := fun_mk (st := s_Wish_init) l_Wish_init c_Wish_init k_Wish_init
  have b_Wish_init := F_Wish_init.binds (ps := P_Wish_init) fun _ _ _ _ _ _ us hl => match us, hl with | [_, _, _], _ => rfl
  have F_Wish_worths := fun_mk (st := s_Wish_worths) l_Wish_worths c_Wish_worths k_Wish_worths
  have b_Wish_worths := F_Wish_worths.binds (ps := P_Wish_worths) fun _ _ _ _ _ _ us hl => match us, hl with | [_], _ => rfl
  have F_law_pool := fun_mk (st := s_law_pool) l_law_pool c_law_pool k_law_pool
  have b_law_pool := F_law_pool.binds (ps := P_law_pool) fun _ _ _ _ _ _ us hl => match us, hl with | [_], _ => rfl
  have F_law_draw := fun_mk (st := s_law_draw) l_law_draw c_law_draw k_law_draw
  have b_law_draw := F_law_draw.binds (ps := P_law_draw) fun _ _ _ _ _ _ us hl => match us, hl with | [_, _], _ => rfl
  have F_law_word := fun_mk (st := s_law_word) l_law_word c_law_word k_law_word
  have b_law_word := F_law_word.binds (ps := P_law_word) fun _ _ _ _ _ _ us hl => match us, hl with | [_, _], _ => rfl
  have F_law_words := fun_mk (st := s_law_words) l_law_words c_law_words k_law_words
  have b_law_words := F_law_words.binds (ps := P_law_words) fun _ _ _ _ _ _ us hl => match us, hl with | [_, _], _ => rfl
  have F_law_endless := fun_mk (st := s_law_endless) l_law_endless c_law_endless k_law_endless
  have b_law_endless := F_law_endless.binds (ps := P_law_endless) fun _ _ _ _ _ _ us hl => match us, hl with | [_, _], _ => rfl
  have F_law_is_int := fun_mk (st := s_law_is_int) l_law_is_int c_law_is_int k_law_is_int
  have b_law_is_int := F_law_is_int.binds (ps := P_law_is_int) fun _ _ _ _ _ _ us hl => match us, hl with | [_], _ => rfl
  have F_law_thing := fun_mk (st := s_law_thing) l_law_thing c_law_thing k_law_thing
  have b_law_thing := F_law_thing.binds (ps := P_law_thing) fun _ _ _ _ _ _ us hl => match us, hl with | [_], _ => rfl
  have F_law_is_name := fun_mk (st := s_law_is_name) l_law_is_name c_law_is_name k_law_is_name
  have b_law_is_name := F_law_is_name.binds (ps := P_law_is_name) fun _ _ _ _ _ _ us hl => match us, hl with | [_], _ => rfl
  have F_law_key := fun_mk (st := s_law_key) l_law_key c_law_key k_law_key
  have b_law_key := F_law_key.binds (ps := P_law_key) fun _ _ _ _ _ _ us hl => match us, hl with | [_], _ => rfl
  have F_law_is_value := fun_mk (st := s_law_is_value) l_law_is_value c_law_is_value k_law_is_value
  have b_law_is_value := F_law_is_value.binds (ps := P_law_is_value) fun _ _ _ _ _ _ us hl => match us, hl with | [_], _ => rfl
  have F_law_is_good := fun_mk (st := s_law_is_good) l_law_is_good c_law_is_good k_law_is_good
  have b_law_is_good := F_law_is_good.binds (ps := P_law_is_good) fun _ _ _ _ _ _ us hl => match us, hl with | [_, _], _ => rfl
  have F_law_drawn_worths := fun_mk (st := s_law_drawn_worths) l_law_drawn_worths c_law_drawn_worths k_law_drawn_worths
  have b_law_drawn_worths := F_law_drawn_worths.binds (ps := P_law_drawn_worths) fun _ _ _ _ _ _ us hl => match us, hl with | [_], _ => rfl
  have F_law_spoil_wish := fun_mk (st := s_law_spoil_wish) l_law_spoil_wish c_law_spoil_wish k_law_spoil_wish
  have b_law_spoil_wish := F_law_spoil_wish.binds (ps := P_law_spoil_wish) fun _ _ _ _ _ _ us hl => match us, hl with | [_, _], _ => rfl
  have F_law := fun_mk (st := s_law) l_law c_law k_law
  have b_law := F_law.binds (ps := P_law) fun _ _ _ _ _ _ us hl => match us, hl with | [_], _ => rfl
  let T : Tx K mg := {
    is_integer := ⟨f_is_integer, _, F_is_integer, PySem.W.mg_of X G a_is_integer, b_is_integer⟩
    is_name := ⟨f_is_name, _, F_is_name, PySem.W.mg_of X G a_is_name, b_is_name⟩
    is_value := ⟨f_is_value, _, F_is_value, PySem.W.mg_of X G a_is_value, b_is_value⟩
    are_worths := ⟨f_are_worths, _, F_are_worths, PySem.W.mg_of X G a_are_worths, b_are_worths⟩
    Wish_init := ⟨f_Wish_init, _, F_Wish_init, b_Wish_init⟩
    Wish_worths := ⟨f_Wish_worths, _, F_Wish_worths, b_Wish_worths⟩
    law_pool := ⟨f_law_pool, _, F_law_pool, PySem.W.mg_of X G a_law_pool, b_law_pool⟩
    law_draw := ⟨f_law_draw, _, F_law_draw, PySem.W.mg_of X G a_law_draw, b_law_draw⟩
    law_word := ⟨f_law_word, _, F_law_word, PySem.W.mg_of X G a_law_word, b_law_word⟩
    law_words := ⟨f_law_words, _, F_law_words, PySem.W.mg_of X G a_law_words, b_law_words⟩
    law_endless := ⟨f_law_endless, _, F_law_endless, PySem.W.mg_of X G a_law_endless, b_law_endless⟩
    law_is_int := ⟨f_law_is_int, _, F_law_is_int, PySem.W.mg_of X G a_law_is_int, b_law_is_int⟩
    law_thing := ⟨f_law_thing, _, F_law_thing, PySem.W.mg_of X G a_law_thing, b_law_thing⟩
    law_is_name := ⟨f_law_is_name, _, F_law_is_name, PySem.W.mg_of X G a_law_is_name, b_law_is_name⟩
    law_key := ⟨f_law_key, _, F_law_key, PySem.W.mg_of X G a_law_key, b_law_key⟩
    law_is_value := ⟨f_law_is_value, _, F_law_is_value, PySem.W.mg_of X G a_law_is_value, b_law_is_value⟩
    law_is_good := ⟨f_law_is_good, _, F_law_is_good, PySem.W.mg_of X G a_law_is_good, b_law_is_good⟩
    law_drawn_worths := ⟨f_law_drawn_worths, _, F_law_drawn_worths, PySem.W.mg_of X G a_law_drawn_worths, b_law_drawn_worths⟩
    law_spoil_wish := ⟨f_law_spoil_wish, _, F_law_spoil_wish, PySem.W.mg_of X G a_law_spoil_wish, b_law_spoil_wish⟩
    law := ⟨fa, _, F_law, PySem.W.mg_of X G a_law, b_law⟩
    b_ValueError := PySem.W.mg_none_of X G z_ValueError
    b_all := PySem.W.mg_none_of X G z_all
    b_bool := PySem.W.mg_none_of X G z_bool
    b_dict := PySem.W.mg_none_of X G z_dict
    b_int := PySem.W.mg_none_of X G z_int
    b_isinstance := PySem.W.mg_none_of X G z_isinstance
    b_len := PySem.W.mg_none_of X G z_len
    b_list := PySem.W.mg_none_of X G z_list
    b_max := PySem.W.mg_none_of X G z_max
    b_min := PySem.W.mg_none_of X G z_min
    b_range := PySem.W.mg_none_of X G z_range
    b_repr := PySem.W.mg_none_of X G z_repr
    b_sorted := PySem.W.mg_none_of X G z_sorted
    b_str := PySem.W.mg_none_of X G z_str
    a_Wish := q_Wish
    g_Wish := PySem.W.mg_of X G a_Wish
    cl_Wish := ⟨pg_Wish, hd_Wish, po_Wish, sa_Wish⟩
    m_Wish := ⟨mk_Wish, a_Wish_init, i_Wish_init, kc_Wish⟩
    n_Wish_table := n_Wish_table
    n_Wish_endless := n_Wish_endless
    n_Wish_coming := n_Wish_coming
    p_Wish_worths := p_Wish_worths
    pr_Wish_worths := ⟨a_Wish_worths, g_Wish_worths, t_Wish_worths, r_Wish_worths, rc_Wish_worths⟩
    c_BadWish := q_BadWish
    g_BadWish := PySem.W.mg_of X G xa_BadWish
    p_BadWish := ⟨xx_BadWish, xk_BadWish, xb_BadWish, xy_BadWish, ⟨xg_BadWish, xh_BadWish, xb_BadWish, xd_BadWish, xe_BadWish, z_clget, z_cltk, xm_BadWish⟩⟩
    c_OwnError := q_OwnError
    g_OwnError := PySem.W.mg_of X G xa_OwnError
    is_BadWish_OwnError := SupX.kit_own xc_OwnError xy_OwnError is_BadWish_OwnError
    is_BadWish_ValueError := SupX.kit_VE is_BadWish_ValueError
    xp_BadWish_BadWish := exm_pair xb_BadWish xc_BadWish xy_BadWish pr_BadWish_BadWish
  }
  exact ⟨PySem.W.fnOf "law" "law" (defArgs s_law) (defBody s_law) (defScope s_law) .none kV_law dc_law pm_law an_law cd_law ct_law, fun s v => .of_eq rfl, fun base _ _ hsy => ok_law T hsy⟩
theorem walk {l : PySem.W.OpenLaw} {q : Program} {loose : List Str} {XP : (Str → Option Value) → Heap → Prop} {YP : World → Heap → Prop} {d : DefRec} {K : Params → PySem.W.Frag} (hn : l.most = some 63) (hdf : d.params.defaults = []) (him : PyProof.Rows.importsNone q = true)
    (hY : ∀ (w : World) (h : Heap), YP w h → (K w.params).In h)
    (F : ∀ (w : World) (mg : Str → Option Value) (fa : Addr) (h : Heap), (K w.params).In h → h.Ns mainGlobals mg → mg d.name = some (.ref fa) →
      ∃ fd : FuncData, (∀ (s : Shared) (u : Value), BindsTo s fd ⟨[u], []⟩ [("script", u)]) ∧ ∀ base : Heap, (K w.params).In base → base.Ns mainGlobals mg → ReR.SysIs base → ReR.FnG l.prog w (K w.params) mg base CX0 6 fa fd ["script"] (spLaw (K w.params))) :
    PySem.W.WalkO q loose XP YP l.row.toRowW d [] (fun f vs => PySem.call f vs) :=
  ReR.walk_ofG (n := 63) (k := 6) (x := "script") (CX := fun w => CX0) (sp := fun w => spLaw (K w.params)) hn (by decide) hdf ⟨rfl, by decide, by decide⟩ him hY F (fun _ _ a ns hl _ hS => ⟨a, ns, rfl, hS, Nat.le_trans hl (by decide), fun _ => rfl⟩) fun _ _ _ _ _ z => z
end M
open PySem PySem.W PyProof.Rows
instance : SupX.PX (PySem.Challenge.rw_ownshares_k07_wishes_judged).prog := ⟨by decide +kernel, by rfl⟩
set_option maxRecDepth 100000 in
set_option maxHeartbeats 0 in
theorem PySem.Challenge.cw_ownshares_k07_wishes_judged_holds : PySem.Challenge.rw_ownshares_k07_wishes_judged.Holds := by
  w_on; o_law; k_head; (case hw => w_witness2)
  k_fill
  refine M.walk (l := PySem.Challenge.rw_ownshares_k07_wishes_judged) rfl rfl (by decide +kernel) (fun w h Y => PySem.W.kIn_of Y) ?F
  case F =>
    intro w mg fa h KX G hmg
    refine' M.all_mk (l := PySem.Challenge.rw_ownshares_k07_wishes_judged) KX G hmg ?a_Wish ?a_is_integer ?l_is_integer ?c_is_integer ?k_is_integer ?a_is_name ?l_is_name ?c_is_name ?k_is_name ?a_is_value ?l_is_value ?c_is_value ?k_is_value ?a_are_worths ?l_are_worths ?c_are_worths ?k_are_worths ?a_Wish_init ?i_Wish_init ?l_Wish_init ?c_Wish_init ?k_Wish_init ?a_Wish_worths ?g_Wish_worths ?t_Wish_worths ?rc_Wish_worths ?l_Wish_worths ?c_Wish_worths ?k_Wish_worths ?a_law_pool ?l_law_pool ?c_law_pool ?k_law_pool ?a_law_draw ?l_law_draw ?c_law_draw ?k_law_draw ?a_law_word ?l_law_word ?c_law_word ?k_law_word ?a_law_words ?l_law_words ?c_law_words ?k_law_words ?a_law_endless ?l_law_endless ?c_law_endless ?k_law_endless ?a_law_is_int ?l_law_is_int ?c_law_is_int ?k_law_is_int ?a_law_thing ?l_law_thing ?c_law_thing ?k_law_thing ?a_law_is_name ?l_law_is_name ?c_law_is_name ?k_law_is_name ?a_law_key ?l_law_key ?c_law_key ?k_law_key ?a_law_is_value ?l_law_is_value ?c_law_is_value ?k_law_is_value ?a_law_is_good ?l_law_is_good ?c_law_is_good ?k_law_is_good ?a_law_drawn_worths ?l_law_drawn_worths ?c_law_drawn_worths ?k_law_drawn_worths ?a_law_spoil_wish ?l_law_spoil_wish ?c_law_spoil_wish ?k_law_spoil_wish ?a_law ?l_law ?c_law ?k_law ?pg_Wish ?hd_Wish ?po_Wish ?sa_Wish ?mk_Wish ?kc_Wish ?n_Wish_table ?n_Wish_endless ?n_Wish_coming ?z_ValueError ?z_all ?z_bool ?z_dict ?z_int ?z_isinstance ?z_len ?z_list ?z_max ?z_min ?z_range ?z_repr ?z_sorted ?z_str ?xa_OwnError ?xy_OwnError ?xc_OwnError ?z_clget ?z_cltk ?xa_BadWish ?xx_BadWish ?xk_BadWish ?xb_BadWish ?xy_BadWish ?xc_BadWish ?xg_BadWish ?xh_BadWish ?xd_BadWish ?xe_BadWish ?xm_BadWish ?is_BadWish_OwnError ?is_BadWish_ValueError ?pr_BadWish_BadWish
    (case a_Wish => k_is)
    (case a_is_integer => k_is)
    (case l_is_integer => k_is)
    (case c_is_integer => k_is)
    (case k_is_integer => k_is)
    (case a_is_name => k_is)
    (case l_is_name => k_is)
    (case c_is_name => k_is)
    (case k_is_name => k_is)
    (case a_is_value => k_is)
    (case l_is_value => k_is)
    (case c_is_value => k_is)
    (case k_is_value => k_is)
    (case a_are_worths => k_is)
    (case l_are_worths => k_is)
    (case c_are_worths => k_is)
    (case k_are_worths => k_is)
    (case a_Wish_init => k_is)
    (case i_Wish_init => k_is)
    (case l_Wish_init => k_is)
    (case c_Wish_init => k_is)
    (case k_Wish_init => k_is)
    (case a_Wish_worths => k_is)
    (case g_Wish_worths => k_is)
    (case t_Wish_worths => k_is)
    (case rc_Wish_worths => k_is)
    (case l_Wish_worths => k_is)
    (case c_Wish_worths => k_is)
    (case k_Wish_worths => k_is)
    (case a_law_pool => k_is)
    (case l_law_pool => k_is)
    (case c_law_pool => k_is)
    (case k_law_pool => k_is)
    (case a_law_draw => k_is)
    (case l_law_draw => k_is)
    (case c_law_draw => k_is)
    (case k_law_draw => k_is)
    (case a_law_word => k_is)
    (case l_law_word => k_is)
    (case c_law_word => k_is)
    (case k_law_word => k_is)
    (case a_law_words => k_is)
    (case l_law_words => k_is)
    (case c_law_words => k_is)
    (case k_law_words => k_is)
    (case a_law_endless => k_is)
    (case l_law_endless => k_is)
    (case c_law_endless => k_is)
    (case k_law_endless => k_is)
    (case a_law_is_int => k_is)
    (case l_law_is_int => k_is)
    (case c_law_is_int => k_is)
    (case k_law_is_int => k_is)
    (case a_law_thing => k_is)
    (case l_law_thing => k_is)
    (case c_law_thing => k_is)
    (case k_law_thing => k_is)
    (case a_law_is_name => k_is)
    (case l_law_is_name => k_is)
    (case c_law_is_name => k_is)
    (case k_law_is_name => k_is)
    (case a_law_key => k_is)
    (case l_law_key => k_is)
    (case c_law_key => k_is)
    (case k_law_key => k_is)
    (case a_law_is_value => k_is)
    (case l_law_is_value => k_is)
    (case c_law_is_value => k_is)
    (case k_law_is_value => k_is)
    (case a_law_is_good => k_is)
    (case l_law_is_good => k_is)
    (case c_law_is_good => k_is)
    (case k_law_is_good => k_is)
    (case a_law_drawn_worths => k_is)
    (case l_law_drawn_worths => k_is)
    (case c_law_drawn_worths => k_is)
    (case k_law_drawn_worths => k_is)
    (case a_law_spoil_wish => k_is)
    (case l_law_spoil_wish => k_is)
    (case c_law_spoil_wish => k_is)
    (case k_law_spoil_wish => k_is)
    (case a_law => k_is)
    (case l_law => k_is)
    (case c_law => k_is)
    (case k_law => k_is)
    (case pg_Wish => k_is)
    (case hd_Wish => k_is)
    (case po_Wish => k_is)
    (case sa_Wish => k_is)
    (case mk_Wish => k_is)
    (case kc_Wish => k_is)
    (case n_Wish_table => k_is)
    (case n_Wish_endless => k_is)
    (case n_Wish_coming => k_is)
    (case z_ValueError => k_is)
    (case z_all => k_is)
    (case z_bool => k_is)
    (case z_dict => k_is)
    (case z_int => k_is)
    (case z_isinstance => k_is)
    (case z_len => k_is)
    (case z_list => k_is)
    (case z_max => k_is)
    (case z_min => k_is)
    (case z_range => k_is)
    (case z_repr => k_is)
    (case z_sorted => k_is)
    (case z_str => k_is)
    (case xa_OwnError => k_is)
    (case xy_OwnError => k_is)
    (case xc_OwnError => k_is)
    (case z_clget => k_is)
    (case z_cltk => k_is)
    (case xa_BadWish => k_is)
    (case xx_BadWish => k_exc)
    (case xk_BadWish => k_is)
    (case xb_BadWish => k_is)
    (case xy_BadWish => k_is)
    (case xc_BadWish => k_is)
    (case xg_BadWish => k_is)
    (case xh_BadWish => k_is)
    (case xd_BadWish => k_is)
    (case xe_BadWish => k_is)
    (case xm_BadWish => k_is)
    (case is_BadWish_OwnError => k_is)
    (case is_BadWish_ValueError => k_is)
    (case pr_BadWish_BadWish => first | rfl | k_is)
#print axioms PySem.Challenge.cw_ownshares_k07_wishes_judged_holds
