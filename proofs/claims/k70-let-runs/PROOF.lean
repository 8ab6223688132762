import PyProof.Rows.All
import Wide.All
import OpenK.AllK
import Wide.FinOn
import HandS.ForMost
import HandS.ForExc
import HandS.More
import HandS.Wide
import HandS.DictComp
import HandS.TupAny
import HandS.IsInst
import HandS.Walk
import HandS.Style
import HandS.SetKeys
import HandS.Steps
import PyProof.Rows.SortShellAny
import PyProof.Rows.RuleB_pow
import KE.GoesEnum
import HandS.Conv
import HandS.Property
import HandS.TryOnly
import KE.KDictSum
import HandS.SortRule
import HandS.NamedTupSort
import HandS.TupLe
import HandS.SortKw
import HandS.Finally
import KE.KEqDict
import HandS.TupLen
import HandS.Text
import KE.KDictDisplayH
import PyProof.ReprRoads
import PyProof.ReprBulk
import PyProof.NoPylong
import HandS.Nested
import KE.KDictCopyH
import KE.KeyNested
import HandS.ListItems
import KE.KExcSuper
import HandS.ExcInit
import HandS.ExcField
import HandS.TryMany
import HandS.ExcIs
import PySem.Challenge.RW_ownshares_k70_whole_keeps_by_all_let_run
set_option Elab.async false
set_option linter.all false
set_option maxRecDepth 100000
set_option maxHeartbeats 4000000
set_option pp.maxSteps 1200
set_option Elab.async false
set_option linter.all false
set_option maxRecDepth 100000
set_option maxHeartbeats 2000000
/-! The heap's order, readings of plain data, steps of readings: shared by all laws. -/
namespace M
open PySem PySem.Spec PyProof.Rows L2

/-! ### the heap's orders -/
/-- the heap without the addresses of S -/
def hid (S : List Addr) (H : Hp) : Hp := fun b => if b ∈ S then none else H b
/-- all but the addresses of S is as it was -/
def SX (S : List Addr) (A B : Hp) : Prop := ∀ b o, b ∉ S → A b = some o → B b = some o
/-- what is plain to be read -/
def Pl : HO → Prop
  | .lst _ | .tup _ | .dK _ | .dT _ => True
  | _ => False
/-- what may be read stays to be read -/
structure Le (A B : Hp) : Prop where
  rd : ∀ b u, Pl u → Rd A b u → Rd B b u
  ins : ∀ b C dx fs, A b = some (.ins C dx fs) → B b = some (.ins C dx fs)
  tup : ∀ b xs, A b = some (.tup xs) → B b = some (.tup xs)
theorem Le.refl (A : Hp) : Le A A := ⟨fun _ _ _ h => h, fun _ _ _ _ h => h, fun _ _ h => h⟩
theorem Le.trans {A B C : Hp} (a : Le A B) (b : Le B C) : Le A C := ⟨fun x u p h => b.rd x u p (a.rd x u p h), fun x c d f h => b.ins x c d f (a.ins x c d f h), fun x u h => b.tup x u (a.tup x u h)⟩
theorem le_of {A B : Hp} (h : ∀ b o, A b = some o → B b = some o) : Le A B :=
  ⟨fun b u _ q => by rcases q with q | ⟨o, q⟩
                     · exact .inl (h _ _ q)
                     · exact .inr ⟨o, h _ _ q⟩, fun b C dx fs q => h _ _ q, fun b xs q => h _ _ q⟩
theorem Le.l {K : PySem.W.Frag} {A B : Hp} {a : Addr} {xs : List V} (e : Le A B) (h : SqL K A a xs) : SqL K B a xs := by
  rcases h with h | h
  · exact .inl (e.rd _ _ trivial h)
  · exact .inr h
theorem Le.t {K : PySem.W.Frag} {A B : Hp} {a : Addr} {xs : List V} (e : Le A B) (h : SqT K A a xs) : SqT K B a xs := by
  rcases h with h | h
  · exact .inl (e.rd _ _ trivial h)
  · exact .inr h
theorem sqL {K : PySem.W.Frag} {H : Hp} {a : Addr} {xs : List V} (h : H a = some (.lst xs)) : SqL K H a xs := .inl (.inl h)
theorem sqT {K : PySem.W.Frag} {H : Hp} {a : Addr} {xs : List V} (h : H a = some (.tup xs)) : SqT K H a xs := .inl (.inl h)
theorem hid_at {S : List Addr} {H : Hp} {b : Addr} {o : HO} (h : hid S H b = some o) : b ∉ S ∧ H b = some o := by
  unfold hid at h
  split at h
  · cases h
  · exact ⟨by assumption, h⟩
theorem hid_of {S : List Addr} {H : Hp} {b : Addr} (h : b ∉ S) : hid S H b = H b := by
  unfold hid
  rw [if_neg h]
theorem hid_in {S : List Addr} {H : Hp} {b : Addr} (h : b ∈ S) : hid S H b = none := by
  unfold hid
  rw [if_pos h]
theorem hid_nil {H : Hp} : hid [] H = H := by
  funext b
  exact hid_of List.not_mem_nil
theorem le_hid {S : List Addr} {H : Hp} : Le (hid S H) H := le_of fun _ _ q => (hid_at q).2
theorem le_hid2 {S S' : List Addr} {H : Hp} (h : ∀ b ∈ S, b ∈ S') : Le (hid S' H) (hid S H) := le_of fun b o q => by
  obtain ⟨n, q⟩ := hid_at q
  rw [hid_of fun m => n (h b m)]
  exact q
theorem SX.refl {S : List Addr} (A : Hp) : SX S A A := fun _ _ _ h => h
theorem SX.trans {S : List Addr} {A B C : Hp} (a : SX S A B) (b : SX S B C) : SX S A C := fun x o n h => b x o n (a x o n h)
theorem SX.sub {S S' : List Addr} {A B : Hp} (h : ∀ b ∈ S, b ∈ S') (a : SX S A B) : SX S' A B := fun x o n q => a x o (fun m => n (h x m)) q
theorem SX.le {S : List Addr} {A B : Hp} (a : SX S A B) : Le (hid S A) (hid S B) := le_of fun b o q => by
  obtain ⟨n, q⟩ := hid_at q
  rw [hid_of n]
  exact a b o n q
theorem SX.le0 {A B : Hp} (a : SX [] A B) : Le A B := le_of fun b o q => a b o List.not_mem_nil q
theorem SX.leH {S : List Addr} {A B : Hp} (a : SX S A B) : Le (hid S A) B := a.le.trans le_hid
theorem SX.new {S : List Addr} {A : Hp} {p : Addr} {o : HO} (h : A p = none) : SX S A (upd A p o) := fun b u _ q => by
  rw [upd_ne (ne_of_none q h)]
  exact q
theorem SX.mut {S : List Addr} {A : Hp} {p : Addr} {o : HO} (h : p ∈ S) : SX S A (upd A p o) := fun b u n q => by
  rw [upd_ne (by rintro rfl; exact n h)]
  exact q
theorem SX.same {A B : Hp} (h : ∀ b o, A b = some o → B b = some o) {S : List Addr} : SX S A B := fun b o _ q => h b o q
theorem SX.at_ {S : List Addr} {A B : Hp} {b : Addr} {o : HO} (a : SX S A B) (q : A b = some o) (n : b ∉ S) : B b = some o := a b o n q
/-- fresh behind is fresh ahead -/
theorem SX.free {S : List Addr} {A B : Hp} {b : Addr} (a : SX S A B) (q : B b = none) (n : b ∉ S) : A b = none := by
  cases e : A b with
  | none => rfl
  | some o =>
    rw [a b o n e] at q
    cases q
theorem not_in_of_none {H : Hp} {p : Addr} {S : List Addr} (h : H p = none) (hs : ∀ b ∈ S, H b ≠ none) : p ∉ S := fun m => hs p m h
/-- locks -/
theorem le_lock {A : Hp} {d : Addr} {u : HO} {od : Obj} (h : A d = some u) (hm : Mut (some u)) (hi : ∀ C dx fs, u ≠ .ins C dx fs) : Le A (upd A d (.frz od u)) := by
  refine ⟨fun b v p q => ?_, fun b C dx fs q => ?_, fun b xs q => ?_⟩
  · by_cases e : b = d
    · subst e
      rcases q with q | ⟨o, q⟩
      · rw [h] at q
        cases q
        exact .inr ⟨od, upd_same⟩
      · rw [h] at q
        cases q
        exact hm.elim
    · unfold Rd
      rw [upd_ne e]
      exact q
  · rw [upd_ne]
    · exact q
    · rintro rfl
      rw [h] at q
      cases q
      exact hi _ _ _ rfl
  · rw [upd_ne]
    · exact q
    · rintro rfl
      rw [h] at q
      cases q
      exact hm
theorem le_unlock {A : Hp} {d : Addr} {u : HO} {od : Obj} (h : A d = some (.frz od u)) : Le A (upd A d u) := by
  refine ⟨fun b v p q => ?_, fun b C dx fs q => ?_, fun b xs q => ?_⟩
  · by_cases e : b = d
    · subst e
      rcases q with q | ⟨o, q⟩
      · rw [h] at q
        cases q
        exact p.elim
      · rw [h] at q
        cases q
        exact .inl upd_same
    · unfold Rd
      rw [upd_ne e]
      exact q
  · rw [upd_ne]
    · exact q
    · rintro rfl
      rw [h] at q
      cases q
  · rw [upd_ne]
    · exact q
    · rintro rfl
      rw [h] at q
      cases q

/-! ### steps of readings -/
section
variable {K : PySem.W.Frag} {σ σ' : L2.St} {H H' : Hp} {ta tb tc te : TE} {t u : TT} {x y z v : V} {r : R2} {Q : VK} {D : Ends} {t1 t2 : TS} {ag : TA} {QA : List V → Hp → Prop} {QB : Bool → Hp → Prop} {i j : Int}
theorem x_var {n : Nat} (h : σ[n]? = some (some v)) (k : Q v H) : tVar n σ H Q := ⟨v, h, k⟩
theorem x_c (k : Q v H) : tC v σ H Q := k
theorem x_op (k : ta σ H fun x H1 => tb σ H1 fun y H2 => r x y H2 Q) : tOp r ta tb σ H Q := k
theorem x_un {r : V → Hp → VK → Prop} (k : ta σ H fun x H1 => r x H1 Q) : tUn r ta σ H Q := k
theorem x_I0 {g : Int → Int → V} (k : Q (g i j) H) : rI0 g (.int i) (.int j) H Q := ⟨i, j, rfl, rfl, k⟩
theorem x_I {C : Int → Int → Prop} {g : Int → Int → V} (c : C i j) (k : Q (g i j) H) : rI C g (.int i) (.int j) H Q := ⟨i, j, rfl, rfl, c, k⟩
theorem x_U {g : Int → V} (k : Q (g i) H) : rU g (.int i) H Q := ⟨i, rfl, k⟩
theorem x_eq (h : scal x y = true) (k : Q (.bl (decide (x = y))) H) : rEq x y H Q := ⟨h, k⟩
theorem x_ne (h : scal x y = true) (k : Q (.bl (!decide (x = y))) H) : rNe x y H Q := ⟨h, k⟩
theorem x_test {te : TE} (k : te σ H fun x H' => ∃ c, x = .bl c ∧ QB c H') : tTest te σ H QB := k
theorem x_B {te : TE} (k : te σ H fun x H' => ∃ c, x = .bl c ∧ QB c H') : tB te σ H QB := k
theorem x_bl {b : Bool} {R : Bool → Prop} (k : R b) : ∃ c, V.bl b = .bl c ∧ R c := ⟨b, rfl, k⟩
theorem x_and (k : t σ H fun c H1 => if c = true then u σ H1 QB else QB false H1) : tAnd t u σ H QB := k
theorem x_or (k : t σ H fun c H1 => if c = true then QB true H1 else u σ H1 QB) : tOr t u σ H QB := k
theorem x_not (k : t σ H fun c H1 => QB (!c) H1) : tNot t σ H QB := k
theorem x_andV (k : ta σ H fun x H1 => ∃ c, x = .bl c ∧ if c = true then tb σ H1 Q else Q (.bl false) H1) : tAndV ta tb σ H Q := k
theorem x_orV (k : ta σ H fun x H1 => ∃ c, x = .bl c ∧ if c = true then Q (.bl true) H1 else tb σ H1 Q) : tOrV ta tb σ H Q := k
theorem x_notV (k : ta σ H fun x H1 => ∃ c, x = .bl c ∧ Q (.bl (!c)) H1) : tNotV ta σ H Q := k
theorem x_if (k : t σ H fun c H1 => if c = true then ta σ H1 Q else tb σ H1 Q) : tIf t ta tb σ H Q := k
theorem x_chain {r' : R2} (k : ta σ H fun x H1 => tb σ H1 fun y H2 => r x y H2 fun z H3 => ∃ k, z = .bl k ∧ (if k = true then tc σ H3 fun w' H4 => r' y w' H4 Q else Q (.bl false) H3)) : tChain r r' ta tb tc σ H Q := k
theorem x_CB {r : List V → Hp → VK → Prop} (k : ag σ H fun vs H1 => r vs H1 Q) : tCB r ag σ H Q := k
theorem x_nil (k : QA [] H) : tNil σ H QA := k
theorem x_cons {ar : TA} (k : ta σ H fun x H1 => ar σ H1 fun xs H2 => QA (x :: xs) H2) : tCons ta ar σ H QA := k
theorem x_tup (k : ag σ H fun xs H1 => xs.length ≤ sizeLine ∧ ∀ p, H1 p = none → Q (.ref p) (upd H1 p (.tup xs))) : tTup ag σ H Q := k
theorem x_lst (k : ag σ H fun xs H1 => xs.length ≤ sizeLine ∧ ∀ p, H1 p = none → Q (.ref p) (upd H1 p (.lst xs))) : tLst ag σ H Q := k
theorem x_call {sp : Sp} {dvs : List V} {E : XK} (k : ag σ H fun vs H1 => sp (vs ++ dvs) H1 Q E) : tCall sp dvs E ag σ H Q := k
theorem x_dnew (k : ∀ p, H p = none → Q (.ref p) (upd H p (.dK []))) : tDNewK σ H Q := k
theorem x_seq (k : t1 { D with nx := t2 D } σ H) : tSeq t1 t2 D σ H := k
theorem x_next (k : D.nx σ H) : tNext D σ H := k
theorem x_break (k : D.bk σ H) : tBreak D σ H := k
theorem x_cont (k : D.ct σ H) : tCont D σ H := k
theorem x_ret (k : te σ H D.rt) : tRet te D σ H := k
theorem x_retN (k : D.rt .non H) : tRetN D σ H := k
theorem x_drop (k : te σ H fun _ H1 => D.nx σ H1) : tDrop te D σ H := k
theorem x_ifS (k : t σ H fun b H1 => if b = true then t1 D σ H1 else t2 D σ H1) : tIfS t t1 t2 D σ H := k
theorem x_asg {g : TG} (k : te σ H fun x H1 => g x σ H1 D.nx) : tAsg te g D σ H := k
theorem x_name {n : Nat} {Q : L2.St → Hp → Prop} (e : σ.set n (some v) = σ') (k : Q σ' H) : gName n v σ H Q := by
  subst e
  exact k
theorem x_sub {to ti : TE} {st : TSet} {Q : L2.St → Hp → Prop} (k : to σ H fun o H1 => ti σ H1 fun i H2 => st o i v H2 fun H3 => Q σ H3) : gSub to ti st v σ H Q := k
theorem x_gnil {Q : L2.St → Hp → Prop} (k : Q σ H) : gNil [] σ H Q := ⟨rfl, k⟩
theorem x_gcons {g : TG} {gs : TGs} {vs : List V} {Q : L2.St → Hp → Prop} (k : g v σ H fun σ' H' => gs vs σ' H' Q) : gCons g gs (v :: vs) σ H Q := ⟨v, vs, rfl, k⟩
theorem x_gtup {n : Nat} {gs : TGs} {a : Addr} {xs : List V} {Q : L2.St → Hp → Prop} (h : SqT K H a xs) (hl : xs.length = n) (k : gs xs σ H Q) : gTup K n gs (.ref a) σ H Q := ⟨a, xs, rfl, h, hl, k⟩
theorem x_par {n m : Nat} (k : ag σ H fun vs H1 => ∃ v w, vs = [v, w] ∧ D.nx ((σ.set n (some v)).set m (some w)) H1) : tPar n m ag D σ H := k
theorem x_par2 {v w : V} {R : V → V → Prop} (k : R v w) : ∃ v' w', [v, w] = [v', w'] ∧ R v' w' := ⟨v, w, rfl, k⟩
theorem x_aug {n : Nat} {ti : TIp} (h : σ[n]? = some (some x)) (k : te σ H fun y H1 => ti x y H1 fun z H2 => D.nx (σ.set n (some z)) H2) : tAug n te ti D σ H := ⟨x, h, k⟩
theorem x_ipI {f : Int → Int → Int} (k : Q (.int (f i j)) H) : ipI f (.int i) (.int j) H Q := ⟨i, j, rfl, rfl, k⟩
theorem x_dput {td ty tv : TE} (k : tv σ H fun v H1 => td σ H1 fun x H2 => ty σ H2 fun y H3 => ∃ a H4, x = .ref a ∧ DPut H3 a y v H4 ∧ D.nx σ H4) : sDPut td ty tv D σ H := k
theorem x_dget {td ty : TE} (k : td σ H fun x H1 => ty σ H1 fun y H2 => ∃ a v, x = .ref a ∧ DGet H2 a y (some v) ∧ Q v H2) : tDGet td ty σ H Q := k
theorem x_din {td ty : TE} (k : ty σ H fun y H1 => td σ H1 fun x H2 => ∃ a o, x = .ref a ∧ DGet H2 a y o ∧ Q (.bl o.isSome) H2) : tDIn ty td σ H Q := k
theorem x_dnotin {td ty : TE} (k : ty σ H fun y H1 => td σ H1 fun x H2 => ∃ a o, x = .ref a ∧ DGet H2 a y o ∧ Q (.bl (!o.isSome)) H2) : tDNotIn ty td σ H Q := k
theorem x_bm {T : String} {r : V → List V → Hp → VK → Prop} (k : ta σ H fun x H1 => tyV K T x H1 ∧ ag σ H1 fun xs H2 => r x xs H2 Q) : tBM K T r ta ag σ H Q := k
theorem x_bm0 {T : String} {r : V → List V → Hp → VK → Prop} (k : ta σ H fun x H1 => tyV K T x H1 ∧ r x [] H1 Q) : tBM0 K T r ta σ H Q := k
theorem x_sl {r : V → Option Int → Option Int → Hp → VK → Prop} {tl th : TO} (k : te σ H fun x H1 => tl σ H1 fun l H2 => th σ H2 fun u H3 => r x l u H3 Q) : tSl r te tl th σ H Q := k
theorem x_nopart {Q : Option Int → Hp → Prop} (k : Q none H) : tNoPart σ H Q := k
theorem x_part {Q : Option Int → Hp → Prop} (k : te σ H fun x H1 => ∃ i, x = .int i ∧ Q (some i) H1) : tPart te σ H Q := k
theorem x_int {Q : Int → Prop} (k : Q i) : ∃ j, V.int i = .int j ∧ Q j := ⟨i, rfl, k⟩
theorem x_fld {f : Str} (k : te σ H fun x H1 => ∃ a C dx fs v, x = .ref a ∧ H1 a = some (.ins C dx fs) ∧ Cls K C ∧ NoAttr K C f ∧ fs.lookup f = some v ∧ Q v H1) : tFld K te f σ H Q := k
theorem x_start {t : TS} (e : σ = σ') (k : t D σ' H) : t D σ H := by
  rw [e]
  exact k
theorem x_for {wi : TI} {g : TG} {tb : TS} (k : wi σ H fun J H1 => ∃ W : Nat → Nat → L2.St → Hp → Prop, (∃ m, W 0 m σ H1) ∧ ∀ i m σ H, W i m σ H →
  (J.stop i H ∧ D.nx σ H) ∨ (J.go i H ∧ ∃ N : L2.St → Hp → Prop, (∀ σ' H', N σ' H' → ∃ m', m' < m ∧ W (i + 1) m' σ' H') ∧ ∀ x H', J.yld i H x H' → g x σ H' fun σ2 H2 => tb { D with nx := N, ct := N, bk := D.nx } σ2 H2)) : tFor wi g tb D σ H := k
theorem x_iStr {R : It → Hp → Prop} (k : te σ H fun v H1 => ∃ x, v = .str x ∧ R (Its x) H1) : iStr te σ H R := k
theorem x_str {s : Str} {R : Str → Prop} (k : R s) : ∃ x, V.str s = .str x ∧ R x := ⟨s, rfl, k⟩
theorem x_iRng1 {R : It → Hp → Prop} (k : ag σ H fun vs H1 => ∃ j : Int, vs = [.int j] ∧ -(2 ^ 62) ≤ j ∧ j < 2 ^ 62 ∧ R (Itr 0 j.toNat) H1) : iRng1 ag σ H R := k
theorem x_rng1 {R : Int → Prop} (h1 : -(2 ^ 62) ≤ i) (h2 : i < 2 ^ 62) (k : R i) : ∃ j : Int, [V.int i] = [.int j] ∧ -(2 ^ 62) ≤ j ∧ j < 2 ^ 62 ∧ R j := ⟨i, rfl, h1, h2, k⟩
theorem x_iRng2 {R : It → Hp → Prop} (k : ag σ H fun vs H1 => ∃ i j : Int, vs = [.int i, .int j] ∧ (-(2 ^ 62) ≤ i ∧ i < 2 ^ 62 ∧ -(2 ^ 62) ≤ j ∧ j < 2 ^ 62) ∧ R (Itr i (j - i).toNat) H1) : iRng2 ag σ H R := k
theorem x_rng2 {R : Int → Int → Prop} (h : -(2 ^ 62) ≤ i ∧ i < 2 ^ 62 ∧ -(2 ^ 62) ≤ j ∧ j < 2 ^ 62) (k : R i j) : ∃ i' j' : Int, [V.int i, V.int j] = [.int i', .int j'] ∧ (-(2 ^ 62) ≤ i' ∧ i' < 2 ^ 62 ∧ -(2 ^ 62) ≤ j' ∧ j' < 2 ^ 62) ∧ R i' j' := ⟨i, j, rfl, h, k⟩
theorem x_iList {R : It → Hp → Prop} (k : te σ H fun x H1 => ∃ a, x = .ref a ∧ (∃ xs, SqL K H1 a xs) ∧ R (Itl K a) H1) : iList K te σ H R := k
theorem x_itl {a : Addr} {xs : List V} {R : Addr → Prop} (h : SqL K H a xs) (k : R a) : ∃ a', V.ref a = .ref a' ∧ (∃ xs, SqL K H a' xs) ∧ R a' := ⟨a, rfl, ⟨xs, h⟩, k⟩
theorem x_iTup {R : It → Hp → Prop} (k : te σ H fun x H1 => ∃ a, x = .ref a ∧ (∃ xs, SqT K H1 a xs) ∧ R (Itt K a) H1) : iTup K te σ H R := k
theorem x_itt {a : Addr} {xs : List V} {R : Addr → Prop} (h : SqT K H a xs) (k : R a) : ∃ a', V.ref a = .ref a' ∧ (∃ xs, SqT K H a' xs) ∧ R a' := ⟨a, rfl, ⟨xs, h⟩, k⟩
theorem x_iKeys {R : It → Hp → Prop} (k : te σ H fun x H1 => ∃ d o, x = .ref d ∧ ((∃ kvs, H1 d = some (.frz o (.dK kvs)) ∧ R (Itk d o kvs) H1) ∨ ∃ kvs, H1 d = some (.frz o (.dT kvs)) ∧ R (Itkt d o kvs) H1)) : iKeys te σ H R := k
theorem x_itk {d : Addr} {o : Obj} {kvs : List (Key × V)} {R : Addr → Obj → List (Key × V) → Prop} {R' : Addr → Obj → Prop} (h : H d = some (.frz o (.dK kvs))) (k : R d o kvs) : ∃ d' o', V.ref d = .ref d' ∧ ((∃ kvs, H d' = some (.frz o' (.dK kvs)) ∧ R d' o' kvs) ∨ R' d' o') := ⟨d, o, rfl, .inl ⟨kvs, h, k⟩⟩
theorem x_iVals {R : It → Hp → Prop} (k : te σ H fun x H1 => ∃ d o kvs, x = .ref d ∧ H1 d = some (.frz o (.dK kvs)) ∧ R (Itd d o kvs) H1) : iVals te σ H R := k
theorem x_itd {d : Addr} {o : Obj} {kvs : List (Key × V)} {R : Addr → Obj → List (Key × V) → Prop} (h : H d = some (.frz o (.dK kvs))) (k : R d o kvs) : ∃ d' o' kvs', V.ref d = .ref d' ∧ H d' = some (.frz o' (.dK kvs')) ∧ R d' o' kvs' := ⟨d, o, kvs, rfl, h, k⟩
theorem x_iItems {R : It → Hp → Prop} (k : te σ H fun x H1 => ∃ d o kvs, x = .ref d ∧ H1 d = some (.frz o (.dK kvs)) ∧ R (Iti d o kvs) H1) : iItems te σ H R := k
theorem x_iti {d : Addr} {o : Obj} {kvs : List (Key × V)} {R : Addr → Obj → List (Key × V) → Prop} (h : H d = some (.frz o (.dK kvs))) (k : R d o kvs) : ∃ d' o' kvs', V.ref d = .ref d' ∧ H d' = some (.frz o' (.dK kvs')) ∧ R d' o' kvs' := ⟨d, o, kvs, rfl, h, k⟩
theorem x_nt {A B : Prop} (k : B) : if (!true) = true then A else B := iteF k
theorem x_nf {A B : Prop} (k : A) : if (!false) = true then A else B := iteT k
theorem x_true {c : Bool} {A B : Prop} (h : c = true) (k : A) : if c = true then A else B := by
  rw [if_pos h]
  exact k
theorem x_false {c : Bool} {A B : Prop} (h : c = false) (k : B) : if c = true then A else B := by
  rw [h]
  exact iteF k
theorem x_cases {c : Bool} {A B : Prop} (h1 : c = true → A) (h2 : c = false → B) : if c = true then A else B := by
  cases c
  · exact iteF (h2 rfl)
  · exact iteT (h1 rfl)
end

theorem cx_K {CX : CXT} {P : Program} {w : World} {K : PySem.W.Frag} {mg : Str → Option Value} {base : Heap} {N : List Str} {qual : Str} {scope : Scope} {f : Addr} {cd : Value} {A : Around} {outer : List Env} {s : Shared} {H : Hp} {E : XK} :
    (cxOf CX P w K mg base N qual scope f cd A outer s H E).K = K := rfl
theorem cx_w {CX : CXT} {P : Program} {w : World} {K : PySem.W.Frag} {mg : Str → Option Value} {base : Heap} {N : List Str} {qual : Str} {scope : Scope} {f : Addr} {cd : Value} {A : Around} {outer : List Env} {s : Shared} {H : Hp} {E : XK} :
    (cxOf CX P w K mg base N qual scope f cd A outer s H E).w = w := rfl
theorem cx_P {CX : CXT} {P : Program} {w : World} {K : PySem.W.Frag} {mg : Str → Option Value} {base : Heap} {N : List Str} {qual : Str} {scope : Scope} {f : Addr} {cd : Value} {A : Around} {outer : List Env} {s : Shared} {H : Hp} {E : XK} :
    (cxOf CX P w K mg base N qual scope f cd A outer s H E).prog = P := rfl
theorem cx_n {X : Cx} {E : Value → Shared → Prop} : (X.wish E).K = X.K := rfl
/-! ### defs of the top -/
structure FX (K : PySem.W.Frag) (mg : Str → Option Value) (x qual : Str) (st : Stmt) (ps : List Str) where
  f : Addr
  fd : FuncData
  F : Fun K x qual st f fd
  g : mg x = some (.ref f)
  B : Binds K fd ps []
structure MX (K : PySem.W.Frag) (x qual : Str) (st : Stmt) (ps : List Str) where
  f : Addr
  fd : FuncData
  F : Fun K x qual st f fd
  B : Binds K fd ps []

/-! ### readings of plain data -/
abbrev RR (α : Type) := Hp → V → α → Prop
/-- a reading that stays as the heap grows -/
def Mono {α : Type} (R : RR α) : Prop := ∀ A B v x, Le A B → R A v x → R B v x
def rI : RR Int := fun _ v i => v = .int i
def rS : RR Str := fun _ v s => v = .str s
def rB : RR Bool := fun _ v b => v = .bl b
theorem mono_I : Mono rI := fun _ _ _ _ _ h => h
theorem mono_S : Mono rS := fun _ _ _ _ _ h => h
theorem mono_B : Mono rB := fun _ _ _ _ _ h => h
/-- a list, a tuple of alike things -/
def rL (K : PySem.W.Frag) {α : Type} (R : RR α) : RR (List α) := fun H v l => ∃ a xs, v = .ref a ∧ SqL K H a xs ∧ Paired (R H) xs l
def rTL (K : PySem.W.Frag) {α : Type} (R : RR α) : RR (List α) := fun H v l => ∃ a xs, v = .ref a ∧ SqT K H a xs ∧ Paired (R H) xs l
def rP (K : PySem.W.Frag) {α β : Type} (R : RR α) (S : RR β) : RR (α × β) := fun H v p => ∃ a x y, v = .ref a ∧ SqT K H a [x, y] ∧ R H x p.1 ∧ S H y p.2
/-- a dict whose keys are texts -/
def KVs {α : Type} (R : RR α) (H : Hp) : List (Key × V) → List (Str × α) → Prop := Paired fun kv p => kv.1 = Sum.inr p.1 ∧ R H kv.2 p.2
def rD {α : Type} (R : RR α) : RR (List (Str × α)) := fun H v l => ∃ a kvs, v = .ref a ∧ Rd H a (.dK kvs) ∧ KVs R H kvs l
section
variable {K : PySem.W.Frag} {α β : Type} {R : RR α} {S : RR β}
theorem paired_le {A B : Hp} (m : Mono R) (e : Le A B) : ∀ {xs : List V} {l : List α}, Paired (R A) xs l → Paired (R B) xs l
  | _, _, .nil => .nil
  | _, _, .cons h t => .cons (m _ _ _ _ e h) (paired_le m e t)
theorem KVs.le {A B : Hp} (m : Mono R) (e : Le A B) : ∀ {xs : List (Key × V)} {l : List (Str × α)}, KVs R A xs l → KVs R B xs l
  | _, _, .nil => .nil
  | _, _, .cons h t => .cons ⟨h.1, m _ _ _ _ e h.2⟩ (KVs.le m e t)
theorem mono_L (m : Mono R) : Mono (rL K R) := fun A B v l e ⟨a, xs, h1, h2, h3⟩ => ⟨a, xs, h1, e.l h2, paired_le m e h3⟩
theorem mono_TL (m : Mono R) : Mono (rTL K R) := fun A B v l e ⟨a, xs, h1, h2, h3⟩ => ⟨a, xs, h1, e.t h2, paired_le m e h3⟩
theorem mono_P (m : Mono R) (n : Mono S) : Mono (rP K R S) := fun A B v p e ⟨a, x, y, h1, h2, h3, h4⟩ => ⟨a, x, y, h1, e.t h2, m _ _ _ _ e h3, n _ _ _ _ e h4⟩
theorem mono_D (m : Mono R) : Mono (rD R) := fun A B v l e ⟨a, kvs, h1, h2, h3⟩ => ⟨a, kvs, h1, e.rd _ _ trivial h2, KVs.le m e h3⟩
end

/-! ### paired lists -/
section
variable {α β : Type} {F : α → β → Prop}
theorem Paired.get : ∀ {xs : List α} {l : List β} {i : Nat} {y : β}, Paired F xs l → l[i]? = some y → ∃ x, xs[i]? = some x ∧ F x y
  | _, _, _, _, .nil, e => by simp at e
  | _, _, 0, y, .cons h _, e => by simp at e; subst e; exact ⟨_, rfl, h⟩
  | _, _, i + 1, y, .cons _ t, e => by
    obtain ⟨x, h1, h2⟩ := Paired.get (i := i) (y := y) t (by simpa using e)
    exact ⟨x, by simpa using h1, h2⟩
theorem Paired.getL : ∀ {xs : List α} {l : List β} {i : Nat} {x : α}, Paired F xs l → xs[i]? = some x → ∃ y, l[i]? = some y ∧ F x y
  | _, _, _, _, .nil, e => by simp at e
  | _, _, 0, y, .cons h _, e => by simp at e; subst e; exact ⟨_, rfl, h⟩
  | _, _, i + 1, y, .cons _ t, e => by
    obtain ⟨x, h1, h2⟩ := Paired.getL (i := i) (x := y) t (by simpa using e)
    exact ⟨x, by simpa using h1, h2⟩
theorem Paired.app : ∀ {xs xs' : List α} {l l' : List β}, Paired F xs l → Paired F xs' l' → Paired F (xs ++ xs') (l ++ l')
  | _, _, _, _, .nil, h => h
  | _, _, _, _, .cons a t, h => .cons a (Paired.app t h)
theorem Paired.map_right {γ : Type} {g : γ → β} : ∀ {xs : List α} {l : List γ}, Paired (fun x y => F x (g y)) xs l → Paired F xs (l.map g)
  | _, _, .nil => .nil
  | _, _, .cons a t => .cons a (Paired.map_right t)
end
/-- ints, texts in a list are told by what they are -/
theorem paired_I {H : Hp} : ∀ {xs : List V} {l : List Int}, Paired (rI H) xs l → xs = l.map V.int
  | _, _, .nil => rfl
  | _, _, .cons h t => by rw [h, paired_I t]; rfl
theorem paired_S {H : Hp} : ∀ {xs : List V} {l : List Str}, Paired (rS H) xs l → xs = l.map V.str
  | _, _, .nil => rfl
  | _, _, .cons h t => by rw [h, paired_S t]; rfl
theorem paired_B {H : Hp} : ∀ {xs : List V} {l : List Bool}, Paired (rB H) xs l → xs = l.map V.bl
  | _, _, .nil => rfl
  | _, _, .cons h t => by rw [h, paired_B t]; rfl
theorem paired_I' {H : Hp} : ∀ (l : List Int), Paired (rI H) (l.map V.int) l
  | [] => .nil
  | a :: t => .cons rfl (paired_I' t)
theorem paired_S' {H : Hp} : ∀ (l : List Str), Paired (rS H) (l.map V.str) l
  | [] => .nil
  | a :: t => .cons rfl (paired_S' t)
theorem KVs.keys {α : Type} {R : RR α} {H : Hp} : ∀ {kvs : List (Key × V)} {l : List (Str × α)}, KVs R H kvs l → kvs.map (·.1) = (l.map (·.1)).map Sum.inr
  | _, _, .nil => rfl
  | _, _, .cons h t => by
    rw [List.map_cons, List.map_cons, List.map_cons, h.1, KVs.keys t]

/-! ### a dict's look-up by what it holds -/
def lookA {α : Type} : List (Str × α) → Str → Option α
  | [], _ => none
  | (k, a) :: r, x => if k = x then some a else lookA r x
theorem KVs.look {α : Type} {R : RR α} {H : Hp} : ∀ {kvs : List (Key × V)} {l : List (Str × α)} (x : Str), KVs R H kvs l → (∃ v a, valV kvs (Sum.inr x) = some v ∧ lookA l x = some a ∧ R H v a) ∨ (valV kvs (Sum.inr x) = none ∧ lookA l x = none)
  | _, _, x, .nil => .inr ⟨rfl, rfl⟩
  | kv :: kvs, (y, a) :: l, x, .cons h t => by
    by_cases e : y = x
    · left
      refine ⟨kv.2, a, valV_pos (by rw [h.1, e]), ?_, h.2⟩
      unfold lookA
      rw [if_pos e]
    · have n : ¬ kv.1 = (Sum.inr x : Key) := by
        rw [h.1]
        intro q
        exact e (Sum.inr.inj q)
      rw [valV_neg n]
      unfold lookA
      rw [if_neg e]
      exact KVs.look x t
theorem lookA_mem {α : Type} : ∀ {l : List (Str × α)} {x : Str} {a : α}, lookA l x = some a → (x, a) ∈ l
  | (k, b) :: r, x, a, h => by
    unfold lookA at h
    split at h
    · rename_i e
      cases h
      subst e
      exact List.mem_cons_self
    · exact List.mem_cons_of_mem _ (lookA_mem h)
theorem lookA_some {α : Type} : ∀ {l : List (Str × α)} {x : Str}, x ∈ l.map (·.1) → ∃ a, lookA l x = some a
  | (k, b) :: r, x, h => by
    unfold lookA
    by_cases e : k = x
    · exact ⟨b, if_pos e⟩
    · rw [if_neg e]
      rcases List.mem_cons.mp h with h | h
      · exact absurd h.symm e
      · exact lookA_some h
theorem lookA_none {α : Type} : ∀ {l : List (Str × α)} {x : Str}, x ∉ l.map (·.1) → lookA l x = none
  | [], _, _ => rfl
  | (k, b) :: r, x, h => by
    unfold lookA
    rw [if_neg fun e => h (List.mem_cons.mpr (.inl e.symm)), lookA_none fun m => h (List.mem_cons_of_mem _ m)]
theorem lookA_isSome {α : Type} {l : List (Str × α)} {x : Str} : (lookA l x).isSome = true ↔ x ∈ l.map (·.1) := by
  constructor
  · intro h
    by_cases m : x ∈ l.map (·.1)
    · exact m
    · rw [lookA_none m] at h
      cases h
  · intro h
    obtain ⟨a, e⟩ := lookA_some h
    rw [e]
    rfl
theorem lookA_nodup {α : Type} : ∀ {l : List (Str × α)} {x : Str} {a : α}, (l.map (·.1)).Nodup → (x, a) ∈ l → lookA l x = some a
  | (k, b) :: r, x, a, hn, h => by
    have hn : (k :: r.map (·.1)).Nodup := hn
    obtain ⟨h1, h2⟩ := List.nodup_cons.mp hn
    unfold lookA
    rcases List.mem_cons.mp h with h | h
    · cases h
      exact if_pos rfl
    · rw [if_neg]
      · exact lookA_nodup h2 h
      · rintro rfl
        exact h1 (List.mem_map.mpr ⟨_, h, rfl⟩)
/-- d[x] = a -/
def putA {α : Type} : List (Str × α) → Str → α → List (Str × α)
  | [], x, a => [(x, a)]
  | (k, b) :: r, x, a => if k = x then (k, a) :: r else (k, b) :: putA r x a

/-! ### more steps -/
section
variable {K : PySem.W.Frag} {σ σ' : L2.St} {H H' : Hp} {x y z v : V} {Q : VK} {D : Ends} {i : Int}
theorem ty_tup {a : Addr} {xs : List V} (h : SqT K H a xs) : TyX K H (.ref a) (.type "tuple") := by
  rcases h with (h | ⟨o, h⟩) | ⟨o, its, n, h1, h2, _⟩
  · exact .base (.tup h)
  · exact .fTuple h
  · exact .kTuple h1 h2
theorem ty_dict {a : Addr} {kvs : List (Key × V)} (h : Rd H a (.dK kvs)) : TyX K H (.ref a) (.type "dict") := by
  rcases h with h | ⟨o, h⟩
  · exact .base (.dK h)
  · exact .fDict h
theorem ty_list {a : Addr} {xs : List V} (h : SqL K H a xs) : TyX K H (.ref a) (.type "list") := by
  rcases h with (h | ⟨o, h⟩) | ⟨o, its, n, h1, h2, _⟩
  · exact .base (.lst h)
  · exact .base (.frz h)
  · exact .kList h1 h2
theorem x_isi {a b : String} {r : Bool} (ty : TyX K H x (.type a)) (h : kitB a b = some r) (k : Q (.bl r) H) : rIsi K [x, .ty b] H Q := ⟨x, .ty b, _, _, r, rfl, .ty b, ty, kit_ty h, k⟩
theorem x_isiT {a b : String} (ty : TyX K H x (.type a)) (h : kitB a b = some true) (k : Q (.bl true) H) : rIsi K [x, .ty b] H Q := x_isi ty h k
theorem x_isiF {a b : String} (ty : TyX K H x (.type a)) (h : kitB a b = some false) (k : Q (.bl false) H) : rIsi K [x, .ty b] H Q := x_isi ty h k
theorem x_lenS {s : Str} (h : s.length ≤ sizeLine) (k : Q (.int s.length) H) : ∃ x n, [V.str s] = [x] ∧ LenV K x H n ∧ Q (.int n) H := ⟨_, _, rfl, ⟨h, rfl⟩, k⟩
theorem x_lenL {a : Addr} {xs : List V} (h : SqL K H a xs) (k : Q (.int xs.length) H) : ∃ x n, [V.ref a] = [x] ∧ LenV K x H n ∧ Q (.int n) H := ⟨_, _, rfl, .inl ⟨xs, h, rfl⟩, k⟩
theorem x_lenT {a : Addr} {xs : List V} (h : SqT K H a xs) (k : Q (.int xs.length) H) : ∃ x n, [V.ref a] = [x] ∧ LenV K x H n ∧ Q (.int n) H := ⟨_, _, rfl, .inr ⟨xs, h, rfl⟩, k⟩
theorem x_ixT {a : Addr} {xs : List V} (h : SqT K H a xs) (e : atI xs i = some v) (k : Q v H) : rIxT K (.ref a) (.int i) H Q := ⟨a, xs, i, v, rfl, rfl, h, e, k⟩
theorem x_ixL {a : Addr} {xs : List V} (h : SqL K H a xs) (e : atI xs i = some v) (k : Q v H) : rIxL K (.ref a) (.int i) H Q := ⟨a, xs, i, v, rfl, rfl, h, e, k⟩
theorem x_ixS {s : Str} {c : Nat} (h : s.length ≤ sizeLine) (e : atI s.cps.toList i = some c) (k : Q (.str ⟨#[c]⟩) H) : rIxS (.str s) (.int i) H Q := ⟨s, i, c, rfl, rfl, h, e, k⟩
/-- what a dict of texts holds at a text -/
theorem dget_rd {a : Addr} {kvs : List (Key × V)} {s : Str} (h : Rd H a (.dK kvs)) : DGet H a (.str s) (valV kvs (Sum.inr s)) := .inl ⟨kvs, Sum.inr s, h, rfl, rfl⟩
end
/-- len of a dict that may be locked -/
theorem call_lenR {X : Cx} : CallR X (.builtin "len") (fun xs H Q => ∃ a kvs, xs = [V.ref a] ∧ Rd H a (.dK kvs) ∧ Q (.int kvs.length) H) := by
  intro pins s σ H xs us Q I r h
  obtain ⟨a, kvs, rfl, ha, q⟩ := h
  obtain ⟨u, rfl, ru⟩ := vals1 r
  cases ru
  exact d_len I ha fun t s' I' => ⟨.int kvs.length, H, I', ⟨t, rfl⟩, q⟩
/-- H with o (or nothing) at d -/
def put (H : Hp) (d : Addr) (o : Option HO) : Hp := fun b => if b = d then o else H b
theorem put_ne {H : Hp} {d b : Addr} {o : Option HO} (h : b ≠ d) : put H d o b = H b := by
  unfold put
  rw [if_neg h]
theorem put_same {H : Hp} {d : Addr} {o : Option HO} : put H d o d = o := by
  unfold put
  rw [if_pos rfl]
theorem put_upd {H : Hp} {d : Addr} {u : HO} : put H d (some u) = upd H d u := rfl
theorem put_self {H : Hp} {d : Addr} {o : Option HO} (h : H d = o) : put H d o = H := by
  funext b
  unfold put
  split
  · rename_i e
    rw [e, h]
  · rfl
/-- a thing is locked, or it was locked before -/
def tLockR (t : TS) : TS := fun D σ H => ∃ d u, Rd H d u ∧ Mut (some u) ∧ ∀ od HL, HL d = some (.frz od u) → (∀ b, b ≠ d → HL b = H b) →
  t ⟨fun σ' H' => H' d = some (.frz od u) ∧ D.nx σ' (put H' d (H d)), fun v H' => H' d = some (.frz od u) ∧ D.rt v (put H' d (H d)), fun σ' H' => H' d = some (.frz od u) ∧ D.bk σ' (put H' d (H d)), fun σ' H' => H' d = some (.frz od u) ∧ D.ct σ' (put H' d (H d))⟩ σ HL
def tLockRE (t : TE) : TE := fun σ H Q => ∃ d u, Rd H d u ∧ Mut (some u) ∧ ∀ od HL, HL d = some (.frz od u) → (∀ b, b ≠ d → HL b = H b) → t σ HL fun v H' => H' d = some (.frz od u) ∧ Q v (put H' d (H d))
theorem ps_lockR {X : Cx} {st : Stmt} {t : TS} (h : PS X st t) : PS X st (tLockR t) := by
  refine ⟨fun pins s σ H D I hw => ?_⟩
  obtain ⟨d, u, hd, mu, hw⟩ := hw
  rcases hd with hd | ⟨o, hd⟩
  · refine (ps_lock h).run pins s σ H D I ⟨d, u, hd, mu, fun od => ?_⟩
    have q := hw od (upd H d (.frz od u)) upd_same fun b hb => upd_ne hb
    rw [hd] at q
    exact q
  · refine thn (h.run pins s σ _ _ I (hw o H hd fun _ _ => rfl)) fun f s1 q => ?_
    cases f with
    | next => obtain ⟨σ', H', I2, e, q⟩ := q; rw [put_self (e.trans hd.symm)] at q; exact ⟨σ', _, I2, q⟩
    | brk => obtain ⟨σ', H', I2, e, q⟩ := q; rw [put_self (e.trans hd.symm)] at q; exact ⟨σ', _, I2, q⟩
    | cont => obtain ⟨σ', H', I2, e, q⟩ := q; rw [put_self (e.trans hd.symm)] at q; exact ⟨σ', _, I2, q⟩
    | ret v => obtain ⟨x, σ', H', I2, r, e, q⟩ := q; rw [put_self (e.trans hd.symm)] at q; exact ⟨x, σ', _, I2, r, q⟩
theorem pe_lockR {X : Cx} {e : Expr} {t : TE} (h : PE X e t) : PE X e (tLockRE t) := by
  refine ⟨fun pins s σ H Q I hw => ?_⟩
  obtain ⟨d, u, hd, mu, hw⟩ := hw
  rcases hd with hd | ⟨o, hd⟩
  · refine (pe_lock h).run pins s σ H Q I ⟨d, u, hd, mu, fun od => ?_⟩
    have q := hw od (upd H d (.frz od u)) upd_same fun b hb => upd_ne hb
    rw [hd] at q
    exact q
  · refine thn (h.run pins s σ _ _ I (hw o H hd fun _ _ => rfl)) fun v s1 ⟨x, H1, I2, r, e2, q⟩ => ?_
    rw [put_self (e2.trans hd.symm)] at q
    exact ⟨x, _, I2, r, q⟩
section
variable {H HL H' : Hp} {d : Addr} {kvs : List (Key × V)} {od : Obj} {S : List Addr}
theorem lock_le (h : Rd H d (.dK kvs)) (e : HL d = some (.frz od (.dK kvs))) (ne : ∀ b, b ≠ d → HL b = H b) : Le H HL := by
  refine ⟨fun b v p q => ?_, fun b C dx fs q => ?_, fun b xs q => ?_⟩
  · by_cases hb : b = d
    · subst hb
      have z : v = .dK kvs := by
        rcases q with q | ⟨o, q⟩ <;> rcases h with h | ⟨o', h⟩ <;> rw [h] at q <;> cases q
        · rfl
        · exact p.elim
        · rfl
      exact .inr ⟨od, by rw [e, z]⟩
    · unfold Rd
      rw [ne b hb]
      exact q
  · rw [ne]
    · exact q
    · rintro rfl
      rcases h with h | ⟨o', h⟩ <;> rw [h] at q <;> cases q
  · rw [ne]
    · exact q
    · rintro rfl
      rcases h with h | ⟨o', h⟩ <;> rw [h] at q <;> cases q
theorem unlock_sx (ne : ∀ b, b ≠ d → HL b = H b) (a : SX S HL H') : SX S H (put H' d (H d)) := fun b o n q => by
  by_cases hb : b = d
  · subst hb
    rw [put_same]
    exact q
  · rw [put_ne hb]
    exact a b o n (by rw [ne b hb]; exact q)
theorem unlock_le (h : Rd H d (.dK kvs)) (e : H' d = some (.frz od (.dK kvs))) : Le H' (put H' d (H d)) := by
  rcases h with h | ⟨o, h⟩
  · rw [h, put_upd]
    exact le_unlock e
  · refine ⟨fun b v p q => ?_, fun b C dx fs q => ?_, fun b xs q => ?_⟩
    · by_cases hb : b = d
      · subst hb
        have z : v = .dK kvs := by
          rcases q with q | ⟨o, q⟩ <;> rw [e] at q <;> cases q
          · exact p.elim
          · rfl
        refine .inr ⟨o, ?_⟩
        rw [put_same, h, z]
      · unfold Rd
        rw [put_ne hb]
        exact q
    · rw [put_ne]
      · exact q
      · rintro rfl
        rw [e] at q
        cases q
    · rw [put_ne]
      · exact q
      · rintro rfl
        rw [e] at q
        cases q
end

/-! ### names for the readings of operators and calls -/
def rLeS : R2 := fun x y H Q => ∃ i j, x = .str i ∧ y = .str j ∧ Q (.bl (!decide (j.cps.toList < i.cps.toList))) H
def rCatS : R2 := fun x y H Q => ∃ i j, x = .str i ∧ y = .str j ∧ i.length + j.length ≤ sizeLine ∧ Q (.str (i ++ j)) H
def rIsNo : R2 := fun x y H Q => y = .non ∧ Q (.bl (decide (x = .non))) H
def rNotNo : R2 := fun x y H Q => y = .non ∧ Q (.bl (!decide (x = .non))) H
def rInSg (neg : Bool) : R2 := fun x y H Q => ∃ (c : Nat) (z : Str), x = .str ⟨#[c]⟩ ∧ y = .str z ∧ Q (.bl (if neg then !decide (c ∈ z.cps.toList) else decide (c ∈ z.cps.toList))) H
def cLen (K : PySem.W.Frag) : List V → Hp → VK → Prop := fun xs H Q => ∃ x n, xs = [x] ∧ LenV K x H n ∧ Q (.int n) H
def cLenD : List V → Hp → VK → Prop := fun xs H Q => ∃ a kvs, xs = [V.ref a] ∧ Rd H a (.dK kvs) ∧ Q (.int kvs.length) H
def cMin2 : List V → Hp → VK → Prop := fun xs H Q => ∃ i j, xs = [.int i, .int j] ∧ Q (.int (if j < i then j else i)) H
def cMax2 : List V → Hp → VK → Prop := fun xs H Q => ∃ i j, xs = [.int i, .int j] ∧ Q (.int (if j > i then j else i)) H
def cAbs : List V → Hp → VK → Prop := fun xs H Q => ∃ i, xs = [.int i] ∧ Q (.int (if i < 0 then -i else i)) H
def cInt : List V → Hp → VK → Prop := fun xs H Q => (∃ i, xs = [.int i] ∧ Q (.int i) H) ∨ ∃ k, xs = [.bl k] ∧ Q (.int (if k then 1 else 0)) H
def cStr : List V → Hp → VK → Prop := fun xs H Q => ∃ i, xs = [.int i] ∧ i.natAbs.log2 < 1920 ∧ Q (.str (toString i)) H
def cList (K : PySem.W.Frag) : List V → Hp → VK → Prop := fun xs H Q => ∃ p ys, xs = [.ref p] ∧ (SqL K H p ys ∨ SqT K H p ys) ∧ ∀ l, H l = none → Q (.ref l) (upd H l (.lst ys))
def cTup (K : PySem.W.Frag) : List V → Hp → VK → Prop := fun xs H Q => ∃ p ys, xs = [.ref p] ∧ SqL K H p ys ∧ ∀ l, H l = none → Q (.ref l) (upd H l (.tup ys))
def cDict : List V → Hp → VK → Prop := fun xs H Q => ∃ (a : Addr) (kvs : List (Key × V)), xs = [.ref a] ∧ Rd H a (.dK kvs) ∧ ∀ p, H p = none → Q (.ref p) (upd H p (.dK kvs))
def cListD : List V → Hp → VK → Prop := fun xs H Q => ∃ (a : Addr) (kvs : List (Key × V)), xs = [.ref a] ∧ Rd H a (.dK kvs) ∧ ∀ p, H p = none → Q (.ref p) (upd H p (.lst (kvs.map fun kv => kV kv.1)))
section
variable {X : Cx}
theorem op_leS : OpR X (compareOp .LtE) rLeS := op_le_str
theorem op_catS : OpR X (binaryOp .Add) rCatS := op_add_str
theorem op_isNo : OpR X (compareOp .Is) rIsNo := op_isN
theorem op_notNo : OpR X (compareOp .IsNot) rNotNo := op_notN
theorem op_inSg : OpR X (compareOp .In) (rInSg false) := op_in_sign
theorem op_notInSg : OpR X (compareOp .NotIn) (rInSg true) := op_notIn_sign
theorem cl_len : CallR X (.builtin "len") (cLen X.K) := call_len
theorem cl_lenD : CallR X (.builtin "len") cLenD := call_lenR
theorem cl_min2 (hc : X.calm = true) : CallR X (.builtin "min") cMin2 := call_min2 hc
theorem cl_max2 (hc : X.calm = true) : CallR X (.builtin "max") cMax2 := call_max2 hc
theorem cl_abs : CallR X (.builtin "abs") cAbs := call_abs
theorem cl_int : CallR X (.type "int") cInt := call_int1
theorem cl_str : CallR X (.type "str") cStr := call_str_int
theorem cl_list : CallR X (.type "list") (cList X.K) := call_list_of
theorem cl_tup : CallR X (.type "tuple") (cTup X.K) := by
  intro pins s σ H xs us Q I r h
  obtain ⟨p, ys, e, hs, q⟩ := h
  exact call_tuple_of pins s σ H xs us Q I r ⟨p, ys, e, .inl ⟨hs, q⟩⟩
theorem cl_dict : CallR X (.type "dict") cDict := call_dictD
theorem cl_listD (hc : X.calm = true) : CallR X (.type "list") cListD := call_listD hc
end
section
variable {K : PySem.W.Frag} {H : Hp} {Q : VK} {i j : Int} {a : Addr}
theorem x_leS {s t : Str} (k : Q (.bl (!decide (t.cps.toList < s.cps.toList))) H) : rLeS (.str s) (.str t) H Q := ⟨s, t, rfl, rfl, k⟩
theorem x_catS {s t : Str} (h : s.length + t.length ≤ sizeLine) (k : Q (.str (s ++ t)) H) : rCatS (.str s) (.str t) H Q := ⟨s, t, rfl, rfl, h, k⟩
theorem x_isNo {x : V} (k : Q (.bl (decide (x = .non))) H) : rIsNo x .non H Q := ⟨rfl, k⟩
theorem x_notNo {x : V} (k : Q (.bl (!decide (x = .non))) H) : rNotNo x .non H Q := ⟨rfl, k⟩
theorem x_len {x : V} {n : Nat} (h : LenV K x H n) (k : Q (.int n) H) : cLen K [x] H Q := ⟨x, n, rfl, h, k⟩
theorem x_lenL' {xs : List V} (h : SqL K H a xs) (k : Q (.int xs.length) H) : cLen K [.ref a] H Q := ⟨_, _, rfl, .inl ⟨xs, h, rfl⟩, k⟩
theorem x_lenT' {xs : List V} (h : SqT K H a xs) (k : Q (.int xs.length) H) : cLen K [.ref a] H Q := ⟨_, _, rfl, .inr ⟨xs, h, rfl⟩, k⟩
theorem x_lenS' {s : Str} (h : s.length ≤ sizeLine) (k : Q (.int s.length) H) : cLen K [.str s] H Q := ⟨_, _, rfl, ⟨h, rfl⟩, k⟩
theorem x_lenD {kvs : List (Key × V)} (h : Rd H a (.dK kvs)) (k : Q (.int kvs.length) H) : cLenD [.ref a] H Q := ⟨a, kvs, rfl, h, k⟩
theorem x_min2 (k : Q (.int (if j < i then j else i)) H) : cMin2 [.int i, .int j] H Q := ⟨i, j, rfl, k⟩
theorem x_max2 (k : Q (.int (if j > i then j else i)) H) : cMax2 [.int i, .int j] H Q := ⟨i, j, rfl, k⟩
theorem x_abs (k : Q (.int (if i < 0 then -i else i)) H) : cAbs [.int i] H Q := ⟨i, rfl, k⟩
theorem x_cint (k : Q (.int i) H) : cInt [.int i] H Q := .inl ⟨i, rfl, k⟩
theorem x_cintB {b : Bool} (k : Q (.int (if b then 1 else 0)) H) : cInt [.bl b] H Q := .inr ⟨b, rfl, k⟩
theorem x_cstr (h : i.natAbs.log2 < 1920) (k : Q (.str (toString i)) H) : cStr [.int i] H Q := ⟨i, rfl, h, k⟩
theorem x_clist {ys : List V} (h : SqL K H a ys) (k : ∀ l, H l = none → Q (.ref l) (upd H l (.lst ys))) : cList K [.ref a] H Q := ⟨a, ys, rfl, .inl h, k⟩
theorem x_clistT {ys : List V} (h : SqT K H a ys) (k : ∀ l, H l = none → Q (.ref l) (upd H l (.lst ys))) : cList K [.ref a] H Q := ⟨a, ys, rfl, .inr h, k⟩
theorem x_ctup {ys : List V} (h : SqL K H a ys) (k : ∀ l, H l = none → Q (.ref l) (upd H l (.tup ys))) : cTup K [.ref a] H Q := ⟨a, ys, rfl, h, k⟩
theorem x_cdict {kvs : List (Key × V)} (h : Rd H a (.dK kvs)) (k : ∀ p, H p = none → Q (.ref p) (upd H p (.dK kvs))) : cDict [.ref a] H Q := ⟨a, kvs, rfl, h, k⟩
theorem x_clistD {kvs : List (Key × V)} (h : Rd H a (.dK kvs)) (k : ∀ p, H p = none → Q (.ref p) (upd H p (.lst (kvs.map fun kv => kV kv.1)))) : cListD [.ref a] H Q := ⟨a, kvs, rfl, h, k⟩
end

/-! ### walks over what is read -/
section
variable {K : PySem.W.Frag} {α β : Type} {R : RR α} {Hb : Hp} {a d : Addr} {o : Obj}
theorem x_lockR {t : TS} {D : Ends} {σ : L2.St} {H : Hp} {kvs : List (Key × V)} (h : Rd H d (.dK kvs)) (k : ∀ od HL, HL d = some (.frz od (.dK kvs)) → (∀ b, b ≠ d → HL b = H b) →
  t ⟨fun σ' H' => H' d = some (.frz od (.dK kvs)) ∧ D.nx σ' (put H' d (H d)), fun v H' => H' d = some (.frz od (.dK kvs)) ∧ D.rt v (put H' d (H d)), fun σ' H' => H' d = some (.frz od (.dK kvs)) ∧ D.bk σ' (put H' d (H d)), fun σ' H' => H' d = some (.frz od (.dK kvs)) ∧ D.ct σ' (put H' d (H d))⟩ σ HL) : tLockR t D σ H := ⟨d, _, h, trivial, k⟩
theorem x_lockRE {t : TE} {σ : L2.St} {H : Hp} {Q : VK} {kvs : List (Key × V)} (h : Rd H d (.dK kvs)) (k : ∀ od HL, HL d = some (.frz od (.dK kvs)) → (∀ b, b ≠ d → HL b = H b) →
  t σ HL fun v H' => H' d = some (.frz od (.dK kvs)) ∧ Q v (put H' d (H d))) : tLockRE t σ H Q := ⟨d, _, h, trivial, k⟩
theorem walk_itemsR {kvs : List (Key × V)} {l : List (Str × α)} (h : KVs R Hb kvs l) : Walk (Iti d o kvs) l.length (fun H => H d = some (.frz o (.dK kvs)))
    (fun i H x H' => ∃ T p v, l[i]? = some p ∧ R Hb v p.2 ∧ x = .ref T ∧ H T = none ∧ H' = upd H T (.tup [.str p.1, v])) := by
  rw [← Paired.length h]
  refine walk_items.mono (fun _ h => h) fun i H x H' hi _ y => ?_
  obtain ⟨T, k, v, rfl, h2, rfl, h4, h5⟩ := y
  obtain ⟨kv, ekv⟩ : ∃ kv, kvs[i]? = some kv := ⟨kvs[i], by simp [hi]⟩
  obtain ⟨p, ep, e1, r⟩ := Paired.getL h ekv
  dsimp only at h4 h5
  rw [ekv] at h4 h5
  cases h4
  cases h5
  exact ⟨T, p, _, ep, r, rfl, h2, by dsimp only; rw [e1]; rfl⟩
theorem walk_keysR {kvs : List (Key × V)} {l : List (Str × α)} (h : KVs R Hb kvs l) : Walk (Itk d o kvs) l.length (fun H => H d = some (.frz o (.dK kvs)))
    (fun i H x H' => H' = H ∧ ∃ p v, l[i]? = some p ∧ x = .str p.1 ∧ R Hb v p.2) := by
  rw [← Paired.length h]
  refine walk_keys.mono (fun _ h => h) fun i H x H' hi _ y => ?_
  obtain ⟨rfl, k, v, h1, rfl⟩ := y
  obtain ⟨p, ep, e1, r⟩ := Paired.getL h h1
  exact ⟨rfl, p, v, ep, by rw [show k = Sum.inr p.1 from e1]; rfl, r⟩
theorem walk_valsR {kvs : List (Key × V)} {l : List (Str × α)} (h : KVs R Hb kvs l) : Walk (Itd d o kvs) l.length (fun H => H d = some (.frz o (.dK kvs)))
    (fun i H x H' => H' = H ∧ ∃ p, l[i]? = some p ∧ R Hb x p.2) := by
  rw [← Paired.length h]
  refine walk_values.mono (fun _ h => h) fun i H x H' hi _ y => ?_
  obtain ⟨rfl, k, h1⟩ := y
  obtain ⟨p, ep, e1, r⟩ := Paired.getL h h1
  exact ⟨rfl, p, ep, r⟩
theorem walk_listR {xs : List V} {l : List α} (h : Paired (R Hb) xs l) : Walk (Itl K a) l.length (fun H => SqL K H a xs) (fun i H x H' => H' = H ∧ ∃ y, l[i]? = some y ∧ R Hb x y) := by
  rw [← Paired.length h]
  refine walk_list.mono (fun _ h => h) fun i H x H' hi _ y => ?_
  obtain ⟨rfl, h1⟩ := y
  exact ⟨rfl, Paired.getL h h1⟩
theorem walk_tupR {xs : List V} {l : List α} (h : Paired (R Hb) xs l) : Walk (Itt K a) l.length (fun H => SqT K H a xs) (fun i H x H' => H' = H ∧ ∃ y, l[i]? = some y ∧ R Hb x y) := by
  rw [← Paired.length h]
  refine walk_tup.mono (fun _ h => h) fun i H x H' hi _ y => ?_
  obtain ⟨rfl, h1⟩ := y
  exact ⟨rfl, Paired.getL h h1⟩
end
/-! ### the names that a dict has -/
def rK : RR (List Str) := fun H v l => ∃ a kvs, v = .ref a ∧ Rd H a (.dK kvs) ∧ kvs.map (·.1) = l.map Sum.inr
theorem mono_K : Mono rK := fun _ _ _ _ e ⟨a, kvs, h1, h2, h3⟩ => ⟨a, kvs, h1, e.rd _ _ trivial h2, h3⟩
theorem rD.toK {α : Type} {R : RR α} {H : Hp} {v : V} {l : List (Str × α)} (h : rD R H v l) : rK H v (l.map (·.1)) := by
  obtain ⟨a, kvs, h1, h2, h3⟩ := h
  exact ⟨a, kvs, h1, h2, h3.keys⟩
theorem keys_val {kvs : List (Key × V)} {l : List Str} (h : kvs.map (·.1) = l.map Sum.inr) (s : Str) : (valV kvs (Sum.inr s)).isSome = decide (s ∈ l) := by
  rw [← valV_any]
  by_cases m : s ∈ l
  · rw [decide_eq_true m, List.any_eq_true]
    have : (Sum.inr s : Key) ∈ kvs.map (·.1) := by
      rw [h]
      exact List.mem_map.mpr ⟨s, m, rfl⟩
    obtain ⟨kv, h1, h2⟩ := List.mem_map.mp this
    exact ⟨kv, h1, decide_eq_true h2⟩
  · rw [decide_eq_false m, List.any_eq_false]
    intro kv hkv q
    have q := of_decide_eq_true q
    have : (Sum.inr s : Key) ∈ l.map Sum.inr := by
      rw [← h]
      exact List.mem_map.mpr ⟨kv, hkv, q⟩
    obtain ⟨t, h1, h2⟩ := List.mem_map.mp this
    cases h2
    exact m h1
theorem x_din' {H : Hp} {a : Addr} {s : Str} {kvs : List (Key × V)} {R : Option V → Prop} (h : Rd H a (.dK kvs)) (k : R (valV kvs (Sum.inr s))) : ∃ a' o, V.ref a = .ref a' ∧ DGet H a' (.str s) o ∧ R o := ⟨a, _, rfl, dget_rd h, k⟩
theorem x_dni' {H : Hp} {a : Addr} {s : Str} {kvs : List (Key × V)} {R : Option V → Prop} (h : Rd H a (.dK kvs)) (k : R (valV kvs (Sum.inr s))) : ∃ a' o, V.ref a = .ref a' ∧ DGet H a' (.str s) o ∧ R o := ⟨a, _, rfl, dget_rd h, k⟩
theorem x_dg' {H : Hp} {a : Addr} {s : Str} {kvs : List (Key × V)} {v : V} {R : V → Prop} (h : Rd H a (.dK kvs)) (e : valV kvs (Sum.inr s) = some v) (k : R v) : ∃ a' v', V.ref a = .ref a' ∧ DGet H a' (.str s) (some v') ∧ R v' := ⟨a, v, rfl, by rw [← e]; exact dget_rd h, k⟩
theorem Rd.le {A B : Hp} {a : Addr} {kvs : List (Key × V)} (e : Le A B) (h : Rd A a (.dK kvs)) : Rd B a (.dK kvs) := e.rd _ _ trivial h
theorem SX.rd {A B : Hp} {a : Addr} {kvs : List (Key × V)} (e : SX [] A B) (h : Rd A a (.dK kvs)) : Rd B a (.dK kvs) := e.le0.rd _ _ trivial h
theorem nil_sx {S : List Addr} {A B : Hp} (a : SX [] A B) : SX S A B := a.sub fun _ h => absurd h List.not_mem_nil
theorem getLt {α : Type} {l : List α} {i : Nat} {x : α} (h : l[i]? = some x) : i < l.length := (List.getElem?_eq_some_iff.mp h).1
theorem getMem {α : Type} {l : List α} {i : Nat} {x : α} (h : l[i]? = some x) : x ∈ l := List.mem_of_getElem? h
/-! ### works -/
inductive Stand where
  | fin
  | hand (h : Int) (ms : List (Str × Str))
  | chance (ds : List (Str × (Str × Int)))
def rStand (K : PySem.W.Frag) : RR Stand := fun H v s => match s with
  | .fin => ∃ p, v = .ref p ∧ SqT K H p [.str "end"]
  | .hand h ms => ∃ p d, v = .ref p ∧ SqT K H p [.str "hand", .int h, d] ∧ rD rS H d ms
  | .chance ds => ∃ p d, v = .ref p ∧ SqT K H p [.str "chance", d] ∧ rD (rP K rS rI) H d ds
theorem mono_stand (K : PySem.W.Frag) : Mono (rStand K) := fun A B v s e h => by
  cases s with
  | fin => obtain ⟨p, h1, h2⟩ := h; exact ⟨p, h1, e.t h2⟩
  | hand h ms => obtain ⟨p, d, h1, h2, h3⟩ := h; exact ⟨p, d, h1, e.t h2, mono_D mono_S _ _ _ _ e h3⟩
  | chance ds => obtain ⟨p, d, h1, h2, h3⟩ := h; exact ⟨p, d, h1, e.t h2, mono_D (mono_P mono_S mono_I) _ _ _ _ e h3⟩

/-! ### sorted of a dict of texts, of a list of texts, whatever their number -/
def cSortD : List V → Hp → VK → Prop := fun xs H Q => ∃ (a : Addr) (kvs : List (Key × V)) (ks : List Str), xs = [.ref a] ∧ Rd H a (.dK kvs) ∧ kvs.map (·.1) = ks.map Sum.inr ∧
  ∀ ys p, ys.Perm ks → sortedS ys = true → H p = none → Q (.ref p) (upd H p (.lst (ys.map V.str)))
def cSortL (K : PySem.W.Frag) : List V → Hp → VK → Prop := fun xs H Q => ∃ (a : Addr) (ks : List Str), xs = [.ref a] ∧ SqL K H a (ks.map V.str) ∧
  ∀ ys p, ys.Perm ks → sortedS ys = true → H p = none → Q (.ref p) (upd H p (.lst (ys.map V.str)))
section
variable {X : Cx}
theorem cl_sortL : CallR X (.builtin "sorted") (cSortL X.K) := by
  intro pi s0 st Hp0 args us Qk In rel hh
  obtain ⟨lx, ks, rfl, hq, kk⟩ := hh
  obtain ⟨its, rv, hl, hsz⟩ := In.list hq
  rw [Vals.ref1 rel]
  have n0 : ks.length = its.length := by simpa using rv.length
  have nl : its.length ≤ sizeLine := by rw [← n0]; simpa using hsz
  refine PyProof.Rows.sorted_strsAny hl.isList rv.strs nl fun ot ys p1 p2 p3 => ?_
  obtain ⟨ep, at1⟩ := PyProof.Rows.sortedAll_at s0.heap its ot
  have fit : (ys.map V.str).length ≤ sizeLine := by rw [List.length_map, p2.length_eq, n0]; exact nl
  refine ⟨.ref _, upd Hp0 (s0.heap.objs.size + 1) (.lst (ys.map V.str)), ?_, rfl, kk ys _ p2 p3 (In.hok.fresh (Nat.le_succ _))⟩
  exact In.laid (t' := s0.toks) (fun _ _ => PyProof.Rows.sortedAll_old) (Nat.le_succ _) ⟨fit, ot.toList, ep, vals_of_strs p1, at1⟩
theorem cl_sortD (calmly : X.calm = true) : CallR X (.builtin "sorted") cSortD := by
  intro pi s0 st Hp0 args us Qk In rel hh
  obtain ⟨ad, kv0, ks, exs, rd0, names, kk⟩ := hh
  subst exs
  obtain ⟨u0, eu0, r0⟩ := vals1 rel
  subst eu0
  cases r0
  obtain ⟨zd, od0, vv, prs, dof⟩ := dk_rd In.hok rd0
  obtain ⟨epo, dAt⟩ := dof.dictAt
  have nm : vv.map (·.1) = ks.map Sum.inr := by rw [← names, prs.keys]
  have nl : vv.length = ks.length := by simpa using congrArg List.length nm
  have fit0 : vv.length ≤ sizeLine := by rw [← prs.length]; exact zd
  refine Calls.call_function_entry PyProof.Rows.kind_sorted PyProof.Rows.plain_sorted PyProof.Rows.entry_sorted (by exact PyProof.Rows.args_sorted1 _) ?_
  unfold Builtin.«sorted»
  refine wpAny_bind (m := checkCount "sorted" 1 1 _) ?_; refine wpAny_pure ?_
  refine wpAny_bind (PySem.W.kdu_collect (A := X.A.in1) (PySem.W.kdl_dict (knd := mixKind X.prog X.w) (kvs := vv) (ep := epo) od0) (In.ok.hd calmly) dAt fit0 fun hp1 tk1 got keep1 ⟨gsz, gat⟩ => ?_)
  have al : got.toList.length = ks.length := by rw [Array.length_toList, gsz, nl]
  have txt : StrsAre got.toList ks := strs_at al fun n v ev => by
    obtain ⟨kq, xq, f1, f2⟩ := gat n v (by rw [← Array.getElem?_toList]; exact ev)
    have f3 : (ks.map Sum.inr : List Key)[n]? = some kq := by rw [← nm, List.getElem?_map, f1]; rfl
    rw [List.getElem?_map] at f3
    match q4 : ks[n]? with
    | none =>
      rw [q4] at f3
      cases f3
    | some y =>
      rw [q4] at f3
      have f5 : Sum.inr y = kq := Option.some.inj f3
      subst f5
      obtain ⟨tt, f6⟩ := Value.isStrOf_shape (x := y) (v := v) f2
      exact ⟨y, tt, rfl, f6⟩
  have sml : got.toList.length ≤ sizeLine := by rw [al, ← nl]; exact fit0
  have In1 : Inv X pi st Hp0 { s0 with heap := hp1, toks := tk1 } := In.kept keep1
  refine wpAny_bind (wpAny_newList ?_ (by simpa using sml))
  have at0 : (hp1.push (seqObj "list" got.toList.toArray 0)).get? hp1.objs.size = some (seqObj "list" got.toList.toArray 0) := by exact Heap.get?_push_size _ rfl
  show wpAny _ _ _ _ _ { s0 with heap := hp1.push (seqObj "list" got.toList.toArray 0), toks := tk1 }
  refine wpAny_bind (wpAny_holding (wpAny_call_entry PyProof.Rows.slot_list_sort ⟨_, at0, rfl⟩ PyProof.Rows.entry_list_sort
    (PyProof.Rows.list_sort_treeKAny strKind_oneLt (s := { s0 with heap := hp1.push (seqObj "list" got.toList.toArray 0), toks := tk1 }) at0 txt.keysOf (fun _ _ _ e => keyKind_strs (by rw [← e]; exact txt)) sml fun sst p1 p2 => ⟨_, rfl, ?_⟩)
    (by exact PyProof.Rows.args_list_sort _)))
  obtain ⟨ys, g1, g2, g3⟩ := sorted_out_str txt p1 p2
  obtain ⟨ep2, at2⟩ := PyProof.Rows.sortedHeap_at (vs := got.toList) (out := (arrOf sst).map (·.2)) at0
  have fit : (ys.map V.str).length ≤ sizeLine := by rw [List.length_map, g2.length_eq, ← al]; exact sml
  refine wpAny_pure ⟨_, rfl, .ref hp1.objs.size, upd Hp0 hp1.objs.size (.lst (ys.map V.str)), ?_, rfl, kk ys _ g2 g3 (In1.hok.fresh (Nat.le_refl _))⟩
  refine In1.laid (t' := tk1) (fun b u e => ?_) (Nat.le_refl _) (show ObjOk X.prog X.w _ _ _ (.lst (ys.map V.str)) from ⟨fit, ((arrOf sst).map (·.2)).toList, ep2, vals_of_strs g1, ?_⟩)
  · have lt : b < hp1.objs.size := Heap.lt_size e
    rw [PyProof.Rows.sortedHeap_old (Nat.ne_of_lt lt) (Nat.lt_of_lt_of_eq (Nat.lt_succ_of_lt lt) (size_push' _ _).symm)]
    exact Heap.get?_push_of_some _ e
  · rw [Array.toArray_toList]
    exact at2
end
section
variable {K : PySem.W.Frag} {H : Hp} {Q : VK} {a : Addr}
theorem x_sortD {kvs : List (Key × V)} {ks : List Str} (h : Rd H a (.dK kvs)) (e : kvs.map (·.1) = ks.map Sum.inr) (k : ∀ ys p, ys.Perm ks → sortedS ys = true → H p = none → Q (.ref p) (upd H p (.lst (ys.map V.str)))) : cSortD [.ref a] H Q := ⟨a, kvs, ks, rfl, h, e, k⟩
theorem x_sortL {ks : List Str} (h : SqL K H a (ks.map V.str)) (k : ∀ ys p, ys.Perm ks → sortedS ys = true → H p = none → Q (.ref p) (upd H p (.lst (ys.map V.str)))) : cSortL K [.ref a] H Q := ⟨a, ks, rfl, h, k⟩
end

/-- a dict comprehension over a walk: Iv by the turn and the heap (the new dict at D within) -/
theorem dc_walk {J : It} {n : Nat} {G : Hp → Prop} {Y : Nat → Hp → V → Hp → Prop} (wk : Walk J n G Y) {g : TG} {tt : TT} {tk tv : TE} {own : List Nat} {σ : L2.St} {H1 : Hp} {D : Addr} {fin : Hp → Prop} (Iv : Nat → Hp → Prop)
    (ini : Iv 0 (upd H1 D (.dK []))) (std : ∀ i A, i ≤ n → Iv i A → G A)
    (one : ∀ i x A B, i < n → Iv i A → Y i A x B → g x (wipe σ own) B fun σ2 B2 => wipe σ2 own = wipe σ own ∧ tt σ2 B2 fun b B3 =>
      if b = true then tk σ2 B3 fun y B4 => tv σ2 B4 fun z B5 => ∃ kvs k, y = kV k ∧ B5 D = some (.dK kvs) ∧ kvs.length < sizeLine ∧ Iv (i + 1) (upd B5 D (.dK (putK kvs k z))) else Iv (i + 1) B3)
    (all : ∀ A, Iv n A → fin A) :
    ∃ W : Nat → Nat → Hp → Prop, (∃ m, W 0 m (upd H1 D (.dK []))) ∧ ∀ i m A, W i m A →
      (J.stop i A ∧ fin A) ∨ (J.go i A ∧ ∃ Nx : Hp → Prop, (∀ B, Nx B → ∃ m', m' < m ∧ W (i + 1) m' B) ∧ ∀ x B, J.yld i A x B → g x (wipe σ own) B fun σ2 B2 => wipe σ2 own = wipe σ own ∧ tt σ2 B2 fun b B3 =>
        if b = true then tk σ2 B3 fun y B4 => tv σ2 B4 fun z B5 => ∃ kvs k, y = kV k ∧ B5 D = some (.dK kvs) ∧ kvs.length < sizeLine ∧ Nx (upd B5 D (.dK (putK kvs k z))) else Nx B3) := by
  refine ⟨fun i m A => m + i = n ∧ Iv i A, ⟨n, rfl, ini⟩, fun i m A ⟨e, v⟩ => ?_⟩
  have gi := std i A (by omega) v
  rcases Nat.lt_or_ge i n with l | l
  · exact .inr ⟨wk.goes i A l gi, Iv (i + 1), fun B vB => ⟨m - 1, by omega, by omega, vB⟩, fun x B yl => one i x A B l v (wk.yields i A x B l gi yl)⟩
  · obtain rfl : i = n := by omega
    exact .inl ⟨wk.stops A gi, all A v⟩
section
variable {K : PySem.W.Frag} {σ : L2.St} {H : Hp} {Q : VK}
theorem x_lc {wi : TI} {g : TG} {tt : TT} {te : TE} {vs : List Nat} (k : wi σ H fun J H1 => ∀ D, H1 D = none → ∃ W : Nat → Nat → Hp → Prop, (∃ m, W 0 m (upd H1 D (.lst []))) ∧ ∀ i m H, W i m H →
  (J.stop i H ∧ Q (.ref D) H) ∨ (J.go i H ∧ ∃ Nx : Hp → Prop, (∀ H', Nx H' → ∃ m', m' < m ∧ W (i + 1) m' H') ∧ ∀ x H', J.yld i H x H' → g x (wipe σ vs) H' fun σ2 H2 => wipe σ2 vs = wipe σ vs ∧ tt σ2 H2 fun b H3 =>
    if b = true then te σ2 H3 fun y H4 => ∃ acc, H4 D = some (.lst acc) ∧ acc.length < sizeLine ∧ Nx (upd H4 D (.lst (acc ++ [y]))) else Nx H3)) : tLc wi g tt te vs σ H Q := k
theorem x_dc {wi : TI} {g : TG} {tt : TT} {tk tv : TE} {vs : List Nat} (k : wi σ H fun J H1 => ∀ D, H1 D = none → ∃ W : Nat → Nat → Hp → Prop, (∃ m, W 0 m (upd H1 D (.dK []))) ∧ ∀ i m H, W i m H →
  (J.stop i H ∧ Q (.ref D) H) ∨ (J.go i H ∧ ∃ Nx : Hp → Prop, (∀ H', Nx H' → ∃ m', m' < m ∧ W (i + 1) m' H') ∧ ∀ x H', J.yld i H x H' → g x (wipe σ vs) H' fun σ2 H2 => wipe σ2 vs = wipe σ vs ∧ tt σ2 H2 fun b H3 =>
    if b = true then tk σ2 H3 fun y H4 => tv σ2 H4 fun z H5 => ∃ kvs k, y = kV k ∧ H5 D = some (.dK kvs) ∧ kvs.length < sizeLine ∧ Nx (upd H5 D (.dK (putK kvs k z))) else Nx H3)) : tDc wi g tt tk tv vs σ H Q := k
theorem x_yes {QB : Bool → Hp → Prop} (k : QB true H) : tYes σ H QB := k
theorem x_wipe {n : Nat} {r : List Nat} {A : L2.St} {B C : Prop} (e : A = σ) (k : C) : A = σ ∧ C := ⟨e, k⟩
theorem x_sfld {ta tv : TE} {f : Str} {D : Ends} (k : tv σ H fun y H1 => ta σ H1 fun x H2 => ∃ a C dx fs, x = .ref a ∧ H2 a = some (.ins C dx fs) ∧ Cls K C ∧ NoAttr K C f ∧ fs.length < 1000 ∧ D.nx σ (upd H2 a (.ins C dx (putF f y fs)))) : sFld K ta tv f D σ H := k
theorem x_while {c : TT} {tb : TS} {D : Ends} (Pv : L2.St → Hp → Prop) (μ : L2.St → Hp → Nat) (h0 : Pv σ H)
    (hs : ∀ σ H, Pv σ H → c σ H fun b H1 => if b = true then tb { D with nx := fun σ' H' => Pv σ' H' ∧ μ σ' H' < μ σ H, ct := fun σ' H' => Pv σ' H' ∧ μ σ' H' < μ σ H, bk := D.nx } σ H1 else D.nx σ H1)
    (mono : ∀ σ H Q Q', (∀ b H1, Q b H1 → Q' b H1) → c σ H Q → c σ H Q') : tWhile c tb D σ H := while_by Pv μ h0 hs mono
end
/-- sorted by the keys, the same pairs -/
structure Srt {α : Type} (l l' : List (Str × α)) : Prop where
  perm : l'.Perm l
  srt : sortedS (l'.map (·.1)) = true
/-- the pairs of l in the order of ys -/
def pick {α : Type} [Inhabited α] (l : List (Str × α)) (ys : List Str) : List (Str × α) := ys.map fun k => (k, (lookA l k).getD default)
theorem pick_keys {α : Type} [Inhabited α] (l : List (Str × α)) (ys : List Str) : (pick l ys).map (·.1) = ys := by
  unfold pick
  rw [List.map_map]
  exact List.map_id' ys
theorem pick_perm {α : Type} [Inhabited α] {l : List (Str × α)} {ys : List Str} (hn : (l.map (·.1)).Nodup) (h : ys.Perm (l.map (·.1))) : (pick l ys).Perm l := by
  have h1 : (pick l ys).Perm (pick l (l.map (·.1))) := h.map _
  have h2 : pick l (l.map (·.1)) = l := by
    unfold pick
    rw [List.map_map]
    have : ∀ p ∈ l, ((fun k => (k, (lookA l k).getD default)) ∘ fun x => x.1) p = p := fun p hp => by
      show (p.1, (lookA l p.1).getD default) = p
      rw [lookA_nodup hn (show (p.1, p.2) ∈ l from hp)]
      rfl
    exact (List.map_congr_left this).trans (List.map_id' l)
  rw [h2] at h1
  exact h1
theorem pick_srt {α : Type} [Inhabited α] {l : List (Str × α)} {ys : List Str} (hn : (l.map (·.1)).Nodup) (h : ys.Perm (l.map (·.1))) (hs : sortedS ys = true) : Srt l (pick l ys) := ⟨pick_perm hn h, by rw [pick_keys]; exact hs⟩
/-- a new key goes to the end -/
theorem putK_fresh {kvs : List (Key × V)} {l : List Str} {s : Str} (v : V) (e : kvs.map (·.1) = l.map Sum.inr) (n : s ∉ l) : putK kvs (Sum.inr s) v = kvs ++ [(Sum.inr s, v)] := by
  refine putK_new v ?_
  have := keys_val e s
  rw [decide_eq_false n] at this
  cases h : valV kvs (Sum.inr s) with
  | none => rfl
  | some x =>
    rw [h] at this
    cases this
theorem take_succ_of {α : Type} {l : List α} {i : Nat} {x : α} (h : l[i]? = some x) : l.take (i + 1) = l.take i ++ [x] := by
  rw [List.take_add_one, h]
  rfl
theorem nodup_take {α : Type} {l : List α} (hn : l.Nodup) {i : Nat} {x : α} (h : l[i]? = some x) : x ∉ l.take i := by
  intro m
  obtain ⟨j, hj⟩ := List.getElem?_of_mem m
  have hj' := getLt hj
  rw [List.length_take] at hj'
  rw [List.getElem?_take] at hj
  split at hj
  · rename_i hlt
    have := nd_ix hn h hj
    omega
  · cases hj
instance : Inhabited Stand := ⟨.fin⟩

/-! ### {k: d[k] for k in sorted(d)} -/
theorem wipe1 (σ : L2.St) (j : Nat) : wipe σ [j] = σ.set j none := rfl
theorem wipe_set (σ : L2.St) (j : Nat) (v : Option V) : wipe ((wipe σ [j]).set j v) [j] = wipe σ [j] := by
  rw [wipe1, wipe1, List.set_set, List.set_set]
theorem wiped_other {σ : L2.St} {i j : Nat} {x : Option V} {v : Option (Option V)} (h : σ[i]? = v) (n : i ≠ j) : ((wipe σ [j]).set j x)[i]? = v := by
  rw [wipe1, List.set_set, List.getElem?_set_ne (Ne.symm n)]
  exact h
theorem wiped_self {σ : L2.St} {j : Nat} {x : V} (h : j < σ.length) : ((wipe σ [j]).set j (some x))[j]? = some (some x) := by
  rw [wipe1, List.set_set, List.getElem?_set_self h]
theorem lt_size {n : Nat} (h : n ≤ 10000) : n < sizeLine := Nat.lt_of_le_of_lt h (by decide)
theorem sx_nil_of {S : List Addr} {A B : Hp} (a : SX S A B) (h : ∀ b ∈ S, A b = none) : SX [] A B := fun b o _ q => a b o (fun m => by rw [h b m] at q; cases q) q
theorem x_copyD {α : Type} [Inhabited α] {R : RR α} (mR : Mono R) {K : PySem.W.Frag} {σ : L2.St} {H : Hp} {Q : VK} {i j : Nat} {d : Addr} {l : List (Str × α)} {S : List Addr} (hS : ∀ b ∈ S, H b ≠ none) (hi : σ[i]? = some (some (.ref d))) (hj : j < σ.length) (hij : i ≠ j)
    (h : rD R (hid S H) (.ref d) l) (hn : (l.map (·.1)).Nodup) (hl : l.length ≤ 10000) (k : ∀ D H' l', SX [] H H' → H D = none → rD R (hid S H') (.ref D) l' → H' D ≠ none → Srt l l' → Q (.ref D) H') :
    tDc (iList K (tCB cSortD (tCons (tVar i) tNil))) (gName j) tYes (tVar j) (tDGet (tVar i) (tVar j)) [j] σ H Q := by
  obtain ⟨d', kvs, hd, hr0, hk⟩ := h
  cases hd
  have hr : Rd H d (.dK kvs) := le_hid.rd _ _ trivial hr0
  refine x_dc (x_iList (x_CB (x_cons (x_var hi (x_nil ?_)))))
  refine x_sortD hr hk.keys fun ys p hp hs np => ?_
  refine x_itl (sqL upd_same) fun D hD => ?_
  have hDp : D ≠ p := by
    rintro rfl
    rw [upd_same] at hD
    cases hD
  have hD0 : H D = none := by rw [upd_ne hDp] at hD; exact hD
  have ysn : ys.Nodup := hp.nodup_iff.mpr hn
  have hyl : ys.length = l.length := by rw [hp.length_eq, List.length_map]
  refine dc_walk (walk_list (xs := ys.map V.str)) (fun n A => SX [] H A ∧ A p = some (.lst (ys.map V.str)) ∧ ∃ kv, A D = some (.dK kv) ∧ KVs R (hid S H) kv (pick l (ys.take n))) ?_ ?_ ?_ ?_
  · exact ⟨(SX.new np).trans (SX.new hD), by rw [upd_ne (Ne.symm hDp)]; exact upd_same, [], upd_same, .nil⟩
  · exact fun n A _ ⟨_, h2, _⟩ => sqL h2
  · rintro n x A B hn' ⟨s1, s2, kv, s3, s4⟩ ⟨rfl, hx⟩
    rw [List.getElem?_map] at hx
    cases ey : ys[n]? with
    | none => rw [ey] at hx; cases hx
    | some y =>
      rw [ey] at hx
      cases hx
      have ym : y ∈ l.map (·.1) := hp.mem_iff.mp (getMem ey)
      obtain ⟨v, a, e1, e2, r⟩ : ∃ v a, valV kvs (Sum.inr y) = some v ∧ lookA l y = some a ∧ R (hid S H) v a := by
        rcases KVs.look y hk with q | ⟨_, q⟩
        · exact q
        · obtain ⟨a, e⟩ := lookA_some ym
          rw [e] at q
          cases q
      refine x_name rfl ⟨wipe_set σ j _, x_yes (iteT (x_var (wiped_self hj) (x_dget (x_var (wiped_other hi hij) (x_var (wiped_self hj) ?_)))))⟩
      refine x_dg' (s1.rd hr) e1 ⟨kv, Sum.inr y, rfl, s3, ?_, ?_⟩
      · rw [Paired.length s4]
        unfold pick
        rw [List.length_map, List.length_take]
        exact lt_size (by omega)
      have kk : kv.map (·.1) = (ys.take n).map Sum.inr := by rw [s4.keys, pick_keys]
      rw [putK_fresh v kk (nodup_take ysn ey)]
      have nD : p ≠ D := Ne.symm hDp
      refine ⟨sx_nil_of (S := [D]) ((nil_sx s1).trans (SX.mut List.mem_cons_self)) (by simp [hD0]), by rw [upd_ne nD]; exact s2, _, upd_same, ?_⟩
      have : pick l (ys.take (n + 1)) = pick l (ys.take n) ++ [(y, a)] := by
        rw [take_succ_of ey]
        unfold pick
        rw [List.map_append]
        show _ ++ [(y, (lookA l y).getD default)] = _
        rw [e2]
        rfl
      rw [this]
      exact Paired.app s4 (.cons ⟨rfl, r⟩ .nil)
  · rintro A ⟨s1, s2, kv, s3, s4⟩
    rw [List.length_map, List.take_length] at s4
    have nDS : D ∉ S := fun m => hS D m hD0
    exact k D A _ s1 hD0 ⟨D, kv, rfl, .inl (by rw [hid_of nDS]; exact s3), KVs.le mR (nil_sx s1).le s4⟩ (by rw [s3]; exact fun z => nomatch z) (pick_srt hn hp hs)
/-! ### fields -/
theorem putF_fresh : ∀ {fs : List (Str × V)} {f : Str} {v : V}, f ∉ fs.map (·.1) → putF f v fs = fs ++ [(f, v)]
  | [], f, v, _ => rfl
  | (g, w) :: r, f, v, h => by
    have n : ¬ g = f := fun e => h (List.mem_cons.mpr (.inl e.symm))
    show (if g = f then (g, v) :: r else (g, w) :: putF f v r) = _
    rw [if_neg n, putF_fresh fun m => h (List.mem_cons_of_mem _ m)]
    rfl
theorem look_here {f : Str} {v : V} {r : List (Str × V)} : List.lookup f ((f, v) :: r) = some v := by simp [List.lookup]
theorem look_next {f g : Str} {v w : V} {r : List (Str × V)} (n : (f == g) = false) (h : List.lookup f r = some w) : List.lookup f ((g, v) :: r) = some w := by
  simp only [List.lookup, n]
  exact h

/-! ### y = {k: v for ..}, y a local name -/
section
variable {X : Cx}
theorem sw_dc {ke ve : Expr} {gs : List Comprehension} {sco : Scope} {po pn : Pos} {y : Str} {ln : Nat} {en : Env} (f1 : en.scope.kind = .function) (f2 : en.scope.names.lookup y = some .local) (f3 : (pn.line == po.line) = true)
    (f4 : (sco.names.any fun (n, k) => n == y && (k == .local || k == .cell)) = false) : swapsWith (.DictComp ke ve gs sco po) (some (.Name y pn)) ln en = pure true := by
  have g1 : en.kindOf y = some .local := f2
  have g2 : en.blockKind = .function := by unfold Env.blockKind; rw [f1] <;> rfl
  unfold swapsWith
  simp only [g2, g1, f4, Expr.pos, f3]
  rfl
theorem ps_setDc {i : Nat} {y : Str} {py : Pos} {ke ve tgt itr : Expr} {cnd : List Expr} {sco : Scope} {own : List (Str × Nat)} {po sp : Pos} {wi : TI} {g : TG} {tt : TT} {tk tv : TE} (hc : X.calm = true) (hN : X.N.Nodup) (hy : X.N[i]? = some y) (hyl : X.env.scope.names.lookup y = some .local)
    (hsw : swapsWith (.DictComp ke ve [⟨tgt, itr, cnd, 0⟩] sco po) (some (.Name y py)) sp.line X.env = pure true) (hi : PI X tgt itr wi) (ok : BlkOk X.N X.env.scope sco own)
    (hg : ∀ (s : Shared) (H : Hp) (C : Addr) (cl : List (Str × Addr)) (fp : List Addr), PG (X.blk s H sco (compEnvC sco cl C X.env) fp) tgt g) (ht : ∀ (s : Shared) (H : Hp) (C : Addr) (cl : List (Str × Addr)) (fp : List Addr), PTs (X.blk s H sco (compEnvC sco cl C X.env) fp) cnd tt)
    (hk : ∀ (s : Shared) (H : Hp) (C : Addr) (cl : List (Str × Addr)) (fp : List Addr), PE (X.blk s H sco (compEnvC sco cl C X.env) fp) ke tk) (hv : ∀ (s : Shared) (H : Hp) (C : Addr) (cl : List (Str × Addr)) (fp : List Addr), PE (X.blk s H sco (compEnvC sco cl C X.env) fp) ve tv)
    (hs : ∀ x, foldedSetIterable itr X.env x = pure x := by intro _; rfl) :
    PS X (.Assign [.Name y py] (.DictComp ke ve [⟨tgt, itr, cnd, 0⟩] sco po) sp) (tAsg (tDc wi g tt tk tv (own.map (·.2))) (gName i)) := by
  refine ⟨fun pi s0 st A D In hh => ?_⟩
  rw [exec_Assign_Name_used _ _ _ _ hsw]
  refine wpAny_bind (wpAny_standAt ?_)
  refine wpAny_bind ?_
  show wpAny _ X.A (do let _ ← comprehension (.DictComp ke ve [⟨tgt, itr, cnd, 0⟩] sco po) sco X.env (firstIterPos [⟨tgt, itr, cnd, 0⟩] po) newDict false (eval itr X.env) (some (assign (.Name y py) X.env))) _ _ s0
  have h2 : tDc wi g tt tk tv (own.map (·.2)) st A (fun x B => gName i x st B D.nx) := hh
  refine wpAny_bind (thn (dc_core (Qf := fun _ s' => SP X pi D .next s') hc hN In hi ok hg ht hk hv hs h2 fun Ld C s1 m B In1 q hn fr => ?_) fun _ s1 hq => ?_)
  · show wpAny _ _ (assign (.Name y py) X.env (.ref Ld)) _ _ _
    obtain ⟨f0, f1, f2, f3, f4, f5⟩ := fr
    refine wpAny_assign_Name (store_ok2 (v := V.ref Ld) In1 hN hy (.inl hyl) rfl (fun s2 In2 ⟨a, sb, ha⟩ => ?_) (.inr hyl))
    have ne : C ≠ a := by
      rcases ha with z | z
      · exact fun e => f1 (e.trans z)
      · exact fun e => f4 y a z e.symm
    exact ⟨m, hn.sameBut sb ne, fun h3 sb3 => ⟨_, B, In2.turned (t' := s2.toks) (fun b o hb e => (sb3.2 b hb).trans e) f0 f1 f3 f4 f5, q⟩⟩
  · exact wpAny_pure (wpAny_pure hq)
end

theorem KVs.at_ {α : Type} {R : RR α} {H : Hp} {kvs : List (Key × V)} {l : List (Str × α)} {x : Str} {a : α} (h : KVs R H kvs l) (e : lookA l x = some a) : ∃ v, valV kvs (Sum.inr x) = some v ∧ R H v a := by
  rcases KVs.look x h with ⟨v, b, e1, e2, r⟩ | ⟨_, q⟩
  · rw [e] at e2
    cases e2
    exact ⟨v, e1, r⟩
  · rw [e] at q
    cases q
theorem KVs.in_ {α : Type} {R : RR α} {H : Hp} {kvs : List (Key × V)} {l : List (Str × α)} {p : Str × α} (h : KVs R H kvs l) (hn : (l.map (·.1)).Nodup) (m : p ∈ l) : ∃ v, valV kvs (Sum.inr p.1) = some v ∧ R H v p.2 := h.at_ (lookA_nodup hn m)

/-! ### the rules that speak of the written part, by its name -/
section
variable {X : Cx} {K : PySem.W.Frag}
theorem w_ixT (h : X.K = K) : IxR X (rIxT K) := by subst h; exact ix_tup
theorem w_ixL (h : X.K = K) : IxR X (rIxL K) := by subst h; exact ix_list
theorem w_slL (h : X.K = K) : SlR X (rSlL K) := by subst h; exact sl_list
theorem w_slT (h : X.K = K) : SlR X (rSlA K) := by subst h; exact sl_tupA
theorem w_in (h : X.K = K) : OpR X (compareOp .In) (rIn K false) := by subst h; exact op_in_seq
theorem w_nin (h : X.K = K) : OpR X (compareOp .NotIn) (rIn K true) := by subst h; exact op_notIn_seq
theorem w_catT (h : X.K = K) : OpR X (binaryOp .Add) (rCatA K) := by subst h; exact op_catA
theorem w_eqD (h : X.K = K) (hu : X.A.units + 64 < cLine) : OpR X (compareOp .Eq) (rEqD K) := by subst h; exact op_eqD hu
theorem w_neD (h : X.K = K) (hu : X.A.units + 64 < cLine) : OpR X (compareOp .NotEq) (rNeD K) := by subst h; exact op_neD hu
theorem w_ltT (h : X.K = K) (hu : X.A.units < cLine) : OpR X (compareOp .Lt) (rLtT K) := by subst h; exact op_ltT hu
theorem w_len (h : X.K = K) : CallR X (.builtin "len") (cLen K) := by subst h; exact cl_len
theorem w_list (h : X.K = K) : CallR X (.type "list") (cList K) := by subst h; exact cl_list
theorem w_tup (h : X.K = K) : CallR X (.type "tuple") (cTup K) := by subst h; exact cl_tup
theorem w_sortL (h : X.K = K) : CallR X (.builtin "sorted") (cSortL K) := by subst h; exact cl_sortL
theorem w_max (h : X.K = K) (hc : X.calm = true) : CallR X (.builtin "max") (rMax K) := by subst h; exact cr_max hc
theorem w_min (h : X.K = K) (hc : X.calm = true) : CallR X (.builtin "min") (rMin K) := by subst h; exact cr_min hc
theorem w_sum (h : X.K = K) (hc : X.calm = true) : CallR X (.builtin "sum") (rSum K) := by subst h; exact cr_sum hc
theorem w_all (h : X.K = K) (hc : X.calm = true) : CallR X (.builtin "all") (rAll K) := by subst h; exact cr_all hc
theorem w_any (h : X.K = K) (hc : X.calm = true) : CallR X (.builtin "any") (rAny K) := by subst h; exact cr_any hc
theorem w_isi (h : X.K = K) : CallR X (.builtin "isinstance") (rIsi K) := by subst h; exact call_isi
theorem w_isiT (h : X.K = K) : CallR X (.builtin "isinstance") (rIsiT K) := by subst h; exact call_isiT
theorem w_fld {e : Expr} {f : Str} {ta : TE} {pos : Pos} (h : X.K = K) (he : PE X e ta) (hb : attributeBase e f X.env (eval e X.env) = eval e X.env) : PE X (.Attribute e f pos) (tFld K ta f) := by subst h; exact pe_fld he hb
theorem w_pilist {tg l : Expr} {tl : TE} (h : X.K = K) (hl : PE X l tl) : PI X tg l (iList K tl) := by subst h; exact pi_list hl
theorem w_pitup {tg l : Expr} {tl : TE} (h : X.K = K) (hl : PE X l tl) : PI X tg l (iTup K tl) := by subst h; exact pi_tup hl
theorem w_pgtup {es : List Expr} {k n : Nat} {t : TGs} {pos : Pos} (h : X.K = K) (hc : X.calm = true) (ht : PGs X es t) (hn : (assignEach es X.env).length = n) (hst : (assignEach es X.env).findIdx? (·.1) = none) : PG X (.Tuple es k pos) (gTup K n t) := by subst h; exact pg_tup hc ht hn hst
theorem w_truth {a : Expr} {ta : TE} (h : X.K = K) (ha : PE X a ta) (he : ∀ whole, isTrue a X.env whole = (do let v ← whole; standAt a.pos; holding [v] (truthy v))) : PT X a (tTru K ta) := by subst h; exact pt_truth ha he
theorem w_bm {T name id : String} {r : V → List V → Hp → VK → Prop} {o e : Expr} {es : List Expr} {to : TE} {t : TA} {apos cpos : Pos} (h : X.K = K) (pa : PlainAttrs T) (slot : Slot T name id) (hty : typeOf (.builtin id) = pure (.type "method_descriptor")) (hm : MtR X id r) (ho : PE X o to) (ha : PA X (e :: es) t)
    (hp : PE X (.Call (.Attribute o name apos) (e :: es) [] cpos) (tBM X.K T r to t)) : PE X (.Call (.Attribute o name apos) (e :: es) [] cpos) (tBM K T r to t) := by subst h; exact hp
end

/-- what is hidden may grow by what is new -/
theorem le_hidS {S S' : List Addr} {H A : Hp} (a : SX S H A) (h : ∀ b ∈ S', b ∈ S ∨ H b = none) : Le (hid S H) (hid S' A) := le_of fun b o q => by
  obtain ⟨n, q⟩ := hid_at q
  rw [hid_of]
  · exact a b o n q
  · intro m
    rcases h b m with z | z
    · exact n z
    · rw [q] at z
      cases z
theorem hid_new {S : List Addr} {H : Hp} {p : Addr} {o : HO} (hp : H p = none) (hS : ∀ b ∈ S, H b ≠ none) : hid S (upd H p o) p = some o := by
  rw [hid_of fun m => hS p m hp]
  exact upd_same
theorem there {S : List Addr} {A B : Hp} (a : SX [] A B) (h : ∀ b ∈ S, A b ≠ none) : ∀ b ∈ S, B b ≠ none := fun b m e => h b m (a.free e List.not_mem_nil)

/-! ### the one ascending list of texts -/
def leS (a b : Str) : Prop := a.cps.toList ≤ b.cps.toList
theorem leS_trans {a b c : Str} (h1 : leS a b) (h2 : leS b c) : leS a c := List.le_trans h1 h2
theorem leS_antisymm {a b : Str} (h1 : leS a b) (h2 : leS b a) : a = b := by
  have e : a.cps.toList = b.cps.toList := List.le_antisymm h1 h2
  obtain ⟨a⟩ := a
  obtain ⟨b⟩ := b
  have : a = b := Array.toList_inj.mp e
  rw [this]
theorem rising_pw : ∀ (p : Str) (l : List Str), risingS p l = true → (p :: l).Pairwise leS
  | p, [], _ => List.pairwise_singleton _ _
  | p, x :: r, h => by
    have h : (!ltCps x.cps.toList p.cps.toList && risingS x r) = true := h
    rw [Bool.and_eq_true] at h
    have h1 : leS p x := by
      have q := h.1
      rw [PyProof.Rows.ltCps_eq] at q
      exact List.not_lt.mp (by simpa using q)
    have h2 := rising_pw x r h.2
    refine List.pairwise_cons.mpr ⟨fun y hy => ?_, h2⟩
    rcases List.mem_cons.mp hy with rfl | hy
    · exact h1
    · exact leS_trans h1 (List.rel_of_pairwise_cons h2 hy)
theorem sortedS_pw : ∀ {l : List Str}, sortedS l = true → l.Pairwise leS
  | [], _ => .nil
  | x :: r, h => rising_pw x r h
theorem sorted_one {l l' : List Str} (h : sortedS l = true) (h' : sortedS l' = true) (p : l.Perm l') : l = l' :=
  List.Perm.eq_of_pairwise (fun _ _ _ _ a b => leS_antisymm a b) (sortedS_pw h) (sortedS_pw h') p
theorem x_setF {K : PySem.W.Frag} {H : Hp} {C a dx : Addr} {f : Str} {fs : List (Str × V)} {y : V} {R : Hp → Prop} (ns : List Str) (h : H a = some (.ins C dx fs)) (c : Cls K C) (n : NoAttr K C f) (e : fs.map (·.1) = ns) (hl : ns.length < 1000) (hf : decide (f ∈ ns) = false)
    (k : R (upd H a (.ins C dx (fs ++ [(f, y)])))) : ∃ a' C' dx' fs', V.ref a = .ref a' ∧ H a' = some (.ins C' dx' fs') ∧ Cls K C' ∧ NoAttr K C' f ∧ fs'.length < 1000 ∧ R (upd H a' (.ins C' dx' (putF f y fs'))) :=
  ⟨a, C, dx, fs, rfl, h, c, n, by rw [← e, List.length_map] at hl; exact hl, by
    rw [putF_fresh (by rw [e]; exact of_decide_eq_false hf)]
    exact k⟩
theorem x_getF {K : PySem.W.Frag} {H : Hp} {C a dx : Addr} {f : Str} {fs : List (Str × V)} {v : V} {R : V → Prop} (h : H a = some (.ins C dx fs)) (c : Cls K C) (n : NoAttr K C f) (e : fs.lookup f = some v) (k : R v) :
    ∃ a' C' dx' fs' v', V.ref a = .ref a' ∧ H a' = some (.ins C' dx' fs') ∧ Cls K C' ∧ NoAttr K C' f ∧ fs'.lookup f = some v' ∧ R v' := ⟨a, C, dx, fs, v, rfl, h, c, n, e, k⟩

/-! ### d[s] = a, told by what the dict holds -/
section
variable {α : Type} {R : RR α} {H : Hp}
theorem putA_keys (s : Str) (a : α) : ∀ l : List (Str × α), (putA l s a).map (·.1) = if s ∈ l.map (·.1) then l.map (·.1) else l.map (·.1) ++ [s]
  | [] => rfl
  | (k, b) :: r => by
    unfold putA
    by_cases e : k = s
    · subst e
      rw [if_pos rfl, if_pos (by simp)]
      rfl
    · rw [if_neg e]
      show k :: (putA r s a).map (·.1) = _
      rw [putA_keys s a r]
      by_cases m : s ∈ r.map (·.1)
      · rw [if_pos m, List.map_cons, if_pos (List.mem_cons_of_mem _ m)]
      · rw [if_neg m, if_neg (by
          intro q
          rcases List.mem_cons.mp q with q | q
          · exact e q.symm
          · exact m q)]
        rfl
theorem putA_mem {s : Str} {a : α} {p : Str × α} : ∀ {l : List (Str × α)}, p ∈ putA l s a → p ∈ l ∨ p = (s, a)
  | [], h => .inr (List.mem_singleton.mp h)
  | (k, b) :: r, h => by
    unfold putA at h
    split at h
    · rename_i e
      rcases List.mem_cons.mp h with h | h
      · exact .inr (by rw [h, e])
      · exact .inl (List.mem_cons_of_mem _ h)
    · rcases List.mem_cons.mp h with h | h
      · exact .inl (by rw [h]; exact List.mem_cons_self)
      · rcases putA_mem h with h | h
        · exact .inl (List.mem_cons_of_mem _ h)
        · exact .inr h
theorem putA_nodup {s : Str} {a : α} {l : List (Str × α)} (h : (l.map (·.1)).Nodup) : ((putA l s a).map (·.1)).Nodup := by
  rw [putA_keys]
  split
  · exact h
  · exact nd_snoc h (by assumption)
theorem putA_len {s : Str} {a : α} {l : List (Str × α)} : (putA l s a).length ≤ l.length + 1 := by
  have := congrArg List.length (putA_keys s a l)
  rw [List.length_map] at this
  rw [this]
  split
  · simp
  · simp
theorem putA_pos {s : Str} {a : α} {l : List (Str × α)} : 1 ≤ (putA l s a).length := by
  cases l with
  | nil => exact Nat.le_refl _
  | cons p r =>
    obtain ⟨k, b⟩ := p
    unfold putA
    split <;> simp
theorem putA_fresh {s : Str} {a : α} : ∀ {l : List (Str × α)}, s ∉ l.map (·.1) → putA l s a = l ++ [(s, a)]
  | [], _ => rfl
  | (k, b) :: r, h => by
    unfold putA
    rw [if_neg (fun e => h (List.mem_cons.mpr (.inl e.symm))), putA_fresh fun m => h (List.mem_cons_of_mem _ m)]
    rfl
theorem putA_key_in {s : Str} {a : α} {l : List (Str × α)} : s ∈ (putA l s a).map (·.1) := by
  rw [putA_keys]
  split
  · assumption
  · simp
theorem putA_key_mono {s x : Str} {a : α} {l : List (Str × α)} (h : x ∈ l.map (·.1)) : x ∈ (putA l s a).map (·.1) := by
  rw [putA_keys]
  split
  · exact h
  · exact List.mem_append_left _ h
theorem putA_key_of {s x : Str} {a : α} {l : List (Str × α)} (h : x ∈ (putA l s a).map (·.1)) : x ∈ l.map (·.1) ∨ x = s := by
  rw [putA_keys] at h
  split at h
  · exact .inl h
  · rcases List.mem_append.mp h with h | h
    · exact .inl h
    · exact .inr (List.mem_singleton.mp h)
theorem putK_cons_pos {p : Key × V} {r : List (Key × V)} {k : Key} {v : V} (e : p.1 = k) (hn : valV r k = none) : putK (p :: r) k v = (p.1, v) :: r := by
  unfold putK
  rw [if_pos (by rw [List.any_cons, decide_eq_true e]; rfl), List.map_cons, if_pos e]
  congr 1
  have : ∀ q ∈ r, (if q.1 = k then (q.1, v) else q) = q := fun q hq => by
    rw [if_neg]
    intro z
    have : (r.any fun kv => decide (kv.1 = k)) = true := List.any_eq_true.mpr ⟨q, hq, decide_eq_true z⟩
    rw [valV_any, hn] at this
    cases this
  rw [List.map_congr_left this, List.map_id']
theorem putK_cons_neg {p : Key × V} {r : List (Key × V)} {k : Key} {v : V} (e : ¬ p.1 = k) : putK (p :: r) k v = p :: putK r k v := by
  unfold putK
  rw [List.any_cons, decide_eq_false e, Bool.false_or]
  split
  · rw [List.map_cons, if_neg e]
  · rfl
theorem KVs.put {s : Str} {v : V} {a : α} (hr : R H v a) : ∀ {kvs : List (Key × V)} {l : List (Str × α)}, KVs R H kvs l → (l.map (·.1)).Nodup → KVs R H (putK kvs (Sum.inr s) v) (putA l s a)
  | _, _, .nil, _ => .cons ⟨rfl, hr⟩ .nil
  | p :: kvs, (k, b) :: l, .cons h t, hn => by
    have hn : (k :: l.map (·.1)).Nodup := hn
    obtain ⟨n1, n2⟩ := List.nodup_cons.mp hn
    unfold putA
    by_cases e : k = s
    · subst e
      have no : valV kvs (Sum.inr k) = none := by
        have := keys_val (KVs.keys t) k
        rw [decide_eq_false n1] at this
        cases q : valV kvs (Sum.inr k) with
        | none => rfl
        | some x => rw [q] at this; cases this
      rw [putK_cons_pos h.1 no, if_pos rfl]
      exact .cons ⟨h.1, hr⟩ t
    · have ne : ¬ p.1 = (Sum.inr s : Key) := by
        rw [h.1]
        exact fun z => e (Sum.inr.inj z)
      rw [putK_cons_neg ne, if_neg e]
      exact .cons h (KVs.put hr t n2)
end

/-! ### powers of great numbers -/
def CPowB (i j : Int) : Prop := 0 ≤ j ∧ (Builtin.Int.intBits i : Int) * j ≤ 2 ^ 27
theorem op_powB {X : Cx} : OpR X (binaryOp .Pow) (L2.rI CPowB fun i j => V.int (i ^ j.toNat)) := opI fun _ _ _ _ _ _ _ hc q => pow_int hc.1 hc.2 q

theorem walk_rng {n : Nat} : Walk (Itr 0 n) n (fun _ => True) (fun i H x H' => H' = H ∧ x = .int (i : Int)) :=
  walk_range.mono (fun _ h => h) fun i H x H' _ _ y => ⟨y.1, y.2.trans (by show V.int (0 + (i : Int)) = _; rw [Int.zero_add])⟩
end M

set_option Elab.async false
set_option linter.all false
set_option maxRecDepth 100000
set_option maxHeartbeats 2000000
namespace M
open PySem PySem.Spec PyProof.Rows L2
/-! ### enumerate over a list or a tuple -/
section
open PySem.Sem (wp)
set_option maxHeartbeats 4000000 in
theorem meets_enum1 {v : Value} {o : Obj} {G : Heap → Prop} (B : Begins v o G) :
    Meets (Builtin.«enumerate.__new__» ⟨[.type "enumerate", v], []⟩) (fun _ R s => G s.heap ∧
      R (.ok (.ret (.ref (s.heap.push o).objs.size)))
        { s with heap := (s.heap.push o).push { cls := .type "enumerate",
                                                data := .fields #[.none, .bool false, .ref s.heap.objs.size, rawInt 0, .none, .none] } }) :=
  .of_wp fun prog w A R s hh => by
    obtain ⟨hp, gl, di, tk, os⟩ := s
    obtain ⟨hG, hR⟩ := hh
    have hsub := sub_enumerate
    have it1 : ∀ {A1 : Around} {E1 : Value → Shared → Prop} {Q1 : Value → Shared → Prop}, Q1 (.ref hp.objs.size) ⟨hp.push o, gl, di, tk, os⟩ →
        wpAny (model prog w) A1 (pyIter v) Q1 E1 ⟨hp, gl, di, tk, os⟩ := fun q => B.iter prog w _ _ ⟨hp, gl, di, tk, os⟩ _ hG q
    wp_walk using it1
    refine wpAny_stack_any fun st => wpAny_pure ?_
    split
    · rename_i cc _ _ _ _ _
      cases (cc == Value.type "enumerate")
      · wp_walk using it1
        exact ⟨_, rfl, hR⟩
      · wp_walk using it1
        exact ⟨_, rfl, hR⟩
    · wp_walk using it1
      exact ⟨_, rfl, hR⟩
theorem enum_begin1 {prog : Program} {w : World} {A : Around} {E : Value → Shared → Prop} {s : Shared} {v : Value} {o : Obj} {G : Heap → Prop} {Q : Value → Shared → Prop} (B : Begins v o G) (hG : G s.heap)
    (k : ∀ h', IsEnum h' (s.heap.objs.size + 1) s.heap.objs.size 0 .none → h'.get? s.heap.objs.size = some o →
      (∀ b ob, s.heap.get? b = some ob → h'.get? b = some ob) → Q (.ref (s.heap.objs.size + 1)) { s with heap := h' }) : wpAny (model prog w) A (call (.type "enumerate") [v]) Q E s := by
  refine callType_new F.called_enumerate (by decide) (F.typeCall_enumerate_1 _) (F.newCall_enumerate_1 _) (fun ob => F.args_object_init_2 ob _) F.entry_enumerate_new (meets_enum1 B) ⟨hG, ?_⟩
  have sz : (s.heap.push o).objs.size = s.heap.objs.size + 1 := Heap.size_push ..
  show _ ∧ _
  rw [sz]
  have en := Heap.get?_push_size (s.heap.push o) (o := { cls := .type "enumerate", data := .fields #[.none, .bool false, .ref s.heap.objs.size, rawInt 0, .none, .none] }) rfl
  rw [sz] at en
  exact ⟨⟨_, en, rfl⟩, k _ en (Heap.get?_push_of_some _ (Heap.get?_push_size _ B.free)) fun b ob q => Heap.get?_push_of_some _ (Heap.get?_push_of_some _ q)⟩
end
/-- the tuple at a, each item in a new pair with its place -/
def IteT (K : PySem.W.Frag) (a : Addr) : It :=
  ⟨fun i H => ∃ (xs : List V) (x : V), SqT K H a xs ∧ xs[i]? = some x,
   fun i H v H' => ∃ T x, v = .ref T ∧ H T = none ∧ H' = upd H T (.tup [.int (i : Nat), x]) ∧ ∀ xs, SqT K H a xs → xs[i]? = some x,
   fun i H => ∃ xs : List V, SqT K H a xs ∧ xs.length ≤ i⟩
theorem turn_enumT {P : Program} {w : World} {K : PySem.W.Frag} {elts : List Expr} {kk : Nat} {tpos : Pos} (a e it : Addr) :
    Turn P w K (.Tuple elts kk tpos) (IteT K a) [e, it] e (fun i h => (∃ old, IsEnum h e it ((i : Nat) : Int) old) ∧ h.IsTupleIter it a i ∧ e ≠ it) where
  mem := by simp
  obj := fun i h st b hb => by
    obtain ⟨⟨old, he⟩, ⟨o, ho, hc, hd⟩, _⟩ := st
    rcases List.mem_cons.mp hb with rfl | hb
    · exact ⟨_, he, fun v q => nomatch q⟩
    · cases List.mem_singleton.mp hb
      exact ⟨o, ho, fun v q => by rw [hd] at q; cases q⟩
  keep := fun i h h' st k => by
    obtain ⟨⟨old, he⟩, hi, ne⟩ := st
    exact ⟨⟨old, k e (by simp) _ he⟩, hi.at fun o q => k it (by simp) o q, ne⟩
  item := by
    intro X hP hw hK hc i pins s σ H E I hf st hg
    subst hP hw hK
    obtain ⟨⟨old, he⟩, hit, ne⟩ := st
    obtain ⟨xs, x, hq, hx⟩ := hg
    obtain ⟨its, rv, pt, hz⟩ := I.tuple hq
    have pt : s.heap.IsTuple a its.toArray := pt
    obtain ⟨u, hu, ru⟩ := rv.get hx
    have hel : e < s.heap.objs.size := Heap.lt_size he
    have hil : it < s.heap.objs.size := by obtain ⟨_, q, _⟩ := hit; exact Heap.lt_size q
    obtain ⟨h1, h2, h3, h4, h5, h6⟩ := hf e (by simp)
    have nea : e ∉ [it, a] := by
      simp only [List.mem_cons, List.not_mem_nil, or_false, not_or]
      refine ⟨ne, fun q => ?_⟩
      obtain ⟨ob, hob, hcl, _⟩ := pt
      rw [← q, he] at hob
      cases hob
      injection hcl with hcl
      exact absurd hcl (by decide)
    have nai : a ≠ it := fun q => by
      obtain ⟨ob, hob, hcl, _⟩ := pt
      obtain ⟨o2, ho2, hc2, _⟩ := hit
      rw [q, ho2] at hob
      cases hob
      rw [hc2] at hcl
      injection hcl with hcl
      exact absurd hcl (by decide)
    have D := Draws.tuple (prog := X.prog) (w := X.w) (A := X.A.in1) (I.ok.hd hc) it a nai its.toArray
    refine wpAny_pyNext_enum_itemD D he ⟨hit, pt⟩ (getLt (l := its) hu |> fun q => by simpa using q) ne nea fun y h' tk hy ho st' hT hsz hk => ?_
    obtain rfl : y = u := by simpa [hu] using hy.symm
    refine ⟨_, rfl, wpAny_letOwnedTupleGo_enum (s := { s with heap := h', toks := tk + 1 }) ho fun h'' he' sb => ?_⟩
    have hT2 : h''.get? s.heap.objs.size = some { cls := .type "tuple", data := .seq #[.int i tk, y] } := (sb.2 _ (Nat.ne_of_gt hel)).trans hT
    have new : ObjOk X.prog X.w (upd H s.heap.objs.size (.tup [.int (i : Nat), x])) h'' s.heap.objs.size (.tup [.int (i : Nat), x]) :=
      ⟨(by decide : 2 ≤ sizeLine), [.int i tk, y], .cons ⟨_, rfl⟩ (.cons ru .nil), ⟨_, hT2, rfl, _, rfl⟩⟩
    have I1 : Inv X pins σ (upd H s.heap.objs.size (.tup [.int (i : Nat), x])) { s with heap := h'', toks := tk + 1 } :=
      I.turnedNew (ch := [e, it]) (fun b ob hb q => by
        have n1 : b ≠ e := fun z => hb (by simp [z])
        have n2 : b ≠ it := fun z => hb (by simp [z])
        exact (sb.2 b n1).trans (hk b ob n1 n2 q)) hf (Nat.le_refl _) new
    refine ⟨.ref s.heap.objs.size, _, I1, rfl, ⟨_, x, rfl, I.hok.fresh (Nat.le_refl _), rfl, fun ys hys => by rw [I.tuple_inj hys hq]; exact hx⟩, ⟨⟨y, ?_⟩, st'.1.at fun o q => (sb.2 it (Ne.symm ne)).trans q, ne⟩, fun b hb => ?_⟩
    · have e1 : ((i + 1 : Nat) : Int) = (i : Int) + 1 := by omega
      rw [e1]
      exact he'
    · have hb' : b < s.heap.objs.size := by
        rcases List.mem_cons.mp hb with rfl | hb2
        · exact hel
        · cases List.mem_singleton.mp hb2
          exact hil
      rw [upd_ne (Nat.ne_of_lt hb')]
      exact (hf b hb).1
  done := by
    intro X hP hw hK hc i pins s σ H E I hf st hg
    subst hP hw hK
    obtain ⟨⟨old, he⟩, hit, ne⟩ := st
    obtain ⟨xs, hq, hx⟩ := hg
    obtain ⟨its, rv, pt, hz⟩ := I.tuple hq
    have pt : s.heap.IsTuple a its.toArray := pt
    obtain ⟨f0, f1, f2, f3, f4, f5⟩ := hf it (by simp)
    have hl := rv.length
    have hT : s.TypeIs (.ref e) "enumerate" := ⟨_, he, rfl⟩
    have go : wpAny (model X.prog X.w) X.A (pyNext (.ref e)) (fun r s1 => r = none ∧ Inv X pins σ H s1) E s := by
      unfold pyNext
      refine wpAny_bind (wpAny_attempt (wpAny_callSpecial?_slot (name := Str.ofString "__next__") hT F.slot_enumerate_next (wpAny_call_entry F.slot_enumerate_next hT F.entry_enumerate_next ?_ (F.args_enumerate_next_1 _))))
      show wpAny _ _ (field (.ref e) 2 >>= _) _ _ _
      refine wpAny_bind (wpAny_field he rfl (x := .ref it) rfl ?_)
      refine wpAny_bind (wpAny_nextOf_tuple_end (I.ok.hd hc) hit pt (by simp; omega) fun h' z eb hz' => ?_)
      obtain ⟨o, ho, hcl⟩ := hz'
      refine wpAny_bind (wpAny_isInstance (T := "StopIteration") (b := true) ⟨o, ho, hcl⟩ isSubtype_stop ?_)
      exact wpAny_pure ⟨rfl, I.turned (t' := s.toks) (fun b o hb q => eb b o hb q) f0 f1 f3 f4 f5⟩
    exact go
  self := fun A i s Q E st h => by
    obtain ⟨⟨_, he⟩, _⟩ := st
    exact wpAny_pyIter_enum he h
/-- a row: a list or a tuple -/
def RowAt (H : Hp) (a : Addr) (xs : List V) : Prop := H a = some (.lst xs) ∨ H a = some (.tup xs)
theorem RowAt.sx {S : List Addr} {A B : Hp} {a : Addr} {xs : List V} (s : SX S A B) (n : a ∉ S) (h : RowAt A a xs) : RowAt B a xs := h.imp (s _ _ n) (s _ _ n)
theorem RowAt.there {A : Hp} {a : Addr} {xs : List V} (h : RowAt A a xs) : A a ≠ none := by rcases h with h | h <;> rw [h] <;> exact fun z => nomatch z
/-- enumerate(x): x a list or a tuple that is no part of the top's -/
def iEnumA (K : PySem.W.Frag) (ta : TA) : TI := fun σ H R => ta σ H fun vs H1 => ∃ a xs, vs = [.ref a] ∧ RowAt H1 a xs ∧
  ∀ J, Walk J xs.length (fun A => A a = H1 a) (fun i A x A' => ∃ T y, xs[i]? = some y ∧ x = .ref T ∧ A T = none ∧ A' = upd A T (.tup [.int (i : Int), y])) → R J H1
theorem walk_eL {K : PySem.W.Frag} {H : Hp} {a : Addr} {xs : List V} (h : H a = some (.lst xs)) :
    Walk (Ite K a) xs.length (fun A => A a = H a) (fun i A x A' => ∃ T y, xs[i]? = some y ∧ x = .ref T ∧ A T = none ∧ A' = upd A T (.tup [.int (i : Int), y])) :=
  ⟨fun i A hi q => ⟨xs, xs[i], sqL (q.trans h), by simp [hi]⟩, fun A q => ⟨xs, sqL (q.trans h), Nat.le_refl _⟩, fun i A v A' hi q y => by
    obtain ⟨T, x, h1, h2, h3, h4⟩ := y
    exact ⟨T, x, h4 xs (sqL (q.trans h)), h1, h2, h3⟩⟩
theorem walk_eT {K : PySem.W.Frag} {H : Hp} {a : Addr} {xs : List V} (h : H a = some (.tup xs)) :
    Walk (IteT K a) xs.length (fun A => A a = H a) (fun i A x A' => ∃ T y, xs[i]? = some y ∧ x = .ref T ∧ A T = none ∧ A' = upd A T (.tup [.int (i : Int), y])) :=
  ⟨fun i A hi q => ⟨xs, xs[i], sqT (q.trans h), by simp [hi]⟩, fun A q => ⟨xs, sqT (q.trans h), Nat.le_refl _⟩, fun i A v A' hi q y => by
    obtain ⟨T, x, h1, h2, h3, h4⟩ := y
    exact ⟨T, x, h4 xs (sqT (q.trans h)), h1, h2, h3⟩⟩
theorem pi_enumA {X : Cx} {e : Expr} {ta : TA} {p pos tpos : Pos} {elts : List Expr} {kk : Nat} (hg : Gl X "enumerate") (hm : X.mg "enumerate" = none) (ha : PA X [e] ta) (hs : starEach [e] X.env = [(false, eval e X.env)] := by rfl) :
    PI X (.Tuple elts kk tpos) (.Call (.Name "enumerate" p) [e] [] pos) (iEnumA X.K ta) := by
  refine ⟨fun pins s σ H R I h => ?_⟩
  refine Call_ (ld_blt I hg hm boot_enumerate (PyProof.Rows.callWith_type1 (thn (ha.run pos pins s σ H _ I h) fun us s1 ⟨vs, H1, I1, r1, a, xs, ex, hq, q⟩ => ?_) hs rfl))
  subst ex
  cases r1 with
  | cons r rr =>
    cases rr
    cases r
    have fp : ∀ (h' : Heap), Inv X pins σ H1 { s1 with heap := h' } → ∀ b ∈ [s1.heap.objs.size + 1, s1.heap.objs.size], FpOk X pins H1 b := fun h' I2 b hb => by
      have hle : s1.heap.objs.size ≤ b := by
        rcases List.mem_cons.mp hb with rfl | hb
        · exact Nat.le_succ _
        · cases List.mem_singleton.mp hb
          exact Nat.le_refl _
      exact I1.fpOk hle (I1.hok.fresh hle)
    rcases hq with hq | hq
    · obtain ⟨its, rv, pl, hz⟩ := I1.list (sqL (K := X.K) hq)
      refine call_enumerate_list pl.isList fun h' he hit hsz hk => wpAny_pyIter_enum he ?_
      have I2 : Inv X pins σ H1 { s1 with heap := h' } := I1.kept (t' := s1.toks) hk
      exact ⟨s1.heap.objs.size + 1, [s1.heap.objs.size + 1, s1.heap.objs.size], _, _, H1, rfl, I2, turn_enum a (s1.heap.objs.size + 1) s1.heap.objs.size, ⟨⟨.none, he⟩, hit, Nat.succ_ne_self _⟩, fp h' I2, q _ (walk_eL hq)⟩
    · obtain ⟨its, rv, pt, hz⟩ := I1.tuple (sqT (K := X.K) hq)
      refine enum_begin1 (begins_tuple a its.toArray) pt fun h' he hit hk => wpAny_pyIter_enum he ?_
      have I2 : Inv X pins σ H1 { s1 with heap := h' } := I1.kept (t' := s1.toks) hk
      exact ⟨s1.heap.objs.size + 1, [s1.heap.objs.size + 1, s1.heap.objs.size], _, _, H1, rfl, I2, turn_enumT a (s1.heap.objs.size + 1) s1.heap.objs.size, ⟨⟨.none, he⟩, ⟨_, hit, rfl, rfl⟩, Nat.succ_ne_self _⟩, fp h' I2, q _ (walk_eT hq)⟩
section
variable {K : PySem.W.Frag}
theorem w_enumA {X : Cx} {e : Expr} {ta : TA} {p pos tpos : Pos} {elts : List Expr} {kk : Nat} (h : X.K = K) (hg : Gl X "enumerate") (hm : X.mg "enumerate" = none) (ha : PA X [e] ta) (hs : starEach [e] X.env = [(false, eval e X.env)] := by rfl) :
    PI X (.Tuple elts kk tpos) (.Call (.Name "enumerate" p) [e] [] pos) (iEnumA K ta) := by subst h; exact pi_enumA hg hm ha hs
theorem x_iEnumA {ta : TA} {σ : L2.St} {H : Hp} {R : It → Hp → Prop} (k : ta σ H fun vs H1 => ∃ a xs, vs = [.ref a] ∧ RowAt H1 a xs ∧
  ∀ J, Walk J xs.length (fun A => A a = H1 a) (fun i A x A' => ∃ T y, xs[i]? = some y ∧ x = .ref T ∧ A T = none ∧ A' = upd A T (.tup [.int (i : Int), y])) → R J H1) : iEnumA K ta σ H R := k
end
end M

set_option Elab.async false
set_option linter.all false
set_option maxRecDepth 100000
set_option maxHeartbeats 2000000
namespace M
open PySem PySem.Spec PyProof.Rows L2
/-! ### list(d.values()), tuple(d) -/
section
variable {X : Cx}
def tListVals (td : TE) : TE := fun σ H Q => td σ H fun x H1 => ∃ d kvs, x = .ref d ∧ H1 d = some (.dK kvs) ∧ ∀ l, H1 l = none → Q (.ref l) (upd H1 l (.lst (kvs.map (·.2))))
theorem pe_listVals {e : Expr} {td : TE} {p apos cpos pos : Pos} (hc : X.calm = true) (hg : Gl X "list") (hm : X.mg "list" = none) (he : PE X e td)
    (hbase : attributeBase e "values" X.env (eval e X.env) = eval e X.env := by rfl) (hline : (apos.endLine == cpos.line) = true := by rfl)
    (na : starEach [.Call (.Attribute e "values" apos) [] [] cpos] X.env = (false, eval (.Call (.Attribute e "values" apos) [] [] cpos) X.env) :: starEach [] X.env := by rfl) :
    PE X (.Call (.Name "list" p) [.Call (.Attribute e "values" apos) [] [] cpos] [] pos) (tListVals td) := by
  refine ⟨fun pins s σ H Q I h => ?_⟩
  refine Call_ (ld_blt I hg hm boot_list (PyProof.Rows.callWith_type1 (args_cons ?_ na) na))
  refine wpAny_Call_method (T := "dict") (id := "dict.values") hbase rfl hline F.plainAttrs_dict F.slot_dict_values F.type_dict_values (thn (he.run pins s σ H _ I h) fun u s1 ⟨x, H1, I1, rx, d, kvs, ex, hd, q⟩ => ?_)
  subst ex
  obtain rfl : u = Value.ref d := rx
  obtain ⟨z, lo, vs, rk, hdic⟩ := (show ObjOk X.prog X.w H1 s1.heap d (.dK kvs) from I1.hok d _ hd)
  obtain ⟨ep, hat⟩ := hdic.dictAt
  have hl : kvs.length = vs.length := Paired.length rk
  refine ⟨hdic.typeIs, hdic.mapOf.noDict, ?_⟩
  have I2 : Inv X pins σ H1 { s1 with heap := s1.heap.push { cls := .type "dict_values", data := .fields #[.ref d] } } := I1.kept (t' := s1.toks) fun b ob q => Heap.get?_push_of_some _ q
  have fin : wpAny (model X.prog X.w) X.A (spliced (backTo pos (starEach [] X.env))) (fun us s' => wpAny (model X.prog X.w) X.A (call (.type "list") (.ref s1.heap.objs.size :: us)) (EP X pins σ Q) X.xe s') X.xe { s1 with heap := s1.heap.push { cls := .type "dict_values", data := .fields #[.ref d] } } := by
    refine args_nil ?_
    have vw : (s1.heap.push { cls := .type "dict_values", data := .fields #[.ref d] }).IsValuesView s1.heap.objs.size d := ⟨_, Heap.get?_push_size _ rfl, rfl, rfl⟩
    refine PySem.W.kdl_call (PySem.W.kdl_values (knd := mixKind X.prog X.w) (kvs := vs) (ep := ep) (d := d) (r := s1.heap.objs.size)) (I2.ok.hd hc) ⟨vw, hat.push _⟩ (by rw [← hl]; exact z) fun h' tk acc' c' hkeep hS hacc => ?_
    refine ⟨.ref _, upd H1 _ (.lst (kvs.map (·.2))), I2.laid (t' := tk) hkeep (Nat.le_refl _) (show ObjOk X.prog X.w _ _ _ (.lst (kvs.map (·.2))) from ⟨by rw [List.length_map]; exact z, acc'.toList, c', ?_, by rw [Array.toArray_toList]; exact hS⟩), rfl, q _ (I2.hok.fresh (Nat.le_refl _))⟩
    have z1 : acc'.toList.length = acc'.size := by simp
    have z2 : (kvs.map (·.2)).length = acc'.toList.length := by rw [List.length_map, z1, hacc.1, hl]
    refine vals_of_at z2 fun j y w h1 h2 => ?_
    obtain ⟨ky, hky⟩ := hacc.2 j w (by rw [← Array.getElem?_toList]; exact h2)
    rw [List.getElem?_map] at h1
    cases e1 : kvs[j]? with
    | none => rw [e1] at h1; cases h1
    | some kv =>
      rw [e1] at h1
      cases h1
      obtain ⟨vv, e2, _, r2⟩ := Paired.getL rk e1
      rw [hky] at e2
      cases e2
      exact r2
  show wpAny _ _ (callWith cpos (.builtin "dict.values") [.ref d] [] []) _ X.xe s1
  exact method_meetsIn F.slot_dict_values F.entry_dict_values rfl (PySem.evalArgs_none ⟨rfl, hdic.typeIs, F.args_dict_values_1 _, _, meets_dict_values (mixKind X.prog X.w) d lo, ⟨vs, hdic⟩, fin⟩)
/-- tuple(d): its keys -/
def cTupD : List V → Hp → VK → Prop := fun xs H Q => ∃ (p : Addr) (kvs : List (Key × V)), xs = [.ref p] ∧ H p = some (.dK kvs) ∧ ∀ q, H q = none → Q (.ref q) (upd H q (.tup (kvs.map fun kv => kV kv.1)))
theorem new_tup_of {prog : Program} {w : World} {A : Around} {E : Value → Shared → Prop} {s : Shared} {r d : Addr} {n : Nat} {G : Nat → Value → Prop} {OK : Heap → Prop} {Q1 : Value → Shared → Prop} (src : PySem.W.KdlSrc prog w "dict" r d n G OK) (hh : A.handled = none) (ok : OK s.heap) (hn : n ≤ sizeLine)
    (k : ∀ (h' : Heap) (tk : Nat) (acc : Array Value), (∀ b o, s.heap.get? b = some o → h'.get? b = some o) → ItemsOf G acc n →
      Q1 (.ref h'.objs.size) { s with heap := h'.push { cls := .type "tuple", data := .seq acc }, toks := tk }) :
    codeAny (model prog w) A (.call (.builtin "tuple.__new__") ⟨[.type "tuple", .ref r], []⟩) (wants Q1 E) s := by
  have tyT : s.TypeIs (.ref r) "dict" := src.type s ok
  refine codeAny_of_tree ?_
  show wpAny _ A.in1 (checkBuiltinCall "tuple.__new__" ⟨[.type "tuple", .ref r], []⟩ >>= fun _ => again (.builtin "tuple.__new__" ⟨[.type "tuple", .ref r], []⟩)) _ _ s
  refine wpAny_bind (wpAny_of_eq (F.newCall_tuple_1 _) (wpAny_pure ⟨plainId_quiet F.plain_tuple_new _, codeAny_builtin F.entry_tuple_new ?_⟩))
  rw [Around.under_plainId F.plain_tuple_new _]
  have hsub := sub_tuple_self
  have hinit := init_tuple_lookup
  have hmh := madeHere_tuple
  have hh1 : A.in1.handled = none := hh
  wp_walk using wpAny_typeOf tyT, PySem.W.kdu_collect (A := A.in1) src hh1 ok hn
  intro h' tk acc hk hacc
  have e1 : acc.toList.toArray = acc := by simp
  show wpAny _ _ (Builtin.Tuple.tupleExact acc.toList.toArray >>= fun z => ret z) _ _ _
  unfold Builtin.Tuple.tupleExact
  rw [e1]
  refine wpAny_bind (wpAny_newObj_type ?_ (by show acc.size ≤ sizeLine; rw [hacc.1]; exact hn))
  exact wpAny_pure (k h' tk acc hk hacc)
theorem cl_tupD (hc : X.calm = true) : CallR X (.type "tuple") cTupD := by
  intro pins s σ H vs us Q I r h
  obtain ⟨p, kvs, rfl, hk, q⟩ := h
  obtain ⟨u, rfl, ru⟩ := vals1 r
  obtain rfl : u = Value.ref p := ru
  obtain ⟨z, lo, ws, rk, hdic⟩ := (show ObjOk X.prog X.w H s.heap p (.dK kvs) from I.hok p _ hk)
  obtain ⟨ep, hat⟩ := hdic.dictAt
  have hl : kvs.length = ws.length := Paired.length rk
  refine callType_codes (Q₁ := fun ob s1 => s1.TypeIs ob "tuple" ∧ (EP X pins σ Q) ob s1) F.called_tuple (F.typeCall_tuple_1 _) F.entry_object_init
    (new_tup_of (A := X.A.in1) (PySem.W.kdl_dict (knd := mixKind X.prog X.w) (kvs := ws) (ep := ep) lo) (I.ok.hd hc) hat (by rw [← hl]; exact z) fun h' tk acc hkeep hacc => ⟨⟨_, Heap.get?_push_size _ rfl, rfl⟩, ?_⟩) fun ob s1 h1 => ?_
  · have I2 : Inv X pins σ H { s with heap := h', toks := tk } := I.kept hkeep
    have z1 : acc.toList.length = acc.size := by simp
    refine ⟨.ref h'.objs.size, upd H h'.objs.size (.tup (kvs.map fun kv => kV kv.1)), I2.laid (t' := tk) (fun b ob e => Heap.get?_push_of_some _ e) (Nat.le_refl _) (show ObjOk X.prog X.w _ _ _ (.tup (kvs.map fun kv => kV kv.1)) from ⟨by rw [List.length_map]; exact z, acc.toList, ?_, by rw [Array.toArray_toList]; exact IsTup.new _ _⟩), rfl, q _ (I2.hok.fresh (Nat.le_refl _))⟩
    refine vals_of_at (by rw [List.length_map, z1, hacc.1, hl]) fun j x w h1 h2 => ?_
    obtain ⟨ky, yy, hky, hi⟩ := hacc.2 j w (by rw [← Array.getElem?_toList]; exact h2)
    rw [List.getElem?_map] at h1
    cases e1 : kvs[j]? with
    | none => rw [e1] at h1; cases h1
    | some kv =>
      rw [e1] at h1
      cases h1
      obtain ⟨vv, e2, k1, _⟩ := Paired.getL rk e1
      rw [hky] at e2
      cases e2
      have k2 : kv.1 = ky := k1
      show L2.RelV (kV kv.1) w
      rw [k2]
      exact keyIs_rel hi
  · exact ⟨h1.1, F.args_object_init_2 ob _, object_init_meets F.called_tuple.init.lookup F.called_tuple.made (by decide) X.prog X.w X.A.in1 _ s1 ⟨h1.1, rfl, h1.2⟩⟩
end
/-! ### sorted, of tuples of ints of any lengths, the first one empty -/
/-- at v: a tuple of these ints -/
def TupAt (h : Heap) (v : Value) (ns : List Int) : Prop := ∃ a o xs n, v = .ref a ∧ h.get? a = some o ∧ o.cls = .type "tuple" ∧ o.data = .seq xs n ∧ IntsAre xs.toList ns
theorem TupAt.grow {h h' : Heap} {v : Value} {ns : List Int} (t : TupAt h v ns) (g : ∀ b o, h.get? b = some o → o.cls = .type "tuple" → h'.get? b = some o) : TupAt h' v ns := by
  obtain ⟨a, o, xs, n, e, ho, hc, hd, i⟩ := t
  exact ⟨a, o, xs, n, e, g _ _ ho hc, hc, hd, i⟩
section
variable {M : Model} {A : Around} {E : Value → Shared → Prop} {s : Shared}
theorem tup_looks {v : Value} {ns : List Int} (t : TupAt s.heap v ns) : PySem.W.Looks M s.heap (typeOf v) (.type "tuple") := by
  obtain ⟨a, o, xs, n, rfl, ho, hc, hd, i⟩ := t
  rw [← hc]
  exact (PySem.W.Looks.ld ho).andThen .now
theorem tups_firsts {k : Value → List Int} : ∀ (vs : List Value) {Q : List (Option Value) → Shared → Prop}, (∀ v ∈ vs, TupAt s.heap v (k v)) →
    (∀ fs : List (Option Value), fs.length = vs.length → (∀ v r, vs = v :: r → k v = [] → fs[0]? = some none) → Q fs s) → wpAny M A (vs.mapM firstOfTuple') Q E s
  | [], Q, _, h => by
    rw [List.mapM_nil]
    exact wpAny_pure (h [] rfl fun v r e => nomatch e)
  | v :: vs, Q, hv, h => by
    obtain ⟨a, o, xs, n, rfl, ho, hc, hd, i⟩ := hv v List.mem_cons_self
    rw [List.mapM_cons]
    refine wpAny_bind ?_
    rw [PySem.W.kas_first_eq]
    refine wpAny_bind (PySem.W.Looks.here (tup_looks ⟨a, o, xs, n, rfl, ho, hc, hd, i⟩) ?_)
    rw [if_neg (by decide)]
    refine wpAny_bind (listItems_at ho hd (wpAny_pure ?_))
    refine wpAny_bind (tups_firsts vs (Q := fun bs s' => wpAny M A (pure (xs[0]? :: bs)) Q E s') (fun u hu => hv u (List.mem_cons_of_mem _ hu)) fun fs hl _ => wpAny_pure (h _ (by simp [hl]) fun v' r e hk => ?_))
    injection e with e1 e2
    rw [← e1] at hk
    rw [hk] at i
    have : xs.toList.length = 0 := i.length
    have z : xs.size = 0 := by simpa using this
    have : xs[0]? = none := by simp [z]
    rw [this]
    rfl
theorem tups_kind {vs : List Value} {k : Value → List Int} {Q : SortKind → Shared → Prop} (hv : ∀ v ∈ vs, TupAt s.heap v (k v)) {v0 : Value} {r0 : List Value} (e0 : vs = v0 :: r0) (k0 : k v0 = []) (h : Q oneType' s) : wpAny M A (keyKind' vs.toArray) Q E s := by
  rw [keyKind'_eq, List.mapM_toArray, map_eq_pure_bind]
  refine wpAny_bind (wpAny_bind (tups_firsts vs hv fun fs hl hf => wpAny_pure ?_))
  have f0 : fs[0]? = some none := hf v0 r0 e0 k0
  have na : (fs.toArray.all fun x => x.isSome) = false := by
    rw [List.all_toArray, List.all_eq_false]
    exact ⟨none, List.mem_of_getElem? f0, by simp⟩
  rw [na, if_neg (by decide)]
  have nb : ((fs.toArray[0]?).bind id).isSome = false := by
    have : fs.toArray[0]? = some none := by simpa using f0
    rw [this]
    rfl
  rw [nb, if_neg (by decide), oneTypeOnly'_eq, List.mapM_toArray, map_eq_pure_bind]
  refine wpAny_bind (wpAny_bind (wpAny_bind (PySem.W.kas_mapM (r := Value.type "tuple") _ (fun v m Q' hq => (tup_looks (hv v m)).here hq) (wpAny_pure ?_))))
  subst e0
  have al : ((List.map (fun _ => Value.type "tuple") (v0 :: r0)).toArray.all fun x => x == Value.type "tuple") = true := by
    simp only [List.all_toArray, List.all_map, List.all_eq_true]
    intro _ _
    rfl
  have h0 : (List.map (fun _ => Value.type "tuple") (v0 :: r0)).toArray[0]? = some (Value.type "tuple") := by simp
  rw [h0]
  simp only [al, if_true]
  exact wpAny_pure (wpAny_pure h)
end
section
variable {prog : Program} {w : World} {A : Around} {E : Value → Shared → Prop} {s : Shared}
theorem tups_lt {v u : Value} {ns ms : List Int} {Q : Bool → Shared → Prop} (hu : A.units < cLine) (hv : TupAt s.heap v ns) (hw : TupAt s.heap u ms) (h : Q (HT.lexLt ns ms) s) : wpAny (model prog w) A (keyLt' oneType' v u) Q E s := by
  obtain ⟨a, ⟨c1, d1, q1, l1⟩, xs, n, rfl, ho, hc, hd, i⟩ := hv
  obtain ⟨b, ⟨c2, d2, q2, l2⟩, ys, m, rfl, ho2, hc2, hd2, j⟩ := hw
  have hc : c1 = .type "tuple" := hc
  have hc2 : c2 = .type "tuple" := hc2
  have hd : q1 = .seq xs n := hd
  have hd2 : q2 = .seq ys m := hd2
  subst hc hc2 hd hd2
  rw [keyLt'_oneType, oneLt'_eq]
  simp only [if_true]
  refine wpAny_bind (wpAny_cRoomFor hu ?_)
  have tT : s.TypeIs (.ref a) "tuple" := ⟨_, ho, rfl⟩
  refine wpAny_bind (wpAny_callSpecialIfBound?_slot (name := Str.ofString "__lt__") tT PySem.F.slot_tuple_lt (call_meets PySem.F.slot_tuple_lt tT PySem.F.entry_tuple_lt (PySem.F.args_tuple_lt_2 _ _) (HT.tuple_lt_ints a b xs ys n m d1 d2 l1 l2 ns ms i j) ⟨ho, ho2, ?_⟩))
  exact wpAny_truthy_bool h
theorem tups_sortable {a : Addr} {vs : List Value} {k : Value → List Int} (hu : A.units < cLine) (hv : ∀ v ∈ vs, TupAt s.heap v (k v)) {v0 : Value} {r0 : List Value} (e0 : vs = v0 :: r0) (k0 : k v0 = []) (ha : ∀ o, s.heap.get? a = some o → o.cls ≠ .type "tuple") :
    SrtO.SortableO prog w A s a vs fun v u => HT.lexLt (k v) (k u) := by
  intro h' keep
  have hv' : ∀ v ∈ vs, TupAt h' v (k v) := fun v m => (hv v m).grow fun b o q c => keep b o (fun z => ha o (z ▸ q) c) q
  refine ⟨oneType', fun Q E hq => tups_kind (s := { s with heap := h' }) hv' e0 k0 hq, ?_⟩
  intro p q hp hq
  exact tups_lt (s := { s with heap := h' }) (Q := fun r s' => s' = { s with heap := h' } ∧ r = HT.lexLt (k p.1) (k q.1)) (E := fun _ _ => False) hu (hv' p.1 hp) (hv' q.1 hq) ⟨rfl, rfl⟩
end
/-- sorted(xs), xs a list of tuples of ints (k says which), the first one empty -/
def rSortL (K : PySem.W.Frag) : List V → Hp → VK → Prop := fun vs H Q => ∃ (a : Addr) (ts : List Addr) (k : Addr → List Int), vs = [V.ref a] ∧ SqL K H a (ts.map V.ref) ∧ (∀ t ∈ ts, H t = some (.tup ((k t).map V.int))) ∧ (∃ t0 r0, ts = t0 :: r0 ∧ k t0 = []) ∧
  ∀ (ts' : List Addr) (p : Addr), ts'.Perm ts → ts'.Pairwise (fun p q => HT.lexLt (k q) (k p) = false) → H p = none → Q (.ref p) (upd H p (.lst (ts'.map V.ref)))
section
variable {X : Cx}
theorem cr_sortL (hu : X.A.units + 64 < cLine) : CallR X (.builtin "sorted") (rSortL X.K) := by
  intro pins s σ H vs us Q I r h
  obtain ⟨a, ts, k, rfl, hs, hx, ⟨t0, r0, e0, k0⟩, q⟩ := h
  obtain ⟨its, rv, hl, hz⟩ := I.list hs
  obtain ⟨u, rfl, ru⟩ := vals1 r
  obtain rfl : u = Value.ref a := ru
  have ei := L2.nts_of rv
  have hv : ∀ v ∈ its, TupAt s.heap v (k (L2.adO v)) := fun v m => by
    rw [ei] at m
    obtain ⟨t, ht, rfl⟩ := List.mem_map.mp m
    obtain ⟨_, its2, r2, o, ho, hc, n, hd⟩ := I.hok _ _ (hx t ht)
    exact ⟨t, o, its2.toArray, n, rfl, ho, hc, hd, intsAre_of r2⟩
  have eh : its = Value.ref t0 :: r0.map Value.ref := by rw [ei, e0]; rfl
  refine SrtO.sorted_ord (NtL.swo_lexL fun v => k (L2.adO v)) hl.isList (by rw [← rv.length]; exact hz) (fun h2 h1 b hb kk => ?_) fun out hs1 hb1 => ?_
  · refine tups_sortable (s := { s with heap := h1 }) (by show X.A.units + 2 < cLine; omega) (fun v m => (hv v m).grow fun c o e _ => (kk c o e).2) eh k0 fun o e => ?_
    have e' : some o = some (seqObj "list" its.toArray 0) := e.symm.trans hb
    cases e'
    intro c
    exact absurd (Value.type.inj c) (by decide)
  · have eo : out = (out.map L2.adO).map Value.ref := L2.ref_map fun v m => by
      have m' : v ∈ its := hb1.perm.mem_iff.mp m
      rw [ei] at m'
      obtain ⟨t, _, e⟩ := List.mem_map.mp m'
      exact ⟨t, e.symm⟩
    have hp : (out.map L2.adO).Perm ts := by
      have p1 := hb1.perm.map L2.adO
      rw [ei, L2.ad_map] at p1
      exact p1
    have hs2 : (out.map L2.adO).Pairwise (fun p q => HT.lexLt (k q) (k p) = false) := List.pairwise_map.mpr (hs1.imp fun {x y} z => z)
    have fit : ((out.map L2.adO).map V.ref).length ≤ sizeLine := by
      rw [List.length_map, hp.length_eq]
      rw [List.length_map] at hz
      exact hz
    have rvo : Vals ((out.map L2.adO).map V.ref) out := by
      have z := L2.of_nts (out.map L2.adO)
      rw [← eo] at z
      exact z
    obtain ⟨ep, at2⟩ := PyProof.Rows.sortedAll_at s.heap its out.toArray
    have dn : H (s.heap.objs.size + 1) = none := I.hok.fresh (Nat.le_succ _)
    exact ⟨.ref (s.heap.objs.size + 1), upd H _ (.lst ((out.map L2.adO).map V.ref)), I.laid (t' := s.toks) (fun b o e => sortedAll_old e) (Nat.le_succ _) ⟨fit, out, ep, rvo, at2⟩, rfl, q _ _ hp hs2 dn⟩
theorem w_sortT {K : PySem.W.Frag} (h : X.K = K) (hu : X.A.units + 64 < cLine) : CallR X (.builtin "sorted") (rSortL K) := by subst h; exact cr_sortL hu
end
section
variable {K : PySem.W.Frag} {X : Cx} {pos : Pos}
theorem w_pglst {es : List Expr} {k : Nat} {t : TGs} {n : Nat} (h : X.K = K) (hc : X.calm = true) (ht : PGs X es t) (hn : (assignEach es X.env).length = n) (hst : (assignEach es X.env).findIdx? (·.1) = none) : PG X (.Tuple es k pos) (gLst K n t) := by subst h; exact pg_lst hc ht hn hst
theorem w_revL {e : Expr} {te : TE} {k : Nat} {p1 p2 p3 : Pos} (h : X.K = K) (he : PE X e te) : PE X (.Subscript e (.Slice none none (some (.UnaryOp .USub (.Constant (.int 1) k p1) p2)) p3) pos) (tRevL K te) := by subst h; exact pe_revL he
end
end M

set_option Elab.async false
set_option linter.all false
set_option maxRecDepth 100000
set_option maxHeartbeats 2000000
/-! sorted(d, reverse=True) of a dict of texts; == of dicts of plain data; going through a list or a tuple. -/
namespace M
open PySem PySem.Spec PyProof.Rows L2
def svOf : Value → List Nat
  | .str x _ => x.cps.toList
  | _ => []
def ltSv (v u : Value) : Bool := decide (svOf v < svOf u)
theorem swo_sv : SrtO.Swo ltSv := ⟨fun x y h => by
    have := of_decide_eq_true h
    exact decide_eq_false fun z => List.lt_irrefl _ (List.lt_trans this z),
  fun x y z h1 h2 => by
    have a := of_decide_eq_false h1
    have b := of_decide_eq_false h2
    exact decide_eq_false (List.not_lt.mpr (List.le_trans (List.not_lt.mp a) (List.not_lt.mp b)))⟩
def toS : Value → Str
  | .str x _ => x
  | _ => Str.empty
theorem strs_mem : ∀ {vs : List Value} {ss : List Str}, StrsAre vs ss → ∀ v ∈ vs, ∃ x t, v = Value.str x t
  | _, _, .nil, v, h => absurd h (by simp)
  | _, _, .cons n t r, v, h => by
    rcases List.mem_cons.mp h with e | h
    · exact ⟨n, t, e⟩
    · exact strs_mem r v h
theorem strs_of : ∀ {vs : List Value}, (∀ v ∈ vs, ∃ x t, v = Value.str x t) → StrsAre vs (vs.map toS)
  | [], _ => .nil
  | v :: vs, h => by
    obtain ⟨i, t, e⟩ := h v List.mem_cons_self
    subst e
    exact .cons i t (strs_of fun u hu => h u (List.mem_cons_of_mem _ hu))
theorem toS_strs : ∀ {vs : List Value} {ss : List Str}, StrsAre vs ss → vs.map toS = ss
  | _, _, .nil => rfl
  | _, _, .cons n t r => congrArg (n :: ·) (toS_strs r)
theorem strs_sortable {prog : Program} {w : World} {A : Around} {s : Shared} {a : Addr} {vs : List Value} {ss : List Str} (hI : StrsAre vs ss) (h2 : 2 ≤ vs.length) : SrtO.SortableO prog w A s a vs ltSv := by
  intro h' _
  refine ⟨oneType', fun Q E hq => ?_, fun p q hm hm' => ?_⟩
  · match vs, hI, h2 with
    | v1 :: v2 :: rest, hI, _ =>
      rw [keyKind_strs hI]
      exact wpAny_pure hq
    | [], _, h => exact absurd h (by decide)
    | [v], _, h => exact absurd h (by simp)
  · obtain ⟨a, t, e⟩ := strs_mem hI _ hm
    obtain ⟨b, u, e'⟩ := strs_mem hI _ hm'
    show wpAny (model prog w) A (keyLt' oneType' p.1 q.1) (fun r s' => s' = { s with heap := h' } ∧ r = ltSv p.1 q.1) (fun _ _ => False) { s with heap := h' }
    rw [e, e', keyLt'_oneType]
    exact oneLt_str ⟨rfl, rfl⟩
/-- sorted(d, reverse=True): the keys in some order -/
def rSortDR : List V → List V → Hp → VK → Prop := fun xs zs H Q => ∃ (a : Addr) (kvs : List (Key × V)) (ks : List Str), xs = [.ref a] ∧ zs = [.bl true] ∧ Rd H a (.dK kvs) ∧ kvs.map (·.1) = ks.map Sum.inr ∧
  ∀ (ys : List Str) (p : Addr), ys.Perm ks → H p = none → Q (.ref p) (upd H p (.lst (ys.map V.str)))
section
variable {X : Cx}
theorem cl_sortDR (calmly : X.calm = true) : CallRK X (.builtin "sorted") [Str.ofString "reverse"] rSortDR := by
  intro pi s0 st Hp0 args zs us ws Qk In rel rz hh
  obtain ⟨ad, kv0, ks, exs, ezs, rd0, names, kk⟩ := hh
  subst exs
  subst ezs
  obtain ⟨u0, eu0, r0⟩ := vals1 rel
  subst eu0
  cases r0
  obtain ⟨w1, rfl, e1⟩ := vals1 rz
  obtain rfl : w1 = Value.bool true := e1
  obtain ⟨zd, od0, vv, prs, dof⟩ := dk_rd In.hok rd0
  obtain ⟨epo, dAt⟩ := dof.dictAt
  have nm : vv.map (·.1) = ks.map Sum.inr := by rw [← names, prs.keys]
  have nl : vv.length = ks.length := by simpa using congrArg List.length nm
  have fit0 : vv.length ≤ sizeLine := by rw [← prs.length]; exact zd
  refine call_function_entry_kw kind_sorted plain_sorted entry_sorted (args_sorted_rev _ _) ?_
  unfold Builtin.«sorted»
  refine wpAny_bind (m := checkCount "sorted" 1 1 _) (wpAny_pure ?_)
  refine wpAny_bind (PySem.W.kdu_collect (A := X.A.in1) (PySem.W.kdl_dict (knd := mixKind X.prog X.w) (kvs := vv) (ep := epo) od0) (In.ok.hd calmly) dAt fit0 fun hp1 tk1 got keep1 ⟨gsz, gat⟩ => ?_)
  have al : got.toList.length = ks.length := by rw [Array.length_toList, gsz, nl]
  have txt : StrsAre got.toList ks := strs_at al fun n v ev => by
    obtain ⟨kq, xq, f1, f2⟩ := gat n v (by rw [← Array.getElem?_toList]; exact ev)
    have f3 : (ks.map Sum.inr : List Key)[n]? = some kq := by rw [← nm, List.getElem?_map, f1]; rfl
    rw [List.getElem?_map] at f3
    match q4 : ks[n]? with
    | none =>
      rw [q4] at f3
      cases f3
    | some y =>
      rw [q4] at f3
      have f5 : Sum.inr y = kq := Option.some.inj f3
      subst f5
      obtain ⟨tt, f6⟩ := Value.isStrOf_shape (x := y) (v := v) f2
      exact ⟨y, tt, rfl, f6⟩
  have sml : got.toList.length ≤ sizeLine := by rw [al, ← nl]; exact fit0
  have In1 : Inv X pi st Hp0 { s0 with heap := hp1, toks := tk1 } := In.kept keep1
  refine wpAny_bind (wpAny_newList ?_ (by simpa using sml))
  have at0 : (hp1.push (seqObj "list" got.toList.toArray 0)).get? hp1.objs.size = some (seqObj "list" got.toList.toArray 0) := by exact Heap.get?_push_size _ rfl
  show wpAny _ _ _ _ _ { s0 with heap := hp1.push (seqObj "list" got.toList.toArray 0), toks := tk1 }
  refine wpAny_bind (wpAny_holding (wpAny_call_entry_kw slot_list_sort ⟨_, at0, rfl⟩ entry_list_sort ?_ (args_list_sort_rev _ _)))
  refine SrtR.list_sort_ordR (b := true) (s := { s0 with heap := hp1.push (seqObj "list" got.toList.toArray 0), toks := tk1 }) swo_sv at0 sml (fun h2 => strs_sortable txt h2) fun out hs hb => ⟨_, rfl, ?_⟩
  have pm : out.reverse.Perm got.toList := (List.reverse_perm _).trans (hb.perm.trans (List.reverse_perm _))
  have g1 : StrsAre out.reverse (out.reverse.map toS) := strs_of fun v hv => strs_mem txt v (pm.mem_iff.mp hv)
  have g2 : (out.reverse.map toS).Perm ks := by
    have := pm.map toS
    rw [toS_strs txt] at this
    exact this
  have ea : (if true = true then out.toArray.reverse else out.toArray) = out.reverse.toArray := by
    rw [if_pos rfl]
    simp
  rw [ea]
  obtain ⟨ep2, at2⟩ := PyProof.Rows.sortedHeap_at (vs := got.toList) (out := out.reverse.toArray) at0
  have fit : ((out.reverse.map toS).map V.str).length ≤ sizeLine := by rw [List.length_map, g2.length_eq, ← al]; exact sml
  refine wpAny_pure ⟨_, rfl, .ref hp1.objs.size, upd Hp0 hp1.objs.size (.lst ((out.reverse.map toS).map V.str)), ?_, rfl, kk _ _ g2 (In1.hok.fresh (Nat.le_refl _))⟩
  refine In1.laid (t' := tk1) (fun b u e => ?_) (Nat.le_refl _) (show ObjOk X.prog X.w _ _ _ (.lst ((out.reverse.map toS).map V.str)) from ⟨fit, out.reverse, ep2, vals_of_strs g1, ?_⟩)
  · have lt : b < hp1.objs.size := Heap.lt_size e
    rw [PyProof.Rows.sortedHeap_old (Nat.ne_of_lt lt) (Nat.lt_of_lt_of_eq (Nat.lt_succ_of_lt lt) (size_push' _ _).symm)]
    exact Heap.get?_push_of_some _ e
  · exact at2
end
/-! ### a list or a tuple, whichever a name holds -/
def iAny (K : PySem.W.Frag) (i : Nat) : TI := fun σ H R => iList K (tVar i) σ H R ∨ iTup K (tVar i) σ H R
theorem w_piany {K : PySem.W.Frag} {X : Cx} {i : Nat} {tg l : Expr} (h : X.K = K) (hl : PE X l (tVar i)) : PI X tg l (iAny K i) := by
  subst h
  refine ⟨fun pins s σ H R I q => ?_⟩
  rcases q with q | q
  · exact (pi_list hl).run pins s σ H R I q
  · exact (pi_tup hl).run pins s σ H R I q
theorem x_iAnyL {K : PySem.W.Frag} {i : Nat} {σ : L2.St} {H : Hp} {R : It → Hp → Prop} (k : iList K (tVar i) σ H R) : iAny K i σ H R := .inl k
theorem x_iAnyT {K : PySem.W.Frag} {i : Nat} {σ : L2.St} {H : Hp} {R : It → Hp → Prop} (k : iTup K (tVar i) σ H R) : iAny K i σ H R := .inr k
/-! ### dicts of plain data that are equal -/
structure DKeq (K : PySem.W.Frag) (H : Hp) (a b : Addr) (ks ls : List (Key × V)) : Prop where
  l : H a = some (.dK ks)
  r : H b = some (.dK ls)
  len : ks.length = ls.length
  all : ∀ p ∈ ks, ∃ u d e, valV ls p.1 = some u ∧ Dp K H p.2 d ∧ Dp K H u e ∧ d.canLay0 = true ∧ e.canLay0 = true ∧ d.depth ≤ 50 ∧ PyData.eqv d e = true
def rDEq (K : PySem.W.Frag) (neg : Bool) : R2 := fun x y H Q => (x = .non ∧ y = .non ∧ Q (.bl (!neg)) H) ∨ (∃ a b ks ls, x = .ref a ∧ y = .ref b ∧ DKeq K H a b ks ls ∧ Q (.bl (!neg)) H)
section
variable {X : Cx}
theorem dk_hits {pins : List (Addr × Obj)} {σ : L2.St} {H : Hp} {s : Shared} (I : Inv X pins σ H s) (hu : X.A.units + 64 < cLine) {ls : List (Key × V)} {vb : List (Key × Value)} (rb : KV ls vb) {ks : List (Key × V)} {va : List (Key × Value)} (ra : KV ks va)
    (h : ∀ p ∈ ks, ∃ u d e, valV ls p.1 = some u ∧ Dp X.K H p.2 d ∧ Dp X.K H u e ∧ d.canLay0 = true ∧ e.canLay0 = true ∧ d.depth ≤ 50 ∧ PyData.eqv d e = true) : PySem.W.KeqHits X.A.in1 s vb va true := by
  unfold KV at ra
  induction ra with
  | nil => exact .nil
  | @cons p q ps qs h0 t k =>
    obtain ⟨h1, h2⟩ := h0
    obtain ⟨u, d, e, ev, hd, he, cd, ce, dd, eqv⟩ := h p List.mem_cons_self
    have rr : RelO (some u) (valueAt vb p.1) := by rw [← ev]; exact rb.val p.1
    obtain ⟨y, hy, ry⟩ := rr.some_of
    obtain ⟨key, v⟩ := q
    have h1' : p.1 = key := h1
    rw [h1'] at hy
    obtain ⟨as, r1⟩ := Dp.reads I d p.2 v hd h2
    obtain ⟨bs, r2⟩ := Dp.reads I e u y he ry
    show PySem.W.KeqHits X.A.in1 s vb ((key, v) :: qs) (true && true)
    refine .hit hy ?_ (k fun p' hm => h p' (List.mem_cons_of_mem _ hm))
    have := SeqAt.eqAt_reads d e X.A.in1 s v y as bs r1 r2 cd ce (by show X.A.units + 1 + min d.depth e.depth < cLine; omega)
    rw [eqv] at this
    exact this
theorem op_dEq (hu : X.A.units + 64 < cLine) : OpR X (compareOp .Eq) (rDEq X.K false) := by
  intro pins s σ H x y v u Q I rx ry h
  rcases h with ⟨rfl, rfl, q⟩ | ⟨a, b, ks, ls, rfl, rfl, D, q⟩
  · exact op_eqD hu pins s σ H .non .non v u Q I rx ry ⟨.none, .none, .non, .non, by rfl, by rfl, q⟩
  · cases (show v = Value.ref a from rx)
    cases (show u = Value.ref b from ry)
    obtain ⟨_, ya, va, ra, da⟩ := (show ObjOk X.prog X.w H s.heap a (.dK ks) from I.hok a _ D.l)
    obtain ⟨_, yb, vb, rb, db⟩ := (show ObjOk X.prog X.w H s.heap b (.dK ls) from I.hok b _ D.r)
    have e : va.length = vb.length := by rw [← ra.length, ← rb.length]; exact D.len
    refine PySem.W.keq_eq (knd := mixKind X.prog X.w) (r := true) ya yb da db (by omega) (fun _ => dk_hits I hu rb ra D.all) ?_
    rw [show (va.length == vb.length && true) = true from by rw [e]; simp]
    exact ⟨.bl true, H, I, rfl, q⟩
theorem op_dNe (hu : X.A.units + 64 < cLine) : OpR X (compareOp .NotEq) (rDEq X.K true) := by
  intro pins s σ H x y v u Q I rx ry h
  rcases h with ⟨rfl, rfl, q⟩ | ⟨a, b, ks, ls, rfl, rfl, D, q⟩
  · exact op_neD hu pins s σ H .non .non v u Q I rx ry ⟨.none, .none, .non, .non, by rfl, by rfl, q⟩
  · cases (show v = Value.ref a from rx)
    cases (show u = Value.ref b from ry)
    obtain ⟨_, ya, va, ra, da⟩ := (show ObjOk X.prog X.w H s.heap a (.dK ks) from I.hok a _ D.l)
    obtain ⟨_, yb, vb, rb, db⟩ := (show ObjOk X.prog X.w H s.heap b (.dK ls) from I.hok b _ D.r)
    have e : va.length = vb.length := by rw [← ra.length, ← rb.length]; exact D.len
    refine PySem.W.keq_ne (knd := mixKind X.prog X.w) (r := true) ya yb da db (by omega) (fun _ => dk_hits I hu rb ra D.all) ?_
    rw [show (va.length == vb.length && true) = true from by rw [e]; simp]
    exact ⟨.bl false, H, I, rfl, q⟩
theorem w_dEq {K : PySem.W.Frag} (h : X.K = K) (hu : X.A.units + 64 < cLine) : OpR X (compareOp .Eq) (rDEq K false) := by subst h; exact op_dEq hu
theorem w_dNe {K : PySem.W.Frag} (h : X.K = K) (hu : X.A.units + 64 < cLine) : OpR X (compareOp .NotEq) (rDEq K true) := by subst h; exact op_dNe hu
theorem w_dclear {K : PySem.W.Frag} {o : Expr} {to : TE} {apos cpos : Pos} (h : X.K = K) (ho : PE X o to) (hbase : attributeBase o "clear" X.env (eval o X.env) = eval o X.env := by rfl) (hline : (apos.endLine == cpos.line) = true := by rfl) :
    PE X (.Call (.Attribute o "clear" apos) [] [] cpos) (tBM0 K "dict" rDClear to) := by subst h; exact pe_dclear ho hbase hline
end
end M

set_option Elab.async false
set_option linter.all false
set_option maxRecDepth 100000
set_option maxHeartbeats 2000000
/-! {t: v}, t a tuple; setdefault; join; index -/
namespace M
open PySem PySem.Spec PyProof.Rows L2
def tDispT (tk tv : TE) : TE := fun σ H Q => ∀ p, H p = none → tk σ (upd H p (.dT [])) fun x H1 => tv σ H1 fun y H2 => ∃ (b : Addr) (k : List Key), x = .ref b ∧ H2 p = some (.dT []) ∧ H2 b = some (.tup (k.map kV)) ∧ Q (.ref p) (upd H2 p (.dT [(k, y)]))
theorem pe_dispT {X : Cx} {pos : Pos} {k v : Expr} {tk tv : TE} (hu : X.A.units + 1 < cLine) (hk : PE X k tk) (hv : PE X v tv) : PE X (.Dict [some k] [v] pos) (tDispT tk tv) := by
  refine ⟨fun pins s σ H Q I q => ?_⟩
  have hn := I.hok.fresh (Nat.le_refl s.heap.objs.size)
  have I1 := I.laid (a := s.heap.objs.size) (o := .dT []) (h' := s.heap.push { cls := .type "dict", data := .dict #[] }) (t' := s.toks) (fun _ _ q => Heap.get?_push_of_some _ q) (Nat.le_refl _) (dt_empty s.heap I.big)
  have hl := pairTrees_length [some k] [v] X.env pos rfl rfl
  have hz := zip_pairTrees [some k] [v] X.env pos rfl rfl
  rw [arm_eval_Dict, hz, dictDisplay_pairs _ (fun e => by rw [e] at hl; cases hl) (by rw [hl]; exact Nat.le_of_ble_eq_true rfl)]
  refine wpAny_bind (wpAny_standAt (wpAny_bind (wpAny_subDictH (knd := tupleKind (mixKind X.prog X.w)) (Q := fun d s' => wpAny (model X.prog X.w) X.A (pure (Value.ref d)) (EP X pins σ Q) X.xe s') (Nat.lt_of_succ_lt hu) (by rw [hl]; exact Nat.le_of_ble_eq_true rfl) ?_)))
  refine pairTrees_cons_walk (thn (hk.run pins _ σ _ _ I1 (q _ hn)) fun u s1 ⟨x, H1, I2, rx, q1⟩ => thn (hv.run pins s1 σ H1 _ I2 q1) fun w2 s2 ⟨y, H2, I3, ry, b, ky, ex, hp, hb, q2⟩ => pairTrees_nil_walk ?_)
  subst ex
  obtain rfl : u = Value.ref b := rx
  obtain ⟨z, hd, xs0, r0, dd⟩ := dt_of I3.hok hp
  cases r0
  refine ⟨[(ky, b, w2)], ⟨rfl, rfl, key_of I3.hok hb, trivial⟩, dd, fun h' tk' dd' hs => wpAny_pure ?_⟩
  refine ⟨.ref s.heap.objs.size, upd H2 s.heap.objs.size (.dT [(ky, y)]), ?_, rfl, q2⟩
  have e1 : storedAllH ([] : List (List Key × Addr × Value)) [(ky, b, w2)] = [(ky, b, w2)] := rfl
  rw [e1] at dd'
  obtain ⟨o, es, ep, hq, h2, h3, h4, _, h5⟩ := dd'
  refine d_write I3 (by rw [hp]; exact True.intro) hs ⟨o, hq⟩ ⟨Nat.le_of_ble_eq_true rfl, hd, [(ky, b, w2)], .cons ⟨rfl, ?_, ry⟩ .nil, o, es, ep, hq, h2, h3, h4, h5⟩
  rw [upd_ne (ne_of hb hp (fun z => nomatch z))]
  exact hb
def rJoin (K : PySem.W.Frag) : V → List V → Hp → VK → Prop := fun x xs H Q => ∃ a p, ∃ ys : List Str, x = .str a ∧ xs = [.ref p] ∧ (SqL K H p (ys.map V.str) ∨ SqT K H p (ys.map V.str)) ∧
    (ys.map (·.length)).sum + ys.length * a.length ≤ 16777216 ∧ Q (.str (Txt.join a ys)) H
section
variable {X : Cx} {K : PySem.W.Frag} {o e : Expr} {to : TE} {t : TA} {apos cpos : Pos}
theorem w_join (h : X.K = K) (ho : PE X o to) (ha : PA X [e] t)
    (hbase : attributeBase o "join" X.env (eval o X.env) = eval o X.env := by rfl)
    (hfew : ((backTo cpos (starEach [e] X.env)).all (fun x => !x.1) && (backToKw cpos (keywordEach [] X.env)).all (fun x => x.1.isSome)
      && decide (([e] : List Expr).length + ([] : List Keyword).length + (if ([] : List Keyword).isEmpty then 0 else 1) < 30)) = true := by rfl)
    (hline : (apos.endLine == cpos.line) = true := by rfl) (hs : starEach [e] X.env = (false, eval e X.env) :: starEach [] X.env := by rfl) (hplain : (backTo cpos (starEach [] X.env)).any (·.1) = false := by rfl) :
    PE X (.Call (.Attribute o "join" apos) [e] [] cpos) (tBM K "str" (rJoin K) to t) := by
  subst h
  exact pe_bm PySem.F.plainAttrs_str PySem.F.slot_str_join PySem.F.type_str_join mt_join ho ha hbase hfew hline hs hplain
theorem w_index (h : X.K = K) (ho : PE X o to) (ha : PA X [e] t)
    (hbase : attributeBase o "index" X.env (eval o X.env) = eval o X.env := by rfl)
    (hfew : ((backTo cpos (starEach [e] X.env)).all (fun x => !x.1) && (backToKw cpos (keywordEach [] X.env)).all (fun x => x.1.isSome)
      && decide (([e] : List Expr).length + ([] : List Keyword).length + (if ([] : List Keyword).isEmpty then 0 else 1) < 30)) = true := by rfl)
    (hline : (apos.endLine == cpos.line) = true := by rfl) (hs : starEach [e] X.env = (false, eval e X.env) :: starEach [] X.env := by rfl) (hplain : (backTo cpos (starEach [] X.env)).any (·.1) = false := by rfl) :
    PE X (.Call (.Attribute o "index" apos) [e] [] cpos) (tBM K "list" (rIndex K) to t) := by
  subst h
  exact pe_bm PySem.F.plainAttrs_list PySem.F.slot_list_index PySem.F.type_list_index mt_index ho ha hbase hfew hline hs hplain
end
section
variable {K : PySem.W.Frag} {σ : L2.St} {H : Hp} {Q : VK}
theorem x_dispT {tk tv : TE} (k : ∀ p, H p = none → tk σ (upd H p (.dT [])) fun x H1 => tv σ H1 fun y H2 => ∃ (b : Addr) (k : List Key), x = .ref b ∧ H2 p = some (.dT []) ∧ H2 b = some (.tup (k.map kV)) ∧ Q (.ref p) (upd H2 p (.dT [(k, y)]))) : tDispT tk tv σ H Q := k
theorem x_dsetd {td ty tx : TE} (k : td σ H fun x H1 => ∃ a, x = .ref a ∧ IsD H1 a ∧ ty σ H1 fun y H2 => tx σ H2 fun z H3 => ∃ (kvs : List (Key × V)) (k : Key), H3 a = some (.dK kvs) ∧ y = kV k ∧ kvs.length < sizeLine ∧
  (∀ v, valV kvs k = some v → Q v H3) ∧ (valV kvs k = none → Q z (upd H3 a (.dK (putK kvs k z))))) : tDSetd td ty tx σ H Q := k
theorem x_join {a : Str} {p : Addr} {ys : List Str} (h : SqL K H p (ys.map V.str)) (hz : (ys.map (·.length)).sum + ys.length * a.length ≤ 16777216) (k : Q (.str (Txt.join a ys)) H) : rJoin K (.str a) [.ref p] H Q := ⟨a, p, ys, rfl, rfl, .inl h, hz, k⟩
end
end M

set_option Elab.async false
set_option linter.all false
set_option maxRecDepth 100000
set_option maxHeartbeats 2000000
/-! repr of data at any depth; a def that is run where no repr is under way -/
namespace ReR
open PySem PySem.Spec PyProof.Rows L2
def SysIs (base : Heap) : Prop := ∃ mm, base.Ns sysModules mm
def kD : Key → PyData
  | .inl i => .int i
  | .inr x => .str x
mutual
/-- the data that stands at a value -/
inductive DpD (H : Hp) : V → PyData → Prop
  | non : DpD H .non .none
  | bl (b : Bool) : DpD H (.bl b) (.bool b)
  | int (i : Int) : DpD H (.int i) (.int i)
  | str (x : Str) : DpD H (.str x) (.str x)
  | lst {a : Addr} {xs : List V} {ds : List PyData} : H a = some (.lst xs) → DpDs H xs ds → DpD H (.ref a) (.list ds)
  | tup {a : Addr} {xs : List V} {ds : List PyData} : H a = some (.tup xs) → DpDs H xs ds → DpD H (.ref a) (.tuple ds)
  | dic {a : Addr} {kvs : List (Key × V)} {ds : List (PyData × PyData)} : Rd H a (.dK kvs) → DpDk H kvs ds → DpD H (.ref a) (.dict ds)
inductive DpDs (H : Hp) : List V → List PyData → Prop
  | nil : DpDs H [] []
  | cons {v : V} {vs : List V} {d : PyData} {ds : List PyData} : DpD H v d → DpDs H vs ds → DpDs H (v :: vs) (d :: ds)
inductive DpDk (H : Hp) : List (Key × V) → List (PyData × PyData) → Prop
  | nil : DpDk H [] []
  | cons {k : Key} {v : V} {r : List (Key × V)} {d : PyData} {ds : List (PyData × PyData)} : DpD H v d → DpDk H r ds → DpDk H ((k, v) :: r) ((kD k, d) :: ds)
end
section
variable {A B : Hp}
mutual
theorem DpD.mono (e : ∀ b o, A b = some o → B b = some o) : ∀ {v : V} {d : PyData}, DpD A v d → DpD B v d
  | _, _, .non => .non
  | _, _, .bl b => .bl b
  | _, _, .int i => .int i
  | _, _, .str x => .str x
  | _, _, .lst h r => .lst (e _ _ h) (r.mono e)
  | _, _, .tup h r => .tup (e _ _ h) (r.mono e)
  | _, _, .dic h r => .dic (h.elim (fun h => .inl (e _ _ h)) fun ⟨o, h⟩ => .inr ⟨o, e _ _ h⟩) (r.mono e)
theorem DpDs.mono (e : ∀ b o, A b = some o → B b = some o) : ∀ {v : List V} {d : List PyData}, DpDs A v d → DpDs B v d
  | _, _, .nil => .nil
  | _, _, .cons h r => .cons (h.mono e) (r.mono e)
theorem DpDk.mono (e : ∀ b o, A b = some o → B b = some o) : ∀ {v : List (Key × V)} {d : List (PyData × PyData)}, DpDk A v d → DpDk B v d
  | _, _, .nil => .nil
  | _, _, .cons h r => .cons (h.mono e) (r.mono e)
end
end
theorem readsAll_key {h : Heap} {k : Key} {u : Value} (e : keyIs k u = true) : Reads h u (kD k) [] := by
  rcases keyIs_shape e with ⟨i, t, rfl, rfl⟩ | ⟨x, t, rfl, rfl⟩
  · exact Reads.int i t
  · exact Reads.str x t
section
variable {X : Cx} {pins : List (Addr × Obj)} {σ : L2.St} {H : Hp} {s : Shared}
theorem no_sys (hb : SysIs X.base) (I : Inv X pins σ H s) {a : Addr} (h : H a ≠ none) : a ≠ sysModules := by
  obtain ⟨mm, o, es, ep, e, _⟩ := hb
  intro z
  rw [z] at h
  exact h (I.bs _ _ e).2
mutual
theorem DpD.reads (hb : SysIs X.base) (I : Inv X pins σ H s) : ∀ {v : V} {d : PyData} {u : Value}, DpD H v d → RelV v u → ∃ as, Reads s.heap u d as ∧ sysModules ∉ as
  | _, _, u, .non, r => by
    cases (show u = Value.none from r)
    exact ⟨_, .none, List.not_mem_nil⟩
  | _, _, u, .bl b, r => by
    cases (show u = Value.bool b from r)
    exact ⟨_, .bool b, List.not_mem_nil⟩
  | _, _, u, .int i, r => by
    obtain ⟨t, rfl⟩ := (show ∃ t, u = Value.int i t from r)
    exact ⟨_, .int i t, List.not_mem_nil⟩
  | _, _, u, .str x, r => by
    obtain ⟨t, rfl⟩ := (show ∃ t, u = Value.str x t from r)
    exact ⟨_, .str x t, List.not_mem_nil⟩
  | _, _, u, .lst (a := a) (xs := xs) e h, r => by
    cases (show u = Value.ref a from r)
    obtain ⟨z, its, n, rv, g⟩ : xs.length ≤ sizeLine ∧ ∃ (its : List Value) (n : Nat), Vals xs its ∧ s.heap.get? a = some { cls := .type "list", data := .seq its.toArray n } := I.hok _ _ e
    obtain ⟨as, q, ns⟩ := h.reads hb I rv
    have na := no_sys hb I (a := a) (by rw [e]; exact fun z => nomatch z)
    exact ⟨_, .list g rfl rfl (by simpa using q), fun m => (List.mem_cons.mp m).elim (fun z => na z.symm) ns⟩
  | _, _, u, .tup (a := a) (xs := xs) e h, r => by
    cases (show u = Value.ref a from r)
    obtain ⟨z, its, rv, o, g, hc, n, hd⟩ : xs.length ≤ sizeLine ∧ ∃ its : List Value, Vals xs its ∧ IsTup s.heap a its.toArray := I.hok _ _ e
    obtain ⟨as, q, ns⟩ := h.reads hb I rv
    exact ⟨_, .tuple g hc hd (by simpa using q), ns⟩
  | _, _, u, .dic (a := a) (kvs := kvs) e h, r => by
    cases (show u = Value.ref a from r)
    obtain ⟨z, hS, vs, rel, o, es, ep, g, hx, hd, hk, pr, nd⟩ := dk_rd I.hok e
    obtain ⟨as, bs, q1, q2, n1, n2⟩ := h.reads hb I rel pr
    exact ⟨_, .dict g hx.1 hd q1 q2, fun m => (List.mem_append.mp m).elim (fun m => (List.mem_cons.mp m).elim (fun z => (beq_eq_false_iff_ne.mp hS) z.symm) n1) n2⟩
theorem DpDs.reads (hb : SysIs X.base) (I : Inv X pins σ H s) : ∀ {v : List V} {d : List PyData} {u : List Value}, DpDs H v d → Vals v u → ∃ as, ReadsAll s.heap u d as ∧ sysModules ∉ as
  | _, _, _, .nil, r => by
    cases r
    exact ⟨_, .nil, List.not_mem_nil⟩
  | _, _, _, .cons h hs, r => by
    cases r with
    | cons r1 r2 =>
      obtain ⟨as, q1, n1⟩ := h.reads hb I r1
      obtain ⟨bs, q2, n2⟩ := hs.reads hb I r2
      exact ⟨_, .cons q1 q2, fun m => (List.mem_append.mp m).elim n1 n2⟩
theorem DpDk.reads (hb : SysIs X.base) (I : Inv X pins σ H s) : ∀ {v : List (Key × V)} {d : List (PyData × PyData)} {vs : List (Key × Value)} {es : List DictEntry}, DpDk H v d → KV v vs → Pairs (mixKind X.prog X.w) es vs →
    ∃ as bs, ReadsAll s.heap (es.map (·.key)) (d.map (·.1)) as ∧ ReadsAll s.heap (es.map (·.val)) (d.map (·.2)) bs ∧ sysModules ∉ as ∧ sysModules ∉ bs
  | _, _, _, _, .nil, r, p => by
    cases r
    cases p
    exact ⟨_, _, .nil, .nil, List.not_mem_nil, List.not_mem_nil⟩
  | _, _, _, _, .cons h hs, r, p => by
    cases r with
    | cons r1 r2 =>
      cases p with
      | cons p1 p2 p3 =>
        obtain ⟨k1, rv⟩ := r1
        obtain ⟨as, q1, n1⟩ := h.reads hb I rv
        obtain ⟨bs, cs, q2, q3, n2, n3⟩ := hs.reads hb I r2 p3
        rw [← p2] at q1
        rw [← k1] at p1
        exact ⟨_, _, .cons (readsAll_key p1) q2, .cons q1 q3, fun m => n2 (by simpa using m), fun m => (List.mem_append.mp m).elim n1 n3⟩
end
end
/-- data whose text is short -/
def okD (d : PyData) : Prop := d.showable = true ∧ d.depth ≤ 60 ∧ d.leavesShort 40 = true ∧ d.bulk ≤ 100000
theorem okD.len {d : PyData} (h : okD d) : d.shown.length ≤ sizeLine := by
  have q := PyData.shown_le_bulk 40 (by decide) d h.2.2.1
  have b := h.2.2.2
  have e := sizeLine_eq
  rw [e]
  omega
def rRepr : List V → Hp → VK → Prop := fun xs H Q => ∃ v d, xs = [v] ∧ DpD H v d ∧ okD d ∧ Q (.str d.shown) H
theorem cr_repr {X : Cx} (hg : X.A.guards = some []) (hu : X.A.units + 64 < cLine) (hb : SysIs X.base) : CallR X (.builtin "repr") rRepr := by
  intro pins s σ H xs us Q I r h
  obtain ⟨v, d, rfl, hd, ok, q⟩ := h
  obtain ⟨u, rfl, ru⟩ := vals1 r
  obtain ⟨as, rd, ns⟩ := hd.reads hb I ru
  have hl := ok.len
  cases rd with
  | none => exact PySem.P.repr_of_none ⟨.str _, H, I.tok _, ⟨_, rfl⟩, q⟩
  | bool b => exact PySem.P.repr_of_bool ⟨.str _, H, I.tok _, ⟨_, rfl⟩, q⟩
  | int i t => exact PySem.P.repr_of_int (by simpa [PyData.showable] using ok.1) ⟨.str _, H, I.tok _, ⟨_, rfl⟩, q⟩
  | str x t => exact PySem.P.repr_of_str ⟨.str _, H, I.tok _, ⟨_, rfl⟩, q⟩ (by simpa only [PyData.shown] using hl)
  | list h1 h2 h3 h4 => exact repr_of_reads' (.list h1 h2 h3 h4) ok.1 (fun _ => ns) hg (by have := ok.2.1; omega) (fun _ _ e => e) (fun h' u tk hk => ⟨.str _, H, I.kept hk, ⟨_, rfl⟩, q⟩) hl
  | tuple h1 h2 h3 h4 => exact repr_of_reads' (.tuple h1 h2 h3 h4) ok.1 (fun _ => ns) hg (by have := ok.2.1; omega) (fun _ _ e => e) (fun h' u tk hk => ⟨.str _, H, I.kept hk, ⟨_, rfl⟩, q⟩) hl
  | dict h1 h2 h3 h4 h5 => exact repr_of_reads' (.dict h1 h2 h3 h4 h5) ok.1 (fun _ => ns) hg (by have := ok.2.1; omega) (fun _ _ e => e) (fun h' u tk hk => ⟨.str _, H, I.kept hk, ⟨_, rfl⟩, q⟩) hl

/-! ### a def that is run where no repr is under way -/
structure FnG (P : Program) (w : World) (K : PySem.W.Frag) (mg : Str → Option Value) (base : Heap) (CX : CXT) (k : Nat) (f : Addr) (fd : FuncData) (ps : List Str) (sp : Sp) : Prop where
  len : ∀ vs H Q E, sp vs H Q E → vs.length = ps.length
  run : ∀ (A : Around) (outer : List Env) (s : Shared) (H : Hp) (args : Args) (us : List Value) (vs : List V) (Q : VK) (E : XK), Room k A → A.guards = some [] → Env0 P w K mg base A outer s H → BindsTo s fd args (ps.zip us) → Vals vs us → sp vs H Q E →
    codeAny (model P w) A (.call (.ref f) args) (CR CX outer P w H s Q E) s
section
variable {P : Program} {w : World} {K : PySem.W.Frag} {mg : Str → Option Value} {base : Heap}
theorem _root_.L2.Fun.okG {x qual : Str} {st : Stmt} {f : Addr} {fd : FuncData} {N ps : List Str} {k : Nat} {sp : Sp} (F : Fun K x qual st f fd) (S : FnScope N ps (defScope st)) (len : ∀ vs H Q E, sp vs H Q E → vs.length = ps.length)
    (hbody : ∀ (cdv : Value) (A : Around) (outer : List Env) (s : Shared) (H : Hp) (vs : List V) (Q : VK) (E : XK), Room k (A.deeper (envOfC qual (defScope st) s.heap.objs.size f cdv)) → (A.deeper (envOfC qual (defScope st) s.heap.objs.size f cdv)).guards = some [] → sp vs H Q E →
      ∃ t, PSs (cxOf CX0 P w K mg base N qual (defScope st) f cdv A outer s H E).nox (defBody st) t ∧ t { nx := fun _ H' => Q .non H', rt := Q } (start N vs) H) : FnG P w K mg base CX0 (k + 1) f fd ps sp := by
  obtain ⟨oc, od, kV, doc, pm, an, cdv, ct, osl, rfl, lk, hcd⟩ := F.ex
  refine ⟨len, fun A outer s H args us vs Q E hr hg e0 hb r hsp => ?_⟩
  have kept := fun b o e => (e0.bs b o e).1
  have KX : K.In s.heap := e0.mod.kin.keeps kept
  have free : s.heap.NoLimit := e0.mod.nolimit.keeps kept
  have there : ∀ y ∈ ps.zip us, (defScope st).names.lookup y.1 = some .local ∨ ((defScope st).names.lookup y.1 = some .cell ∧ ((cellsFrom (s.heap.objs.size + 1) (defScope st).names []).lookup y.1).isSome = true) := by
    intro y hy
    rcases S.par y.1 (List.of_mem_zip (a := y.1) (b := y.2) hy).1 with q | q
    · exact .inl q
    · exact .inr ⟨q, PySem.W.cellsFrom_some _ _ _ (.inl q)⟩
  refine codeAny_call_function hr.depth (KX _ _ lk) rfl S.co S.gen rfl (PySem.W.codeRec_of KX hcd) (hb _ _ _ _ ?_)
  refine wpAny_newFunctionEnv_cells S.kind there fun env he s1 x => ?_
  subst he
  refine ⟨free.keeps x.toInCall.keep, codeAny_func ?_⟩
  obtain ⟨t, ht, hq⟩ := hbody cdv A outer s H vs Q E (hr.deeper _) hg hsp
  refine wpAny_mono (ht.nox.run [] s1 (start N vs) H _ (inv_start S hr.hd e0 (len _ _ _ _ hsp) r x) hq) (fun fl s' hs => ?_) fun e s' hs => hs
  cases fl with
  | ret u =>
    obtain ⟨v, σ', H', J, rv, q⟩ := hs
    exact ⟨v, H', J.os, J.bare, J.base, J.hok, rv, q⟩
  | next =>
    obtain ⟨σ', H', J, q⟩ := hs
    exact ⟨V.non, H', J.os, J.bare, J.base, J.hok, rfl, q⟩
  | brk => exact False.elim hs.choose_spec.choose_spec.2
  | cont => exact False.elim hs.choose_spec.choose_spec.2
end
/-- the head: the law's promise at the state behind the top -/
theorem law_callG {P : Program} {w : World} {K : PySem.W.Frag} {mg mb : Str → Option Value} {CX : CXT} {k : Nat} {fa a : Addr} {fd : FuncData} {x : Str} {sp : Sp} {s₁ : Shared} {vs : List Value} {ns : List Int}
    (KX : K.In s₁.heap) (hns : s₁.heap.Ns mainGlobals mg) (hb : s₁.heap.Ns builtinsNs mb) (hbb : ∀ x : Str, x ≠ "__name__" → mb x = bootBuiltins x) (hlim : s₁.heap.NoLimit) (hsy : SysIs s₁.heap) (hg : s₁.gens = #[])
    (ha : s₁.heap.get? a = some { cls := .type "list", data := .seq vs.toArray }) (hi : IntsAre vs ns) (hl : ns.length ≤ sizeLine) (hr : Room k callerA)
    (F : ∀ base : Heap, K.In base → base.Ns mainGlobals mg → SysIs base → FnG P w K mg base CX k fa fd [x] sp) (hbind : ∀ (s : Shared) (u : Value), BindsTo s fd ⟨[u], []⟩ [(x, u)])
    (hsp : ∀ H : Hp, Only H → SqL K H a (ns.map V.int) → sp [.ref a] H (fun v _ => v = .bl true) fun _ _ _ => False)
    (hCX : ∀ H e s', CX [] H s₁ (fun _ _ _ => False) e s' → False) :
    codeAny (model P w) callerA (.call (.ref fa) ⟨[.ref a], []⟩) (fun r s' => r = .ok (.ret (.bool true)) ∧ OldK s₁.heap s'.heap ∧ s'.os = s₁.os ∧ AllBare s'.gens) s₁ := by
  have rv := vals_ints hi
  have lv := hi.length
  -- the start's abstract heap: the script alone, as it lies; nothing where it is an object of the module
  have pick : ∃ H : Hp, Only H ∧ SqL K H a (ns.map V.int) ∧ HOk P w H s₁.heap ∧ (∀ b, H b ≠ none → b = a) ∧ (H a ≠ none → K.lookup a = none) := by
    cases hk : K.lookup a with
    | some o =>
      have e := KX a o hk
      rw [ha] at e
      cases e
      exact ⟨fun _ => none, fun _ => .inl rfl, .inr ⟨_, vs.toArray, _, hk, rfl, rfl, rfl, by rw [List.size_toArray, lv]; exact hl, by simpa using rv⟩, (fun b u z => nomatch (show (none : Option HO) = some u from z)), fun b z => absurd rfl z, fun z => absurd rfl z⟩
    | none =>
      refine ⟨fun b => if b = a then some (.frz { cls := .type "list", data := .seq vs.toArray } (.lst (ns.map V.int))) else none, fun b => ?_, .inl (.inr ⟨_, if_pos rfl⟩), fun b u z => ?_, fun b z => ?_, fun _ => rfl⟩
      · by_cases c : b = a
        · exact .inr ⟨_, _, if_pos c⟩
        · exact .inl (if_neg c)
      · by_cases c : b = a
        · cases (if_pos c).symm.trans z
          rw [c]
          exact ⟨ha, by rw [List.length_map]; exact hl, vs, _, rv, ha⟩
        · cases (if_neg c).symm.trans z
      · exact Decidable.byContradiction fun c => z (if_neg c)
  obtain ⟨H, hO, hS, hok, one, notK⟩ := pick
  have clear : ∀ {b : Addr} {o : Obj}, s₁.heap.get? b = some o → b ≠ a → H b = none := fun {b o} _ n => Decidable.byContradiction fun z => n (one b z)
  have ns_ne : ∀ {b : Addr} {m : Str → Option Value}, s₁.heap.Ns b m → b ≠ a := fun {b m} ⟨o, es, ep, e, d, _⟩ z => by
    rw [z, ha] at e
    cases e
    cases (show Data.seq vs.toArray _ = Data.dict es ep from d)
  have nsK : ∀ {b : Addr} {m : Str → Option Value}, s₁.heap.Ns b m → (hidT s₁.heap H).Ns b m := fun {b m} n => by
    have ne := ns_ne n
    obtain ⟨o, es, ep, e, r⟩ := n
    exact ⟨o, es, ep, hidT_get e (clear e ne), r⟩
  have hKb : K.In (hidT s₁.heap H) := fun b o e => hidT_get (KX b o e) (Decidable.byContradiction fun z => by
    have := one b z
    subst this
    rw [notK z] at e
    cases e)
  obtain ⟨mc, c1, c2⟩ := hlim
  obtain ⟨mm, m1⟩ := hsy
  have hM : Mod K mg (hidT s₁.heap H) := ⟨hKb, nsK hns, ⟨mb, nsK hb, hbb⟩, mc, nsK c1, c2⟩
  have e0 : Env0 P w K mg (hidT s₁.heap H) callerA [] s₁ H := ⟨rfl, hM, fun b o e => of_hidT e, Nat.le_of_eq (hidT_size _ _), trivial, (fun b z => nomatch (show b ∈ ([] : List Addr) from z)), hok, .of_eq hg⟩
  refine codeAny_mono ((F _ hKb (nsK hns) ⟨mm, nsK m1⟩).run callerA [] s₁ H ⟨[.ref a], []⟩ [.ref a] [.ref a] _ _ hr rfl e0 (hbind s₁ (.ref a)) (.cons rfl .nil) (hsp H hO hS)) fun r s' h => ?_
  cases r with
  | error e => exact (hCX H e s' h).elim
  | ok fl =>
    cases fl with
    | next => exact False.elim h
    | brk => exact False.elim h
    | cont => exact False.elim h
    | ret u =>
      obtain ⟨v, H', os, bare, un, hok', r', q⟩ := h
      subst q
      obtain rfl : u = Value.bool true := r'
      refine ⟨rfl, OldK.of_keep fun b o e => ?_, os, bare⟩
      by_cases n : H b = none
      · exact un.keep b o e n (fun z => nomatch (show b ∈ ([] : List Addr) from z)) (by simp)
      · rcases hO b with z | ⟨ob, xs, z⟩
        · exact absurd z n
        · obtain ⟨e1, _⟩ := hok b _ z
          obtain ⟨e2, _⟩ := hok' b _ (un.frzs b ob _ z)
          rw [e] at e1
          cases e1
          exact e2
theorem walk_ofG {l : PySem.W.OpenLaw} {n k : Nat} {q : Program} {loose : List Str} {XP : (Str → Option Value) → Heap → Prop} {YP : World → Heap → Prop} {d : DefRec} {K : Params → PySem.W.Frag} {CX : World → CXT} {sp : World → Sp} {x : Str}
    (hn : l.most = some n) (hn2 : n ≤ sizeLine) (hdf : d.params.defaults = []) (hr : Room k callerA) (him : importsNone q = true)
    (hY : ∀ (w : World) (h : Heap), YP w h → (K w.params).In h)
    (F : ∀ (w : World) (mg : Str → Option Value) (fa : Addr) (h : Heap), (K w.params).In h → h.Ns mainGlobals mg → mg d.name = some (.ref fa) →
      ∃ fd : FuncData, (∀ (s : Shared) (u : Value), BindsTo s fd ⟨[u], []⟩ [(x, u)]) ∧
        ∀ base : Heap, (K w.params).In base → base.Ns mainGlobals mg → SysIs base → FnG l.prog w (K w.params) mg base (CX w) k fa fd [x] (sp w))
    (hsp : ∀ (w : World) (H : Hp) (a : Addr) (ns : List Int), ns.length ≤ n → Only H → SqL (K w.params) H a (ns.map V.int) → sp w [.ref a] H (fun v _ => v = .bl true) fun _ _ _ => False)
    (hCX : ∀ (w : World) (H : Hp) (s : Shared) (e : Value) (s' : Shared), CX w [] H s (fun _ _ _ => False) e s' → False) :
    PySem.W.WalkO q loose XP YP l.row.toRowW d [] (fun f vs => PySem.call f vs) := by
  refine Att.attach_call hn hdf fun w s₀ s₁ mg mb fa o pm cd doc a vs ns G Y ho hd hcd hmg hobj hints hlen hg => ?_
  obtain ⟨fd, hb, hF⟩ := F w mg fa _ (hY w _ Y) G.T.g hmg
  obtain ⟨mm, m1, _⟩ := (G.T.seer him).mods
  exact law_callG (hY w _ Y) G.T.g G.T.b G.T.builtins G.T.nolimit ⟨mm, m1⟩ hg hobj hints (Nat.le_trans hlen hn2) hr hF hb (fun H hO hS => hsp w H a ns hlen hO hS) fun H e s' => hCX w H s₁ e s'
end ReR

set_option Elab.async false
set_option linter.all false
set_option maxRecDepth 100000
set_option maxHeartbeats 2000000
/-! a tuple whose first item is a text, compared with a tuple of one text -/
namespace L2
open PySem PySem.Spec PyProof.Rows
def rEqH (K : PySem.W.Frag) : R2 := fun x y H Q => ∃ a b s t xs, x = .ref a ∧ y = .ref b ∧ SqT K H a (.str s :: xs) ∧ SqT K H b [.str t] ∧ Q (.bl (decide (s = t) && xs.isEmpty)) H
theorem op_eqH {X : Cx} (hu : X.A.units < cLine) : OpR X (compareOp .Eq) (rEqH X.K) := by
  intro pins s σ H x y v u Q I rx ry h
  obtain ⟨a, b, s0, t0, xs, rfl, rfl, h1, h2, q⟩ := h
  cases (show v = Value.ref a from rx)
  cases (show u = Value.ref b from ry)
  obtain ⟨us, r1, ⟨o1, e1, c1, n1, d1⟩, _⟩ := I.tuple h1
  obtain ⟨ws, r2, ⟨o2, e2, c2, n2, d2⟩, _⟩ := I.tuple h2
  cases r1 with
  | @cons _ u0 _ ur ru rr =>
    cases r2 with
    | @cons _ w0 _ wr rw0 rrw =>
      cases rrw
      obtain ⟨tu, rfl⟩ := (show ∃ t, u0 = Value.str s0 t from ru)
      obtain ⟨tw, rfl⟩ := (show ∃ t, w0 = Value.str t0 t from rw0)
      have lx : xs.length = ur.length := rr.length
      refine SeqAt.RcAt.tuples ⟨o1, e1, c1, n1, d1⟩ ⟨o2, e2, c2, n2, d2⟩ hu (e := fun _ => s0 == t0) (fun j g1 g2 => ?_) X.prog X.w _ _ ?_
      · have g2 : j < 1 := by simpa using g2
        obtain rfl : j = 0 := by omega
        exact SeqAt.EqAt.str_str s0 tu t0 tw
      · have e9 : ((List.range (min (Value.str s0 tu :: ur).toArray.size (#[Value.str t0 tw] : Array Value).size)).all (fun _ => s0 == t0) && (Value.str s0 tu :: ur).toArray.size == (#[Value.str t0 tw] : Array Value).size) = (decide (s0 = t0) && xs.isEmpty) := by
          have m1 : min (Value.str s0 tu :: ur).toArray.size (#[Value.str t0 tw] : Array Value).size = 1 := by
            rw [List.size_toArray, List.length_cons]
            show min (ur.length + 1) 1 = 1
            omega
          rw [m1, List.size_toArray, List.length_cons, ← lx]
          cases xs with
          | nil => by_cases h : s0 = t0 <;> simp [h]
          | cons z zs => simp
        first
          | (rw [e9]; exact ⟨.bl _, H, I, rfl, q⟩)
          | (have e8 := e9; simp only [List.size_toArray] at e8 ⊢; rw [e8]; exact ⟨.bl _, H, I, rfl, q⟩)
end L2
namespace M
open PySem PySem.Spec PyProof.Rows L2
theorem w_eqH {X : Cx} {K : PySem.W.Frag} (h : X.K = K) (hu : X.A.units < cLine) : OpR X (compareOp .Eq) (rEqH K) := by subst h; exact op_eqH hu
end M

set_option Elab.async false
set_option linter.all false
set_option maxRecDepth 100000
set_option maxHeartbeats 4000000
/-! dict comprehensions for any kind of new dict: what the new dict is (`o0`) and what a turn's store does (`Put`) are told by the user; one such kind: keys None, ints or texts, told by the number of entries alone -/
namespace L2
open PySem PySem.Spec PyProof.Rows
/-- a kind of new dict: how it begins, what a store may do -/
structure DictKind (X : Cx) where
  o0 : Addr → HO
  Put : Addr → V → V → Hp → Hp → Prop
  new : ∀ {H : Hp} (h : Heap), sysModules < h.objs.size → ObjOk X.prog X.w H (h.push { cls := .type "dict", data := .dict #[] }) h.objs.size (o0 h.objs.size)
  set : ∀ {Y : Cx} {pn : List (Addr × Obj)} {σ : St} {H H' : Hp} {s : Shared} {E : Value → Shared → Prop} {D : Addr} {y z : V} {u r : Value} {Q : Unit → Shared → Prop}, Y.prog = X.prog → Y.w = X.w → Inv Y pn σ H s → Put D y z H H' → RelV y u → RelV z r →
    (∀ s', Inv Y pn σ H' s' → Q () s') → wpAny (model Y.prog Y.w) Y.A (dictSet D u r) Q E s
section
variable {X : Cx}
/-- one more turn, or the end -/
def TurnG (C : DictKind X) (g : TG) (tt : TT) (tk tv : TE) (vs : List Nat) (σ : St) (D : Addr) (J : It) (Q : VK) (W : Nat → Nat → Hp → Prop) : Prop := ∀ i m H, W i m H →
  (J.stop i H ∧ Q (.ref D) H) ∨ (J.go i H ∧ ∃ Nx : Hp → Prop, (∀ H', Nx H' → ∃ m', m' < m ∧ W (i + 1) m' H') ∧ ∀ x H', J.yld i H x H' → g x (wipe σ vs) H' fun σ2 H2 => wipe σ2 vs = wipe σ vs ∧ tt σ2 H2 fun b H3 =>
    if b = true then tk σ2 H3 fun y H4 => tv σ2 H4 fun z H5 => ∃ H6, C.Put D y z H5 H6 ∧ Nx H6 else Nx H3)
def tDcG (C : DictKind X) (wi : TI) (g : TG) (tt : TT) (tk tv : TE) (vs : List Nat) : TE := fun σ H Q => wi σ H fun J H1 => ∀ D, H1 D = none → ∃ W : Nat → Nat → Hp → Prop, (∃ m, W 0 m (upd H1 D (C.o0 D))) ∧ TurnG C g tt tk tv vs σ D J Q W
/-- the turns, in the comprehension's block -/
theorem dcG_loop (C : DictKind X) (calmly : X.calm = true) {sb : Shared} {Hb : Hp} {sco : Scope} {ce : Env} {own : List Addr} {it D : Addr} {tn : Nat → Heap → Prop} {J : It} {tg itx kx vx : Expr} {ifs : List Expr} {po : Pos} {σ : St} {vs : List Nat} {Q : VK} {W : Nat → Nat → Hp → Prop} {g : TG} {tt : TT} {tk tv : TE} {R : Result → Shared → Prop}
    (T : Turn X.prog X.w X.K tg J own it tn) (turn : TurnG C g tt tk tv vs σ D J Q W) (pg : PG (X.blk sb Hb sco ce own) tg g) (pt : PTs (X.blk sb Hb sco ce own) ifs tt) (pk : PE (X.blk sb Hb sco ce own) kx tk) (pv : PE (X.blk sb Hb sco ce own) vx tv)
    (fin : ∀ s H, Inv (X.blk sb Hb sco ce own) [] (wipe σ vs) H s → Q (.ref D) H → R (.ok .next) s) {m0 : Nat} {s0 : Shared} (I0 : Inv (X.blk sb Hb sco ce own) [] (wipe σ vs) Hb s0) (t0 : tn 0 s0.heap) (f0 : ∀ b ∈ own, Hb b = none) (w0 : W 0 m0 Hb) :
    codeAny (model X.prog X.w) X.A (.compLoop (.DictComp kx vx [⟨tg, itx, ifs, 0⟩] sco po) 0 (.ref it) (.ref D) ce) R s0 := by
  have own_ok : ∀ {σ' : St} {A : Hp} {s : Shared}, Inv (X.blk sb Hb sco ce own) [] σ' A s → (∀ b ∈ own, A b = none) → ∀ b ∈ own, FpOk (X.blk sb Hb sco ce own) [] A b := fun I n b hb =>
    ⟨n b hb, (I.ok.exf b hb).1, I.ok.exfs b hb, .inl hb, fun x c e => (I.ok.exf b hb).2 x c e, fun p hp => absurd (show p ∈ ([] : List (Addr × Obj)) ++ [] from hp) (by simp)⟩
  refine compLoop_anyD (fun n s => ∃ i A, Inv (X.blk sb Hb sco ce own) [] (wipe σ vs) A s ∧ tn i s.heap ∧ (∀ b ∈ own, A b = none) ∧ W i n A) ?_ m0 ⟨0, Hb, I0, t0, f0, w0⟩
  rintro n s1 ⟨i, A, I1, t1, n1, w1⟩
  cases turn i n A w1 with
  | inl e =>
    refine thnF (T.done (X.blk sb Hb sco ce own) rfl rfl rfl calmly i [] s1 _ A (fun _ _ => False) I1 (own_ok I1 n1) t1 e.1) fun r s2 z => ?_
    cases z.1
    exact fin s2 A z.2 e.2
  | inr e =>
    obtain ⟨go, Nx, hNx, step⟩ := e
    refine thnF (T.item (X.blk sb Hb sco ce own) rfl rfl rfl calmly i [] s1 _ A (fun _ _ => False) I1 (own_ok I1 n1) t1 go) fun r s2 ⟨u, er, z2⟩ => ?_
    cases er
    refine thnF z2 fun _ s3 ⟨x, B, I3, rx, yx, t3, n3⟩ => ?_
    refine thnF (pg.run _ s3 _ B x u _ (I3.pinned (own_ok I3 n3) (T.obj _ _ t3)) rx (step x B yx)) fun _ s4 ⟨σ4, B4, I4, hw, q4⟩ => ?_
    refine thnF (pt.run _ s4 σ4 B4 _ I4 q4) fun b s5 ⟨B5, I5, q5⟩ => ?_
    -- the turn's end
    have done : ∀ {s : Shared} {A' : Hp}, Inv (X.blk sb Hb sco ce own) ([] ++ pinsAt own s3.heap) σ4 A' s → Nx A' → ∃ m, m < n ∧ ∃ i A, Inv (X.blk sb Hb sco ce own) [] (wipe σ vs) A s ∧ tn i s.heap ∧ (∀ b ∈ own, A b = none) ∧ W i m A := fun {s A'} I nx => by
      obtain ⟨m, lt, w'⟩ := hNx A' nx
      have kept : ∀ b ∈ own, ∀ o, s3.heap.get? b = some o → s.heap.get? b = some o ∧ A' b = none := fun b hb o e =>
        have z := I.pin (b, o) (List.mem_append_right _ (List.mem_append_right _ (mem_pinsAt hb e)))
        ⟨z.1, z.2.1⟩
      refine ⟨m, lt, i + 1, A', (I.unpinned (pins := [])).weak (by rw [← hw, wipe_length]) (fun j v e => ?_), T.keep _ _ _ t3 fun b hb o e => (kept b hb o e).1, fun b hb => ?_, w'⟩
      · rw [← hw] at e
        exact (wipe_some e).1
      · obtain ⟨o, e, _⟩ := T.obj _ _ t3 b hb
        exact (kept b hb o e).2
    cases b with
    | false =>
      rw [if_neg Bool.false_ne_true] at q5 ⊢
      exact done I5 q5
    | true =>
      rw [if_pos rfl] at q5 ⊢
      refine thnF (pk.run _ s5 σ4 B5 _ I5 q5) fun ku s6 ⟨y, B6, I6, ry, q6⟩ => ?_
      refine thnF (pv.run _ s6 σ4 B6 _ I6 q6) fun vu s7 ⟨z, B7, I7, rz, B8, put, nx⟩ => ?_
      exact C.set (Y := X.blk sb Hb sco ce own) rfl rfl I7 put ry rz fun s8 I8 => done I8 nx
theorem dcG_core (C : DictKind X) {pins : List (Addr × Obj)} {s : Shared} {σ : St} {H : Hp} {Q : VK} {kx vx tg itx : Expr} {ifs : List Expr} {sco : Scope} {own : List (Str × Nat)} {po pn : Pos} {wi : TI} {g : TG} {tt : TT} {tk tv : TE} {use : Option (Value → Sem Unit)} {Qf : Value → Shared → Prop}
    (calmly : X.calm = true) (hN : X.N.Nodup) (I : Inv X pins σ H s) (hi : PI X tg itx wi) (ok : BlkOk X.N X.env.scope sco own)
    (hg : ∀ (s : Shared) (H : Hp) (c : Addr) (cl : List (Str × Addr)) (fp : List Addr), PG (X.blk s H sco (compEnvC sco cl c X.env) fp) tg g) (ht : ∀ (s : Shared) (H : Hp) (c : Addr) (cl : List (Str × Addr)) (fp : List Addr), PTs (X.blk s H sco (compEnvC sco cl c X.env) fp) ifs tt)
    (hk : ∀ (s : Shared) (H : Hp) (c : Addr) (cl : List (Str × Addr)) (fp : List Addr), PE (X.blk s H sco (compEnvC sco cl c X.env) fp) kx tk) (hv : ∀ (s : Shared) (H : Hp) (c : Addr) (cl : List (Str × Addr)) (fp : List Addr), PE (X.blk s H sco (compEnvC sco cl c X.env) fp) vx tv)
    (hs : ∀ x, foldedSetIterable itx X.env x = pure x) (h : tDcG C wi g tt tk tv (own.map (·.2)) σ H Q)
    (out : ∀ D c s' m A, Inv X pins σ A s' → Q (.ref D) A → s'.heap.Ns c m → FpOk X pins A c → compPost (model X.prog X.w) X.A X.xe use Qf (.ref D) c (.ok .next) s') :
    wpAny (model X.prog X.w) X.A (comprehension (.DictComp kx vx [⟨tg, itx, ifs, 0⟩] sco po) sco X.env pn newDict false (eval itx X.env) use) Qf X.xe s := by
  have free : ∀ y ∈ sco.names, y.2 = .free → ∃ c, X.env.cells.lookup y.1 = some c := fun y hy e => (ok.free y hy e).elim (fun k => I.ok.has _ (.inl k)) fun k => I.ok.has _ (.inr k)
  refine wpAny_comprehension_free (use := use) rfl hs (closure_ok free) ok.kind (fun y hy e => by rw [ok.uniq y hy, e]) (thn (hi.run pins s σ H _ I h) fun xv s1 z1 => thn z1 fun _ s2 ⟨it, fp, tn, J, A, eit, I2, T, t2, f2, q⟩ => ?_)
  cases eit
  refine wpAny_newObj_type (newEnv_comp ?_)
  obtain ⟨W, ⟨m0, w0⟩, turn⟩ := q s2.heap.objs.size (I2.hok.fresh (Nat.le_refl _))
  -- the new dict
  have I3 : Inv X pins σ (upd A s2.heap.objs.size (C.o0 s2.heap.objs.size)) { s2 with heap := s2.heap.push { cls := .type "dict", data := .dict #[] } } :=
    I2.laid (t' := s2.toks) (fun b o e => Heap.get?_push_of_some _ e) (Nat.le_refl _) (C.new s2.heap I2.big)
  have lt : ∀ b ∈ fp, b < s2.heap.objs.size := fun b hb => (T.obj _ _ t2 b hb).elim fun o e => Heap.lt_size e.1
  have f3 : ∀ b ∈ fp, FpOk X pins (upd A s2.heap.objs.size (C.o0 s2.heap.objs.size)) b ∧ b < (s2.heap.push { cls := .type "dict", data := .dict #[] }).objs.size := fun b hb =>
    ⟨⟨by rw [upd_ne (Nat.ne_of_lt (lt b hb))]; exact (f2 b hb).1, (f2 b hb).2⟩, by rw [Heap.size_push]; exact Nat.lt_succ_of_lt (lt b hb)⟩
  have t3 : tn 0 (s2.heap.push { cls := .type "dict", data := .dict #[] }) := T.keep _ _ _ t2 fun b _ o e => Heap.get?_push_of_some _ e
  generalize s2.heap.objs.size = D at I3 turn w0 f3 ⊢
  generalize upd A D (C.o0 D) = B at I3 w0 f3
  generalize eh : s2.heap.push { cls := .type "dict", data := .dict #[] } = h3 at I3 f3 t3 ⊢
  generalize es : ({ s2 with heap := h3 } : Shared) = s3 at I3
  have hp : s3.heap = h3 := by rw [← es]
  have f4 : ∀ b ∈ fp, FpOk X pins B b ∧ b < s3.heap.objs.size := fun b hb => by rw [hp]; exact f3 b hb
  have t4 : tn 0 s3.heap := by rw [hp]; exact t3
  clear f3 t3 hp es eh
  have I4 := block_start I3 ok hN f4
  have pg := hg s3 B s3.heap.objs.size (cellsFrom (s3.heap.objs.size + 1) sco.names (cloFrom X.env.cells sco.names [])) fp
  have pt := ht s3 B s3.heap.objs.size (cellsFrom (s3.heap.objs.size + 1) sco.names (cloFrom X.env.cells sco.names [])) fp
  have pk := hk s3 B s3.heap.objs.size (cellsFrom (s3.heap.objs.size + 1) sco.names (cloFrom X.env.cells sco.names [])) fp
  have pv := hv s3 B s3.heap.objs.size (cellsFrom (s3.heap.objs.size + 1) sco.names (cloFrom X.env.cells sco.names [])) fp
  show codeAny _ _ (.compStart (.DictComp kx vx [⟨tg, itx, ifs, 0⟩] sco po) 0 (.ref it) (.ref D) (compEnvC sco (cellsFrom (s3.heap.objs.size + 1) sco.names (cloFrom X.env.cells sco.names [])) s3.heap.objs.size X.env)) (compPost (model X.prog X.w) X.A X.xe use Qf (.ref D) s3.heap.objs.size) { s3 with heap := pushCells (s3.heap.push { cls := .type "dict", data := .dict #[] }) sco.names }
  generalize ec : compEnvC sco (cellsFrom (s3.heap.objs.size + 1) sco.names (cloFrom X.env.cells sco.names [])) s3.heap.objs.size X.env = ce at I4 pg pt pk pv ⊢
  have loc : ce.locals = s3.heap.objs.size := by rw [← ec]; rfl
  clear ec
  generalize e4 : ({ s3 with heap := pushCells (s3.heap.push { cls := .type "dict", data := .dict #[] }) sco.names } : Shared) = s4 at I4 ⊢
  have t5 : tn 0 s4.heap := T.keep _ _ _ t4 fun b _ o e => by rw [← e4]; exact pushCells_keeps _ _ _ _ (Heap.get?_push_of_some _ e)
  have loop : codeAny (model X.prog X.w) X.A (.compLoop (.DictComp kx vx [⟨tg, itx, ifs, 0⟩] sco po) 0 (.ref it) (.ref D) ce) (compPost (model X.prog X.w) X.A X.xe use Qf (.ref D) s3.heap.objs.size) s4 := by
    refine dcG_loop C calmly T turn pg pt pk pv (fun s A I5 qa => ?_) I4 t5 (fun b hb => (f4 b hb).1.1) w0
    have nC : A s3.heap.objs.size = none := by
      have z : A ce.locals = none := I5.free
      rw [loc] at z
      exact z
    obtain ⟨m, hn, _⟩ := I5.loc
    have hn : s.heap.Ns ce.locals m := hn
    rw [loc] at hn
    exact out D _ s m A (I3.call' (ch := fp) I5.os I5.base I5.hok I5.bare fun b hb => ⟨(f4 b hb).1.2.2.2.1, (f4 b hb).1.2.1, (f4 b hb).1.2.2.2.2.1, (f4 b hb).1.2.2.2.2.2⟩) qa hn (I3.fpOk (Nat.le_refl _) nC)
  exact codeAny_compStart_dict loop (T.self X.A 0 _ _ _ t5 loop)
/-- as a value -/
theorem pe_dcG (C : DictKind X) {kx vx tg itx : Expr} {ifs : List Expr} {sco : Scope} {own : List (Str × Nat)} {po : Pos} {wi : TI} {g : TG} {tt : TT} {tk tv : TE} (calmly : X.calm = true) (hN : X.N.Nodup) (hi : PI X tg itx wi) (ok : BlkOk X.N X.env.scope sco own)
    (hg : ∀ (s : Shared) (H : Hp) (c : Addr) (cl : List (Str × Addr)) (fp : List Addr), PG (X.blk s H sco (compEnvC sco cl c X.env) fp) tg g) (ht : ∀ (s : Shared) (H : Hp) (c : Addr) (cl : List (Str × Addr)) (fp : List Addr), PTs (X.blk s H sco (compEnvC sco cl c X.env) fp) ifs tt)
    (hk : ∀ (s : Shared) (H : Hp) (c : Addr) (cl : List (Str × Addr)) (fp : List Addr), PE (X.blk s H sco (compEnvC sco cl c X.env) fp) kx tk) (hv : ∀ (s : Shared) (H : Hp) (c : Addr) (cl : List (Str × Addr)) (fp : List Addr), PE (X.blk s H sco (compEnvC sco cl c X.env) fp) vx tv)
    (hs : ∀ x, foldedSetIterable itx X.env x = pure x := by intro _; rfl) : PE X (.DictComp kx vx [⟨tg, itx, ifs, 0⟩] sco po) (tDcG C wi g tt tk tv (own.map (·.2))) := by
  refine ⟨fun pins s σ H Q I h => ?_⟩
  rw [arm_eval_DictComp]
  exact dcG_core C calmly hN I hi ok hg ht hk hv hs h fun D c s' m A I' q hn ⟨f0, f1, f2, f3, f4, f5⟩ => ⟨m, hn, fun h'' sb => ⟨.ref D, A, I'.turned (t' := s'.toks) (fun b o hb e => (sb.2 b hb).trans e) f0 f1 f3 f4 f5, rfl, q⟩⟩
/-- y = {k: v for ..}, y a local name -/
theorem ps_setDcG (C : DictKind X) {i : Nat} {y : Str} {py : Pos} {kx vx tg itx : Expr} {ifs : List Expr} {sco : Scope} {own : List (Str × Nat)} {po sp : Pos} {wi : TI} {g : TG} {tt : TT} {tk tv : TE} (calmly : X.calm = true) (hN : X.N.Nodup) (hy : X.N[i]? = some y) (hyl : X.env.scope.names.lookup y = some .local)
    (hsw : swapsWith (.DictComp kx vx [⟨tg, itx, ifs, 0⟩] sco po) (some (.Name y py)) sp.line X.env = pure true) (hi : PI X tg itx wi) (ok : BlkOk X.N X.env.scope sco own)
    (hg : ∀ (s : Shared) (H : Hp) (c : Addr) (cl : List (Str × Addr)) (fp : List Addr), PG (X.blk s H sco (compEnvC sco cl c X.env) fp) tg g) (ht : ∀ (s : Shared) (H : Hp) (c : Addr) (cl : List (Str × Addr)) (fp : List Addr), PTs (X.blk s H sco (compEnvC sco cl c X.env) fp) ifs tt)
    (hk : ∀ (s : Shared) (H : Hp) (c : Addr) (cl : List (Str × Addr)) (fp : List Addr), PE (X.blk s H sco (compEnvC sco cl c X.env) fp) kx tk) (hv : ∀ (s : Shared) (H : Hp) (c : Addr) (cl : List (Str × Addr)) (fp : List Addr), PE (X.blk s H sco (compEnvC sco cl c X.env) fp) vx tv)
    (hs : ∀ x, foldedSetIterable itx X.env x = pure x := by intro _; rfl) : PS X (.Assign [.Name y py] (.DictComp kx vx [⟨tg, itx, ifs, 0⟩] sco po) sp) (tAsg (tDcG C wi g tt tk tv (own.map (·.2))) (gName i)) := by
  refine ⟨fun pi s0 st A D In hh => ?_⟩
  rw [exec_Assign_Name_used _ _ _ _ hsw]
  refine wpAny_bind (wpAny_standAt (wpAny_bind ?_))
  show wpAny _ X.A (do let _ ← comprehension (.DictComp kx vx [⟨tg, itx, ifs, 0⟩] sco po) sco X.env (firstIterPos [⟨tg, itx, ifs, 0⟩] po) newDict false (eval itx X.env) (some (assign (.Name y py) X.env))) _ _ s0
  refine wpAny_bind (thn (dcG_core C (Qf := fun _ s' => SP X pi D .next s') (Q := fun x B => gName i x st B D.nx) calmly hN In hi ok hg ht hk hv hs hh fun Ld c s1 m B In1 q hn ⟨f0, f1, f2, f3, f4, f5⟩ => ?_) fun _ s1 hq => wpAny_pure (wpAny_pure hq))
  show wpAny _ _ (assign (.Name y py) X.env (.ref Ld)) _ _ _
  refine wpAny_assign_Name (store_ok2 (v := V.ref Ld) In1 hN hy (.inl hyl) rfl (fun s2 In2 ⟨a, sb, ha⟩ => ?_) (.inr hyl))
  have ne : c ≠ a := ha.elim (fun z e => f1 (e.trans z)) fun z e => f4 y a z e.symm
  exact ⟨m, hn.sameBut sb ne, fun h3 sb3 => ⟨_, B, In2.turned (t' := s2.toks) (fun b o hb e => (sb3.2 b hb).trans e) f0 f1 f3 f4 f5, q⟩⟩
end
/-- a dict comprehension over a walk -/
theorem dcG_walk {X : Cx} (C : DictKind X) {J : It} {n : Nat} {G : Hp → Prop} {Y : Nat → Hp → V → Hp → Prop} (wk : Walk J n G Y) {g : TG} {tt : TT} {tk tv : TE} {own : List Nat} {σ : L2.St} {A : Hp} {D : Addr} {Q : VK} (Iv : Nat → Hp → Prop)
    (ini : Iv 0 (upd A D (C.o0 D))) (std : ∀ i A, i ≤ n → Iv i A → G A)
    (one : ∀ i x A B, i < n → Iv i A → Y i A x B → g x (wipe σ own) B fun σ2 B2 => wipe σ2 own = wipe σ own ∧ tt σ2 B2 fun b B3 => if b = true then tk σ2 B3 fun y B4 => tv σ2 B4 fun z B5 => ∃ B6, C.Put D y z B5 B6 ∧ Iv (i + 1) B6 else Iv (i + 1) B3)
    (all : ∀ A, Iv n A → Q (.ref D) A) : ∃ W : Nat → Nat → Hp → Prop, (∃ m, W 0 m (upd A D (C.o0 D))) ∧ TurnG C g tt tk tv own σ D J Q W := by
  refine ⟨fun i m B => i + m = n ∧ Iv i B, ⟨n, Nat.zero_add _, ini⟩, fun i m B z => ?_⟩
  have gi := std i B (by have := z.1; omega) z.2
  by_cases l : i < n
  · exact .inr ⟨wk.goes i B l gi, Iv (i + 1), fun B' v => ⟨n - (i + 1), by have := z.1; omega, by omega, v⟩, fun x B' yl => one i x B B' l z.2 (wk.yields i B x B' l gi yl)⟩
  · obtain rfl : i = n := by have := z.1; omega
    exact .inl ⟨wk.stops B gi, all B z.2⟩
theorem x_dcG {X : Cx} {C : DictKind X} {wi : TI} {g : TG} {tt : TT} {tk tv : TE} {vs : List Nat} {σ : L2.St} {H : Hp} {Q : VK} (k : wi σ H fun J H1 => ∀ D, H1 D = none → ∃ W : Nat → Nat → Hp → Prop, (∃ m, W 0 m (upd H1 D (C.o0 D))) ∧ TurnG C g tt tk tv vs σ D J Q W) : tDcG C wi g tt tk tv vs σ H Q := k
/-! ### keys None, ints, texts -/
/-- a dict of at most n entries whose keys are whole numbers, texts, None -/
def LfO (P : Program) (w : World) (D : Addr) (n : Nat) : HO := .ext fun h => (D == sysModules) = false ∧ ∃ vs : List (Leaf × Value), vs.length ≤ n ∧ h.DictOf (leafKind P w) D vs
theorem lf_ok {P : Program} {w : World} {H : Hp} {h : Heap} {D : Addr} {n : Nat} {vs : List (Leaf × Value)} (hd : (D == sysModules) = false) (l : vs.length ≤ n) (dd : h.DictOf (leafKind P w) D vs) : ObjOk P w H h D (LfO P w D n) :=
  ⟨⟨hd, vs, l, dd⟩, let ⟨o, es, ep, e, _⟩ := dd; ⟨o, e⟩, fun _ _ ⟨hd, vs, l, o, es, ep, e, r⟩ k => ⟨hd, vs, l, o, es, ep, k _ e, r⟩⟩
/-- None or a text -/
def KeyL (y : V) : Prop := y = .non ∨ ∃ s, y = .str s
theorem keyL_is {P : Program} {w : World} {y : V} {u : Value} (k : KeyL y) (r : RelV y u) : ∃ x : Leaf, (leafKind P w).is x u = true := by
  rcases k with rfl | ⟨s, rfl⟩
  · cases (show u = Value.none from r)
    exact ⟨.none, rfl⟩
  · obtain ⟨t, rfl⟩ := (show ∃ t, u = Value.str s t from r)
    exact ⟨.text s, by show (s == s) = true; simp⟩
def leafDict (X : Cx) : DictKind X where
  o0 := fun D => LfO X.prog X.w D 0
  Put := fun D y _ A B => KeyL y ∧ ∃ n, A D = some (LfO X.prog X.w D n) ∧ n < sizeLine ∧ B = upd A D (LfO X.prog X.w D (n + 1))
  new := fun {H} h hb => lf_ok (beq_eq_false_iff_ne.mpr (Ne.symm (Nat.ne_of_lt hb))) (Nat.le_refl _) (Heap.DictOf.new h)
  set := fun {Y pn σ H H' s E D y z u r Q} eP eW I put ry rz k => by
    obtain ⟨ky, n, hD, hz, rfl⟩ := put
    rw [← eP, ← eW] at hD k
    obtain ⟨⟨hd, vs, l, dd⟩, _, _⟩ := (show ObjOk Y.prog Y.w H s.heap D (LfO Y.prog Y.w D n) from I.hok D _ hD)
    obtain ⟨x, hx⟩ := keyL_is (P := Y.prog) (w := Y.w) ky ry
    refine wpAny_dictSet_pairs (hsz := by omega) hx dd fun h' dd' hs => k _ ?_
    have he : ∃ q, h'.get? D = some q := let ⟨q, _, _, hq, _⟩ := dd'; ⟨q, hq⟩
    exact d_write I (by rw [hD]; exact True.intro) hs he (lf_ok hd (by have := stored_length_le vs x r; omega) dd')
end L2

set_option Elab.async false
set_option linter.all false
set_option maxRecDepth 100000
set_option maxHeartbeats 4000000
/-! dicts whose keys are any nested keys (None, ints, bools, texts, tuples of such), mixed in one dict -/
namespace PySem
open Sem (wp)
open SeqAt
namespace NK
/-- an entry: the key, the value that stands for it, what it leads to -/
abbrev En := NestedKey × Value × Value
def ent (w : World) (x : En) : DictEntry := ⟨x.1.hash w, x.2.1, x.2.2⟩
def KeyOk (h : Heap) (k : NestedKey) (v : Value) : Prop := NestedIs h k v ∧ k.depth ≤ 8
structure Ents (w : World) (h : Heap) (es : Array DictEntry) (xs : List En) : Prop where
  lay : es.toList = xs.map (ent w)
  key : ∀ x ∈ xs, KeyOk h x.1 x.2.1
  nd : (xs.map (·.1)).Nodup
/-- the i-th key is k -/
def AtK (xs : List En) (k : NestedKey) (i : Nat) : Prop := ∃ p, xs[i]? = some (k, p)
section
variable {prog : Program} {w : World} {A : Around} {E : Value → Shared → Prop} {s : Shared} {es : Array DictEntry} {xs : List En}
theorem Ents.at_ {h : Heap} (e : Ents w h es xs) (i : Nat) : es[i]? = (xs[i]?).map (ent w) := by rw [← Array.getElem?_toList, e.lay, List.getElem?_map]
theorem Ents.size {h : Heap} (e : Ents w h es xs) : es.size = xs.length := by rw [← Array.length_toList, e.lay, List.length_map]
theorem Ents.uniq {h : Heap} (e : Ents w h es xs) {k : NestedKey} {i j : Nat} (a : AtK xs k i) (b : AtK xs k j) : i = j := by
  obtain ⟨p, ha⟩ := a
  obtain ⟨q, hb⟩ := b
  have ha' : (xs.map (·.1))[i]? = some k := by rw [List.getElem?_map, ha]; rfl
  have hb' : (xs.map (·.1))[j]? = some k := by rw [List.getElem?_map, hb]; rfl
  exact (List.getElem?_inj (List.getElem?_eq_some_iff.mp ha').1 e.nd).mp (ha'.trans hb'.symm)
theorem Ents.place {h : Heap} (e : Ents w h es xs) {k : NestedKey} {i : Nat} (a : AtK xs k i) : i ∈ placesWithHash es.size (fun i => es[i]?.map (·.hash)) (k.hash w) := by
  obtain ⟨p, ha⟩ := a
  unfold placesWithHash
  refine List.mem_filter.mpr ⟨List.mem_range.mpr ?_, ?_⟩
  · rw [e.size]
    exact (List.getElem?_eq_some_iff.mp ha).1
  · show ((es[i]?).map (·.hash) == some (k.hash w)) = true
    rw [e.at_ i, ha]
    simp [ent]
theorem places_nodup {n : Nat} {f : Nat → Option Int} {h : Int} : (placesWithHash n f h).Nodup := List.nodup_range.sublist List.filter_sublist
/-- one question: is the key at x the key -/
theorem Ents.ask {d : Addr} {o : Obj} {ep : Nat} {k : NestedKey} {v : Value} (e : Ents w s.heap es xs) (hu : A.units + 8 < cLine) (hk : KeyOk s.heap k v) (ho : s.heap.get? d = some o) (hd : o.data = .dict es ep) {x : Nat} {y : En} (hy : xs[x]? = some y) {kp : Option Value} {Q : Bool → Shared → Prop} (q : Q (decide (y.1 = k)) s) :
    wpAny (model prog w) A (eqBool (ent w y).key v) Q E s :=
  eqAt_key y.1 k A s _ _ (e.key y (List.mem_of_getElem? hy)).1 hk.1 (by have := hk.2; have : min y.1.depth k.depth ≤ k.depth := Nat.min_le_right ..; omega) _ _ _ _ (by rw [← NestedKey.decide_eq]; exact q)
/-- what is kept of a walk: the places still to come hold the key, if any does -/
theorem walk_plain {d : Addr} {o : Obj} {ep : Nat} {k : NestedKey} {v : Value} {Q : Option Nat → Shared → Prop} (e : Ents w s.heap es xs) (hu : A.units + 8 < cLine) (hk : KeyOk s.heap k v) (ho : s.heap.get? d = some o) (hd : o.data = .dict es ep)
    (no : (∀ i, ¬ AtK xs k i) → Q none s) (yes : ∀ i, AtK xs k i → Q (some i) s) {pl : List Nat} (hp : ∀ i, AtK xs k i → i ∈ pl) : wpAny (model prog w) A (dictWalkPlain d v (k.hash w) es pl) Q E s := by
  unfold dictWalkPlain
  refine wpAny_bind ?_
  refine wpAny_forIn_list _ (fun rest b s' => s' = s ∧ b = (none, ()) ∧ ∀ i, AtK xs k i → i ∈ rest) _ ?_ ?_ _ _ ⟨rfl, rfl, hp⟩
  · rintro x rest b s' ⟨rfl, rfl, hr⟩
    have go : ¬ AtK xs k x → ∀ i, AtK xs k i → i ∈ rest := fun n i a => (List.mem_cons.mp (hr i a)).elim (fun z => absurd (z ▸ a) n) id
    cases hx : xs[x]? with
    | none =>
      rw [e.at_ x, hx]
      exact wpAny_pure ⟨rfl, rfl, go fun ⟨p, z⟩ => by rw [hx] at z; cases z⟩
    | some y =>
      rw [e.at_ x, hx]
      show wpAny _ _ (if ((ent w y).hash == k.hash w) = true then _ else _) _ E _
      by_cases hh : ((ent w y).hash == k.hash w) = true
      · rw [if_pos hh]
        refine wpAny_bind (wpAny_dictEpoch ho hd (wpAny_bind (e.ask hu hk ho hd hx (kp := none) (wpAny_bind (wpAny_dictEpoch ho hd ?_)))))
        show wpAny _ _ (if (ep != ep) = true then _ else _) _ E _
        rw [if_neg (by simp)]
        by_cases c : y.1 = k
        · rw [decide_eq_true c]
          exact wpAny_bind (wpAny_rule (wpAny_pure (wpAny_pure (yes x ⟨y.2, by rw [hx, ← c]⟩))))
        · rw [decide_eq_false c]
          exact wpAny_bind (wpAny_rule (wpAny_pure ⟨rfl, rfl, go fun ⟨p, z⟩ => c (by rw [hx] at z; cases z; rfl)⟩))
      · rw [if_neg hh]
        refine wpAny_pure ⟨rfl, rfl, go fun ⟨p, z⟩ => hh ?_⟩
        rw [hx] at z
        cases z
        simp [ent]
  · rintro b s' ⟨rfl, rfl, hr⟩
    exact wpAny_pure (no fun i a => List.not_mem_nil (hr i a))
theorem tell_quiet {k : NestedKey} {v : Value} {st : List Value} {Q : Bool → Shared → Prop} (hk : KeyOk s.heap k v) (hst : ∀ u ∈ st, ∃ k', KeyOk s.heap k' u) (h : Q false s) : wpAny (model prog w) A (tableMayTell v st) Q E s := by
  unfold tableMayTell
  split
  · exact wpAny_pure h
  · refine wpAny_bind (quiet_key k v 8 s hk.1 hk.2 A E _ ?_)
    simp only [Bool.not_true, Bool.false_eq_true, if_false]
    refine wpAny_bind (wpAny_forIn_list _ (fun rest r s' => s' = s ∧ r = (none, ()) ∧ ∀ u ∈ rest, ∃ k', KeyOk s.heap k' u) _ ?_ ?_ _ _ ⟨rfl, rfl, hst⟩)
    · rintro x rest r s' ⟨rfl, rfl, hr⟩
      obtain ⟨k', hb⟩ := hr x List.mem_cons_self
      refine wpAny_bind (quiet_key k' x 8 s' hb.1 hb.2 A E _ ?_)
      simp only [Bool.not_true, Bool.false_eq_true, if_false]
      exact wpAny_pure ⟨rfl, rfl, fun v hv => hr v (List.mem_cons_of_mem _ hv)⟩
    · rintro r s' ⟨rfl, rfl, _⟩
      exact wpAny_pure h
theorem shape {h : Heap} {k : NestedKey} {v : Value} (hk : KeyOk h k v) : v = .none ∨ (∃ b, v = .bool b) ∨ (∃ i t, v = .int i t) ∨ (∃ x t, v = .str x t) ∨ ∃ a, v = .ref a := by
  cases hk.1 with
  | none => exact .inl rfl
  | bool _ => exact .inr (.inl ⟨_, rfl⟩)
  | int i t => exact .inr (.inr (.inl ⟨_, _, rfl⟩))
  | text x t => exact .inr (.inr (.inr (.inl ⟨_, _, rfl⟩)))
  | tup _ _ _ _ => exact .inr (.inr (.inr (.inr ⟨_, rfl⟩)))
theorem isStr_iff {h : Heap} {k : NestedKey} {u : Value} {x : Str} (hk : KeyOk h k u) : u.isStr x = true ↔ k = .text x := by
  constructor
  · intro z
    rcases shape hk with rfl | ⟨b, rfl⟩ | ⟨i, t, rfl⟩ | ⟨y, t, rfl⟩ | ⟨a, rfl⟩
    all_goals first
      | cases z
      | (have : y = x := by simpa [Value.isStr] using z
         rw [this] at hk
         cases hk.1
         rfl)
  · rintro rfl
    cases hk.1
    simp [Value.isStr]
theorem find {d : Addr} {o : Obj} {ep : Nat} {k : NestedKey} {v : Value} {Q : Option Nat → Shared → Prop} (e : Ents w s.heap es xs) (hu : A.units + 8 < cLine) (hk : KeyOk s.heap k v) (ho : s.heap.get? d = some o) (hd : o.data = .dict es ep)
    (no : (∀ i, ¬ AtK xs k i) → Q none s) (yes : ∀ i, AtK xs k i → Q (some i) s) : wpAny (model prog w) A (dictFind d v (k.hash w)) Q E s := by
  have hst : ∀ u ∈ (placesWithHash es.size (fun i => es[i]?.map (·.hash)) (k.hash w)).filterMap (fun i => es[i]?.map (·.key)), ∃ k', KeyOk s.heap k' u := fun u hu' => by
    obtain ⟨i, _, hi⟩ := List.mem_filterMap.mp hu'
    rw [e.at_ i] at hi
    cases hx : xs[i]? with
    | none => rw [hx] at hi; cases hi
    | some y =>
      rw [hx] at hi
      cases hi
      exact ⟨y.1, e.key y (List.mem_of_getElem? hx)⟩
  have hany : ¬ (es.any fun e => e.key == v && e.hash != k.hash w) = true := by
    rw [← Array.any_toList, e.lay, List.any_eq_true]
    rintro ⟨z, hz, hc⟩
    obtain ⟨y, hy, rfl⟩ := List.mem_map.mp hz
    simp only [ent, Bool.and_eq_true, beq_iff_eq, bne_iff_ne, ne_eq] at hc
    have h1 := (e.key y hy).1
    rw [hc.1] at h1
    exact hc.2 (by rw [NestedIs.inj _ _ _ h1 hk.1])
  have tl : ∀ Q' : Bool → Shared → Prop, Q' false s → wpAny (model prog w) A (tableMayTell v ((placesWithHash es.size (fun i => es[i]?.map (·.hash)) (k.hash w)).filterMap (fun i => es[i]?.map (·.key)))) Q' E s := fun Q' q => tell_quiet hk hst q
  unfold dictFind
  try with_reducible refine wpAny_holding ?_
  refine wpAny_bind (wpAny_dictEntries ho hd ?_)
  dsimp only
  by_cases hs : (∃ x t, v = .str x t) ∧ (es.all fun e => isExactStrKey e.key) = true
  · obtain ⟨⟨x, t, rfl⟩, hstr⟩ := hs
    obtain rfl : k = .text x := by
      cases hk.1
      rfl
    dsimp only
    rw [if_pos hstr]
    unfold foundByValue
    cases hf : es.findIdx? (fun e => e.key.isStr x) with
    | none =>
      refine wpAny_pure (no fun i ⟨p, z⟩ => ?_)
      have h1 := Array.findIdx?_eq_none_iff.mp hf (ent w (.text x, p)) (by
        have : es[i]? = some (ent w (.text x, p)) := by rw [e.at_ i, z]; rfl
        exact Array.mem_of_getElem? this)
      have h2 : (ent w (.text x, p)).key.isStr x = true := (isStr_iff (e.key _ (List.mem_of_getElem? z))).mpr rfl
      rw [h2] at h1
      cases h1
    | some i =>
      obtain ⟨hlt, hi, _⟩ := Array.findIdx?_eq_some_iff_getElem.mp hf
      obtain ⟨y, hy⟩ : ∃ y, xs[i]? = some y := ⟨xs[i]'(by rw [← e.size]; exact hlt), List.getElem?_eq_getElem _⟩
      have ei : es[i]? = some (ent w y) := by rw [e.at_ i, hy]; rfl
      have ei2 : es[i] = ent w y := by
        rw [Array.getElem?_eq_getElem hlt] at ei
        exact Option.some.inj ei
      rw [ei2] at hi
      have c : y.1 = .text x := (isStr_iff (e.key _ (List.mem_of_getElem? hy))).mp hi
      simp only [ei]
      refine wpAny_bind (wpAny_dictEpoch ho hd (wpAny_bind (e.ask hu hk ho hd hy (kp := none) (wpAny_bind (wpAny_dictEpoch ho hd ?_)))))
      show wpAny _ _ (if (ep != ep) = true then _ else _) _ E _
      rw [if_neg (by simp), decide_eq_true c]
      exact wpAny_bind (wpAny_rule (wpAny_pure (yes i ⟨y.2, by rw [hy, ← c]⟩)))
  · by_cases hall : ((v :: (placesWithHash es.size (fun i => es[i]?.map (·.hash)) (k.hash w)).filterMap fun i => es[i]?.map (·.key)).all carriedByValue) = true
    · rcases shape hk with rfl | ⟨b, rfl⟩ | ⟨i, t, rfl⟩ | ⟨y, t, rfl⟩ | ⟨a, rfl⟩
      case' inr.inr.inr.inl => refine (?_ : wpAny _ _ (if (es.all fun e => isExactStrKey e.key) = true then _ else _) _ _ _)
      case' inr.inr.inr.inl => rw [if_neg (fun z => hs ⟨⟨_, _, rfl⟩, z⟩)]
      all_goals
        rw [if_pos hall]
        exact walk_plain e hu hk ho hd no yes fun i a => e.place a
    · by_cases hone : (((placesWithHash es.size (fun i => es[i]?.map (·.hash)) (k.hash w)).filterMap fun i => es[i]?.map (·.key)) == [v]) = true
      all_goals
        rcases shape hk with rfl | ⟨b, rfl⟩ | ⟨i, t, rfl⟩ | ⟨y, t, rfl⟩ | ⟨a, rfl⟩
        case' inr.inr.inr.inl => refine (?_ : wpAny _ _ (if (es.all fun e => isExactStrKey e.key) = true then _ else _) _ _ _)
        case' inr.inr.inr.inl => rw [if_neg (fun z => hs ⟨⟨_, _, rfl⟩, z⟩)]
        all_goals rw [if_neg hall]
        case' inr.inr.inr.inr => refine (?_ : wpAny _ _ (if (es.any fun e => e.key == Value.ref a && e.hash != k.hash w) = true then _ else _) _ _ _)
        case' inr.inr.inr.inr => rw [if_neg hany]
        all_goals
          first | rw [if_pos hone] | rw [if_neg hone]
          first | refine wpAny_bind (wpAny_pure ?_) | refine wpAny_bind (tl _ ?_)
          rw [if_neg (by simp)]
          refine wpAny_bind (wpAny_forIn_list _ (fun rest b s' => s' = s ∧ rest.Nodup ∧ b.1 = none ∧ ((b.2 = none ∧ ∀ i, AtK xs k i → i ∈ rest) ∨ ∃ j, b.2 = some j ∧ AtK xs k j ∧ ∀ i ∈ rest, ¬ AtK xs k i)) _ ?_ ?_ _ _ ⟨rfl, places_nodup, rfl, .inl ⟨rfl, fun i a => e.place a⟩⟩)
          · rintro x rest ⟨b1, hit⟩ s' ⟨rfl, nd, e1, hr⟩
            obtain rfl : b1 = none := e1
            obtain ⟨nx, nr⟩ := List.nodup_cons.mp nd
            have go : ¬ AtK xs k x → (hit = none ∧ ∀ i, AtK xs k i → i ∈ rest) ∨ ∃ j, hit = some j ∧ AtK xs k j ∧ ∀ i ∈ rest, ¬ AtK xs k i := fun n => hr.elim
              (fun z => .inl ⟨z.1, fun i a => (List.mem_cons.mp (z.2 i a)).elim (fun q => absurd (q ▸ a) n) id⟩) fun ⟨j, h1, h2, h3⟩ => .inr ⟨j, h1, h2, fun i hi => h3 i (List.mem_cons_of_mem _ hi)⟩
            cases hx : xs[x]? with
            | none =>
              rw [e.at_ x, hx]
              exact wpAny_pure ⟨rfl, nr, rfl, go fun ⟨p, z⟩ => by rw [hx] at z; cases z⟩
            | some y =>
              rw [e.at_ x, hx]
              refine (?_ : wpAny _ _ (if ((ent w y).hash == k.hash w) = true then _ else _) _ E _)
              by_cases hh : ((ent w y).hash == k.hash w) = true
              · rw [if_pos hh]
                refine wpAny_bind (wpAny_dictEpoch ho hd (wpAny_bind (e.ask hu hk ho hd hx (kp := none) (wpAny_bind (wpAny_dictEpoch ho hd ?_)))))
                refine (?_ : wpAny _ _ (if (ep != ep) = true then _ else _) _ E _)
                rw [if_neg (by simp)]
                by_cases c : y.1 = k
                · rw [decide_eq_true c]
                  have ax : AtK xs k x := ⟨y.2, by rw [hx, ← c]⟩
                  obtain ⟨rfl, hr⟩ : hit = none ∧ ∀ i, AtK xs k i → i ∈ x :: rest := hr.elim id fun ⟨j, _, _, h3⟩ => absurd ax (h3 x List.mem_cons_self)
                  rw [if_pos rfl]
                  refine (?_ : wpAny _ _ (if (Option.isSome (none : Option Nat)) = true then _ else _) _ E _)
                  rw [if_neg (by simp)]
                  refine wpAny_bind (wpAny_rule ?_)
                  split
                  · exact wpAny_pure (wpAny_pure (yes x ax))
                  · exact wpAny_pure ⟨rfl, nr, rfl, .inr ⟨x, rfl, ax, fun i hi a => nx (e.uniq a ax ▸ hi)⟩⟩
                · rw [decide_eq_false c]
                  rw [if_neg Bool.false_ne_true]
                  refine wpAny_bind (wpAny_rule ?_)
                  have n : ¬ AtK xs k x := fun ⟨p, z⟩ => c (by rw [hx] at z; cases z; rfl)
                  rw [if_neg (by simp)]
                  exact wpAny_pure ⟨rfl, nr, rfl, go n⟩
              · rw [if_neg hh]
                refine wpAny_pure ⟨rfl, nr, rfl, go fun ⟨p, z⟩ => hh ?_⟩
                rw [hx] at z
                cases z
                simp [ent]
          · rintro ⟨b1, hit⟩ s' ⟨rfl, _, e1, hr⟩
            obtain rfl : b1 = none := e1
            rcases hr with ⟨rfl, hr⟩ | ⟨j, rfl, aj, _⟩
            · exact wpAny_pure (no fun i a => List.not_mem_nil (hr i a))
            · exact wpAny_pure (yes j aj)
/-- at d stands a dict with these entries -/
def Dict (w : World) (h : Heap) (d : Addr) (xs : List En) : Prop := ∃ o es ep, h.get? d = some o ∧ o.ExactDict ∧ o.data = .dict es ep ∧ Ents w h es xs
def valN {α : Type} (xs : List (NestedKey × α)) (k : NestedKey) : Option α := (xs.find? fun x => decide (x.1 = k)).map (·.2)
def putN {α β : Type} (xs : List (NestedKey × α × β)) (k : NestedKey) (u : α) (v : β) : List (NestedKey × α × β) :=
  if (valN xs k).isSome then xs.map fun x => if x.1 = k then (x.1, x.2.1, v) else x else xs ++ [(k, u, v)]
theorem valN_at {α : Type} {xs : List (NestedKey × α)} (nd : (xs.map (·.1)).Nodup) {k : NestedKey} {p : α} (h : (k, p) ∈ xs) : valN xs k = some p := by
  induction xs with
  | nil => cases h
  | cons x r ih =>
    have nd : (x.1 :: r.map (·.1)).Nodup := nd
    obtain ⟨n1, n2⟩ := List.nodup_cons.mp nd
    unfold valN
    rw [List.find?_cons]
    by_cases c : x.1 = k
    · rw [decide_eq_true c]
      rcases List.mem_cons.mp h with h | h
      · rw [← h]
        rfl
      · exact absurd (List.mem_map.mpr ⟨_, h, rfl⟩) (by rw [c] at n1; exact n1)
    · rw [decide_eq_false c]
      rcases List.mem_cons.mp h with h | h
      · rw [← h] at c
        exact absurd rfl c
      · exact ih n2 h
theorem valN_none {α : Type} {xs : List (NestedKey × α)} {k : NestedKey} (h : k ∉ xs.map (·.1)) : valN xs k = none := by
  unfold valN
  rw [Option.map_eq_none_iff, List.find?_eq_none]
  intro x hx c
  exact h (List.mem_map.mpr ⟨x, hx, of_decide_eq_true c⟩)
theorem valN_some {α : Type} {xs : List (NestedKey × α)} {k : NestedKey} : (valN xs k).isSome = decide (k ∈ xs.map (·.1)) := by
  by_cases h : k ∈ xs.map (·.1)
  · rw [decide_eq_true h]
    unfold valN
    rw [Option.isSome_map, List.find?_isSome]
    obtain ⟨x, hx, e⟩ := List.mem_map.mp h
    exact ⟨x, hx, decide_eq_true e⟩
  · rw [decide_eq_false h, valN_none h]
    rfl
theorem AtK.val {h : Heap} (e : Ents w h es xs) {k : NestedKey} {i : Nat} (a : AtK xs k i) : ∃ p, xs[i]? = some (k, p) ∧ valN xs k = some p := by
  obtain ⟨p, hp⟩ := a
  exact ⟨p, hp, valN_at e.nd (List.mem_of_getElem? hp)⟩
theorem noAt {k : NestedKey} (h : ∀ i, ¬ AtK xs k i) : k ∉ xs.map (·.1) := fun m => by
  obtain ⟨x, hx, rfl⟩ := List.mem_map.mp m
  obtain ⟨j, hj⟩ := List.mem_iff_getElem?.mp hx
  exact h j ⟨x.2, hj⟩
theorem KeyOk.keeps {h h' : Heap} {k : NestedKey} {v : Value} {d : Addr} {o : Obj} {ep : Nat} (x : KeyOk h k v) (ho : h.get? d = some o) (hd : o.data = .dict es ep) (hs : Heap.SameBut d h h') : KeyOk h' k v :=
  ⟨NestedIs.at (fun b ob vs n hb hc => by
    refine (hs.2 b fun z => ?_).trans hb
    subst z
    rw [ho] at hb
    cases hb
    rw [hd] at hc
    cases hc) k _ x.1, x.2⟩
theorem get {d : Addr} {k : NestedKey} {v : Value} {Q : Option Value → Shared → Prop} (hu : A.units + 8 < cLine) (hk : KeyOk s.heap k v) (hm : Dict w s.heap d xs) (h : Q ((valN xs k).map (·.2)) { s with toks := s.toks + k.draws }) :
    wpAny (model prog w) A (dictGet d v) Q E s := by
  obtain ⟨o, es, ep, ho, _, hd, e⟩ := hm
  unfold dictGet
  try with_reducible refine wpAny_holding ?_
  refine wpAny_bind (pyHash_key k v A s _ hk.1 (by have := hk.2; omega) (wpAny_bind (find (s := { s with toks := s.toks + k.draws }) e hu hk ho hd (fun no => ?_) fun i a => ?_)))
  · rw [valN_none (noAt no)] at h
    exact wpAny_pure h
  · obtain ⟨p, hp, hv⟩ := a.val e
    rw [hv] at h
    refine wpAny_bind (wpAny_dictEntries (s := { s with toks := s.toks + k.draws }) ho hd ?_)
    rw [e.at_ i, hp]
    exact wpAny_pure h
theorem put_map {k : NestedKey} {v : Value} : ∀ {xs : List En} {i : Nat} {p : Value × Value}, (xs.map (·.1)).Nodup → xs[i]? = some (k, p) → (xs.map (ent w)).modify i (fun z => { z with val := v }) = (xs.map fun x => if x.1 = k then (x.1, x.2.1, v) else x).map (ent w)
  | [], i, p, _, h => by simp at h
  | x :: r, 0, p, nd, h => by
    simp only [List.getElem?_cons_zero, Option.some.injEq] at h
    subst h
    have nd : (k :: r.map (·.1)).Nodup := nd
    obtain ⟨n1, _⟩ := List.nodup_cons.mp nd
    have er : (r.map fun x : En => if x.1 = k then (x.1, x.2.1, v) else x) = r := (List.map_congr_left fun q hq => if_neg fun z => n1 (List.mem_map.mpr ⟨q, hq, z⟩)).trans (List.map_id r)
    rw [List.map_cons, List.map_cons, er, if_pos rfl, List.map_cons]
    rfl
  | x :: r, i + 1, p, nd, h => by
    simp only [List.getElem?_cons_succ] at h
    have nd : (x.1 :: r.map (·.1)).Nodup := nd
    obtain ⟨n1, n2⟩ := List.nodup_cons.mp nd
    have ne : ¬ x.1 = k := fun z => n1 (by rw [z]; exact List.mem_map.mpr ⟨(k, p), List.mem_of_getElem? h, rfl⟩)
    rw [List.map_cons, List.map_cons, if_neg ne, List.map_cons]
    show ent w x :: (r.map (ent w)).modify i _ = ent w x :: _
    rw [put_map n2 h]
theorem set {d : Addr} {k : NestedKey} {u v : Value} {Q : Unit → Shared → Prop} (hu : A.units + 8 < cLine) (hk : KeyOk s.heap k u) (hm : Dict w s.heap d xs) (hz : xs.length ≤ sizeLine)
    (h : ∀ h', Dict w h' d (putN xs k u v) → Heap.SameBut d s.heap h' → Q () { s with heap := h', toks := s.toks + k.draws }) : wpAny (model prog w) A (dictSet d u v) Q E s := by
  obtain ⟨o, es, ep, ho, hc, hd, e⟩ := hm
  unfold dictSet
  try with_reducible refine wpAny_holding ?_
  refine wpAny_bind (pyHash_key k u A s _ hk.1 (by have := hk.2; omega) ?_)
  unfold dictSetHashed
  try with_reducible refine wpAny_holding ?_
  refine wpAny_bind (find (s := { s with toks := s.toks + k.draws }) e hu hk ho hd (fun no => ?_) fun i a => ?_)
  · have nk := noAt no
    have ep : putN xs k u v = xs ++ [(k, u, v)] := by
      unfold putN
      rw [valN_none nk]
      rfl
    rw [ep] at h
    refine wpAny_bind (wpAny_rule (wpAny_updateDictKeys (hz := by rw [e.size]; exact hz) (s := { s with toks := s.toks + k.draws }) ho hd (h _ ⟨_, _, _, Heap.get?_update_self _ ho (Obj.isFreed_of_dict (Obj.data_mapDictKeys hd _)), hc.mapDictKeys _, Obj.data_mapDictKeys hd _, ⟨?_, fun x hx => ?_, ?_⟩⟩ (Heap.SameBut.update ..))))
    · rw [Array.toList_push, e.lay, List.map_append]
      rfl
    · rcases List.mem_append.mp hx with hx | hx
      · exact (e.key x hx).keeps ho hd (Heap.SameBut.update ..)
      · cases List.mem_singleton.mp hx
        exact hk.keeps ho hd (Heap.SameBut.update ..)
    · rw [List.map_append, List.nodup_append]
      refine ⟨e.nd, List.nodup_cons.mpr ⟨List.not_mem_nil, List.nodup_nil⟩, fun x hx y hy z => ?_⟩
      cases List.mem_singleton.mp hy
      have z : x = k := z
      rw [z] at hx
      exact nk hx
  · obtain ⟨p, hp, hv⟩ := a.val e
    have ep : putN xs k u v = xs.map fun x => if x.1 = k then (x.1, x.2.1, v) else x := by
      unfold putN
      rw [hv]
      rfl
    rw [ep] at h
    have keys : (xs.map fun x : En => if x.1 = k then (x.1, x.2.1, v) else x).map (·.1) = xs.map (·.1) := by
      rw [List.map_map]
      refine List.map_congr_left fun x _ => ?_
      show (if x.1 = k then (x.1, x.2.1, v) else x).1 = x.1
      split <;> rfl
    refine wpAny_bind (wpAny_rule (wpAny_bind (wpAny_updateDict (s := { s with toks := s.toks + k.draws }) ho hd (wpAny_point (h _ ⟨_, _, _, Heap.get?_update_self _ ho (Obj.isFreed_of_dict (Obj.data_mapDict hd _)), hc.mapDict _, Obj.data_mapDict hd _, ⟨?_, fun x hx => ?_, ?_⟩⟩ (Heap.SameBut.update ..))))))
    · have := put_map (w := w) (v := v) e.nd hp
      rw [← e.lay] at this
      obtain ⟨l⟩ := es
      simpa using this
    · obtain ⟨y, hy, rfl⟩ := List.mem_map.mp hx
      split <;> exact (e.key y hy).keeps ho hd (Heap.SameBut.update ..)
    · rw [keys]
      exact e.nd
theorem Dict.typeIs {d : Addr} (hm : Dict w s.heap d xs) : s.TypeIs (.ref d) "dict" := let ⟨o, _, _, ho, hc, _⟩ := hm; ⟨o, ho, hc.1⟩
/-- d[k], there -/
theorem getItem {d : Addr} {k : NestedKey} {u : Value} {p : Value × Value} {Q : Value → Shared → Prop} (hu : A.in1.units + 8 < cLine) (hk : KeyOk s.heap k u) (hm : Dict w s.heap d xs) (hp : valN xs k = some p) (h : Q p.2 { s with toks := s.toks + k.draws }) :
    wpAny (model prog w) A (PySem.getItem (.ref d) u) Q E s := by
  unfold PySem.getItem
  try with_reducible refine wpAny_holding ?_
  refine wpAny_bind (wpAny_sequenceKey hm.typeIs (by decide) ?_)
  refine wpAny_bind (wpAny_callSpecial?_slot (name := Str.ofString "__getitem__") hm.typeIs slot_dict_getitem
    (wpAny_call_entry slot_dict_getitem hm.typeIs entry_dict_getitem ?_ (args_dict_getitem _ _)))
  show wpAny _ _ (dictGet d u >>= _) _ _ s
  refine wpAny_bind (get hu hk hm ?_)
  rw [hp]
  exact wpAny_pure ⟨p.2, rfl, wpAny_pure h⟩
/-- k in d -/
theorem isIn {d : Addr} {k : NestedKey} {u : Value} {Q : Value → Shared → Prop} (hu : A.in1.units + 8 < cLine) (hd : (d == sysModules) = false) (hk : KeyOk s.heap k u) (hm : Dict w s.heap d xs) (h : Q (.bool (valN xs k).isSome) { s with toks := s.toks + k.draws }) :
    wpAny (model prog w) A (compareOp .In u (.ref d)) Q E s := by
  show wpAny _ _ (do return .bool (← contains (.ref d) u)) Q E s
  refine wpAny_bind ?_
  unfold contains
  try with_reducible refine wpAny_holding ?_
  refine wpAny_bind (wpAny_specialOf hm.typeIs slot_dict_contains.lookup ?_)
  show wpAny _ _ (if (some (Value.builtin "dict.__contains__") == some Value.none) = true then _ else _) _ E s
  rw [if_neg (by rw [beq_builtin_none]; exact Bool.false_ne_true)]
  refine wpAny_bind (wpAny_callSpecialUnlessNone?_slot (name := Str.ofString "__contains__") hm.typeIs slot_dict_contains
    (wpAny_call_entry slot_dict_contains hm.typeIs entry_dict_contains ?_ (args_dict_contains _ _)))
  show wpAny _ _ (dictGet d u >>= _) _ _ s
  refine wpAny_bind (get hu hk hm ?_)
  cases hf : valN xs k with
  | some p =>
    rw [hf] at h
    show wpAny _ _ (ret (.bool true)) _ _ _
    exact wpAny_pure ⟨_, rfl, wpAny_truthy_bool (wpAny_pure h)⟩
  | none =>
    rw [hf] at h
    show wpAny _ _ (Builtin.Dict.pendingKey? d u >>= _) _ _ _
    exact wpAny_bind (wpAny_pendingKey_other hd (wpAny_pure ⟨_, rfl, wpAny_truthy_bool (wpAny_pure h)⟩))
/-- k not in d -/
theorem notIn {d : Addr} {k : NestedKey} {u : Value} {Q : Value → Shared → Prop} (hu : A.in1.units + 8 < cLine) (hd : (d == sysModules) = false) (hk : KeyOk s.heap k u) (hm : Dict w s.heap d xs) (h : Q (.bool (!(valN xs k).isSome)) { s with toks := s.toks + k.draws }) :
    wpAny (model prog w) A (compareOp .NotIn u (.ref d)) Q E s := by
  show wpAny _ _ (do return .bool (!(← contains (.ref d) u))) Q E s
  refine wpAny_bind ?_
  unfold contains
  try with_reducible refine wpAny_holding ?_
  refine wpAny_bind (wpAny_specialOf hm.typeIs slot_dict_contains.lookup ?_)
  show wpAny _ _ (if (some (Value.builtin "dict.__contains__") == some Value.none) = true then _ else _) _ E s
  rw [if_neg (by rw [beq_builtin_none]; exact Bool.false_ne_true)]
  refine wpAny_bind (wpAny_callSpecialUnlessNone?_slot (name := Str.ofString "__contains__") hm.typeIs slot_dict_contains
    (wpAny_call_entry slot_dict_contains hm.typeIs entry_dict_contains ?_ (args_dict_contains _ _)))
  show wpAny _ _ (dictGet d u >>= _) _ _ s
  refine wpAny_bind (get hu hk hm ?_)
  cases hf : valN xs k with
  | some p =>
    rw [hf] at h
    show wpAny _ _ (ret (.bool true)) _ _ _
    exact wpAny_pure ⟨_, rfl, wpAny_truthy_bool (wpAny_pure h)⟩
  | none =>
    rw [hf] at h
    show wpAny _ _ (Builtin.Dict.pendingKey? d u >>= _) _ _ _
    exact wpAny_bind (wpAny_pendingKey_other hd (wpAny_pure ⟨_, rfl, wpAny_truthy_bool (wpAny_pure h)⟩))
/-- d[k] = v -/
theorem setItem {d : Addr} {k : NestedKey} {u v : Value} {Q : Unit → Shared → Prop} (hu : A.in1.units + 8 < cLine) (hk : KeyOk s.heap k u) (hm : Dict w s.heap d xs) (hz : xs.length ≤ sizeLine)
    (h : ∀ h', Dict w h' d (putN xs k u v) → Heap.SameBut d s.heap h' → Q () { s with heap := h', toks := s.toks + k.draws }) : wpAny (model prog w) A (PySem.setItem (.ref d) u v) Q E s := by
  unfold PySem.setItem
  try with_reducible refine wpAny_holding ?_
  refine wpAny_bind (wpAny_sequenceKey hm.typeIs (by decide) ?_)
  refine wpAny_bind (wpAny_callSpecial?_slot (name := Str.ofString "__setitem__") hm.typeIs slot_dict_setitem
    (wpAny_call_entry slot_dict_setitem hm.typeIs entry_dict_setitem ?_ (args_dict_setitem _ _ _)))
  show wpAny _ _ (Builtin.Dict.notOrdered "__setitem__" ⟨[.ref d, u, v], []⟩ >>= _) _ _ s
  refine wpAny_bind (wpAny_notOrdered_dict hm.typeIs ?_)
  show wpAny _ _ (dictSet d u v >>= _) _ _ s
  exact wpAny_bind (set hu hk hm hz fun h' hm' hs' => wpAny_pure ⟨.none, rfl, wpAny_pure (h h' hm' hs')⟩)
end
end NK
end PySem

set_option Elab.async false
set_option linter.all false
set_option maxRecDepth 100000
set_option maxHeartbeats 4000000
/-! dicts whose keys are any nested keys, over the abstract heap -/
namespace L2
open PySem PySem.Spec PyProof.Rows
mutual
/-- the value v is the key k -/
inductive HN (H : Hp) : NestedKey → V → Prop
  | non : HN H .none .non
  | bl (b : Bool) : HN H (.num (if b = true then 1 else 0)) (.bl b)
  | int (i : Int) : HN H (.num i) (.int i)
  | str (x : Str) : HN H (.text x) (.str x)
  | tup {a : Addr} {vs : List V} {ks : List NestedKey} : H a = some (.tup vs) → HNs H ks vs → HN H (.tup ks) (.ref a)
inductive HNs (H : Hp) : List NestedKey → List V → Prop
  | nil : HNs H [] []
  | cons {k : NestedKey} {v : V} {ks : List NestedKey} {vs : List V} : HN H k v → HNs H ks vs → HNs H (k :: ks) (v :: vs)
end
mutual
theorem HN.mono {A B : Hp} (e : ∀ t xs, A t = some (.tup xs) → B t = some (.tup xs)) : ∀ {k : NestedKey} {v : V}, HN A k v → HN B k v
  | _, _, .non => .non
  | _, _, .bl b => .bl b
  | _, _, .int i => .int i
  | _, _, .str x => .str x
  | _, _, .tup h r => .tup (e _ _ h) (r.mono e)
theorem HNs.mono {A B : Hp} (e : ∀ t xs, A t = some (.tup xs) → B t = some (.tup xs)) : ∀ {k : List NestedKey} {v : List V}, HNs A k v → HNs B k v
  | _, _, .nil => .nil
  | _, _, .cons h r => .cons (h.mono e) (r.mono e)
end
mutual
theorem HN.is {P : Program} {w : World} {H : Hp} {h : Heap} (ok : HOk P w H h) : ∀ {k : NestedKey} {v : V} {u : Value}, HN H k v → RelV v u → NestedIs h k u
  | _, _, u, .non, r => by
    cases (show u = Value.none from r)
    exact .none
  | _, _, u, .bl b, r => by
    cases (show u = Value.bool b from r)
    exact .bool rfl
  | _, _, u, .int i, r => by
    obtain ⟨t, rfl⟩ := (show ∃ t, u = Value.int i t from r)
    exact .int _ _
  | _, _, u, .str x, r => by
    obtain ⟨t, rfl⟩ := (show ∃ t, u = Value.str x t from r)
    exact .text _ _
  | _, _, u, .tup (a := a) (vs := vs) e hs, r => by
    cases (show u = Value.ref a from r)
    obtain ⟨_, its, rv, o, h1, h2, n, h3⟩ := (show ObjOk P w H h a (.tup vs) from ok a _ e)
    exact .tup h1 h2 h3 (by simpa using hs.is ok rv)
theorem HNs.is {P : Program} {w : World} {H : Hp} {h : Heap} (ok : HOk P w H h) : ∀ {k : List NestedKey} {v : List V} {u : List Value}, HNs H k v → Vals v u → NestedAll h k u
  | _, _, _, .nil, .nil => .nil
  | _, _, _, .cons h1 hs, .cons r rs => .cons (h1.is ok r) (hs.is ok rs)
end
theorem HN.text {H : Hp} {s : Str} {v : V} (h : HN H (.text s) v) : v = .str s := by cases h; rfl
/-- a dict with these keys (what each is, what stands for it) and values -/
abbrev KVN := List (NestedKey × V × V)
def NdO (P : Program) (w : World) (D : Addr) (kvs : KVN) : HO := .ext fun h => (D == sysModules) = false ∧ kvs.length ≤ sizeLine ∧ ∃ o es ep, h.get? D = some o ∧ o.ExactDict ∧ o.data = .dict es ep ∧
  Paired (fun (kv : NestedKey × V × V) (e : DictEntry) => e.hash = kv.1.hash w ∧ RelV kv.2.1 e.key ∧ RelV kv.2.2 e.val) kvs es.toList
structure KeysN (H : Hp) (kvs : KVN) : Prop where
  is : ∀ x ∈ kvs, HN H x.1 x.2.1 ∧ x.1.depth ≤ 8
  nd : (kvs.map (·.1)).Nodup
theorem KeysN.mono {A B : Hp} {kvs : KVN} (e : ∀ t xs, A t = some (.tup xs) → B t = some (.tup xs)) (k : KeysN A kvs) : KeysN B kvs := ⟨fun x hx => ⟨(k.is x hx).1.mono e, (k.is x hx).2⟩, k.nd⟩
def nk : Key → NestedKey
  | .inl i => .num i
  | .inr x => .text x
theorem nk_inj {a b : Key} (h : nk a = nk b) : a = b := by
  cases a <;> cases b <;> simp_all [nk]
theorem nk_hn {H : Hp} (k : Key) : HN H (nk k) (kV k) := by
  cases k with
  | inl i => exact .int i
  | inr x => exact .str x
theorem nk_depth (k : Key) : (nk k).depth ≤ 8 := by
  cases k with
  | inl i => exact Nat.zero_le _
  | inr x => exact Nat.zero_le _
theorem nk_hash (w : World) (k : Key) : (nk k).hash w = keyH w k := by
  cases k with
  | inl i => rfl
  | inr x => rfl
def liftK (kk : List (Key × V)) : KVN := kk.map fun kv => (nk kv.1, kV kv.1, kv.2)
/-- a dict of any kind, to be read -/
def AnyD (P : Program) (w : World) (H : Hp) (a : Addr) (kvs : KVN) : Prop := (Rd H a (NdO P w a kvs) ∧ KeysN H kvs) ∨ ∃ kk, Rd H a (.dK kk) ∧ kvs = liftK kk
def RelN : KVN → List NK.En → Prop := Paired fun kv x => kv.1 = x.1 ∧ RelV kv.2.1 x.2.1 ∧ RelV kv.2.2 x.2.2
theorem RelN.val {kvs : KVN} {xs : List NK.En} (r : RelN kvs xs) (k : NestedKey) : (∀ y v, NK.valN kvs k = some (y, v) → ∃ p, NK.valN xs k = some p ∧ RelV v p.2) ∧ (NK.valN xs k).isSome = (NK.valN kvs k).isSome := by
  induction r with
  | nil => exact ⟨fun y v h => (by cases h), rfl⟩
  | @cons a b l m h t ih =>
    unfold NK.valN at ih ⊢
    rw [List.find?_cons, List.find?_cons, ← h.1]
    by_cases c : a.1 = k
    · rw [decide_eq_true c]
      refine ⟨fun y v e => ?_, rfl⟩
      have : a.2 = (y, v) := Option.some.inj e
      refine ⟨b.2, rfl, ?_⟩
      have h3 := h.2.2
      rw [this] at h3
      exact h3
    · rw [decide_eq_false c]
      exact ih
theorem RelN.keys {kvs : KVN} {xs : List NK.En} (r : RelN kvs xs) : kvs.map (·.1) = xs.map (·.1) := by
  induction r with
  | nil => rfl
  | cons h t ih => rw [List.map_cons, List.map_cons, h.1, ih]
theorem RelN.over {kvs : KVN} {xs : List NK.En} (r : RelN kvs xs) (k : NestedKey) {v : V} {z : Value} (rv : RelV v z) : RelN (kvs.map fun x => if x.1 = k then (x.1, x.2.1, v) else x) (xs.map fun x => if x.1 = k then (x.1, x.2.1, z) else x) := by
  induction r with
  | nil => exact .nil
  | @cons a b l m h t ih =>
    rw [List.map_cons, List.map_cons]
    refine .cons ?_ ih
    show (if a.1 = k then (a.1, a.2.1, v) else a).1 = (if b.1 = k then (b.1, b.2.1, z) else b).1 ∧ RelV (if a.1 = k then (a.1, a.2.1, v) else a).2.1 (if b.1 = k then (b.1, b.2.1, z) else b).2.1 ∧ RelV (if a.1 = k then (a.1, a.2.1, v) else a).2.2 (if b.1 = k then (b.1, b.2.1, z) else b).2.2
    rw [← h.1]
    by_cases c : a.1 = k
    · rw [if_pos c, if_pos c]
      exact ⟨rfl, h.2.1, rv⟩
    · rw [if_neg c, if_neg c]
      exact h
theorem RelN.put {kvs : KVN} {xs : List NK.En} (r : RelN kvs xs) (k : NestedKey) {y v : V} {u z : Value} (ry : RelV y u) (rv : RelV v z) : RelN (NK.putN kvs k y v) (NK.putN xs k u z) := by
  unfold NK.putN
  rw [(r.val k).2]
  split
  · exact r.over k rv
  · exact M.Paired.app r (.cons ⟨rfl, ry, rv⟩ .nil)
theorem putN_len {α β : Type} (xs : List (NestedKey × α × β)) (k : NestedKey) (u : α) (v : β) : (NK.putN xs k u v).length ≤ xs.length + 1 := by
  unfold NK.putN
  split
  · rw [List.length_map]
    exact Nat.le_succ _
  · rw [List.length_append]
    exact Nat.le_refl _
theorem putN_keys {kvs : KVN} {H : Hp} {k : NestedKey} {y v : V} (K : KeysN H kvs) (hk : HN H k y) (d8 : k.depth ≤ 8) : KeysN H (NK.putN kvs k y v) := by
  unfold NK.putN
  split
  · refine ⟨fun x hx => ?_, ?_⟩
    · obtain ⟨z, hz, rfl⟩ := List.mem_map.mp hx
      have := K.is z hz
      split
      · exact this
      · exact this
    · rw [List.map_map]
      have : ((fun x : NestedKey × V × V => x.1) ∘ fun x => if x.1 = k then (x.1, x.2.1, v) else x) = (·.1) := by
        funext x
        show (if x.1 = k then (x.1, x.2.1, v) else x).1 = x.1
        split <;> rfl
      rw [this]
      exact K.nd
  · rename_i c
    refine ⟨fun x hx => ?_, ?_⟩
    · rcases List.mem_append.mp hx with hx | hx
      · exact K.is x hx
      · cases List.mem_singleton.mp hx
        exact ⟨hk, d8⟩
    · rw [List.map_append, List.nodup_append]
      refine ⟨K.nd, List.nodup_cons.mpr ⟨List.not_mem_nil, List.nodup_nil⟩, fun a ha b hb z => c ?_⟩
      cases List.mem_singleton.mp hb
      have z : a = k := z
      rw [NK.valN_some]
      exact decide_eq_true (z ▸ ha)
section
variable {X : Cx} {pins : List (Addr × Obj)} {σ : St} {H : Hp} {s : Shared} {a : Addr} {kvs : KVN} {A : Around} {E : Value → Shared → Prop}
theorem HN.ok {k : NestedKey} {y : V} {u : Value} (I : Inv X pins σ H s) (h : HN H k y) (d8 : k.depth ≤ 8) (r : RelV y u) : NK.KeyOk s.heap k u := ⟨h.is I.hok r, d8⟩
theorem nodup_nk : ∀ {l : List Key}, l.Nodup → (l.map nk).Nodup
  | [], _ => List.nodup_nil
  | a :: l, nd => by
    obtain ⟨n1, n2⟩ := List.nodup_cons.mp nd
    refine List.nodup_cons.mpr ⟨fun m => ?_, nodup_nk n2⟩
    obtain ⟨b, hb, e⟩ := List.mem_map.mp m
    exact n1 (nk_inj e ▸ hb)
theorem kv_keys {kk : List (Key × V)} {vs : List (Key × Value)} (rel : KV kk vs) : kk.map (·.1) = vs.map (·.1) := by
  induction rel with
  | nil => rfl
  | cons h t ih => rw [List.map_cons, List.map_cons, h.1, ih]
theorem keyOks (I : Inv X pins σ H s) {l : KVN} {xs : List NK.En} (r : RelN l xs) (K : ∀ x ∈ l, HN H x.1 x.2.1 ∧ x.1.depth ≤ 8) : ∀ x ∈ xs, NK.KeyOk s.heap x.1 x.2.1 := by
  induction r with
  | nil => intro x hx; cases hx
  | @cons kv y l m h t ih =>
    intro x hx
    rcases List.mem_cons.mp hx with rfl | hx
    · have := K kv List.mem_cons_self
      rw [← h.1]
      exact HN.ok I this.1 this.2 h.2.1
    · exact ih (fun x hx => K x (List.mem_cons_of_mem _ hx)) x hx
theorem lift_keys {kk : List (Key × V)} (nd : (kk.map (·.1)).Nodup) : KeysN H (liftK kk) := by
  refine ⟨fun x hx => ?_, ?_⟩
  · obtain ⟨z, _, rfl⟩ := List.mem_map.mp hx
    exact ⟨nk_hn _, nk_depth _⟩
  · have e : (liftK kk).map (·.1) = (kk.map (·.1)).map nk := by
      unfold liftK
      rw [List.map_map, List.map_map]
      rfl
    rw [e]
    exact nodup_nk nd
theorem anyD_dict (I : Inv X pins σ H s) (g : AnyD X.prog X.w H a kvs) : (a == sysModules) = false ∧ kvs.length ≤ sizeLine ∧ KeysN H kvs ∧ ∃ xs, NK.Dict X.w s.heap a xs ∧ RelN kvs xs := by
  rcases g with ⟨e, K⟩ | ⟨kk, e, rfl⟩
  · obtain ⟨⟨hd, z, o, es, ep, h1, h2, h3, rel⟩, _, _⟩ := (show ObjOk X.prog X.w H s.heap a (NdO X.prog X.w a kvs) from rd_of I.hok e)
    refine ⟨hd, z, K, ?_⟩
    have : ∀ {l : KVN} {m : List DictEntry}, Paired (fun (kv : NestedKey × V × V) (e : DictEntry) => e.hash = kv.1.hash X.w ∧ RelV kv.2.1 e.key ∧ RelV kv.2.2 e.val) l m → ∃ xs, m = xs.map (NK.ent X.w) ∧ RelN l xs := by
      intro l m p
      induction p with
      | nil => exact ⟨[], rfl, .nil⟩
      | @cons kv e l m h t ih =>
        obtain ⟨xs, e1, r⟩ := ih
        refine ⟨(kv.1, e.key, e.val) :: xs, ?_, .cons ⟨rfl, h.2.1, h.2.2⟩ r⟩
        rw [List.map_cons, e1]
        show e :: _ = NK.ent X.w (kv.1, e.key, e.val) :: _
        unfold NK.ent
        rw [← h.1]
    obtain ⟨xs, e1, r⟩ := this rel
    refine ⟨xs, ⟨o, es, ep, h1, h2, h3, e1, fun x hx => ?_, by rw [← r.keys]; exact K.nd⟩, r⟩
    exact keyOks I r K.is x hx
  · obtain ⟨z, hd, vs, rel, o, es, ep, h1, h2, h3, hk, ps, nd⟩ := dk_rd I.hok e
    have ndk : (kk.map (·.1)).Nodup := by
      rw [kv_keys rel]
      exact nd
    have K := lift_keys (H := H) ndk
    refine ⟨hd, by unfold liftK; rw [List.length_map]; exact z, K, ?_⟩
    have key : ∀ {kk : List (Key × V)} {vs : List (Key × Value)} {m : List DictEntry}, KV kk vs → Pairs (mixKind X.prog X.w) m vs → (∀ e ∈ m, ∃ k, keyIs k e.key = true ∧ e.hash = keyH X.w k) → ∃ xs, m = xs.map (NK.ent X.w) ∧ RelN (liftK kk) xs := by
      intro kk vs m rel
      induction rel generalizing m with
      | nil => intro p _; cases p; exact ⟨[], rfl, .nil⟩
      | @cons kv x l n h t ih =>
        intro p hk
        cases p with
        | @cons e _ es _ h1 h2 h3 =>
          obtain ⟨xs, e1, r⟩ := ih h3 fun e he => hk e (List.mem_cons_of_mem _ he)
          obtain ⟨k', hk1, hk2⟩ := hk e List.mem_cons_self
          have ek : kv.1 = k' := by
            rw [h.1]
            exact (mixKind X.prog X.w).inj _ _ _ h1 hk1
          refine ⟨(nk kv.1, e.key, e.val) :: xs, ?_, .cons ⟨rfl, ?_, by rw [h2]; exact h.2⟩ r⟩
          · rw [List.map_cons, e1]
            show e :: _ = NK.ent X.w (nk kv.1, e.key, e.val) :: _
            unfold NK.ent
            show _ = (⟨(nk kv.1).hash X.w, e.key, e.val⟩ : DictEntry) :: _
            rw [nk_hash, ek, ← hk2]
          · have h1' : keyIs kv.1 e.key = true := by rw [h.1]; exact h1
            rcases keyIs_shape h1' with ⟨i, t, ei, e2⟩ | ⟨y, t, ei, e2⟩
            · show RelV (kV kv.1) e.key
              rw [ei, e2]
              exact ⟨t, rfl⟩
            · show RelV (kV kv.1) e.key
              rw [ei, e2]
              exact ⟨t, rfl⟩
    obtain ⟨xs, e1, r⟩ := key rel ps fun e he => by
      obtain ⟨k, h9, h8⟩ := hk e (Array.mem_toList_iff.mp he)
      exact ⟨k, h9, h8⟩
    refine ⟨xs, ⟨o, es, ep, h1, h2, h3, e1, fun x hx => ?_, by rw [← r.keys]; exact K.nd⟩, r⟩
    exact keyOks I r K.is x hx
/-- what a dict of any kind holds at y -/
def NGet (P : Program) (w : World) (H : Hp) (a : Addr) (y : V) (r : Option V) : Prop := ∃ kvs k, AnyD P w H a kvs ∧ HN H k y ∧ k.depth ≤ 8 ∧ r = (NK.valN kvs k).map (·.2)
/-- the heap behind a[y] = v, a dict of any kind -/
def NPut (P : Program) (w : World) (H : Hp) (a : Addr) (y v : V) (H' : Hp) : Prop := ∃ kvs k, ((H a = some (NdO P w a kvs) ∧ KeysN H kvs) ∨ ∃ kk, H a = some (.dK kk) ∧ kvs = liftK kk) ∧ HN H k y ∧ k.depth ≤ 8 ∧ kvs.length < sizeLine ∧ H' = upd H a (NdO P w a (NK.putN kvs k y v))
theorem in1_units (hu : A.units + 64 < cLine) : A.in1.units + 8 < cLine := by
  have : A.in1.units = A.units + 1 := rfl
  omega
theorem n_getItem {y v : V} {u : Value} {Q : Value → Shared → Prop} (hu : A.units + 64 < cLine) (I : Inv X pins σ H s) (g : NGet X.prog X.w H a y (some v)) (ry : RelV y u) (h : ∀ w' s', Inv X pins σ H s' → RelV v w' → Q w' s') :
    wpAny (model X.prog X.w) A (getItem (.ref a) u) Q E s := by
  obtain ⟨kvs, k, g, hk, d8, e⟩ := g
  obtain ⟨_, _, _, xs, hm, r⟩ := anyD_dict I g
  obtain ⟨p, hp, ep⟩ := Option.map_eq_some_iff.mp e.symm
  obtain ⟨q, hq, rv⟩ := (r.val k).1 p.1 p.2 hp
  rw [ep] at rv
  exact NK.getItem (in1_units hu) (HN.ok I hk d8 ry) hm hq (h q.2 _ (I.tok _) rv)
theorem n_in {y : V} {u : Value} {o : Option V} {Q : Value → Shared → Prop} (hu : A.units + 64 < cLine) (I : Inv X pins σ H s) (g : NGet X.prog X.w H a y o) (ry : RelV y u) (h : ∀ s', Inv X pins σ H s' → Q (.bool o.isSome) s') :
    wpAny (model X.prog X.w) A (compareOp .In u (.ref a)) Q E s := by
  obtain ⟨kvs, k, g, hk, d8, e⟩ := g
  obtain ⟨hd, _, _, xs, hm, r⟩ := anyD_dict I g
  refine NK.isIn (in1_units hu) hd (HN.ok I hk d8 ry) hm ?_
  rw [(r.val k).2]
  rw [e, Option.isSome_map] at h
  exact h _ (I.tok _)
theorem n_notIn {y : V} {u : Value} {o : Option V} {Q : Value → Shared → Prop} (hu : A.units + 64 < cLine) (I : Inv X pins σ H s) (g : NGet X.prog X.w H a y o) (ry : RelV y u) (h : ∀ s', Inv X pins σ H s' → Q (.bool (!o.isSome)) s') :
    wpAny (model X.prog X.w) A (compareOp .NotIn u (.ref a)) Q E s := by
  obtain ⟨kvs, k, g, hk, d8, e⟩ := g
  obtain ⟨hd, _, _, xs, hm, r⟩ := anyD_dict I g
  refine NK.notIn (in1_units hu) hd (HN.ok I hk d8 ry) hm ?_
  rw [(r.val k).2]
  rw [e, Option.isSome_map] at h
  exact h _ (I.tok _)
theorem nd_ok {P : Program} {w : World} {H : Hp} {h : Heap} {a : Addr} {kvs : KVN} {xs : List NK.En} (hd : (a == sysModules) = false) (z : kvs.length ≤ sizeLine) (r : RelN kvs xs) (hm : NK.Dict w h a xs) : ObjOk P w H h a (NdO P w a kvs) := by
  obtain ⟨o, es, ep, h1, h2, h3, e⟩ := hm
  refine ⟨⟨hd, z, o, es, ep, h1, h2, h3, ?_⟩, ⟨o, h1⟩, fun _ _ ⟨hd, z, o, es, ep, h1, h2, h3, r⟩ k => ⟨hd, z, o, es, ep, k _ h1, h2, h3, r⟩⟩
  rw [e.lay]
  have : ∀ {l : KVN} {m : List NK.En}, RelN l m → Paired (fun (kv : NestedKey × V × V) (e : DictEntry) => e.hash = kv.1.hash w ∧ RelV kv.2.1 e.key ∧ RelV kv.2.2 e.val) l (m.map (NK.ent w)) := by
    intro l m r
    induction r with
    | nil => exact .nil
    | @cons kv x l m h t ih =>
      rw [List.map_cons]
      exact .cons ⟨by rw [h.1]; rfl, h.2.1, h.2.2⟩ ih
  exact this r
theorem n_setItem {y v : V} {u z : Value} {H' : Hp} {Q : Unit → Shared → Prop} (hu : A.units + 64 < cLine) (I : Inv X pins σ H s) (g : NPut X.prog X.w H a y v H') (ry : RelV y u) (rv : RelV v z) (h : ∀ s', Inv X pins σ H' s' → Q () s') :
    wpAny (model X.prog X.w) A (setItem (.ref a) u z) Q E s := by
  obtain ⟨kvs, k, g, hk, d8, lt, rfl⟩ := g
  have mu : Mut (H a) := by
    rcases g with ⟨e, _⟩ | ⟨kk, e, _⟩
    · rw [e]; exact True.intro
    · rw [e]; exact True.intro
  have g' : AnyD X.prog X.w H a kvs := g.elim (fun z => .inl ⟨.inl z.1, z.2⟩) fun ⟨kk, e, q⟩ => .inr ⟨kk, .inl e, q⟩
  obtain ⟨hd, hz, _, xs, hm, r⟩ := anyD_dict I g'
  have len : xs.length = kvs.length := (Paired.length r).symm
  refine NK.setItem (in1_units hu) (HN.ok I hk d8 ry) hm (by omega) fun h' hm' hs => h _ ?_
  have he : ∃ q, h'.get? a = some q := let ⟨q, _, _, hq, _⟩ := hm'; ⟨q, hq⟩
  exact d_write I mu hs he (nd_ok hd (by have := putN_len kvs k y v; omega) (r.put k ry rv) hm')
theorem any_typeIs (I : Inv X pins σ H s) (g : AnyD X.prog X.w H a kvs) : s.TypeIs (.ref a) "dict" := by
  obtain ⟨_, _, _, xs, hm, _⟩ := anyD_dict I g
  exact hm.typeIs
/-- d[y], y in d, y not in d, d[y] = v for dicts of any kind -/
def tNGet (P : Program) (w : World) (td ty : TE) : TE := fun σ H Q => td σ H fun x H1 => ty σ H1 fun y H2 => ∃ a v, x = .ref a ∧ NGet P w H2 a y (some v) ∧ Q v H2
def tNIn (P : Program) (w : World) (ty td : TE) : TE := fun σ H Q => ty σ H fun y H1 => td σ H1 fun x H2 => ∃ a o, x = .ref a ∧ NGet P w H2 a y o ∧ Q (.bl o.isSome) H2
def tNNotIn (P : Program) (w : World) (ty td : TE) : TE := fun σ H Q => ty σ H fun y H1 => td σ H1 fun x H2 => ∃ a o, x = .ref a ∧ NGet P w H2 a y o ∧ Q (.bl (!o.isSome)) H2
def sNPut (P : Program) (w : World) (td ty tv : TE) : TS := fun D σ H => tv σ H fun v H1 => td σ H1 fun x H2 => ty σ H2 fun y H3 => ∃ a H4, x = .ref a ∧ NPut P w H3 a y v H4 ∧ D.nx σ H4
end
section
variable {X : Cx} {o i e value : Expr} {pos pos' tpos : Pos} {td ty tv : TE}
theorem pe_nget (hu : X.A.units + 64 < cLine) (ho : PE X o td) (hi : PE X i ty) (hs : NoSl i) : PE X (.Subscript o i pos) (tNGet X.prog X.w td ty) := by
  refine ⟨fun pins s σ H Q I h => ?_⟩
  refine subD_of PySem.F.slot_dict_getitem.lookup hs (thn (ho.run pins s σ H _ I h) fun u s1 ⟨x, H1, I1, rx, q1⟩ => thn (hi.run pins s1 σ H1 _ I1 q1) fun iv s2 ⟨y, H2, I2, ry, a, v, ex, g, q2⟩ => ?_)
  subst ex
  obtain rfl : u = Value.ref a := rx
  have ⟨kvs, k, g', _⟩ := g
  exact ⟨any_typeIs I2 g', n_getItem hu I2 g ry fun w' s3 I3 rw' => ⟨v, H2, I3, rw', q2⟩⟩
theorem pc_nin (hu : X.A.units + 64 < cLine) (hi : PE X i ty) (ho : PE X o td) : PC X .In i o (tNIn X.prog X.w ty td) := by
  refine ⟨fun pins s σ H Q I h => ?_⟩
  refine thn (hi.run pins s σ H _ I h) fun iv s1 ⟨y, H1, I1, ry, q1⟩ => thn (ho.run pins s1 σ H1 _ I1 q1) fun u s2 ⟨x, H2, I2, rx, a, ov, ex, g, q2⟩ => ?_
  subst ex
  obtain rfl : u = Value.ref a := rx
  exact n_in hu I2 g ry fun s3 I3 => ⟨.bl ov.isSome, H2, I3, rfl, q2⟩
theorem pc_nnotin (hu : X.A.units + 64 < cLine) (hi : PE X i ty) (ho : PE X o td) : PC X .NotIn i o (tNNotIn X.prog X.w ty td) := by
  refine ⟨fun pins s σ H Q I h => ?_⟩
  refine thn (hi.run pins s σ H _ I h) fun iv s1 ⟨y, H1, I1, ry, q1⟩ => thn (ho.run pins s1 σ H1 _ I1 q1) fun u s2 ⟨x, H2, I2, rx, a, ov, ex, g, q2⟩ => ?_
  subst ex
  obtain rfl : u = Value.ref a := rx
  exact n_notIn hu I2 g ry fun s3 I3 => ⟨.bl (!ov.isSome), H2, I3, rfl, q2⟩
theorem ps_nput (hu : X.A.units + 64 < cLine) (ho : PE X o td) (hi : PE X i ty) (hv : PE X value tv) (hs : swapsWith value (some (.Subscript o i pos')) pos.line X.env = pure false) :
    PS X (.Assign [.Subscript o i pos'] value pos) (sNPut X.prog X.w td ty tv) := by
  refine ⟨fun pins s σ H D I h => ?_⟩
  refine wpAny_Assign_Subscript (thn (hv.run pins s σ H _ I h) fun r s1 ⟨v, H1, I1, rv, q1⟩ => thn (ho.run pins s1 σ H1 _ I1 q1) fun u s2 ⟨x, H2, I2, rx, q2⟩ => thn (hi.run pins s2 σ H2 _ I2 q2) fun iv s3 ⟨y, H3, I3, ry, a, H4, ex, g, q3⟩ => ?_) hs
  subst ex
  obtain rfl : u = Value.ref a := rx
  exact n_setItem hu I3 g ry rv fun s4 I4 => ⟨σ, H4, I4, q3⟩
end
section
variable {X : Cx} {P : Program} {w : World} {o i e value : Expr} {pos pos' tpos : Pos} {td ty tv : TE}
theorem wN_get (hP : X.prog = P) (hw : X.w = w) (hu : X.A.units + 64 < cLine) (ho : PE X o td) (hi : PE X i ty) (hs : NoSl i) : PE X (.Subscript o i pos) (tNGet P w td ty) := by subst hP hw; exact pe_nget hu ho hi hs
theorem wN_in (hP : X.prog = P) (hw : X.w = w) (hu : X.A.units + 64 < cLine) (hi : PE X i ty) (ho : PE X o td) : PC X .In i o (tNIn P w ty td) := by subst hP hw; exact pc_nin hu hi ho
theorem wN_notin (hP : X.prog = P) (hw : X.w = w) (hu : X.A.units + 64 < cLine) (hi : PE X i ty) (ho : PE X o td) : PC X .NotIn i o (tNNotIn P w ty td) := by subst hP hw; exact pc_nnotin hu hi ho
theorem wN_put (hP : X.prog = P) (hw : X.w = w) (hu : X.A.units + 64 < cLine) (ho : PE X o td) (hi : PE X i ty) (hv : PE X value tv) (hs : swapsWith value (some (.Subscript o i pos')) pos.line X.env = pure false) : PS X (.Assign [.Subscript o i pos'] value pos) (sNPut P w td ty tv) := by subst hP hw; exact ps_nput hu ho hi hv hs
end
/-! ### len, isinstance, repr -/
section
variable {X : Cx}
def rLenN (P : Program) (w : World) : List V → Hp → VK → Prop := fun xs H Q => ∃ a kvs, xs = [.ref a] ∧ AnyD P w H a kvs ∧ Q (.int kvs.length) H
theorem cl_lenN : CallR X (.builtin "len") (rLenN X.prog X.w) := by
  intro pins s σ H xs us Q I r h
  obtain ⟨a, kvs, rfl, g, q⟩ := h
  cases Vals.ref1 r
  obtain ⟨hd, z, _, xs, hm, rel⟩ := anyD_dict I g
  obtain ⟨o, es, ep, h1, h2, h3, e⟩ := id hm
  have lx : kvs.length = xs.length := Paired.length rel
  have sz : es.size = kvs.length := by rw [e.size, lx]
  have fit : (kvs.length : Int) < 2 ^ 63 := by rw [sizeLine_eq] at z; omega
  refine Calls.call_function_entry PySem.kind_len PySem.plain_len PySem.entry_len (PySem.args_len1 _) ?_
  unfold Builtin.«len»
  refine wpAny_bind (m := oneArg "len" _) (wpAny_pure ?_)
  refine wpAny_bind (m := callSpecial? (.ref a) (Str.ofString "__len__")) (wpAny_callSpecial?_slot (name := Str.ofString "__len__") hm.typeIs PySem.F.slot_dict_len (call_len_raw hd ⟨o, h1, h2, h3⟩ ?_))
  refine wpAny_bind (wpAny_holding (wpAny_pure ?_))
  refine wpAny_bind (wpAny_letGo ?_)
  rw [sz]
  show wpAny _ _ (if ((kvs.length : Nat) : Int) < 0 then _ else _) _ _ _
  rw [if_neg (by omega)]
  show wpAny _ _ (if ((kvs.length : Nat) : Int) ≥ 2 ^ 63 then _ else _) _ _ _
  rw [if_neg (by omega)]
  exact wpAny_bind (wpAny_mkInt (wpAny_pure ⟨_, rfl, .int kvs.length, H, (I.tok _).tok _, ⟨_, rfl⟩, q⟩))
/-- isinstance, the thing a dict of any kind or else what can be told -/
def rIsiN (P : Program) (w : World) (K : PySem.W.Frag) : List V → Hp → VK → Prop := fun xs H Q => rIsi K xs H Q ∨ ∃ a kvs c u b, xs = [.ref a, c] ∧ ClsV c u ∧ AnyD P w H a kvs ∧ PySem.W.kitOne K (.type "dict") u = some b ∧ Q (.bl b) H
theorem call_isiN : CallR X (.builtin "isinstance") (rIsiN X.prog X.w X.K) := by
  intro pins s σ H xs us Q I r h
  rcases h with h | ⟨a, kvs, c, u, b, rfl, k, g, e, q⟩
  · exact call_isi pins s σ H xs us Q I r h
  · obtain ⟨u1, u2, rfl, r1, r2⟩ := vals2 r
    have e2 := k.eq r2
    subst e2
    cases (show u1 = Value.ref a from r1)
    obtain ⟨_, _, _, xs, ⟨o, es, ep, h1, h2, h3, _⟩, _⟩ := anyD_dict I g
    exact PySem.W.kia_one PySem.W.kitx_dict I.kIn ⟨o, h1, h2.1⟩ e (fun z => nomatch z) fun tk => ⟨.bl b, H, I.tok tk, rfl, q⟩
end
end L2
namespace ReR
open PySem PySem.Spec PyProof.Rows L2
/-- the keys and the values as data -/
def DpP (H : Hp) (kvs : KVN) (ds : List (PyData × PyData)) : Prop := Paired (fun (kv : NestedKey × V × V) (d : PyData × PyData) => DpD H kv.2.1 d.1 ∧ DpD H kv.2.2 d.2) kvs ds
mutual
/-- data that may hold dicts of any kind -/
inductive DpN (P : Program) (w : World) (H : Hp) : V → PyData → Prop
  | base {v : V} {d : PyData} : DpD H v d → DpN P w H v d
  | lst {a : Addr} {xs : List V} {ds : List PyData} : H a = some (.lst xs) → DpNs P w H xs ds → DpN P w H (.ref a) (.list ds)
  | dic {a : Addr} {kvs : KVN} {ds : List (PyData × PyData)} : AnyD P w H a kvs → DpP H kvs ds → DpN P w H (.ref a) (.dict ds)
inductive DpNs (P : Program) (w : World) (H : Hp) : List V → List PyData → Prop
  | nil : DpNs P w H [] []
  | cons {v : V} {vs : List V} {d : PyData} {ds : List PyData} : DpN P w H v d → DpNs P w H vs ds → DpNs P w H (v :: vs) (d :: ds)
end
section
variable {X : Cx} {pins : List (Addr × Obj)} {σ : L2.St} {H : Hp} {s : Shared}
theorem DpP.reads (hb : SysIs X.base) (I : Inv X pins σ H s) {kvs : KVN} {ds : List (PyData × PyData)} {xs : List NK.En} (h : DpP H kvs ds) (r : RelN kvs xs) :
    ∃ as bs, ReadsAll s.heap ((xs.map (NK.ent X.w)).map (·.key)) (ds.map (·.1)) as ∧ ReadsAll s.heap ((xs.map (NK.ent X.w)).map (·.val)) (ds.map (·.2)) bs ∧ sysModules ∉ as ∧ sysModules ∉ bs := by
  unfold DpP at h
  induction h generalizing xs with
  | nil =>
    cases r
    exact ⟨_, _, .nil, .nil, List.not_mem_nil, List.not_mem_nil⟩
  | cons h t ih =>
    cases r with
    | cons r1 r2 =>
      obtain ⟨as, bs, q2, q3, n2, n3⟩ := ih r2
      obtain ⟨cs, q1, n1⟩ := h.1.reads hb I r1.2.1
      obtain ⟨es, q4, n4⟩ := h.2.reads hb I r1.2.2
      exact ⟨_, _, .cons q1 q2, .cons q4 q3, fun m => (List.mem_append.mp m).elim n1 n2, fun m => (List.mem_append.mp m).elim n4 n3⟩
mutual
theorem DpN.reads (hb : SysIs X.base) (I : Inv X pins σ H s) : ∀ {v : V} {d : PyData} {u : Value}, DpN X.prog X.w H v d → RelV v u → ∃ as, Reads s.heap u d as ∧ sysModules ∉ as
  | _, _, _, .base h, r => h.reads hb I r
  | _, _, u, .lst (a := a) (xs := xs) e h, r => by
    cases (show u = Value.ref a from r)
    obtain ⟨z, its, n, rv, g⟩ : xs.length ≤ sizeLine ∧ ∃ (its : List Value) (n : Nat), Vals xs its ∧ s.heap.get? a = some { cls := .type "list", data := .seq its.toArray n } := I.hok _ _ e
    obtain ⟨as, q, ns⟩ := h.reads hb I rv
    have na := no_sys hb I (a := a) (by rw [e]; exact fun z => nomatch z)
    exact ⟨_, .list g rfl rfl (by simpa using q), fun m => (List.mem_cons.mp m).elim (fun z => na z.symm) ns⟩
  | _, _, u, .dic (a := a) (kvs := kvs) g h, r => by
    cases (show u = Value.ref a from r)
    obtain ⟨hS, _, _, xs, ⟨o, es, ep, h1, h2, h3, e⟩, rel⟩ := anyD_dict I g
    obtain ⟨as, bs, q1, q2, n1, n2⟩ := h.reads hb I rel
    rw [← e.lay] at q1 q2
    exact ⟨_, .dict h1 h2.1 h3 q1 q2, fun m => (List.mem_append.mp m).elim (fun m => (List.mem_cons.mp m).elim (fun z => (beq_eq_false_iff_ne.mp hS) z.symm) n1) n2⟩
theorem DpNs.reads (hb : SysIs X.base) (I : Inv X pins σ H s) : ∀ {v : List V} {d : List PyData} {u : List Value}, DpNs X.prog X.w H v d → Vals v u → ∃ as, ReadsAll s.heap u d as ∧ sysModules ∉ as
  | _, _, _, .nil, r => by
    cases r
    exact ⟨_, .nil, List.not_mem_nil⟩
  | _, _, _, .cons h hs, r => by
    cases r with
    | cons r1 r2 =>
      obtain ⟨as, q1, n1⟩ := h.reads hb I r1
      obtain ⟨bs, q2, n2⟩ := hs.reads hb I r2
      exact ⟨_, .cons q1 q2, fun m => (List.mem_append.mp m).elim n1 n2⟩
end
end
def rReprN (P : Program) (w : World) : List V → Hp → VK → Prop := fun xs H Q => ∃ v d, xs = [v] ∧ DpN P w H v d ∧ okD d ∧ Q (.str d.shown) H
theorem cr_reprN {X : Cx} (hg : X.A.guards = some []) (hu : X.A.units + 64 < cLine) (hb : SysIs X.base) : CallR X (.builtin "repr") (rReprN X.prog X.w) := by
  intro pins s σ H xs us Q I r h
  obtain ⟨v, d, rfl, hd, ok, q⟩ := h
  obtain ⟨u, rfl, ru⟩ := vals1 r
  obtain ⟨as, rd, ns⟩ := hd.reads hb I ru
  have hl := ok.len
  cases rd with
  | none => exact PySem.P.repr_of_none ⟨.str _, H, I.tok _, ⟨_, rfl⟩, q⟩
  | bool b => exact PySem.P.repr_of_bool ⟨.str _, H, I.tok _, ⟨_, rfl⟩, q⟩
  | int i t => exact PySem.P.repr_of_int (by simpa [PyData.showable] using ok.1) ⟨.str _, H, I.tok _, ⟨_, rfl⟩, q⟩
  | str x t => exact PySem.P.repr_of_str ⟨.str _, H, I.tok _, ⟨_, rfl⟩, q⟩ (by simpa only [PyData.shown] using hl)
  | list h1 h2 h3 h4 => exact repr_of_reads' (.list h1 h2 h3 h4) ok.1 (fun _ => ns) hg (by have := ok.2.1; omega) (fun _ _ e => e) (fun h' u tk hk => ⟨.str _, H, I.kept hk, ⟨_, rfl⟩, q⟩) hl
  | tuple h1 h2 h3 h4 => exact repr_of_reads' (.tuple h1 h2 h3 h4) ok.1 (fun _ => ns) hg (by have := ok.2.1; omega) (fun _ _ e => e) (fun h' u tk hk => ⟨.str _, H, I.kept hk, ⟨_, rfl⟩, q⟩) hl
  | dict h1 h2 h3 h4 h5 => exact repr_of_reads' (.dict h1 h2 h3 h4 h5) ok.1 (fun _ => ns) hg (by have := ok.2.1; omega) (fun _ _ e => e) (fun h' u tk hk => ⟨.str _, H, I.kept hk, ⟨_, rfl⟩, q⟩) hl
end ReR

set_option Elab.async false
set_option linter.all false
set_option maxRecDepth 100000
set_option maxHeartbeats 4000000
/-! dicts of any kind: what gen.py prints -/
namespace L2
open PySem PySem.Spec PyProof.Rows
section
variable {X : Cx} {P : Program} {w : World} {K : PySem.W.Frag}
theorem wN_isi (hP : X.prog = P) (hw : X.w = w) (hK : X.K = K) : CallR X (.builtin "isinstance") (rIsiN P w K) := by subst hP hw hK; exact call_isiN
theorem wN_len (hP : X.prog = P) (hw : X.w = w) : CallR X (.builtin "len") (rLenN P w) := by subst hP hw; exact cl_lenN
theorem wN_repr (hP : X.prog = P) (hw : X.w = w) (hg : X.A.guards = some []) (hu : X.A.units + 64 < cLine) (hb : ReR.SysIs X.base) : CallR X (.builtin "repr") (ReR.rReprN P w) := by subst hP hw; exact ReR.cr_reprN hg hu hb
end
theorem n_put {P : Program} {w : World} {td ty tv : TE} {D : Ends} {σ : L2.St} {H : Hp} (k : tv σ H fun v H1 => td σ H1 fun x H2 => ty σ H2 fun y H3 => ∃ a H4, x = .ref a ∧ NPut P w H3 a y v H4 ∧ D.nx σ H4) : sNPut P w td ty tv D σ H := k
theorem n_notin {P : Program} {w : World} {td ty : TE} {σ : L2.St} {H : Hp} {Q : VK} (k : ty σ H fun y H1 => td σ H1 fun x H2 => ∃ a o, x = .ref a ∧ NGet P w H2 a y o ∧ Q (.bl (!o.isSome)) H2) : tNNotIn P w ty td σ H Q := k
theorem n_inn {P : Program} {w : World} {td ty : TE} {σ : L2.St} {H : Hp} {Q : VK} (k : ty σ H fun y H1 => td σ H1 fun x H2 => ∃ a o, x = .ref a ∧ NGet P w H2 a y o ∧ Q (.bl o.isSome) H2) : tNIn P w ty td σ H Q := k
theorem n_get {P : Program} {w : World} {td ty : TE} {σ : L2.St} {H : Hp} {Q : VK} (k : td σ H fun x H1 => ty σ H1 fun y H2 => ∃ a v, x = .ref a ∧ NGet P w H2 a y (some v) ∧ Q v H2) : tNGet P w td ty σ H Q := k
/-- what is told stays: every fact of the heap but those of lists and dicts that are written -/
def Ext (A B : Hp) : Prop := ∀ b o, A b = some o → B b = some o
/-- what is told stays, though dicts may have been locked -/
structure ExtR (A B : Hp) : Prop where
  lst : ∀ a xs, A a = some (.lst xs) → B a = some (.lst xs)
  tup : ∀ a xs, A a = some (.tup xs) → B a = some (.tup xs)
  dK : ∀ a kk, Rd A a (.dK kk) → Rd B a (.dK kk)
  ext : ∀ a f, Rd A a (.ext f) → Rd B a (.ext f)
theorem Ext.r {A B : Hp} (e : Ext A B) : ExtR A B :=
  ⟨fun _ _ h => e _ _ h, fun _ _ h => e _ _ h, fun _ _ h => h.imp (e _ _) fun ⟨u, h⟩ => ⟨u, e _ _ h⟩, fun _ _ h => h.imp (e _ _) fun ⟨u, h⟩ => ⟨u, e _ _ h⟩⟩
theorem ExtR.trans {A B C : Hp} (e : ExtR A B) (f : ExtR B C) : ExtR A C :=
  ⟨fun _ _ h => f.lst _ _ (e.lst _ _ h), fun _ _ h => f.tup _ _ (e.tup _ _ h), fun _ _ h => f.dK _ _ (e.dK _ _ h), fun _ _ h => f.ext _ _ (e.ext _ _ h)⟩
theorem ExtR.lock {A B : Hp} {d : Addr} {kvs : List (Key × V)} {od : Obj} (h : Rd A d (.dK kvs)) (e : B d = some (.frz od (.dK kvs))) (ne : ∀ b, b ≠ d → B b = A b) : ExtR A B := by
  have n1 : ∀ {a o}, A a = some o → (∀ kk, o ≠ .dK kk) → (∀ u kk, o ≠ .frz u (.dK kk)) → a ≠ d := fun q x y z => by
    rw [z] at q
    rcases h with h | ⟨u, h⟩
    · rw [h] at q; cases q; exact x _ rfl
    · rw [h] at q; cases q; exact y _ _ rfl
  refine ⟨fun a xs q => ?_, fun a xs q => ?_, fun a kk q => ?_, fun a f q => ?_⟩
  · rw [ne a (n1 q (fun _ z => nomatch z) fun _ _ z => nomatch z)]; exact q
  · rw [ne a (n1 q (fun _ z => nomatch z) fun _ _ z => nomatch z)]; exact q
  · by_cases z : a = d
    · subst z
      have : kk = kvs := by
        rcases h with h | ⟨u, h⟩ <;> rcases q with q | ⟨u2, q⟩ <;> rw [h] at q <;> cases q <;> rfl
      subst this
      exact .inr ⟨od, e⟩
    · unfold Rd
      rw [ne a z]
      exact q
  · have z : a ≠ d := by
      rcases q with q | ⟨u, q⟩
      · exact n1 q (fun _ z => nomatch z) fun _ _ z => nomatch z
      · exact n1 q (fun _ z => nomatch z) fun _ _ z => nomatch z
    unfold Rd
    rw [ne a z]
    exact q
theorem AnyD.mono {P : Program} {w : World} {A B : Hp} {a : Addr} {kvs : KVN} (e : ExtR A B) (h : AnyD P w A a kvs) : AnyD P w B a kvs := by
  rcases h with ⟨h1, h2⟩ | ⟨kk, h1, h2⟩
  · exact .inl ⟨e.ext _ _ h1, h2.mono e.tup⟩
  · exact .inr ⟨kk, e.dK _ _ h1, h2⟩
theorem paired_rel {α β : Type} {R S : α → β → Prop} (h : ∀ a b, R a b → S a b) : ∀ {xs : List α} {ys : List β}, Paired R xs ys → Paired S xs ys
  | [], [], .nil => .nil
  | _ :: _, _ :: _, .cons a r => .cons (h _ _ a) (paired_rel h r)
end L2
namespace ReR
open PySem PySem.Spec PyProof.Rows L2
section
variable {A B : Hp}
mutual
theorem DpD.monoR (e : ExtR A B) : ∀ {v : V} {d : PyData}, DpD A v d → DpD B v d
  | _, _, .non => .non
  | _, _, .bl b => .bl b
  | _, _, .int i => .int i
  | _, _, .str x => .str x
  | _, _, .lst h r => .lst (e.lst _ _ h) (r.monoR e)
  | _, _, .tup h r => .tup (e.tup _ _ h) (r.monoR e)
  | _, _, .dic h r => .dic (e.dK _ _ h) (r.monoR e)
theorem DpDs.monoR (e : ExtR A B) : ∀ {v : List V} {d : List PyData}, DpDs A v d → DpDs B v d
  | _, _, .nil => .nil
  | _, _, .cons h r => .cons (h.monoR e) (r.monoR e)
theorem DpDk.monoR (e : ExtR A B) : ∀ {v : List (Key × V)} {d : List (PyData × PyData)}, DpDk A v d → DpDk B v d
  | _, _, .nil => .nil
  | _, _, .cons h r => .cons (h.monoR e) (r.monoR e)
end
end
theorem DpP.mono {A B : Hp} (e : ExtR A B) {kvs : KVN} {ds : List (PyData × PyData)} (h : DpP A kvs ds) : DpP B kvs ds := paired_rel (fun _ _ h => ⟨h.1.monoR e, h.2.monoR e⟩) h
/-- a thing of which all is told: data, or a dict whose keys are any nested keys -/
inductive Thg (P : Program) (w : World) (H : Hp) : V → PyData → Option KVN → Prop
  | odd {v : V} {d : PyData} : DpD H v d → (∀ ds, d ≠ .dict ds) → Thg P w H v d none
  | dic {a : Addr} {kvs : KVN} {ds : List (PyData × PyData)} : AnyD P w H a kvs → DpP H kvs ds → Thg P w H (.ref a) (.dict ds) (some kvs)
theorem Thg.mono {P : Program} {w : World} {A B : Hp} {v : V} {d : PyData} {o : Option KVN} (e : ExtR A B) (h : Thg P w A v d o) : Thg P w B v d o := by
  cases h with
  | odd h n => exact .odd (h.monoR e) n
  | dic h1 h2 => exact .dic (h1.mono e) (h2.mono e)
theorem Thg.dn {P : Program} {w : World} {H : Hp} {v : V} {d : PyData} {o : Option KVN} (h : Thg P w H v d o) : DpN P w H v d := by
  cases h with
  | odd h n => exact .base h
  | dic h1 h2 => exact .dic h1 h2
end ReR

set_option Elab.async false
set_option linter.all false
set_option maxRecDepth 100000
set_option maxHeartbeats 2000000
/-! own errors whose __init__ says super().__init__('..') and keeps one field -/
namespace SupX
open PySem PySem.Spec PyProof.Rows L2 NdefX PySem.W PySem.Calls
/-! ### the text of such an __init__ -/
def sA (fld : Str) (p1 p2 : Pos) : Arguments := { posonlyargs := [], args := [{ arg := "self", annotation := none, pos := p1 }, { arg := fld, annotation := none, pos := p2 }], vararg := none, kwonlyargs := [], kw_defaults := [], kwarg := none, defaults := [] }
def sB (fld msg : Str) (k : Nat) (q1 q2 q3 q4 q5 q6 q7 q8 q9 q10 : Pos) : List Stmt :=
  [.Expr (.Call (.Attribute (.Call (.Name "super" q1) [] [] q2) "__init__" q3) [.Constant (.str msg) k q4] [] q5) q6, .Assign [.Attribute (.Name "self" q7) fld q8] (.Name fld q9) q10]
def sS (fld : Str) : Scope := { kind := .function, names := [("self", .local), (fld, .local), ("__class__", .free), ("super", .globalImplicit)], isGenerator := false, isCoroutine := false, more := [] }
theorem sup_eval (env : Env) {msg : Str} {k : Nat} {q1 q2 q3 q4 q5 : Pos} (hq : (q3.endLine == q5.line) = true) :
    eval (.Call (.Attribute (.Call (.Name "super" q1) [] [] q2) "__init__" q3) [.Constant (.str msg) k q4] [] q5) env = (do
      let ov ← attributeBase (.Call (.Name "super" q1) [] [] q2) "__init__" env (eval (.Call (.Name "super" q1) [] [] q2) env)
      standAt q3.atName
      let (f, first) ← holding [ov] (getMethod ov "__init__" (do return (← importBound (.Call (.Name "super" q1) [] [] q2) env).getD true))
      callWith q5 f first (backTo q5 (starEach [.Constant (.str msg) k q4] env)) []) := by
  show (do
      let ov ← attributeBase (.Call (.Name "super" q1) [] [] q2) "__init__" env (eval (.Call (.Name "super" q1) [] [] q2) env)
      standAt q3.atName
      methodCall (.Call (.Name "super" q1) [] [] q2) "__init__" q3 q5 env ov 1 (backTo q5 (starEach [.Constant (.str msg) k q4] env)) []) = _
  unfold methodCall calleeOf methodCallPos
  have f : methodCallForm 1 (backTo q5 (starEach [.Constant (.str msg) k q4] env)) [] = true := rfl
  simp only [f, hq, if_true, Bool.not_true, Bool.false_or, pure_bind]
/-- what is asked of the program -/
class PX (P : Program) : Prop where
  top : (P.main.scope.names.lookup ("super" : Str)).isSome = false
  file : P.main.file = "/claim/cut.py"
/-- what the written part says of the class at C, and of its __init__ at fI -/
structure SupTxt (K : Frag) (mg : Str → Option Value) (C fI : Addr) (fd : FuncData) (qual fld : Str) : Prop where
  oex : OexC K C
  xf : XfC K C
  noN : findIn K (.ref C) fld = some none
  iC : findIn K (.ref C) "__init__" = some (some (.ref fI))
  tI : typeIn K (.ref fI) = some (.type "function")
  sup : ks_superIn K C C "__init__" = some (some (.builtin "ValueError.__init__"))
  mro : mroIn K C (.ref C) = some true
  sub : subIn K (.ref C) (.type "ValueError") = some true
  nsu : mg "super" = none
  bnd : Binds K fd ["self", fld] []
  any : nsIn K cStatics "thirdparty.any" = some none
  sc : NScope ["self", fld, "__class__"] ["self", fld] ["__class__"] (sS fld)
  d1 : (fld == ("__debug__" : Str)) = false
  d2 : (fld == ("__classdict__" : Str)) = false
  scs : (sS fld).names.lookup ("super" : Str) = some .globalImplicit
  fn : ∃ (oc : Value) (od : Option Addr) (dV kV doc pm : Value) (an : Option Addr) (cda cc : Addr) (ct : Value) (osl : Array (Option Value)) (p1 p2 : Pos) (msg : Str) (k : Nat) (q1 q2 q3 q4 q5 q6 q7 q8 q9 q10 : Pos),
    fd = ksFn "__init__" qual (sA fld p1 p2) (sB fld msg k q1 q2 q3 q4 q5 q6 q7 q8 q9 q10) (sS fld) dV kV doc pm an (.ref cda) ct cc ∧ (q3.endLine == q5.line) = true ∧ K.lookup fI = some ⟨oc, od, .func fd, osl⟩ ∧ codeIn K (.ref cda) qual = true ∧
    (∃ (cl : Value) (cld : Option Addr) (csl : Array (Option Value)), K.lookup cc = some ⟨cl, cld, .cell (some (.ref C)), csl⟩) ∧
    ∃ (cl : Value) (cld : Option Addr) (csl : Array (Option Value)) (vs : Array Value) (tf : Tok), K.lookup cda = some ⟨cl, cld, .fields vs, csl⟩ ∧ vs[2]? = some (.str "/claim/cut.py" tf)
/-- what such an __init__ promises -/
def spSup (C : Addr) (fld : Str) : Sp := fun vs H Q _ => ∃ (a : Addr) (v : V), vs = [.ref a, v] ∧ H a = some (exo a C none) ∧ ∀ dx, H dx = none → dx ≠ a → Q .non (upd (upd H dx (exd dx [(fld, v)])) a (exo a C (some dx)))
section
variable {P : Program} {w : World} {A : Around} {E : Value → Shared → Prop} {hp : Heap} {g : Array GenState} {d : Drawn} {t : Nat} {os : OsState}
/-- the bound built-in __init__ called: the error's args are laid anew -/
theorem bw_call {nm q : Str} {C N u x t0 : Addr} {bs bm : List Value} {hdct : Bool} {sn : List Str} {sub : List Value} {ab : Bool} {col : Option Bool} {dd : Option Addr} {k0 k1 k2 k3 k5 : Option Value} {us : List Value} {Q : Value → Shared → Prop}
    (hC : hp.get? C = some (excClassObj nm q C N bs bm hdct sn sub ab col dd k0 k1 k2 k3 k5 "ValueError.__new__")) (hx : hp.get? x = some (PySem.HandSPX.excO C t0)) (hu : hp.get? u = some (kxs_mw "ValueError.__init__" x)) (hz : us.length ≤ sizeLine)
    (h : ∀ h' t1, (∀ b o, b ≠ x → hp.get? b = some o → h'.get? b = some o) → h'.get? x = some (PySem.HandSPX.excO C t1) → Q .none ⟨h', g, d, t, os⟩) : wpAny (model P w) A (call (.ref u) us) Q E ⟨hp, g, d, t, os⟩ := by
  have isMw : (Value.type "method-wrapper" == Value.type "method" || Value.type "method-wrapper" == Value.type "builtin_function_or_method" || Value.type "method-wrapper" == Value.type "method-wrapper") = true := by decide
  refine wpAny_call (codeAny_of_tree ?_)
  show wpAny _ A.in1 (callAny (.ref u) ⟨us, []⟩) _ _ _
  simp only [callAny]
  refine wpAny_bind (wpAny_load hu ?_)
  simp only [kxs_mw, isMw, if_true]
  refine KFB.if_so (by decide) (wpAny_bind (check_bound_init F.excBase_ValueError.toExcCallFacts hC hx rfl (wpAny_bind (wpAny_pure (wpAny_pure ?_)))))
  exact ⟨plainId_quiet F.excBase_ValueError.init.plain _, codeAny_builtin F.excBase_ValueError.initEntry (exc_init_tree (cls := .ref C) (t0 := t0) (dv := none) (c2 := .none) (c3 := .none) (b4 := .bool false) hx hz fun h' k e _ => h h' _ k e)⟩
end
section
variable {P : Program} {w : World} {K : Frag} {mg : Str → Option Value} {base : Heap} {CX : CXT} {C fI : Addr} {fd : FuncData} {qual fld : Str}
theorem sup_ok [px : PX P] (T : SupTxt K mg C fI fd qual fld) : FnOk P w K mg base CX 1 fI fd ["self", fld] (spSup C fld) := by
  refine ⟨fun vs H Q E h => ?_, fun A outer s H args us vs Q E hr e0 hb r h => ?_⟩
  · obtain ⟨a, v, rfl, _⟩ := h
    rfl
  obtain ⟨oc, od, dV, kV, doc, pm, an, cda, cc, ct, osl, p1, p2, msg, k, q1, q2, q3, q4, q5, q6, q7, q8, q9, q10, rfl, hln, hfI, hcd, ⟨cl1, cld1, csl1, hcc⟩, cl2, cld2, csl2, fv, tf, hcda, hfv⟩ := T.fn
  have hfile : ((P.main.file : Str) == "/claim/cut.py") = true := by rw [px.file]; decide +kernel
  have kin : K.In s.heap := e0.mod.kin.keeps fun b o e => (e0.bs b o e).1
  have lim : s.heap.NoLimit := e0.mod.nolimit.keeps fun b o e => (e0.bs b o e).1
  let NFm : NF := ⟨"__init__", qual, sA fld p1 p2, sB fld msg k q1 q2 q3 q4 q5 q6 q7 q8 q9 q10, sS fld, [("__class__", cc)], cda⟩
  refine ks_codeAny_call_defAt hr.depth (kin _ _ hfI) rfl lim (codeRec_of kin hcd) rfl hb T.sc.nocell (fun y hy => T.sc.par _ (List.of_mem_zip hy).1) (fun h₁ hns kp => ?_) rfl rfl rfl
  obtain ⟨a, v, rfl, ea, hq⟩ := h
  cases r with
  | @cons _ u0 _ ur ra rr =>
  obtain rfl : u0 = Value.ref a := ra
  cases rr with
  | @cons _ u1 _ ur' rv rn =>
  cases rn
  have hcell : s.heap.IsCell cc (some (.ref C)) := ⟨_, kin _ _ hcc, rfl⟩
  have ncc : H cc = none := (e0.bs cc _ (e0.mod.kin _ _ hcc)).2
  have CA : CellsAt NFm.cl ["__class__"] [some (V.ref C)] s.heap H := by
    refine ⟨rfl, fun y c e => ?_, fun x y c e1 e2 => ?_, fun i y e => ?_⟩
    · have z := PySem.mem_of_lookup e
      cases List.mem_singleton.mp z
      exact ⟨ncc, _, hcell⟩
    · have z1 := PySem.mem_of_lookup e1
      have z2 := PySem.mem_of_lookup e2
      cases List.mem_singleton.mp z1
      cases List.mem_singleton.mp z2
      rfl
    · cases i with
      | zero =>
        cases e
        exact ⟨cc, rfl, fun w e => by cases e; exact ⟨_, rfl, hcell⟩⟩
      | succ i => cases e
  have I : L2.Inv (ncx CX P w K mg base [("self" : Str), fld, "__class__"] NFm fI A outer s H E) [] (startF [("self" : Str), fld, "__class__"] [V.ref a, v] [some (V.ref C)]) H { s with heap := h₁, toks := s.toks + ([("self" : Str), fld].zip [Value.ref a, u1]).length } :=
    inv_startN T.sc hr.hd e0 rfl (.cons (show L2.RelV (.ref a) (.ref a) from rfl) (.cons rv .nil)) CA hns kp
  have kin1 : K.In h₁ := kin.keeps kp
  obtain ⟨nm, q, N, bs, bm, sn, sub, ab, col, dd, k0, k1, k2, k3, k5, hC, hbm⟩ := T.oex.cls
  have hcl : clsIn K C = some { name := nm, bases := bs, mro := .ref C :: bm, ns := N, qualname := q, hasDict := true, slotNames := sn, subclasses := sub, abstract := ab, collection := col, hasDel := false } := by unfold clsIn; rw [hC] <;> rfl
  have hself : ([("self" : Str), fld].zip [Value.ref a, u1]).reverse.lookup ("self" : Str) = some (.ref a) := by
    have nd : (["self", fld] : List Str).Nodup := by
      have q := T.sc.nd.sublist (List.take_sublist 2 _)
      exact q
    exact zip_look (i := 0) nd rfl rfl
  obtain ⟨t1, hx1⟩ := exo_at I.hok ea
  have gl1 := I.mod.glob.keeps I.bk
  obtain ⟨mb, hb1, hb2⟩ := I.mod.blt
  refine ks_wpAt_execs_cons (ks_wpAt_Expr_any (ks_wpAt_MethodCall (he := sup_eval _ hln) (ks_wpAt_super_base (f := fI) (cc := cda) (ar := { arg := "self", annotation := none, pos := p1 }) T.scs (T.sc.frk _ List.mem_cons_self) (by decide) rfl (kin1 _ _ hfI) rfl rfl rfl (kin1 _ _ hcda) rfl hfv hfile px.top ?_)))
  refine ks_loadName_global rfl T.scs (loadGlobal_builtin gl1 T.nsu (hb1.keeps I.bk) ((hb2 _ (by decide)).trans (by decide +kernel)) ⟨rfl, ?_⟩)
  refine wpAny_loadName_free rfl (T.sc.frk _ List.mem_cons_self) rfl ⟨_, kin1 _ _ hcc, rfl⟩ ?_
  refine wpAny_loadName_local rfl (T.sc.par _ List.mem_cons_self) hns hself ?_
  obtain ⟨oC, hoC, hdC⟩ : ∃ oC, h₁.get? C = some oC ∧ oC.data = .cls _ := ⟨_, kin1 _ _ hC, rfl⟩
  refine ks_wpAny_isType_cls hoC hdC ⟨rfl, ?_⟩
  refine ks_wpAny_call_super hoC hdC hx1 rfl (fun c z => by cases z) (looks_mroIn kin1 T.mro) (fun h2 so2 kp2 => ?_)
  have kin2 := kin1.keeps kp2
  have hx2 := kp2 _ _ hx1
  have IA : InstAt h2 a (PySem.HandSPX.excO C t1) C none := ⟨hx2, rfl, rfl, trivial⟩
  refine kxs_getMethod kxs_ValueError so2 (looks_opaque kin2 T.any) (l₀ := .ref C :: bm) (fun A Q E s k q => wpAny_bind ((looks_clsIn kin2 hcl) A _ E s k (wpAny_pure q))) rfl kin2 (by
    have z := T.sup
    unfold ks_superIn at z
    rw [hcl] at z
    exact z) (IA.type.andThen (looks_subIn kin2 T.sub)) (ks_ne kin2 IA hcl) (by decide) ?_
  have kp3 : ∀ b o, h₁.get? b = some o → (h2.push (kxs_mw "ValueError.__init__" a)).get? b = some o := fun b o e => Heap.get?_push_of_some _ (kp2 b o e)
  have I2 := I.kept (h' := h2.push (kxs_mw "ValueError.__init__" a)) (t' := s.toks + ([("self" : Str), fld].zip [Value.ref a, u1]).length + 1) kp3
  have sz : h₁.objs.size ≤ h2.objs.size := Nat.le_of_lt (Heap.lt_size so2)
  have I3 : L2.Inv (ncx CX P w K mg base [("self" : Str), fld, "__class__"] NFm fI A outer s H E) [(h2.objs.size, kxs_mw "ValueError.__init__" a)] (startF [("self" : Str), fld, "__class__"] [V.ref a, v] [some (V.ref C)]) H ⟨h2.push (kxs_mw "ValueError.__init__" a), s.gens, s.drawn, s.toks + ([("self" : Str), fld].zip [Value.ref a, u1]).length + 1, s.os⟩ := by
    refine I2.pins_of fun p hp => ?_
    cases List.mem_singleton.mp hp
    exact ⟨Heap.get?_push_size _ rfl, I.hok.fresh sz, fun z => absurd (Nat.lt_of_lt_of_le I.lt sz) (by rw [← z]; exact Nat.lt_irrefl _), I.nofs sz, fun v z => by cases z⟩
  refine kxs_callWith (i := "ValueError.__init__") (x := a) rfl (evalArgs_plain ?_)
  refine wpAny_mono ((pa_cons (X := ncx CX P w K mg base [("self" : Str), fld, "__class__"] NFm fI A outer s H E) (pe_str (x := msg) (j := k) (pos := q4)) pa_nil).run q5 _ _ _ H (fun vs H1 => vs = [.str msg] ∧ H1 = H) I3 ⟨rfl, rfl⟩) (fun us s1 h1 => ?_) fun e s' he => he
  obtain ⟨vs1, H1, I4, r1, rfl, rfl⟩ := h1
  obtain ⟨pin1, _⟩ := I4.pin _ (List.mem_append_right _ List.mem_cons_self)
  refine ⟨pin1, ?_⟩
  obtain ⟨t4, hx4⟩ := exo_at I4.hok ea
  have kin4 : K.In s1.heap := I4.kIn
  obtain ⟨hp4, g4, d4, tk4, os4⟩ := s1
  refine bw_call (kin4 _ _ hC) hx4 pin1 (by show us.length ≤ sizeLine; rw [← r1.length, sizeLine_eq]; exact (by decide : 1 ≤ 16777216)) fun h5 t5 k5 hx5 => ?_
  have J := I4.write (t' := tk4) (x := a) (e := a) (o := exo a C none) (by rw [ea]; exact True.intro) (.inl rfl) k5 ⟨_, hx5⟩ (exo_ok hx5)
  have eu : upd H1 a (exo a C none) = H1 := by
    funext b
    by_cases hb : b = a
    · rw [hb, upd_same, ea]
    · rw [upd_ne hb]
  rw [eu] at J
  have J0 := J.pins_of (pins' := []) fun p hp => absurd hp (by simp)
  have vis : ∀ x, x ∈ [("self" : Str), fld] → Vis (sS fld) x := fun x hx => .inl (T.sc.par x hx)
  refine wpAt_of_wpAny ?_
  refine wpAny_mono ((pss_one (ps_ost (X := ncx CX P w K mg base [("self" : Str), fld, "__class__"] NFm fI A outer s H1 E) (p' := q8) (pos := q10) (pe_var (i := 0) (pos := q7) rfl (vis _ List.mem_cons_self)) (pe_var (i := 1) (pos := q9) rfl (vis _ (List.mem_cons_of_mem _ List.mem_cons_self)) T.d1 T.d2))).run [] _ _ H1 { nx := fun _ H' => Q .non H', rt := Q } J0 ⟨_, rfl, _, rfl, a, C, rfl, T.oex, T.noN, .inl ⟨ea, fun dx n ne => hq dx n ne⟩⟩) (fun fl s' hs => ?_) fun e s' he => he
  have fin : ∀ {σ' : L2.St} {H' : Hp} {v' : V} {u : Value}, L2.Inv (ncx CX P w K mg base [("self" : Str), fld, "__class__"] NFm fI A outer s H1 E) [] σ' H' s' → L2.RelV v' u → Q v' H' → CE outer P w H1 s Q u s' :=
    fun {σ' H' v' u} J rv q => ⟨v', H', J.os, J.bare, J.base, J.hok, rv, q⟩
  cases fl with
  | ret u =>
    obtain ⟨v', σ', H', J, rv, q⟩ := hs
    exact fin J rv q
  | next =>
    obtain ⟨σ', H', J, q⟩ := hs
    exact fin (v' := V.non) (u := Value.none) J rfl q
  | brk => exact hs.elim fun _ z => z.elim fun _ z => False.elim z.2
  | cont => exact hs.elim fun _ z => z.elim fun _ z => False.elim z.2
end
/-- X(e) made, to be raised -/
def tMkS (C : Addr) (fld : Str) (ta : TA) : L2.St → Hp → XK → Prop := tMkO C (spSup C fld) [] ta
theorem pmk_sup {X : Cx} {P : Program} [px : PX P] (hp : X.prog = P) {C fI : Addr} {fd : FuncData} {qual fld x : Str} {e : Expr} {ta : TA} {p pos : Pos} (T : SupTxt X.K X.mg C fI fd qual fld) (hr : Room 2 X.A) (hg : Gl X x) (hm : X.mg x = some (.ref C)) (ha : PA X [e] ta)
    (hdb : (x == ("__debug__" : Str)) = false := by decide) (he : starEach [e] X.env = (false, eval e X.env) :: starEach [] X.env := by rfl) (hpl : (backTo pos (starEach [] X.env)).any (·.1) = false := by rfl) :
    PMk X (.Call (.Name x p) [e] [] pos) (tMkS C fld ta) := by
  subst hp
  exact pmk_oex (CX := CX0) (ds := []) (dvs := []) T.oex T.iC T.tI (sup_ok T) hr T.bnd .nil pass0 hg hm ha hdb he hpl
/-- what is left to show of it, its argument read -/
theorem x_mkS {C : Addr} {fld : Str} {v : V} {G : Hp} {Q : XK} (h : ∀ d, G d = none → Q (.ref C) (some d) (upd G d (.xd [(fld, v)]))) :
    [v].length ≤ 1000 ∧ ∀ a, G a = none → spSup C fld (.ref a :: ([v] ++ [])) (upd G a (exo a C none)) (fun u H2 => u = .non ∧ ∃ (d : Addr) (fs : List (Str × V)), H2 a = some (exo a C (some d)) ∧ H2 d = some (exd d fs) ∧ G d = none ∧ Q (.ref C) (some d) (upd (del H2 a) d (.xd fs))) (fun _ _ _ => False) := by
  refine ⟨Nat.le_of_ble_eq_true rfl, fun a na => ⟨a, v, rfl, upd_same, fun dx ndx ne => ⟨rfl, dx, [(fld, v)], upd_same, ?_, ?_, ?_⟩⟩⟩
  · rw [upd_ne ne, upd_same]
  · rwa [upd_ne ne] at ndx
  · have nd : G dx = none := by rwa [upd_ne ne] at ndx
    have e : upd (del (upd (upd (upd G a (exo a C none)) dx (exd dx [(fld, v)])) a (exo a C (some dx))) a) dx (.xd [(fld, v)]) = upd G dx (.xd [(fld, v)]) := by
      funext b
      by_cases h1 : b = dx
      · rw [h1, upd_same, upd_same]
      · rw [upd_ne h1, upd_ne h1]
        by_cases h2 : b = a
        · rw [h2, del_same, na]
        · rw [del_ne h2, upd_ne h2, upd_ne h1, upd_ne h2]
    rw [e]
    exact h dx nd
theorem x_tMkS {C : Addr} {fld : Str} {ta : TA} {τ : L2.St} {G : Hp} {Q : XK} (h : ta τ G fun vs H1 => vs.length ≤ 1000 ∧ ∀ a, H1 a = none → spSup C fld (.ref a :: (vs ++ [])) (upd H1 a (exo a C none))
    (fun v H2 => v = .non ∧ ∃ (d : Addr) (fs : List (Str × V)), H2 a = some (exo a C (some d)) ∧ H2 d = some (exd d fs) ∧ H1 d = none ∧ Q (.ref C) (some d) (upd (del H2 a) d (.xd fs))) (fun _ _ _ => False)) : tMkS C fld ta τ G Q := h
section
variable {X : Cx} {CX : CXT} {k : Nat} {f C : Addr} {fd : FuncData} {ps : List Str} {sp : Sp} {E : L2.St → XK} {m : Str} {p pos apos : Pos} {e o : Expr} {es : List Expr} {ta : TE} {t : TA}
/-- o.m(e, ..), what it may raise wished by the slots -/
def tMethX (C : Addr) (m : Str) (sp : Sp) (E : L2.St → XK) (ta : TE) (t : TA) : TE := fun τ G Q => ta τ G fun x G1 => ∃ a dx fs, x = .ref a ∧ G1 a = some (.ins C dx fs) ∧ fs.lookup m = none ∧ t τ G1 fun vs G2 => sp (x :: vs) G2 Q (E τ)
theorem pe_methX {pl : Sem Bool} (he : PE X o ta) (c : Cls X.K C) (hm : Meth X.K C m f) (F : FnOk X.prog X.w X.K X.mg X.base CX k f fd ps sp) (hr : Room k X.A) (hb : Binds X.K fd ps []) (hx : ∀ τ, PassesAt CX X τ (E τ)) (ha : PA X (e :: es) t)
    (hst : starEach (e :: es) X.env = (false, eval e X.env) :: starEach es X.env := by rfl) (hpl : (backTo pos (starEach es X.env)).any (·.1) = false := by rfl)
    (ht : eval (.Call (.Attribute o m apos) (e :: es) [] pos) X.env = (do
      let ov ← eval o X.env
      standAt apos.atName
      let (g, first) ← holding [ov] (getMethod ov m pl)
      callWith pos g first (backTo pos (starEach (e :: es) X.env)) (backToKw pos (keywordEach [] X.env))) := by rfl) :
    PE X (.Call (.Attribute o m apos) (e :: es) [] pos) (tMethX C m sp E ta t) := by
  refine ⟨fun pins s τ G Q I rd => PySem.W.methodCall_KW (pl := pl) (thn (he.run pins s τ G _ I rd) fun u s1 h1 => ?_) ht⟩
  obtain ⟨x, G1, I1, rx, a, dx, fs, rfl, ea, l, q⟩ := h1
  cases (show u = Value.ref a from rx)
  refine getmeth_ok I1 ea c hm l (PySem.W.callWith_K (first := [.ref a]) (h₀ := X.base) I.ok.mod.kin hm.kp (thn (ha.run pos pins s1 τ G1 _ I1 q) fun us s2 h2 => ?_) hst hpl)
  obtain ⟨vs, G2, I2, r, q2⟩ := h2
  exact ⟨I2.kIn, run_fnS (us := .ref a :: us) (vs := .ref a :: vs) F hr hb (hx τ) I2 (.cons rfl r) q2⟩
end
end SupX

/-! ### try with several clauses, each with or without a name -/
namespace L2
open PySem PySem.Spec PyProof.Rows
/-- the ends of a suite whose name's slot is emptied behind it -/
def Ends.gone (D : Ends) : Option Nat → Ends
  | none => D
  | some i => { nx := fun τ G => D.nx (τ.set i none) G, rt := D.rt, bk := fun τ G => D.bk (τ.set i none) G, ct := fun τ G => D.ct (τ.set i none) G }
def held (τ : St) (a : Addr) : Option Nat → St
  | none => τ
  | some i => τ.set i (some (.ref a))
structure MixC where
  cls : Value
  slot : Option Nat
  suite : Addr → Value → Option Addr → TS
def wMix (K : PySem.W.Frag) (Wout : WX) (D : Ends) : List MixC → WX
  | [] => Wout
  | m :: r => fun cv dv τ G => ∃ b, PySem.W.exmOne K cv m.cls = some b ∧ (b = true → ∀ a, G a = none → m.suite a cv dv (D.gone m.slot) (held τ a m.slot) G) ∧ (b = false → wMix K Wout D r cv dv τ G)
/-- a clause's name: none, or a local name in its slot -/
def NameAt (X : Cx) : Option Str → Option Nat → Prop
  | none, none => True
  | some n, some i => X.N[i]? = some n ∧ X.env.kindOf n = some .local
  | _, _ => False
inductive MixOk (X : Cx) : List ExceptHandler → List MixC → Prop
  | nil : MixOk X [] []
  | cons {x : Str} {m : MixC} {o : Option Str} {st₀ : Stmt} {sts : List Stmt} {p₁ p₂ : Pos} {hds : List ExceptHandler} {l : List MixC} (hc : Names X x m.cls) (hn : NameAt X o m.slot)
      (hs : ∀ (a : Addr) (ob : Obj) (cv : Value) (dv : Option Addr) (pn : List (Addr × Obj)), Zc cv dv ob → (∃ vs, ob.data = .fields vs) → PSs (X.suite a ((a, ob) :: pn)) (st₀ :: sts) (m.suite a cv dv)) (r : MixOk X hds l) :
      MixOk X (.ExceptHandler (some (.Name x p₁)) o (st₀ :: sts) p₂ :: hds) (m :: l)
section
variable {X : Cx} {body : List Stmt} {hd₀ : ExceptHandler} {hds : List ExceptHandler} {l : List MixC} {pos : Pos} {tb : WX → TS} {Wout : WX}
theorem ps_try_mix (hstk : X.stack = X.env :: X.outer) (hfr : X.env.frame = some X.env.locals) (nd : X.N.Nodup) (tk : Takes X Wout)
    (hb : ∀ (W : WX) (pn : List (Addr × Obj)) (xe : Value → Shared → Prop), Takes (X.tr pn xe) W → PassesOwn (model X.prog X.w) X.A X.env xe → PSs (X.tr pn xe) body (tb W))
    (hh : MixOk X (hd₀ :: hds) l) : PS X (.Try body (hd₀ :: hds) [] [] pos) (fun D τ G => tb (wMix X.K Wout D l) D τ G) := by
  refine ⟨fun pins s τ G D I rd => ?_⟩
  have okX := I.ok
  have framesX : X.A.frames = some (X.env :: X.outer) := okX.frames.trans (congrArg some hstk)
  refine wpAny_Try_except ?_
  let xe : Value → Shared → Prop := fun e s₁ => wpAny (model X.prog X.w) X.A (noteFrame e X.env) (fun _ s₂ =>
      wpAny (model X.prog X.w) X.A (setFlight e none) (fun _ s₃ =>
        wpAny (model X.prog X.w) X.A (handleBy e X.env (hd₀ :: hds)) (SP X pins D) X.xe s₃) X.xe s₂) X.xe s₁
  have tkB : Takes (X.tr (X.pn ++ pins) xe) (wMix X.K Wout D l) := by
    intro u s' caught
    obtain ⟨a, B, sI, pins', τ', G', cv, dv, rfl, J', nb, up, sky, na, os, ag, wsh⟩ := caught
    have J : Inv X pins τ' G' sI := J'.ofTry okX
    have skyX : Sky B (X.env :: X.outer) a (Zc cv dv) X.env.locals s'.heap := hstk ▸ sky
    show wpAny (model X.prog X.w) X.A (noteFrame (.ref a) X.env) _ _ _
    refine Sky.land Zc.steady framesX hfr skyX fun g3 fl3 up3 => ?_
    have J3 : Inv X pins τ' G' { s' with heap := g3 } := J.landed nb fl3.1 (up.trans up3) os ag
    obtain ⟨o3, vs3, e3, z3, d3⟩ := fl3.there
    have nfr : a ∉ frs (X.env :: X.outer) := fun m => by
      obtain ⟨_, o', e', hnf⟩ := fl3.2.2.1.mem m
      rw [e3] at e'
      cases e'
      exact hnf _ d3
    have nL : a ≠ X.env.locals := fun z => nfr (List.mem_filterMap.mpr ⟨X.env, List.mem_cons_self, hfr.trans (congrArg some z.symm)⟩)
    have nF : a ∉ X.fs := fun m => by
      obtain ⟨ev, hev, q⟩ := List.mem_filterMap.mp m
      exact nfr (List.mem_filterMap.mpr ⟨ev, List.mem_cons_of_mem _ hev, q⟩)
    have S3 := J3.suite e3 d3 na nL nF
    have go : ∀ {hs' : List ExceptHandler} {l' : List MixC}, MixOk X hs' l' → wMix X.K Wout D l' cv dv τ' G' →
        wpAny (model X.prog X.w) X.A (handleBy (.ref a) X.env hs') (SP X pins D) X.xe { s' with heap := g3 } := by
      intro hs' l' mo
      induction mo with
      | nil =>
        intro wsh
        refine wpAny_handleBy_nil ?_
        obtain ⟨_, _, _, oe, vs, T, oT, ts', he, hz, hdt, h1, hr⟩ := id fl3
        unfold PySem.passOn
        refine wpAny_bind (wpAny_field he hdt h1 ?_)
        rw [if_neg (show ¬ ((Value.ref T == Value.none) = true) from by simp)]
        have up_ : wpAny (model X.prog X.w) X.A (setFlight (.ref a) X.env.frame) (fun _ s4 =>
            wpAny (model X.prog X.w) X.A (throw (.ref a) : Sem Flow) (SP X pins D) X.xe s4) X.xe { s' with heap := g3 } := by
          rw [hfr]
          exact HandSPX.setFlight_upZ fl3 fun g4 hg4 up4 => wpAny_throw (tk _ _
            ⟨a, B, sI, pins, τ', G', cv, dv, rfl, J, nb, (up.trans up3).trans up4, .inr (.inr (hstk.symm ▸ hg4)), na, os, ag, wsh⟩)
        first
          | exact wpAny_bind (wpAny_pure (wpAny_bind up_))
          | exact wpAny_bind up_
      | @cons x m o st₀ sts p₁ p₂ hds2 l2 hc hn hsu r ih =>
        intro wsh
        obtain ⟨b, hb1, yes, no⟩ := wsh
        refine wpAny_handleBy_cons (codeAny_handlers_test ?_) (by intro q; cases q)
        have tyA : PySem.W.Looks (model X.prog X.w) g3 (typeOf (.ref a)) cv := fun A Q E s k q => wpAny_typeOf_ref (k _ _ e3) (by rw [z3.1]; exact q)
        have isA := PySem.W.exm_one (M := model X.prog X.w) (J3.kIn) tyA hb1
        have test : ∀ {Q E : Value → Shared → Prop}, Q m.cls { s' with heap := g3 } →
            wpAny (model X.prog X.w) (X.A.mark (some (.ref a))) (eval (.Name x p₁) X.env) Q E { s' with heap := g3 } := fun {Q E} q => by
          obtain ⟨hg, hdb, hm | ⟨hm, hv, hnn⟩⟩ := hc
          · exact ld_glob (X := X.suite a ((a, o3) :: (X.pn ++ pins))) S3 hg hm q hdb
          · exact ld_blt (X := X.suite a ((a, o3) :: (X.pn ++ pins))) S3 hg hm hv q hnn hdb
        refine test (isA.here ?_)
        cases b with
        | false =>
          show wpAny _ X.A (handleBy (.ref a) X.env hds2) _ _ _
          exact ih (no rfl)
        | true =>
          have rdS := yes rfl a na
          obtain ⟨mc, ms, mt⟩ := m
          cases o with
          | none =>
            cases ms with
            | some i => exact hn.elim
            | none =>
              refine codeAny_handlers_suite ?_
              refine HandSPX.lands_againZ fl3 fun g4 fl4 up4 => ?_
              have J4 : Inv X pins τ' G' { s' with heap := g4 } := J.landed nb fl4.1 ((up.trans up3).trans up4) os ag
              obtain ⟨o4, vs4, e4, z4, d4⟩ := fl4.there
              refine wpAny_mono ((hsu a o4 cv dv (X.pn ++ pins) z4 ⟨_, d4⟩).run [] _ _ G' _ (J4.suite e4 d4 na nL nF) rdS) (fun f s6 hsp => ?_) (fun _ _ z => False.elim z)
              cases f with
              | ret u => exact let ⟨v6, τ6, G6, S6, r6, q6⟩ := hsp; ⟨v6, τ6, G6, S6.unsuite okX, r6, q6⟩
              | next => exact let ⟨τ6, G6, S6, q6⟩ := hsp; ⟨τ6, G6, S6.unsuite okX, q6⟩
              | brk => exact let ⟨τ6, G6, S6, q6⟩ := hsp; ⟨τ6, G6, S6.unsuite okX, q6⟩
              | cont => exact let ⟨τ6, G6, S6, q6⟩ := hsp; ⟨τ6, G6, S6.unsuite okX, q6⟩
          | some n =>
            cases ms with
            | none => exact hn.elim
            | some i =>
              obtain ⟨hi, hln⟩ := hn
              refine codeAny_handlers_suite_as ?_
              refine HandSPX.lands_againZ fl3 fun g4 fl4 up4 => ?_
              have J4 : Inv X pins τ' G' { s' with heap := g4 } := J.landed nb fl4.1 ((up.trans up3).trans up4) os ag
              obtain ⟨o4, vs4, e4, z4, d4⟩ := fl4.there
              refine store_ok (X := X.suite a ((a, o4) :: (X.pn ++ pins))) (v := .ref a) (J4.suite e4 d4 na nL nF) nd hi (.inl hln) rfl (fun s5 S5 => ?_) (.inr hln)
              refine wpAny_mono ((hsu a o4 cv dv (X.pn ++ pins) z4 ⟨_, d4⟩).run [] s5 _ G' _ S5 rdS) (fun f s6 hsp => ?_) (fun _ _ z => False.elim z)
              have close : ∀ {τ6 : St} {G6 : Hp} {Q : Shared → Prop}, Inv (X.suite a ((a, o4) :: (X.pn ++ pins))) [] τ6 G6 s6 → (∀ s7, Inv X pins (τ6.set i none) G6 s7 → Q s7) →
                  wpAny (model X.prog X.w) X.A (do bindName X.env n .none; unbindBehindTheSuite X.env n p₂) (fun _ s7 => Q s7) X.xe s6 := fun {τ6 G6 Q} S6 hq =>
                gone_ok (S6.unsuite okX) nd hi hln hq
              cases f with
              | ret u => exact let ⟨v6, τ6, G6, S6, r6, q6⟩ := hsp; close S6 fun s7 J7 => ⟨_, _, _, J7, r6, q6⟩
              | next => exact let ⟨τ6, G6, S6, q6⟩ := hsp; close S6 fun s7 J7 => ⟨_, _, J7, q6⟩
              | brk => exact let ⟨τ6, G6, S6, q6⟩ := hsp; close S6 fun s7 J7 => ⟨_, _, J7, q6⟩
              | cont => exact let ⟨τ6, G6, S6, q6⟩ := hsp; close S6 fun s7 J7 => ⟨_, _, J7, q6⟩
    exact go hh wsh
  refine wpAny_mono ((hb (wMix X.K Wout D l) (X.pn ++ pins) xe tkB PassesOwn.looking).run [] s τ G D (I.toTry _) rd) (fun f s1 hsp => ?_) (fun e s1 he => he)
  cases f with
  | ret u => exact let ⟨v, τ', G', J', r, q⟩ := hsp; ⟨v, τ', G', J'.ofTry okX, r, q⟩
  | next => exact let ⟨τ', G', J', q⟩ := hsp; wpAny_execs_nil ⟨τ', G', J'.ofTry okX, q⟩
  | brk => exact let ⟨τ', G', J', q⟩ := hsp; ⟨τ', G', J'.ofTry okX, q⟩
  | cont => exact let ⟨τ', G', J', q⟩ := hsp; ⟨τ', G', J'.ofTry okX, q⟩
end
end L2

/-! ### tuples of the same items compared -/
namespace L2
open PySem PySem.Spec PyProof.Rows
def plainV : V → Bool
  | .non | .bl _ | .int _ | .str _ | .ref _ => true
  | _ => false
theorem eqAt_plain {A : Around} {s : Shared} {v : V} {u w : Value} (h : plainV v = true) (ru : RelV v u) (rw' : RelV v w) : SeqAt.EqAt A s u w true := by
  cases v with
  | non =>
    cases (show u = Value.none from ru)
    cases (show w = Value.none from rw')
    exact SeqAt.EqAt.same _
  | bl b =>
    cases (show u = Value.bool b from ru)
    cases (show w = Value.bool b from rw')
    exact SeqAt.EqAt.same _
  | ref a =>
    cases (show u = Value.ref a from ru)
    cases (show w = Value.ref a from rw')
    exact SeqAt.EqAt.same _
  | int i =>
    obtain ⟨t, rfl⟩ := (show ∃ t, u = Value.int i t from ru)
    obtain ⟨t', rfl⟩ := (show ∃ t, w = Value.int i t from rw')
    have := SeqAt.EqAt.int_int (A := A) (s := s) i t i t'
    rwa [beq_self_eq_true] at this
  | str x =>
    obtain ⟨t, rfl⟩ := (show ∃ t, u = Value.str x t from ru)
    obtain ⟨t', rfl⟩ := (show ∃ t, w = Value.str x t from rw')
    have := SeqAt.EqAt.str_str (A := A) (s := s) x t x t'
    rwa [beq_self_eq_true] at this
  | byt b => cases h
  | flt b => cases h
  | ty n => cases h
def rEqS (K : PySem.W.Frag) : R2 := fun x y H Q => ∃ a b xs, x = .ref a ∧ y = .ref b ∧ SqT K H a xs ∧ SqT K H b xs ∧ (∀ v ∈ xs, plainV v = true) ∧ Q (.bl true) H
def rNeS (K : PySem.W.Frag) : R2 := fun x y H Q => ∃ a b xs, x = .ref a ∧ y = .ref b ∧ SqT K H a xs ∧ SqT K H b xs ∧ (∀ v ∈ xs, plainV v = true) ∧ Q (.bl false) H
section
variable {X : Cx} {pins : List (Addr × Obj)} {σ : St} {H : Hp} {s : Shared}
theorem tup_same {a b : Addr} {xs : List V} (I : Inv X pins σ H s) (h1 : SqT X.K H a xs) (h2 : SqT X.K H b xs) (ok : ∀ v ∈ xs, plainV v = true) :
    ∃ us ws : List Value, s.heap.IsTuple a us.toArray ∧ s.heap.IsTuple b ws.toArray ∧ us.length = ws.length ∧ ∀ A j (g1 : j < us.toArray.size) (g2 : j < ws.toArray.size), SeqAt.EqAt A s us.toArray[j] ws.toArray[j] ((fun _ => true) j) := by
  obtain ⟨us, r1, ⟨o1, e1, c1, n1, d1⟩, _⟩ := I.tuple h1
  obtain ⟨ws, r2, ⟨o2, e2, c2, n2, d2⟩, _⟩ := I.tuple h2
  refine ⟨us, ws, ⟨o1, e1, c1, n1, d1⟩, ⟨o2, e2, c2, n2, d2⟩, r1.length.symm.trans r2.length, fun A j g1 g2 => ?_⟩
  have g1' : j < us.length := by simpa using g1
  have hj : j < xs.length := by rw [r1.length]; exact g1'
  obtain ⟨u, hu, ru⟩ := r1.get (List.getElem?_eq_getElem hj)
  obtain ⟨w, hw, rw'⟩ := r2.get (List.getElem?_eq_getElem hj)
  obtain ⟨_, eu⟩ := List.getElem?_eq_some_iff.mp hu
  obtain ⟨_, ew⟩ := List.getElem?_eq_some_iff.mp hw
  have e3 : us.toArray[j] = u := by simpa using eu
  have e4 : ws.toArray[j] = w := by simpa using ew
  rw [e3, e4]
  exact eqAt_plain (ok _ (List.getElem_mem hj)) ru rw'
theorem all_true {n m : Nat} (h : n = m) : ((List.range (min n m)).all (fun _ => true) && n == m) = true := by
  subst h
  simp
theorem op_eqS (hu : X.A.units < cLine) : OpR X (compareOp .Eq) (rEqS X.K) := by
  intro pins s σ H x y v u Q I rx ry h
  obtain ⟨a, b, xs, rfl, rfl, h1, h2, ok, q⟩ := h
  cases (show v = Value.ref a from rx)
  cases (show u = Value.ref b from ry)
  obtain ⟨us, ws, t1, t2, l, e⟩ := tup_same I h1 h2 ok
  refine SeqAt.RcAt.tuples t1 t2 hu (e := fun _ => true) (fun j g1 g2 => e _ j g1 g2) X.prog X.w _ _ ?_
  rw [all_true (by simpa using l)]
  exact ⟨.bl true, H, I, rfl, q⟩
theorem op_neS (hu : X.A.units < cLine) : OpR X (compareOp .NotEq) (rNeS X.K) := by
  intro pins s σ H x y v u Q I rx ry h
  obtain ⟨a, b, xs, rfl, rfl, h1, h2, ok, q⟩ := h
  cases (show v = Value.ref a from rx)
  cases (show u = Value.ref b from ry)
  obtain ⟨us, ws, t1, t2, l, e⟩ := tup_same I h1 h2 ok
  refine SeqAt.RcNeAt.tuples t1 t2 hu (e := fun _ => true) (fun j g1 g2 => e _ j g1 g2) X.prog X.w _ _ ?_
  rw [all_true (by simpa using l)]
  exact ⟨.bl false, H, I, rfl, q⟩
end
end L2
namespace M
open PySem PySem.Spec PyProof.Rows L2
theorem w_eqS {X : Cx} {K : PySem.W.Frag} (h : X.K = K) (hu : X.A.units < cLine) : OpR X (compareOp .Eq) (rEqS K) := by subst h; exact op_eqS hu
theorem w_neS {X : Cx} {K : PySem.W.Frag} (h : X.K = K) (hu : X.A.units < cLine) : OpR X (compareOp .NotEq) (rNeS K) := by subst h; exact op_neS hu
theorem x_tryMix {c : Value} {K : PySem.W.Frag} {D : Ends} {l : List MixC} {m : MixC} {Wout : WX} {cv : Value} {dv : Option Addr} {τ : L2.St} {G : Hp} (e : PySem.W.exmOne K cv m.cls = some true) (h : ∀ a, G a = none → m.suite a cv dv (D.gone m.slot) (held τ a m.slot) G) : wMix K Wout D (m :: l) cv dv τ G :=
  ⟨true, e, fun _ => h, fun z => nomatch z⟩
theorem x_tryMixN {K : PySem.W.Frag} {D : Ends} {l : List MixC} {m : MixC} {Wout : WX} {cv : Value} {dv : Option Addr} {τ : L2.St} {G : Hp} (e : PySem.W.exmOne K cv m.cls = some false) (h : wMix K Wout D l cv dv τ G) : wMix K Wout D (m :: l) cv dv τ G :=
  ⟨false, e, (fun z => nomatch z), fun _ => h⟩
theorem exm_pair {K : PySem.W.Frag} {x y : Addr} {b : Bool} (h1 : PySem.W.subIn K (.ref y) (.type "BaseException") = some true) (h2 : PySem.W.isClsIn K y = true) (h3 : PySem.W.typeIn K (.ref y) = some (.type "type")) (h4 : PySem.W.subIn K (.ref x) (.ref y) = some b) :
    PySem.W.exmOne K (.ref x) (.ref y) = some b := by
  unfold PySem.W.exmOne
  rw [h1]
  show PySem.W.kitCls K (.ref x) (.ref y) = some b
  unfold PySem.W.kitCls
  show (if ((PySem.W.clsIn K y).isSome && PySem.W.typeIn K (.ref y) == some (.type "type")) = true then _ else _) = _
  rw [h3]
  have : (PySem.W.clsIn K y).isSome = true := h2
  rw [this]
  exact h4
end M

set_option Elab.async false
set_option linter.all false
set_option maxRecDepth 100000
set_option maxHeartbeats 2000000
/-! own errors without an __init__ of their own; isinstance of a caught one -/
namespace SupX
open PySem PySem.Spec PyProof.Rows L2 PySem.W PySem.Calls
abbrev bmVE : List Value := [.type "ValueError", .type "Exception", .type "BaseException", .type "object"]
/-- what the written part says of such a class -/
structure PlnTxt (K : Frag) (C : Addr) : Prop where
  exc : excIn K C bmVE "ValueError.__new__" = true
  kp : keepIn K (.ref C) = true
  sb : subIn K (.ref C) (.type "BaseException") = some true
  ty : typeIn K (.ref C) = some (.type "type")
  isc : L2.ExcC K C
section
variable {X : Cx} {C : Addr}
/-- X() -/
theorem pmk_own0 {K : Frag} {x : Str} {p pos : Pos} (hK : X.K = K) (T : PlnTxt K C) (gC : X.mg x = some (.ref C)) (hg : Gl X x) (hdb : (x == ("__debug__" : Str)) = false := by decide) :
    PMk X (.Call (.Name x p) [] [] pos) (fun _ H Q => Q (.ref C) none H) := by
  subst hK
  intro pins s σ H Q I h
  refine wpAny_Call_Name_kw (ld_glob I hg gC ?_ hdb)
  refine PySem.W.callWith_K0 I.kIn T.kp ?_
  show wpAny _ _ (call (.ref C) []) _ _ _
  obtain ⟨bm, N, nm, qn, bs, hdct, sn, sub, ab, col, dd, k0, k1, k2, k3, k5, mN, hC, hN, hni, TT⟩ := exc_obj I.kIn T.exc
  refine wpAny_call_exc_subT PySem.F.excBase_ValueError TT hC hN hni (fun h' e hm => ?_) (Nat.zero_le _)
  exact mk_of I hm (raises_own T.sb T.ty) h (I.hok.gone hm.new)
/-- isinstance(e, c), e the error that the suite holds, of whatever class it is -/
def rIsX (K : Frag) (cv : Value) (dv : Option Addr) (a : Addr) : List V → Hp → VK → Prop := fun xs H Q => ∃ (D : Addr) (c : V) (u : Value) (b : Bool), cv = .ref D ∧ dv = none ∧ L2.ExcC K D ∧ xs = [.ref a, c] ∧ (∀ z, RelV c z → z = u) ∧ kitOne K (.ref D) u = some b ∧ Q (.bl b) H
theorem cl_isX {K : Frag} {a : Addr} {cv : Value} {dv : Option Addr} {oe : Obj} {pn : List (Addr × Obj)} (hK : X.K = K) (hz : Zc cv dv oe) (hf : ∃ vs, oe.data = .fields vs) : CallR (X.suite a ((a, oe) :: pn)) (.builtin "isinstance") (rIsX K cv dv a) := by
  subst hK
  intro pins s σ H xs us Q I r h
  obtain ⟨D, c, u, b, rfl, rfl, C, rfl, hcv, e, q⟩ := h
  exact call_isE C hz hf pins s σ H [.ref a, c] us Q I r ⟨c, u, b, rfl, hcv, e, q⟩
theorem x_isX {K : Frag} {D E a : Addr} {Q : VK} {H : Hp} {b : Bool} (C : L2.ExcC K D) (e : kitOne K (.ref D) (.ref E) = some b) (q : Q (.bl b) H) : rIsX K (.ref D) none a [.ref a, .ref E] H Q := ⟨D, _, .ref E, b, rfl, rfl, C, rfl, (fun z h => h), e, q⟩
theorem x_isXT {K : Frag} {D a : Addr} {n : String} {Q : VK} {H : Hp} {b : Bool} (C : L2.ExcC K D) (e : kitOne K (.ref D) (.type n) = some b) (q : Q (.bl b) H) : rIsX K (.ref D) none a [.ref a, .ty n] H Q := ⟨D, _, .type n, b, rfl, rfl, C, rfl, (fun z h => h), e, q⟩
end
theorem kit_own {K : Frag} {D E : Addr} (h1 : isClsIn K E = true) (h2 : typeIn K (.ref E) = some (.type "type")) (h3 : subIn K (.ref D) (.ref E) = some true) : kitOne K (.ref D) (.ref E) = some true := by
  unfold kitOne
  split
  · rfl
  · unfold kitCls
    show (if ((clsIn K E).isSome && typeIn K (.ref E) == some (.type "type")) = true then _ else _) = _
    rw [h2]
    have : (clsIn K E).isSome = true := h1
    rw [this]
    exact h3
theorem kit_VE {K : Frag} {D : Addr} (h3 : subIn K (.ref D) (.type "ValueError") = some true) : kitOne K (.ref D) (.type "ValueError") = some true := by
  unfold kitOne
  split
  · rfl
  · show (if kitMeta "ValueError" = true then subIn K (.ref D) (.type "ValueError") else none) = _
    rw [if_pos (by decide +kernel : kitMeta "ValueError" = true)]
    exact h3
end SupX

set_option Elab.async false
set_option linter.all false
set_option maxRecDepth 100000
set_option maxHeartbeats 2000000
/-! t[::-1] of a tuple -/
namespace HT
open PySem PyProof.Rows PySem.MeetsSeq
theorem rev_adjust (n : Nat) : Builtin.Slice.sliceAdjust none none (-1) (n : Int) = ((n : Int) - 1, -1) := by
  unfold Builtin.Slice.sliceAdjust
  simp
theorem rev_places (n : Nat) : Builtin.Slice.slicePlaces ((n : Int) - 1) (-1) (-1) = n := by
  unfold Builtin.Slice.slicePlaces
  rw [if_neg (by omega)]
  by_cases h : n = 0
  · subst h; rfl
  · rw [if_pos (by omega)]
    have : ((n : Int) - 1 - -1 - 1) / (- -1) + 1 = n := by
      have e : (- -1 : Int) = 1 := by decide
      rw [e, Int.ediv_one]; omega
    rw [this, Int.toNat_natCast]
theorem rev_pick (xs : Array Value) : ((List.range xs.size).filterMap fun (k : Nat) => xs[((xs.size : Int) - 1 + (k : Int) * (-1)).toNat]?).toArray = xs.toList.reverse.toArray := by
  have e : ∀ k ∈ List.range xs.size, xs[((xs.size : Int) - 1 + (k : Int) * (-1)).toNat]? = xs[xs.size - 1 - k]? := fun k hk => by
    have := List.mem_range.mp hk
    have : ((xs.size : Int) - 1 + (k : Int) * (-1)).toNat = xs.size - 1 - k := by omega
    rw [this]
  have e2 : ((List.range xs.size).filterMap fun (k : Nat) => xs[((xs.size : Int) - 1 + (k : Int) * (-1)).toNat]?) = ((List.range xs.size).map fun k => xs.size - 1 - k).filterMap (xs[·]?) := by
    rw [List.filterMap_map]
    have : ∀ l : List Nat, (∀ k ∈ l, xs[((xs.size : Int) - 1 + (k : Int) * (-1)).toNat]? = xs[xs.size - 1 - k]?) → (l.filterMap fun (k : Nat) => xs[((xs.size : Int) - 1 + (k : Int) * (-1)).toNat]?) = l.filterMap ((fun x => xs[x]?) ∘ fun k => xs.size - 1 - k) := by
      intro l
      induction l with
      | nil => intro _; rfl
      | cons a l ih =>
        intro h
        rw [List.filterMap_cons, List.filterMap_cons, h a List.mem_cons_self, ih fun k hk => h k (List.mem_cons_of_mem _ hk)]
        rfl
    exact this _ e
  rw [e2, PySem.W.krv_range, List.filterMap_reverse, PySem.W.krv_all]
section
variable {prog : Program} {w : World} {A : Around} {E : Value → Shared → Prop} {s : Shared}
theorem getItem_tuple_rev {t sl : Addr} {items : Array Value} {vs : Value} {Q : Value → Shared → Prop} (ht : IsTup s.heap t items) (hs : s.heap.IsSliceOf sl .none .none vs) (ps : IsPart vs (some (-1)))
    (h : Q (.ref s.heap.objs.size) { s with heap := s.heap.push { cls := .type "tuple", data := .seq items.toList.reverse.toArray } })
    (hsz : items.size ≤ sizeLine) : wpAny (model prog w) A (getItem (.ref t) (.ref sl)) Q E s := by
  have htake : sizeOk (.seq items.toList.reverse.toArray) := by
    show items.toList.reverse.toArray.size ≤ sizeLine
    rw [List.size_toArray, List.length_reverse, Array.length_toList]
    exact hsz
  obtain ⟨os, hos, hcs, hds⟩ := id hs
  have hTs : s.TypeIs (.ref sl) "slice" := ⟨os, hos, hcs⟩
  unfold getItem
  try with_reducible refine wpAny_holding ?_
  first | refine wpAny_bind (wpAny_pure ?_) | skip
  refine wpAny_bind (wpAny_sequenceKey ht.typeIs (by decide) ?_)
  refine wpAny_bind (wpAny_callSpecial?_slot (name := Str.ofString "__getitem__") ht.typeIs PyProof.Rows.slot_tuple_getitem
    (wpAny_call_entry PyProof.Rows.slot_tuple_getitem ht.typeIs entry_tuple_getitem ?_ (args_tuple_getitem _ _)))
  show wpAny _ _ (Builtin.Tuple.tupleItemsOf (.ref t) >>= _) _ _ s
  refine wpAny_bind (tupleItemsOf_ ht ?_)
  refine wpAny_bind (wpAny_typeOf hTs ?_)
  rw [if_pos (by decide)]
  have ap : ∀ {Q' : Int × Int × Nat → Shared → Prop} {A' : Around} {E' : Value → Shared → Prop}, Q' ((items.size : Int) - 1, -1, items.size) s → wpAny (model prog w) A' (Builtin.Slice.sliceApplied (.ref sl) (pure (items.size : Int))) Q' E' s := by
    intro Q' A' E' q
    unfold Builtin.Slice.sliceApplied Builtin.Slice.sliceFields
    refine wpAny_bind (wpAny_bind (wpAny_field hos hds (x := .none) rfl (wpAny_bind (wpAny_field hos hds (x := .none) rfl (wpAny_bind (wpAny_field hos hds (x := vs) rfl (wpAny_pure ?_)))))))
    refine wpAny_bind (slicePart_ ps ?_)
    show wpAny _ _ (if ((-1 : Int) == 0) = true then _ else _) _ _ s
    rw [if_neg (by decide)]
    refine wpAny_bind (slicePart_none (wpAny_bind (slicePart_none (wpAny_bind (wpAny_pure ?_)))))
    show wpAny _ _ (match Builtin.Slice.sliceAdjust none none (-1) (items.size : Int) with | (lo, hi) => pure (lo, (-1 : Int), Builtin.Slice.slicePlaces lo hi (-1))) _ _ s
    rw [rev_adjust]
    show wpAny _ _ (pure ((items.size : Int) - 1, (-1 : Int), Builtin.Slice.slicePlaces ((items.size : Int) - 1) (-1) (-1))) _ _ s
    rw [rev_places]
    exact wpAny_pure q
  refine wpAny_bind (ap ?_)
  have hno : ¬ (((items.size : Int) - 1 == 0 && (-1 : Int) == 1 && items.size == items.size) = true) := by simp
  show wpAny _ _ (if ((items.size : Int) - 1 == 0 && (-1 : Int) == 1 && items.size == items.size) = true then _ else _) _ _ s
  rw [if_neg hno, rev_pick]
  first
    | exact wpAny_bind (m := Builtin.Tuple.tupleExact _) (wpAny_newObj_type (wpAny_pure ⟨_, rfl, wpAny_pure h⟩) htake)
    | exact wpAny_bind (m := Builtin.Tuple.tupleExact _) (wpAny_newObj_type (wpAny_bind (wpAny_pure (wpAny_pure ⟨_, rfl, wpAny_pure h⟩))) htake)
    | exact wpAny_bind (wpAny_bind (m := Builtin.Tuple.tupleExact _) (wpAny_newObj_type (wpAny_pure (wpAny_pure ⟨_, rfl, wpAny_pure h⟩)) htake))
    | exact wpAny_bind (wpAny_bind (m := Builtin.Tuple.tupleExact _) (wpAny_newObj_type (wpAny_pure ⟨_, rfl, wpAny_pure h⟩) htake))
end
end HT
namespace L2
open PySem PySem.Spec PyProof.Rows
variable {X : Cx}
def tRevT (K : PySem.W.Frag) (te : TE) : TE := fun σ H Q => te σ H fun x H1 => ∃ a xs, x = .ref a ∧ SqT K H1 a xs ∧ ∀ p, H1 p = none → Q (.ref p) (upd H1 p (.tup xs.reverse))
theorem pe_revT {e : Expr} {te : TE} {k : Nat} {p1 p2 p3 pos : Pos} (he : PE X e te) : PE X (.Subscript e (.Slice none none (some (.UnaryOp .USub (.Constant (.int 1) k p1) p2)) p3) pos) (tRevT X.K te) := by
  refine ⟨fun pins s σ H Q I h => ?_⟩
  refine Subscript_ (thn (he.run pins s σ H _ I h) fun v s1 ⟨x, H1, I1, r1, q1⟩ => ?_)
  obtain ⟨a, xs, ex, hx, q⟩ := q1
  subst ex
  cases r1
  have hst : PO X (some (.UnaryOp .USub (.Constant (.int 1) k p1) p2)) (tPart (tUn (rU fun i => .int (-i)) (tC (.int 1)))) := po_some (pe_un un_neg pe_int)
  refine wpAny_Slice ?_
  refine wpAny_mono (po_none.run pins s1 σ H1 (fun o H2 => o = none ∧ H2 = H1) I1 ⟨rfl, rfl⟩) (fun vl s2 hh => ?_) fun _ _ z => z
  obtain ⟨l, H2, I2, pl, el, e2⟩ := hh
  subst el e2
  refine thn (po_none.run pins s2 σ H2 (fun o H3 => o = none ∧ H3 = H2) I2 ⟨rfl, rfl⟩) fun vu s3 ⟨u, H3, I3, pu, eu, e3⟩ => ?_
  subst eu e3
  refine thn (hst.run pins s3 σ H3 (fun o H4 => o = some (-1) ∧ H4 = H3) I3 ⟨1, rfl, -1, rfl, rfl, rfl⟩) fun vs s4 ⟨o, H4, I4, ps, eo, e4⟩ => ?_
  subst eo e4
  have I5 : Inv X pins σ H4 { s4 with heap := s4.heap.push { cls := .type "slice", data := .fields #[vl, vu, vs] } } := I4.kept (t' := s4.toks) fun b ob q => Heap.get?_push_of_some _ q
  obtain ⟨its, r, ht, hz⟩ := I5.tuple hx
  have hlen := r.length
  have ev : vl = .none := by cases pl; rfl
  have eu : vu = .none := by cases pu; rfl
  subst ev eu
  show wpAny (model X.prog X.w) X.A (subscriptTail e (.Slice none none (some (.UnaryOp .USub (.Constant (.int 1) k p1) p2)) p3) (.ref a) (.ref s4.heap.objs.size)) (EP X pins σ Q) X.xe { s4 with heap := s4.heap.push { cls := .type "slice", data := .fields #[.none, .none, vs] } }
  refine tail_any (ops := [.ref a, .ref s4.heap.objs.size]) ht.typeIs (PyProof.Rows.slot_tuple_getitem.lookup) ?_ (by with_unfolding_all rfl)
  refine HT.getItem_tuple_rev ht (Heap.IsSliceOf.new _ .none .none vs) ps ?_ (by rw [List.size_toArray, ← hlen]; exact hz)
  refine ⟨.ref _, _, I5.laid (t' := s4.toks) (o := .tup xs.reverse) (fun b ob q => Heap.get?_push_of_some _ q) (Nat.le_refl _) ?_, rfl, q _ (I5.hok.fresh (Nat.le_refl _))⟩
  exact ⟨by rw [List.length_reverse]; exact hz, _, r.reverse, IsTup.new _ _⟩
theorem w_revT {K : PySem.W.Frag} {e : Expr} {te : TE} {k : Nat} {p1 p2 p3 pos : Pos} (h : X.K = K) (he : PE X e te) : PE X (.Subscript e (.Slice none none (some (.UnaryOp .USub (.Constant (.int 1) k p1) p2)) p3) pos) (tRevT K te) := by subst h; exact pe_revT he
end L2

set_option Elab.async false
set_option linter.all false
set_option maxRecDepth 100000
set_option maxHeartbeats 4000000
/-! for k in d, d a dict of any kind -/
namespace L2
open PySem PySem.Spec PyProof.Rows
def ItN (P : Program) (w : World) (d : Addr) (o : Obj) (u : HO) (kvs : KVN) : It :=
  ⟨fun i H => (H d = some (.frz o u) ∧ AnyD P w H d kvs) ∧ i < kvs.length, fun i H x H' => H' = H ∧ ∃ q, kvs[i]? = some q ∧ x = q.2.1, fun i H => (H d = some (.frz o u) ∧ AnyD P w H d kvs) ∧ kvs.length ≤ i⟩
section
variable {X : Cx} {pins : List (Addr × Obj)} {σ : St} {H : Hp} {s : Shared} {d : Addr} {o : Obj} {u : HO} {kvs : KVN}
theorem Inv.frzN (I : Inv X pins σ H s) (h : H d = some (.frz o u)) (g : AnyD X.prog X.w H d kvs) :
    (d == sysModules) = false ∧ s.heap.get? d = some o ∧ o.ExactDict ∧ ∃ (es : Array DictEntry) (ep : Nat), o.data = .dict es ep ∧ es.size = kvs.length ∧ ∀ (i : Nat) (q : NestedKey × V × V), kvs[i]? = some q → ∃ en : DictEntry, es[i]? = some en ∧ RelV q.2.1 en.key := by
  obtain ⟨hd, z, K, xs, ⟨o', es, ep, h1, h2, h3, e⟩, r⟩ := anyD_dict I g
  obtain ⟨q1, _⟩ := (show ObjOk X.prog X.w H s.heap d (.frz o u) from I.hok d _ h)
  rw [q1] at h1
  cases h1
  refine ⟨hd, q1, h2, es, ep, h3, by rw [e.size]; exact (Paired.length r).symm, fun i q hq => ?_⟩
  obtain ⟨x, hx, rx⟩ := paired_get r hq
  exact ⟨NK.ent X.w x, by rw [e.at_ i, hx]; rfl, rx.2.1⟩
end
section
variable {P : Program} {w : World} {K : PySem.W.Frag} {tg : Expr} {d : Addr} {o : Obj} {u : HO} {es : Array DictEntry} {ep : Nat}
theorem turn_keysN {kvs : KVN} (it : Addr) (hod : o.data = .dict es ep) : Turn P w K tg (ItN P w d o u kvs) [it] it (fun i h => h.IsKeyIter it d i kvs.length ep) where
  mem := by simp
  obj := fun i h st b hb => by
    have e : b = it := by simpa using hb
    subst e
    obtain ⟨oi, e, c, dd⟩ := st
    exact ⟨oi, e, fun v z => by rw [dd] at z; cases z⟩
  keep := fun i h h' st k => st.at fun oi e => k it (by simp) oi e
  item := by
    intro X hP hw hK hc i pins s σ H E I hf st hg
    subst hP hw hK
    obtain ⟨⟨hd, gd⟩, hi⟩ := hg
    obtain ⟨f0, f1, f2, f3, f4, f5⟩ := hf it (by simp)
    obtain ⟨hs, hgd, hx, es', ep', hdt, hsz, ent⟩ := I.frzN hd gd
    obtain ⟨rfl, rfl⟩ := dict_ep hod hdt
    obtain ⟨q, hkv⟩ : ∃ q, kvs[i]? = some q := ⟨kvs[i], List.getElem?_eq_getElem hi⟩
    obtain ⟨en, hen, hkey⟩ := ent i q hkv
    refine next_key_item st hgd hdt hsz hen fun h' st' sb => ?_
    have I1 : Inv X pins σ H { s with heap := h' } := I.turned (t' := s.toks) (fun b ob hb e => (sb.2 b hb).trans e) f0 f1 f3 f4 f5
    obtain ⟨oi, e, c, dd⟩ := id st'
    exact ⟨en.key, rfl, go_of (s := { s with heap := h' }) e c dd (by decide) ⟨q.2.1, H, I1, hkey, ⟨rfl, q, hkv, rfl⟩, st', fun b hb => (hf b hb).1⟩⟩
  done := by
    intro X hP hw hK hc i pins s σ H E I hf st hg
    subst hP hw hK
    obtain ⟨⟨hd, gd⟩, hi⟩ := hg
    obtain ⟨f0, f1, f2, f3, f4, f5⟩ := hf it (by simp)
    obtain ⟨hs, hgd, hx, es', ep', hdt, hsz, ent⟩ := I.frzN hd gd
    obtain ⟨rfl, rfl⟩ := dict_ep hod hdt
    exact next_key_end (I.ok.hd hc) st hgd hdt hsz hi fun h' eb => ⟨rfl, I.turned (t' := s.toks) (fun b ob hb e => eb b ob hb e) f0 f1 f3 f4 f5⟩
  self := fun A i s Q E st h => by
    refine wpAny_pyIter_slot st.typeIs F.slot_dict_keyiterator_iter (wpAny_call_entry F.slot_dict_keyiterator_iter st.typeIs F.entry_dict_keyiterator_iter ?_ (F.args_dict_keyiterator_iter_1 _))
    show wpAny _ _ (ret (.ref it)) _ _ s
    exact wpAny_pure ⟨_, rfl, "dict_keyiterator", _, st.typeIs, F.slot_dict_keyiterator_next.lookup, h⟩
end
/-- the dict is locked -/
def iKeysN (P : Program) (w : World) (td : TE) : TI := fun σ H R => td σ H fun x H1 => ∃ d o u kvs, x = .ref d ∧ H1 d = some (.frz o u) ∧ AnyD P w H1 d kvs ∧ R (ItN P w d o u kvs) H1
section
variable {X : Cx} {tg e : Expr} {td : TE}
theorem pi_keysN (he : PE X e td) : PI X tg e (iKeysN X.prog X.w td) := by
  refine ⟨fun pins s σ H R I h => ?_⟩
  refine thn (he.run pins s σ H _ I h) fun v s1 ⟨x, H1, I1, rx, d, o, u, kvs, ex, hd, g, q⟩ => ?_
  subst ex
  obtain rfl : v = Value.ref d := rx
  obtain ⟨hs, hgd, hx, es, ep, hdt, hsz, ent⟩ := I1.frzN hd g
  refine iter_keys hs hgd hx hdt (pi_one (tk := s1.toks) I1 _ (turn_keysN _ hdt) ⟨_, Heap.get?_push_size _ rfl, rfl, ?_⟩ q)
  rw [hsz] <;> rfl
theorem w_pikeysN {P : Program} {w : World} (hP : X.prog = P) (hw : X.w = w) (he : PE X e td) : PI X tg e (iKeysN P w td) := by subst hP hw; exact pi_keysN he
end
end L2
namespace M
open PySem PySem.Spec PyProof.Rows L2
theorem x_iKeysN {P : Program} {w : World} {td : TE} {σ : L2.St} {H : Hp} {R : It → Hp → Prop} (k : td σ H fun x H1 => ∃ d o u kvs, x = .ref d ∧ H1 d = some (.frz o u) ∧ AnyD P w H1 d kvs ∧ R (ItN P w d o u kvs) H1) : iKeysN P w td σ H R := k
theorem walk_keysN {P : Program} {w : World} {d : Addr} {o : Obj} {u : HO} {kvs : KVN} : Walk (ItN P w d o u kvs) kvs.length (fun H => H d = some (.frz o u) ∧ AnyD P w H d kvs) (fun i H x H' => H' = H ∧ ∃ q, kvs[i]? = some q ∧ x = q.2.1) :=
  ⟨fun _ _ hi q => ⟨q, hi⟩, fun _ q => ⟨q, Nat.le_refl _⟩, fun _ _ _ _ _ _ y => y⟩
section
variable {P : Program} {w : World} {H HL : Hp} {d : Addr} {kvs : KVN} {od : Obj}
theorem lockN_le (h : Rd H d (NdO P w d kvs)) (ne : ∀ b, b ≠ d → HL b = H b) : Le H HL := by
  have n1 : ∀ {b : Addr} {o : HO}, H b = some o → (∀ φ, o ≠ .ext φ) → (∀ u φ, o ≠ .frz u (.ext φ)) → b ≠ d := fun q x y z => by
    rw [z] at q
    rcases h with h | ⟨u, h⟩
    · rw [h] at q; cases q; exact x _ rfl
    · rw [h] at q; cases q; exact y _ _ rfl
  refine ⟨fun b v p q => ?_, fun b C dx fs q => ?_, fun b xs q => ?_⟩
  · have hb : b ≠ d := by
      rcases q with q | ⟨o, q⟩
      · exact n1 q (fun φ z => by subst z; exact p) (fun u φ z => by subst z; exact p)
      · exact n1 q (fun φ z => nomatch z) (fun u φ z => by cases z; exact p)
    unfold Rd
    rw [ne b hb]
    exact q
  · rw [ne b (n1 q (fun _ z => nomatch z) fun _ _ z => nomatch z)]; exact q
  · rw [ne b (n1 q (fun _ z => nomatch z) fun _ _ z => nomatch z)]; exact q
theorem lockN_ext (h : Rd H d (NdO P w d kvs)) (e : HL d = some (.frz od (NdO P w d kvs))) (ne : ∀ b, b ≠ d → HL b = H b) : ExtR H HL := by
  have n1 : ∀ {b : Addr} {o : HO}, H b = some o → (∀ φ, o ≠ .ext φ) → (∀ u φ, o ≠ .frz u (.ext φ)) → b ≠ d := fun q x y z => by
    rw [z] at q
    rcases h with h | ⟨u, h⟩
    · rw [h] at q; cases q; exact x _ rfl
    · rw [h] at q; cases q; exact y _ _ rfl
  refine ⟨fun a xs q => ?_, fun a xs q => ?_, fun a kk q => ?_, fun a f q => ?_⟩
  · rw [ne a (n1 q (fun _ z => nomatch z) fun _ _ z => nomatch z)]; exact q
  · rw [ne a (n1 q (fun _ z => nomatch z) fun _ _ z => nomatch z)]; exact q
  · have z : a ≠ d := by
      rcases q with q | ⟨u, q⟩
      · exact n1 q (fun _ z => nomatch z) fun _ _ z => nomatch z
      · exact n1 q (fun _ z => nomatch z) fun _ _ z => nomatch z
    unfold Rd
    rw [ne a z]
    exact q
  · by_cases z : a = d
    · subst z
      have : (HO.ext f) = NdO P w a kvs := by
        rcases h with h | ⟨u, h⟩ <;> rcases q with q | ⟨u2, q⟩ <;> rw [h] at q <;> injection q with q
        · exact q.symm
        · cases q
        · cases q
        · injection q with _ q
          exact q.symm
      rw [this]
      exact .inr ⟨od, e⟩
    · unfold Rd
      rw [ne a z]
      exact q
theorem x_lockN {t : TS} {D : Ends} {σ : L2.St} (h : AnyD P w H d kvs) (k : ∀ od u HL, HL d = some (.frz od u) → (∀ b, b ≠ d → HL b = H b) → Le H HL → ExtR H HL → AnyD P w HL d kvs →
    t ⟨fun σ' H' => H' d = some (.frz od u) ∧ D.nx σ' (put H' d (H d)), fun v H' => H' d = some (.frz od u) ∧ D.rt v (put H' d (H d)), fun σ' H' => H' d = some (.frz od u) ∧ D.bk σ' (put H' d (H d)), fun σ' H' => H' d = some (.frz od u) ∧ D.ct σ' (put H' d (H d))⟩ σ HL) : tLockR t D σ H := by
  rcases id h with ⟨r, K⟩ | ⟨kk, r, rfl⟩
  · refine ⟨d, NdO P w d kvs, r, trivial, fun od HL e ne => ?_⟩
    have ex := lockN_ext r e ne
    exact k od _ HL e ne (lockN_le r ne) ex (h.mono ex)
  · refine ⟨d, .dK kk, r, trivial, fun od HL e ne => ?_⟩
    have ex := ExtR.lock r e ne
    exact k od _ HL e ne (lock_le r e ne) ex (h.mono ex)
theorem x_lockNE {t : TE} {σ : L2.St} {Q : VK} (h : AnyD P w H d kvs) (k : ∀ od u HL, HL d = some (.frz od u) → (∀ b, b ≠ d → HL b = H b) → Le H HL → ExtR H HL → AnyD P w HL d kvs →
    t σ HL fun v H' => H' d = some (.frz od u) ∧ Q v (put H' d (H d))) : tLockRE t σ H Q := by
  rcases id h with ⟨r, K⟩ | ⟨kk, r, rfl⟩
  · refine ⟨d, NdO P w d kvs, r, trivial, fun od HL e ne => ?_⟩
    have ex := lockN_ext r e ne
    exact k od _ HL e ne (lockN_le r ne) ex (h.mono ex)
  · refine ⟨d, .dK kk, r, trivial, fun od HL e ne => ?_⟩
    have ex := ExtR.lock r e ne
    exact k od _ HL e ne (lock_le r e ne) ex (h.mono ex)
end
end M

open PySem PySem.Spec PyProof.Rows L2 M
/-! one step of a reading that asks nothing -/
local macro_rules | `(tactic| walk_at "rd1") => `(tactic| first
  | with_reducible (refine x_seq ?_)
  | with_reducible (refine x_c ?_)
  | ((with_reducible refine' x_var ?h ?k); (case h => exact rfl))
  | with_reducible (refine x_op ?_)
  | with_reducible (refine x_I0 ?_)
  | with_reducible (refine x_asg ?_)
  | ((with_reducible refine' x_name ?h ?k); (case h => (first | (simp only [List.set_cons_zero, List.set_cons_succ]; rfl) | simp only [List.set_cons_zero, List.set_cons_succ] | rfl)))
  | with_reducible (refine x_ifS ?_)
  | with_reducible (refine x_test ?_)
  | with_reducible (refine x_bl ?_)
  | with_reducible (refine x_B ?_)
  | ((with_reducible refine x_eq ?h ?k); (case h => exact rfl))
  | ((with_reducible refine x_ne ?h ?k); (case h => exact rfl))
  | with_reducible (refine x_and ?_)
  | with_reducible (refine x_or ?_)
  | with_reducible (refine x_not ?_)
  | with_reducible (refine x_andV ?_)
  | with_reducible (refine x_orV ?_)
  | with_reducible (refine x_notV ?_)
  | with_reducible (refine x_if ?_)
  | with_reducible (refine x_chain ?_)
  | with_reducible (refine x_CB ?_)
  | with_reducible (refine x_cons ?_)
  | with_reducible (refine x_nil ?_)
  | with_reducible (refine x_tup ?_)
  | with_reducible (refine x_lst ?_)
  | with_reducible (refine x_call ?_)
  | with_reducible (refine x_ret ?_)
  | with_reducible (refine x_retN ?_)
  | with_reducible (refine x_drop ?_)
  | with_reducible (refine x_next ?_)
  | with_reducible (refine x_break ?_)
  | with_reducible (refine x_cont ?_)
  | with_reducible (refine x_sub ?_)
  | with_reducible (refine x_gnil ?_)
  | with_reducible (refine x_gcons ?_)
  | with_reducible (refine x_par ?_)
  | with_reducible (refine x_un ?_)
  | with_reducible (refine x_U ?_)
  | ((with_reducible refine' x_aug ?h ?k); (case h => exact rfl))
  | with_reducible (refine x_ipI ?_)
  | with_reducible (refine x_dput ?_)
  | with_reducible (refine x_dget ?_)
  | with_reducible (refine x_din ?_)
  | with_reducible (refine x_dnotin ?_)
  | with_reducible (refine x_bm ?_)
  | with_reducible (refine x_bm0 ?_)
  | with_reducible (refine x_sl ?_)
  | with_reducible (refine x_nopart ?_)
  | with_reducible (refine x_part ?_)
  | with_reducible (refine x_int ?_)
  | with_reducible (refine x_leS ?_)
  | with_reducible (refine x_isNo ?_)
  | with_reducible (refine x_notNo ?_)
  | with_reducible (refine x_min2 ?_)
  | with_reducible (refine x_max2 ?_)
  | with_reducible (refine x_abs ?_)
  | with_reducible (refine x_cint ?_)
  | with_reducible (refine x_cintB ?_)
  | with_reducible (refine x_par2 ?_)
  | with_reducible (refine x_for ?_)
  | with_reducible (refine x_iStr ?_)
  | with_reducible (refine x_str ?_)
  | with_reducible (refine x_iRng1 ?_)
  | with_reducible (refine x_iRng2 ?_)
  | with_reducible (refine x_iList ?_)
  | with_reducible (refine x_iTup ?_)
  | with_reducible (refine x_iKeys ?_)
  | with_reducible (refine x_iVals ?_)
  | with_reducible (refine x_iItems ?_)
  | (refine x_gtup (Or.inl (Or.inl upd_same)) rfl ?_)
  | with_reducible (refine x_lc ?_)
  | with_reducible (refine x_yes ?_)
  | with_reducible (refine x_sfld ?_)
  | with_reducible (refine x_fld ?_)
  | with_reducible (refine x_nt ?_)
  | with_reducible (refine x_nf ?_)
  | with_reducible (refine iteT ?_)
  | with_reducible (refine iteF ?_))
local macro_rules | `(tactic| walk_at "rd") => `(tactic| repeat (walk_at "rd1"))
local macro_rules | `(tactic| walk_at "if!") => `(tactic| first
  | refine x_true (by decide +kernel) ?_
  | refine x_false (by decide +kernel) ?_
  | refine x_true (by rfl) ?_
  | refine x_false (by rfl) ?_)

namespace M
open PySem PySem.Spec PyProof.Rows L2
def topS (i : Nat) : Stmt := PySem.Challenge.pw_ownshares_k70_whole_keeps_by_all_let_run.main.body.getD i (.Pass ⟨0, 0, 0, 0⟩)
abbrev s_is_integer : Stmt := topS 1
abbrev N_is_integer : List Str := ["thing"]
abbrev P_is_integer : List Str := ["thing"]
theorem sc_is_integer : FnScope N_is_integer P_is_integer (defScope s_is_integer) := ⟨rfl, rfl, rfl, by decide +kernel, rfl, by decide +kernel, by decide +kernel⟩
abbrev s_is_name : Stmt := topS 2
abbrev N_is_name : List Str := ["thing", "char"]
abbrev P_is_name : List Str := ["thing"]
theorem sc_is_name : FnScope N_is_name P_is_name (defScope s_is_name) := ⟨rfl, rfl, rfl, by decide +kernel, rfl, by decide +kernel, by decide +kernel⟩
abbrev s_is_pair : Stmt := topS 4
abbrev N_is_pair : List Str := ["thing"]
abbrev P_is_pair : List Str := ["thing"]
theorem sc_is_pair : FnScope N_is_pair P_is_pair (defScope s_is_pair) := ⟨rfl, rfl, rfl, by decide +kernel, rfl, by decide +kernel, by decide +kernel⟩
abbrev s_is_moves : Stmt := topS 38
abbrev N_is_moves : List Str := ["thing", "names", "move", "to"]
abbrev P_is_moves : List Str := ["thing", "names"]
theorem sc_is_moves : FnScope N_is_moves P_is_moves (defScope s_is_moves) := ⟨rfl, rfl, rfl, by decide +kernel, rfl, by decide +kernel, by decide +kernel⟩
abbrev s_is_draws : Stmt := topS 39
abbrev N_is_draws : List Str := ["thing", "names", "draw", "pair"]
abbrev P_is_draws : List Str := ["thing", "names"]
theorem sc_is_draws : FnScope N_is_draws P_is_draws (defScope s_is_draws) := ⟨rfl, rfl, rfl, by decide +kernel, rfl, by decide +kernel, by decide +kernel⟩
abbrev s_is_stand : Stmt := topS 40
abbrev N_is_stand : List Str := ["thing", "hands", "names"]
abbrev P_is_stand : List Str := ["thing", "hands", "names"]
theorem sc_is_stand : FnScope N_is_stand P_is_stand (defScope s_is_stand) := ⟨rfl, rfl, rfl, by decide +kernel, rfl, by decide +kernel, by decide +kernel⟩
abbrev s_are_stands : Stmt := topS 41
abbrev N_are_stands : List Str := ["thing", "hands", "name", "stand"]
abbrev P_are_stands : List Str := ["thing", "hands"]
theorem sc_are_stands : FnScope N_are_stands P_are_stands (defScope s_are_stands) := ⟨rfl, rfl, rfl, by decide +kernel, rfl, by decide +kernel, by decide +kernel⟩
abbrev s_copied : Stmt := topS 42
abbrev N_copied : List Str := ["stand", "steps", "ordered", "step"]
abbrev P_copied : List Str := ["stand"]
theorem sc_copied : FnScope N_copied P_copied (defScope s_copied) := ⟨rfl, rfl, rfl, by decide +kernel, rfl, by decide +kernel, by decide +kernel⟩
abbrev s_leads : Stmt := topS 43
abbrev N_leads : List Str := ["work", "stand", "row", "step"]
abbrev P_leads : List Str := ["work", "stand"]
theorem sc_leads : FnScope N_leads P_leads (defScope s_leads) := ⟨rfl, rfl, rfl, by decide +kernel, rfl, by decide +kernel, by decide +kernel⟩
abbrev s_is_ringless : Stmt := topS 44
abbrev N_is_ringless : List Str := ["work", "left", "settled", "going", "rest", "name", "to"]
abbrev P_is_ringless : List Str := ["work"]
theorem sc_is_ringless : FnScope N_is_ringless P_is_ringless (defScope s_is_ringless) := ⟨rfl, rfl, rfl, by decide +kernel, rfl, by decide +kernel, by decide +kernel⟩
abbrev s_Work_init : Stmt := inClass (topS 45) 0
abbrev N_Work_init : List Str := ["self", "hands", "start", "stands", "name"]
abbrev P_Work_init : List Str := ["self", "hands", "start", "stands"]
theorem sc_Work_init : FnScope N_Work_init P_Work_init (defScope s_Work_init) := ⟨rfl, rfl, rfl, by decide +kernel, rfl, by decide +kernel, by decide +kernel⟩
abbrev s_Work_row : Stmt := inClass (topS 45) 3
abbrev N_Work_row : List Str := ["self", "stand"]
abbrev P_Work_row : List Str := ["self", "stand"]
theorem sc_Work_row : FnScope N_Work_row P_Work_row (defScope s_Work_row) := ⟨rfl, rfl, rfl, by decide +kernel, rfl, by decide +kernel, by decide +kernel⟩
abbrev s_Work_kind : Stmt := inClass (topS 45) 4
abbrev N_Work_kind : List Str := ["self", "stand"]
abbrev P_Work_kind : List Str := ["self", "stand"]
theorem sc_Work_kind : FnScope N_Work_kind P_Work_kind (defScope s_Work_kind) := ⟨rfl, rfl, rfl, by decide +kernel, rfl, by decide +kernel, by decide +kernel⟩
abbrev s_Work_mover : Stmt := inClass (topS 45) 5
abbrev N_Work_mover : List Str := ["self", "stand", "row"]
abbrev P_Work_mover : List Str := ["self", "stand"]
theorem sc_Work_mover : FnScope N_Work_mover P_Work_mover (defScope s_Work_mover) := ⟨rfl, rfl, rfl, by decide +kernel, rfl, by decide +kernel, by decide +kernel⟩
abbrev s_Work_steps : Stmt := inClass (topS 45) 6
abbrev N_Work_steps : List Str := ["self", "stand", "row"]
abbrev P_Work_steps : List Str := ["self", "stand"]
theorem sc_Work_steps : FnScope N_Work_steps P_Work_steps (defScope s_Work_steps) := ⟨rfl, rfl, rfl, by decide +kernel, rfl, by decide +kernel, by decide +kernel⟩
abbrev s_Work_to : Stmt := inClass (topS 45) 7
abbrev N_Work_to : List Str := ["self", "stand", "step", "row"]
abbrev P_Work_to : List Str := ["self", "stand", "step"]
theorem sc_Work_to : FnScope N_Work_to P_Work_to (defScope s_Work_to) := ⟨rfl, rfl, rfl, by decide +kernel, rfl, by decide +kernel, by decide +kernel⟩
abbrev s_law_open : Stmt := topS 47
abbrev N_law_open : List Str := ["script", "k", "cell"]
abbrev P_law_open : List Str := ["script", "k"]
theorem sc_law_open : FnScope N_law_open P_law_open (defScope s_law_open) := ⟨rfl, rfl, rfl, by decide +kernel, rfl, by decide +kernel, by decide +kernel⟩
abbrev s_law_draw : Stmt := topS 48
abbrev N_law_draw : List Str := ["drawer", "many", "number"]
abbrev P_law_draw : List Str := ["drawer", "many"]
theorem sc_law_draw : FnScope N_law_draw P_law_draw (defScope s_law_draw) := ⟨rfl, rfl, rfl, by decide +kernel, rfl, by decide +kernel, by decide +kernel⟩
abbrev s_law_names : Stmt := topS 49
abbrev N_law_names : List Str := ["drawer", "many", "names", "k", "letter"]
abbrev P_law_names : List Str := ["drawer", "many"]
theorem sc_law_names : FnScope N_law_names P_law_names (defScope s_law_names) := ⟨rfl, rfl, rfl, by decide +kernel, rfl, by decide +kernel, by decide +kernel⟩
abbrev s_law_target : Stmt := topS 50
abbrev N_law_target : List Str := ["drawer", "names", "k", "rings"]
abbrev P_law_target : List Str := ["drawer", "names", "k", "rings"]
theorem sc_law_target : FnScope N_law_target P_law_target (defScope s_law_target) := ⟨rfl, rfl, rfl, by decide +kernel, rfl, by decide +kernel, by decide +kernel⟩
abbrev s_law_menu : Stmt := topS 51
abbrev N_law_menu : List Str := ["drawer", "letter", "menus"]
abbrev P_law_menu : List Str := ["drawer"]
theorem sc_law_menu : FnScope N_law_menu P_law_menu (defScope s_law_menu) := ⟨rfl, rfl, rfl, by decide +kernel, rfl, by decide +kernel, by decide +kernel⟩
abbrev s_law_stand : Stmt := topS 52
abbrev N_law_stand : List Str := ["drawer", "names", "k", "hands", "menu", "rings", "sort", "count", "shift", "steps", "hand", "j", "weight"]
abbrev P_law_stand : List Str := ["drawer", "names", "k", "hands", "menu", "rings"]
theorem sc_law_stand : FnScope N_law_stand P_law_stand (defScope s_law_stand) := ⟨rfl, rfl, rfl, by decide +kernel, rfl, by decide +kernel, by decide +kernel⟩
abbrev s_law_stands : Stmt := topS 53
abbrev N_law_stands : List Str := ["drawer", "names", "hands", "rings", "menu", "stands", "k"]
abbrev P_law_stands : List Str := ["drawer", "names", "hands", "rings"]
theorem sc_law_stands : FnScope N_law_stands P_law_stands (defScope s_law_stands) := ⟨rfl, rfl, rfl, by decide +kernel, rfl, by decide +kernel, by decide +kernel⟩
abbrev s_law_build : Stmt := topS 54
abbrev N_law_build : List Str := ["script", "drawer", "hands", "many", "rings", "names"]
abbrev P_law_build : List Str := ["script"]
theorem sc_law_build : FnScope N_law_build P_law_build (defScope s_law_build) := ⟨rfl, rfl, rfl, by decide +kernel, rfl, by decide +kernel, by decide +kernel⟩
abbrev s_law_steps : Stmt := topS 55
abbrev N_law_steps : List Str := ["stands", "stand", "row"]
abbrev P_law_steps : List Str := ["stands", "stand"]
theorem sc_law_steps : FnScope N_law_steps P_law_steps (defScope s_law_steps) := ⟨rfl, rfl, rfl, by decide +kernel, rfl, by decide +kernel, by decide +kernel⟩
abbrev s_law_to : Stmt := topS 56
abbrev N_law_to : List Str := ["stands", "stand", "step", "row"]
abbrev P_law_to : List Str := ["stands", "stand", "step"]
theorem sc_law_to : FnScope N_law_to P_law_to (defScope s_law_to) := ⟨rfl, rfl, rfl, by decide +kernel, rfl, by decide +kernel, by decide +kernel⟩
abbrev s_law_mover : Stmt := topS 57
abbrev N_law_mover : List Str := ["stands", "stand"]
abbrev P_law_mover : List Str := ["stands", "stand"]
theorem sc_law_mover : FnScope N_law_mover P_law_mover (defScope s_law_mover) := ⟨rfl, rfl, rfl, by decide +kernel, rfl, by decide +kernel, by decide +kernel⟩
abbrev s_law_worths : Stmt := topS 58
abbrev N_law_worths : List Str := ["drawer", "stands", "size", "worths", "stand"]
abbrev P_law_worths : List Str := ["drawer", "stands"]
theorem sc_law_worths : FnScope N_law_worths P_law_worths (defScope s_law_worths) := ⟨rfl, rfl, rfl, by decide +kernel, rfl, by decide +kernel, by decide +kernel⟩
abbrev s_law_endless : Stmt := topS 59
abbrev N_law_endless : List Str := ["drawer", "worths", "values", "stand", "gap"]
abbrev P_law_endless : List Str := ["drawer", "worths"]
theorem sc_law_endless : FnScope N_law_endless P_law_endless (defScope s_law_endless) := ⟨rfl, rfl, rfl, by decide +kernel, rfl, by decide +kernel, by decide +kernel⟩
abbrev s_law_level : Stmt := topS 60
abbrev N_law_level : List Str := ["drawer", "worths", "endless", "values", "stand", "value", "way"]
abbrev P_law_level : List Str := ["drawer", "worths", "endless"]
theorem sc_law_level : FnScope N_law_level P_law_level (defScope s_law_level) := ⟨rfl, rfl, rfl, by decide +kernel, rfl, by decide +kernel, by decide +kernel⟩
abbrev s_common_divisor : Stmt := topS 5
abbrev N_common_divisor : List Str := ["one", "other"]
abbrev P_common_divisor : List Str := ["one", "other"]
theorem sc_common_divisor : FnScope N_common_divisor P_common_divisor (defScope s_common_divisor) := ⟨rfl, rfl, rfl, by decide +kernel, rfl, by decide +kernel, by decide +kernel⟩
abbrev s_is_fraction : Stmt := topS 6
abbrev N_is_fraction : List Str := ["thing"]
abbrev P_is_fraction : List Str := ["thing"]
theorem sc_is_fraction : FnScope N_is_fraction P_is_fraction (defScope s_is_fraction) := ⟨rfl, rfl, rfl, by decide +kernel, rfl, by decide +kernel, by decide +kernel⟩
abbrev s_is_value : Stmt := topS 21
abbrev N_is_value : List Str := ["thing"]
abbrev P_is_value : List Str := ["thing"]
theorem sc_is_value : FnScope N_is_value P_is_value (defScope s_is_value) := ⟨rfl, rfl, rfl, by decide +kernel, rfl, by decide +kernel, by decide +kernel⟩
abbrev s_are_worths : Stmt := topS 22
abbrev N_are_worths : List Str := ["thing", "name", "value"]
abbrev P_are_worths : List Str := ["thing"]
theorem sc_are_worths : FnScope N_are_worths P_are_worths (defScope s_are_worths) := ⟨rfl, rfl, rfl, by decide +kernel, rfl, by decide +kernel, by decide +kernel⟩
abbrev s_Wish_init : Stmt := inClass (topS 23) 0
abbrev N_Wish_init : List Str := ["self", "worths", "endless", "below", "value", "above", "name"]
abbrev P_Wish_init : List Str := ["self", "worths", "endless"]
theorem sc_Wish_init : FnScope N_Wish_init P_Wish_init (defScope s_Wish_init) := ⟨rfl, rfl, rfl, by decide +kernel, rfl, by decide +kernel, by decide +kernel⟩
abbrev s_Wish_worths : Stmt := inClass (topS 23) 1
abbrev N_Wish_worths : List Str := ["self", "name"]
abbrev P_Wish_worths : List Str := ["self"]
theorem sc_Wish_worths : FnScope N_Wish_worths P_Wish_worths (defScope s_Wish_worths) := ⟨rfl, rfl, rfl, by decide +kernel, rfl, by decide +kernel, by decide +kernel⟩
abbrev s_suited : Stmt := topS 24
abbrev N_suited : List Str := ["work", "wish"]
abbrev P_suited : List Str := ["work", "wish"]
theorem sc_suited : FnScope N_suited P_suited (defScope s_suited) := ⟨rfl, rfl, rfl, by decide +kernel, rfl, by decide +kernel, by decide +kernel⟩
abbrev s_is_row : Stmt := topS 3
abbrev N_is_row : List Str := ["thing"]
abbrev P_is_row : List Str := ["thing"]
theorem sc_is_row : FnScope N_is_row P_is_row (defScope s_is_row) := ⟨rfl, rfl, rfl, by decide +kernel, rfl, by decide +kernel, by decide +kernel⟩
abbrev s_passed : Stmt := topS 18
abbrev N_passed : List Str := ["work", "run", "at", "found", "index", "step"]
abbrev P_passed : List Str := ["work", "run"]
theorem sc_passed : FnScope N_passed P_passed (defScope s_passed) := ⟨rfl, rfl, rfl, by decide +kernel, rfl, by decide +kernel, by decide +kernel⟩
abbrev s_movers : Stmt := topS 19
abbrev N_movers : List Str := ["work", "run", "stands", "stand"]
abbrev P_movers : List Str := ["work", "run"]
theorem sc_movers : FnScope N_movers P_movers (defScope s_movers) := ⟨rfl, rfl, rfl, by decide +kernel, rfl, by decide +kernel, by decide +kernel⟩
abbrev s_is_entry : Stmt := topS 26
abbrev N_is_entry : List Str := ["steps", "row", "at", "move"]
abbrev P_is_entry : List Str := ["steps", "row"]
theorem sc_is_entry : FnScope N_is_entry P_is_entry (defScope s_is_entry) := ⟨rfl, rfl, rfl, by decide +kernel, rfl, by decide +kernel, by decide +kernel⟩
abbrev s_is_book : Stmt := topS 27
abbrev N_is_book : List Str := ["work", "thing", "stand"]
abbrev P_is_book : List Str := ["work", "thing"]
theorem sc_is_book : FnScope N_is_book P_is_book (defScope s_is_book) := ⟨rfl, rfl, rfl, by decide +kernel, rfl, by decide +kernel, by decide +kernel⟩
abbrev s_let_steps : Stmt := topS 28
abbrev N_let_steps : List Str := ["work", "book", "stand"]
abbrev P_let_steps : List Str := ["work", "book", "stand"]
theorem sc_let_steps : FnScope N_let_steps P_let_steps (defScope s_let_steps) := ⟨rfl, rfl, rfl, by decide +kernel, rfl, by decide +kernel, by decide +kernel⟩
abbrev s_let_ways : Stmt := topS 30
abbrev N_let_ways : List Str := ["work", "book", "ways", "waiting", "at", "stand", "step", "goal"]
abbrev P_let_ways : List Str := ["work", "book"]
theorem sc_let_ways : FnScope N_let_ways P_let_ways (defScope s_let_ways) := ⟨rfl, rfl, rfl, by decide +kernel, rfl, by decide +kernel, by decide +kernel⟩
abbrev s_way_to : Stmt := topS 31
abbrev N_way_to : List Str := ["ways", "stand", "steps", "at", "step"]
abbrev P_way_to : List Str := ["ways", "stand"]
theorem sc_way_to : FnScope N_way_to P_way_to (defScope s_way_to) := ⟨rfl, rfl, rfl, by decide +kernel, rfl, by decide +kernel, by decide +kernel⟩
abbrev s_is_below : Stmt := topS 32
abbrev N_is_below : List Str := ["worth", "level"]
abbrev P_is_below : List Str := ["worth", "level"]
theorem sc_is_below : FnScope N_is_below P_is_below (defScope s_is_below) := ⟨rfl, rfl, rfl, by decide +kernel, rfl, by decide +kernel, by decide +kernel⟩
abbrev s_checked_book : Stmt := topS 33
abbrev N_checked_book : List Str := ["work", "wish", "level", "book"]
abbrev P_checked_book : List Str := ["work", "wish", "level", "book"]
theorem sc_checked_book : FnScope N_checked_book P_checked_book (defScope s_checked_book) := ⟨rfl, rfl, rfl, by decide +kernel, rfl, by decide +kernel, by decide +kernel⟩
abbrev s_breaking : Stmt := topS 34
abbrev N_breaking : List Str := ["work", "wish", "level", "book", "worths", "ways", "stand"]
abbrev P_breaking : List Str := ["work", "wish", "level", "book"]
theorem sc_breaking : FnScope N_breaking P_breaking (defScope s_breaking) := ⟨rfl, rfl, rfl, by decide +kernel, rfl, by decide +kernel, by decide +kernel⟩
abbrev s_keeps : Stmt := topS 35
abbrev N_keeps : List Str := ["work", "wish", "level", "book"]
abbrev P_keeps : List Str := ["work", "wish", "level", "book"]
theorem sc_keeps : FnScope N_keeps P_keeps (defScope s_keeps) := ⟨rfl, rfl, rfl, by decide +kernel, rfl, by decide +kernel, by decide +kernel⟩
abbrev s_kept_stands : Stmt := topS 36
abbrev N_kept_stands : List Str := ["work", "wish", "level", "book"]
abbrev P_kept_stands : List Str := ["work", "wish", "level", "book"]
theorem sc_kept_stands : FnScope N_kept_stands P_kept_stands (defScope s_kept_stands) := ⟨rfl, rfl, rfl, by decide +kernel, rfl, by decide +kernel, by decide +kernel⟩
abbrev s_first_breach : Stmt := topS 29
abbrev N_first_breach : List Str := ["work", "book", "run", "stands", "hands", "at", "step"]
abbrev P_first_breach : List Str := ["work", "book", "run"]
theorem sc_first_breach : FnScope N_first_breach P_first_breach (defScope s_first_breach) := ⟨rfl, rfl, rfl, by decide +kernel, rfl, by decide +kernel, by decide +kernel⟩
abbrev s_law_book : Stmt := topS 61
abbrev N_law_book : List Str := ["drawer", "stands", "book", "stand", "steps", "bits", "row", "at"]
abbrev P_law_book : List Str := ["drawer", "stands"]
theorem sc_law_book : FnScope N_law_book P_law_book (defScope s_law_book) := ⟨rfl, rfl, rfl, by decide +kernel, rfl, by decide +kernel, by decide +kernel⟩
abbrev s_law_let : Stmt := topS 62
abbrev N_law_let : List Str := ["stands", "book", "stand"]
abbrev P_law_let : List Str := ["stands", "book", "stand"]
theorem sc_law_let : FnScope N_law_let P_law_let (defScope s_law_let) := ⟨rfl, rfl, rfl, by decide +kernel, rfl, by decide +kernel, by decide +kernel⟩
abbrev s_law_reached : Stmt := topS 63
abbrev N_law_reached : List Str := ["stands", "book", "start", "depths", "found", "at", "step", "to"]
abbrev P_law_reached : List Str := ["stands", "book", "start"]
theorem sc_law_reached : FnScope N_law_reached P_law_reached (defScope s_law_reached) := ⟨rfl, rfl, rfl, by decide +kernel, rfl, by decide +kernel, by decide +kernel⟩
abbrev s_law_same : Stmt := topS 64
abbrev N_law_same : List Str := ["told", "expected"]
abbrev P_law_same : List Str := ["told", "expected"]
theorem sc_law_same : FnScope N_law_same P_law_same (defScope s_law_same) := ⟨rfl, rfl, rfl, by decide +kernel, rfl, by decide +kernel, by decide +kernel⟩
abbrev s_law_breaks : Stmt := topS 65
abbrev N_law_breaks : List Str := ["stands", "worths", "level", "book", "start", "run", "many", "at", "step"]
abbrev P_law_breaks : List Str := ["stands", "worths", "level", "book", "start", "run", "many"]
theorem sc_law_breaks : FnScope N_law_breaks P_law_breaks (defScope s_law_breaks) := ⟨rfl, rfl, rfl, by decide +kernel, rfl, by decide +kernel, by decide +kernel⟩
abbrev s_law_asked : Stmt := topS 66
abbrev N_law_asked : List Str := ["work", "wish", "stands", "worths", "level", "book", "start", "depths", "low", "end", "run", "found"]
abbrev P_law_asked : List Str := ["work", "wish", "stands", "worths", "level", "book", "start"]
theorem sc_law_asked : FnScope N_law_asked P_law_asked (defScope s_law_asked) := ⟨rfl, rfl, rfl, by decide +kernel, rfl, by decide +kernel, by decide +kernel⟩
abbrev s_law_known_breach : Stmt := topS 67
abbrev N_law_known_breach : List Str := ["work", "wish", "stands", "level", "book", "run", "breach", "at", "step"]
abbrev P_law_known_breach : List Str := ["work", "wish", "stands", "level", "book"]
theorem sc_law_known_breach : FnScope N_law_known_breach P_law_known_breach (defScope s_law_known_breach) := ⟨rfl, rfl, rfl, by decide +kernel, rfl, by decide +kernel, by decide +kernel⟩
abbrev s_law_turned : Stmt := topS 68
abbrev N_law_turned : List Str := ["table", "found", "key"]
abbrev P_law_turned : List Str := ["table"]
theorem sc_law_turned : FnScope N_law_turned P_law_turned (defScope s_law_turned) := ⟨rfl, rfl, rfl, by decide +kernel, rfl, by decide +kernel, by decide +kernel⟩
abbrev s_law_turned_stands : Stmt := topS 69
abbrev N_law_turned_stands : List Str := ["stands", "found", "stand", "row"]
abbrev P_law_turned_stands : List Str := ["stands"]
theorem sc_law_turned_stands : FnScope N_law_turned_stands P_law_turned_stands (defScope s_law_turned_stands) := ⟨rfl, rfl, rfl, by decide +kernel, rfl, by decide +kernel, by decide +kernel⟩
abbrev s_law_entry : Stmt := topS 70
abbrev N_law_entry : List Str := ["steps", "row", "move", "step"]
abbrev P_law_entry : List Str := ["steps", "row"]
theorem sc_law_entry : FnScope N_law_entry P_law_entry (defScope s_law_entry) := ⟨rfl, rfl, rfl, by decide +kernel, rfl, by decide +kernel, by decide +kernel⟩
abbrev s_law_right : Stmt := topS 71
abbrev N_law_right : List Str := ["stands", "thing", "stand"]
abbrev P_law_right : List Str := ["stands", "thing"]
theorem sc_law_right : FnScope N_law_right P_law_right (defScope s_law_right) := ⟨rfl, rfl, rfl, by decide +kernel, rfl, by decide +kernel, by decide +kernel⟩
abbrev s_law_spoiled : Stmt := topS 72
abbrev N_law_spoiled : List Str := ["drawer", "stands", "book", "names", "stand", "steps", "choice"]
abbrev P_law_spoiled : List Str := ["drawer", "stands", "book"]
theorem sc_law_spoiled : FnScope N_law_spoiled P_law_spoiled (defScope s_law_spoiled) := ⟨rfl, rfl, rfl, by decide +kernel, rfl, by decide +kernel, by decide +kernel⟩
abbrev s_law_refused : Stmt := topS 73
abbrev N_law_refused : List Str := ["call", "work", "wish", "level", "thing", "found"]
abbrev P_law_refused : List Str := ["call", "work", "wish", "level", "thing"]
theorem sc_law_refused : FnScope N_law_refused P_law_refused (defScope s_law_refused) := ⟨rfl, rfl, rfl, by decide +kernel, rfl, by decide +kernel, by decide +kernel⟩
abbrev s_law : Stmt := topS 74
abbrev N_law : List Str := ["script", "hands", "names", "stands", "drawer", "worths", "endless", "level", "book", "work", "wish", "before", "other", "turned", "mixed", "stand", "told", "mirror", "end", "lesser", "thing", "due", "call"]
abbrev P_law : List Str := ["script"]
theorem sc_law : FnScope N_law P_law (defScope s_law) := ⟨rfl, rfl, rfl, by decide +kernel, rfl, by decide +kernel, by decide +kernel⟩
/-- what the top has written, as the walk asks it -/
structure Tx (K : PySem.W.Frag) (mg : Str → Option Value) where
  is_integer : FX K mg "is_integer" "is_integer" s_is_integer P_is_integer
  is_name : FX K mg "is_name" "is_name" s_is_name P_is_name
  is_pair : FX K mg "is_pair" "is_pair" s_is_pair P_is_pair
  is_moves : FX K mg "is_moves" "is_moves" s_is_moves P_is_moves
  is_draws : FX K mg "is_draws" "is_draws" s_is_draws P_is_draws
  is_stand : FX K mg "is_stand" "is_stand" s_is_stand P_is_stand
  are_stands : FX K mg "are_stands" "are_stands" s_are_stands P_are_stands
  copied : FX K mg "copied" "copied" s_copied P_copied
  leads : FX K mg "leads" "leads" s_leads P_leads
  is_ringless : FX K mg "is_ringless" "is_ringless" s_is_ringless P_is_ringless
  Work_init : MX K "__init__" "Work.__init__" s_Work_init P_Work_init
  Work_row : MX K "row" "Work.row" s_Work_row P_Work_row
  Work_kind : MX K "kind" "Work.kind" s_Work_kind P_Work_kind
  Work_mover : MX K "mover" "Work.mover" s_Work_mover P_Work_mover
  Work_steps : MX K "steps" "Work.steps" s_Work_steps P_Work_steps
  Work_to : MX K "to" "Work.to" s_Work_to P_Work_to
  law_open : FX K mg "_law_open" "_law_open" s_law_open P_law_open
  law_draw : FX K mg "_law_draw" "_law_draw" s_law_draw P_law_draw
  law_names : FX K mg "_law_names" "_law_names" s_law_names P_law_names
  law_target : FX K mg "_law_target" "_law_target" s_law_target P_law_target
  law_menu : FX K mg "_law_menu" "_law_menu" s_law_menu P_law_menu
  law_stand : FX K mg "_law_stand" "_law_stand" s_law_stand P_law_stand
  law_stands : FX K mg "_law_stands" "_law_stands" s_law_stands P_law_stands
  law_build : FX K mg "_law_build" "_law_build" s_law_build P_law_build
  law_steps : FX K mg "_law_steps" "_law_steps" s_law_steps P_law_steps
  law_to : FX K mg "_law_to" "_law_to" s_law_to P_law_to
  law_mover : FX K mg "_law_mover" "_law_mover" s_law_mover P_law_mover
  law_worths : FX K mg "_law_worths" "_law_worths" s_law_worths P_law_worths
  law_endless : FX K mg "_law_endless" "_law_endless" s_law_endless P_law_endless
  law_level : FX K mg "_law_level" "_law_level" s_law_level P_law_level
  common_divisor : FX K mg "common_divisor" "common_divisor" s_common_divisor P_common_divisor
  is_fraction : FX K mg "is_fraction" "is_fraction" s_is_fraction P_is_fraction
  is_value : FX K mg "is_value" "is_value" s_is_value P_is_value
  are_worths : FX K mg "are_worths" "are_worths" s_are_worths P_are_worths
  Wish_init : MX K "__init__" "Wish.__init__" s_Wish_init P_Wish_init
  Wish_worths : MX K "worths" "Wish.worths" s_Wish_worths P_Wish_worths
  suited : FX K mg "suited" "suited" s_suited P_suited
  is_row : FX K mg "is_row" "is_row" s_is_row P_is_row
  passed : FX K mg "passed" "passed" s_passed P_passed
  movers : FX K mg "movers" "movers" s_movers P_movers
  is_entry : FX K mg "is_entry" "is_entry" s_is_entry P_is_entry
  is_book : FX K mg "is_book" "is_book" s_is_book P_is_book
  let_steps : FX K mg "let_steps" "let_steps" s_let_steps P_let_steps
  let_ways : FX K mg "let_ways" "let_ways" s_let_ways P_let_ways
  way_to : FX K mg "way_to" "way_to" s_way_to P_way_to
  is_below : FX K mg "is_below" "is_below" s_is_below P_is_below
  checked_book : FX K mg "checked_book" "checked_book" s_checked_book P_checked_book
  breaking : FX K mg "breaking" "breaking" s_breaking P_breaking
  keeps : FX K mg "keeps" "keeps" s_keeps P_keeps
  kept_stands : FX K mg "kept_stands" "kept_stands" s_kept_stands P_kept_stands
  first_breach : FX K mg "first_breach" "first_breach" s_first_breach P_first_breach
  law_book : FX K mg "_law_book" "_law_book" s_law_book P_law_book
  law_let : FX K mg "_law_let" "_law_let" s_law_let P_law_let
  law_reached : FX K mg "_law_reached" "_law_reached" s_law_reached P_law_reached
  law_same : FX K mg "_law_same" "_law_same" s_law_same P_law_same
  law_breaks : FX K mg "_law_breaks" "_law_breaks" s_law_breaks P_law_breaks
  law_asked : FX K mg "_law_asked" "_law_asked" s_law_asked P_law_asked
  law_known_breach : FX K mg "_law_known_breach" "_law_known_breach" s_law_known_breach P_law_known_breach
  law_turned : FX K mg "_law_turned" "_law_turned" s_law_turned P_law_turned
  law_turned_stands : FX K mg "_law_turned_stands" "_law_turned_stands" s_law_turned_stands P_law_turned_stands
  law_entry : FX K mg "_law_entry" "_law_entry" s_law_entry P_law_entry
  law_right : FX K mg "_law_right" "_law_right" s_law_right P_law_right
  law_spoiled : FX K mg "_law_spoiled" "_law_spoiled" s_law_spoiled P_law_spoiled
  law_refused : FX K mg "_law_refused" "_law_refused" s_law_refused P_law_refused
  law : FX K mg "law" "law" s_law P_law
  b_abs : mg "abs" = none
  b_all : mg "all" = none
  b_bool : mg "bool" = none
  b_dict : mg "dict" = none
  b_enumerate : mg "enumerate" = none
  b_int : mg "int" = none
  b_isinstance : mg "isinstance" = none
  b_len : mg "len" = none
  b_list : mg "list" = none
  b_max : mg "max" = none
  b_min : mg "min" = none
  b_range : mg "range" = none
  b_repr : mg "repr" = none
  b_sorted : mg "sorted" = none
  b_str : mg "str" = none
  b_tuple : mg "tuple" = none
  a_Work : Addr
  g_Work : mg "Work" = some (.ref a_Work)
  cl_Work : Cls K a_Work
  m_Work : Mk K a_Work Work_init.f
  n_Work_hands : NoAttr K a_Work "hands"
  n_Work_start : NoAttr K a_Work "start"
  n_Work_table : NoAttr K a_Work "table"
  n_Work_names : NoAttr K a_Work "names"
  n_Work_ends : NoAttr K a_Work "ends"
  n_Work_ringless : NoAttr K a_Work "ringless"
  a_Wish : Addr
  g_Wish : mg "Wish" = some (.ref a_Wish)
  cl_Wish : Cls K a_Wish
  m_Wish : Mk K a_Wish Wish_init.f
  n_Wish_table : NoAttr K a_Wish "table"
  n_Wish_endless : NoAttr K a_Wish "endless"
  n_Wish_coming : NoAttr K a_Wish "coming"
  me_Work_row : Meth K a_Work "row" Work_row.f
  me_Work_kind : Meth K a_Work "kind" Work_kind.f
  me_Work_mover : Meth K a_Work "mover" Work_mover.f
  me_Work_steps : Meth K a_Work "steps" Work_steps.f
  me_Work_to : Meth K a_Work "to" Work_to.f
  p_Wish_worths : Addr
  pr_Wish_worths : PropOf K a_Wish "worths" p_Wish_worths Wish_worths.f
  c_BadRun : Addr
  i_BadRun : Addr
  d_BadRun : FuncData
  g_BadRun : mg "BadRun" = some (.ref c_BadRun)
  s_BadRun : SupX.SupTxt K mg c_BadRun i_BadRun d_BadRun "BadRun.__init__" "index"
  c_BadBook : Addr
  g_BadBook : mg "BadBook" = some (.ref c_BadBook)
  p_BadBook : SupX.PlnTxt K c_BadBook
  c_BadFraction : Addr
  g_BadFraction : mg "BadFraction" = some (.ref c_BadFraction)
  p_BadFraction : SupX.PlnTxt K c_BadFraction
  c_OwnError : Addr
  g_OwnError : mg "OwnError" = some (.ref c_OwnError)
  xp_BadBook_BadBook : PySem.W.exmOne K (.ref c_BadBook) (.ref c_BadBook) = some true
end M

namespace M
open PySem PySem.Spec PyProof.Rows L2
/-! ### names -/
def lowB (c : Nat) : Bool := decide (97 ≤ c) && decide (c ≤ 122)
def digB (c : Nat) : Bool := decide (48 ≤ c) && decide (c ≤ 57)
def nameL (l : List Nat) : Bool := decide (1 ≤ l.length) && decide (l.length ≤ 8) && lowB (l.getD 0 0) && l.all fun c => lowB c || digB c
def nameB (s : Str) : Bool := nameL s.cps.toList
theorem lt1 (a b : Nat) : decide (([a] : List Nat) < [b]) = decide (a < b) := by
  by_cases h : a < b
  · rw [decide_eq_true h, decide_eq_true]
    exact List.Lex.rel h
  · rw [decide_eq_false h, decide_eq_false]
    intro q
    cases q with
    | rel q => exact h q
    | cons q => cases q
section
variable {P : Program} {w : World} {K : PySem.W.Frag} {mg : Str → Option Value} {base : Heap}
def sp_is_integer (T : Tx K mg) : Sp := fun vs H Q _ => ∃ i, vs = [.int i] ∧ Q (.bl true) H
theorem ok_is_integer (T : Tx K mg) : FnOk P w K mg base CX0 1 T.is_integer.f T.is_integer.fd P_is_integer (sp_is_integer T) := by
  refine T.is_integer.F.ok sc_is_integer (fun vs H Q E h => ?_) (fun cdv A outer s H vs Q E hr h => ?_)
  · obtain ⟨i, rfl, k⟩ := h
    rfl
  have hu := hu_of hr
  have nd := sc_is_integer.nd
  obtain ⟨i, rfl, k⟩ := h
  refine ⟨_, (pss_one (ps_ret (pe_and (pe_callB (w_isi (K := K) rfl) (by rfl) T.b_isinstance (by decide +kernel) (pa_cons (pv 0) (pa_cons (pe_bltn (v := .ty "int") (by rfl) T.b_int (by decide +kernel) rfl) pa_nil))) (pe_one (pe_not (pe_callB (w_isi (K := K) rfl) (by rfl) T.b_isinstance (by decide +kernel) (pa_cons (pv 0) (pa_cons (pe_bltn (v := .ty "bool") (by rfl) T.b_bool (by decide +kernel) rfl) pa_nil)))))))), ?_⟩
  refine x_start (σ' := [some _]) rfl ?_
  try simp only [cx_n, cx_K, cx_w, cx_P]
  walk_at "rd"
  refine x_isiT (.base (.int i)) (by decide +kernel) ?_
  walk_at "rd"
  refine x_isiF (.base (.int i)) (by decide +kernel) ?_
  walk_at "rd"
  exact k
def sp_is_name (T : Tx K mg) : Sp := fun vs H Q _ => ∃ s, vs = [.str s] ∧ s.length ≤ 10000 ∧ Q (.bl (nameB s)) H
theorem nameB_len {s : Str} (h : ¬ (1 ≤ s.length ∧ s.length ≤ 8)) : nameB s = false := by
  unfold nameB nameL
  have e : s.cps.toList.length = s.length := by simp [Str.length]
  rw [e]
  by_cases h1 : 1 ≤ s.length
  · have h2 : ¬ s.length ≤ 8 := fun q => h ⟨h1, q⟩
    simp [h2]
  · simp [h1]
theorem nameB_low {s : Str} (h : lowB (s.cps.toList.getD 0 0) = false) : nameB s = false := by
  unfold nameB nameL
  rw [h]
  simp
theorem nameB_all {s : Str} {c : Nat} (hc : c ∈ s.cps.toList) (h : (lowB c || digB c) = false) : nameB s = false := by
  unfold nameB nameL
  have : (s.cps.toList.all fun c => lowB c || digB c) = false := by
    rw [List.all_eq_false]
    exact ⟨c, hc, by simpa using h⟩
  rw [this]
  simp
theorem nameB_yes {s : Str} (h1 : 1 ≤ s.length ∧ s.length ≤ 8) (h2 : lowB (s.cps.toList.getD 0 0) = true) (h3 : ∀ c ∈ s.cps.toList, (lowB c || digB c) = true) : nameB s = true := by
  unfold nameB nameL
  have e : s.cps.toList.length = s.length := by simp [Str.length]
  rw [e, h2, List.all_eq_true.mpr h3]
  simp [h1.1, h1.2]
theorem sz10 {n : Nat} (h : n ≤ 10000) : n ≤ sizeLine := Nat.le_trans h (by decide)
/-- 'a' <= c, c <= 'z' and the like -/
theorem le_lit (a c : Nat) : (!decide ((⟨#[c]⟩ : Str).cps.toList < (⟨#[a]⟩ : Str).cps.toList)) = decide (a ≤ c) := by
  show (!decide (([c] : List Nat) < [a])) = decide (a ≤ c)
  rw [lt1]
  by_cases h : a ≤ c
  · rw [decide_eq_true h, decide_eq_false (by omega)]
    rfl
  · rw [decide_eq_false h, decide_eq_true (by omega)]
    rfl
theorem lit_a : ("a" : Str) = ⟨#[97]⟩ := by decide +kernel
theorem lit_z : ("z" : Str) = ⟨#[122]⟩ := by decide +kernel
theorem lit_0 : ("0" : Str) = ⟨#[48]⟩ := by decide +kernel
theorem lit_9 : ("9" : Str) = ⟨#[57]⟩ := by decide +kernel
theorem ok_is_name (T : Tx K mg) : FnOk P w K mg base CX0 1 T.is_name.f T.is_name.fd P_is_name (sp_is_name T) := by
  refine T.is_name.F.ok sc_is_name (fun vs H Q E h => ?_) (fun cdv A outer s H vs Q E hr h => ?_)
  · obtain ⟨s, rfl, hs, k⟩ := h
    rfl
  have hu := hu_of hr
  have nd := sc_is_name.nd
  obtain ⟨s, rfl, hs, k⟩ := h
  refine ⟨_, (pss_cons (ps_if (PW.pt (pw_or (pt_not (pt_val (pe_callB (w_isi (K := K) rfl) (by rfl) T.b_isinstance (by decide +kernel) (pa_cons (pv 0) (pa_cons (pe_bltn (v := .ty "str") (by rfl) T.b_str (by decide +kernel) rfl) pa_nil))))) (pw_or1 (pt_not (pt_chain op_le op_le pe_int (pe_callB (w_len (K := K) rfl) (by rfl) T.b_len (by decide +kernel) (pa_cons (pv 0) pa_nil)) pe_int))))) (pss_one (ps_ret pe_bl)) pss_nil)
      (pss_cons (ps_if (pt_not (pt_chain op_leS op_leS pe_str (pe_ix ix_str (pv 0) pe_int (fun _ _ => rfl)) pe_str)) (pss_one (ps_ret pe_bl)) pss_nil)
      (pss_cons (ps_for PassesOwn.never rfl (pi_str (pv 0)) (pg_name (i := 1) nd rfl (Or.inl rfl)) (pss_one (ps_if (PW.pt (pw_and (pt_not (pt_chain op_leS op_leS pe_str (pv 1) pe_str)) (pw_and1 (pt_not (pt_chain op_leS op_leS pe_str (pv 1) pe_str))))) (pss_one (ps_ret pe_bl)) pss_nil)))
      (pss_one (ps_ret pe_bl))))), ?_⟩
  refine x_start (σ' := [some _, none]) rfl ?_
  try simp only [cx_n, cx_K, cx_w, cx_P]
  simp only [lit_a, lit_z, lit_0, lit_9]
  walk_at "rd"
  refine x_isiT (.base (.str s)) (by decide +kernel) ?_
  walk_at "rd"
  refine x_lenS' (sz10 hs) ?_
  walk_at "rd"
  have es : s.cps.toList.length = s.length := by simp [Str.length]
  have kf : nameB s = false → Q (.bl false) H := fun e => by
    rw [e] at k
    exact k
  refine x_cases (fun h1 => ?_) (fun h1 => ?_)
  rotate_left
  · walk_at "rd"
    exact kf (nameB_len fun q => by simp at h1; omega)
  walk_at "rd"
  refine x_cases (fun h2 => ?_) (fun h2 => ?_)
  · walk_at "rd"
    exact kf (nameB_len fun q => by simp at h2; omega)
  walk_at "rd"
  have hlen : 1 ≤ s.length ∧ s.length ≤ 8 := by simp at h1 h2; omega
  obtain ⟨c0, hc0⟩ : ∃ c, s.cps.toList[0]? = some c := ⟨s.cps.toList[0]'(by omega), by simp⟩
  have hd0 : s.cps.toList.getD 0 0 = c0 := by rw [List.getD_eq_getElem?_getD, hc0]; rfl
  refine x_ixS (sz10 hs) (atI_nat (j := 0) hc0) ?_
  walk_at "rd"
  rw [le_lit]
  refine x_cases (fun h3 => ?_) (fun h3 => ?_)
  rotate_left
  · walk_at "rd"
    exact kf (nameB_low (by rw [hd0]; unfold lowB; rw [h3]; rfl))
  walk_at "rd"
  rw [le_lit]
  refine x_cases (fun h4 => ?_) (fun h4 => ?_)
  · walk_at "rd"
    exact kf (nameB_low (by rw [hd0]; unfold lowB; simp at h4; simp [h4]))
  walk_at "rd"
  have hlow : lowB (s.cps.toList.getD 0 0) = true := by
    rw [hd0]
    unfold lowB
    simp at h3 h4
    simp [h3, h4]
  refine for_it walk_str (fun i σ H' => H' = H ∧ ∃ c, σ = [some (.str s), c] ∧ ∀ j, j < i → ∀ c, s.cps.toList[j]? = some c → (lowB c || digB c) = true) ⟨rfl, _, rfl, fun j hj => absurd hj (Nat.not_lt_zero _)⟩ (fun _ _ _ _ _ => trivial) ?_ ?_
  · rintro i x σ H0 H1 hi ⟨rfl, cc, rfl, hj⟩ ⟨rfl, c, hc, rfl⟩
    walk_at "rd"
    rw [le_lit]
    have mem : c ∈ s.cps.toList := by
      rw [Array.mem_toList_iff]
      exact Array.mem_of_getElem? hc
    have next : (lowB c || digB c) = true → ∀ j, j < i + 1 → ∀ c, s.cps.toList[j]? = some c → (lowB c || digB c) = true := fun h j hj' d hd => by
      by_cases e : j = i
      · subst e
        have : some c = some d := by rw [← hc, ← hd]; simp
        cases this
        exact h
      · exact hj j (by omega) d hd
    refine x_cases (fun h5 => ?_) (fun h5 => ?_)
    · walk_at "rd"
      rw [le_lit]
      refine x_cases (fun h6 => ?_) (fun h6 => ?_)
      · walk_at "rd"
        rw [le_lit]
        refine x_cases (fun h7 => ?_) (fun h7 => ?_)
        · walk_at "rd"
          rw [le_lit]
          refine x_cases (fun h8 => ?_) (fun h8 => ?_)
          · walk_at "rd"
            exact kf (nameB_all mem (by simp at h5 h6 h7 h8; simp [lowB, digB]; omega))
          · walk_at "rd"
            exact ⟨rfl, _, rfl, next (by simp at h5 h6 h7 h8; simp [lowB, digB]; omega)⟩
        · walk_at "rd"
          exact kf (nameB_all mem (by simp at h5 h6 h7; simp [lowB, digB]; omega))
      · walk_at "rd"
        exact ⟨rfl, _, rfl, next (by simp at h5 h6; simp [lowB, digB]; omega)⟩
    · walk_at "rd"
      rw [le_lit]
      refine x_cases (fun h7 => ?_) (fun h7 => ?_)
      · walk_at "rd"
        rw [le_lit]
        refine x_cases (fun h8 => ?_) (fun h8 => ?_)
        · walk_at "rd"
          exact kf (nameB_all mem (by simp at h5 h7 h8; simp [lowB, digB]; omega))
        · walk_at "rd"
          exact ⟨rfl, _, rfl, next (by simp at h5 h7 h8; simp [lowB, digB]; omega)⟩
      · walk_at "rd"
        exact kf (nameB_all mem (by simp at h5 h7; simp [lowB, digB]; omega))
  · rintro σ H1 ⟨rfl, c, rfl, hj⟩
    walk_at "rd"
    have e : nameB s = true := nameB_yes hlen hlow fun c hc => by
      obtain ⟨j, hj'⟩ := List.getElem?_of_mem hc
      refine hj j ?_ c hj'
      have := (List.getElem?_eq_some_iff.mp hj').1
      simpa using this
    rw [e] at k
    exact k
end
end M

namespace M
open PySem PySem.Spec PyProof.Rows L2
/-- a stand that is right, of so many hands, all steps to names -/
def StandOk (hands : Int) (names : List Str) : Stand → Prop
  | .fin => True
  | .hand h ms => 0 ≤ h ∧ h < hands ∧ 1 ≤ ms.length ∧ ms.length ≤ 4 ∧ (ms.map (·.1)).Nodup ∧ ∀ p ∈ ms, nameB p.1 = true ∧ nameB p.2 = true ∧ p.2 ∈ names
  | .chance ds => 1 ≤ ds.length ∧ ds.length ≤ 4 ∧ (ds.map (·.1)).Nodup ∧ ∀ p ∈ ds, nameB p.1 = true ∧ nameB p.2.1 = true ∧ p.2.1 ∈ names ∧ 1 ≤ p.2.2 ∧ p.2.2 ≤ 9
theorem nameB_size {s : Str} (h : nameB s = true) : s.length ≤ 10000 := by
  by_cases q : 1 ≤ s.length ∧ s.length ≤ 8
  · omega
  · rw [nameB_len q] at h
    cases h
section
variable {P : Program} {w : World} {K : PySem.W.Frag} {mg : Str → Option Value} {base : Heap}
def sp_is_pair (T : Tx K mg) : Sp := fun vs H Q _ => ∃ a xs, vs = [.ref a] ∧ SqT K H a xs ∧ Q (.bl (decide (xs.length = 2))) H
theorem ok_is_pair (T : Tx K mg) : FnOk P w K mg base CX0 1 T.is_pair.f T.is_pair.fd P_is_pair (sp_is_pair T) := by
  refine T.is_pair.F.ok sc_is_pair (fun vs H Q E h => ?_) (fun cdv A outer s H vs Q E hr h => ?_)
  · obtain ⟨a, xs, rfl, hx, k⟩ := h
    rfl
  have hu := hu_of hr
  have nd := sc_is_pair.nd
  obtain ⟨a, xs, rfl, hx, k⟩ := h
  refine ⟨_, (pss_one (ps_ret (pe_and (pe_callB (w_isi (K := K) rfl) (by rfl) T.b_isinstance (by decide +kernel) (pa_cons (pv 0) (pa_cons (pe_bltn (v := .ty "tuple") (by rfl) T.b_tuple (by decide +kernel) rfl) pa_nil))) (pe_one (pe_cmpR op_eq (pe_callB (w_len (K := K) rfl) (by rfl) T.b_len (by decide +kernel) (pa_cons (pv 0) pa_nil)) pe_int (nomark _)))))), ?_⟩
  refine x_start (σ' := [some _]) rfl ?_
  try simp only [cx_n, cx_K, cx_w, cx_P]
  walk_at "rd"
  refine x_isiT (ty_tup hx) (by decide +kernel) ?_
  walk_at "rd"
  refine x_lenT' hx ?_
  walk_at "rd"
  have e : decide (V.int (xs.length : Int) = V.int 2) = decide (xs.length = 2) := by
    by_cases h : xs.length = 2
    · rw [decide_eq_true h, decide_eq_true]
      rw [h]
      rfl
    · rw [decide_eq_false h, decide_eq_false]
      intro q
      injection q with q
      omega
  rw [e]
  exact k
def sp_is_moves (T : Tx K mg) : Sp := fun vs H Q _ => ∃ v u ms names, vs = [v, u] ∧ rD rS H v ms ∧ rK H u names ∧ 1 ≤ ms.length ∧ ms.length ≤ 4 ∧
  (∀ p ∈ ms, nameB p.1 = true ∧ nameB p.2 = true ∧ p.2 ∈ names) ∧ ∀ H', SX [] H H' → Q (.bl true) H'
theorem ok_is_moves (T : Tx K mg) : FnOk P w K mg base CX0 2 T.is_moves.f T.is_moves.fd P_is_moves (sp_is_moves T) := by
  refine T.is_moves.F.ok sc_is_moves (fun vs H Q E h => ?_) (fun cdv A outer s H vs Q E hr h => ?_)
  · obtain ⟨v, u, ms, names, rfl, ⟨d, kvs, hv, hd, hk⟩, ⟨e, kvs2, hu2, he, hn⟩, h1, h4, hall, k⟩ := h
    rfl
  have hu := hu_of hr
  have nd := sc_is_moves.nd
  obtain ⟨v, u, ms, names, rfl, ⟨d, kvs, hv, hd, hk⟩, ⟨e, kvs2, hu2, he, hn⟩, h1, h4, hall, k⟩ := h
  refine ⟨_, (pss_cons (ps_if (PW.pt (pw_or (pt_not (pt_val (pe_callB (w_isi (K := K) rfl) (by rfl) T.b_isinstance (by decide +kernel) (pa_cons (pv 0) (pa_cons (pe_bltn (v := .ty "dict") (by rfl) T.b_dict (by decide +kernel) rfl) pa_nil))))) (pw_or1 (pt_not (pt_chain op_le op_le pe_int (pe_callB cl_lenD (by rfl) T.b_len (by decide +kernel) (pa_cons (pv 0) pa_nil)) pe_int))))) (pss_one (ps_ret pe_bl)) pss_nil)
      (pss_cons (ps_lockR (ps_for PassesOwn.never rfl (pi_items (pv 0)) (w_pgtup (K := K) (n := 2) rfl (by rfl) (pgs_cons (pg_name (i := 2) nd rfl (Or.inl rfl)) (pgs_cons (pg_name (i := 3) nd rfl (Or.inl rfl)) pgs_nil)) (by rfl) (by rfl)) (pss_one (ps_if (PW.pt (pw_or (pt_not (pt_val (pe_call (ok_is_name (P := P) (w := w) T) (hr.mono (by decide)) (by rfl) T.is_name.g T.is_name.F.kp T.is_name.B .nil pass0 (pa_cons (pv 2) pa_nil)))) (pw_or (pt_not (pt_val (pe_call (ok_is_name (P := P) (w := w) T) (hr.mono (by decide)) (by rfl) T.is_name.g T.is_name.F.kp T.is_name.B .nil pass0 (pa_cons (pv 3) pa_nil)))) (pw_or1 (pt_cmp (pc_dnotin hu (pv 3) (pv 1))))))) (pss_one (ps_ret pe_bl)) pss_nil))))
      (pss_one (ps_ret pe_bl)))), ?_⟩
  refine x_start (σ' := [some _, some _, none, none]) rfl ?_
  try simp only [cx_n, cx_K, cx_w, cx_P]
  subst hv hu2
  walk_at "rd"
  refine x_isiT (ty_dict hd) (by decide +kernel) ?_
  walk_at "rd"
  have hl : kvs.length = ms.length := Paired.length hk
  refine x_lenD hd ?_
  walk_at "rd"
  rw [hl]
  refine x_true (decide_eq_true (by omega)) ?_
  walk_at "rd"
  rw [decide_eq_true (show (ms.length : Int) ≤ 4 by omega)]
  walk_at "rd"
  refine x_lockR hd fun od HL eL ne => ?_
  walk_at "rd"
  refine x_iti eL ?_
  have leL : Le H HL := lock_le hd eL ne
  refine for_it (walk_itemsR (KVs.le mono_S leL hk)) (fun i σ H' => SX [] HL H' ∧ ∃ a b, σ = [some (.ref d), some (.ref e), a, b]) ⟨SX.refl _, _, _, rfl⟩ (fun _ _ _ _ h => h.1 _ _ List.not_mem_nil eL) ?_ ?_
  · rintro i x σ H0 H1 hi ⟨sx, a, b, rfl⟩ ⟨T1, p, v, hp, rfl, rfl, hT, rfl⟩
    obtain ⟨n1, n2, n3⟩ := hall p (getMem hp)
    walk_at "rd"
    refine ⟨_, rfl, nameB_size n1, ?_⟩
    rw [n1]
    walk_at "rd"
    refine ⟨_, rfl, nameB_size n2, ?_⟩
    rw [n2]
    walk_at "rd"
    have sx1 : SX [] HL (upd H0 T1 (.tup [.str p.1, .str p.2])) := sx.trans (SX.new hT)
    refine x_dni' (sx1.rd (Rd.le leL he)) ?_
    rw [keys_val hn, decide_eq_true n3]
    walk_at "rd"
    exact ⟨sx1, _, _, rfl⟩
  · rintro σ H1 ⟨sx, a, b, rfl⟩
    refine ⟨sx _ _ List.not_mem_nil eL, ?_⟩
    walk_at "rd"
    exact k _ (unlock_sx ne sx)
def sp_is_draws (T : Tx K mg) : Sp := fun vs H Q _ => ∃ v u ds names, vs = [v, u] ∧ rD (rP K rS rI) H v ds ∧ rK H u names ∧ 1 ≤ ds.length ∧ ds.length ≤ 4 ∧
  (∀ p ∈ ds, nameB p.1 = true ∧ nameB p.2.1 = true ∧ p.2.1 ∈ names ∧ 1 ≤ p.2.2 ∧ p.2.2 ≤ 9) ∧ ∀ H', SX [] H H' → Q (.bl true) H'
theorem ok_is_draws (T : Tx K mg) : FnOk P w K mg base CX0 2 T.is_draws.f T.is_draws.fd P_is_draws (sp_is_draws T) := by
  refine T.is_draws.F.ok sc_is_draws (fun vs H Q E h => ?_) (fun cdv A outer s H vs Q E hr h => ?_)
  · obtain ⟨v, u, ds, names, rfl, ⟨d, kvs, hv, hd, hk⟩, ⟨e, kvs2, hu2, he, hn⟩, h1, h4, hall, k⟩ := h
    rfl
  have hu := hu_of hr
  have nd := sc_is_draws.nd
  obtain ⟨v, u, ds, names, rfl, ⟨d, kvs, hv, hd, hk⟩, ⟨e, kvs2, hu2, he, hn⟩, h1, h4, hall, k⟩ := h
  refine ⟨_, (pss_cons (ps_if (PW.pt (pw_or (pt_not (pt_val (pe_callB (w_isi (K := K) rfl) (by rfl) T.b_isinstance (by decide +kernel) (pa_cons (pv 0) (pa_cons (pe_bltn (v := .ty "dict") (by rfl) T.b_dict (by decide +kernel) rfl) pa_nil))))) (pw_or1 (pt_not (pt_chain op_le op_le pe_int (pe_callB cl_lenD (by rfl) T.b_len (by decide +kernel) (pa_cons (pv 0) pa_nil)) pe_int))))) (pss_one (ps_ret pe_bl)) pss_nil)
      (pss_cons (ps_lockR (ps_for PassesOwn.never rfl (pi_items (pv 0)) (w_pgtup (K := K) (n := 2) rfl (by rfl) (pgs_cons (pg_name (i := 2) nd rfl (Or.inl rfl)) (pgs_cons (pg_name (i := 3) nd rfl (Or.inl rfl)) pgs_nil)) (by rfl) (by rfl)) (pss_cons (ps_if (PW.pt (pw_or (pt_not (pt_val (pe_call (ok_is_name (P := P) (w := w) T) (hr.mono (by decide)) (by rfl) T.is_name.g T.is_name.F.kp T.is_name.B .nil pass0 (pa_cons (pv 2) pa_nil)))) (pw_or1 (pt_not (pt_val (pe_call (ok_is_pair (P := P) (w := w) T) (hr.mono (by decide)) (by rfl) T.is_pair.g T.is_pair.F.kp T.is_pair.B .nil pass0 (pa_cons (pv 3) pa_nil))))))) (pss_one (ps_ret pe_bl)) pss_nil)
      (pss_cons (ps_if (PW.pt (pw_or (pt_not (pt_val (pe_call (ok_is_name (P := P) (w := w) T) (hr.mono (by decide)) (by rfl) T.is_name.g T.is_name.F.kp T.is_name.B .nil pass0 (pa_cons (pe_ix (w_ixT (K := K) rfl) (pv 3) pe_int (fun _ _ => rfl)) pa_nil)))) (pw_or1 (pt_cmp (pc_dnotin hu (pe_ix (w_ixT (K := K) rfl) (pv 3) pe_int (fun _ _ => rfl)) (pv 1)))))) (pss_one (ps_ret pe_bl)) pss_nil)
      (pss_one (ps_if (PW.pt (pw_or (pt_not (pt_val (pe_call (ok_is_integer (P := P) (w := w) T) (hr.mono (by decide)) (by rfl) T.is_integer.g T.is_integer.F.kp T.is_integer.B .nil pass0 (pa_cons (pe_ix (w_ixT (K := K) rfl) (pv 3) pe_int (fun _ _ => rfl)) pa_nil)))) (pw_or1 (pt_not (pt_chain op_le op_le pe_int (pe_ix (w_ixT (K := K) rfl) (pv 3) pe_int (fun _ _ => rfl)) pe_int))))) (pss_one (ps_ret pe_bl)) pss_nil))))))
      (pss_one (ps_ret pe_bl)))), ?_⟩
  refine x_start (σ' := [some _, some _, none, none]) rfl ?_
  try simp only [cx_n, cx_K, cx_w, cx_P]
  subst hv hu2
  walk_at "rd"
  refine x_isiT (ty_dict hd) (by decide +kernel) ?_
  walk_at "rd"
  have hl : kvs.length = ds.length := Paired.length hk
  refine x_lenD hd ?_
  walk_at "rd"
  rw [hl]
  refine x_true (decide_eq_true (by omega)) ?_
  walk_at "rd"
  rw [decide_eq_true (show (ds.length : Int) ≤ 4 by omega)]
  walk_at "rd"
  refine x_lockR hd fun od HL eL ne => ?_
  walk_at "rd"
  refine x_iti eL ?_
  have leL : Le H HL := lock_le hd eL ne
  refine for_it (walk_itemsR (KVs.le (mono_P mono_S mono_I) leL hk)) (fun i σ H' => SX [] HL H' ∧ ∃ a b, σ = [some (.ref d), some (.ref e), a, b]) ⟨SX.refl _, _, _, rfl⟩ (fun _ _ _ _ h => h.1 _ _ List.not_mem_nil eL) ?_ ?_
  · rintro i x σ H0 H1 hi ⟨sx, a, b, rfl⟩ ⟨T1, p, v, hp, ⟨t, x1, x2, rfl, ht, rfl, rfl⟩, rfl, hT, rfl⟩
    obtain ⟨n1, n2, n3, n4, n5⟩ := hall p (getMem hp)
    have sx1 : SX [] HL (upd H0 T1 (.tup [.str p.1, .ref t])) := sx.trans (SX.new hT)
    have ht1 := sx1.le0.t ht
    walk_at "rd"
    refine ⟨_, rfl, nameB_size n1, ?_⟩
    rw [n1]
    walk_at "rd"
    refine ⟨_, _, rfl, ht1, ?_⟩
    walk_at "rd"
    walk_at "if!"
    walk_at "rd"
    refine x_ixT ht1 (atI_nat (j := 0) rfl) ?_
    walk_at "rd"
    refine ⟨_, rfl, nameB_size n2, ?_⟩
    rw [n2]
    walk_at "rd"
    refine x_ixT ht1 (atI_nat (j := 0) rfl) ?_
    walk_at "rd"
    refine x_dni' (sx1.rd (Rd.le leL he)) ?_
    rw [keys_val hn, decide_eq_true n3]
    walk_at "rd"
    refine x_ixT ht1 (atI_nat (j := 1) rfl) ?_
    walk_at "rd"
    refine ⟨_, rfl, ?_⟩
    walk_at "rd"
    refine x_ixT ht1 (atI_nat (j := 1) rfl) ?_
    walk_at "rd"
    refine x_true (decide_eq_true n4) ?_
    walk_at "rd"
    rw [decide_eq_true n5]
    walk_at "rd"
    exact ⟨sx1, _, _, rfl⟩
  · rintro σ H1 ⟨sx, a, b, rfl⟩
    refine ⟨sx _ _ List.not_mem_nil eL, ?_⟩
    walk_at "rd"
    exact k _ (unlock_sx ne sx)
def sp_is_stand (T : Tx K mg) : Sp := fun vs H Q _ => ∃ v u n st names, vs = [v, .int n, u] ∧ rStand K H v st ∧ rK H u names ∧ StandOk n names st ∧ ∀ H', SX [] H H' → Q (.bl true) H'
theorem ok_is_stand (T : Tx K mg) : FnOk P w K mg base CX0 3 T.is_stand.f T.is_stand.fd P_is_stand (sp_is_stand T) := by
  refine T.is_stand.F.ok sc_is_stand (fun vs H Q E h => ?_) (fun cdv A outer s H vs Q E hr h => ?_)
  · obtain ⟨v, u, n, st, names, rfl, hst, hu2, hok, k⟩ := h
    rfl
  have hu := hu_of hr
  have nd := sc_is_stand.nd
  obtain ⟨v, u, n, st, names, rfl, hst, hu2, hok, k⟩ := h
  refine ⟨_, (pss_cons (ps_if (PW.pt (pw_or (pt_not (pt_val (pe_callB (w_isi (K := K) rfl) (by rfl) T.b_isinstance (by decide +kernel) (pa_cons (pv 0) (pa_cons (pe_bltn (v := .ty "tuple") (by rfl) T.b_tuple (by decide +kernel) rfl) pa_nil))))) (pw_or (pt_cmpR op_eq (pe_callB (w_len (K := K) rfl) (by rfl) T.b_len (by decide +kernel) (pa_cons (pv 0) pa_nil)) pe_int (nomark _)) (pw_or1 (pt_not (pt_val (pe_callB (w_isi (K := K) rfl) (by rfl) T.b_isinstance (by decide +kernel) (pa_cons (pe_ix (w_ixT (K := K) rfl) (pv 0) pe_int (fun _ _ => rfl)) (pa_cons (pe_bltn (v := .ty "str") (by rfl) T.b_str (by decide +kernel) rfl) pa_nil))))))))) (pss_one (ps_ret pe_bl)) pss_nil)
      (pss_cons (ps_if (pt_cmpR op_eq (pe_ix (w_ixT (K := K) rfl) (pv 0) pe_int (fun _ _ => rfl)) pe_str (nomark _)) (pss_one (ps_ret (pe_cmpR op_eq (pe_callB (w_len (K := K) rfl) (by rfl) T.b_len (by decide +kernel) (pa_cons (pv 0) pa_nil)) pe_int (nomark _)))) pss_nil)
      (pss_cons (ps_if (pt_cmpR op_eq (pe_ix (w_ixT (K := K) rfl) (pv 0) pe_int (fun _ _ => rfl)) pe_str (nomark _)) (pss_one (ps_ret (pe_and (pe_cmpR op_eq (pe_callB (w_len (K := K) rfl) (by rfl) T.b_len (by decide +kernel) (pa_cons (pv 0) pa_nil)) pe_int (nomark _)) (pe_one (pe_call (ok_is_draws (P := P) (w := w) T) (hr.mono (by decide)) (by rfl) T.is_draws.g T.is_draws.F.kp T.is_draws.B .nil pass0 (pa_cons (pe_ix (w_ixT (K := K) rfl) (pv 0) pe_int (fun _ _ => rfl)) (pa_cons (pv 2) pa_nil))))))) pss_nil)
      (pss_cons (ps_if (PW.pt (pw_or (pt_cmpR op_ne (pe_ix (w_ixT (K := K) rfl) (pv 0) pe_int (fun _ _ => rfl)) pe_str (nomark _)) (pw_or1 (pt_cmpR op_ne (pe_callB (w_len (K := K) rfl) (by rfl) T.b_len (by decide +kernel) (pa_cons (pv 0) pa_nil)) pe_int (nomark _))))) (pss_one (ps_ret pe_bl)) pss_nil)
      (pss_cons (ps_if (PW.pt (pw_or (pt_not (pt_val (pe_call (ok_is_integer (P := P) (w := w) T) (hr.mono (by decide)) (by rfl) T.is_integer.g T.is_integer.F.kp T.is_integer.B .nil pass0 (pa_cons (pe_ix (w_ixT (K := K) rfl) (pv 0) pe_int (fun _ _ => rfl)) pa_nil)))) (pw_or1 (pt_not (pt_chain op_le op_lt pe_int (pe_ix (w_ixT (K := K) rfl) (pv 0) pe_int (fun _ _ => rfl)) (pv 1)))))) (pss_one (ps_ret pe_bl)) pss_nil)
      (pss_one (ps_ret (pe_call (ok_is_moves (P := P) (w := w) T) (hr.mono (by decide)) (by rfl) T.is_moves.g T.is_moves.F.kp T.is_moves.B .nil pass0 (pa_cons (pe_ix (w_ixT (K := K) rfl) (pv 0) pe_int (fun _ _ => rfl)) (pa_cons (pv 2) pa_nil)))))))))), ?_⟩
  refine x_start (σ' := [some _, some _, some _]) rfl ?_
  try simp only [cx_n, cx_K, cx_w, cx_P]
  cases st with
  | fin =>
    obtain ⟨p, rfl, hp⟩ := hst
    walk_at "rd"
    refine x_isiT (ty_tup hp) (by decide +kernel) ?_
    walk_at "rd"
    refine x_lenT' hp ?_
    walk_at "rd"
    walk_at "if!"
    walk_at "rd"
    refine x_ixT hp (atI_nat (j := 0) rfl) ?_
    walk_at "rd"
    refine x_isiT (.base (.str _)) (by decide +kernel) ?_
    walk_at "rd"
    refine x_ixT hp (atI_nat (j := 0) rfl) ?_
    walk_at "rd"
    walk_at "if!"
    walk_at "rd"
    refine x_lenT' hp ?_
    walk_at "rd"
    exact k H (SX.refl H)
  | chance ds =>
    obtain ⟨p, d, rfl, hp, hd⟩ := hst
    obtain ⟨h1, h4, hnd, hall⟩ := hok
    walk_at "rd"
    refine x_isiT (ty_tup hp) (by decide +kernel) ?_
    walk_at "rd"
    refine x_lenT' hp ?_
    walk_at "rd"
    walk_at "if!"
    walk_at "rd"
    refine x_ixT hp (atI_nat (j := 0) rfl) ?_
    walk_at "rd"
    refine x_isiT (.base (.str _)) (by decide +kernel) ?_
    walk_at "rd"
    refine x_ixT hp (atI_nat (j := 0) rfl) ?_
    walk_at "rd"
    walk_at "if!"
    walk_at "rd"
    refine x_ixT hp (atI_nat (j := 0) rfl) ?_
    walk_at "rd"
    walk_at "if!"
    walk_at "rd"
    refine x_lenT' hp ?_
    walk_at "rd"
    walk_at "if!"
    walk_at "rd"
    refine x_ixT hp (atI_nat (j := 1) rfl) ?_
    walk_at "rd"
    exact ⟨_, _, ds, names, rfl, hd, hu2, h1, h4, hall, k⟩
  | hand h ms =>
    obtain ⟨p, d, rfl, hp, hd⟩ := hst
    obtain ⟨hh0, hh1, h1, h4, hnd, hall⟩ := hok
    walk_at "rd"
    refine x_isiT (ty_tup hp) (by decide +kernel) ?_
    walk_at "rd"
    refine x_lenT' hp ?_
    walk_at "rd"
    walk_at "if!"
    walk_at "rd"
    refine x_ixT hp (atI_nat (j := 0) rfl) ?_
    walk_at "rd"
    refine x_isiT (.base (.str _)) (by decide +kernel) ?_
    walk_at "rd"
    refine x_ixT hp (atI_nat (j := 0) rfl) ?_
    walk_at "rd"
    walk_at "if!"
    walk_at "rd"
    refine x_ixT hp (atI_nat (j := 0) rfl) ?_
    walk_at "rd"
    walk_at "if!"
    walk_at "rd"
    refine x_ixT hp (atI_nat (j := 0) rfl) ?_
    walk_at "rd"
    walk_at "if!"
    walk_at "rd"
    refine x_lenT' hp ?_
    walk_at "rd"
    walk_at "if!"
    walk_at "rd"
    refine x_ixT hp (atI_nat (j := 1) rfl) ?_
    walk_at "rd"
    refine ⟨_, rfl, ?_⟩
    walk_at "rd"
    refine x_ixT hp (atI_nat (j := 1) rfl) ?_
    walk_at "rd"
    refine x_true (decide_eq_true hh0) ?_
    walk_at "rd"
    rw [decide_eq_true hh1]
    walk_at "rd"
    refine x_ixT hp (atI_nat (j := 2) rfl) ?_
    walk_at "rd"
    exact ⟨_, _, ms, names, rfl, hd, hu2, h1, h4, hall, k⟩
def sp_are_stands (T : Tx K mg) : Sp := fun vs H Q _ => ∃ v n sts, vs = [v, .int n] ∧ rD (rStand K) H v sts ∧ 1 ≤ sts.length ∧ sts.length ≤ 100 ∧
  (∀ p ∈ sts, nameB p.1 = true ∧ StandOk n (sts.map (·.1)) p.2) ∧ ∀ H', SX [] H H' → Q (.bl true) H'
theorem ok_are_stands (T : Tx K mg) : FnOk P w K mg base CX0 4 T.are_stands.f T.are_stands.fd P_are_stands (sp_are_stands T) := by
  refine T.are_stands.F.ok sc_are_stands (fun vs H Q E h => ?_) (fun cdv A outer s H vs Q E hr h => ?_)
  · obtain ⟨v, n, sts, rfl, ⟨d, kvs, hv, hd, hk⟩, h1, h100, hall, k⟩ := h
    rfl
  have hu := hu_of hr
  have nd := sc_are_stands.nd
  obtain ⟨v, n, sts, rfl, ⟨d, kvs, hv, hd, hk⟩, h1, h100, hall, k⟩ := h
  refine ⟨_, (pss_cons (ps_if (PW.pt (pw_or (pt_not (pt_val (pe_callB (w_isi (K := K) rfl) (by rfl) T.b_isinstance (by decide +kernel) (pa_cons (pv 0) (pa_cons (pe_bltn (v := .ty "dict") (by rfl) T.b_dict (by decide +kernel) rfl) pa_nil))))) (pw_or1 (pt_not (pt_chain op_le op_le pe_int (pe_callB cl_lenD (by rfl) T.b_len (by decide +kernel) (pa_cons (pv 0) pa_nil)) pe_int))))) (pss_one (ps_ret pe_bl)) pss_nil)
      (pss_cons (ps_lockR (ps_for PassesOwn.never rfl (pi_keys (pv 0)) (pg_name (i := 2) nd rfl (Or.inl rfl)) (pss_one (ps_if (pt_not (pt_val (pe_call (ok_is_name (P := P) (w := w) T) (hr.mono (by decide)) (by rfl) T.is_name.g T.is_name.F.kp T.is_name.B .nil pass0 (pa_cons (pv 2) pa_nil)))) (pss_one (ps_ret pe_bl)) pss_nil))))
      (pss_cons (ps_lockR (ps_for PassesOwn.never rfl (pi_values (pv 0)) (pg_name (i := 3) nd rfl (Or.inl rfl)) (pss_one (ps_if (pt_not (pt_val (pe_call (ok_is_stand (P := P) (w := w) T) (hr.mono (by decide)) (by rfl) T.is_stand.g T.is_stand.F.kp T.is_stand.B .nil pass0 (pa_cons (pv 3) (pa_cons (pv 1) (pa_cons (pv 0) pa_nil)))))) (pss_one (ps_ret pe_bl)) pss_nil))))
      (pss_one (ps_ret pe_bl))))), ?_⟩
  refine x_start (σ' := [some _, some _, none, none]) rfl ?_
  try simp only [cx_n, cx_K, cx_w, cx_P]
  subst hv
  walk_at "rd"
  refine x_isiT (ty_dict hd) (by decide +kernel) ?_
  walk_at "rd"
  have hl : kvs.length = sts.length := Paired.length hk
  refine x_lenD hd ?_
  walk_at "rd"
  rw [hl]
  refine x_true (decide_eq_true (by omega)) ?_
  walk_at "rd"
  rw [decide_eq_true (show (sts.length : Int) ≤ 100 by omega)]
  walk_at "rd"
  refine x_lockR hd fun od HL eL ne => ?_
  walk_at "rd"
  refine ⟨d, od, rfl, .inl ⟨kvs, eL, ?_⟩⟩
  have leL : Le H HL := lock_le hd eL ne
  refine for_it (walk_keysR (KVs.le (mono_stand K) leL hk)) (fun i σ H' => SX [] HL H' ∧ ∃ a, σ = [some (.ref d), some (.int n), a, none]) ⟨SX.refl _, _, rfl⟩ (fun _ _ _ _ h => h.1 _ _ List.not_mem_nil eL) ?_ ?_
  · rintro i x σ H0 H1 hi ⟨sx, a, rfl⟩ ⟨rfl, p, v, hp, rfl, hv⟩
    obtain ⟨n1, n2⟩ := hall p (getMem hp)
    walk_at "rd"
    refine ⟨_, rfl, nameB_size n1, ?_⟩
    rw [n1]
    walk_at "rd"
    exact ⟨sx, _, rfl⟩
  rintro σ H1 ⟨sx, a, rfl⟩
  refine ⟨sx _ _ List.not_mem_nil eL, ?_⟩
  have sx1 : SX [] H (put H1 d (H d)) := unlock_sx ne sx
  generalize put H1 d (H d) = H2 at sx1
  walk_at "rd"
  refine x_lockR (sx1.rd hd) fun od2 HL2 eL2 ne2 => ?_
  walk_at "rd"
  refine ⟨d, od2, kvs, rfl, eL2, ?_⟩
  have leL2 : Le H HL2 := sx1.le0.trans (lock_le (sx1.rd hd) eL2 ne2)
  refine for_it (walk_valsR (KVs.le (mono_stand K) leL2 hk)) (fun i σ H' => SX [] HL2 H' ∧ ∃ b, σ = [some (.ref d), some (.int n), a, b]) ⟨SX.refl _, _, rfl⟩ (fun _ _ _ _ h => h.1 _ _ List.not_mem_nil eL2) ?_ ?_
  · rintro i x σ H0 H1 hi ⟨sx, b, rfl⟩ ⟨rfl, p, hp, hv⟩
    obtain ⟨n1, n2⟩ := hall p (getMem hp)
    walk_at "rd"
    refine ⟨_, _, n, p.2, sts.map (·.1), rfl, mono_stand K _ _ _ _ sx.le0 hv, ⟨d, kvs, rfl, sx.rd (Rd.le leL2 hd), hk.keys⟩, n2, fun H' sx' => ?_⟩
    walk_at "rd"
    exact ⟨sx.trans sx', _, rfl⟩
  · rintro σ H1 ⟨sx, b, rfl⟩
    refine ⟨sx _ _ List.not_mem_nil eL2, ?_⟩
    walk_at "rd"
    exact k _ (sx1.trans (unlock_sx ne2 sx))
end
end M

namespace M
open PySem PySem.Spec PyProof.Rows L2
/-- the same stand, its steps ascending -/
def SrtStand : Stand → Stand → Prop
  | .fin, .fin => True
  | .hand h ms, .hand h' ms' => h = h' ∧ Srt ms ms'
  | .chance ds, .chance ds' => Srt ds ds'
  | _, _ => False
/-- the stands to which steps lead -/
def Stand.tos : Stand → List Str
  | .fin => []
  | .hand _ ms => ms.map (·.2)
  | .chance ds => ds.map (·.2.1)
def Stand.size : Stand → Nat
  | .fin => 0
  | .hand _ ms => ms.length
  | .chance ds => ds.length
def Stand.nd : Stand → Prop
  | .fin => True
  | .hand _ ms => (ms.map (·.1)).Nodup
  | .chance ds => (ds.map (·.1)).Nodup
theorem SrtStand.tos {a b : Stand} (h : SrtStand a b) : b.tos.Perm a.tos := by
  cases a <;> cases b <;> first | exact h.elim | exact .refl _ | exact (h.2.perm.map _) | exact (Srt.perm h).map _
section
variable {P : Program} {w : World} {K : PySem.W.Frag} {mg : Str → Option Value} {base : Heap}
def sp_copied (T : Tx K mg) : Sp := fun vs H Q _ => ∃ v st S, vs = [v] ∧ (∀ b ∈ S, H b ≠ none) ∧ rStand K (hid S H) v st ∧ st.nd ∧ st.size ≤ 100 ∧ ∀ v' H' st', SX [] H H' → rStand K (hid S H') v' st' → SrtStand st st' → Q v' H'
theorem ok_copied (T : Tx K mg) : FnOk P w K mg base CX0 1 T.copied.f T.copied.fd P_copied (sp_copied T) := by
  refine T.copied.F.ok sc_copied (fun vs H Q E h => ?_) (fun cdv A outer s H vs Q E hr h => ?_)
  · obtain ⟨v, st, S, rfl, hS, hst, hnd, hsz, k⟩ := h
    rfl
  have hu := hu_of hr
  have nd := sc_copied.nd
  obtain ⟨v, st, S, rfl, hS, hst, hnd, hsz, k⟩ := h
  refine ⟨_, (pss_cons (ps_if (pt_cmpR op_eq (pe_ix (w_ixT (K := K) rfl) (pv 0) pe_int (fun _ _ => rfl)) pe_str (nomark _)) (pss_one (ps_ret (pe_tup (pa_cons pe_str pa_nil)))) pss_nil)
      (pss_cons (ps_set (i := 1) nd rfl (Or.inr rfl) (pe_ix (w_ixT (K := K) rfl) (pv 0) (pe_op op_sub (pe_callB (w_len (K := K) rfl) (by rfl) T.b_len (by decide +kernel) (pa_cons (pv 0) pa_nil)) pe_int) (fun _ _ => rfl)))
      (pss_cons (ps_setDc (i := 2) (own := [("step", 3)]) rfl nd rfl rfl (sw_dc rfl rfl rfl (by decide +kernel)) (w_pilist (K := K) rfl (pe_callB (cl_sortD rfl) (by rfl) T.b_sorted (by decide +kernel) (pa_cons (pv 1) pa_nil))) (blkOk_by (own := [("step", 3)]) (N := N_copied) (sc := defScope s_copied) (by decide +kernel)) (fun _ _ _ _ _ => (pg_name (i := 3) nd rfl (Or.inl rfl))) (fun _ _ _ _ _ => pts_nil) (fun _ _ _ _ _ => (pv 3)) (fun _ _ _ _ _ => (pe_dget hu (pv 1) (pv 3) (fun _ _ => rfl))))
      (pss_cons (ps_if (pt_cmpR op_eq (pe_ix (w_ixT (K := K) rfl) (pv 0) pe_int (fun _ _ => rfl)) pe_str (nomark _)) (pss_one (ps_ret (pe_tup (pa_cons pe_str (pa_cons (pe_ix (w_ixT (K := K) rfl) (pv 0) pe_int (fun _ _ => rfl)) (pa_cons (pv 2) pa_nil)))))) pss_nil)
      (pss_one (ps_ret (pe_tup (pa_cons pe_str (pa_cons (pv 2) pa_nil))))))))), ?_⟩
  refine x_start (σ' := [some _, none, none, none]) rfl ?_
  try simp only [cx_n, cx_K, cx_w, cx_P]
  cases st with
  | fin =>
    obtain ⟨p, rfl, hp0⟩ := hst
    have hp := le_hid.t hp0
    walk_at "rd"
    refine x_ixT hp (atI_nat (j := 0) rfl) ?_
    walk_at "rd"
    walk_at "if!"
    walk_at "rd"
    refine ⟨Nat.le_of_ble_eq_true rfl, fun q hq => ?_⟩
    exact k _ _ .fin (SX.new hq) ⟨q, rfl, sqT (hid_new hq hS)⟩ trivial
  | hand h ms =>
    obtain ⟨p, d, rfl, hp0, hd⟩ := hst
    have hp := le_hid.t hp0
    obtain ⟨dd, kvs, rfl, hd1, hd2⟩ := id hd
    walk_at "rd"
    refine x_ixT hp (atI_nat (j := 0) rfl) ?_
    walk_at "rd"
    walk_at "if!"
    walk_at "rd"
    refine x_lenT' hp ?_
    walk_at "rd"
    refine x_ixT hp (v := .ref dd) (atI_nat (j := 2) rfl) ?_
    walk_at "rd"
    refine x_copyD (S := S) (i := 1) (j := 3) mono_S hS (by rfl) (by simp) (by decide) hd hnd (by show ms.length ≤ 10000; exact Nat.le_trans hsz (by decide)) fun D H' l' s1 hD r1 hD' sr => ?_
    walk_at "rd"
    refine x_ixT (s1.le0.t hp) (atI_nat (j := 0) rfl) ?_
    walk_at "rd"
    walk_at "if!"
    walk_at "rd"
    refine x_ixT (s1.le0.t hp) (atI_nat (j := 1) rfl) ?_
    walk_at "rd"
    refine ⟨Nat.le_of_ble_eq_true rfl, fun q hq => ?_⟩
    have s2 : SX [] H' (upd H' q (.tup [.str "hand", .int h, .ref D])) := SX.new hq
    exact k _ _ (.hand h l') (s1.trans s2) ⟨q, .ref D, rfl, sqT (hid_new hq (there s1 hS)), mono_D mono_S _ _ _ _ (nil_sx s2).le r1⟩ ⟨rfl, sr⟩
  | chance ds =>
    obtain ⟨p, d, rfl, hp0, hd⟩ := hst
    have hp := le_hid.t hp0
    obtain ⟨dd, kvs, rfl, hd1, hd2⟩ := id hd
    walk_at "rd"
    refine x_ixT hp (atI_nat (j := 0) rfl) ?_
    walk_at "rd"
    walk_at "if!"
    walk_at "rd"
    refine x_lenT' hp ?_
    walk_at "rd"
    refine x_ixT hp (v := .ref dd) (atI_nat (j := 1) rfl) ?_
    walk_at "rd"
    refine x_copyD (S := S) (i := 1) (j := 3) (mono_P mono_S mono_I) hS (by rfl) (by simp) (by decide) hd hnd (by show ds.length ≤ 10000; exact Nat.le_trans hsz (by decide)) fun D H' l' s1 hD r1 hD' sr => ?_
    walk_at "rd"
    refine x_ixT (s1.le0.t hp) (atI_nat (j := 0) rfl) ?_
    walk_at "rd"
    walk_at "if!"
    walk_at "rd"
    refine ⟨Nat.le_of_ble_eq_true rfl, fun q hq => ?_⟩
    have s2 : SX [] H' (upd H' q (.tup [.str "chance", .ref D])) := SX.new hq
    exact k _ _ (.chance l') (s1.trans s2) ⟨q, .ref D, rfl, sqT (hid_new hq (there s1 hS)), mono_D (mono_P mono_S mono_I) _ _ _ _ (nil_sx s2).le r1⟩ sr
/-- a work at x: its table -/
def TableAt (T : Tx K mg) (H : Hp) (x : Addr) (tbl : List (Str × Stand)) : Prop := ∃ dx fs d, H x = some (.ins T.a_Work dx fs) ∧ fs.lookup ("table" : Str) = some (V.ref d) ∧ rD (rStand K) H (.ref d) tbl
theorem TableAt.le {T : Tx K mg} {A B : Hp} {x : Addr} {tbl : List (Str × Stand)} (e : Le A B) (h : TableAt T A x tbl) : TableAt T B x tbl := by
  obtain ⟨dx, fs, d, h1, h2, h3⟩ := h
  exact ⟨dx, fs, d, e.ins _ _ _ _ h1, h2, mono_D (mono_stand K) _ _ _ _ e h3⟩
def sp_leads (T : Tx K mg) : Sp := fun vs H Q _ => ∃ x s tbl st, vs = [.ref x, .str s] ∧ TableAt T H x tbl ∧ lookA tbl s = some st ∧ st.nd ∧ st.size ≤ 100 ∧
  ∀ p H', SX [] H H' → H p = none → H' p = some (.lst (st.tos.map V.str)) → Q (.ref p) H'
theorem ok_leads (T : Tx K mg) : FnOk P w K mg base CX0 1 T.leads.f T.leads.fd P_leads (sp_leads T) := by
  refine T.leads.F.ok sc_leads (fun vs H Q E h => ?_) (fun cdv A outer s H vs Q E hr h => ?_)
  · obtain ⟨x, s, tbl, st, rfl, ⟨dx, fs, d, h1, h2, h3⟩, hs, hnd, hsz, k⟩ := h
    rfl
  have hu := hu_of hr
  have nd := sc_leads.nd
  obtain ⟨x, s, tbl, st, rfl, ⟨dx, fs, d, h1, h2, h3⟩, hs, hnd, hsz, k⟩ := h
  refine ⟨_, (pss_cons (ps_set (i := 2) nd rfl (Or.inr rfl) (pe_dget hu (w_fld (K := K) rfl (pv 0) rfl) (pv 1) (fun _ _ => rfl)))
      (pss_cons (ps_if (pt_cmpR op_eq (pe_ix (w_ixT (K := K) rfl) (pv 2) pe_int (fun _ _ => rfl)) pe_str (nomark _)) (pss_one (ps_ret (pe_lst pa_nil))) pss_nil)
      (pss_cons (ps_if (pt_cmpR op_eq (pe_ix (w_ixT (K := K) rfl) (pv 2) pe_int (fun _ _ => rfl)) pe_str (nomark _)) (pss_one (ps_ret (pe_lockR (pe_lc (own := [("step", 3)]) rfl nd (pi_keys (pe_ix (w_ixT (K := K) rfl) (pv 2) pe_int (fun _ _ => rfl))) (blkOk_by (own := [("step", 3)]) (N := N_leads) (sc := defScope s_leads) (by decide +kernel)) (fun _ _ _ _ _ => (pg_name (i := 3) nd rfl (Or.inl rfl))) (fun _ _ _ _ _ => pts_nil) (fun _ _ _ _ _ => (pe_dget hu (pe_ix (w_ixT (K := K) rfl) (pv 2) pe_int (fun _ _ => rfl)) (pv 3) (fun _ _ => rfl))))))) pss_nil)
      (pss_one (ps_ret (pe_lockR (pe_lc (own := [("step", 3)]) rfl nd (pi_keys (pe_ix (w_ixT (K := K) rfl) (pv 2) pe_int (fun _ _ => rfl))) (blkOk_by (own := [("step", 3)]) (N := N_leads) (sc := defScope s_leads) (by decide +kernel)) (fun _ _ _ _ _ => (pg_name (i := 3) nd rfl (Or.inl rfl))) (fun _ _ _ _ _ => pts_nil) (fun _ _ _ _ _ => (pe_ix (w_ixT (K := K) rfl) (pe_dget hu (pe_ix (w_ixT (K := K) rfl) (pv 2) pe_int (fun _ _ => rfl)) (pv 3) (fun _ _ => rfl)) pe_int (fun _ _ => rfl)))))))))), ?_⟩
  refine x_start (σ' := [some _, some _, none, none]) rfl ?_
  try simp only [cx_n, cx_K, cx_w, cx_P]
  obtain ⟨d', kvs, hd', hr, hk⟩ := h3
  cases hd'
  obtain ⟨v, e1, hst⟩ := hk.at_ hs
  walk_at "rd"
  refine ⟨x, _, dx, fs, _, rfl, h1, T.cl_Work, T.n_Work_table, h2, ?_⟩
  walk_at "rd"
  refine x_dg' hr e1 ?_
  walk_at "rd"
  cases st with
  | fin =>
    obtain ⟨p, rfl, hp⟩ := hst
    refine x_ixT hp (atI_nat (j := 0) rfl) ?_
    walk_at "rd"
    walk_at "if!"
    walk_at "rd"
    exact ⟨Nat.le_of_ble_eq_true rfl, fun q hq => k q _ (SX.new hq) hq upd_same⟩
  | hand h ms =>
    obtain ⟨p, dd, rfl, hp, d1, kv1, rfl, hr1, hk1⟩ := hst
    refine x_ixT hp (atI_nat (j := 0) rfl) ?_
    walk_at "rd"
    walk_at "if!"
    walk_at "rd"
    refine x_ixT hp (atI_nat (j := 0) rfl) ?_
    walk_at "rd"
    walk_at "if!"
    walk_at "rd"
    refine x_lockRE hr1 fun od HL eL ne => ?_
    have leL : Le H HL := lock_le hr1 eL ne
    walk_at "rd"
    refine x_ixT (leL.t hp) (v := .ref d1) (atI_nat (j := 2) rfl) ?_
    refine ⟨d1, od, rfl, .inl ⟨kv1, eL, fun D hD => ?_⟩⟩
    have hDd : d1 ≠ D := ne_of_none eL hD
    have hD0 : H D = none := by rw [← ne D (Ne.symm hDd)]; exact hD
    refine lc_it (walk_keysR hk1) (fun n A => SX [] HL A ∧ A D = some (.lst ((ms.take n).map fun p => V.str p.2))) ⟨SX.new hD, upd_same⟩ (fun _ _ _ h => h.1 _ _ List.not_mem_nil eL) ?_ ?_
    · rintro n y A B hn ⟨s1, s2⟩ ⟨rfl, q, v, hq, rfl, rfl⟩
      walk_at "rd"
      refine ⟨rfl, ?_⟩
      walk_at "rd"
      refine x_ixT (s1.le0.t (leL.t hp)) (v := .ref d1) (atI_nat (j := 2) rfl) ?_
      walk_at "rd"
      obtain ⟨v3, e3, rfl⟩ := hk1.in_ hnd (getMem hq)
      refine x_dg' (s1.rd (Rd.le leL hr1)) e3 ?_
      refine ⟨_, s2, lt_size (by rw [List.length_map, List.length_take]; have : ms.length ≤ 100 := hsz; omega), sx_nil_of (S := [D]) ((nil_sx s1).trans (SX.mut List.mem_cons_self)) (by simp [hD]), ?_⟩
      rw [upd_same, take_succ_of hq, List.map_append]
      rfl
    · rintro A ⟨s1, s2⟩
      refine ⟨s1 _ _ List.not_mem_nil eL, ?_⟩
      rw [List.take_length] at s2
      refine k D _ (unlock_sx ne s1) hD0 ?_
      rw [put_ne (Ne.symm hDd), s2]
      show _ = some (HO.lst ((ms.map (·.2)).map V.str))
      rw [List.map_map]
      rfl
  | chance ds =>
    obtain ⟨p, dd, rfl, hp, d1, kv1, rfl, hr1, hk1⟩ := hst
    refine x_ixT hp (atI_nat (j := 0) rfl) ?_
    walk_at "rd"
    walk_at "if!"
    walk_at "rd"
    refine x_ixT hp (atI_nat (j := 0) rfl) ?_
    walk_at "rd"
    walk_at "if!"
    walk_at "rd"
    refine x_lockRE hr1 fun od HL eL ne => ?_
    have leL : Le H HL := lock_le hr1 eL ne
    walk_at "rd"
    refine x_ixT (leL.t hp) (v := .ref d1) (atI_nat (j := 1) rfl) ?_
    refine ⟨d1, od, rfl, .inl ⟨kv1, eL, fun D hD => ?_⟩⟩
    have hDd : d1 ≠ D := ne_of_none eL hD
    have hD0 : H D = none := by rw [← ne D (Ne.symm hDd)]; exact hD
    refine lc_it (walk_keysR hk1) (fun n A => SX [] HL A ∧ A D = some (.lst ((ds.take n).map fun p => V.str p.2.1))) ⟨SX.new hD, upd_same⟩ (fun _ _ _ h => h.1 _ _ List.not_mem_nil eL) ?_ ?_
    · rintro n y A B hn ⟨s1, s2⟩ ⟨rfl, q, v, hq, rfl, _⟩
      walk_at "rd"
      refine ⟨rfl, ?_⟩
      walk_at "rd"
      refine x_ixT (s1.le0.t (leL.t hp)) (v := .ref d1) (atI_nat (j := 1) rfl) ?_
      walk_at "rd"
      obtain ⟨v3, e3, a, x1, x2, rfl, ha, rfl, rfl⟩ := hk1.in_ hnd (getMem hq)
      refine x_dg' (s1.rd (Rd.le leL hr1)) e3 ?_
      walk_at "rd"
      refine x_ixT (s1.le0.t (leL.t ha)) (atI_nat (j := 0) rfl) ?_
      refine ⟨_, s2, lt_size (by rw [List.length_map, List.length_take]; have : ds.length ≤ 100 := hsz; omega), sx_nil_of (S := [D]) ((nil_sx s1).trans (SX.mut List.mem_cons_self)) (by simp [hD]), ?_⟩
      rw [upd_same, take_succ_of hq, List.map_append]
      rfl
    · rintro A ⟨s1, s2⟩
      refine ⟨s1 _ _ List.not_mem_nil eL, ?_⟩
      rw [List.take_length] at s2
      refine k D _ (unlock_sx ne s1) hD0 ?_
      rw [put_ne (Ne.symm hDd), s2]
      show _ = some (HO.lst ((ds.map (·.2.1)).map V.str))
      rw [List.map_map]
      rfl
end
end M

namespace M
open PySem PySem.Spec PyProof.Rows L2
/-! ### settling, round by round -/
def addS (s : List Str) (n : Str) : List Str := if n ∈ s then s else s ++ [n]
def tosOf (tbl : List (Str × Stand)) (n : Str) : List Str := ((lookA tbl n).map Stand.tos).getD []
def turnR (f : Str → List Str) (rs : List Str × List Str) (n : Str) : List Str × List Str := if ((f n).all fun t => decide (t ∈ rs.2)) = true then (rs.1, addS rs.2 n) else (rs.1 ++ [n], rs.2)
def roundR (f : Str → List Str) (left s : List Str) : List Str × List Str := left.foldl (turnR f) ([], s)
def ringR (f : Str → List Str) : Nat → List Str → List Str → List Str
  | 0, left, _ => left
  | n + 1, left, s => if (roundR f left s).1.length < left.length then ringR f n (roundR f left s).1 (roundR f left s).2 else (roundR f left s).1
def ringB (tbl : List (Str × Stand)) : Bool := decide ((ringR (tosOf tbl) (tbl.length + 1) (tbl.map (·.1)) []).length = 0)
theorem ringR_succ (f : Str → List Str) (n : Nat) (left s : List Str) : ringR f (n + 1) left s = if (roundR f left s).1.length < left.length then ringR f n (roundR f left s).1 (roundR f left s).2 else (roundR f left s).1 := rfl
def muR (σ : L2.St) (A : Hp) : Nat := match σ with
  | [_, some (.ref L), _, some (.bl true), _, _, _] => (match A L with | some (.lst l) => l.length + 1 | _ => 0)
  | _ => 0
theorem muR_true {A : Hp} {L : Addr} {l : List V} {a b c d e : Option V} (h : A L = some (.lst l)) : muR [a, some (.ref L), b, some (.bl true), c, d, e] A = l.length + 1 := by
  show (match A L with | some (.lst l) => l.length + 1 | _ => 0) = _
  rw [h]
theorem muR_false {A : Hp} {L : Addr} {a b c d e : Option V} : muR [a, some (.ref L), b, some (.bl false), c, d, e] A = 0 := rfl
theorem tos_len (st : Stand) : st.tos.length = st.size := by
  cases st with
  | fin => rfl
  | hand h ms => exact List.length_map _
  | chance ds => exact List.length_map _
theorem ringR_fuel (f : Str → List Str) : ∀ (n m : Nat) (left s : List Str), left.length < n → left.length < m → ringR f n left s = ringR f m left s
  | 0, _, _, _, h, _ => absurd h (Nat.not_lt_zero _)
  | _, 0, _, _, _, h => absurd h (Nat.not_lt_zero _)
  | n + 1, m + 1, left, s, h1, h2 => by
    unfold ringR
    split
    · exact ringR_fuel f n m _ _ (by omega) (by omega)
    · rfl
theorem addS_len (s : List Str) (n : Str) : (addS s n).length ≤ s.length + 1 := by
  unfold addS
  split
  · omega
  · simp
theorem turnR_len (f : Str → List Str) (rs : List Str × List Str) (n : Str) : (turnR f rs n).1.length + (turnR f rs n).2.length ≤ rs.1.length + rs.2.length + 1 := by
  unfold turnR
  split
  · have := addS_len rs.2 n
    show rs.1.length + (addS rs.2 n).length ≤ _
    omega
  · show (rs.1 ++ [n]).length + rs.2.length ≤ _
    rw [List.length_append]
    show rs.1.length + 1 + rs.2.length ≤ _
    omega
theorem foldR_len (f : Str → List Str) : ∀ (l : List Str) (rs : List Str × List Str), (l.foldl (turnR f) rs).1.length + (l.foldl (turnR f) rs).2.length ≤ rs.1.length + rs.2.length + l.length
  | [], rs => Nat.le_refl _
  | n :: l, rs => by
    have h1 := foldR_len f l (turnR f rs n)
    have h2 := turnR_len f rs n
    show (l.foldl (turnR f) (turnR f rs n)).1.length + (l.foldl (turnR f) (turnR f rs n)).2.length ≤ _
    rw [List.length_cons]
    omega
theorem foldR_take (f : Str → List Str) {l : List Str} {i : Nat} {n : Str} (h : l[i]? = some n) (rs : List Str × List Str) : (l.take (i + 1)).foldl (turnR f) rs = turnR f ((l.take i).foldl (turnR f) rs) n := by
  rw [take_succ_of h, List.foldl_append]
  rfl
theorem foldR_sub (f : Str → List Str) : ∀ (l : List Str) (rs : List Str × List Str) (x : Str), x ∈ (l.foldl (turnR f) rs).1 → x ∈ rs.1 ∨ x ∈ l
  | [], rs, x, h => .inl h
  | n :: l, rs, x, h => by
    rcases foldR_sub f l (turnR f rs n) x h with h | h
    · unfold turnR at h
      split at h
      · exact .inl h
      · rcases List.mem_append.mp h with h | h
        · exact .inl h
        · exact .inr (List.mem_cons.mpr (.inl (List.mem_singleton.mp h)))
    · exact .inr (List.mem_cons_of_mem _ h)
theorem keys_put {kv : List (Key × V)} {l : List Str} {s : Str} {v : V} (e : kv.map (·.1) = l.map Sum.inr) : (putK kv (Sum.inr s) v).map (·.1) = (addS l s).map Sum.inr := by
  unfold addS
  by_cases m : s ∈ l
  · rw [if_pos m, ← e]
    unfold putK
    have h : (kv.any fun p => decide (p.1 = (Sum.inr s : Key))) = true := by rw [valV_any, keys_val e, decide_eq_true m]
    rw [if_pos h, List.map_map]
    apply List.map_congr_left
    intro p hp
    show (if p.1 = (Sum.inr s : Key) then (p.1, v) else p).1 = p.1
    split <;> rfl
  · rw [if_neg m, putK_fresh v e m, List.map_append, List.map_append, e]
    rfl
section
variable {P : Program} {w : World} {K : PySem.W.Frag} {mg : Str → Option Value} {base : Heap}
def sp_is_ringless (T : Tx K mg) : Sp := fun vs H Q _ => ∃ x tbl dx fs d nm, vs = [.ref x] ∧ H x = some (.ins T.a_Work dx fs) ∧ fs.lookup ("table" : Str) = some (V.ref d) ∧ rD (rStand K) H (.ref d) tbl ∧
  fs.lookup ("names" : Str) = some (V.ref nm) ∧ SqT K H nm ((tbl.map (·.1)).map V.str) ∧ tbl.length ≤ 100 ∧ (∀ p ∈ tbl, p.2.nd ∧ p.2.size ≤ 100) ∧ ∀ H', SX [] H H' → Q (.bl (ringB tbl)) H'
theorem ok_is_ringless (T : Tx K mg) : FnOk P w K mg base CX0 2 T.is_ringless.f T.is_ringless.fd P_is_ringless (sp_is_ringless T) := by
  refine T.is_ringless.F.ok sc_is_ringless (fun vs H Q E h => ?_) (fun cdv A outer s H vs Q E hr h => ?_)
  · obtain ⟨x, tbl, dx, fs, d, nm, rfl, h1, h2, h3, h4, h5, h100, hall, k⟩ := h
    rfl
  have hu := hu_of hr
  have nd := sc_is_ringless.nd
  obtain ⟨x, tbl, dx, fs, d, nm, rfl, h1, h2, h3, h4, h5, h100, hall, k⟩ := h
  refine ⟨_, (pss_cons (ps_set (i := 1) nd rfl (Or.inl rfl) (pe_callTy (w_list (K := K) rfl) (by rfl) T.b_list (by decide +kernel) (pa_cons (w_fld (K := K) rfl (pv 0) rfl) pa_nil)))
      (pss_cons (ps_set (i := 2) nd rfl (Or.inr rfl) pe_dnewK)
      (pss_cons (ps_set (i := 3) nd rfl (Or.inl rfl) pe_bl)
      (pss_cons (ps_while PassesOwn.never (pt_val (pv 3)) (pss_cons (ps_set (i := 4) nd rfl (Or.inl rfl) (pe_lst pa_nil))
      (pss_cons (ps_for PassesOwn.never rfl (w_pilist (K := K) rfl (pv 1)) (pg_name (i := 5) nd rfl (Or.inl rfl)) (pss_one (ps_if (pt_val (pe_callB (w_all (K := K) rfl rfl) (by rfl) T.b_all (by decide +kernel) (pa_cons (pe_lc (own := [("to", 6)]) rfl nd (w_pilist (K := K) rfl (pe_call (ok_leads (P := P) (w := w) T) (hr.mono (by decide)) (by rfl) T.leads.g T.leads.F.kp T.leads.B .nil pass0 (pa_cons (pv 0) (pa_cons (pv 5) pa_nil)))) (blkOk_by (own := [("to", 6)]) (N := N_is_ringless) (sc := defScope s_is_ringless) (by decide +kernel)) (fun _ _ _ _ _ => (pg_name (i := 6) nd rfl (Or.inl rfl))) (fun _ _ _ _ _ => pts_nil) (fun _ _ _ _ _ => (pe_cmp (pc_din hu (pv 6) (pv 2)) rfl))) pa_nil))) (pss_one (ps_dput hu (pv 2) (pv 5) pe_bl rfl)) (pss_one (ps_expr (pe_bm PySem.F.plainAttrs_list PySem.F.slot_list_append PySem.F.type_list_append mt_append (pv 4) (pa_cons (pv 5) pa_nil)))))))
      (pss_cons (ps_set (i := 3) nd rfl (Or.inl rfl) (pe_cmpR op_lt (pe_callB (w_len (K := K) rfl) (by rfl) T.b_len (by decide +kernel) (pa_cons (pv 4) pa_nil)) (pe_callB (w_len (K := K) rfl) (by rfl) T.b_len (by decide +kernel) (pa_cons (pv 1) pa_nil)) (nomark _)))
      (pss_one (ps_set (i := 1) nd rfl (Or.inl rfl) (pv 4)))))))
      (pss_one (ps_ret (pe_cmpR op_eq (pe_callB (w_len (K := K) rfl) (by rfl) T.b_len (by decide +kernel) (pa_cons (pv 1) pa_nil)) pe_int (nomark _)))))))), ?_⟩
  refine x_start (σ' := [some _, none, none, none, none, none, none]) rfl ?_
  try simp only [cx_n, cx_K, cx_w, cx_P]
  walk_at "rd"
  refine ⟨x, _, dx, fs, _, rfl, h1, T.cl_Work, T.n_Work_names, h4, ?_⟩
  walk_at "rd"
  refine x_clistT h5 fun L0 hL0 => ?_
  walk_at "rd"
  intro S hS
  walk_at "rd"
  have hSL : S ≠ L0 := by
    rintro rfl
    rw [upd_same] at hS
    cases hS
  have hS0 : H S = none := by rw [upd_ne hSL] at hS; exact hS
  refine x_while (fun σ A => ∃ (L : Addr) (left settled : List Str) (going : Bool) (a b : Option V) (kv : List (Key × V)), σ = [some (.ref x), some (.ref L), some (.ref S), some (.bl going), a, b, none] ∧ SX [] H A ∧ A L = some (.lst (left.map V.str)) ∧ A S = some (.dK kv) ∧ kv.map (·.1) = settled.map Sum.inr ∧
      left.length + settled.length ≤ 100 ∧ (∀ n ∈ left, n ∈ tbl.map (·.1)) ∧ (going = true → ringR (tosOf tbl) (left.length + 1) left settled = ringR (tosOf tbl) (tbl.length + 1) (tbl.map (·.1)) []) ∧ (going = false → left = ringR (tosOf tbl) (tbl.length + 1) (tbl.map (·.1)) []))
    muR ?_ ?_ ?_
  · refine ⟨L0, tbl.map (·.1), [], true, none, none, [], rfl, (SX.new hL0).trans (SX.new hS), by rw [upd_ne (Ne.symm hSL)]; exact upd_same, upd_same, rfl, ?_, fun _ h => h, fun _ => ?_, fun h => nomatch h⟩
    · rw [List.length_map]
      exact h100
    · rw [List.length_map]
  · rintro σ A ⟨L, left, settled, going, a, b, kv, rfl, sx, hL, hK, hkeys, hlen, hin, hgo, hend⟩
    walk_at "rd"
    cases going with
    | false =>
      walk_at "rd"
      refine x_len (n := left.length) (.inl ⟨left.map V.str, sqL hL, by rw [List.length_map]⟩) ?_
      walk_at "rd"
      have e : decide (V.int (left.length : Int) = V.int 0) = ringB tbl := by
        unfold ringB
        rw [← hend rfl]
        by_cases h : left.length = 0
        · rw [decide_eq_true h, decide_eq_true (by rw [h]; rfl)]
        · rw [decide_eq_false h, decide_eq_false (by intro q; injection q with q; omega)]
      rw [e]
      exact k A sx
    | true =>
      walk_at "rd"
      refine ⟨Nat.le_of_ble_eq_true rfl, fun R hR => ?_⟩
      walk_at "rd"
      have hRL : L ≠ R := ne_of_none hL hR
      have hRS : S ≠ R := ne_of_none hK hR
      have hLS : L ≠ S := ne_of hL hK (by intro z; cases z)
      refine x_itl (sqL (by rw [upd_ne hRL]; exact hL)) ?_
      have hR0 : H R = none := (SX.free sx hR List.not_mem_nil)
      refine for_it (walk_listR (R := rS) (Hb := H) (paired_S' left)) (fun i σ B => ∃ (b : Option V) (kv : List (Key × V)), σ = [some (.ref x), some (.ref L), some (.ref S), some (.bl true), some (.ref R), b, none] ∧ SX [] H B ∧ B L = some (.lst (left.map V.str)) ∧ B S = some (.dK kv) ∧
        kv.map (·.1) = ((left.take i).foldl (turnR (tosOf tbl)) ([], settled)).2.map Sum.inr ∧ B R = some (.lst (((left.take i).foldl (turnR (tosOf tbl)) ([], settled)).1.map V.str))) ?_ ?_ ?_ ?_
      · exact ⟨_, kv, rfl, sx.trans (SX.new hR), by rw [upd_ne hRL]; exact hL, by rw [upd_ne hRS]; exact hK, hkeys, upd_same⟩
      · rintro i σ B _ ⟨_, _, rfl, _, hB, _⟩
        exact sqL hB
      · rintro i y σ B0 B hi ⟨b, kv2, rfl, s2, hL2, hS2, hk2, hR2⟩ ⟨rfl, n, hn, rfl⟩
        generalize hrs : (left.take i).foldl (turnR (tosOf tbl)) ([], settled) = rs at hk2 hR2
        have hlen2 : rs.1.length + rs.2.length ≤ 100 := by
          have := foldR_len (tosOf tbl) (left.take i) ([], settled)
          rw [hrs, List.length_take] at this
          simp only [List.length_nil] at this
          omega
        obtain ⟨st, hst⟩ := lookA_some (hin n (getMem hn))
        obtain ⟨c1, c2⟩ := hall _ (lookA_mem hst)
        have htos : tosOf tbl n = st.tos := by
          unfold tosOf
          rw [hst]
          rfl
        have hstep := foldR_take (tosOf tbl) hn ([], settled)
        rw [hrs] at hstep
        walk_at "rd"
        refine ⟨x, n, tbl, st, rfl, ⟨dx, fs, d, s2 _ _ List.not_mem_nil h1, h2, mono_D (mono_stand K) _ _ _ _ s2.le0 h3⟩, hst, c1, c2, fun p B1 sx1 hp hp1 => ?_⟩
        refine x_itl (sqL hp1) fun D hD => ?_
        have hDp : p ≠ D := ne_of_none hp1 hD
        have k1 := sx1 _ _ List.not_mem_nil hS2
        have hDS : S ≠ D := ne_of_none k1 hD
        refine lc_it (walk_listR (R := rS) (Hb := H) (paired_S' st.tos)) (fun m C => SX [] B1 C ∧ C D = some (.lst ((st.tos.take m).map fun t => V.bl (decide (t ∈ rs.2))))) ⟨SX.new hD, upd_same⟩ (fun m C _ h => sqL (h.1 _ _ List.not_mem_nil hp1)) ?_ ?_
        · rintro m y C C' hm ⟨s3, s4⟩ ⟨rfl, t, ht, rfl⟩
          walk_at "rd"
          refine ⟨rfl, ?_⟩
          walk_at "rd"
          refine x_din' (.inl (s3 _ _ List.not_mem_nil k1)) ?_
          rw [keys_val hk2]
          refine ⟨_, s4, lt_size (by rw [List.length_map, List.length_take]; have := tos_len st; have c3 : st.size ≤ 100 := c2; omega), sx_nil_of (S := [D]) ((nil_sx s3).trans (SX.mut List.mem_cons_self)) (by simp [hD]), ?_⟩
          rw [upd_same, take_succ_of ht, List.map_append]
          rfl
        · rintro C ⟨s3, s4⟩
          rw [List.take_length] at s4
          have sBC : SX [] B C := sx1.trans s3
          refine ⟨D, st.tos.map fun t => decide (t ∈ rs.2), rfl, sqL (by rw [s4, List.map_map]; rfl), ?_⟩
          walk_at "rd"
          have eall : ((st.tos.map fun t => decide (t ∈ rs.2)).all id) = ((tosOf tbl n).all fun t => decide (t ∈ rs.2)) := by
            rw [htos, List.all_map]
            rfl
          rw [eall]
          refine x_cases (fun hc => ?_) (fun hc => ?_)
          · walk_at "rd"
            refine ⟨S, _, rfl, DPut.k (k := Sum.inr n) (sBC _ _ List.not_mem_nil hS2) (lt_size (by have := congrArg List.length hk2; simp at this; omega)), ?_⟩
            have e2 : turnR (tosOf tbl) rs n = (rs.1, addS rs.2 n) := if_pos hc
            rw [hstep, e2]
            refine ⟨_, _, rfl, sx_nil_of (S := [S]) ((nil_sx (s2.trans sBC)).trans (SX.mut List.mem_cons_self)) (by simp [hS0]), by rw [upd_ne hLS]; exact sBC _ _ List.not_mem_nil hL2, upd_same, keys_put hk2, by rw [upd_ne (Ne.symm hRS)]; exact sBC _ _ List.not_mem_nil hR2⟩
          · walk_at "rd"
            have hR3 := sBC _ _ List.not_mem_nil hR2
            refine ⟨.inl ⟨rfl, _, sqL hR3⟩, ?_⟩
            walk_at "rd"
            refine ⟨R, _, _, rfl, rfl, hR3, lt_size (by rw [List.length_map]; omega), ?_⟩
            have e2 : turnR (tosOf tbl) rs n = (rs.1 ++ [n], rs.2) := if_neg (by rw [hc]; exact Bool.false_ne_true)
            rw [hstep, e2]
            refine ⟨_, _, rfl, sx_nil_of (S := [R]) ((nil_sx (s2.trans sBC)).trans (SX.mut List.mem_cons_self)) (by simp [hR0]), by rw [upd_ne hRL]; exact sBC _ _ List.not_mem_nil hL2, by rw [upd_ne hRS]; exact sBC _ _ List.not_mem_nil hS2, hk2, ?_⟩
            rw [upd_same, List.map_append]
            rfl
      · rintro σ B ⟨b, kv2, rfl, s2, hL2, hS2, hk2, hR2⟩
        rw [List.take_length] at hk2 hR2
        generalize hrs : left.foldl (turnR (tosOf tbl)) ([], settled) = rs at hk2 hR2
        have hround : roundR (tosOf tbl) left settled = rs := hrs
        walk_at "rd"
        refine x_len (n := rs.1.length) (.inl ⟨_, sqL hR2, by rw [List.length_map]⟩) ?_
        walk_at "rd"
        refine x_len (n := left.length) (.inl ⟨_, sqL hL2, by rw [List.length_map]⟩) ?_
        walk_at "rd"
        have hl2 : rs.1.length + rs.2.length ≤ 100 := by
          have := foldR_len (tosOf tbl) left ([], settled)
          rw [hrs] at this
          simp only [List.length_nil] at this
          omega
        have hg := hgo rfl
        rw [ringR_succ (tosOf tbl) left.length left settled] at hg
        rw [hround] at hg
        refine ⟨⟨R, rs.1, rs.2, _, _, _, kv2, rfl, s2, hR2, hS2, hk2, hl2, fun n hn => ?_, fun h => ?_, fun h => ?_⟩, ?_⟩
        · rcases foldR_sub (tosOf tbl) left ([], settled) n (by rw [hrs]; exact hn) with q | q
          · cases q
          · exact hin n q
        · have h : rs.1.length < left.length := by simpa using h
          rw [if_pos h] at hg
          rw [← hg]
          exact ringR_fuel _ _ _ _ _ (Nat.lt_succ_self _) h
        · have h : ¬ rs.1.length < left.length := by simpa using h
          rw [if_neg h] at hg
          exact hg
        · rw [muR_true hL, List.length_map]
          by_cases h : rs.1.length < left.length
          · rw [decide_eq_true (show (rs.1.length : Int) < left.length by omega), muR_true hR2, List.length_map]
            omega
          · rw [decide_eq_false (show ¬ (rs.1.length : Int) < left.length by omega), muR_false]
            omega
  · rintro σ A Q1 Q2 hm ⟨v, hv, c, hc, q⟩
    exact ⟨v, hv, c, hc, hm _ _ q⟩
end
end M

namespace M
open PySem PySem.Spec PyProof.Rows L2
/-- the fields of a work -/
def workF (hands : Int) (start : Str) (d nm en : Addr) (b : Bool) : List (Str × V) := [("hands", .int hands), ("start", .str start), ("table", .ref d), ("names", .ref nm), ("ends", .ref en), ("ringless", .bl b)]
/-- the table of a work, by its stands -/
structure Tbl (sts tbl : List (Str × Stand)) : Prop where
  srt : sortedS (tbl.map (·.1)) = true
  perm : (tbl.map (·.1)).Perm (sts.map (·.1))
  all : ∀ p ∈ tbl, ∃ st, lookA sts p.1 = some st ∧ SrtStand st p.2
def endsOf (tbl : List (Str × Stand)) : List Str := (tbl.filter fun p => match p.2 with | .fin => true | _ => false).map (·.1)
structure WorkOk (hands : Int) (start : Str) (sts : List (Str × Stand)) : Prop where
  h : 1 ≤ hands ∧ hands ≤ 4
  len : 1 ≤ sts.length ∧ sts.length ≤ 100
  nd : (sts.map (·.1)).Nodup
  all : ∀ p ∈ sts, nameB p.1 = true ∧ StandOk hands (sts.map (·.1)) p.2
  st : start ∈ sts.map (·.1)
theorem StandOk.nd {h : Int} {names : List Str} {st : Stand} (o : StandOk h names st) : st.nd := by
  cases st with
  | fin => exact trivial
  | hand h ms => exact o.2.2.2.2.1
  | chance ds => exact o.2.2.1
theorem StandOk.size {h : Int} {names : List Str} {st : Stand} (o : StandOk h names st) : st.size ≤ 4 := by
  cases st with
  | fin => exact Nat.zero_le _
  | hand h ms => exact o.2.2.2.1
  | chance ds => exact o.2.1
theorem SrtStand.size {a b : Stand} (h : SrtStand a b) : b.size = a.size := by rw [← tos_len, ← tos_len, (SrtStand.tos h).length_eq]
theorem SrtStand.nd {a b : Stand} (h : SrtStand a b) (n : a.nd) : b.nd := by
  cases a <;> cases b <;> first | exact h.elim | exact trivial | exact (h.2.perm.map _).nodup_iff.mpr n | exact ((Srt.perm h).map _).nodup_iff.mpr n
section
variable {P : Program} {w : World} {K : PySem.W.Frag} {mg : Str → Option Value} {base : Heap}
structure WorkAt (T : Tx K mg) (H : Hp) (x : Addr) (hands : Int) (start : Str) (tbl : List (Str × Stand)) : Prop where
  ex : ∃ dx d nm en, H x = some (.ins T.a_Work dx (workF hands start d nm en (ringB tbl))) ∧ rD (rStand K) H (.ref d) tbl ∧ SqT K H nm ((tbl.map (·.1)).map V.str) ∧ SqT K H en ((endsOf tbl).map V.str)
theorem WorkAt.le {T : Tx K mg} {A B : Hp} {x : Addr} {hands : Int} {start : Str} {tbl : List (Str × Stand)} (e : Le A B) (h : WorkAt T A x hands start tbl) : WorkAt T B x hands start tbl := by
  obtain ⟨dx, d, nm, en, h1, h2, h3, h4⟩ := h.ex
  exact ⟨dx, d, nm, en, e.ins _ _ _ _ h1, mono_D (mono_stand K) _ _ _ _ e h2, e.t h3, e.t h4⟩
theorem memF {f : Str} {fs : List (Str × V)} (h : (fs.map (·.1)).all (fun g => decide (g ≠ f)) = true) : f ∉ fs.map (·.1) := fun m => by
  have := List.all_eq_true.mp h f m
  simp at this
theorem ne_ref {H : Hp} {a b : Addr} {o u : HO} (h : H a = some o) (h' : H b = some u) (d : o ≠ u) : a ≠ b := ne_of h h' d
def sp_Work_init (T : Tx K mg) : Sp := fun vs H Q _ => ∃ x dx v hands start sts, vs = [.ref x, .int hands, .str start, v] ∧ H x = some (.ins T.a_Work dx []) ∧ rD (rStand K) (hid [x] H) v sts ∧ WorkOk hands start sts ∧
  ∀ H' tbl, SX [x] H H' → WorkAt T H' x hands start tbl → Tbl sts tbl → Q .non H'
theorem ok_Work_init (T : Tx K mg) : FnOk P w K mg base CX0 5 T.Work_init.f T.Work_init.fd P_Work_init (sp_Work_init T) := by
  refine T.Work_init.F.ok sc_Work_init (fun vs H Q E h => ?_) (fun cdv A outer s H vs Q E hr h => ?_)
  · obtain ⟨x, dx, v, hands, start, sts, rfl, hx, hv, ok, k⟩ := h
    rfl
  have hu := hu_of hr
  have nd := sc_Work_init.nd
  obtain ⟨x, dx, v, hands, start, sts, rfl, hx, hv, ok, k⟩ := h
  refine ⟨_, (pss_cons (ps_if (PW.pt (pw_or (pt_not (pt_val (pe_call (ok_is_integer (P := P) (w := w) T) (hr.mono (by decide)) (by rfl) T.is_integer.g T.is_integer.F.kp T.is_integer.B .nil pass0 (pa_cons (pv 1) pa_nil)))) (pw_or1 (pt_not (pt_chain op_le op_le pe_int (pv 1) pe_int))))) (pss_one ps_never) pss_nil)
      (pss_cons (ps_if (pt_not (pt_val (pe_call (ok_are_stands (P := P) (w := w) T) (hr.mono (by decide)) (by rfl) T.are_stands.g T.are_stands.F.kp T.are_stands.B .nil pass0 (pa_cons (pv 3) (pa_cons (pv 1) pa_nil))))) (pss_one ps_never) pss_nil)
      (pss_cons (ps_if (PW.pt (pw_or (pt_not (pt_val (pe_call (ok_is_name (P := P) (w := w) T) (hr.mono (by decide)) (by rfl) T.is_name.g T.is_name.F.kp T.is_name.B .nil pass0 (pa_cons (pv 2) pa_nil)))) (pw_or1 (pt_cmp (pc_dnotin hu (pv 2) (pv 3)))))) (pss_one ps_never) pss_nil)
      (pss_cons (ps_fld (pv 0) (pv 1) rfl)
      (pss_cons (ps_fld (pv 0) (pv 2) rfl)
      (pss_cons (ps_fld (pv 0) (pe_dc (own := [("name", 4)]) rfl nd (w_pilist (K := K) rfl (pe_callB (cl_sortD rfl) (by rfl) T.b_sorted (by decide +kernel) (pa_cons (pv 3) pa_nil))) (blkOk_by (own := [("name", 4)]) (N := N_Work_init) (sc := defScope s_Work_init) (by decide +kernel)) (fun _ _ _ _ _ => (pg_name (i := 4) nd rfl (Or.inl rfl))) (fun _ _ _ _ _ => pts_nil) (fun _ _ _ _ _ => (pv 4)) (fun _ _ _ _ _ => (pe_call (ok_copied (P := P) (w := w) T) (hr.mono (by decide)) (by rfl) T.copied.g T.copied.F.kp T.copied.B .nil pass0 (pa_cons (pe_dget hu (pv 3) (pv 4) (fun _ _ => rfl)) pa_nil)))) rfl)
      (pss_cons (ps_fld (pv 0) (pe_callTy (w_tup (K := K) rfl) (by rfl) T.b_tuple (by decide +kernel) (pa_cons (pe_callB (cl_sortD rfl) (by rfl) T.b_sorted (by decide +kernel) (pa_cons (pv 3) pa_nil)) pa_nil)) rfl)
      (pss_cons (ps_fld (pv 0) (pe_callTy (w_tup (K := K) rfl) (by rfl) T.b_tuple (by decide +kernel) (pa_cons (pe_lc (own := [("name", 4)]) rfl nd (w_pitup (K := K) rfl (w_fld (K := K) rfl (pv 0) rfl)) (blkOk_by (own := [("name", 4)]) (N := N_Work_init) (sc := defScope s_Work_init) (by decide +kernel)) (fun _ _ _ _ _ => (pg_name (i := 4) nd rfl (Or.inl rfl))) (fun _ _ _ _ _ => pts_one (pt_cmpR op_eq (pe_ix (w_ixT (K := K) rfl) (pe_dget hu (w_fld (K := K) rfl (pv 0) rfl) (pv 4) (fun _ _ => rfl)) pe_int (fun _ _ => rfl)) pe_str (nomark _))) (fun _ _ _ _ _ => (pv 4))) pa_nil)) rfl)
      (pss_one (ps_fld (pv 0) (pe_call (ok_is_ringless (P := P) (w := w) T) (hr.mono (by decide)) (by rfl) T.is_ringless.g T.is_ringless.F.kp T.is_ringless.B .nil pass0 (pa_cons (pv 0) pa_nil)) rfl)))))))))), ?_⟩
  refine x_start (σ' := [some _, some _, some _, some _, none]) rfl ?_
  try simp only [cx_n, cx_K, cx_w, cx_P]
  obtain ⟨⟨hh1, hh4⟩, ⟨hl1, hl100⟩, hnd, hall, hst⟩ := ok
  obtain ⟨d0, kvs, rfl, hr0, hk⟩ := id hv
  have hname : nameB start = true := by
    obtain ⟨p, hp, e⟩ := List.mem_map.mp hst
    rw [← e]
    exact (hall p hp).1
  walk_at "rd"
  refine ⟨_, rfl, ?_⟩
  walk_at "rd"
  refine x_true (decide_eq_true hh1) ?_
  walk_at "rd"
  rw [decide_eq_true hh4]
  walk_at "rd"
  refine ⟨_, hands, sts, rfl, mono_D (mono_stand K) _ _ _ _ le_hid hv, hl1, hl100, hall, fun H1 s1 => ?_⟩
  walk_at "rd"
  refine ⟨_, rfl, nameB_size hname, ?_⟩
  rw [hname]
  walk_at "rd"
  refine x_dni' (s1.rd (le_hid.rd _ _ trivial hr0)) ?_
  rw [keys_val hk.keys, decide_eq_true hst]
  walk_at "rd"
  refine x_setF [] (s1 _ _ List.not_mem_nil hx) T.cl_Work T.n_Work_hands rfl (by decide) (by decide) ?_
  walk_at "rd"
  refine x_setF ["hands"] upd_same T.cl_Work T.n_Work_start rfl (by decide) (by decide +kernel) ?_
  rw [upd_upd]
  -- the table
  generalize hH2 : upd H1 x (.ins T.a_Work dx (([] ++ [(("hands" : Str), V.int hands)]) ++ [(("start" : Str), V.str start)])) = H2
  have s2 : SX [x] H H2 := by rw [← hH2]; exact (nil_sx s1).trans (SX.mut List.mem_cons_self)
  have x2 : H2 x = some (.ins T.a_Work dx [("hands", .int hands), ("start", .str start)]) := by rw [← hH2, upd_same]; rfl
  clear hH2
  have lk : ∀ {b : Addr} {u : HO}, H b = some u → b ≠ x → H2 b = some u := fun h n => s2 _ _ (by simpa using n) h
  have r2 : Rd H2 d0 (.dK kvs) := s2.leH.rd _ _ trivial hr0
  walk_at "rd"
  refine x_dc (x_iList (x_CB (x_cons (x_var (by rfl) (x_nil ?_)))))
  refine x_sortD r2 hk.keys fun ys p hp hs np => ?_
  refine x_itl (sqL upd_same) fun D hD => ?_
  have hDp : D ≠ p := by
    rintro rfl
    rw [upd_same] at hD
    cases hD
  have hD2 : H2 D = none := by rw [upd_ne hDp] at hD; exact hD
  have hDx : D ≠ x := by
    rintro rfl
    rw [x2] at hD2
    cases hD2
  have hD0 : H D = none := s2.free hD2 (by simpa using hDx)
  have ysn : ys.Nodup := hp.nodup_iff.mpr hnd
  have hyl : ys.length = sts.length := by rw [hp.length_eq, List.length_map]
  refine dc_walk (walk_listR (R := rS) (Hb := H) (paired_S' ys)) (fun n A => SX [] H2 A ∧ A p = some (.lst (ys.map V.str)) ∧ ∃ kv tb, A D = some (.dK kv) ∧ KVs (rStand K) (hid [D, x] A) kv tb ∧ tb.map (·.1) = ys.take n ∧
    ∀ q ∈ tb, ∃ st, lookA sts q.1 = some st ∧ SrtStand st q.2) ?_ ?_ ?_ ?_
  · exact ⟨(SX.new np).trans (SX.new hD), by rw [upd_ne (Ne.symm hDp)]; exact upd_same, [], [], upd_same, .nil, rfl, fun _ h => nomatch h⟩
  · exact fun n A _ h => sqL h.2.1
  · rintro n y A0 A hn ⟨sA, pA, kv, tb, dA, kA, eA, allA⟩ ⟨rfl, s, hs', rfl⟩
    have sm : s ∈ sts.map (·.1) := hp.mem_iff.mp (getMem hs')
    obtain ⟨st, hst'⟩ := lookA_some sm
    obtain ⟨v, e1, rv⟩ := hk.at_ hst'
    obtain ⟨_, sok⟩ := hall _ (lookA_mem hst')
    walk_at "rd"
    refine ⟨rfl, ?_⟩
    walk_at "rd"
    refine x_dg' (sA.rd r2) e1 ?_
    walk_at "rd"
    have sHA : SX [x] H A := s2.trans (nil_sx sA)
    refine ⟨v, st, [D, x], rfl, ?_, mono_stand K _ _ _ _ (le_hidS sHA ?_) rv, sok.nd, Nat.le_trans sok.size (by decide), fun v' A' st' sx' rv' sr => ?_⟩
    · intro b hb
      rcases List.mem_cons.mp hb with rfl | hb
      · rw [dA]
        exact fun z => nomatch z
      · rcases List.mem_cons.mp hb with rfl | hb
        · rw [sA _ _ List.not_mem_nil x2]
          exact fun z => nomatch z
        · cases hb
    · intro b hb
      rcases List.mem_cons.mp hb with rfl | hb
      · exact .inr hD0
      · exact .inl hb
    have dA' := sx' _ _ List.not_mem_nil dA
    have hkl : kv.length = (ys.take n).length := by rw [Paired.length kA, ← eA, List.length_map]
    refine ⟨kv, Sum.inr s, rfl, dA', lt_size (by rw [hkl, List.length_take]; omega), ?_⟩
    have kk : kv.map (·.1) = (ys.take n).map Sum.inr := by rw [kA.keys, eA]
    rw [putK_fresh v' kk (nodup_take ysn hs')]
    have le1 : Le (hid [D, x] A) (hid [D, x] (upd A' D (.dK (kv ++ [(Sum.inr s, v')])))) := (nil_sx sx').le.trans (SX.mut (by simp)).le
    refine ⟨sx_nil_of (S := [D]) ((nil_sx (sA.trans sx')).trans (SX.mut List.mem_cons_self)) (by simp [hD2]), by rw [upd_ne (Ne.symm hDp)]; exact sx' _ _ List.not_mem_nil pA, _, tb ++ [(s, st')], upd_same, ?_, ?_, ?_⟩
    · exact Paired.app (KVs.le (mono_stand K) le1 kA) (.cons ⟨rfl, mono_stand K _ _ _ _ (SX.mut (by simp)).le rv'⟩ .nil)
    · rw [List.map_append, eA, take_succ_of hs']
      rfl
    · intro q hq
      rcases List.mem_append.mp hq with hq | hq
      · exact allA q hq
      · cases List.mem_singleton.mp hq
        exact ⟨st, hst', sr⟩
  rintro A ⟨sA, pA, kv, tb, dA, kA, eA, allA⟩
  rw [List.take_length] at eA
  have htb : Tbl sts tb := ⟨by rw [eA]; exact hs, by rw [eA]; exact hp, allA⟩
  walk_at "rd"
  refine x_setF ["hands", "start"] (sA _ _ List.not_mem_nil x2) T.cl_Work T.n_Work_table rfl (by decide) (by decide +kernel) ?_
  generalize hH3 : upd A x (.ins T.a_Work dx ([(("hands" : Str), V.int hands), (("start" : Str), V.str start)] ++ [(("table" : Str), V.ref D)])) = H3
  have x3 : H3 x = some (.ins T.a_Work dx [("hands", .int hands), ("start", .str start), ("table", .ref D)]) := by rw [← hH3, upd_same]; rfl
  have sA3 : SX [x] A H3 := by rw [← hH3]; exact SX.mut List.mem_cons_self
  have s3 : SX [x] H H3 := (s2.trans (nil_sx sA)).trans sA3
  have tb3 : rD (rStand K) (hid [x] H3) (.ref D) tb := by
    refine ⟨D, kv, rfl, .inl ?_, KVs.le (mono_stand K) ((le_hid2 (S := [x]) (by simp)).trans sA3.le) kA⟩
    rw [hid_of (by simpa using hDx)]
    exact sA3 _ _ (by simpa using hDx) dA
  clear hH3
  walk_at "rd"
  have r3 : Rd H3 d0 (.dK kvs) := s3.leH.rd _ _ trivial hr0
  refine x_sortD r3 hk.keys fun ys2 p2 hp2 hs2 np2 => ?_
  have ey : ys2 = ys := sorted_one hs2 hs (hp2.trans hp.symm)
  subst ey
  walk_at "rd"
  refine x_ctup (sqL upd_same) fun nm hnm => ?_
  walk_at "rd"
  have xp2 : x ≠ p2 := ne_of_none x3 np2
  have hnp : nm ≠ p2 := by
    rintro rfl
    rw [upd_same] at hnm
    cases hnm
  have hnm3 : H3 nm = none := by rw [upd_ne hnp] at hnm; exact hnm
  have xnm : x ≠ nm := ne_of_none x3 hnm3
  refine x_setF ["hands", "start", "table"] (by rw [upd_ne xnm, upd_ne xp2]; exact x3) T.cl_Work T.n_Work_names rfl (by decide) (by decide +kernel) ?_
  generalize hH4 : upd (upd (upd H3 p2 (.lst (ys2.map V.str))) nm (.tup (ys2.map V.str))) x (.ins T.a_Work dx ([(("hands" : Str), V.int hands), (("start" : Str), V.str start), (("table" : Str), V.ref D)] ++ [(("names" : Str), V.ref nm)])) = H4
  have x4 : H4 x = some (.ins T.a_Work dx [("hands", .int hands), ("start", .str start), ("table", .ref D), ("names", .ref nm)]) := by rw [← hH4, upd_same]; rfl
  have s34 : SX [x] H3 H4 := by rw [← hH4]; exact (nil_sx ((SX.new np2).trans (SX.new hnm))).trans (SX.mut List.mem_cons_self)
  have s4 : SX [x] H H4 := s3.trans s34
  have tb4 : rD (rStand K) (hid [x] H4) (.ref D) tb := mono_D (mono_stand K) _ _ _ _ s34.le tb3
  have nm4 : SqT K (hid [x] H4) nm (ys2.map V.str) := by
    refine sqT ?_
    rw [hid_of (by simpa using Ne.symm xnm), ← hH4, upd_ne (Ne.symm xnm), upd_same]
  clear hH4
  walk_at "rd"
  refine x_getF x4 T.cl_Work T.n_Work_names (look_next (by decide +kernel) (look_next (by decide +kernel) (look_next (by decide +kernel) look_here))) ?_
  refine x_itt (le_hid.t nm4) fun E1 hE1 => ?_
  have lt : tb.length = ys2.length := by rw [← eA, List.length_map]
  have xE : x ≠ E1 := ne_of_none x4 hE1
  obtain ⟨_, kv4, eD, rD4, kD4⟩ := id tb4
  cases eD
  refine lc_it (walk_tupR (R := rS) (Hb := H) (paired_S' ys2)) (fun n A => SX [] H4 A ∧ A E1 = some (.lst ((endsOf (tb.take n)).map V.str))) ⟨SX.new hE1, upd_same⟩ (fun n A _ h => h.1.le0.t (le_hid.t nm4)) ?_ ?_
  · rintro n y A0 A5 hn ⟨sA5, eA5⟩ ⟨rfl, s, hs5, rfl⟩
    obtain ⟨q, hq, eq⟩ : ∃ q, tb[n]? = some q ∧ q.1 = s := by
      rw [← eA, List.getElem?_map] at hs5
      cases h : tb[n]? with
      | none => rw [h] at hs5; cases hs5
      | some q => rw [h] at hs5; cases hs5; exact ⟨q, rfl, rfl⟩
    have tnd : (tb.map (·.1)).Nodup := by rw [eA]; exact ysn
    obtain ⟨v5, ev5, rv5⟩ := kD4.in_ tnd (getMem hq)
    rw [eq] at ev5
    walk_at "rd"
    refine ⟨rfl, ?_⟩
    walk_at "rd"
    refine x_getF (sA5 _ _ List.not_mem_nil x4) T.cl_Work T.n_Work_table (look_next (by decide +kernel) (look_next (by decide +kernel) look_here)) ?_
    walk_at "rd"
    refine x_dg' (sA5.le0.rd _ _ trivial (le_hid.rd _ _ trivial rD4)) ev5 ?_
    walk_at "rd"
    have step : endsOf (tb.take (n + 1)) = endsOf (tb.take n) ++ endsOf [q] := by
      rw [take_succ_of hq]
      unfold endsOf
      rw [List.filter_append, List.map_append]
    have h5 : Le (hid [x] H4) A5 := le_hid.trans sA5.le0
    have fit : ((endsOf (tb.take n)).map V.str).length < sizeLine := by
      refine lt_size ?_
      rw [List.length_map]
      unfold endsOf
      rw [List.length_map]
      have := List.length_filter_le (fun p : Str × Stand => match p.2 with | .fin => true | _ => false) (tb.take n)
      rw [List.length_take] at this
      omega
    cases hq2 : q.2 with
    | fin =>
      rw [hq2] at rv5
      obtain ⟨p5, rfl, hp5⟩ := rv5
      refine x_ixT (h5.t hp5) (atI_nat (j := 0) rfl) ?_
      walk_at "rd"
      walk_at "if!"
      walk_at "rd"
      have one : endsOf [q] = [s] := by
        unfold endsOf
        rw [← eq]
        obtain ⟨q1, q2⟩ := q
        cases hq2
        rfl
      refine ⟨_, eA5, fit, sx_nil_of (S := [E1]) ((nil_sx sA5).trans (SX.mut List.mem_cons_self)) (by simp [hE1]), ?_⟩
      rw [upd_same, step, one, List.map_append]
      rfl
    | hand h5' ms =>
      rw [hq2] at rv5
      obtain ⟨p5, d5, rfl, hp5, _⟩ := rv5
      refine x_ixT (h5.t hp5) (atI_nat (j := 0) rfl) ?_
      walk_at "rd"
      walk_at "if!"
      have one : endsOf [q] = [] := by
        unfold endsOf
        obtain ⟨q1, q2⟩ := q
        cases hq2
        rfl
      refine ⟨sA5, ?_⟩
      rw [step, one, List.append_nil]
      exact eA5
    | chance ds =>
      rw [hq2] at rv5
      obtain ⟨p5, d5, rfl, hp5, _⟩ := rv5
      refine x_ixT (h5.t hp5) (atI_nat (j := 0) rfl) ?_
      walk_at "rd"
      walk_at "if!"
      have one : endsOf [q] = [] := by
        unfold endsOf
        obtain ⟨q1, q2⟩ := q
        cases hq2
        rfl
      refine ⟨sA5, ?_⟩
      rw [step, one, List.append_nil]
      exact eA5
  rintro A5 ⟨sA5, eA5⟩
  rw [← lt, List.take_length] at eA5
  walk_at "rd"
  refine x_ctup (sqL eA5) fun en hen => ?_
  walk_at "rd"
  have x5 := sA5 _ _ List.not_mem_nil x4
  have xen : x ≠ en := ne_of_none x5 hen
  refine x_setF ["hands", "start", "table", "names"] (by rw [upd_ne xen]; exact x5) T.cl_Work T.n_Work_ends rfl (by decide) (by decide +kernel) ?_
  generalize hH6 : upd (upd A5 en (.tup ((endsOf tb).map V.str))) x (.ins T.a_Work dx ([(("hands" : Str), V.int hands), (("start" : Str), V.str start), (("table" : Str), V.ref D), (("names" : Str), V.ref nm)] ++ [(("ends" : Str), V.ref en)])) = H6
  have x6 : H6 x = some (.ins T.a_Work dx [("hands", .int hands), ("start", .str start), ("table", .ref D), ("names", .ref nm), ("ends", .ref en)]) := by rw [← hH6, upd_same]; rfl
  have s46 : SX [x] H4 H6 := by rw [← hH6]; exact (nil_sx (sA5.trans (SX.new hen))).trans (SX.mut List.mem_cons_self)
  have tb6 : rD (rStand K) (hid [x] H6) (.ref D) tb := mono_D (mono_stand K) _ _ _ _ s46.le tb4
  have nm6 : SqT K (hid [x] H6) nm ((tb.map (·.1)).map V.str) := by rw [eA]; exact s46.le.t nm4
  have en6 : SqT K (hid [x] H6) en ((endsOf tb).map V.str) := by
    refine sqT ?_
    rw [hid_of (by simpa using Ne.symm xen), ← hH6, upd_ne (Ne.symm xen), upd_same]
  clear hH6
  walk_at "rd"
  refine ⟨x, tb, dx, _, D, nm, rfl, x6, look_next (by decide +kernel) (look_next (by decide +kernel) look_here), mono_D (mono_stand K) _ _ _ _ le_hid tb6,
    look_next (by decide +kernel) (look_next (by decide +kernel) (look_next (by decide +kernel) look_here)), le_hid.t nm6, by omega, fun q hq => ?_, fun H7 s7 => ?_⟩
  · obtain ⟨st, e1, sr⟩ := allA q hq
    obtain ⟨_, sok⟩ := hall _ (lookA_mem e1)
    exact ⟨sr.nd sok.nd, by rw [sr.size]; exact Nat.le_trans sok.size (by decide)⟩
  walk_at "rd"
  refine x_setF ["hands", "start", "table", "names", "ends"] (s7 _ _ List.not_mem_nil x6) T.cl_Work T.n_Work_ringless rfl (by decide) (by decide +kernel) ?_
  have s78 : SX [x] H6 (upd H7 x (.ins T.a_Work dx ([(("hands" : Str), V.int hands), (("start" : Str), V.str start), (("table" : Str), V.ref D), (("names" : Str), V.ref nm), (("ends" : Str), V.ref en)] ++ [(("ringless" : Str), V.bl (ringB tb))]))) := (nil_sx s7).trans (SX.mut List.mem_cons_self)
  refine k _ tb ((s4.trans s46).trans s78) ⟨dx, D, nm, en, upd_same, mono_D (mono_stand K) _ _ _ _ s78.leH tb6, s78.leH.t nm6, s78.leH.t en6⟩ htb
end
end M

namespace M
open PySem PySem.Spec PyProof.Rows L2
theorem at_map {ns : List Int} {i : Nat} {n : Int} (h : ns[i]? = some n) : atI (ns.map V.int) (i : Int) = some (.int n) := atI_nat (by rw [List.getElem?_map, h]; rfl)
theorem ixN_nat {n j : Nat} (h : j < n) : ixN n (j : Int) = some j := by
  unfold ixN
  rw [if_pos (by omega), if_pos (by omega)]
  rfl
theorem app_cps (a b : Str) : (a ++ b : Str).cps.toList = a.cps.toList ++ b.cps.toList := by
  show (a.cps ++ b.cps).toList = _
  exact Array.toList_append
theorem app_len (a b : Str) : (a ++ b : Str).length = a.length + b.length := by
  have := congrArg List.length (app_cps a b)
  simpa [Str.length] using this
theorem str_len (a : Str) : a.cps.toList.length = a.length := by simp [Str.length]
theorem letters_at : ∀ i, i < 26 → ((("abcdefghijklmnopqrstuvwxyz" : Str).cps.toList[i]?).map lowB) = some true := by decide +kernel
theorem signs_at : ∀ i, i < 36 → (((("abcdefghijklmnopqrstuvwxyz" : Str) ++ ("0123456789" : Str) : Str).cps.toList[i]?).map fun c => lowB c || digB c) = some true := by decide +kernel
theorem at_opt {l : List Nat} {f : Nat → Bool} {i : Nat} (h : (l[i]?).map f = some true) : ∃ c, l[i]? = some c ∧ f c = true := by
  cases e : l[i]? with
  | none => rw [e] at h; cases h
  | some c => rw [e] at h; exact ⟨c, rfl, Option.some.inj h⟩
theorem at_ints {ns : List Int} {r : Int} (h0 : 0 ≤ r) (h1 : r < ns.length) : ∃ n, atI (ns.map V.int) r = some (.int n) ∧ n ∈ ns := by
  obtain ⟨i, rfl⟩ : ∃ i : Nat, r = (i : Int) := ⟨r.toNat, by omega⟩
  have hi : i < ns.length := by omega
  exact ⟨ns[i], at_map (by simp [hi]), List.getElem_mem hi⟩
theorem at_strs {ns : List Str} {r : Int} (h0 : 0 ≤ r) (h1 : r < ns.length) : ∃ n, atI (ns.map V.str) r = some (.str n) ∧ n ∈ ns := by
  obtain ⟨i, rfl⟩ : ∃ i : Nat, r = (i : Int) := ⟨r.toNat, by omega⟩
  have hi : i < ns.length := by omega
  exact ⟨ns[i], atI_nat (by rw [List.getElem?_map]; simp [hi]), List.getElem_mem hi⟩
theorem flat_strs (l : List Str) : (l.map V.str).all flatV = true := by
  rw [List.all_map]
  exact List.all_eq_true.mpr fun _ _ => rfl
/-- the first is a letter, all are letters or digits -/
structure WordOk (s : Str) : Prop where
  low : lowB (s.cps.toList.getD 0 0) = true
  all : ∀ c ∈ s.cps.toList, (lowB c || digB c) = true
theorem WordOk.name {s : Str} (h : WordOk s) (h1 : 1 ≤ s.length ∧ s.length ≤ 8) : nameB s = true := nameB_yes h1 h.low h.all
theorem WordOk.app {s : Str} {c : Nat} (h : WordOk s) (h1 : 1 ≤ s.length) (hc : (lowB c || digB c) = true) : WordOk (s ++ ⟨#[c]⟩) := by
  refine ⟨?_, fun d hd => ?_⟩
  · rw [app_cps, List.getD_eq_getElem?_getD, List.getElem?_append_left (by rw [str_len]; exact h1), ← List.getD_eq_getElem?_getD]
    exact h.low
  · rw [app_cps] at hd
    rcases List.mem_append.mp hd with hd | hd
    · exact h.all d hd
    · cases List.mem_singleton.mp hd
      exact hc
theorem n_names : ∀ j, j < 60 → nameB (("n" : Str) ++ (toString ((j : Nat) : Int) : Str)) = true := by decide +kernel
theorem small_log {j : Nat} (h : j < 1000000) : ((j : Int)).natAbs.log2 < 1920 := by
  have : ((j : Int)).natAbs = j := rfl
  rw [this]
  by_cases h0 : j = 0
  · subst h0
    decide
  · exact Nat.lt_of_lt_of_le ((Nat.log2_lt h0).mpr (show j < 2 ^ 20 by omega)) (by decide)
theorem cut_from {xs : List V} {k : Nat} : cutV xs (some (k : Int)) none = xs.drop k := by
  unfold cutV
  rw [HT.sIx_nat, HT.sIx_none]
  by_cases h : k ≤ xs.length
  · rw [Nat.min_eq_left h]
    exact List.take_of_length_le (by rw [List.length_drop]; exact Nat.le_refl _)
  · rw [Nat.min_eq_right (by omega), List.drop_length, List.drop_eq_nil_of_le (by omega), List.take_nil]
theorem lock_leS {S : List Addr} {H HL : Hp} {d : Addr} {kvs : List (Key × V)} {od : Obj} (h : Rd (hid S H) d (.dK kvs)) (e : HL d = some (.frz od (.dK kvs))) (ne : ∀ b, b ≠ d → HL b = H b) : Le (hid S H) (hid S HL) := by
  have dS : d ∉ S := by
    rcases h with h | ⟨o, h⟩ <;> exact (hid_at h).1
  refine lock_le (d := d) (kvs := kvs) (od := od) h (by rw [hid_of dS]; exact e) fun b hb => ?_
  unfold hid
  rw [ne b hb]
theorem unlock_leS {S : List Addr} {H H' : Hp} {d : Addr} {kvs : List (Key × V)} {od : Obj} (h : Rd H d (.dK kvs)) (e : H' d = some (.frz od (.dK kvs))) : Le (hid S H') (hid S (put H' d (H d))) := by
  have l := unlock_le h e
  have hp : ∀ b, hid S (put H' d (H d)) b = if b ∈ S then none else put H' d (H d) b := fun _ => rfl
  refine ⟨fun b u p q => ?_, fun b C dx fs q => ?_, fun b xs q => ?_⟩
  · have n : b ∉ S := by rcases q with q | ⟨o, q⟩ <;> exact (hid_at q).1
    have q2 : Rd H' b u := le_hid.rd b u p q
    have := l.rd b u p q2
    unfold Rd
    rw [hid_of n]
    exact this
  · obtain ⟨n, q⟩ := hid_at q
    rw [hid_of n]
    exact l.ins _ _ _ _ q
  · obtain ⟨n, q⟩ := hid_at q
    rw [hid_of n]
    exact l.tup _ _ q
theorem rd_there {H : Hp} {d : Addr} {u : HO} (h : Rd H d u) : H d ≠ none := by
  rcases h with h | ⟨o, h⟩ <;> rw [h] <;> exact fun z => nomatch z
/-- the stands of drawn names -/
structure StandsOk (hands : Int) (names : List Str) (sts : List (Str × Stand)) : Prop where
  nd : (sts.map (·.1)).Nodup
  keys : ∀ n, n ∈ sts.map (·.1) ↔ n ∈ names
  all : ∀ q ∈ sts, StandOk hands names q.2
  len : sts.length ≤ names.length
theorem StandOk.sub {h : Int} {ns ms : List Str} {st : Stand} (o : StandOk h ns st) (s : ∀ x ∈ ns, x ∈ ms) : StandOk h ms st := by
  cases st with
  | fin => exact trivial
  | hand a b => exact ⟨o.1, o.2.1, o.2.2.1, o.2.2.2.1, o.2.2.2.2.1, fun q hq => ⟨(o.2.2.2.2.2 q hq).1, (o.2.2.2.2.2 q hq).2.1, s _ (o.2.2.2.2.2 q hq).2.2⟩⟩
  | chance b => exact ⟨o.1, o.2.1, o.2.2.1, fun q hq => ⟨(o.2.2.2 q hq).1, (o.2.2.2 q hq).2.1, s _ (o.2.2.2 q hq).2.2.1, (o.2.2.2 q hq).2.2.2⟩⟩
def isEnd : Stand → Bool
  | .fin => true
  | _ => false
theorem endsOf_snoc {l : List (Str × Stand)} {q : Str × Stand} : endsOf (l ++ [q]) = endsOf l ++ (if isEnd q.2 = true then [q.1] else []) := by
  unfold endsOf
  rw [List.filter_append, List.map_append]
  obtain ⟨a, b⟩ := q
  cases b <;> rfl
theorem endsOf_sub {l : List (Str × Stand)} {x : Str} (h : x ∈ endsOf l) : x ∈ l.map (·.1) := by
  unfold endsOf at h
  obtain ⟨q, h1, h2⟩ := List.mem_map.mp h
  exact List.mem_map.mpr ⟨q, (List.mem_filter.mp h1).1, h2⟩
theorem endsOf_len (l : List (Str × Stand)) : (endsOf l).length ≤ l.length := by
  unfold endsOf
  rw [List.length_map]
  exact List.length_filter_le _ _
theorem key_fresh {α : Type} {l : List (Str × α)} (hn : (l.map (·.1)).Nodup) {i : Nat} {q : Str × α} (h : l[i]? = some q) : q.1 ∉ (l.take i).map (·.1) := by
  have h2 : (l.map (·.1))[i]? = some q.1 := by rw [List.getElem?_map, h]; rfl
  rw [List.map_take]
  exact nodup_take hn h2
theorem sx_drop {p wd : Addr} {A B C : Hp} (a : SX [p] A B) (b : SX [p, wd] B C) (h : A wd = none) : SX [p] A C := fun x o n q => b x o (by
  simp only [List.mem_cons, List.not_mem_nil, or_false, not_or] at n ⊢
  exact ⟨n, fun e => by rw [e, h] at q; cases q⟩) (a x o n q)
/-- steps of a stand by their names, with where they lead -/
def Stand.rows : Stand → List (Str × Str)
  | .fin => []
  | .hand _ ms => ms
  | .chance ds => ds.map fun q => (q.1, q.2.1)
theorem rows_tos (st : Stand) : st.rows.map (·.2) = st.tos := by
  cases st with
  | fin => rfl
  | hand h ms => rfl
  | chance ds => show (ds.map _).map _ = _; rw [List.map_map]; rfl
theorem pick_take {α : Type} [Inhabited α] {l : List (Str × α)} {ys : List Str} {n : Nat} {s : Str} {a : α} (h : ys[n]? = some s) (e : lookA l s = some a) : pick l (ys.take (n + 1)) = pick l (ys.take n) ++ [(s, a)] := by
  rw [take_succ_of h]
  unfold pick
  rw [List.map_append]
  show _ ++ [(s, (lookA l s).getD default)] = _
  rw [e]
  rfl
theorem pick_len {α : Type} [Inhabited α] (l : List (Str × α)) (ys : List Str) : (pick l ys).length = ys.length := List.length_map _
theorem Srt.map_snd {α β : Type} {l l' : List (Str × α)} {g : α → β} (h : Srt l l') : Srt (l.map fun q => (q.1, g q.2)) (l'.map fun q => (q.1, g q.2)) := ⟨h.perm.map _, by
  have := h.srt
  rw [List.map_map]
  exact this⟩
section
variable {P : Program} {w : World} {K : PySem.W.Frag} {mg : Str → Option Value} {base : Heap}
theorem hid_nn {S : List Addr} {H : Hp} {d : Addr} (hS : ∀ b ∈ S, H b ≠ none) (hd : H d ≠ none) : ∀ b ∈ d :: S, H b ≠ none := fun b hb => by
  rcases List.mem_cons.mp hb with rfl | hb
  · exact hd
  · exact hS b hb
theorem sx_there {S : List Addr} {A B : Hp} {p : Addr} (a : SX [p] A B) (hp : B p ≠ none) (h : ∀ b ∈ S, A b ≠ none) : ∀ b ∈ S, B b ≠ none := fun b hb z => by
  by_cases e : b = p
  · exact hp (e ▸ z)
  · exact h b hb (a.free z (by simpa using e))
/-- the word of a stand's kind -/
def kindS : Stand → Str
  | .fin => "end"
  | .hand _ _ => "hand"
  | .chance _ => "chance"
theorem rStand.kind {H : Hp} {v : V} {st : Stand} (h : rStand K H v st) : ∃ p xs, v = .ref p ∧ SqT K H p xs ∧ atI xs 0 = some (.str (kindS st)) := by
  cases st with
  | fin => obtain ⟨p, h1, h2⟩ := h; exact ⟨p, _, h1, h2, rfl⟩
  | hand a b => obtain ⟨p, d, h1, h2, _⟩ := h; exact ⟨p, _, h1, h2, rfl⟩
  | chance b => obtain ⟨p, d, h1, h2, _⟩ := h; exact ⟨p, _, h1, h2, rfl⟩
theorem kind_end {st : Stand} : decide (V.str (kindS st) = V.str "end") = isEnd st := by
  cases st with
  | fin => decide +kernel
  | hand a b => show decide (V.str "hand" = V.str "end") = false; decide +kernel
  | chance b => show decide (V.str "chance" = V.str "end") = false; decide +kernel
end
end M

namespace M
open PySem PySem.Spec PyProof.Rows L2
/-! ### the drawer that a law draws from -/
structure DrawOk (c z t : Int) : Prop where
  c0 : 0 ≤ c
  z0 : 0 ≤ z
  z1 : z < 2147483647
  t0 : 0 ≤ t
def Drw (H : Hp) (p : Addr) : Prop := ∃ (c : Int) (f : Bool) (z t : Int), H p = some (.lst [.int c, .bl f, .int z, .int t]) ∧ DrawOk c z t
theorem Drw.there {H : Hp} {p : Addr} (h : Drw H p) : H p ≠ none := by
  obtain ⟨c, f, z, t, e, _⟩ := h
  rw [e]
  exact fun z => nomatch z
theorem Drw.sx {S : List Addr} {A B : Hp} {p : Addr} (h : Drw A p) (a : SX S A B) (n : p ∉ S) : Drw B p := by
  obtain ⟨c, f, z, t, e, o⟩ := h
  exact ⟨c, f, z, t, a _ _ n e, o⟩
theorem Drw.lst {H : Hp} {p : Addr} (h : Drw H p) : ∃ ys, H p = some (.lst ys) := by
  obtain ⟨c, f, z, t, e, o⟩ := h
  exact ⟨_, e⟩
theorem bits60 : ((Builtin.Int.intBits (10 ^ (60 : Int).toNat) : Nat) : Int) * 6 ≤ 2 ^ 27 := by decide +kernel
section
variable {P : Program} {w : World} {K : PySem.W.Frag} {mg : Str → Option Value} {base : Heap}
def sp_law_open (T : Tx K mg) : Sp := fun vs H Q _ => ∃ (a : Addr) (ns : List Int) (k : Int), vs = [.ref a, .int k] ∧ SqL K H a (ns.map V.int) ∧ ns.length ≤ 10000 ∧ 0 ≤ k ∧ k ≤ 10000 ∧ ∀ p H', H p = none → SX [] H H' → Drw H' p → Q (.ref p) H'
theorem ok_law_open (T : Tx K mg) : FnOk P w K mg base CX0 1 T.law_open.f T.law_open.fd P_law_open (sp_law_open T) := by
  refine T.law_open.F.ok sc_law_open (fun vs H Q E h => ?_) (fun cdv A outer s H vs Q E hr h => ?_)
  · obtain ⟨a, ns, k0, rfl, ha, hlen, hk0, hk1, k⟩ := h
    rfl
  have hu := hu_of hr
  have nd := sc_law_open.nd
  obtain ⟨a, ns, k0, rfl, ha, hlen, hk0, hk1, k⟩ := h
  refine ⟨_, (pss_cons (ps_set (i := 2) nd rfl (Or.inl rfl) pe_int)
      (pss_cons (ps_if (pt_cmpR op_lt (pv 1) (pe_callB (w_len (K := K) rfl) (by rfl) T.b_len (by decide +kernel) (pa_cons (pv 0) pa_nil)) (nomark _)) (pss_one (ps_set (i := 2) nd rfl (Or.inl rfl) (pe_op op_mod (pe_callTy cl_int (by rfl) T.b_int (by decide +kernel) (pa_cons (pe_ix (w_ixL (K := K) rfl) (pv 0) (pv 1) (fun _ _ => rfl)) pa_nil)) (pe_op op_powB (pe_op op_powB pe_int pe_int) pe_int)))) pss_nil)
      (pss_one (ps_ret (pe_lst (pa_cons (pv 2) (pa_cons (pe_cmpR op_ge (pv 2) (pe_op op_powB pe_int pe_int) (nomark _)) (pa_cons (pe_op op_mod (pe_op op_add (pv 2) (pe_op op_mul pe_int (pe_op op_add (pv 1) pe_int))) pe_int) (pa_cons pe_int pa_nil))))))))), ?_⟩
  refine x_start (σ' := [some _, some _, none]) rfl ?_
  try simp only [cx_n, cx_K, cx_w, cx_P]
  walk_at "rd"
  refine x_lenL' ha ?_
  walk_at "rd"
  rw [List.length_map]
  have fin : ∀ c : Int, 0 ≤ c → ∀ b : Bool, ∀ q, H q = none → Q (.ref q) (upd H q (.lst [.int c, .bl b, .int ((c + 104729 * (k0 + 1)) % 2147483647), .int 0])) := fun c c0 b q hq =>
    k q _ hq (SX.new hq) ⟨c, b, _, 0, upd_same, c0, by omega, by omega, Int.le_refl _⟩
  refine x_cases (fun h => ?_) (fun h => ?_)
  · obtain ⟨j, rfl⟩ : ∃ j : Nat, k0 = (j : Int) := ⟨k0.toNat, by omega⟩
    have hj : j < ns.length := by simpa using h
    obtain ⟨z, hz⟩ : ∃ z, ns[j]? = some z := ⟨ns[j], by simp [hj]⟩
    walk_at "rd"
    refine x_ixL ha (at_map hz) ?_
    walk_at "rd"
    refine x_I ⟨by decide, by decide +kernel⟩ ?_
    walk_at "rd"
    refine x_I ⟨by decide, bits60⟩ ?_
    walk_at "rd"
    have m0 : (0 : Int) < (10 ^ (60 : Int).toNat) ^ (6 : Int).toNat := by decide +kernel
    refine x_I m0 ?_
    walk_at "rd"
    generalize hc : z % (10 ^ (60 : Int).toNat) ^ (6 : Int).toNat = c
    have c0 : 0 ≤ c := by rw [← hc]; exact Int.emod_nonneg _ (by omega)
    refine x_I ⟨by decide, by decide +kernel⟩ ?_
    walk_at "rd"
    refine x_I (.inl ⟨by decide, by decide⟩) ?_
    walk_at "rd"
    refine x_I (by decide) ?_
    walk_at "rd"
    exact ⟨Nat.le_of_ble_eq_true rfl, fun q hq => fin c c0 _ q hq⟩
  · walk_at "rd"
    refine x_I ⟨by decide, by decide +kernel⟩ ?_
    walk_at "rd"
    refine x_I (.inl ⟨by decide, by decide⟩) ?_
    walk_at "rd"
    refine x_I (by decide) ?_
    walk_at "rd"
    exact ⟨Nat.le_of_ble_eq_true rfl, fun q hq => fin 0 (Int.le_refl _) _ q hq⟩
def sp_law_draw (T : Tx K mg) : Sp := fun vs H Q _ => ∃ p n, vs = [.ref p, .int n] ∧ Drw H p ∧ 0 < n ∧ n < 2 ^ 200 ∧ ∀ r H', 0 ≤ r → r < n → SX [p] H H' → Drw H' p → Q (.int r) H'
theorem ok_law_draw (T : Tx K mg) : FnOk P w K mg base CX0 1 T.law_draw.f T.law_draw.fd P_law_draw (sp_law_draw T) := by
  refine T.law_draw.F.ok sc_law_draw (fun vs H Q E h => ?_) (fun cdv A outer s H vs Q E hr h => ?_)
  · obtain ⟨p, n, rfl, ⟨c, f, z, t, hp, o⟩, hn0, hn1, k⟩ := h
    rfl
  have hu := hu_of hr
  have nd := sc_law_draw.nd
  obtain ⟨p, n, rfl, ⟨c, f, z, t, hp, o⟩, hn0, hn1, k⟩ := h
  refine ⟨_, (pss_cons (ps_if (PW.pt (pw_and (pt_val (pe_ix (w_ixL (K := K) rfl) (pv 0) pe_int (fun _ _ => rfl))) (pw_and1 (pt_cmpR op_gt (pe_ix (w_ixL (K := K) rfl) (pv 0) pe_int (fun _ _ => rfl)) pe_int (nomark _))))) (pss_cons (ps_set (i := 2) nd rfl (Or.inl rfl) (pe_op op_mod (pe_callTy cl_int (by rfl) T.b_int (by decide +kernel) (pa_cons (pe_ix (w_ixL (K := K) rfl) (pv 0) pe_int (fun _ _ => rfl)) pa_nil)) (pv 1)))
      (pss_cons (ps_asg (pe_op op_fdivW (pe_ix (w_ixL (K := K) rfl) (pv 0) pe_int (fun _ _ => rfl)) (pv 1)) (pg_sub (pv 0) pe_int set_list))
      (pss_one (ps_ret (pv 2))))) pss_nil)
      (pss_cons (ps_asg (pe_op op_add (pe_ix (w_ixL (K := K) rfl) (pv 0) pe_int (fun _ _ => rfl)) pe_int) (pg_sub (pv 0) pe_int set_list))
      (pss_cons (ps_set (i := 2) nd rfl (Or.inl rfl) (pe_op op_mod (pe_callTy cl_int (by rfl) T.b_int (by decide +kernel) (pa_cons (pe_op op_mul (pe_op op_add (pe_op op_add (pe_ix (w_ixL (K := K) rfl) (pv 0) pe_int (fun _ _ => rfl)) (pe_op op_mul pe_int (pe_ix (w_ixL (K := K) rfl) (pv 0) pe_int (fun _ _ => rfl)))) pe_int) pe_int) pa_nil)) pe_int))
      (pss_cons (ps_set (i := 2) nd rfl (Or.inl rfl) (pe_op op_mod (pe_callTy cl_int (by rfl) T.b_int (by decide +kernel) (pa_cons (pe_op op_mul (pv 2) (pe_op op_add (pe_op op_fdivW (pv 2) pe_int) pe_int)) pa_nil)) pe_int))
      (pss_cons (ps_set (i := 2) nd rfl (Or.inl rfl) (pe_op op_mod (pe_callTy cl_int (by rfl) T.b_int (by decide +kernel) (pa_cons (pe_op op_mul (pv 2) (pe_op op_add (pe_op op_fdivW (pv 2) pe_int) pe_int)) pa_nil)) pe_int))
      (pss_one (ps_ret (pe_op op_mod (pe_callTy cl_int (by rfl) T.b_int (by decide +kernel) (pa_cons (pe_op op_fdivW (pv 2) pe_int) pa_nil)) (pv 1))))))))), ?_⟩
  refine x_start (σ' := [some _, some _, none]) rfl ?_
  try simp only [cx_n, cx_K, cx_w, cx_P]
  have divN : CDivW c n := wide_div (b := 200) hn0 (by omega) (by decide) (by decide)
  walk_at "rd"
  refine x_ixL (sqL hp) (v := .bl f) (atI_nat (j := 1) rfl) ?_
  walk_at "rd"
  refine x_cases (fun h => ?_) (fun h => ?_)
  all_goals walk_at "rd"
  · refine x_ixL (sqL hp) (v := .int c) (atI_nat (j := 0) rfl) ?_
    walk_at "rd"
    refine x_cases (fun h2 => ?_) (fun h2 => ?_)
    · walk_at "rd"
      refine x_ixL (sqL hp) (v := .int c) (atI_nat (j := 0) rfl) ?_
      walk_at "rd"
      refine x_I hn0 ?_
      walk_at "rd"
      refine x_ixL (sqL hp) (v := .int c) (atI_nat (j := 0) rfl) ?_
      walk_at "rd"
      refine x_I divN ?_
      walk_at "rd"
      refine ⟨p, _, _, 0, rfl, rfl, hp, ixN_nat (j := 0) (by simp), ?_⟩
      walk_at "rd"
      exact k _ _ (Int.emod_nonneg _ (by omega)) (Int.emod_lt_of_pos _ hn0) (SX.mut List.mem_cons_self) ⟨c / n, f, z, t, upd_same, Int.ediv_nonneg o.c0 (by omega), o.z0, o.z1, o.t0⟩
    · walk_at "rd"
      refine x_ixL (sqL hp) (v := .int t) (atI_nat (j := 3) rfl) ?_
      walk_at "rd"
      refine ⟨p, _, _, 3, rfl, rfl, hp, ixN_nat (j := 3) (by simp), ?_⟩
      have e : ([V.int c, .bl f, .int z, .int t] : List V).set 3 (V.int (t + 1)) = [.int c, .bl f, .int z, .int (t + 1)] := rfl
      rw [e]
      walk_at "rd"
      refine x_ixL (sqL upd_same) (v := .int z) (atI_nat (j := 2) rfl) ?_
      walk_at "rd"
      refine x_ixL (sqL upd_same) (v := .int (t + 1)) (atI_nat (j := 3) rfl) ?_
      refine x_I (.inl ⟨by decide, by decide⟩) ?_
      walk_at "rd"
      refine x_I (.inr ⟨by decide, by decide⟩) ?_
      walk_at "rd"
      refine x_I (by decide) ?_
      generalize hy : ((z + 7919 * (t + 1) + 1) * 48271) % 2147483647 = y
      have y0 : 0 ≤ y := by rw [← hy]; exact Int.emod_nonneg _ (by decide)
      have y1 : y < 2147483647 := by rw [← hy]; exact Int.emod_lt_of_pos _ (by decide)
      walk_at "rd"
      refine x_I ⟨by decide, by decide⟩ ?_
      walk_at "rd"
      refine x_I (.inl ⟨by omega, by omega⟩) ?_
      walk_at "rd"
      refine x_I (by decide) ?_
      generalize hy2 : (y * (y / 1009 + 69621)) % 2147483647 = y2
      have y20 : 0 ≤ y2 := by rw [← hy2]; exact Int.emod_nonneg _ (by decide)
      have y21 : y2 < 2147483647 := by rw [← hy2]; exact Int.emod_lt_of_pos _ (by decide)
      walk_at "rd"
      refine x_I ⟨by decide, by decide⟩ ?_
      walk_at "rd"
      refine x_I (.inl ⟨by omega, by omega⟩) ?_
      walk_at "rd"
      refine x_I (by decide) ?_
      walk_at "rd"
      refine x_I ⟨by decide, by decide⟩ ?_
      walk_at "rd"
      refine x_I hn0 ?_
      exact k _ _ (Int.emod_nonneg _ (by omega)) (Int.emod_lt_of_pos _ hn0) (SX.mut List.mem_cons_self) ⟨c, f, z, t + 1, upd_same, o.c0, o.z0, o.z1, by have := o.t0; omega⟩
  · refine x_ixL (sqL hp) (v := .int t) (atI_nat (j := 3) rfl) ?_
    walk_at "rd"
    refine ⟨p, _, _, 3, rfl, rfl, hp, ixN_nat (j := 3) (by simp), ?_⟩
    have e : ([V.int c, .bl f, .int z, .int t] : List V).set 3 (V.int (t + 1)) = [.int c, .bl f, .int z, .int (t + 1)] := rfl
    rw [e]
    walk_at "rd"
    refine x_ixL (sqL upd_same) (v := .int z) (atI_nat (j := 2) rfl) ?_
    walk_at "rd"
    refine x_ixL (sqL upd_same) (v := .int (t + 1)) (atI_nat (j := 3) rfl) ?_
    refine x_I (.inl ⟨by decide, by decide⟩) ?_
    walk_at "rd"
    refine x_I (.inr ⟨by decide, by decide⟩) ?_
    walk_at "rd"
    refine x_I (by decide) ?_
    generalize hy : ((z + 7919 * (t + 1) + 1) * 48271) % 2147483647 = y
    have y0 : 0 ≤ y := by rw [← hy]; exact Int.emod_nonneg _ (by decide)
    have y1 : y < 2147483647 := by rw [← hy]; exact Int.emod_lt_of_pos _ (by decide)
    walk_at "rd"
    refine x_I ⟨by decide, by decide⟩ ?_
    walk_at "rd"
    refine x_I (.inl ⟨by omega, by omega⟩) ?_
    walk_at "rd"
    refine x_I (by decide) ?_
    generalize hy2 : (y * (y / 1009 + 69621)) % 2147483647 = y2
    have y20 : 0 ≤ y2 := by rw [← hy2]; exact Int.emod_nonneg _ (by decide)
    have y21 : y2 < 2147483647 := by rw [← hy2]; exact Int.emod_lt_of_pos _ (by decide)
    walk_at "rd"
    refine x_I ⟨by decide, by decide⟩ ?_
    walk_at "rd"
    refine x_I (.inl ⟨by omega, by omega⟩) ?_
    walk_at "rd"
    refine x_I (by decide) ?_
    walk_at "rd"
    refine x_I ⟨by decide, by decide⟩ ?_
    walk_at "rd"
    refine x_I hn0 ?_
    exact k _ _ (Int.emod_nonneg _ (by omega)) (Int.emod_lt_of_pos _ hn0) (SX.mut List.mem_cons_self) ⟨c, f, z, t + 1, upd_same, o.c0, o.z0, o.z1, by have := o.t0; omega⟩
end
end M

namespace M
open PySem PySem.Spec PyProof.Rows L2
theorem digits_ok : ∀ j, j < 10 → ((toString ((j : Nat) : Int) : Str)).cps.toList = [48 + j] := by decide +kernel
theorem pow8 : ∀ c, c < 128 → lowB c = true → (lowB c || digB c) = true := by decide +kernel
/-- letter, digit, tail -/
theorem name_of {c j : Nat} {s : Str} (hc : lowB c = true) (hj : j < 10) (hs : s.length ≤ 4) (ha : ∀ x ∈ s.cps.toList, (lowB x || digB x) = true) : nameB ((⟨#[c]⟩ ++ (toString ((j : Nat) : Int) : Str) : Str) ++ s) = true := by
  have e : ((⟨#[c]⟩ ++ (toString ((j : Nat) : Int) : Str) : Str) ++ s).cps.toList = c :: (48 + j) :: s.cps.toList := by
    rw [app_cps, app_cps, digits_ok j hj]
    rfl
  have el : ((⟨#[c]⟩ ++ (toString ((j : Nat) : Int) : Str) : Str) ++ s).length = s.length + 2 := by
    rw [← str_len, e, List.length_cons, List.length_cons, str_len]
  refine nameB_yes ⟨by omega, by omega⟩ (by rw [e]; exact hc) fun x hx => ?_
  rw [e] at hx
  rcases List.mem_cons.mp hx with rfl | hx
  · rw [hc]; rfl
  rcases List.mem_cons.mp hx with rfl | hx
  · have : digB (48 + j) = true := by simp [digB]; omega
    rw [this, Bool.or_true]
  · exact ha x hx
theorem tails_ok : ∀ s ∈ (["", "", "q", "zz7x"] : List Str), s.length ≤ 4 ∧ s.cps.toList.all (fun x => lowB x || digB x) = true := by decide +kernel
theorem menu1 : ∀ s ∈ (["go", "a1", "stay", "b"] : List Str), nameB s = true := by decide +kernel
theorem menu2 : ∀ s ∈ (["x", "yy", "z", "w0"] : List Str), nameB s = true := by decide +kernel
theorem menu3 : ∀ c, c < 26 → ∀ s ∈ ([⟨#[97 + c]⟩ ++ ("2" : Str), ⟨#[97 + c]⟩ ++ ("10" : Str), ⟨#[97 + c]⟩, ("m" : Str) ++ (⟨#[97 + c]⟩ : Str)] : List Str), nameB s = true := by decide +kernel
theorem letter_is : ∀ i, i < 26 → ("abcdefghijklmnopqrstuvwxyz" : Str).cps.toList[i]? = some (97 + i) := by decide +kernel
section
variable {P : Program} {w : World} {K : PySem.W.Frag} {mg : Str → Option Value} {base : Heap}
def sp_law_names (T : Tx K mg) : Sp := fun vs H Q _ => ∃ p n, vs = [.ref p, .int n] ∧ Drw H p ∧ 0 ≤ n ∧ n ≤ 10 ∧
  ∀ (q : Addr) (ws : List Str) (H' : Hp), H q = none → SX [p] H H' → Drw H' p → H' q = some (.lst (ws.map V.str)) → (ws.length : Int) = n → (∀ s ∈ ws, nameB s = true) → Q (.ref q) H'
theorem ok_law_names (T : Tx K mg) : FnOk P w K mg base CX0 2 T.law_names.f T.law_names.fd P_law_names (sp_law_names T) := by
  refine T.law_names.F.ok sc_law_names (fun vs H Q E h => ?_) (fun cdv A outer s H vs Q E hr h => ?_)
  · obtain ⟨p, n, rfl, hp, hn0, hn1, k⟩ := h
    rfl
  have hu := hu_of hr
  have nd := sc_law_names.nd
  obtain ⟨p, n, rfl, hp, hn0, hn1, k⟩ := h
  refine ⟨_, (pss_cons (ps_set (i := 2) nd rfl (Or.inl rfl) (pe_lst pa_nil))
      (pss_cons (ps_for PassesOwn.never rfl (pi_range1 (by rfl) T.b_range (pa_cons (pv 1) pa_nil)) (pg_name (i := 3) nd rfl (Or.inl rfl)) (pss_cons (ps_set (i := 4) nd rfl (Or.inl rfl) (pe_ix ix_str pe_str (pe_call (ok_law_draw (P := P) (w := w) T) (hr.mono (by decide)) (by rfl) T.law_draw.g T.law_draw.F.kp T.law_draw.B .nil pass0 (pa_cons (pv 0) (pa_cons pe_int pa_nil))) (fun _ _ => rfl)))
      (pss_one (ps_expr (pe_bm PySem.F.plainAttrs_list PySem.F.slot_list_append PySem.F.type_list_append mt_append (pv 2) (pa_cons (pe_op op_catS (pe_op op_catS (pv 4) (pe_callTy cl_str (by rfl) T.b_str (by decide +kernel) (pa_cons (pv 3) pa_nil))) (pe_ix (w_ixL (K := K) rfl) (pe_lst (pa_cons pe_str (pa_cons pe_str (pa_cons pe_str (pa_cons pe_str pa_nil))))) (pe_call (ok_law_draw (P := P) (w := w) T) (hr.mono (by decide)) (by rfl) T.law_draw.g T.law_draw.F.kp T.law_draw.B .nil pass0 (pa_cons (pv 0) (pa_cons pe_int pa_nil))) (fun _ _ => rfl))) pa_nil))))))
      (pss_one (ps_ret (pv 2))))), ?_⟩
  refine x_start (σ' := [some _, some _, none, none, none]) rfl ?_
  try simp only [cx_n, cx_K, cx_w, cx_P]
  walk_at "rd"
  refine ⟨Nat.le_of_ble_eq_true rfl, fun q hq => ?_⟩
  walk_at "rd"
  refine x_rng1 (by omega) (by omega) ?_
  have npq : p ≠ q := fun e => hp.there (e ▸ hq)
  refine for_it walk_rng (fun i σ A => SX [p] H A ∧ Drw A p ∧ ∃ (ws : List Str) (a b : Option V), A q = some (.lst (ws.map V.str)) ∧ ws.length = i ∧ (∀ s ∈ ws, nameB s = true) ∧ σ = [some (.ref p), some (.int n), some (.ref q), a, b])
    ⟨SX.new hq, hp.sx (SX.new (S := []) hq) List.not_mem_nil, [], none, none, upd_same, rfl, (fun _ h => nomatch h), rfl⟩ (fun _ _ _ _ _ => trivial) ?_ ?_
  · rintro i x σ A0 A hi ⟨sA, pA, ws, a, b, eA, lA, allA, rfl⟩ ⟨rfl, rfl⟩
    walk_at "rd"
    refine ⟨p, 26, rfl, pA, by decide, by decide, fun r H1 r0 r1 s1 p1 => ?_⟩
    obtain ⟨g, rfl⟩ : ∃ g : Nat, r = (g : Int) := ⟨r.toNat, by omega⟩
    obtain ⟨c, hc, lc⟩ := at_opt (letters_at g (by omega))
    refine x_ixS (by decide +kernel) (atI_nat hc) ?_
    walk_at "rd"
    have e1 := s1 _ _ (by simpa using Ne.symm npq) eA
    refine ⟨.inl ⟨rfl, _, sqL e1⟩, ?_⟩
    walk_at "rd"
    have hi10 : i < 10 := by omega
    refine x_cstr (small_log (by omega)) ?_
    walk_at "rd"
    have dl := congrArg List.length (digits_ok i hi10)
    rw [str_len] at dl
    refine x_catS (by rw [dl]; exact Nat.le_trans (show 1 + 1 ≤ 10000 by decide) (by decide)) ?_
    walk_at "rd"
    refine ⟨Nat.le_of_ble_eq_true rfl, fun l hl => ?_⟩
    walk_at "rd"
    have npl : l ≠ p := fun e => p1.there (e ▸ hl)
    refine ⟨p, 4, rfl, p1.sx (SX.new (S := []) hl) List.not_mem_nil, by decide, by decide, fun r2 H2 r20 r21 s2 p2 => ?_⟩
    obtain ⟨tl, et, mt⟩ := at_strs (ns := ["", "", "q", "zz7x"]) r20 r21
    refine x_ixL (sqL (s2 _ _ (by simpa using npl) upd_same)) et ?_
    obtain ⟨t4, ta⟩ := tails_ok tl mt
    have nm := name_of (j := i) lc hi10 t4 (List.all_eq_true.mp ta)
    have nl8 := nameB_size nm
    rw [app_len] at nl8
    refine x_catS (Nat.le_of_lt (lt_size nl8)) ?_
    walk_at "rd"
    have sAll : SX [p] A H2 := (s1.trans (SX.new hl)).trans s2
    have e2 := sAll _ _ (by simpa using Ne.symm npq) eA
    refine ⟨q, _, _, rfl, rfl, e2, lt_size (by rw [List.length_map]; omega), ?_⟩
    refine ⟨?_, p2.sx (SX.mut (S := [q]) List.mem_cons_self) (by simpa using npq), ws ++ [_], _, _, by rw [upd_same, List.map_append]; rfl, by simp [lA], fun t ht => ?_, rfl⟩
    · intro b o nb hb
      have hbq : b ≠ q := fun e => by rw [e, hq] at hb; cases hb
      rw [upd_ne hbq]
      exact (sA.trans sAll) b o nb hb
    · rcases List.mem_append.mp ht with ht | ht
      · exact allA t ht
      · cases List.mem_singleton.mp ht
        exact nm
  · rintro σ A ⟨sA, pA, ws, a, b, eA, lA, allA, rfl⟩
    walk_at "rd"
    exact k q ws A hq sA pA eA (by omega) allA
def sp_law_target (T : Tx K mg) : Sp := fun vs H Q _ => ∃ (p nl : Addr) (j : Int) (rings : Bool) (names : List Str), vs = [.ref p, .ref nl, .int j, .bl rings] ∧ Drw H p ∧ SqL K (hid [p] H) nl (names.map V.str) ∧ names.length ≤ 10000 ∧ 0 ≤ j ∧ j + 1 < names.length ∧
  ∀ s H', s ∈ names → SX [p] H H' → Drw H' p → Q (.str s) H'
theorem ok_law_target (T : Tx K mg) : FnOk P w K mg base CX0 2 T.law_target.f T.law_target.fd P_law_target (sp_law_target T) := by
  refine T.law_target.F.ok sc_law_target (fun vs H Q E h => ?_) (fun cdv A outer s H vs Q E hr h => ?_)
  · obtain ⟨p, nl, j, rings, names, rfl, hp, hnl, hn2, hj0, hj1, k⟩ := h
    rfl
  have hu := hu_of hr
  have nd := sc_law_target.nd
  obtain ⟨p, nl, j, rings, names, rfl, hp, hnl, hn2, hj0, hj1, k⟩ := h
  refine ⟨_, (pss_cons (ps_if (pt_val (pv 3)) (pss_one (ps_ret (pe_ix (w_ixL (K := K) rfl) (pv 1) (pe_call (ok_law_draw (P := P) (w := w) T) (hr.mono (by decide)) (by rfl) T.law_draw.g T.law_draw.F.kp T.law_draw.B .nil pass0 (pa_cons (pv 0) (pa_cons (pe_callB (w_len (K := K) rfl) (by rfl) T.b_len (by decide +kernel) (pa_cons (pv 1) pa_nil)) pa_nil))) (fun _ _ => rfl)))) pss_nil)
      (pss_one (ps_ret (pe_ix (w_ixL (K := K) rfl) (pv 1) (pe_op op_add (pe_op op_add (pv 2) pe_int) (pe_call (ok_law_draw (P := P) (w := w) T) (hr.mono (by decide)) (by rfl) T.law_draw.g T.law_draw.F.kp T.law_draw.B .nil pass0 (pa_cons (pv 0) (pa_cons (pe_op op_sub (pe_op op_sub (pe_callB (w_len (K := K) rfl) (by rfl) T.b_len (by decide +kernel) (pa_cons (pv 1) pa_nil)) pe_int) (pv 2)) pa_nil)))) (fun _ _ => rfl))))), ?_⟩
  refine x_start (σ' := [some _, some _, some _, some _]) rfl ?_
  try simp only [cx_n, cx_K, cx_w, cx_P]
  walk_at "rd"
  refine x_cases (fun c => ?_) (fun c => ?_)
  · walk_at "rd"
    refine x_lenL' (le_hid.l hnl) ?_
    walk_at "rd"
    rw [List.length_map]
    refine ⟨p, (names.length : Int), rfl, hp, by omega, by omega, fun r H1 r0 r1 s1 p1 => ?_⟩
    obtain ⟨to, eto, mto⟩ := at_strs r0 r1
    refine x_ixL (s1.leH.l hnl) eto ?_
    exact k to H1 mto s1 p1
  · walk_at "rd"
    refine x_lenL' (le_hid.l hnl) ?_
    walk_at "rd"
    rw [List.length_map]
    refine ⟨p, _, rfl, hp, by omega, by omega, fun r H1 r0 r1 s1 p1 => ?_⟩
    walk_at "rd"
    obtain ⟨to, eto, mto⟩ := at_strs (ns := names) (r := j + 1 + r) (by omega) (by omega)
    refine x_ixL (s1.leH.l hnl) eto ?_
    exact k to H1 mto s1 p1
def sp_law_menu (T : Tx K mg) : Sp := fun vs H Q _ => ∃ (p : Addr), vs = [.ref p] ∧ Drw H p ∧ ∀ (q : Addr) (ws : List Str) (H' : Hp), H q = none → SX [p] H H' → Drw H' p → H' q = some (.lst (ws.map V.str)) → ws.length = 4 → (∀ s ∈ ws, nameB s = true) → Q (.ref q) H'
theorem ok_law_menu (T : Tx K mg) : FnOk P w K mg base CX0 2 T.law_menu.f T.law_menu.fd P_law_menu (sp_law_menu T) := by
  refine T.law_menu.F.ok sc_law_menu (fun vs H Q E h => ?_) (fun cdv A outer s H vs Q E hr h => ?_)
  · obtain ⟨p, rfl, hp, k⟩ := h
    rfl
  have hu := hu_of hr
  have nd := sc_law_menu.nd
  obtain ⟨p, rfl, hp, k⟩ := h
  refine ⟨_, (pss_cons (ps_set (i := 1) nd rfl (Or.inl rfl) (pe_ix ix_str pe_str (pe_call (ok_law_draw (P := P) (w := w) T) (hr.mono (by decide)) (by rfl) T.law_draw.g T.law_draw.F.kp T.law_draw.B .nil pass0 (pa_cons (pv 0) (pa_cons pe_int pa_nil))) (fun _ _ => rfl)))
      (pss_cons (ps_set (i := 2) nd rfl (Or.inl rfl) (pe_lst (pa_cons (pe_lst (pa_cons pe_str (pa_cons pe_str (pa_cons pe_str (pa_cons pe_str pa_nil))))) (pa_cons (pe_lst (pa_cons pe_str (pa_cons pe_str (pa_cons pe_str (pa_cons pe_str pa_nil))))) (pa_cons (pe_lst (pa_cons (pe_op op_catS (pv 1) pe_str) (pa_cons (pe_op op_catS (pv 1) pe_str) (pa_cons (pv 1) (pa_cons (pe_op op_catS pe_str (pv 1)) pa_nil))))) pa_nil)))))
      (pss_one (ps_ret (pe_ix (w_ixL (K := K) rfl) (pv 2) (pe_call (ok_law_draw (P := P) (w := w) T) (hr.mono (by decide)) (by rfl) T.law_draw.g T.law_draw.F.kp T.law_draw.B .nil pass0 (pa_cons (pv 0) (pa_cons pe_int pa_nil))) (fun _ _ => rfl)))))), ?_⟩
  refine x_start (σ' := [some _, none, none]) rfl ?_
  try simp only [cx_n, cx_K, cx_w, cx_P]
  walk_at "rd"
  refine ⟨p, 26, rfl, hp, by decide, by decide, fun r H1 r0 r1 s1 p1 => ?_⟩
  obtain ⟨g, rfl⟩ : ∃ g : Nat, r = (g : Int) := ⟨r.toNat, by omega⟩
  refine x_ixS (by decide +kernel) (atI_nat (letter_is g (by omega))) ?_
  walk_at "rd"
  refine ⟨Nat.le_of_ble_eq_true rfl, fun l1 h1 => ?_⟩
  walk_at "rd"
  refine ⟨Nat.le_of_ble_eq_true rfl, fun l2 h2 => ?_⟩
  walk_at "rd"
  refine x_catS (Nat.le_of_ble_eq_true rfl) ?_
  walk_at "rd"
  refine x_catS (Nat.le_of_ble_eq_true rfl) ?_
  walk_at "rd"
  refine x_catS (Nat.le_of_ble_eq_true rfl) ?_
  walk_at "rd"
  refine ⟨Nat.le_of_ble_eq_true rfl, fun l3 h3 => ?_⟩
  walk_at "rd"
  refine ⟨Nat.le_of_ble_eq_true rfl, fun l4 h4 => ?_⟩
  walk_at "rd"
  have z1 : SX [] H1 (upd H1 l1 (.lst [.str "go", .str "a1", .str "stay", .str "b"])) := SX.new h1
  have e1 : (upd H1 l1 (.lst [.str "go", .str "a1", .str "stay", .str "b"])) l1 = _ := upd_same
  generalize upd H1 l1 (.lst [.str "go", .str "a1", .str "stay", .str "b"]) = B1 at *
  have z2 : SX [] B1 (upd B1 l2 (.lst [.str "x", .str "yy", .str "z", .str "w0"])) := SX.new h2
  have e2 : (upd B1 l2 (.lst [.str "x", .str "yy", .str "z", .str "w0"])) l2 = _ := upd_same
  generalize upd B1 l2 (.lst [.str "x", .str "yy", .str "z", .str "w0"]) = B2 at *
  have z3 : SX [] B2 (upd B2 l3 (.lst [.str (⟨#[97 + g]⟩ ++ ("2" : Str)), .str (⟨#[97 + g]⟩ ++ ("10" : Str)), .str ⟨#[97 + g]⟩, .str (("m" : Str) ++ ⟨#[97 + g]⟩)])) := SX.new h3
  have e3 : (upd B2 l3 (.lst [.str (⟨#[97 + g]⟩ ++ ("2" : Str)), .str (⟨#[97 + g]⟩ ++ ("10" : Str)), .str ⟨#[97 + g]⟩, .str (("m" : Str) ++ ⟨#[97 + g]⟩)])) l3 = _ := upd_same
  generalize upd B2 l3 (.lst [.str (⟨#[97 + g]⟩ ++ ("2" : Str)), .str (⟨#[97 + g]⟩ ++ ("10" : Str)), .str ⟨#[97 + g]⟩, .str (("m" : Str) ++ ⟨#[97 + g]⟩)]) = B3 at *
  have z4 : SX [] B3 (upd B3 l4 (.lst [.ref l1, .ref l2, .ref l3])) := SX.new h4
  have e4 : (upd B3 l4 (.lst [.ref l1, .ref l2, .ref l3])) l4 = _ := upd_same
  generalize upd B3 l4 (.lst [.ref l1, .ref l2, .ref l3]) = B4 at *
  have s14 : SX [] H1 B4 := ((z1.trans z2).trans z3).trans z4
  have p4 : Drw B4 p := p1.sx s14 List.not_mem_nil
  have nf : ∀ l, H1 l = none → l ≠ p := fun l h e => p1.there (e ▸ h)
  have f1 : H1 l1 = none := h1
  have f2 : H1 l2 = none := z1.free h2 List.not_mem_nil
  have f3 : H1 l3 = none := (z1.trans z2).free h3 List.not_mem_nil
  have f4 : H1 l4 = none := ((z1.trans z2).trans z3).free h4 List.not_mem_nil
  refine ⟨p, 3, rfl, p4, by decide, by decide, fun r2 H2 r20 r21 s2 p2 => ?_⟩
  have g4 := s2 _ _ (by simpa using nf l4 f4) e4
  have sAll : SX [p] H H2 := (s1.trans (nil_sx s14)).trans s2
  have hf : ∀ l, H1 l = none → H l = none := fun l h => s1.free h (by simpa using nf l h)
  have hg : g < 26 := by omega
  rcases (by omega : r2 = 0 ∨ r2 = 1 ∨ r2 = 2) with rfl | rfl | rfl
  · refine x_ixL (sqL g4) (v := .ref l1) (atI_nat (j := 0) rfl) ?_
    exact k l1 ["go", "a1", "stay", "b"] H2 (hf _ f1) sAll p2 (s2 _ _ (by simpa using nf l1 f1) (((z2.trans z3).trans z4) _ _ List.not_mem_nil e1)) rfl menu1
  · refine x_ixL (sqL g4) (v := .ref l2) (atI_nat (j := 1) rfl) ?_
    exact k l2 ["x", "yy", "z", "w0"] H2 (hf _ f2) sAll p2 (s2 _ _ (by simpa using nf l2 f2) ((z3.trans z4) _ _ List.not_mem_nil e2)) rfl menu2
  · refine x_ixL (sqL g4) (v := .ref l3) (atI_nat (j := 2) rfl) ?_
    exact k l3 [⟨#[97 + g]⟩ ++ ("2" : Str), ⟨#[97 + g]⟩ ++ ("10" : Str), ⟨#[97 + g]⟩, ("m" : Str) ++ (⟨#[97 + g]⟩ : Str)] H2 (hf _ f3) sAll p2 (s2 _ _ (by simpa using nf l3 f3) (z4 _ _ List.not_mem_nil e3)) rfl (menu3 g hg)
end
end M

namespace M
open PySem PySem.Spec PyProof.Rows L2
section
variable {P : Program} {w : World} {K : PySem.W.Frag} {mg : Str → Option Value} {base : Heap}
def sp_law_stand (T : Tx K mg) : Sp := fun vs H Q _ => ∃ (p nl wl : Addr) (g hands : Int) (rings : Bool) (names wds : List Str) (S : List Addr), vs = [.ref p, .ref nl, .int g, .int hands, .ref wl, .bl rings] ∧ Drw H p ∧ p ∈ S ∧ (∀ b ∈ S, H b ≠ none) ∧
  SqL K (hid S H) nl (names.map V.str) ∧ SqL K (hid S H) wl (wds.map V.str) ∧ 0 ≤ g ∧ g < names.length ∧ names.length ≤ 10000 ∧ (∀ s ∈ names, nameB s = true) ∧ wds.length = 4 ∧ (∀ s ∈ wds, nameB s = true) ∧ 1 ≤ hands ∧ hands ≤ 4 ∧
  ∀ v H' st, SX [p] H H' → Drw H' p → rStand K (hid S H') v st → StandOk hands names st → (g + 1 = names.length → st = .fin) → Q v H'
theorem ok_law_stand (T : Tx K mg) : FnOk P w K mg base CX0 3 T.law_stand.f T.law_stand.fd P_law_stand (sp_law_stand T) := by
  refine T.law_stand.F.ok sc_law_stand (fun vs H Q E h => ?_) (fun cdv A outer s H vs Q E hr h => ?_)
  · obtain ⟨p, nl, wl, g, hands, rings, names, wds, S, rfl, hp, pS, hS, hnl, hwl, hg0, hg1, hn2, hnn, hw4, hwn, hh1, hh4, k⟩ := h
    rfl
  have hu := hu_of hr
  have nd := sc_law_stand.nd
  obtain ⟨p, nl, wl, g, hands, rings, names, wds, S, rfl, hp, pS, hS, hnl, hwl, hg0, hg1, hn2, hnn, hw4, hwn, hh1, hh4, k⟩ := h
  refine ⟨_, (pss_cons (ps_set (i := 6) nd rfl (Or.inl rfl) (pe_call (ok_law_draw (P := P) (w := w) T) (hr.mono (by decide)) (by rfl) T.law_draw.g T.law_draw.F.kp T.law_draw.B .nil pass0 (pa_cons (pv 0) (pa_cons pe_int pa_nil))))
      (pss_cons (ps_set (i := 7) nd rfl (Or.inl rfl) (pe_ix (w_ixL (K := K) rfl) (pe_lst (pa_cons pe_int (pa_cons pe_int (pa_cons pe_int (pa_cons pe_int (pa_cons pe_int (pa_cons pe_int (pa_cons pe_int (pa_cons pe_int pa_nil))))))))) (pe_call (ok_law_draw (P := P) (w := w) T) (hr.mono (by decide)) (by rfl) T.law_draw.g T.law_draw.F.kp T.law_draw.B .nil pass0 (pa_cons (pv 0) (pa_cons pe_int pa_nil))) (fun _ _ => rfl)))
      (pss_cons (ps_set (i := 8) nd rfl (Or.inl rfl) (pe_call (ok_law_draw (P := P) (w := w) T) (hr.mono (by decide)) (by rfl) T.law_draw.g T.law_draw.F.kp T.law_draw.B .nil pass0 (pa_cons (pv 0) (pa_cons pe_int pa_nil))))
      (pss_cons (ps_if (PW.pt (pw_or (pt_cmpR op_eq (pv 2) (pe_op op_sub (pe_callB (w_len (K := K) rfl) (by rfl) T.b_len (by decide +kernel) (pa_cons (pv 1) pa_nil)) pe_int) (nomark _)) (pw_or1 (PW.pt (pw_and (pt_cmpR op_eq (pv 6) pe_int (nomark _)) (pw_and1 (pt_cmpR op_gt (pv 2) pe_int (nomark _)))))))) (pss_one (ps_ret (pe_tup (pa_cons pe_str pa_nil)))) pss_nil)
      (pss_cons (ps_set (i := 9) nd rfl (Or.inl rfl) pe_dnewK)
      (pss_cons (ps_if (pt_cmpR op_lt (pv 6) pe_int (nomark _)) (pss_cons (ps_set (i := 10) nd rfl (Or.inl rfl) (pe_call (ok_law_draw (P := P) (w := w) T) (hr.mono (by decide)) (by rfl) T.law_draw.g T.law_draw.F.kp T.law_draw.B .nil pass0 (pa_cons (pv 0) (pa_cons (pv 3) pa_nil))))
      (pss_cons (ps_for PassesOwn.never rfl (pi_range1 (by rfl) T.b_range (pa_cons (pv 7) pa_nil)) (pg_name (i := 11) nd rfl (Or.inl rfl)) (pss_one (ps_dput hu (pv 9) (pe_ix (w_ixL (K := K) rfl) (pv 4) (pe_op op_mod (pe_op op_add (pv 11) (pv 8)) pe_int) (fun _ _ => rfl)) (pe_call (ok_law_target (P := P) (w := w) T) (hr.mono (by decide)) (by rfl) T.law_target.g T.law_target.F.kp T.law_target.B .nil pass0 (pa_cons (pv 0) (pa_cons (pv 1) (pa_cons (pv 2) (pa_cons (pv 5) pa_nil))))) rfl)))
      (pss_one (ps_ret (pe_tup (pa_cons pe_str (pa_cons (pv 10) (pa_cons (pv 9) pa_nil)))))))) pss_nil)
      (pss_cons (ps_for PassesOwn.never rfl (pi_range1 (by rfl) T.b_range (pa_cons (pv 7) pa_nil)) (pg_name (i := 11) nd rfl (Or.inl rfl)) (pss_cons (ps_set (i := 12) nd rfl (Or.inl rfl) (pe_op op_add pe_int (pe_call (ok_law_draw (P := P) (w := w) T) (hr.mono (by decide)) (by rfl) T.law_draw.g T.law_draw.F.kp T.law_draw.B .nil pass0 (pa_cons (pv 0) (pa_cons pe_int pa_nil)))))
      (pss_one (ps_dput hu (pv 9) (pe_ix (w_ixL (K := K) rfl) (pv 4) (pe_op op_mod (pe_op op_add (pv 11) (pv 8)) pe_int) (fun _ _ => rfl)) (pe_tup (pa_cons (pe_call (ok_law_target (P := P) (w := w) T) (hr.mono (by decide)) (by rfl) T.law_target.g T.law_target.F.kp T.law_target.B .nil pass0 (pa_cons (pv 0) (pa_cons (pv 1) (pa_cons (pv 2) (pa_cons (pv 5) pa_nil))))) (pa_cons (pv 12) pa_nil))) rfl))))
      (pss_one (ps_ret (pe_tup (pa_cons pe_str (pa_cons (pv 9) pa_nil)))))))))))), ?_⟩
  refine x_start (σ' := [some _, some _, some _, some _, some _, some _, none, none, none, none, none, none, none]) rfl ?_
  try simp only [cx_n, cx_K, cx_w, cx_P]
  have subS : ∀ b ∈ [p], b ∈ S := fun b hb => by cases List.mem_singleton.mp hb; exact pS
  walk_at "rd"
  refine ⟨p, 8, rfl, hp, by decide, by decide, fun sort H1 so0 so1 s1 p1 => ?_⟩
  walk_at "rd"
  refine ⟨Nat.le_of_ble_eq_true rfl, fun l0 hl0 => ?_⟩
  walk_at "rd"
  refine ⟨p, 8, rfl, p1.sx (SX.new (S := []) hl0) List.not_mem_nil, by decide, by decide, fun r H2 r0 r1 s2 p2 => ?_⟩
  have npl : l0 ≠ p := fun e => p1.there (e ▸ hl0)
  obtain ⟨m, em, hm⟩ := at_ints (ns := [2, 1, 2, 3, 3, 2, 1, 4]) r0 r1
  have hm2 : 1 ≤ m ∧ m ≤ 4 := by simp at hm; omega
  refine x_ixL (sqL (s2 _ _ (by simpa using npl) upd_same)) em ?_
  walk_at "rd"
  refine ⟨p, 2, rfl, p2, by decide, by decide, fun shift H3 sh0 sh1 s3 p3 => ?_⟩
  walk_at "rd"
  have sH3 : SX [p] H H3 := ((s1.trans (SX.new hl0)).trans s2).trans s3
  -- what is read stays to be read
  have rdN : ∀ {A : Hp}, SX [p] H A → SqL K A nl (names.map V.str) := fun s => (s.sub subS).leH.l hnl
  have rdW : ∀ {A : Hp}, SX [p] H A → SqL K A wl (wds.map V.str) := fun s => (s.sub subS).leH.l hwl
  have rdP : ∀ {A : Hp}, SX [p] H A → SqL K (hid [p] A) nl (names.map V.str) := fun s => ((s.sub subS).le.trans (le_hid2 subS)).l hnl
  have finE : ∀ t, H3 t = none → Q (.ref t) (upd H3 t (.tup [.str "end"])) := fun t ht => by
    have tS : t ∉ S := fun mem => sx_there sH3 p3.there hS t mem ht
    exact k _ _ .fin (sH3.trans (SX.new ht)) (p3.sx (SX.new (S := []) ht) List.not_mem_nil) ⟨t, rfl, sqT (by rw [hid_of tS, upd_same])⟩ trivial fun _ => rfl
  refine x_lenL' (rdN sH3) ?_
  walk_at "rd"
  rw [List.length_map]
  refine x_cases (fun c1 => ?_) (fun c1 => ?_)
  · walk_at "rd"
    exact ⟨Nat.le_of_ble_eq_true rfl, fun t ht => finE t ht⟩
  have gne : g + 1 ≠ names.length := fun e => by
    have : decide (V.int g = V.int ((names.length : Int) - 1)) = true := decide_eq_true (by rw [← e]; congr 1; omega)
    rw [this] at c1
    cases c1
  walk_at "rd"
  refine x_cases (fun c2 => ?_) (fun c2 => ?_)
  · walk_at "rd"
    refine x_cases (fun c3 => ?_) (fun c3 => ?_)
    · walk_at "rd"
      exact ⟨Nat.le_of_ble_eq_true rfl, fun t ht => finE t ht⟩
    · walk_at "rd"
      intro d hd
      walk_at "rd"
      have npd : d ≠ p := fun e => p3.there (e ▸ hd)
      have hd0 : H d = none := sH3.free hd (by simpa using npd)
      have ndS : d ∉ S := fun m => hS d m hd0
      have subD : ∀ b ∈ [p], b ∈ d :: S := fun b hb => List.mem_cons_of_mem _ (subS b hb)
      by_cases hk5 : sort < 5
      · rw [decide_eq_true hk5]
        walk_at "rd"
        refine ⟨p, hands, rfl, p3.sx (SX.new (S := []) hd) List.not_mem_nil, by omega, by omega, fun hand H4 h0 h1 s4 p4 => ?_⟩
        walk_at "rd"
        have sH4 : SX [p] H H4 := (sH3.trans (SX.new hd)).trans s4
        refine x_rng1 (by omega) (by omega) ?_
        refine for_it walk_rng (fun i σ A => SX [p] H A ∧ Drw A p ∧ ∃ (kv : List (Key × V)) (ds : List (Str × Str)) (a b : Option V), A d = some (.dK kv) ∧ KVs rS (hid (d :: S) A) kv ds ∧ ds.length ≤ i ∧ (0 < i → 1 ≤ ds.length) ∧ (ds.map (·.1)).Nodup ∧
          (∀ q ∈ ds, nameB q.1 = true ∧ nameB q.2 = true ∧ q.2 ∈ names) ∧
          σ = [some (.ref p), some (.ref nl), some (.int g), some (.int hands), some (.ref wl), some (.bl rings), some (.int sort), some (.int m), some (.int shift), some (.ref d), some (.int hand), a, b])
          ⟨sH4, p4, [], [], none, none, s4 _ _ (by simpa using npd) upd_same, .nil, Nat.le_refl _, fun h => absurd h (Nat.lt_irrefl _), List.nodup_nil, (fun _ h => nomatch h), rfl⟩ (fun _ _ _ _ _ => trivial) ?_ ?_
        · rintro i x σ A0 A hi ⟨sA, pA, kv, ds, a, b, dA, kA, lA, lA1, nA, allA, rfl⟩ ⟨rfl, rfl⟩
          walk_at "rd"
          refine ⟨p, nl, g, rings, names, rfl, pA, rdP sA, hn2, hg0, by omega, fun to B1 mto t1 q1 => ?_⟩
          walk_at "rd"
          have sB := sA.trans t1
          refine x_I (by decide) ?_
          obtain ⟨wd, ewd, mwd⟩ := at_strs (ns := wds) (r := ((i : Int) + shift) % 4) (by omega) (by rw [hw4]; omega)
          refine x_ixL (rdW sB) ewd ?_
          have dB : B1 d = some (.dK kv) := t1 _ _ (by simpa using npd) dA
          have hkl : kv.length = ds.length := Paired.length kA
          refine ⟨d, _, rfl, DPut.k (k := Sum.inr wd) dB (lt_size (by omega)), ?_⟩
          have le1 : Le (hid (d :: S) A) (hid (d :: S) (upd B1 d (.dK (putK kv (Sum.inr wd) (.str to))))) := ((t1.sub subD).trans (SX.mut List.mem_cons_self)).le
          refine ⟨?_, ?_, _, putA ds wd to, _, _, upd_same, ?_, ?_, fun _ => putA_pos, putA_nodup nA, fun q hq => ?_, rfl⟩
          · intro b o nb hb
            have hbd : b ≠ d := fun e => by rw [e, hd0] at hb; cases hb
            rw [upd_ne hbd]
            exact sB b o nb hb
          · exact q1.sx (SX.mut (S := [d]) List.mem_cons_self) (by simpa using Ne.symm npd)
          · exact KVs.put rfl (KVs.le mono_S le1 kA) nA
          · have := putA_len (s := wd) (a := to) (l := ds)
            omega
          · rcases putA_mem hq with hq | rfl
            · exact allA q hq
            · exact ⟨hwn _ mwd, hnn _ mto, mto⟩
        · rintro σ A ⟨sA, pA, kv, ds, a, b, dA, kA, lA, lA1, nA, allA, rfl⟩
          walk_at "rd"
          refine ⟨Nat.le_of_ble_eq_true rfl, fun t ht => ?_⟩
          have tS : t ∉ S := fun mem => sx_there sA pA.there hS t mem ht
          refine k _ _ (.hand hand ds) (sA.trans (SX.new ht)) (pA.sx (SX.new (S := []) ht) List.not_mem_nil) ⟨t, .ref d, rfl, sqT ?_, d, kv, rfl, .inl ?_, ?_⟩ ⟨h0, h1, lA1 (by omega), by omega, nA, allA⟩ (fun e => absurd e gne)
          · rw [hid_of tS, upd_same]
          · rw [hid_of ndS, upd_ne (ne_of_none dA ht)]
            exact dA
          · exact KVs.le mono_S ((le_hid2 fun b hb => List.mem_cons_of_mem _ hb).trans (SX.new ht).le) kA
      · rw [decide_eq_false hk5]
        walk_at "rd"
        refine x_rng1 (by omega) (by omega) ?_
        refine for_it walk_rng (fun i σ A => SX [p] H A ∧ Drw A p ∧ ∃ (kv : List (Key × V)) (ds : List (Str × (Str × Int))) (a b : Option V), A d = some (.dK kv) ∧ KVs (rP K rS rI) (hid (d :: S) A) kv ds ∧ ds.length ≤ i ∧ (0 < i → 1 ≤ ds.length) ∧ (ds.map (·.1)).Nodup ∧
          (∀ q ∈ ds, nameB q.1 = true ∧ nameB q.2.1 = true ∧ q.2.1 ∈ names ∧ 1 ≤ q.2.2 ∧ q.2.2 ≤ 9) ∧
          σ = [some (.ref p), some (.ref nl), some (.int g), some (.int hands), some (.ref wl), some (.bl rings), some (.int sort), some (.int m), some (.int shift), some (.ref d), none, a, b])
          ⟨sH3.trans (SX.new hd), p3.sx (SX.new (S := []) hd) List.not_mem_nil, [], [], none, none, upd_same, .nil, Nat.le_refl _, fun h => absurd h (Nat.lt_irrefl _), List.nodup_nil, (fun _ h => nomatch h), rfl⟩ (fun _ _ _ _ _ => trivial) ?_ ?_
        · rintro i x σ A0 A hi ⟨sA, pA, kv, ds, a, b, dA, kA, lA, lA1, nA, allA, rfl⟩ ⟨rfl, rfl⟩
          walk_at "rd"
          refine ⟨p, 3, rfl, pA, by decide, by decide, fun wt B0 w0 w1 t0 q0 => ?_⟩
          walk_at "rd"
          refine ⟨p, nl, g, rings, names, rfl, q0, rdP (sA.trans t0), hn2, hg0, by omega, fun to B1 mto t1 q1 => ?_⟩
          walk_at "rd"
          refine ⟨Nat.le_of_ble_eq_true rfl, fun t ht => ?_⟩
          have tB : SX [p] A (upd B1 t (.tup [.str to, .int (1 + wt)])) := (t0.trans t1).trans (SX.new ht)
          have sB := sA.trans tB
          walk_at "rd"
          refine x_I (by decide) ?_
          obtain ⟨wd, ewd, mwd⟩ := at_strs (ns := wds) (r := ((i : Int) + shift) % 4) (by omega) (by rw [hw4]; omega)
          refine x_ixL (rdW sB) ewd ?_
          have dB : (upd B1 t (.tup [.str to, .int (1 + wt)])) d = some (.dK kv) := tB _ _ (by simpa using npd) dA
          have hkl : kv.length = ds.length := Paired.length kA
          refine ⟨d, _, rfl, DPut.k (k := Sum.inr wd) dB (lt_size (by omega)), ?_⟩
          have le1 : Le (hid (d :: S) A) (hid (d :: S) (upd (upd B1 t (.tup [.str to, .int (1 + wt)])) d (.dK (putK kv (Sum.inr wd) (.ref t))))) := ((tB.sub subD).trans (SX.mut List.mem_cons_self)).le
          have d1 : B1 d ≠ none := by rw [(t0.trans t1) _ _ (by simpa using npd) dA]; exact fun z => nomatch z
          have tS : t ∉ d :: S := fun mem => hid_nn (H := B1) (sx_there (t0.trans t1) q1.there (sx_there sA pA.there hS)) d1 t mem ht
          have td : t ≠ d := fun e => tS (by rw [e]; exact List.mem_cons_self)
          refine ⟨?_, ?_, _, putA ds wd (to, 1 + wt), _, _, upd_same, ?_, ?_, fun _ => putA_pos, putA_nodup nA, fun q hq => ?_, rfl⟩
          · intro b o nb hb
            have hbd : b ≠ d := fun e => by rw [e, hd0] at hb; cases hb
            rw [upd_ne hbd]
            exact sB b o nb hb
          · exact (q1.sx (SX.new (S := []) ht) List.not_mem_nil).sx (SX.mut (S := [d]) List.mem_cons_self) (by simpa using Ne.symm npd)
          · refine KVs.put ⟨t, .str to, .int (1 + wt), rfl, sqT ?_, rfl, rfl⟩ (KVs.le (mono_P mono_S mono_I) le1 kA) nA
            rw [hid_of tS, upd_ne td, upd_same]
          · have := putA_len (s := wd) (a := (to, 1 + wt)) (l := ds)
            omega
          · rcases putA_mem hq with hq | rfl
            · exact allA q hq
            · exact ⟨hwn _ mwd, hnn _ mto, mto, by show 1 ≤ 1 + wt; omega, by show 1 + wt ≤ 9; omega⟩
        · rintro σ A ⟨sA, pA, kv, ds, a, b, dA, kA, lA, lA1, nA, allA, rfl⟩
          walk_at "rd"
          refine ⟨Nat.le_of_ble_eq_true rfl, fun t ht => ?_⟩
          have tS : t ∉ S := fun mem => sx_there sA pA.there hS t mem ht
          refine k _ _ (.chance ds) (sA.trans (SX.new ht)) (pA.sx (SX.new (S := []) ht) List.not_mem_nil) ⟨t, .ref d, rfl, sqT ?_, d, kv, rfl, .inl ?_, ?_⟩ ⟨lA1 (by omega), by omega, nA, allA⟩ (fun e => absurd e gne)
          · rw [hid_of tS, upd_same]
          · rw [hid_of ndS, upd_ne (ne_of_none dA ht)]
            exact dA
          · exact KVs.le (mono_P mono_S mono_I) ((le_hid2 fun b hb => List.mem_cons_of_mem _ hb).trans (SX.new ht).le) kA
  · walk_at "rd"
    intro d hd
    walk_at "rd"
    have npd : d ≠ p := fun e => p3.there (e ▸ hd)
    have hd0 : H d = none := sH3.free hd (by simpa using npd)
    have ndS : d ∉ S := fun m => hS d m hd0
    have subD : ∀ b ∈ [p], b ∈ d :: S := fun b hb => List.mem_cons_of_mem _ (subS b hb)
    by_cases hk5 : sort < 5
    · rw [decide_eq_true hk5]
      walk_at "rd"
      refine ⟨p, hands, rfl, p3.sx (SX.new (S := []) hd) List.not_mem_nil, by omega, by omega, fun hand H4 h0 h1 s4 p4 => ?_⟩
      walk_at "rd"
      have sH4 : SX [p] H H4 := (sH3.trans (SX.new hd)).trans s4
      refine x_rng1 (by omega) (by omega) ?_
      refine for_it walk_rng (fun i σ A => SX [p] H A ∧ Drw A p ∧ ∃ (kv : List (Key × V)) (ds : List (Str × Str)) (a b : Option V), A d = some (.dK kv) ∧ KVs rS (hid (d :: S) A) kv ds ∧ ds.length ≤ i ∧ (0 < i → 1 ≤ ds.length) ∧ (ds.map (·.1)).Nodup ∧
        (∀ q ∈ ds, nameB q.1 = true ∧ nameB q.2 = true ∧ q.2 ∈ names) ∧
        σ = [some (.ref p), some (.ref nl), some (.int g), some (.int hands), some (.ref wl), some (.bl rings), some (.int sort), some (.int m), some (.int shift), some (.ref d), some (.int hand), a, b])
        ⟨sH4, p4, [], [], none, none, s4 _ _ (by simpa using npd) upd_same, .nil, Nat.le_refl _, fun h => absurd h (Nat.lt_irrefl _), List.nodup_nil, (fun _ h => nomatch h), rfl⟩ (fun _ _ _ _ _ => trivial) ?_ ?_
      · rintro i x σ A0 A hi ⟨sA, pA, kv, ds, a, b, dA, kA, lA, lA1, nA, allA, rfl⟩ ⟨rfl, rfl⟩
        walk_at "rd"
        refine ⟨p, nl, g, rings, names, rfl, pA, rdP sA, hn2, hg0, by omega, fun to B1 mto t1 q1 => ?_⟩
        walk_at "rd"
        have sB := sA.trans t1
        refine x_I (by decide) ?_
        obtain ⟨wd, ewd, mwd⟩ := at_strs (ns := wds) (r := ((i : Int) + shift) % 4) (by omega) (by rw [hw4]; omega)
        refine x_ixL (rdW sB) ewd ?_
        have dB : B1 d = some (.dK kv) := t1 _ _ (by simpa using npd) dA
        have hkl : kv.length = ds.length := Paired.length kA
        refine ⟨d, _, rfl, DPut.k (k := Sum.inr wd) dB (lt_size (by omega)), ?_⟩
        have le1 : Le (hid (d :: S) A) (hid (d :: S) (upd B1 d (.dK (putK kv (Sum.inr wd) (.str to))))) := ((t1.sub subD).trans (SX.mut List.mem_cons_self)).le
        refine ⟨?_, ?_, _, putA ds wd to, _, _, upd_same, ?_, ?_, fun _ => putA_pos, putA_nodup nA, fun q hq => ?_, rfl⟩
        · intro b o nb hb
          have hbd : b ≠ d := fun e => by rw [e, hd0] at hb; cases hb
          rw [upd_ne hbd]
          exact sB b o nb hb
        · exact q1.sx (SX.mut (S := [d]) List.mem_cons_self) (by simpa using Ne.symm npd)
        · exact KVs.put rfl (KVs.le mono_S le1 kA) nA
        · have := putA_len (s := wd) (a := to) (l := ds)
          omega
        · rcases putA_mem hq with hq | rfl
          · exact allA q hq
          · exact ⟨hwn _ mwd, hnn _ mto, mto⟩
      · rintro σ A ⟨sA, pA, kv, ds, a, b, dA, kA, lA, lA1, nA, allA, rfl⟩
        walk_at "rd"
        refine ⟨Nat.le_of_ble_eq_true rfl, fun t ht => ?_⟩
        have tS : t ∉ S := fun mem => sx_there sA pA.there hS t mem ht
        refine k _ _ (.hand hand ds) (sA.trans (SX.new ht)) (pA.sx (SX.new (S := []) ht) List.not_mem_nil) ⟨t, .ref d, rfl, sqT ?_, d, kv, rfl, .inl ?_, ?_⟩ ⟨h0, h1, lA1 (by omega), by omega, nA, allA⟩ (fun e => absurd e gne)
        · rw [hid_of tS, upd_same]
        · rw [hid_of ndS, upd_ne (ne_of_none dA ht)]
          exact dA
        · exact KVs.le mono_S ((le_hid2 fun b hb => List.mem_cons_of_mem _ hb).trans (SX.new ht).le) kA
    · rw [decide_eq_false hk5]
      walk_at "rd"
      refine x_rng1 (by omega) (by omega) ?_
      refine for_it walk_rng (fun i σ A => SX [p] H A ∧ Drw A p ∧ ∃ (kv : List (Key × V)) (ds : List (Str × (Str × Int))) (a b : Option V), A d = some (.dK kv) ∧ KVs (rP K rS rI) (hid (d :: S) A) kv ds ∧ ds.length ≤ i ∧ (0 < i → 1 ≤ ds.length) ∧ (ds.map (·.1)).Nodup ∧
        (∀ q ∈ ds, nameB q.1 = true ∧ nameB q.2.1 = true ∧ q.2.1 ∈ names ∧ 1 ≤ q.2.2 ∧ q.2.2 ≤ 9) ∧
        σ = [some (.ref p), some (.ref nl), some (.int g), some (.int hands), some (.ref wl), some (.bl rings), some (.int sort), some (.int m), some (.int shift), some (.ref d), none, a, b])
        ⟨sH3.trans (SX.new hd), p3.sx (SX.new (S := []) hd) List.not_mem_nil, [], [], none, none, upd_same, .nil, Nat.le_refl _, fun h => absurd h (Nat.lt_irrefl _), List.nodup_nil, (fun _ h => nomatch h), rfl⟩ (fun _ _ _ _ _ => trivial) ?_ ?_
      · rintro i x σ A0 A hi ⟨sA, pA, kv, ds, a, b, dA, kA, lA, lA1, nA, allA, rfl⟩ ⟨rfl, rfl⟩
        walk_at "rd"
        refine ⟨p, 3, rfl, pA, by decide, by decide, fun wt B0 w0 w1 t0 q0 => ?_⟩
        walk_at "rd"
        refine ⟨p, nl, g, rings, names, rfl, q0, rdP (sA.trans t0), hn2, hg0, by omega, fun to B1 mto t1 q1 => ?_⟩
        walk_at "rd"
        refine ⟨Nat.le_of_ble_eq_true rfl, fun t ht => ?_⟩
        have tB : SX [p] A (upd B1 t (.tup [.str to, .int (1 + wt)])) := (t0.trans t1).trans (SX.new ht)
        have sB := sA.trans tB
        walk_at "rd"
        refine x_I (by decide) ?_
        obtain ⟨wd, ewd, mwd⟩ := at_strs (ns := wds) (r := ((i : Int) + shift) % 4) (by omega) (by rw [hw4]; omega)
        refine x_ixL (rdW sB) ewd ?_
        have dB : (upd B1 t (.tup [.str to, .int (1 + wt)])) d = some (.dK kv) := tB _ _ (by simpa using npd) dA
        have hkl : kv.length = ds.length := Paired.length kA
        refine ⟨d, _, rfl, DPut.k (k := Sum.inr wd) dB (lt_size (by omega)), ?_⟩
        have le1 : Le (hid (d :: S) A) (hid (d :: S) (upd (upd B1 t (.tup [.str to, .int (1 + wt)])) d (.dK (putK kv (Sum.inr wd) (.ref t))))) := ((tB.sub subD).trans (SX.mut List.mem_cons_self)).le
        have d1 : B1 d ≠ none := by rw [(t0.trans t1) _ _ (by simpa using npd) dA]; exact fun z => nomatch z
        have tS : t ∉ d :: S := fun mem => hid_nn (H := B1) (sx_there (t0.trans t1) q1.there (sx_there sA pA.there hS)) d1 t mem ht
        have td : t ≠ d := fun e => tS (by rw [e]; exact List.mem_cons_self)
        refine ⟨?_, ?_, _, putA ds wd (to, 1 + wt), _, _, upd_same, ?_, ?_, fun _ => putA_pos, putA_nodup nA, fun q hq => ?_, rfl⟩
        · intro b o nb hb
          have hbd : b ≠ d := fun e => by rw [e, hd0] at hb; cases hb
          rw [upd_ne hbd]
          exact sB b o nb hb
        · exact (q1.sx (SX.new (S := []) ht) List.not_mem_nil).sx (SX.mut (S := [d]) List.mem_cons_self) (by simpa using Ne.symm npd)
        · refine KVs.put ⟨t, .str to, .int (1 + wt), rfl, sqT ?_, rfl, rfl⟩ (KVs.le (mono_P mono_S mono_I) le1 kA) nA
          rw [hid_of tS, upd_ne td, upd_same]
        · have := putA_len (s := wd) (a := (to, 1 + wt)) (l := ds)
          omega
        · rcases putA_mem hq with hq | rfl
          · exact allA q hq
          · exact ⟨hwn _ mwd, hnn _ mto, mto, by show 1 ≤ 1 + wt; omega, by show 1 + wt ≤ 9; omega⟩
      · rintro σ A ⟨sA, pA, kv, ds, a, b, dA, kA, lA, lA1, nA, allA, rfl⟩
        walk_at "rd"
        refine ⟨Nat.le_of_ble_eq_true rfl, fun t ht => ?_⟩
        have tS : t ∉ S := fun mem => sx_there sA pA.there hS t mem ht
        refine k _ _ (.chance ds) (sA.trans (SX.new ht)) (pA.sx (SX.new (S := []) ht) List.not_mem_nil) ⟨t, .ref d, rfl, sqT ?_, d, kv, rfl, .inl ?_, ?_⟩ ⟨lA1 (by omega), by omega, nA, allA⟩ (fun e => absurd e gne)
        · rw [hid_of tS, upd_same]
        · rw [hid_of ndS, upd_ne (ne_of_none dA ht)]
          exact dA
        · exact KVs.le (mono_P mono_S mono_I) ((le_hid2 fun b hb => List.mem_cons_of_mem _ hb).trans (SX.new ht).le) kA
end
end M

namespace M
open PySem PySem.Spec PyProof.Rows L2
theorem putA_has {α : Type} {s : Str} {a : α} : ∀ {l : List (Str × α)}, (s, a) ∈ putA l s a
  | [] => List.mem_singleton_self _
  | (k, b) :: r => by
    unfold putA
    split
    · rename_i h
      rw [h]
      exact List.mem_cons_self
    · exact List.mem_cons_of_mem _ putA_has
section
variable {P : Program} {w : World} {K : PySem.W.Frag} {mg : Str → Option Value} {base : Heap}
def sp_law_stands (T : Tx K mg) : Sp := fun vs H Q _ => ∃ (p nl : Addr) (hands : Int) (rl : Bool) (names : List Str) (S : List Addr), vs = [.ref p, .ref nl, .int hands, .bl rl] ∧ Drw H p ∧ p ∈ S ∧ (∀ b ∈ S, H b ≠ none) ∧
  SqL K (hid S H) nl (names.map V.str) ∧ names.length ≤ 1000 ∧ (∀ s ∈ names, nameB s = true) ∧ 1 ≤ hands ∧ hands ≤ 4 ∧
  ∀ d H' sts, H d = none → SX [p] H H' → Drw H' p → rD (rStand K) (hid S H') (.ref d) sts → StandsOk hands names sts → (1 ≤ names.length → ∃ z ∈ sts, z.2 = .fin) → (∃ kv, H' d = some (.dK kv) ∧ KVs (rStand K) (hid (d :: S) H') kv sts) → Q (.ref d) H'
theorem ok_law_stands (T : Tx K mg) : FnOk P w K mg base CX0 4 T.law_stands.f T.law_stands.fd P_law_stands (sp_law_stands T) := by
  refine T.law_stands.F.ok sc_law_stands (fun vs H Q E h => ?_) (fun cdv A outer s H vs Q E hr h => ?_)
  · obtain ⟨p, nl, hands, rl, names, S, rfl, hp, pS, hS, hnl, hn2, hnn, hh1, hh4, k⟩ := h
    rfl
  have hu := hu_of hr
  have nd := sc_law_stands.nd
  obtain ⟨p, nl, hands, rl, names, S, rfl, hp, pS, hS, hnl, hn2, hnn, hh1, hh4, k⟩ := h
  refine ⟨_, (pss_cons (ps_set (i := 4) nd rfl (Or.inl rfl) (pe_call (ok_law_menu (P := P) (w := w) T) (hr.mono (by decide)) (by rfl) T.law_menu.g T.law_menu.F.kp T.law_menu.B .nil pass0 (pa_cons (pv 0) pa_nil)))
      (pss_cons (ps_set (i := 5) nd rfl (Or.inl rfl) pe_dnewK)
      (pss_cons (ps_for PassesOwn.never rfl (pi_range1 (by rfl) T.b_range (pa_cons (pe_callB (w_len (K := K) rfl) (by rfl) T.b_len (by decide +kernel) (pa_cons (pv 1) pa_nil)) pa_nil)) (pg_name (i := 6) nd rfl (Or.inl rfl)) (pss_one (ps_dput hu (pv 5) (pe_ix (w_ixL (K := K) rfl) (pv 1) (pv 6) (fun _ _ => rfl)) (pe_call (ok_law_stand (P := P) (w := w) T) (hr.mono (by decide)) (by rfl) T.law_stand.g T.law_stand.F.kp T.law_stand.B .nil pass0 (pa_cons (pv 0) (pa_cons (pv 1) (pa_cons (pv 6) (pa_cons (pv 2) (pa_cons (pv 4) (pa_cons (pv 3) pa_nil))))))) rfl)))
      (pss_one (ps_ret (pv 5)))))), ?_⟩
  refine x_start (σ' := [some _, some _, some _, some _, none, none, none]) rfl ?_
  try simp only [cx_n, cx_K, cx_w, cx_P]
  have subS : ∀ b ∈ [p], b ∈ S := fun b hb => by cases List.mem_singleton.mp hb; exact pS
  walk_at "rd"
  refine ⟨p, rfl, hp, fun wl wds H1 hwl s1 p1 ewl lw4 hwn => ?_⟩
  walk_at "rd"
  intro d hd
  walk_at "rd"
  have npd : d ≠ p := fun e => p1.there (e ▸ hd)
  have hd0 : H d = none := s1.free hd (by simpa using npd)
  have ndS : d ∉ S := fun m => hS d m hd0
  have nwp : wl ≠ p := fun e => hp.there (e ▸ hwl)
  have nwS : wl ∉ S := fun m => hS wl m hwl
  have ndw : d ≠ wl := Ne.symm (ne_of_none ewl hd)
  have rdN : ∀ {A : Hp}, SX [p] H A → SqL K A nl (names.map V.str) := fun s => (s.sub subS).leH.l hnl
  have subD : ∀ b ∈ [p], b ∈ d :: S := fun b hb => List.mem_cons_of_mem _ (subS b hb)
  have s1d : SX [p] H (upd H1 d (.dK [])) := s1.trans (SX.new hd)
  refine x_lenL' (rdN s1d) ?_
  walk_at "rd"
  rw [List.length_map]
  refine x_rng1 (by omega) (by omega) ?_
  refine for_it walk_rng (fun i σ A => SX [p] H A ∧ Drw A p ∧ ∃ (kv : List (Key × V)) (sts : List (Str × Stand)) (a : Option V), A d = some (.dK kv) ∧ A wl = some (.lst (wds.map V.str)) ∧ KVs (rStand K) (hid (d :: S) A) kv sts ∧ sts.length ≤ i ∧ (sts.map (·.1)).Nodup ∧
      (∀ q ∈ sts, StandOk hands names q.2) ∧ (∀ n, n ∈ sts.map (·.1) ↔ n ∈ names.take i) ∧ (1 ≤ names.length → i = names.length → ∃ z ∈ sts, z.2 = .fin) ∧
      σ = [some (.ref p), some (.ref nl), some (.int hands), some (.bl rl), some (.ref wl), some (.ref d), a])
      ⟨s1d, p1.sx (SX.new (S := []) hd) List.not_mem_nil, [], [], none, upd_same, by rw [upd_ne (Ne.symm ndw)]; exact ewl, .nil, Nat.le_refl _, List.nodup_nil, (fun _ h => nomatch h), (fun n => ⟨(fun h => nomatch h), (fun h => nomatch h)⟩), (fun a b => by omega), rfl⟩ (fun _ _ _ _ _ => trivial) ?_ ?_
  · rintro i x σ A0 A hi ⟨sA, pA, kv, sts, a, dA, wA, kA, lA, nA, allA, keyA, finA, rfl⟩ ⟨rfl, rfl⟩
    have hi2 : i < names.length := by omega
    obtain ⟨nm, hnm⟩ : ∃ nm, names[i]? = some nm := ⟨names[i], by simp [hi2]⟩
    have anm : atI (names.map V.str) (i : Int) = some (.str nm) := atI_nat (by rw [List.getElem?_map, hnm]; rfl)
    have thereA := sx_there sA pA.there hS
    have hkl : kv.length = sts.length := Paired.length kA
    have ndA : A d ≠ none := by rw [dA]; exact fun z => nomatch z
    walk_at "rd"
    refine ⟨p, nl, wl, i, hands, rl, names, wds, d :: S, rfl, pA, List.mem_cons_of_mem _ pS, hid_nn thereA ndA, ?_, ?_, by omega, by omega, by omega, hnn, lw4, hwn, hh1, hh4, fun v B st tB pB rv sok fn => ?_⟩
    · refine (le_hidS (sA.sub subS) fun b hb => ?_).l hnl
      rcases List.mem_cons.mp hb with rfl | hb
      · exact .inr hd0
      · exact .inl hb
    · refine sqL ?_
      rw [hid_of (by simp only [List.mem_cons, not_or]; exact ⟨Ne.symm ndw, nwS⟩)]
      exact wA
    walk_at "rd"
    refine x_ixL (rdN (sA.trans tB)) anm ?_
    have dB : B d = some (.dK kv) := tB _ _ (by simpa using npd) dA
    refine ⟨d, _, rfl, DPut.k (k := Sum.inr nm) dB (lt_size (by omega)), ?_⟩
    have le1 : Le (hid (d :: S) A) (hid (d :: S) (upd B d (.dK (putK kv (Sum.inr nm) v)))) := ((tB.sub subD).trans (SX.mut List.mem_cons_self)).le
    refine ⟨?_, pB.sx (SX.mut (S := [d]) List.mem_cons_self) (by simpa using Ne.symm npd), _, putA sts nm st, _, upd_same, ?_, ?_, ?_, putA_nodup nA, fun q hq => ?_, fun n => ?_, fun _ e => ?_, rfl⟩
    · intro b o nb hb
      have hbd : b ≠ d := fun e => by rw [e, hd0] at hb; cases hb
      rw [upd_ne hbd]
      exact (sA.trans tB) b o nb hb
    · rw [upd_ne (Ne.symm ndw)]
      exact tB _ _ (by simpa using nwp) wA
    · exact KVs.put (mono_stand K _ _ _ _ (SX.mut List.mem_cons_self).le rv) (KVs.le (mono_stand K) le1 kA) nA
    · have := putA_len (s := nm) (a := st) (l := sts)
      omega
    · rcases putA_mem hq with hq | rfl
      · exact allA q hq
      · exact sok
    · rw [take_succ_of hnm, List.mem_append, List.mem_singleton]
      constructor
      · intro h
        rcases putA_key_of h with h | h
        · exact .inl ((keyA n).mp h)
        · exact .inr h
      · rintro (h | rfl)
        · exact putA_key_mono ((keyA n).mpr h)
        · exact putA_key_in
    · exact ⟨_, putA_has, fn (by omega)⟩
  · rintro σ A ⟨sA, pA, kv, sts, a, dA, wA, kA, lA, nA, allA, keyA, finA, rfl⟩
    walk_at "rd"
    have e : (names.length : Int).toNat = names.length := by omega
    rw [e] at lA keyA finA
    rw [List.take_length] at keyA
    refine k d A sts hd0 sA pA ⟨d, kv, rfl, .inl (by rw [hid_of ndS]; exact dA), KVs.le (mono_stand K) (le_hid2 fun b hb => List.mem_cons_of_mem _ hb) kA⟩ ⟨nA, keyA, allA, lA⟩ (fun h => finA h rfl) ⟨kv, dA, kA⟩
end
end M

namespace M
open PySem PySem.Spec PyProof.Rows L2
section
variable {P : Program} {w : World} {K : PySem.W.Frag} {mg : Str → Option Value} {base : Heap}
def sp_law_build (T : Tx K mg) : Sp := fun vs H Q _ => ∃ (a : Addr) (ns : List Int), vs = [.ref a] ∧ SqL K H a (ns.map V.int) ∧ ns.length ≤ 10000 ∧
  ∀ (q : Addr) (H' : Hp) (hands : Int) (nl : Addr) (names : List Str) (d : Addr) (sts : List (Str × Stand)) (n0 : Str), H q = none → SX [] H H' → H' q = some (.lst [.int hands, .ref nl, .ref d]) → H' nl = some (.lst (names.map V.str)) → H nl = none → rD (rStand K) H' (.ref d) sts → WorkOk hands n0 sts → names[0]? = some n0 → names.length ≤ 8 →
    (∀ n, n ∈ sts.map (·.1) ↔ n ∈ names) → (∃ z ∈ sts, z.2 = .fin) → (∃ kv, H' d = some (.dK kv) ∧ KVs (rStand K) (hid [d] H') kv sts) → Q (.ref q) H'
theorem ok_law_build (T : Tx K mg) : FnOk P w K mg base CX0 5 T.law_build.f T.law_build.fd P_law_build (sp_law_build T) := by
  refine T.law_build.F.ok sc_law_build (fun vs H Q E h => ?_) (fun cdv A outer s H vs Q E hr h => ?_)
  · obtain ⟨a, ns, rfl, ha, hlen, k⟩ := h
    rfl
  have hu := hu_of hr
  have nd := sc_law_build.nd
  obtain ⟨a, ns, rfl, ha, hlen, k⟩ := h
  refine ⟨_, (pss_cons (ps_set (i := 1) nd rfl (Or.inl rfl) (pe_call (ok_law_open (P := P) (w := w) T) (hr.mono (by decide)) (by rfl) T.law_open.g T.law_open.F.kp T.law_open.B .nil pass0 (pa_cons (pv 0) (pa_cons pe_int pa_nil))))
      (pss_cons (ps_set (i := 2) nd rfl (Or.inl rfl) (pe_ix (w_ixL (K := K) rfl) (pe_lst (pa_cons pe_int (pa_cons pe_int (pa_cons pe_int (pa_cons pe_int (pa_cons pe_int (pa_cons pe_int (pa_cons pe_int (pa_cons pe_int pa_nil))))))))) (pe_call (ok_law_draw (P := P) (w := w) T) (hr.mono (by decide)) (by rfl) T.law_draw.g T.law_draw.F.kp T.law_draw.B .nil pass0 (pa_cons (pv 1) (pa_cons pe_int pa_nil))) (fun _ _ => rfl)))
      (pss_cons (ps_set (i := 3) nd rfl (Or.inl rfl) (pe_ix (w_ixL (K := K) rfl) (pe_lst (pa_cons pe_int (pa_cons pe_int (pa_cons pe_int (pa_cons pe_int (pa_cons pe_int (pa_cons pe_int (pa_cons pe_int (pa_cons pe_int (pa_cons pe_int (pa_cons pe_int (pa_cons pe_int (pa_cons pe_int (pa_cons pe_int (pa_cons pe_int (pa_cons pe_int (pa_cons pe_int pa_nil))))))))))))))))) (pe_call (ok_law_draw (P := P) (w := w) T) (hr.mono (by decide)) (by rfl) T.law_draw.g T.law_draw.F.kp T.law_draw.B .nil pass0 (pa_cons (pv 1) (pa_cons pe_int pa_nil))) (fun _ _ => rfl)))
      (pss_cons (ps_set (i := 4) nd rfl (Or.inl rfl) (pe_cmpR op_eq (pe_call (ok_law_draw (P := P) (w := w) T) (hr.mono (by decide)) (by rfl) T.law_draw.g T.law_draw.F.kp T.law_draw.B .nil pass0 (pa_cons (pv 1) (pa_cons pe_int pa_nil))) pe_int (nomark _)))
      (pss_cons (ps_set (i := 5) nd rfl (Or.inl rfl) (pe_call (ok_law_names (P := P) (w := w) T) (hr.mono (by decide)) (by rfl) T.law_names.g T.law_names.F.kp T.law_names.B .nil pass0 (pa_cons (pv 1) (pa_cons (pv 3) pa_nil))))
      (pss_one (ps_ret (pe_lst (pa_cons (pv 2) (pa_cons (pv 5) (pa_cons (pe_call (ok_law_stands (P := P) (w := w) T) (hr.mono (by decide)) (by rfl) T.law_stands.g T.law_stands.F.kp T.law_stands.B .nil pass0 (pa_cons (pv 1) (pa_cons (pv 5) (pa_cons (pv 2) (pa_cons (pv 4) pa_nil))))) pa_nil))))))))))), ?_⟩
  refine x_start (σ' := [some _, none, none, none, none, none]) rfl ?_
  try simp only [cx_n, cx_K, cx_w, cx_P]
  walk_at "rd"
  refine ⟨a, ns, 1, rfl, ha, hlen, by decide, by decide, fun p H1 hp s1 p1 => ?_⟩
  walk_at "rd"
  refine ⟨Nat.le_of_ble_eq_true rfl, fun l0 hl0 => ?_⟩
  walk_at "rd"
  have npl : l0 ≠ p := fun e => p1.there (e ▸ hl0)
  refine ⟨p, 8, rfl, p1.sx (SX.new (S := []) hl0) List.not_mem_nil, by decide, by decide, fun r H2 r0 r1 s2 p2 => ?_⟩
  obtain ⟨hands, em, hm⟩ := at_ints (ns := [1, 2, 3, 2, 3, 4, 2, 1]) r0 r1
  have hm2 : 1 ≤ hands ∧ hands ≤ 4 := by simp at hm; omega
  refine x_ixL (sqL (s2 _ _ (by simpa using npl) upd_same)) em ?_
  walk_at "rd"
  have s12 : SX [p] H H2 := (nil_sx s1).trans ((SX.new hl0).trans s2)
  refine ⟨Nat.le_of_ble_eq_true rfl, fun l1 hl1 => ?_⟩
  walk_at "rd"
  have npl1 : l1 ≠ p := fun e => p2.there (e ▸ hl1)
  refine ⟨p, 16, rfl, p2.sx (SX.new (S := []) hl1) List.not_mem_nil, by decide, by decide, fun r H3 r0 r1 s3 p3 => ?_⟩
  obtain ⟨many, em2, hmm⟩ := at_ints (ns := [4, 5, 6, 7, 8, 5, 6, 3, 4, 2, 1, 7, 8, 6, 5, 4]) r0 r1
  have hm3 : 1 ≤ many ∧ many ≤ 8 := by simp at hmm; omega
  refine x_ixL (sqL (s3 _ _ (by simpa using npl1) upd_same)) em2 ?_
  walk_at "rd"
  have s13 : SX [p] H H3 := s12.trans ((SX.new hl1).trans s3)
  refine ⟨p, 2, rfl, p3, by decide, by decide, fun r4 H4 r40 r41 s4 p4 => ?_⟩
  walk_at "rd"
  refine ⟨p, many, rfl, p4, by omega, by omega, fun nl names H5 hnl s5 p5 enl lnl nn => ?_⟩
  walk_at "rd"
  have npn : nl ≠ p := fun e => p4.there (e ▸ hnl)
  have nnS : nl ∉ [p] := by simpa using npn
  refine ⟨p, nl, hands, _, names, [p], rfl, p5, List.mem_cons_self, (by intro b hb; cases List.mem_singleton.mp hb; exact p5.there), sqL (by rw [hid_of nnS]; exact enl), by omega, nn, hm2.1, hm2.2, fun d H6 sts hd s6 p6 rd6 so fn ⟨kvD, dkD, kkD⟩ => ?_⟩
  walk_at "rd"
  refine ⟨Nat.le_of_ble_eq_true rfl, fun q hq => ?_⟩
  have sAll : SX [p] H H6 := ((s13.trans s4).trans s5).trans s6
  have nqp : q ≠ p := fun e => p6.there (e ▸ hq)
  have hpn : ∀ b ∈ [p], H b = none := fun b hb => by cases List.mem_singleton.mp hb; exact hp
  obtain ⟨n0, hn0⟩ : ∃ n0, names[0]? = some n0 := ⟨names[0]'(by omega), by simp⟩
  have enl6 := s6 _ _ nnS enl
  have nqn : nl ≠ q := ne_of_none enl6 hq
  refine k q _ hands nl names d sts n0 (sAll.free hq (by simpa using nqp)) (sx_nil_of (sAll.trans (SX.new hq)) hpn) upd_same (by rw [upd_ne nqn]; exact enl6) ((s13.trans s4).free hnl nnS)
    (mono_D (mono_stand K) _ _ _ _ ((SX.new (S := [p]) hq).leH) rd6) ⟨hm2, ⟨?_, by have := so.len; omega⟩, so.nd, fun z hz => ⟨nn _ ((so.keys _).mp (List.mem_map.mpr ⟨z, hz, rfl⟩)), (so.all z hz).sub fun x hx => (so.keys x).mpr hx⟩, (so.keys _).mpr (getMem hn0)⟩ hn0 (by omega) so.keys (fn (by omega)) ⟨kvD, by rw [upd_ne (ne_of_none dkD hq)]; exact dkD, KVs.le (mono_stand K) ((le_hid2 (by simp)).trans (SX.new (S := [d]) hq).le) kkD⟩
  rcases Nat.eq_zero_or_pos sts.length with h | h
  · have := (so.keys n0).mpr (getMem hn0)
    rw [List.eq_nil_of_length_eq_zero h] at this
    cases this
  · exact h
end
end M

namespace M
open PySem PySem.Spec PyProof.Rows L2
theorem nodup_sub : ∀ {l m : List Str}, l.Nodup → (∀ x ∈ l, x ∈ m) → l.length ≤ m.length
  | [], _, _, _ => Nat.zero_le _
  | a :: l, m, hn, hs => by
    obtain ⟨h1, h2⟩ := List.nodup_cons.mp hn
    have ha := hs a List.mem_cons_self
    have := nodup_sub (m := m.erase a) h2 fun x hx => (List.mem_erase_of_ne (by rintro rfl; exact h1 hx)).mpr (hs x (List.mem_cons_of_mem _ hx))
    rw [List.length_erase_of_mem ha] at this
    have : 0 < m.length := List.length_pos_of_mem ha
    rw [List.length_cons]
    omega
/-- all that a law asks of a dict of stands -/
structure Closed (sts : List (Str × Stand)) : Prop where
  nd : (sts.map (·.1)).Nodup
  len : sts.length ≤ 1000
  all : ∀ q ∈ sts, q.2.nd ∧ q.2.size ≤ 4 ∧ ∀ t ∈ q.2.tos, t ∈ sts.map (·.1)
theorem Closed.look {sts : List (Str × Stand)} (C : Closed sts) {s : Str} (h : s ∈ sts.map (·.1)) : ∃ st, lookA sts s = some st ∧ st.nd ∧ st.size ≤ 4 ∧ tosOf sts s = st.tos ∧ (∀ t ∈ st.tos, t ∈ sts.map (·.1)) := by
  obtain ⟨st, e⟩ := lookA_some h
  obtain ⟨a, b, c⟩ := C.all _ (lookA_mem e)
  exact ⟨st, e, a, b, by unfold tosOf; rw [e]; rfl, c⟩
theorem Closed.tos {sts : List (Str × Stand)} (C : Closed sts) : ∀ n ∈ sts.map (·.1), ∀ t ∈ tosOf sts n, t ∈ sts.map (·.1) := fun n hn t ht => by
  obtain ⟨st, _, _, _, e, h⟩ := C.look hn
  rw [e] at ht
  exact h t ht
theorem WorkOk.closed {hands : Int} {start : Str} {sts : List (Str × Stand)} (o : WorkOk hands start sts) : Closed sts :=
  ⟨o.nd, Nat.le_trans o.len.2 (by decide), fun q hq => ⟨(o.all q hq).2.nd, (o.all q hq).2.size, fun t ht => by
    have h := (o.all q hq).2
    generalize q.2 = st at h ht
    cases st with
    | fin => cases ht
    | hand a b =>
      obtain ⟨z, hz, rfl⟩ := List.mem_map.mp ht
      exact (h.2.2.2.2.2 z hz).2.2
    | chance b =>
      obtain ⟨z, hz, rfl⟩ := List.mem_map.mp ht
      exact (h.2.2.2 z hz).2.2.1⟩⟩
theorem Tbl.tos {sts tbl : List (Str × Stand)} (t : Tbl sts tbl) (n x : Str) : x ∈ tosOf tbl n ↔ x ∈ tosOf sts n := by
  by_cases h : n ∈ tbl.map (·.1)
  · obtain ⟨b, eb⟩ := lookA_some h
    obtain ⟨a, ea, s⟩ := t.all _ (lookA_mem eb)
    unfold tosOf
    rw [eb, ea]
    exact (SrtStand.tos s).mem_iff
  · unfold tosOf
    rw [lookA_none h, lookA_none fun z => h (t.perm.mem_iff.mpr z)]
end M

namespace M
open PySem PySem.Spec PyProof.Rows L2
/-! ### methods of a work -/
def moverV : Stand → V
  | .hand h _ => .int h
  | _ => .non
theorem lookup_none {m : Str} : ∀ {fs : List (Str × V)}, m ∉ fs.map (·.1) → fs.lookup m = none
  | [], _ => rfl
  | (k, v) :: r, h => by
    have h1 : m ≠ k := fun e => h (by rw [e]; exact List.mem_cons_self)
    rw [List.lookup_cons]
    have : (m == k) = false := by simpa using h1
    rw [this]
    exact lookup_none fun q => h (List.mem_cons_of_mem _ q)
theorem work_none {m : Str} {hands : Int} {start : Str} {d nm en : Addr} {b : Bool} (h : m ∉ (["hands", "start", "table", "names", "ends", "ringless"] : List Str)) : (workF hands start d nm en b).lookup m = none := lookup_none h
theorem work_table {hands : Int} {start : Str} {d nm en : Addr} {b : Bool} : List.lookup ("table" : Str) (workF hands start d nm en b) = some (.ref d) := look_next (by decide +kernel) (look_next (by decide +kernel) look_here)
theorem work_start {hands : Int} {start : Str} {d nm en : Addr} {b : Bool} : List.lookup ("start" : Str) (workF hands start d nm en b) = some (.str start) := look_next (by decide +kernel) look_here
theorem work_hands {hands : Int} {start : Str} {d nm en : Addr} {b : Bool} : List.lookup ("hands" : Str) (workF hands start d nm en b) = some (.int hands) := look_here
section
variable {P : Program} {w : World} {K : PySem.W.Frag} {mg : Str → Option Value} {base : Heap}
theorem x_meth {C : Addr} {m : Str} {sp : Sp} {dvs : List V} {E : XK} {ta : TE} {t : TA} {σ : L2.St} {H : Hp} {Q : VK}
    (k : ta σ H fun x H1 => ∃ a dx fs, x = .ref a ∧ H1 a = some (.ins C dx fs) ∧ fs.lookup m = none ∧ t σ H1 fun vs H2 => sp (x :: (vs ++ dvs)) H2 Q E) : tMeth C m sp dvs E ta t σ H Q := k
theorem x_me {H : Hp} {C a dx : Addr} {m : Str} {fs : List (Str × V)} {R : Prop} (h : H a = some (.ins C dx fs)) (l : fs.lookup m = none) (k : R) : ∃ a' dx' fs', V.ref a = .ref a' ∧ H a' = some (.ins C dx' fs') ∧ fs'.lookup m = none ∧ R := ⟨a, dx, fs, rfl, h, l, k⟩
def sp_Work_row (T : Tx K mg) : Sp := fun vs H Q _ => ∃ (x : Addr) (hands : Int) (start s : Str) (tbl : List (Str × Stand)) (st : Stand), vs = [.ref x, .str s] ∧ WorkAt T H x hands start tbl ∧ lookA tbl s = some st ∧ ∀ v, rStand K H v st → Q v H
theorem ok_Work_row (T : Tx K mg) : FnOk P w K mg base CX0 1 T.Work_row.f T.Work_row.fd P_Work_row (sp_Work_row T) := by
  refine T.Work_row.F.ok sc_Work_row (fun vs H Q E h => ?_) (fun cdv A outer s H vs Q E hr h => ?_)
  · obtain ⟨x, hands, start, s, tbl, st, rfl, wa, hs, k⟩ := h
    rfl
  have hu := hu_of hr
  have nd := sc_Work_row.nd
  obtain ⟨x, hands, start, s, tbl, st, rfl, wa, hs, k⟩ := h
  refine ⟨_, (pss_cons (ps_if (PW.pt (pw_or (pt_not (pt_val (pe_callB (w_isi (K := K) rfl) (by rfl) T.b_isinstance (by decide +kernel) (pa_cons (pv 1) (pa_cons (pe_bltn (v := .ty "str") (by rfl) T.b_str (by decide +kernel) rfl) pa_nil))))) (pw_or1 (pt_cmp (pc_dnotin hu (pv 1) (w_fld (K := K) rfl (pv 0) rfl)))))) (pss_one ps_never) pss_nil)
      (pss_one (ps_ret (pe_dget hu (w_fld (K := K) rfl (pv 0) rfl) (pv 1) (fun _ _ => rfl))))), ?_⟩
  refine x_start (σ' := [some _, some _]) rfl ?_
  try simp only [cx_n, cx_K, cx_w, cx_P]
  obtain ⟨dx, d, nm, en, hx, ⟨d', kvs, ed, hrd, hk⟩, _⟩ := wa.ex
  cases ed
  obtain ⟨v, ev, rv⟩ := hk.at_ hs
  walk_at "rd"
  refine x_isiT (.base (.str _)) (by decide +kernel) ?_
  walk_at "rd"
  refine x_getF hx T.cl_Work T.n_Work_table work_table ?_
  refine x_dni' hrd ?_
  rw [ev]
  walk_at "rd"
  walk_at "if!"
  walk_at "rd"
  refine x_getF hx T.cl_Work T.n_Work_table work_table ?_
  walk_at "rd"
  refine x_dg' hrd ev ?_
  exact k v rv
def sp_Work_kind (T : Tx K mg) : Sp := fun vs H Q _ => ∃ (x : Addr) (hands : Int) (start s : Str) (tbl : List (Str × Stand)) (st : Stand), vs = [.ref x, .str s] ∧ WorkAt T H x hands start tbl ∧ lookA tbl s = some st ∧ Q (.str (kindS st)) H
theorem ok_Work_kind (T : Tx K mg) : FnOk P w K mg base CX0 2 T.Work_kind.f T.Work_kind.fd P_Work_kind (sp_Work_kind T) := by
  refine T.Work_kind.F.ok sc_Work_kind (fun vs H Q E h => ?_) (fun cdv A outer s H vs Q E hr h => ?_)
  · obtain ⟨x, hands, start, s, tbl, st, rfl, wa, hs, k⟩ := h
    rfl
  have hu := hu_of hr
  have nd := sc_Work_kind.nd
  obtain ⟨x, hands, start, s, tbl, st, rfl, wa, hs, k⟩ := h
  refine ⟨_, (pss_one (ps_ret (pe_ix (w_ixT (K := K) rfl) (pe_meth (pv 0) T.cl_Work T.me_Work_row (ok_Work_row (P := P) (w := w) T) (hr.mono (by decide)) T.Work_row.B .nil pass0 (pa_cons (pv 1) pa_nil)) pe_int (fun _ _ => rfl)))), ?_⟩
  refine x_start (σ' := [some _, some _]) rfl ?_
  try simp only [cx_n, cx_K, cx_w, cx_P]
  obtain ⟨dx, d, nm, en, hx, _⟩ := id wa.ex
  walk_at "rd"
  refine x_meth ?_
  walk_at "rd"
  refine x_me hx (work_none (by decide +kernel)) ?_
  walk_at "rd"
  refine ⟨x, hands, start, s, tbl, st, rfl, wa, hs, fun v rv => ?_⟩
  walk_at "rd"
  cases st with
  | fin =>
    obtain ⟨p5, rfl, hp5⟩ := rv
    exact x_ixT hp5 (atI_nat (j := 0) rfl) k
  | hand h ms =>
    obtain ⟨p5, _, rfl, hp5, _⟩ := rv
    exact x_ixT hp5 (atI_nat (j := 0) rfl) k
  | chance ds =>
    obtain ⟨p5, _, rfl, hp5, _⟩ := rv
    exact x_ixT hp5 (atI_nat (j := 0) rfl) k
def sp_Work_mover (T : Tx K mg) : Sp := fun vs H Q _ => ∃ (x : Addr) (hands : Int) (start s : Str) (tbl : List (Str × Stand)) (st : Stand), vs = [.ref x, .str s] ∧ WorkAt T H x hands start tbl ∧ lookA tbl s = some st ∧ Q (moverV st) H
theorem ok_Work_mover (T : Tx K mg) : FnOk P w K mg base CX0 2 T.Work_mover.f T.Work_mover.fd P_Work_mover (sp_Work_mover T) := by
  refine T.Work_mover.F.ok sc_Work_mover (fun vs H Q E h => ?_) (fun cdv A outer s H vs Q E hr h => ?_)
  · obtain ⟨x, hands, start, s, tbl, st, rfl, wa, hs, k⟩ := h
    rfl
  have hu := hu_of hr
  have nd := sc_Work_mover.nd
  obtain ⟨x, hands, start, s, tbl, st, rfl, wa, hs, k⟩ := h
  refine ⟨_, (pss_cons (ps_set (i := 2) nd rfl (Or.inl rfl) (pe_meth (pv 0) T.cl_Work T.me_Work_row (ok_Work_row (P := P) (w := w) T) (hr.mono (by decide)) T.Work_row.B .nil pass0 (pa_cons (pv 1) pa_nil)))
      (pss_cons (ps_if (pt_cmpR op_eq (pe_ix (w_ixT (K := K) rfl) (pv 2) pe_int (fun _ _ => rfl)) pe_str (nomark _)) (pss_one (ps_ret (pe_ix (w_ixT (K := K) rfl) (pv 2) pe_int (fun _ _ => rfl)))) pss_nil)
      (pss_one (ps_ret pe_non)))), ?_⟩
  refine x_start (σ' := [some _, some _, none]) rfl ?_
  try simp only [cx_n, cx_K, cx_w, cx_P]
  obtain ⟨dx, d, nm, en, hx, _⟩ := id wa.ex
  walk_at "rd"
  refine x_meth ?_
  walk_at "rd"
  refine x_me hx (work_none (by decide +kernel)) ?_
  walk_at "rd"
  refine ⟨x, hands, start, s, tbl, st, rfl, wa, hs, fun v rv => ?_⟩
  walk_at "rd"
  cases st with
  | fin =>
    obtain ⟨p5, rfl, hp5⟩ := rv
    refine x_ixT hp5 (atI_nat (j := 0) rfl) ?_
    walk_at "rd"
    walk_at "if!"
    walk_at "rd"
    exact k
  | hand h ms =>
    obtain ⟨p5, _, rfl, hp5, _⟩ := rv
    refine x_ixT hp5 (atI_nat (j := 0) rfl) ?_
    walk_at "rd"
    walk_at "if!"
    walk_at "rd"
    exact x_ixT hp5 (atI_nat (j := 1) rfl) k
  | chance ds =>
    obtain ⟨p5, _, rfl, hp5, _⟩ := rv
    refine x_ixT hp5 (atI_nat (j := 0) rfl) ?_
    walk_at "rd"
    walk_at "if!"
    walk_at "rd"
    exact k
def sp_Work_steps (T : Tx K mg) : Sp := fun vs H Q _ => ∃ (x : Addr) (hands : Int) (start s : Str) (tbl : List (Str × Stand)) (st : Stand), vs = [.ref x, .str s] ∧ WorkAt T H x hands start tbl ∧ lookA tbl s = some st ∧
  ∀ p H' ys, H p = none → SX [] H H' → H' p = some (.lst (ys.map V.str)) → ys.Perm (st.rows.map (·.1)) → sortedS ys = true → Q (.ref p) H'
theorem ok_Work_steps (T : Tx K mg) : FnOk P w K mg base CX0 2 T.Work_steps.f T.Work_steps.fd P_Work_steps (sp_Work_steps T) := by
  refine T.Work_steps.F.ok sc_Work_steps (fun vs H Q E h => ?_) (fun cdv A outer s H vs Q E hr h => ?_)
  · obtain ⟨x, hands, start, s, tbl, st, rfl, wa, hs, k⟩ := h
    rfl
  have hu := hu_of hr
  have nd := sc_Work_steps.nd
  obtain ⟨x, hands, start, s, tbl, st, rfl, wa, hs, k⟩ := h
  refine ⟨_, (pss_cons (ps_set (i := 2) nd rfl (Or.inl rfl) (pe_meth (pv 0) T.cl_Work T.me_Work_row (ok_Work_row (P := P) (w := w) T) (hr.mono (by decide)) T.Work_row.B .nil pass0 (pa_cons (pv 1) pa_nil)))
      (pss_cons (ps_if (pt_cmpR op_eq (pe_ix (w_ixT (K := K) rfl) (pv 2) pe_int (fun _ _ => rfl)) pe_str (nomark _)) (pss_one (ps_ret (pe_lst pa_nil))) pss_nil)
      (pss_one (ps_ret (pe_callB (cl_sortD rfl) (by rfl) T.b_sorted (by decide +kernel) (pa_cons (pe_ix (w_ixT (K := K) rfl) (pv 2) (pe_op op_sub (pe_callB (w_len (K := K) rfl) (by rfl) T.b_len (by decide +kernel) (pa_cons (pv 2) pa_nil)) pe_int) (fun _ _ => rfl)) pa_nil)))))), ?_⟩
  refine x_start (σ' := [some _, some _, none]) rfl ?_
  try simp only [cx_n, cx_K, cx_w, cx_P]
  obtain ⟨dx, d, nm, en, hx, _⟩ := id wa.ex
  walk_at "rd"
  refine x_meth ?_
  walk_at "rd"
  refine x_me hx (work_none (by decide +kernel)) ?_
  walk_at "rd"
  refine ⟨x, hands, start, s, tbl, st, rfl, wa, hs, fun v rv => ?_⟩
  walk_at "rd"
  cases st with
  | fin =>
    obtain ⟨p5, rfl, hp5⟩ := rv
    refine x_ixT hp5 (atI_nat (j := 0) rfl) ?_
    walk_at "rd"
    walk_at "if!"
    walk_at "rd"
    exact ⟨Nat.le_of_ble_eq_true rfl, fun q hq => k q _ [] hq (SX.new hq) upd_same (.refl _) rfl⟩
  | hand h ms =>
    obtain ⟨p5, _, rfl, hp5, d5, kv5, rfl, r5, k5⟩ := rv
    refine x_ixT hp5 (atI_nat (j := 0) rfl) ?_
    walk_at "rd"
    walk_at "if!"
    walk_at "rd"
    refine x_lenT' hp5 ?_
    walk_at "rd"
    refine x_ixT hp5 (v := .ref d5) (atI_nat (j := 2) rfl) ?_
    walk_at "rd"
    refine x_sortD r5 k5.keys fun ys py hp hsy np => ?_
    exact k py _ ys np (SX.new np) upd_same hp hsy
  | chance ds =>
    obtain ⟨p5, _, rfl, hp5, d5, kv5, rfl, r5, k5⟩ := rv
    refine x_ixT hp5 (atI_nat (j := 0) rfl) ?_
    walk_at "rd"
    walk_at "if!"
    walk_at "rd"
    refine x_lenT' hp5 ?_
    walk_at "rd"
    refine x_ixT hp5 (v := .ref d5) (atI_nat (j := 1) rfl) ?_
    walk_at "rd"
    refine x_sortD r5 k5.keys fun ys py hp hsy np => ?_
    exact k py _ ys np (SX.new np) upd_same (by show ys.Perm ((ds.map _).map _); rw [List.map_map]; exact hp) hsy
def sp_Work_to (T : Tx K mg) : Sp := fun vs H Q _ => ∃ (x : Addr) (hands : Int) (start s step to : Str) (tbl : List (Str × Stand)) (st : Stand), vs = [.ref x, .str s, .str step] ∧ WorkAt T H x hands start tbl ∧ lookA tbl s = some st ∧ lookA st.rows step = some to ∧ Q (.str to) H
theorem rows_chance {ds : List (Str × (Str × Int))} {step to : Str} (h : lookA (Stand.rows (.chance ds)) step = some to) : ∃ n, lookA ds step = some (to, n) := by
  change lookA (ds.map fun q => (q.1, q.2.1)) step = some to at h
  induction ds with
  | nil => cases h
  | cons q r ih =>
    rw [List.map_cons] at h
    unfold lookA at h ⊢
    by_cases e : q.1 = step
    · rw [if_pos e] at h ⊢
      cases h
      exact ⟨q.2.2, rfl⟩
    · rw [if_neg e] at h ⊢
      exact ih h
theorem ok_Work_to (T : Tx K mg) : FnOk P w K mg base CX0 2 T.Work_to.f T.Work_to.fd P_Work_to (sp_Work_to T) := by
  refine T.Work_to.F.ok sc_Work_to (fun vs H Q E h => ?_) (fun cdv A outer s H vs Q E hr h => ?_)
  · obtain ⟨x, hands, start, s, step, to, tbl, st, rfl, wa, hs, hst, k⟩ := h
    rfl
  have hu := hu_of hr
  have nd := sc_Work_to.nd
  obtain ⟨x, hands, start, s, step, to, tbl, st, rfl, wa, hs, hst, k⟩ := h
  refine ⟨_, (pss_cons (ps_set (i := 3) nd rfl (Or.inl rfl) (pe_meth (pv 0) T.cl_Work T.me_Work_row (ok_Work_row (P := P) (w := w) T) (hr.mono (by decide)) T.Work_row.B .nil pass0 (pa_cons (pv 1) pa_nil)))
      (pss_cons (ps_if (PW.pt (pw_or (pt_cmpR op_eq (pe_ix (w_ixT (K := K) rfl) (pv 3) pe_int (fun _ _ => rfl)) pe_str (nomark _)) (pw_or (pt_not (pt_val (pe_callB (w_isi (K := K) rfl) (by rfl) T.b_isinstance (by decide +kernel) (pa_cons (pv 2) (pa_cons (pe_bltn (v := .ty "str") (by rfl) T.b_str (by decide +kernel) rfl) pa_nil))))) (pw_or1 (pt_cmp (pc_dnotin hu (pv 2) (pe_ix (w_ixT (K := K) rfl) (pv 3) (pe_op op_sub (pe_callB (w_len (K := K) rfl) (by rfl) T.b_len (by decide +kernel) (pa_cons (pv 3) pa_nil)) pe_int) (fun _ _ => rfl)))))))) (pss_one ps_never) pss_nil)
      (pss_cons (ps_if (pt_cmpR op_eq (pe_ix (w_ixT (K := K) rfl) (pv 3) pe_int (fun _ _ => rfl)) pe_str (nomark _)) (pss_one (ps_ret (pe_dget hu (pe_ix (w_ixT (K := K) rfl) (pv 3) pe_int (fun _ _ => rfl)) (pv 2) (fun _ _ => rfl)))) pss_nil)
      (pss_one (ps_ret (pe_ix (w_ixT (K := K) rfl) (pe_dget hu (pe_ix (w_ixT (K := K) rfl) (pv 3) pe_int (fun _ _ => rfl)) (pv 2) (fun _ _ => rfl)) pe_int (fun _ _ => rfl))))))), ?_⟩
  refine x_start (σ' := [some _, some _, some _, none]) rfl ?_
  try simp only [cx_n, cx_K, cx_w, cx_P]
  obtain ⟨dx, d, nm, en, hx, _⟩ := id wa.ex
  walk_at "rd"
  refine x_meth ?_
  walk_at "rd"
  refine x_me hx (work_none (by decide +kernel)) ?_
  walk_at "rd"
  refine ⟨x, hands, start, s, tbl, st, rfl, wa, hs, fun v rv => ?_⟩
  walk_at "rd"
  cases st with
  | fin => cases hst
  | hand h ms =>
    obtain ⟨p5, _, rfl, hp5, d5, kv5, rfl, r5, k5⟩ := rv
    obtain ⟨v1, e1, rfl⟩ := k5.at_ hst
    refine x_ixT hp5 (atI_nat (j := 0) rfl) ?_
    walk_at "rd"
    walk_at "if!"
    walk_at "rd"
    refine x_isiT (.base (.str _)) (by decide +kernel) ?_
    walk_at "rd"
    refine x_lenT' hp5 ?_
    walk_at "rd"
    refine x_ixT hp5 (v := .ref d5) (atI_nat (j := 2) rfl) ?_
    refine x_dni' r5 ?_
    rw [e1]
    walk_at "rd"
    walk_at "if!"
    walk_at "rd"
    refine x_ixT hp5 (atI_nat (j := 0) rfl) ?_
    walk_at "rd"
    walk_at "if!"
    walk_at "rd"
    refine x_ixT hp5 (v := .ref d5) (atI_nat (j := 2) rfl) ?_
    walk_at "rd"
    exact x_dg' r5 e1 k
  | chance ds =>
    obtain ⟨p5, _, rfl, hp5, d5, kv5, rfl, r5, k5⟩ := rv
    obtain ⟨n, hn⟩ := rows_chance hst
    obtain ⟨v1, e1, q1, z1, z2, rfl, hq1, rfl, rfl⟩ := k5.at_ hn
    refine x_ixT hp5 (atI_nat (j := 0) rfl) ?_
    walk_at "rd"
    walk_at "if!"
    walk_at "rd"
    refine x_isiT (.base (.str _)) (by decide +kernel) ?_
    walk_at "rd"
    refine x_lenT' hp5 ?_
    walk_at "rd"
    refine x_ixT hp5 (v := .ref d5) (atI_nat (j := 1) rfl) ?_
    refine x_dni' r5 ?_
    rw [e1]
    walk_at "rd"
    walk_at "if!"
    walk_at "rd"
    refine x_ixT hp5 (atI_nat (j := 0) rfl) ?_
    walk_at "rd"
    walk_at "if!"
    walk_at "rd"
    refine x_ixT hp5 (v := .ref d5) (atI_nat (j := 1) rfl) ?_
    walk_at "rd"
    refine x_dg' r5 e1 ?_
    walk_at "rd"
    exact x_ixT hq1 (atI_nat (j := 0) rfl) k
end
end M

namespace M
open PySem PySem.Spec PyProof.Rows L2
theorem endsOf_eq {sts : List (Str × Stand)} (hn : (sts.map (·.1)).Nodup) : endsOf sts = (sts.map (·.1)).filter fun n => match lookA sts n with | some st => isEnd st | none => false := by
  have key : ∀ l : List (Str × Stand), (∀ q ∈ l, lookA sts q.1 = some q.2) → endsOf l = (l.map (·.1)).filter fun n => match lookA sts n with | some st => isEnd st | none => false := by
    intro l
    induction l with
    | nil => intro _; rfl
    | cons q r ih =>
      intro h
      have e := ih fun z hz => h z (List.mem_cons_of_mem _ hz)
      have hq := h q List.mem_cons_self
      have : endsOf (q :: r) = (if isEnd q.2 = true then [q.1] else []) ++ endsOf r := by
        have h2 := endsOf_snoc (l := []) (q := q)
        unfold endsOf isEnd
        rw [List.filter_cons]
        cases q.2 <;> rfl
      rw [this, e, List.map_cons, List.filter_cons, hq]
      by_cases c : isEnd q.2 = true <;> simp [c]
  exact key sts fun q hq => lookA_nodup hn hq
section
variable {P : Program} {w : World} {K : PySem.W.Frag} {mg : Str → Option Value} {base : Heap}
def sp_law_steps (T : Tx K mg) : Sp := fun vs H Q _ => ∃ (d : Addr) (s : Str) (sts : List (Str × Stand)) (st : Stand), vs = [.ref d, .str s] ∧ rD (rStand K) H (.ref d) sts ∧ lookA sts s = some st ∧
  ∀ p H' ys, H p = none → SX [] H H' → H' p = some (.lst (ys.map V.str)) → ys.Perm (st.rows.map (·.1)) → sortedS ys = true → Q (.ref p) H'
theorem ok_law_steps (T : Tx K mg) : FnOk P w K mg base CX0 1 T.law_steps.f T.law_steps.fd P_law_steps (sp_law_steps T) := by
  refine T.law_steps.F.ok sc_law_steps (fun vs H Q E h => ?_) (fun cdv A outer s H vs Q E hr h => ?_)
  · obtain ⟨d, s, sts, st, rfl, ⟨d', kvs, ed, hrd, hk⟩, hs, k⟩ := h
    rfl
  have hu := hu_of hr
  have nd := sc_law_steps.nd
  obtain ⟨d, s, sts, st, rfl, ⟨d', kvs, ed, hrd, hk⟩, hs, k⟩ := h
  refine ⟨_, (pss_cons (ps_set (i := 2) nd rfl (Or.inl rfl) (pe_dget hu (pv 0) (pv 1) (fun _ _ => rfl)))
      (pss_cons (ps_if (pt_cmpR op_eq (pe_ix (w_ixT (K := K) rfl) (pv 2) pe_int (fun _ _ => rfl)) pe_str (nomark _)) (pss_one (ps_ret (pe_lst pa_nil))) pss_nil)
      (pss_one (ps_ret (pe_callB (cl_sortD rfl) (by rfl) T.b_sorted (by decide +kernel) (pa_cons (pe_ix (w_ixT (K := K) rfl) (pv 2) (pe_op op_sub (pe_callB (w_len (K := K) rfl) (by rfl) T.b_len (by decide +kernel) (pa_cons (pv 2) pa_nil)) pe_int) (fun _ _ => rfl)) pa_nil)))))), ?_⟩
  refine x_start (σ' := [some _, some _, none]) rfl ?_
  try simp only [cx_n, cx_K, cx_w, cx_P]
  cases ed
  obtain ⟨v, ev, rv⟩ := hk.at_ hs
  walk_at "rd"
  refine x_dg' hrd ev ?_
  walk_at "rd"
  cases st with
  | fin =>
    obtain ⟨p5, rfl, hp5⟩ := rv
    refine x_ixT hp5 (atI_nat (j := 0) rfl) ?_
    walk_at "rd"
    walk_at "if!"
    walk_at "rd"
    exact ⟨Nat.le_of_ble_eq_true rfl, fun q hq => k q _ [] hq (SX.new hq) upd_same (.refl _) rfl⟩
  | hand h ms =>
    obtain ⟨p5, _, rfl, hp5, d5, kv5, rfl, r5, k5⟩ := rv
    refine x_ixT hp5 (atI_nat (j := 0) rfl) ?_
    walk_at "rd"
    walk_at "if!"
    walk_at "rd"
    refine x_lenT' hp5 ?_
    walk_at "rd"
    refine x_ixT hp5 (v := .ref d5) (atI_nat (j := 2) rfl) ?_
    walk_at "rd"
    refine x_sortD r5 k5.keys fun ys py hp hsy np => ?_
    exact k py _ ys np (SX.new np) upd_same hp hsy
  | chance ds =>
    obtain ⟨p5, _, rfl, hp5, d5, kv5, rfl, r5, k5⟩ := rv
    refine x_ixT hp5 (atI_nat (j := 0) rfl) ?_
    walk_at "rd"
    walk_at "if!"
    walk_at "rd"
    refine x_lenT' hp5 ?_
    walk_at "rd"
    refine x_ixT hp5 (v := .ref d5) (atI_nat (j := 1) rfl) ?_
    walk_at "rd"
    refine x_sortD r5 k5.keys fun ys py hp hsy np => ?_
    exact k py _ ys np (SX.new np) upd_same (by show ys.Perm ((ds.map _).map _); rw [List.map_map]; exact hp) hsy
def sp_law_to (T : Tx K mg) : Sp := fun vs H Q _ => ∃ (d : Addr) (s step to : Str) (sts : List (Str × Stand)) (st : Stand), vs = [.ref d, .str s, .str step] ∧ rD (rStand K) H (.ref d) sts ∧ lookA sts s = some st ∧ lookA st.rows step = some to ∧ Q (.str to) H
theorem ok_law_to (T : Tx K mg) : FnOk P w K mg base CX0 1 T.law_to.f T.law_to.fd P_law_to (sp_law_to T) := by
  refine T.law_to.F.ok sc_law_to (fun vs H Q E h => ?_) (fun cdv A outer s H vs Q E hr h => ?_)
  · obtain ⟨d, s, step, to, sts, st, rfl, ⟨d', kvs, ed, hrd, hk⟩, hs, hst, k⟩ := h
    rfl
  have hu := hu_of hr
  have nd := sc_law_to.nd
  obtain ⟨d, s, step, to, sts, st, rfl, ⟨d', kvs, ed, hrd, hk⟩, hs, hst, k⟩ := h
  refine ⟨_, (pss_cons (ps_set (i := 3) nd rfl (Or.inl rfl) (pe_dget hu (pv 0) (pv 1) (fun _ _ => rfl)))
      (pss_cons (ps_if (pt_cmpR op_eq (pe_ix (w_ixT (K := K) rfl) (pv 3) pe_int (fun _ _ => rfl)) pe_str (nomark _)) (pss_one (ps_ret (pe_dget hu (pe_ix (w_ixT (K := K) rfl) (pv 3) pe_int (fun _ _ => rfl)) (pv 2) (fun _ _ => rfl)))) pss_nil)
      (pss_one (ps_ret (pe_ix (w_ixT (K := K) rfl) (pe_dget hu (pe_ix (w_ixT (K := K) rfl) (pv 3) pe_int (fun _ _ => rfl)) (pv 2) (fun _ _ => rfl)) pe_int (fun _ _ => rfl)))))), ?_⟩
  refine x_start (σ' := [some _, some _, some _, none]) rfl ?_
  try simp only [cx_n, cx_K, cx_w, cx_P]
  cases ed
  obtain ⟨v, ev, rv⟩ := hk.at_ hs
  walk_at "rd"
  refine x_dg' hrd ev ?_
  walk_at "rd"
  cases st with
  | fin => cases hst
  | hand h ms =>
    obtain ⟨p5, _, rfl, hp5, d5, kv5, rfl, r5, k5⟩ := rv
    obtain ⟨v1, e1, rfl⟩ := k5.at_ hst
    refine x_ixT hp5 (atI_nat (j := 0) rfl) ?_
    walk_at "rd"
    walk_at "if!"
    walk_at "rd"
    refine x_ixT hp5 (v := .ref d5) (atI_nat (j := 2) rfl) ?_
    walk_at "rd"
    exact x_dg' r5 e1 k
  | chance ds =>
    obtain ⟨p5, _, rfl, hp5, d5, kv5, rfl, r5, k5⟩ := rv
    obtain ⟨n, hn⟩ := rows_chance hst
    obtain ⟨v1, e1, q1, z1, z2, rfl, hq1, rfl, rfl⟩ := k5.at_ hn
    refine x_ixT hp5 (atI_nat (j := 0) rfl) ?_
    walk_at "rd"
    walk_at "if!"
    walk_at "rd"
    refine x_ixT hp5 (v := .ref d5) (atI_nat (j := 1) rfl) ?_
    walk_at "rd"
    refine x_dg' r5 e1 ?_
    walk_at "rd"
    exact x_ixT hq1 (atI_nat (j := 0) rfl) k
def sp_law_mover (T : Tx K mg) : Sp := fun vs H Q _ => ∃ (d : Addr) (s : Str) (sts : List (Str × Stand)) (st : Stand), vs = [.ref d, .str s] ∧ rD (rStand K) H (.ref d) sts ∧ lookA sts s = some st ∧ Q (moverV st) H
theorem ok_law_mover (T : Tx K mg) : FnOk P w K mg base CX0 1 T.law_mover.f T.law_mover.fd P_law_mover (sp_law_mover T) := by
  refine T.law_mover.F.ok sc_law_mover (fun vs H Q E h => ?_) (fun cdv A outer s H vs Q E hr h => ?_)
  · obtain ⟨d, s, sts, st, rfl, ⟨d', kvs, ed, hrd, hk⟩, hs, k⟩ := h
    rfl
  have hu := hu_of hr
  have nd := sc_law_mover.nd
  obtain ⟨d, s, sts, st, rfl, ⟨d', kvs, ed, hrd, hk⟩, hs, k⟩ := h
  refine ⟨_, (pss_cons (ps_if (pt_cmpR op_eq (pe_ix (w_ixT (K := K) rfl) (pe_dget hu (pv 0) (pv 1) (fun _ _ => rfl)) pe_int (fun _ _ => rfl)) pe_str (nomark _)) (pss_one (ps_ret (pe_ix (w_ixT (K := K) rfl) (pe_dget hu (pv 0) (pv 1) (fun _ _ => rfl)) pe_int (fun _ _ => rfl)))) pss_nil)
      (pss_one (ps_ret pe_non))), ?_⟩
  refine x_start (σ' := [some _, some _]) rfl ?_
  try simp only [cx_n, cx_K, cx_w, cx_P]
  cases ed
  obtain ⟨v, ev, rv⟩ := hk.at_ hs
  walk_at "rd"
  refine x_dg' hrd ev ?_
  walk_at "rd"
  cases st with
  | fin =>
    obtain ⟨p5, rfl, hp5⟩ := rv
    refine x_ixT hp5 (atI_nat (j := 0) rfl) ?_
    walk_at "rd"
    walk_at "if!"
    walk_at "rd"
    exact k
  | hand h ms =>
    obtain ⟨p5, _, rfl, hp5, _⟩ := rv
    refine x_ixT hp5 (atI_nat (j := 0) rfl) ?_
    walk_at "rd"
    walk_at "if!"
    walk_at "rd"
    refine x_dg' hrd ev ?_
    walk_at "rd"
    exact x_ixT hp5 (atI_nat (j := 1) rfl) k
  | chance ds =>
    obtain ⟨p5, _, rfl, hp5, _⟩ := rv
    refine x_ixT hp5 (atI_nat (j := 0) rfl) ?_
    walk_at "rd"
    walk_at "if!"
    walk_at "rd"
    exact k
def sp_law_worths (T : Tx K mg) : Sp := fun vs H Q _ => ∃ (p d : Addr) (sts : List (Str × Stand)), vs = [.ref p, .ref d] ∧ Drw H p ∧ rD (rStand K) (hid [p] H) (.ref d) sts ∧ (sts.map (·.1)).Nodup ∧ sts.length ≤ 5000 ∧
  ∀ wd H' l, H wd = none → SX [p] H H' → Drw H' p → (∃ kv, H' wd = some (.dK kv) ∧ KVs rI H' kv l) → rD rI (hid [p] H') (.ref wd) l → (l.map (·.1)).Perm (endsOf sts) → (l.map (·.1)).Nodup → (∀ q ∈ l, -96 ≤ q.2 ∧ q.2 ≤ 96) → Q (.ref wd) H'
theorem ok_law_worths (T : Tx K mg) : FnOk P w K mg base CX0 2 T.law_worths.f T.law_worths.fd P_law_worths (sp_law_worths T) := by
  refine T.law_worths.F.ok sc_law_worths (fun vs H Q E h => ?_) (fun cdv A outer s H vs Q E hr h => ?_)
  · obtain ⟨p, d, sts, rfl, hp, hd, hnd, hlen, k⟩ := h
    rfl
  have hu := hu_of hr
  have nd := sc_law_worths.nd
  obtain ⟨p, d, sts, rfl, hp, hd, hnd, hlen, k⟩ := h
  refine ⟨_, (pss_cons (ps_set (i := 2) nd rfl (Or.inl rfl) (pe_ix (w_ixL (K := K) rfl) (pe_lst (pa_cons pe_int (pa_cons pe_int (pa_cons pe_int (pa_cons pe_int pa_nil))))) (pe_call (ok_law_draw (P := P) (w := w) T) (hr.mono (by decide)) (by rfl) T.law_draw.g T.law_draw.F.kp T.law_draw.B .nil pass0 (pa_cons (pv 0) (pa_cons pe_int pa_nil))) (fun _ _ => rfl)))
      (pss_cons (ps_set (i := 3) nd rfl (Or.inl rfl) pe_dnewK)
      (pss_cons (ps_for PassesOwn.never rfl (w_pilist (K := K) rfl (pe_callB (cl_sortD rfl) (by rfl) T.b_sorted (by decide +kernel) (pa_cons (pv 1) pa_nil))) (pg_name (i := 4) nd rfl (Or.inl rfl)) (pss_one (ps_if (pt_cmpR op_eq (pe_ix (w_ixT (K := K) rfl) (pe_dget hu (pv 1) (pv 4) (fun _ _ => rfl)) pe_int (fun _ _ => rfl)) pe_str (nomark _)) (pss_one (ps_dput hu (pv 3) (pv 4) (pe_op op_sub (pe_call (ok_law_draw (P := P) (w := w) T) (hr.mono (by decide)) (by rfl) T.law_draw.g T.law_draw.F.kp T.law_draw.B .nil pass0 (pa_cons (pv 0) (pa_cons (pe_op op_add (pe_op op_mul pe_int (pv 2)) pe_int) pa_nil))) (pv 2)) rfl)) pss_nil)))
      (pss_one (ps_ret (pv 3)))))), ?_⟩
  refine x_start (σ' := [some _, some _, none, none, none]) rfl ?_
  try simp only [cx_n, cx_K, cx_w, cx_P]
  obtain ⟨d', kvs, ed, hr, hk⟩ := id hd
  cases ed
  walk_at "rd"
  refine ⟨Nat.le_of_ble_eq_true rfl, fun l0 hl0 => ?_⟩
  walk_at "rd"
  refine ⟨p, 4, rfl, hp.sx (SX.new (S := []) hl0) List.not_mem_nil, by decide, by decide, fun r H1 r0 r1 s1 p1 => ?_⟩
  have npl : l0 ≠ p := fun e => hp.there (e ▸ hl0)
  obtain ⟨m, em, hm⟩ := at_ints (ns := [9, 3, 1, 96]) r0 r1
  have hm2 : 1 ≤ m ∧ m ≤ 96 := by simp at hm; omega
  refine x_ixL (sqL (s1 _ _ (by simpa using npl) upd_same)) em ?_
  have sH1 : SX [p] H H1 := (SX.new hl0).trans s1
  walk_at "rd"
  intro wd hwd
  walk_at "rd"
  have nwp : wd ≠ p := fun e => p1.there (e ▸ hwd)
  have hwd0 : H wd = none := sH1.free hwd (by simpa using nwp)
  have sH2 : SX [p] H (upd H1 wd (.dK [])) := sH1.trans (SX.new hwd)
  have p2 : Drw (upd H1 wd (.dK [])) p := p1.sx (SX.new (S := []) hwd) List.not_mem_nil
  have w2 : (upd H1 wd (.dK [])) wd = some (.dK []) := upd_same
  generalize upd H1 wd (.dK []) = H2 at sH2 p2 w2
  refine x_sortD (sH2.leH.rd _ _ trivial hr) hk.keys fun ys py hpy hsy np => ?_
  refine x_itl (sqL upd_same) ?_
  have nyp : py ≠ p := fun e => p2.there (e ▸ np)
  have nyw : wd ≠ py := ne_of_none w2 np
  have sH3 : SX [p] H (upd H2 py (.lst (ys.map V.str))) := sH2.trans (SX.new np)
  have p3 : Drw (upd H2 py (.lst (ys.map V.str))) p := p2.sx (SX.new (S := []) np) List.not_mem_nil
  have w3 : (upd H2 py (.lst (ys.map V.str))) wd = some (.dK []) := by rw [upd_ne nyw]; exact w2
  have y3 : (upd H2 py (.lst (ys.map V.str))) py = some (.lst (ys.map V.str)) := upd_same
  generalize upd H2 py (.lst (ys.map V.str)) = H3 at sH3 p3 w3 y3
  have ysl : ys.length = sts.length := by rw [hpy.length_eq, List.length_map]
  refine for_it (walk_listR (R := rS) (Hb := H) (paired_S' ys)) (fun i σ A => SX [p] H A ∧ Drw A p ∧ A py = some (.lst (ys.map V.str)) ∧ ∃ (kv : List (Key × V)) (l : List (Str × Int)) (a : Option V), A wd = some (.dK kv) ∧ KVs rI A kv l ∧
      l.map (·.1) = (ys.take i).filter (fun n => match lookA sts n with | some st => isEnd st | none => false) ∧ (∀ q ∈ l, -96 ≤ q.2 ∧ q.2 ≤ 96) ∧ σ = [some (.ref p), some (.ref d), some (.int m), some (.ref wd), a])
    ⟨sH3, p3, y3, [], [], none, w3, .nil, rfl, (fun _ h => nomatch h), rfl⟩ (fun _ _ _ _ h => sqL h.2.2.1) ?_ ?_
  · rintro i x σ A0 A hi ⟨sA, pA, yA, kv, l, a, wA, kA, lA, bA, rfl⟩ ⟨rfl, s, hs, rfl⟩
    have sm : s ∈ sts.map (·.1) := hpy.mem_iff.mp (getMem hs)
    obtain ⟨st, est⟩ := lookA_some sm
    obtain ⟨v, ev, rv⟩ := hk.at_ est
    obtain ⟨tp, xs, rfl, htp, h0⟩ := rStand.kind rv
    walk_at "rd"
    refine x_dg' (sA.leH.rd _ _ trivial hr) ev ?_
    walk_at "rd"
    refine x_ixT (sA.leH.t htp) h0 ?_
    walk_at "rd"
    rw [kind_end]
    have stp : (ys.take (i + 1)).filter (fun n => match lookA sts n with | some st => isEnd st | none => false) = (ys.take i).filter (fun n => match lookA sts n with | some st => isEnd st | none => false) ++ (if isEnd st = true then [s] else []) := by
      rw [take_succ_of hs, List.filter_append, List.filter_cons, est]
      by_cases c : isEnd st = true <;> simp [c]
    have kl : kv.length = l.length := Paired.length kA
    have ll : l.length ≤ 5000 := by
      have h1 := congrArg List.length lA
      rw [List.length_map] at h1
      have h2 := List.length_filter_le (fun n => match lookA sts n with | some st => isEnd st | none => false) (ys.take i)
      rw [List.length_take] at h2
      omega
    refine x_cases (fun c => ?_) (fun c => ?_)
    · walk_at "rd"
      refine x_I (.inl ⟨by decide, by decide⟩) ?_
      walk_at "rd"
      refine ⟨p, 2 * m + 1, rfl, pA, by omega, by omega, fun r B r0 r1 t1 q1 => ?_⟩
      walk_at "rd"
      have wB := t1 _ _ (by simpa using nwp) wA
      refine ⟨wd, _, rfl, DPut.k (k := Sum.inr s) wB (lt_size (by omega)), ?_⟩
      have fr : s ∉ l.map (·.1) := by
        rw [lA]
        exact fun h => nodup_take (hpy.nodup_iff.mpr hnd) hs (List.mem_filter.mp h).1
      refine ⟨?_, q1.sx (SX.mut (S := [wd]) List.mem_cons_self) (by simpa using Ne.symm nwp), ?_, _, l ++ [(s, r - m)], _, upd_same, ?_, ?_, ?_, rfl⟩
      · intro b o nb hb
        have hbw : b ≠ wd := fun e => by rw [e, hwd0] at hb; cases hb
        rw [upd_ne hbw]
        exact (sA.trans t1) b o nb hb
      · rw [upd_ne (Ne.symm nyw)]
        exact t1 _ _ (by simpa using nyp) yA
      · rw [putK_fresh (l := l.map (·.1)) _ kA.keys fr]
        exact Paired.app kA (.cons ⟨rfl, rfl⟩ .nil)
      · rw [stp, if_pos c, List.map_append, lA]
        rfl
      · intro z hz
        rcases List.mem_append.mp hz with hz | hz
        · exact bA z hz
        · cases List.mem_singleton.mp hz
          exact ⟨by show -96 ≤ r - m; omega, by show r - m ≤ 96; omega⟩
    · walk_at "rd"
      exact ⟨sA, pA, yA, kv, l, _, wA, kA, by rw [stp, c]; simpa using lA, bA, rfl⟩
  · rintro σ A ⟨sA, pA, yA, kv, l, a, wA, kA, lA, bA, rfl⟩
    rw [List.take_length] at lA
    walk_at "rd"
    refine k wd A l hwd0 sA pA ⟨kv, wA, kA⟩ ⟨wd, kv, rfl, .inl ?_, KVs.le mono_I (Le.refl _) kA⟩ ?_ ?_ bA
    · rw [hid_of (by simpa using nwp)]
      exact wA
    · rw [lA, endsOf_eq hnd]
      exact hpy.filter _
    · rw [lA]
      exact List.Nodup.sublist List.filter_sublist (hpy.nodup_iff.mpr hnd)
end
end M

namespace M
open PySem PySem.Spec PyProof.Rows L2
section
variable {P : Program} {w : World} {K : PySem.W.Frag} {mg : Str → Option Value} {base : Heap}
def sp_law_endless (T : Tx K mg) : Sp := fun vs H Q _ => ∃ (p d : Addr) (l : List (Str × Int)), vs = [.ref p, .ref d] ∧ Drw H p ∧ d ≠ p ∧ rD rI H (.ref d) l ∧ (l.map (·.1)).Nodup ∧ 1 ≤ l.length ∧ l.length ≤ 5000 ∧ (∀ q ∈ l, -96 ≤ q.2 ∧ q.2 ≤ 96) ∧
  ∀ e H', SX [p] H H' → Drw H' p → -98 ≤ e → e ≤ 98 → ((∀ q ∈ l, e ≤ q.2) ∨ (∀ q ∈ l, q.2 ≤ e)) → Q (.int e) H'
theorem ok_law_endless (T : Tx K mg) : FnOk P w K mg base CX0 2 T.law_endless.f T.law_endless.fd P_law_endless (sp_law_endless T) := by
  refine T.law_endless.F.ok sc_law_endless (fun vs H Q E h => ?_) (fun cdv A outer s H vs Q E hr h => ?_)
  · obtain ⟨p, d, l, rfl, hp, ndp, ⟨d', kvs, ed, hrd, hk⟩, hnd, hl1, hlen, hb, k⟩ := h
    rfl
  have hu := hu_of hr
  have nd := sc_law_endless.nd
  obtain ⟨p, d, l, rfl, hp, ndp, ⟨d', kvs, ed, hrd, hk⟩, hnd, hl1, hlen, hb, k⟩ := h
  refine ⟨_, (pss_cons (ps_setLc (i := 2) (own := [("stand", 3)]) rfl nd rfl rfl (sw_true rfl rfl rfl (by decide +kernel)) (w_pilist (K := K) rfl (pe_callB (cl_sortD rfl) (by rfl) T.b_sorted (by decide +kernel) (pa_cons (pv 1) pa_nil))) (blkOk_by (own := [("stand", 3)]) (N := N_law_endless) (sc := defScope s_law_endless) (by decide +kernel)) (fun _ _ _ _ _ => (pg_name (i := 3) nd rfl (Or.inl rfl))) (fun _ _ _ _ _ => pts_nil) (fun _ _ _ _ _ => (pe_dget hu (pv 1) (pv 3) (fun _ _ => rfl))))
      (pss_cons (ps_set (i := 4) nd rfl (Or.inl rfl) (pe_call (ok_law_draw (P := P) (w := w) T) (hr.mono (by decide)) (by rfl) T.law_draw.g T.law_draw.F.kp T.law_draw.B .nil pass0 (pa_cons (pv 0) (pa_cons pe_int pa_nil))))
      (pss_cons (ps_if (pt_cmpR op_eq (pe_call (ok_law_draw (P := P) (w := w) T) (hr.mono (by decide)) (by rfl) T.law_draw.g T.law_draw.F.kp T.law_draw.B .nil pass0 (pa_cons (pv 0) (pa_cons pe_int pa_nil))) pe_int (nomark _)) (pss_one (ps_ret (pe_op op_sub (pe_callB (w_min (K := K) rfl rfl) (by rfl) T.b_min (by decide +kernel) (pa_cons (pv 2) pa_nil)) (pv 4)))) pss_nil)
      (pss_one (ps_ret (pe_op op_add (pe_callB (w_max (K := K) rfl rfl) (by rfl) T.b_max (by decide +kernel) (pa_cons (pv 2) pa_nil)) (pv 4))))))), ?_⟩
  refine x_start (σ' := [some _, some _, none, none, none]) rfl ?_
  try simp only [cx_n, cx_K, cx_w, cx_P]
  cases ed
  walk_at "rd"
  refine x_sortD hrd hk.keys fun ys py hpy hsy np => ?_
  have ysl : ys.length = l.length := by rw [hpy.length_eq, List.length_map]
  refine x_itl (sqL upd_same) fun D hD => ?_
  have hDp : py ≠ D := ne_of_none upd_same hD
  have hD0 : H D = none := by rw [upd_ne (Ne.symm hDp)] at hD; exact hD
  refine lc_it (walk_listR (R := rS) (Hb := H) (paired_S' ys)) (fun n A => SX [] H A ∧ A py = some (.lst (ys.map V.str)) ∧ A D = some (.lst ((ys.take n).map fun s => V.int ((lookA l s).getD 0))))
    ⟨(SX.new np).trans (SX.new hD), by rw [upd_ne hDp]; exact upd_same, upd_same⟩ (fun n A _ h => sqL h.2.1) ?_ ?_
  · rintro n y A0 A hn ⟨sA, yA, dA⟩ ⟨rfl, s, hs, rfl⟩
    obtain ⟨a, ea⟩ := lookA_some (hpy.mem_iff.mp (getMem hs))
    obtain ⟨v, ev, rfl⟩ := hk.at_ ea
    walk_at "rd"
    refine ⟨rfl, ?_⟩
    walk_at "rd"
    refine x_dg' (sA.rd hrd) ev ?_
    refine ⟨_, dA, lt_size (by rw [List.length_map, List.length_take]; omega), sx_nil_of (S := [D]) ((nil_sx sA).trans (SX.mut List.mem_cons_self)) (by simp [hD0]), by rw [upd_ne hDp]; exact yA, ?_⟩
    rw [upd_same, take_succ_of hs, List.map_append]
    show some (HO.lst (_ ++ [V.int a])) = some (HO.lst (_ ++ [V.int ((lookA l s).getD 0)]))
    rw [ea]
    rfl
  rintro A ⟨sA, yA, dA⟩
  rw [List.take_length] at dA
  have npD : p ≠ D := fun e => hp.there (e ▸ hD0)
  -- the worths, in the order of their names
  have vals : ∀ q ∈ l, q.2 ∈ ys.map fun s => (lookA l s).getD 0 := fun q hq => List.mem_map.mpr ⟨q.1, hpy.mem_iff.mpr (List.mem_map.mpr ⟨q, hq, rfl⟩), by rw [lookA_nodup hnd hq]; rfl⟩
  have bnd : ∀ v ∈ ys.map (fun s => (lookA l s).getD 0), -96 ≤ v ∧ v ≤ 96 := fun v hv => by
    obtain ⟨s, hs, rfl⟩ := List.mem_map.mp hv
    obtain ⟨a, ea⟩ := lookA_some (hpy.mem_iff.mp hs)
    rw [ea]
    exact hb _ (lookA_mem ea)
  have dA : A D = some (.lst ((ys.map fun s => (lookA l s).getD 0).map V.int)) := by rw [dA, List.map_map]; rfl
  have vl : 0 < (ys.map fun s => (lookA l s).getD 0).length := by rw [List.length_map]; omega
  generalize (ys.map fun s => (lookA l s).getD 0) = zs at dA vals bnd vl
  have pA : Drw A p := hp.sx sA List.not_mem_nil
  walk_at "rd"
  refine ⟨p, 3, rfl, pA, by decide, by decide, fun gap B g0 g1 t1 q1 => ?_⟩
  walk_at "rd"
  refine ⟨p, 2, rfl, q1, by decide, by decide, fun side B2 b0 b1 t2 q2 => ?_⟩
  have dB2 := t2 _ _ (by simpa using Ne.symm npD) (t1 _ _ (by simpa using Ne.symm npD) dA)
  have sx2 : SX [p] H B2 := ((nil_sx sA).trans t1).trans t2
  walk_at "rd"
  refine x_cases (fun c => ?_) (fun c => ?_)
  · walk_at "rd"
    refine ⟨D, zs, rfl, sqL dB2, vl, fun m mm ml => ?_⟩
    walk_at "rd"
    have hm := bnd m mm
    exact k _ _ sx2 q2 (by omega) (by omega) (.inl fun q hq => by have := ml q.2 (vals q hq); omega)
  · walk_at "rd"
    refine ⟨D, zs, rfl, sqL dB2, vl, fun m mm ml => ?_⟩
    walk_at "rd"
    have hm := bnd m mm
    exact k _ _ sx2 q2 (by omega) (by omega) (.inr fun q hq => by have := ml q.2 (vals q hq); omega)
/-- a fraction in lowest terms -/
def FracOk (a b : Int) : Prop := 1 ≤ b ∧ Int.gcd a b = 1
theorem gcd_one {a b x y : Int} (h : x * a + y * b = 1) : Int.gcd a b = 1 := by
  have h1 : (Int.gcd a b : Int) ∣ a := Int.gcd_dvd_left ..
  have h2 : (Int.gcd a b : Int) ∣ b := Int.gcd_dvd_right ..
  have h3 : (Int.gcd a b : Int) ∣ 1 := by
    rw [← h]
    exact Int.dvd_add (Int.dvd_trans h1 (Int.dvd_mul_left ..)) (Int.dvd_trans h2 (Int.dvd_mul_left ..))
  have := Int.le_of_dvd (by decide) h3
  have h4 : Int.gcd a b ≠ 0 := fun z => by
    rw [z] at h3
    exact absurd h3 (by decide)
  omega
theorem frac2 (v : Int) : FracOk (2 * v + 1) 2 := ⟨by decide, gcd_one (x := 1) (y := -v) (by omega)⟩
theorem frac3 (v : Int) : FracOk (3 * v - 1) 3 := ⟨by decide, gcd_one (x := -1) (y := v) (by omega)⟩
theorem frac1 (v : Int) : FracOk v 1 := ⟨by decide, gcd_one (x := 0) (y := 1) (by omega)⟩
theorem fracN {N e : Int} (v : Int) (hN : 1 ≤ N) (he : e = 1 ∨ e = -1) : FracOk (v * N + e) N := ⟨hN, by
  rcases he with rfl | rfl
  · exact gcd_one (x := 1) (y := -v) (by rw [Int.neg_mul]; omega)
  · exact gcd_one (x := -1) (y := v) (by omega)⟩
def sp_law_level (T : Tx K mg) : Sp := fun vs H Q _ => ∃ (p d : Addr) (l : List (Str × Int)) (e : Int), vs = [.ref p, .ref d, .int e] ∧ Drw H p ∧ d ≠ p ∧ rD rI H (.ref d) l ∧ (l.map (·.1)).Nodup ∧ l.length ≤ 5000 ∧ (∀ q ∈ l, -99 ≤ q.2 ∧ q.2 ≤ 99) ∧ -99 ≤ e ∧ e ≤ 99 ∧
  ∀ t H' a b, H t = none → SX [p] H H' → Drw H' p → H' t = some (.tup [.int a, .int b]) → FracOk a b → -(10 ^ 30) ≤ a → a ≤ 10 ^ 30 → b ≤ 10 ^ 30 → Q (.ref t) H'
theorem ok_law_level (T : Tx K mg) : FnOk P w K mg base CX0 2 T.law_level.f T.law_level.fd P_law_level (sp_law_level T) := by
  refine T.law_level.F.ok sc_law_level (fun vs H Q E h => ?_) (fun cdv A outer s H vs Q E hr h => ?_)
  · obtain ⟨p, d, l, e, rfl, hp, ndp, ⟨d', kvs, ed, hrd, hk⟩, hnd, hlen, hb, he0, he1, k⟩ := h
    rfl
  have hu := hu_of hr
  have nd := sc_law_level.nd
  obtain ⟨p, d, l, e, rfl, hp, ndp, ⟨d', kvs, ed, hrd, hk⟩, hnd, hlen, hb, he0, he1, k⟩ := h
  refine ⟨_, (pss_cons (ps_set (i := 3) nd rfl (Or.inl rfl) (pe_op op_cat (pe_lst (pa_cons (pv 2) pa_nil)) (pe_lc (own := [("stand", 4)]) rfl nd (w_pilist (K := K) rfl (pe_callB (cl_sortD rfl) (by rfl) T.b_sorted (by decide +kernel) (pa_cons (pv 1) pa_nil))) (blkOk_by (own := [("stand", 4)]) (N := N_law_level) (sc := defScope s_law_level) (by decide +kernel)) (fun _ _ _ _ _ => (pg_name (i := 4) nd rfl (Or.inl rfl))) (fun _ _ _ _ _ => pts_nil) (fun _ _ _ _ _ => (pe_dget hu (pv 1) (pv 4) (fun _ _ => rfl))))))
      (pss_cons (ps_set (i := 5) nd rfl (Or.inl rfl) (pe_ix (w_ixL (K := K) rfl) (pv 3) (pe_call (ok_law_draw (P := P) (w := w) T) (hr.mono (by decide)) (by rfl) T.law_draw.g T.law_draw.F.kp T.law_draw.B .nil pass0 (pa_cons (pv 0) (pa_cons (pe_callB (w_len (K := K) rfl) (by rfl) T.b_len (by decide +kernel) (pa_cons (pv 3) pa_nil)) pa_nil))) (fun _ _ => rfl)))
      (pss_cons (ps_set (i := 6) nd rfl (Or.inl rfl) (pe_call (ok_law_draw (P := P) (w := w) T) (hr.mono (by decide)) (by rfl) T.law_draw.g T.law_draw.F.kp T.law_draw.B .nil pass0 (pa_cons (pv 0) (pa_cons pe_int pa_nil))))
      (pss_cons (ps_if (pt_cmpR op_eq (pv 6) pe_int (nomark _)) (pss_one (ps_ret (pe_tup (pa_cons (pe_op op_add (pe_op op_mul pe_int (pv 5)) pe_int) (pa_cons pe_int pa_nil))))) pss_nil)
      (pss_cons (ps_if (pt_cmpR op_eq (pv 6) pe_int (nomark _)) (pss_one (ps_ret (pe_tup (pa_cons (pe_op op_sub (pe_op op_mul pe_int (pv 5)) pe_int) (pa_cons pe_int pa_nil))))) pss_nil)
      (pss_cons (ps_if (pt_cmpR op_gt (pv 6) pe_int (nomark _)) (pss_one (ps_ret (pe_tup (pa_cons (pe_op op_sub (pe_op op_add (pe_op op_mul (pv 5) (pe_op op_powB pe_int pe_int)) (pe_op op_mul pe_int (pv 6))) pe_int) (pa_cons (pe_op op_powB pe_int pe_int) pa_nil))))) pss_nil)
      (pss_one (ps_ret (pe_tup (pa_cons (pv 5) (pa_cons pe_int pa_nil))))))))))), ?_⟩
  refine x_start (σ' := [some _, some _, some _, none, none, none, none]) rfl ?_
  try simp only [cx_n, cx_K, cx_w, cx_P]
  cases ed
  walk_at "rd"
  refine ⟨Nat.le_of_ble_eq_true rfl, fun l0 hl0 => ?_⟩
  walk_at "rd"
  have s0 : SX [] H (upd H l0 (.lst [.int e])) := SX.new hl0
  have e0 : (upd H l0 (.lst [.int e])) l0 = some (.lst [.int e]) := upd_same
  generalize upd H l0 (.lst [.int e]) = H0 at s0 e0
  refine x_sortD (s0.rd hrd) hk.keys fun ys py hpy hsy np => ?_
  have ysl : ys.length = l.length := by rw [hpy.length_eq, List.length_map]
  refine x_itl (sqL upd_same) fun D hD => ?_
  have hDp : py ≠ D := ne_of_none upd_same hD
  have hD0 : H0 D = none := by rw [upd_ne (Ne.symm hDp)] at hD; exact hD
  refine lc_it (walk_listR (R := rS) (Hb := H) (paired_S' ys)) (fun n A => SX [] H0 A ∧ A py = some (.lst (ys.map V.str)) ∧ A D = some (.lst ((ys.take n).map fun s => V.int ((lookA l s).getD 0))))
    ⟨(SX.new np).trans (SX.new hD), by rw [upd_ne hDp]; exact upd_same, upd_same⟩ (fun n A _ h => sqL h.2.1) ?_ ?_
  · rintro n y A0 A hn ⟨sA, yA, dA⟩ ⟨rfl, s, hs, rfl⟩
    obtain ⟨a, ea⟩ := lookA_some (hpy.mem_iff.mp (getMem hs))
    obtain ⟨v, ev, rfl⟩ := hk.at_ ea
    walk_at "rd"
    refine ⟨rfl, ?_⟩
    walk_at "rd"
    refine x_dg' ((s0.trans sA).rd hrd) ev ?_
    refine ⟨_, dA, lt_size (by rw [List.length_map, List.length_take]; omega), sx_nil_of (S := [D]) ((nil_sx sA).trans (SX.mut List.mem_cons_self)) (by simp [hD0]), by rw [upd_ne hDp]; exact yA, ?_⟩
    rw [upd_same, take_succ_of hs, List.map_append]
    show some (HO.lst (_ ++ [V.int a])) = some (HO.lst (_ ++ [V.int ((lookA l s).getD 0)]))
    rw [ea]
    rfl
  rintro A ⟨sA, yA, dA⟩
  rw [List.take_length] at dA
  have bnd : ∀ v ∈ e :: ys.map (fun s => (lookA l s).getD 0), -99 ≤ v ∧ v ≤ 99 := fun v hv => by
    rcases List.mem_cons.mp hv with rfl | hv
    · exact ⟨he0, he1⟩
    · obtain ⟨s, hs, rfl⟩ := List.mem_map.mp hv
      obtain ⟨a, ea⟩ := lookA_some (hpy.mem_iff.mp hs)
      rw [ea]
      exact hb _ (lookA_mem ea)
  have dA : A D = some (.lst ((ys.map fun s => (lookA l s).getD 0).map V.int)) := by rw [dA, List.map_map]; rfl
  have zl : (ys.map fun s => (lookA l s).getD 0).length ≤ 5000 := by rw [List.length_map]; omega
  generalize (ys.map fun s => (lookA l s).getD 0) = zs at dA bnd zl
  have e0A := sA _ _ List.not_mem_nil e0
  refine ⟨l0, D, _, _, rfl, rfl, e0A, dA, by rw [List.length_map]; exact Nat.le_trans (show 1 + zs.length ≤ 10000 by omega) (by decide), fun vl hvl => ?_⟩
  have ec : [V.int e] ++ zs.map V.int = (e :: zs).map V.int := rfl
  rw [ec]
  have sV : SX [] H (upd A vl (.lst ((e :: zs).map V.int))) := (s0.trans sA).trans (SX.new hvl)
  have pV : Drw (upd A vl (.lst ((e :: zs).map V.int))) p := hp.sx sV List.not_mem_nil
  have eV : (upd A vl (.lst ((e :: zs).map V.int))) vl = some (.lst ((e :: zs).map V.int)) := upd_same
  have nvp : vl ≠ p := fun e => (hp.sx (s0.trans sA) List.not_mem_nil).there (e ▸ hvl)
  generalize upd A vl (.lst ((e :: zs).map V.int)) = B at sV pV eV
  walk_at "rd"
  refine x_lenL' (sqL eV) ?_
  walk_at "rd"
  rw [List.length_map]
  have el : (e :: zs).length = zs.length + 1 := rfl
  refine ⟨p, ((e :: zs).length : Int), rfl, pV, by rw [el]; omega, by rw [el]; omega, fun r B1 r0 r1 t1 q1 => ?_⟩
  obtain ⟨v, ev, mv⟩ := at_ints r0 r1
  have hv := bnd v mv
  refine x_ixL (sqL (t1 _ _ (by simpa using nvp) eV)) ev ?_
  walk_at "rd"
  refine ⟨p, 7, rfl, q1, by decide, by decide, fun way B2 w0 w1 t2 q2 => ?_⟩
  have sAll : SX [p] H B2 := ((nil_sx sV).trans t1).trans t2
  have fin : ∀ (t : Addr) (a b : Int), B2 t = none → FracOk a b → -(10 ^ 30) ≤ a → a ≤ 10 ^ 30 → b ≤ 10 ^ 30 → Q (.ref t) (upd B2 t (.tup [.int a, .int b])) := fun t a b ht f a0 a1 b1 =>
    k t _ a b (sAll.free ht (by simpa using fun e : t = p => q2.there (e ▸ ht))) (sAll.trans (SX.new ht)) (q2.sx (SX.new (S := []) ht) List.not_mem_nil) upd_same f a0 a1 b1
  walk_at "rd"
  refine x_cases (fun c1 => ?_) (fun c1 => ?_)
  · walk_at "rd"
    refine x_I (.inl ⟨by decide, by decide⟩) ?_
    walk_at "rd"
    exact ⟨Nat.le_of_ble_eq_true rfl, fun t ht => fin t _ _ ht (frac2 v) (by omega) (by omega) (by omega)⟩
  walk_at "rd"
  refine x_cases (fun c2 => ?_) (fun c2 => ?_)
  · walk_at "rd"
    refine x_I (.inl ⟨by decide, by decide⟩) ?_
    walk_at "rd"
    exact ⟨Nat.le_of_ble_eq_true rfl, fun t ht => fin t _ _ ht (frac3 v) (by omega) (by omega) (by omega)⟩
  walk_at "rd"
  refine x_cases (fun c3 => ?_) (fun c3 => ?_)
  · have h5 : way = 5 ∨ way = 6 := by
      have : (4 : Int) < way := by simpa using c3
      omega
    walk_at "rd"
    refine x_I ⟨by decide, by decide +kernel⟩ ?_
    refine x_I (.inl ⟨by omega, by omega⟩) ?_
    walk_at "rd"
    refine x_I (.inl ⟨by decide, by decide⟩) ?_
    walk_at "rd"
    refine x_I ⟨by decide, by decide +kernel⟩ ?_
    walk_at "rd"
    have eN : (10 : Int) ^ (27 : Int).toNat = 10 ^ 27 := by decide +kernel
    rw [eN]
    have e1 : v * 10 ^ 27 + 2 * way - 11 = v * 10 ^ 27 + (2 * way - 11) := by omega
    rw [e1]
    refine ⟨Nat.le_of_ble_eq_true rfl, fun t ht => fin t _ _ ht (fracN v (by decide) (by omega)) (by omega) (by omega) (by omega)⟩
  · walk_at "rd"
    exact ⟨Nat.le_of_ble_eq_true rfl, fun t ht => fin t _ _ ht (frac1 v) (by omega) (by omega) (by omega)⟩
end
end M

namespace M
open PySem PySem.Spec PyProof.Rows L2
/-! ### runs -/
def goS (sts : List (Str × Stand)) (at_ s : Str) : Option Str := (lookA sts at_).bind fun st => lookA st.rows s
def atF (sts : List (Str × Stand)) (a : Str) (run : List Str) : Str := run.foldl (fun x s => (goS sts x s).getD x) a
def RunOk (sts : List (Str × Stand)) (a : Str) (run : List Str) : Prop := ∀ i s, run[i]? = some s → ∃ b, goS sts (atF sts a (run.take i)) s = some b
def upN (f : Nat → Str) (n : Nat) : List Str := (List.range n).map f
theorem upN_succ (f : Nat → Str) (n : Nat) : upN f (n + 1) = upN f n ++ [f n] := by
  unfold upN
  rw [List.range_succ, List.map_append]
  rfl
theorem upN_len (f : Nat → Str) (n : Nat) : (upN f n).length = n := by simp [upN]
theorem upN_at {f : Nat → Str} {n i : Nat} (h : i < n) : (upN f n)[i]? = some (f i) := by
  unfold upN
  rw [List.getElem?_map, List.getElem?_range h]
  rfl
theorem upN_take {f : Nat → Str} {n m : Nat} (h : m ≤ n) : (upN f n).take m = upN f m := by
  unfold upN
  rw [← List.map_take, List.take_range, Nat.min_eq_left h]
theorem upN_all {f : Nat → Str} {n : Nat} {p : Str → Prop} (h : ∀ i, i < n → p (f i)) : ∀ s ∈ upN f n, p s := fun s hs => by
  obtain ⟨i, hi, rfl⟩ := List.mem_map.mp hs
  exact h i (List.mem_range.mp hi)
/-- where a run leads, step by step -/
def trail (sts : List (Str × Stand)) (a : Str) (run : List Str) : List Str := upN (fun i => atF sts a (run.take i)) (run.length + 1)
theorem atF_succ {sts : List (Str × Stand)} {a : Str} {run : List Str} {i : Nat} {s b : Str} (h : run[i]? = some s) (g : goS sts (atF sts a (run.take i)) s = some b) : atF sts a (run.take (i + 1)) = b := by
  rw [take_succ_of h]
  unfold atF at *
  rw [List.foldl_append]
  show (goS sts _ s).getD _ = b
  rw [g]
  rfl
theorem goS_look {sts : List (Str × Stand)} {a s b : Str} (g : goS sts a s = some b) : ∃ st, lookA sts a = some st ∧ lookA st.rows s = some b := by
  unfold goS at g
  cases e : lookA sts a with
  | none => rw [e] at g; cases g
  | some st => rw [e] at g; exact ⟨st, rfl, g⟩
theorem key_of {α : Type} {l : List (Str × α)} {s : Str} {a : α} (h : lookA l s = some a) : s ∈ l.map (·.1) := List.mem_map.mpr ⟨(s, a), lookA_mem h, rfl⟩
theorem rows_nodup {st : Stand} (h : st.nd) : (st.rows.map (·.1)).Nodup := by
  cases st with
  | fin => exact List.nodup_nil
  | hand a b => exact h
  | chance b => show ((b.map _).map _).Nodup; rw [List.map_map]; exact h
theorem rows_tos_mem {st : Stand} {s t : Str} (h : lookA st.rows s = some t) : t ∈ st.tos := by
  rw [← rows_tos]
  exact List.mem_map.mpr ⟨(s, t), lookA_mem h, rfl⟩
/-- all that a run comes to is a stand -/
theorem at_key {sts : List (Str × Stand)} {a : Str} {run : List Str} (C : ∀ q ∈ sts, ∀ t ∈ q.2.tos, t ∈ sts.map (·.1)) (ha : a ∈ sts.map (·.1)) (R : RunOk sts a run) : ∀ i, i ≤ run.length → atF sts a (run.take i) ∈ sts.map (·.1)
  | 0, _ => ha
  | i + 1, h => by
    obtain ⟨s, hs⟩ : ∃ s, run[i]? = some s := ⟨run[i]'(by omega), by simp⟩
    obtain ⟨b, g⟩ := R i s hs
    rw [atF_succ hs g]
    obtain ⟨st, e1, e2⟩ := goS_look g
    exact C _ (lookA_mem e1) b (rows_tos_mem e2)
theorem RunOk.snoc {sts : List (Str × Stand)} {a s b : Str} {run : List Str} (R : RunOk sts a run) (g : goS sts (atF sts a run) s = some b) : RunOk sts a (run ++ [s]) := fun i t h => by
  by_cases hi : i < run.length
  · rw [List.getElem?_append_left hi] at h
    rw [List.take_append_of_le_length (by omega)]
    exact R i t h
  · have := getLt h
    rw [List.length_append] at this
    have e : i = run.length := by simp at this; omega
    subst e
    rw [List.take_left]
    simp at h
    subst h
    exact ⟨b, g⟩
theorem atF_snoc {sts : List (Str × Stand)} {a s b : Str} {run : List Str} (g : goS sts (atF sts a run) s = some b) : atF sts a (run ++ [s]) = b := by
  unfold atF at *
  rw [List.foldl_append]
  show (goS sts _ s).getD _ = b
  rw [g]
  rfl
theorem pick_one {l : List (Str × Str)} {s b : Str} : (l.map (·.1)).Nodup → lookA l s = some b → (l.filter fun q => decide (q.1 = s)).map (·.2) = [b] := by
  induction l with
  | nil => intro _ h; cases h
  | cons q r ih =>
    intro hn h
    have hn : (q.1 :: r.map (·.1)).Nodup := hn
    obtain ⟨h1, h2⟩ := List.nodup_cons.mp hn
    unfold lookA at h
    rw [List.filter_cons]
    by_cases e : q.1 = s
    · rw [if_pos e] at h
      rw [if_pos (decide_eq_true e), List.map_cons]
      cases h
      have : r.filter (fun q => decide (q.1 = s)) = [] := List.filter_eq_nil_iff.mpr fun x hx z => h1 (List.mem_map.mpr ⟨x, hx, (of_decide_eq_true z).trans e.symm⟩)
      rw [this]
      rfl
    · rw [if_neg e] at h
      rw [if_neg (by simpa using e)]
      exact ih h2 h
theorem perm_look {α : Type} {l m : List (Str × α)} (hn : (l.map (·.1)).Nodup) (p : m.Perm l) (s : Str) : lookA m s = lookA l s := by
  by_cases h : s ∈ l.map (·.1)
  · obtain ⟨a, e⟩ := lookA_some h
    rw [e]
    exact lookA_nodup ((p.map _).nodup_iff.mpr hn) (p.mem_iff.mpr (lookA_mem e))
  · rw [lookA_none h, lookA_none fun z => h ((p.map _).mem_iff.mp z)]
theorem SrtStand.rowsPerm {a b : Stand} (h : SrtStand a b) : b.rows.Perm a.rows := by
  cases a <;> cases b <;> first | exact h.elim | exact .refl _ | exact h.2.perm | exact (Srt.perm h).map _
theorem SrtStand.kind {a b : Stand} (h : SrtStand a b) : kindS b = kindS a := by
  cases a <;> cases b <;> first | exact h.elim | rfl
theorem SrtStand.mover {a b : Stand} (h : SrtStand a b) : moverV b = moverV a := by
  cases a <;> cases b <;> first | exact h.elim | rfl | exact congrArg V.int h.1.symm | exact congrArg V.int h.1
theorem Tbl.look {sts tbl : List (Str × Stand)} (t : Tbl sts tbl) {n : Str} {st : Stand} (h : lookA sts n = some st) : ∃ st', lookA tbl n = some st' ∧ SrtStand st st' := by
  obtain ⟨b, eb⟩ := lookA_some (t.perm.mem_iff.mpr (key_of h))
  obtain ⟨a, ea, s⟩ := t.all _ (lookA_mem eb)
  rw [h] at ea
  cases ea
  exact ⟨b, eb, s⟩
theorem Tbl.go {sts tbl : List (Str × Stand)} (t : Tbl sts tbl) (nd : ∀ q ∈ sts, q.2.nd) (n s : Str) : goS tbl n s = goS sts n s := by
  unfold goS
  by_cases h : n ∈ sts.map (·.1)
  · obtain ⟨st, e⟩ := lookA_some h
    obtain ⟨st', e', ss⟩ := t.look e
    rw [e, e']
    exact perm_look (rows_nodup (nd _ (lookA_mem e))) ss.rowsPerm s
  · rw [lookA_none h, lookA_none fun z => h (t.perm.mem_iff.mp z)]
theorem Tbl.atF {sts tbl : List (Str × Stand)} (t : Tbl sts tbl) (nd : ∀ q ∈ sts, q.2.nd) (a : Str) (run : List Str) : M.atF tbl a run = M.atF sts a run := by
  unfold M.atF
  have : (fun x s => (goS tbl x s).getD x) = fun x s => (goS sts x s).getD x := funext fun x => funext fun s => by rw [t.go nd]
  rw [this]
theorem Tbl.run {sts tbl : List (Str × Stand)} (t : Tbl sts tbl) (nd : ∀ q ∈ sts, q.2.nd) {a : Str} {run : List Str} (R : RunOk sts a run) : RunOk tbl a run := fun i s h => by
  obtain ⟨b, g⟩ := R i s h
  exact ⟨b, by rw [t.atF nd, t.go nd]; exact g⟩
theorem Tbl.trail {sts tbl : List (Str × Stand)} (t : Tbl sts tbl) (nd : ∀ q ∈ sts, q.2.nd) (a : Str) (run : List Str) : M.trail tbl a run = M.trail sts a run := by
  unfold M.trail
  have : (fun i => M.atF tbl a (run.take i)) = fun i => M.atF sts a (run.take i) := funext fun i => t.atF nd a _
  rw [this]
section
variable {P : Program} {w : World} {K : PySem.W.Frag} {mg : Str → Option Value} {base : Heap}
theorem sqT_hidL {H : Hp} {p t : Addr} {ys xs : List V} (hp : H p = some (.lst ys)) (h : SqT K H t xs) : SqT K (hid [p] H) t xs := by
  rcases h with h | h
  · have n : t ≠ p := by
      rintro rfl
      rcases h with h | ⟨o, h⟩ <;> rw [h] at hp <;> cases hp
    refine .inl ?_
    unfold Rd
    rw [hid_of (by simpa using n)]
    exact h
  · exact .inr h
theorem pairs_hidL {H : Hp} {p : Addr} {ys : List V} (hp : H p = some (.lst ys)) : ∀ {xs : List V} {l : List (Str × Str)}, Paired (rP K rS rS H) xs l → Paired (rP K rS rS (hid [p] H)) xs l
  | _, _, .nil => .nil
  | _, _, .cons ⟨t, z1, z2, e, ht, a, b⟩ r => .cons ⟨t, z1, z2, e, sqT_hidL hp ht, a, b⟩ (pairs_hidL hp r)
theorem x_isi2 {a b c : String} {H : Hp} {Q : VK} {x : V} {t : Addr} (ty : TyX K H x (.type a)) (ht : H t = some (.tup [.ty b, .ty c])) (h : kitB a b = some true ∨ (kitB a b = some false ∧ kitB a c = some true)) (k : Q (.bl true) H) : rIsiT K [x, .ref t] H Q := by
  refine ⟨x, t, _, _, _, true, rfl, ht, .cons (.ty b) (.cons (.ty c) .nil), ty, ?_, k⟩
  unfold PySem.W.kitAny
  rcases h with h | ⟨h, h2⟩
  · rw [kit_ty h]
  · rw [kit_ty h]
    show PySem.W.kitAny K _ _ = _
    unfold PySem.W.kitAny
    rw [kit_ty h2]
end
end M

namespace M
open PySem PySem.Spec PyProof.Rows L2
/-! ### fractions, lots, wishes -/
/-- hands of a lot, ascending -/
def LotOk (hands : Int) (ns : List Int) : Prop := ns.Pairwise (· < ·) ∧ ∀ n ∈ ns, 0 ≤ n ∧ n < hands
section
variable {P : Program} {w : World} {K : PySem.W.Frag} {mg : Str → Option Value} {base : Heap}
def sp_common_divisor (T : Tx K mg) : Sp := fun vs H Q _ => ∃ a b : Int, vs = [.int a, .int b] ∧ 0 ≤ a ∧ 0 ≤ b ∧ Q (.int (Int.gcd a b)) H
theorem ok_common_divisor (T : Tx K mg) : FnOk P w K mg base CX0 1 T.common_divisor.f T.common_divisor.fd P_common_divisor (sp_common_divisor T) := by
  refine T.common_divisor.F.ok sc_common_divisor (fun vs H Q E h => ?_) (fun cdv A outer s H vs Q E hr h => ?_)
  · obtain ⟨a, b, rfl, ha, hb, k⟩ := h
    rfl
  have hu := hu_of hr
  have nd := sc_common_divisor.nd
  obtain ⟨a, b, rfl, ha, hb, k⟩ := h
  refine ⟨_, (pss_cons (ps_while PassesOwn.never (pt_cmpR op_gt (pv 1) pe_int (nomark _)) (pss_one (ps_par (i := 0) (j := 1) rfl nd rfl rfl (by decide) rfl rfl (pa_cons (pv 1) (pa_cons (pe_op op_mod (pv 0) (pv 1)) pa_nil)) (by rfl))))
      (pss_one (ps_ret (pv 0)))), ?_⟩
  refine x_start (σ' := [some _, some _]) rfl ?_
  try simp only [cx_n, cx_K, cx_w, cx_P]
  walk_at "rd"
  refine x_while (fun σ A => A = H ∧ ∃ x y : Int, σ = [some (.int x), some (.int y)] ∧ 0 ≤ x ∧ 0 ≤ y ∧ Int.gcd x y = Int.gcd a b) (fun σ A => match σ with | [_, some (.int y)] => y.toNat | _ => 0) ⟨rfl, a, b, rfl, ha, hb, rfl⟩ ?_ ?_
  · rintro σ A ⟨rfl, x, y, rfl, hx, hy, hg⟩
    walk_at "rd"
    refine x_cases (fun c => ?_) (fun c => ?_)
    · have hy0 : 0 < y := by simpa using c
      walk_at "rd"
      refine x_I hy0 ?_
      walk_at "rd"
      have m0 : 0 ≤ x % y := Int.emod_nonneg _ (by omega)
      have m1 : x % y < y := Int.emod_lt_of_pos _ hy0
      refine ⟨⟨rfl, y, x % y, rfl, hy, m0, ?_⟩, ?_⟩
      · rw [← hg]
        obtain ⟨m, rfl⟩ : ∃ m : Nat, x = (m : Int) := ⟨x.toNat, by omega⟩
        obtain ⟨n, rfl⟩ : ∃ n : Nat, y = (n : Int) := ⟨y.toNat, by omega⟩
        show Nat.gcd n (((m : Int) % (n : Int)).natAbs) = Nat.gcd m n
        have e : ((m : Int) % (n : Int)).natAbs = m % n := by
          rw [← Int.natCast_emod]
          rfl
        rw [e, Nat.gcd_comm n, ← Nat.gcd_rec, Nat.gcd_comm]
      · show (x % y).toNat < y.toNat
        omega
    · have e0 : y = 0 := by
        have : ¬ 0 < y := by simpa using c
        omega
      subst e0
      walk_at "rd"
      have : Int.gcd x 0 = x.natAbs := Int.gcd_zero_right _
      rw [this] at hg
      have e : x = ((Int.gcd a b : Nat) : Int) := by omega
      rw [e]
      exact k
  · rintro σ A Q1 Q2 hm ⟨v, hv, i, j, e1, e2, c, hc, q⟩
    exact ⟨v, hv, i, j, e1, e2, c, hc, hm _ _ q⟩
def sp_is_value (T : Tx K mg) : Sp := fun vs H Q _ => ∃ i : Int, vs = [.int i] ∧ -99 ≤ i ∧ i ≤ 99 ∧ Q (.bl true) H
theorem ok_is_value (T : Tx K mg) : FnOk P w K mg base CX0 2 T.is_value.f T.is_value.fd P_is_value (sp_is_value T) := by
  refine T.is_value.F.ok sc_is_value (fun vs H Q E h => ?_) (fun cdv A outer s H vs Q E hr h => ?_)
  · obtain ⟨i, rfl, h0, h1, k⟩ := h
    rfl
  have hu := hu_of hr
  have nd := sc_is_value.nd
  obtain ⟨i, rfl, h0, h1, k⟩ := h
  refine ⟨_, (pss_one (ps_ret (pe_and (pe_call (ok_is_integer (P := P) (w := w) T) (hr.mono (by decide)) (by rfl) T.is_integer.g T.is_integer.F.kp T.is_integer.B .nil pass0 (pa_cons (pv 0) pa_nil)) (pe_one (pe_chain op_le op_le (pe_un un_neg pe_int) (pv 0) pe_int))))), ?_⟩
  refine x_start (σ' := [some _]) rfl ?_
  try simp only [cx_n, cx_K, cx_w, cx_P]
  walk_at "rd"
  refine ⟨i, rfl, ?_⟩
  walk_at "rd"
  refine x_cases (fun c => ?_) (fun c => ?_)
  · walk_at "rd"
    rw [decide_eq_true h1]
    exact k
  · exact absurd (of_decide_eq_false c) (by simpa using h0)
def sp_is_fraction (T : Tx K mg) : Sp := fun vs H Q _ => ∃ (t : Addr) (a b : Int), vs = [.ref t] ∧ SqT K H t [.int a, .int b] ∧ FracOk a b ∧ ∀ H', SX [] H H' → Q (.bl true) H'
theorem ok_is_fraction (T : Tx K mg) : FnOk P w K mg base CX0 2 T.is_fraction.f T.is_fraction.fd P_is_fraction (sp_is_fraction T) := by
  refine T.is_fraction.F.ok sc_is_fraction (fun vs H Q E h => ?_) (fun cdv A outer s H vs Q E hr h => ?_)
  · obtain ⟨t, a, b, rfl, ht, fr, k⟩ := h
    rfl
  have hu := hu_of hr
  have nd := sc_is_fraction.nd
  obtain ⟨t, a, b, rfl, ht, fr, k⟩ := h
  refine ⟨_, (pss_cons (ps_if (PW.pt (pw_or (pt_not (pt_val (pe_call (ok_is_pair (P := P) (w := w) T) (hr.mono (by decide)) (by rfl) T.is_pair.g T.is_pair.F.kp T.is_pair.B .nil pass0 (pa_cons (pv 0) pa_nil)))) (pw_or (pt_not (pt_val (pe_call (ok_is_integer (P := P) (w := w) T) (hr.mono (by decide)) (by rfl) T.is_integer.g T.is_integer.F.kp T.is_integer.B .nil pass0 (pa_cons (pe_ix (w_ixT (K := K) rfl) (pv 0) pe_int (fun _ _ => rfl)) pa_nil)))) (pw_or1 (pt_not (pt_val (pe_call (ok_is_integer (P := P) (w := w) T) (hr.mono (by decide)) (by rfl) T.is_integer.g T.is_integer.F.kp T.is_integer.B .nil pass0 (pa_cons (pe_ix (w_ixT (K := K) rfl) (pv 0) pe_int (fun _ _ => rfl)) pa_nil)))))))) (pss_one (ps_ret pe_bl)) pss_nil)
      (pss_one (ps_ret (pe_and (pe_cmpR op_ge (pe_ix (w_ixT (K := K) rfl) (pv 0) pe_int (fun _ _ => rfl)) pe_int (nomark _)) (pe_one (pe_cmpR op_eq (pe_call (ok_common_divisor (P := P) (w := w) T) (hr.mono (by decide)) (by rfl) T.common_divisor.g T.common_divisor.F.kp T.common_divisor.B .nil pass0 (pa_cons (pe_callB cl_abs (by rfl) T.b_abs (by decide +kernel) (pa_cons (pe_ix (w_ixT (K := K) rfl) (pv 0) pe_int (fun _ _ => rfl)) pa_nil)) (pa_cons (pe_ix (w_ixT (K := K) rfl) (pv 0) pe_int (fun _ _ => rfl)) pa_nil))) pe_int (nomark _))))))), ?_⟩
  refine x_start (σ' := [some _]) rfl ?_
  try simp only [cx_n, cx_K, cx_w, cx_P]
  walk_at "rd"
  refine ⟨t, _, rfl, ht, ?_⟩
  walk_at "rd"
  refine x_false (by rfl) ?_
  walk_at "rd"
  refine x_ixT ht (v := .int a) (atI_nat (j := 0) rfl) ?_
  walk_at "rd"
  refine ⟨a, rfl, ?_⟩
  walk_at "rd"
  refine x_ixT ht (v := .int b) (atI_nat (j := 1) rfl) ?_
  walk_at "rd"
  refine ⟨b, rfl, ?_⟩
  walk_at "rd"
  refine x_ixT ht (v := .int b) (atI_nat (j := 1) rfl) ?_
  walk_at "rd"
  have hb := fr.1
  rw [decide_eq_true hb]
  walk_at "rd"
  refine x_ixT ht (v := .int a) (atI_nat (j := 0) rfl) ?_
  walk_at "rd"
  refine x_ixT ht (v := .int b) (atI_nat (j := 1) rfl) ?_
  refine ⟨_, b, rfl, by split <;> omega, by omega, ?_⟩
  walk_at "rd"
  have e : Int.gcd (if a < 0 then -a else a) b = 1 := by
    rw [← fr.2]
    split
    · exact Int.neg_gcd ..
    · rfl
  rw [e]
  exact k H (SX.refl _)
end
end M

namespace M
open PySem PySem.Spec PyProof.Rows L2
def wishF (d : Addr) (e : Int) (cm : Bool) : List (Str × V) := [("table", .ref d), ("endless", .int e), ("coming", .bl cm)]
theorem wish_table {d : Addr} {e : Int} {cm : Bool} : List.lookup ("table" : Str) (wishF d e cm) = some (.ref d) := look_here
theorem wish_endless {d : Addr} {e : Int} {cm : Bool} : List.lookup ("endless" : Str) (wishF d e cm) = some (.int e) := look_next (by decide +kernel) look_here
theorem wish_coming {d : Addr} {e : Int} {cm : Bool} : List.lookup ("coming" : Str) (wishF d e cm) = some (.bl cm) := look_next (by decide +kernel) (look_next (by decide +kernel) look_here)
theorem pick_at {α : Type} [Inhabited α] {l : List (Str × α)} {ys : List Str} {n : Nat} {s : Str} (h : ys[n]? = some s) : pick l (ys.take (n + 1)) = pick l (ys.take n) ++ [(s, (lookA l s).getD default)] := by
  rw [take_succ_of h]
  unfold pick
  rw [List.map_append]
  rfl
/-- what a wish wants -/
structure WishOk (wl : List (Str × Int)) (e : Int) : Prop where
  nd : (wl.map (·.1)).Nodup
  len : wl.length ≤ 100
  all : ∀ z ∈ wl, nameB z.1 = true ∧ -99 ≤ z.2 ∧ z.2 ≤ 99
  e0 : -99 ≤ e
  e1 : e ≤ 99
  way : (∀ z ∈ wl, e ≤ z.2) ∨ (∀ z ∈ wl, z.2 ≤ e)
section
variable {P : Program} {w : World} {K : PySem.W.Frag} {mg : Str → Option Value} {base : Heap}
structure WishAt (T : Tx K mg) (H : Hp) (y : Addr) (tb : List (Str × Int)) (e : Int) (cm : Bool) : Prop where
  ex : ∃ dy d kv, H y = some (.ins T.a_Wish dy (wishF d e cm)) ∧ H d = some (.dK kv) ∧ KVs rI H kv tb
  srt : sortedS (tb.map (·.1)) = true
theorem WishAt.sx {T : Tx K mg} {A B : Hp} {y : Addr} {tb : List (Str × Int)} {e : Int} {cm : Bool} (s : SX [] A B) (h : WishAt T A y tb e cm) : WishAt T B y tb e cm := by
  obtain ⟨dy, d, kv, h1, h2, h3⟩ := h.ex
  exact ⟨⟨dy, d, kv, s _ _ List.not_mem_nil h1, s _ _ List.not_mem_nil h2, KVs.le mono_I s.le0 h3⟩, h.srt⟩
def sp_are_worths (T : Tx K mg) : Sp := fun vs H Q _ => ∃ (d : Addr) (wl : List (Str × Int)), vs = [.ref d] ∧ rD rI H (.ref d) wl ∧ wl.length ≤ 100 ∧ (∀ z ∈ wl, nameB z.1 = true ∧ -99 ≤ z.2 ∧ z.2 ≤ 99) ∧ ∀ H', SX [] H H' → Q (.bl true) H'
theorem ok_are_worths (T : Tx K mg) : FnOk P w K mg base CX0 3 T.are_worths.f T.are_worths.fd P_are_worths (sp_are_worths T) := by
  refine T.are_worths.F.ok sc_are_worths (fun vs H Q E h => ?_) (fun cdv A outer s H vs Q E hr h => ?_)
  · obtain ⟨d, wl, rfl, ⟨d', kvs, ed, hd, hk⟩, hl1, hall, k⟩ := h
    rfl
  have hu := hu_of hr
  have nd := sc_are_worths.nd
  obtain ⟨d, wl, rfl, ⟨d', kvs, ed, hd, hk⟩, hl1, hall, k⟩ := h
  refine ⟨_, (pss_cons (ps_if (PW.pt (pw_or (pt_not (pt_val (pe_callB (w_isi (K := K) rfl) (by rfl) T.b_isinstance (by decide +kernel) (pa_cons (pv 0) (pa_cons (pe_bltn (v := .ty "dict") (by rfl) T.b_dict (by decide +kernel) rfl) pa_nil))))) (pw_or1 (pt_cmpR op_gt (pe_callB cl_lenD (by rfl) T.b_len (by decide +kernel) (pa_cons (pv 0) pa_nil)) pe_int (nomark _))))) (pss_one (ps_ret pe_bl)) pss_nil)
      (pss_cons (ps_lockR (ps_for PassesOwn.never rfl (pi_items (pv 0)) (w_pgtup (K := K) (n := 2) rfl (by rfl) (pgs_cons (pg_name (i := 1) nd rfl (Or.inl rfl)) (pgs_cons (pg_name (i := 2) nd rfl (Or.inl rfl)) pgs_nil)) (by rfl) (by rfl)) (pss_one (ps_if (PW.pt (pw_or (pt_not (pt_val (pe_call (ok_is_name (P := P) (w := w) T) (hr.mono (by decide)) (by rfl) T.is_name.g T.is_name.F.kp T.is_name.B .nil pass0 (pa_cons (pv 1) pa_nil)))) (pw_or1 (pt_not (pt_val (pe_call (ok_is_value (P := P) (w := w) T) (hr.mono (by decide)) (by rfl) T.is_value.g T.is_value.F.kp T.is_value.B .nil pass0 (pa_cons (pv 2) pa_nil))))))) (pss_one (ps_ret pe_bl)) pss_nil))))
      (pss_one (ps_ret pe_bl)))), ?_⟩
  refine x_start (σ' := [some _, none, none]) rfl ?_
  try simp only [cx_n, cx_K, cx_w, cx_P]
  cases ed
  walk_at "rd"
  refine x_isiT (ty_dict hd) (by decide +kernel) ?_
  walk_at "rd"
  have hl : kvs.length = wl.length := Paired.length hk
  refine x_lenD hd ?_
  walk_at "rd"
  rw [hl]
  refine x_false (decide_eq_false (by omega)) ?_
  walk_at "rd"
  refine x_lockR hd fun od HL eL ne => ?_
  walk_at "rd"
  refine x_iti eL ?_
  have leL : Le H HL := lock_le hd eL ne
  refine for_it (walk_itemsR (KVs.le mono_I leL hk)) (fun i σ H' => SX [] HL H' ∧ ∃ a b, σ = [some (.ref d), a, b]) ⟨SX.refl _, _, _, rfl⟩ (fun _ _ _ _ h => h.1 _ _ List.not_mem_nil eL) ?_ ?_
  · rintro i x σ H0 H1 hi ⟨sx, a, b, rfl⟩ ⟨T1, p, v, hp, rfl, rfl, hT, rfl⟩
    obtain ⟨n1, n2, n3⟩ := hall p (getMem hp)
    walk_at "rd"
    refine ⟨_, rfl, nameB_size n1, ?_⟩
    rw [n1]
    walk_at "rd"
    refine ⟨p.2, rfl, n2, n3, ?_⟩
    walk_at "rd"
    exact ⟨sx.trans (SX.new hT), _, _, rfl⟩
  · rintro σ H1 ⟨sx, a, b, rfl⟩
    refine ⟨sx _ _ List.not_mem_nil eL, ?_⟩
    walk_at "rd"
    exact k _ (unlock_sx ne sx)
/-- all of a list's ints against e, as flags -/
theorem all_flags {l : List Int} {p : Int → Bool} : ((l.map p).all id) = true ↔ ∀ z ∈ l, p z = true := by
  rw [List.all_eq_true]
  constructor
  · intro h z hz
    exact h _ (List.mem_map.mpr ⟨z, hz, rfl⟩)
  · intro h b hb
    obtain ⟨z, hz, rfl⟩ := List.mem_map.mp hb
    exact h z hz
theorem x_listVals {td : TE} {σ : L2.St} {H : Hp} {Q : VK} (k : td σ H fun x H1 => ∃ d kvs, x = .ref d ∧ H1 d = some (.dK kvs) ∧ ∀ l, H1 l = none → Q (.ref l) (upd H1 l (.lst (kvs.map (·.2))))) : tListVals td σ H Q := k
theorem kvs_vals {H : Hp} : ∀ {kvs : List (Key × V)} {wl : List (Str × Int)}, KVs rI H kvs wl → kvs.map (·.2) = (wl.map (·.2)).map V.int
  | _, _, .nil => rfl
  | _, _, .cons h r => by
    rw [List.map_cons, List.map_cons, List.map_cons, kvs_vals r]
    have := h.2
    change _ = V.int _ at this
    rw [this]
def sp_Wish_init (T : Tx K mg) : Sp := fun vs H Q _ => ∃ (y dy wd : Addr) (wl : List (Str × Int)) (kvs : List (Key × V)) (e : Int), vs = [.ref y, .ref wd, .int e] ∧ H y = some (.ins T.a_Wish dy []) ∧ H wd = some (.dK kvs) ∧ KVs rI H kvs wl ∧ WishOk wl e ∧
  ∀ H' tb, SX [y] H H' → WishAt T H' y tb e (decide (∀ z ∈ wl, e ≤ z.2)) → Srt wl tb → Q .non H'
theorem ok_Wish_init (T : Tx K mg) : FnOk P w K mg base CX0 4 T.Wish_init.f T.Wish_init.fd P_Wish_init (sp_Wish_init T) := by
  refine T.Wish_init.F.ok sc_Wish_init (fun vs H Q E h => ?_) (fun cdv A outer s H vs Q E hr h => ?_)
  · obtain ⟨y, dy, wd, wl, kvs, e, rfl, hy, hwd, hk, ok, k⟩ := h
    rfl
  have hu := hu_of hr
  have nd := sc_Wish_init.nd
  obtain ⟨y, dy, wd, wl, kvs, e, rfl, hy, hwd, hk, ok, k⟩ := h
  refine ⟨_, (pss_cons (ps_if (PW.pt (pw_or (pt_not (pt_val (pe_call (ok_are_worths (P := P) (w := w) T) (hr.mono (by decide)) (by rfl) T.are_worths.g T.are_worths.F.kp T.are_worths.B .nil pass0 (pa_cons (pv 1) pa_nil)))) (pw_or1 (pt_not (pt_val (pe_call (ok_is_value (P := P) (w := w) T) (hr.mono (by decide)) (by rfl) T.is_value.g T.is_value.F.kp T.is_value.B .nil pass0 (pa_cons (pv 2) pa_nil))))))) (pss_one ps_never) pss_nil)
      (pss_cons (ps_set (i := 3) nd rfl (Or.inl rfl) (pe_callB (w_all (K := K) rfl rfl) (by rfl) T.b_all (by decide +kernel) (pa_cons (pe_lc (own := [("value", 4)]) rfl nd (w_pilist (K := K) rfl (pe_listVals rfl (by rfl) T.b_list (pv 1) rfl rfl)) (blkOk_by (own := [("value", 4)]) (N := N_Wish_init) (sc := defScope s_Wish_init) (by decide +kernel)) (fun _ _ _ _ _ => (pg_name (i := 4) nd rfl (Or.inl rfl))) (fun _ _ _ _ _ => pts_nil) (fun _ _ _ _ _ => (pe_cmpR op_le (pv 2) (pv 4) (nomark _)))) pa_nil)))
      (pss_cons (ps_set (i := 5) nd rfl (Or.inl rfl) (pe_callB (w_all (K := K) rfl rfl) (by rfl) T.b_all (by decide +kernel) (pa_cons (pe_lc (own := [("value", 4)]) rfl nd (w_pilist (K := K) rfl (pe_listVals rfl (by rfl) T.b_list (pv 1) rfl rfl)) (blkOk_by (own := [("value", 4)]) (N := N_Wish_init) (sc := defScope s_Wish_init) (by decide +kernel)) (fun _ _ _ _ _ => (pg_name (i := 4) nd rfl (Or.inl rfl))) (fun _ _ _ _ _ => pts_nil) (fun _ _ _ _ _ => (pe_cmpR op_ge (pv 2) (pv 4) (nomark _)))) pa_nil)))
      (pss_cons (ps_if (PW.pt (pw_and (pt_not (pt_val (pv 3))) (pw_and1 (pt_not (pt_val (pv 5)))))) (pss_one ps_never) pss_nil)
      (pss_cons (ps_fld (pv 0) (pe_dc (own := [("name", 6)]) rfl nd (w_pilist (K := K) rfl (pe_callB (cl_sortD rfl) (by rfl) T.b_sorted (by decide +kernel) (pa_cons (pv 1) pa_nil))) (blkOk_by (own := [("name", 6)]) (N := N_Wish_init) (sc := defScope s_Wish_init) (by decide +kernel)) (fun _ _ _ _ _ => (pg_name (i := 6) nd rfl (Or.inl rfl))) (fun _ _ _ _ _ => pts_nil) (fun _ _ _ _ _ => (pv 6)) (fun _ _ _ _ _ => (pe_dget hu (pv 1) (pv 6) (fun _ _ => rfl)))) rfl)
      (pss_cons (ps_fld (pv 0) (pv 2) rfl)
      (pss_one (ps_fld (pv 0) (pv 3) rfl)))))))), ?_⟩
  refine x_start (σ' := [some _, some _, some _, none, none, none, none]) rfl ?_
  try simp only [cx_n, cx_K, cx_w, cx_P]
  walk_at "rd"
  refine ⟨wd, wl, rfl, ⟨wd, kvs, rfl, .inl hwd, hk⟩, ok.len, ok.all, fun H1 s1 => ?_⟩
  walk_at "rd"
  refine ⟨e, rfl, ok.e0, ok.e1, ?_⟩
  walk_at "rd"
  have y1 := s1 _ _ List.not_mem_nil hy
  have w1 := s1 _ _ List.not_mem_nil hwd
  have wl' : (wl.map (·.2)).length = wl.length := List.length_map _
  have hl := ok.len
  refine x_listVals ?_
  walk_at "rd"
  refine ⟨wd, kvs, rfl, w1, fun v1 hv1 => ?_⟩
  rw [kvs_vals hk]
  have sv1 : SX [] H1 (upd H1 v1 (.lst ((wl.map (·.2)).map V.int))) := SX.new hv1
  refine x_itl (sqL upd_same) fun D hD => ?_
  have nvD : v1 ≠ D := ne_of_none upd_same hD
  have hD1 : H1 D = none := sv1.free hD List.not_mem_nil
  refine lc_it walk_list (fun n A => SX [] H1 A ∧ A v1 = some (.lst ((wl.map (·.2)).map V.int)) ∧ A D = some (.lst ((((wl.map (·.2)).take n).map fun z => decide (e ≤ z)).map V.bl))) ⟨sv1.trans (SX.new hD), by rw [upd_ne nvD]; exact upd_same, upd_same⟩ (fun n A _ h => sqL h.2.1) ?_ ?_
  · rintro n x A0 A hn ⟨sA, vA, dA⟩ ⟨rfl, hx⟩
    obtain ⟨z, hz, rfl⟩ : ∃ z, (wl.map (·.2))[n]? = some z ∧ V.int z = x := by
      rw [List.getElem?_map] at hx
      cases e1 : (wl.map (·.2))[n]? with
      | none => rw [e1] at hx; cases hx
      | some z => rw [e1] at hx; cases hx; exact ⟨z, rfl, rfl⟩
    walk_at "rd"
    refine ⟨rfl, ?_⟩
    walk_at "rd"
    refine ⟨_, dA, lt_size (by rw [List.length_map, List.length_map, List.length_take]; omega), sx_nil_of (S := [D]) ((nil_sx sA).trans (SX.mut List.mem_cons_self)) (by simp [hD1]), by rw [upd_ne nvD]; exact vA, ?_⟩
    rw [upd_same, take_succ_of hz, List.map_append, List.map_append]
    rfl
  rintro A ⟨sA, _, dA⟩
  have e0 : ((wl.map (·.2)).map V.int).length = (wl.map (·.2)).length := List.length_map _
  rw [e0, List.take_length] at dA
  refine ⟨D, _, rfl, sqL dA, ?_⟩
  walk_at "rd"
  have eb : (((wl.map (·.2)).map fun z => decide (e ≤ z)).all id) = decide (∀ z ∈ wl, e ≤ z.2) := by
    rw [Bool.eq_iff_iff, all_flags, decide_eq_true_iff]
    constructor
    · intro h z hz
      exact of_decide_eq_true (h z.2 (List.mem_map.mpr ⟨z, hz, rfl⟩))
    · intro h z hz
      obtain ⟨q, hq, rfl⟩ := List.mem_map.mp hz
      exact decide_eq_true (h q hq)
  rw [eb]
  have s2 := s1.trans sA
  have w2 := s2 _ _ List.not_mem_nil hwd
  refine x_listVals ?_
  walk_at "rd"
  refine ⟨wd, kvs, rfl, w2, fun v2 hv2 => ?_⟩
  rw [kvs_vals hk]
  have sv2 : SX [] A (upd A v2 (.lst ((wl.map (·.2)).map V.int))) := SX.new hv2
  refine x_itl (sqL upd_same) fun D2 hD2 => ?_
  have nvD2 : v2 ≠ D2 := ne_of_none upd_same hD2
  have hD2A : A D2 = none := sv2.free hD2 List.not_mem_nil
  refine lc_it walk_list (fun n B => SX [] A B ∧ B v2 = some (.lst ((wl.map (·.2)).map V.int)) ∧ B D2 = some (.lst ((((wl.map (·.2)).take n).map fun z => decide (z ≤ e)).map V.bl))) ⟨sv2.trans (SX.new hD2), by rw [upd_ne nvD2]; exact upd_same, upd_same⟩ (fun n A _ h => sqL h.2.1) ?_ ?_
  · rintro n x B0 B hn ⟨sB, vB, dB⟩ ⟨rfl, hx⟩
    obtain ⟨z, hz, rfl⟩ : ∃ z, (wl.map (·.2))[n]? = some z ∧ V.int z = x := by
      rw [List.getElem?_map] at hx
      cases e1 : (wl.map (·.2))[n]? with
      | none => rw [e1] at hx; cases hx
      | some z => rw [e1] at hx; cases hx; exact ⟨z, rfl, rfl⟩
    walk_at "rd"
    refine ⟨rfl, ?_⟩
    walk_at "rd"
    refine ⟨_, dB, lt_size (by rw [List.length_map, List.length_map, List.length_take]; omega), sx_nil_of (S := [D2]) ((nil_sx sB).trans (SX.mut List.mem_cons_self)) (by simp [hD2A]), by rw [upd_ne nvD2]; exact vB, ?_⟩
    rw [upd_same, take_succ_of hz, List.map_append, List.map_append]
    rfl
  rintro B ⟨sB, _, dB⟩
  rw [e0, List.take_length] at dB
  refine ⟨D2, _, rfl, sqL dB, ?_⟩
  walk_at "rd"
  have ea : (((wl.map (·.2)).map fun z => decide (z ≤ e)).all id) = decide (∀ z ∈ wl, z.2 ≤ e) := by
    rw [Bool.eq_iff_iff, all_flags, decide_eq_true_iff]
    constructor
    · intro h z hz
      exact of_decide_eq_true (h z.2 (List.mem_map.mpr ⟨z, hz, rfl⟩))
    · intro h z hz
      obtain ⟨q, hq, rfl⟩ := List.mem_map.mp hz
      exact decide_eq_true (h q hq)
  rw [ea]
  have s3 := s2.trans sB
  have w3 := s3 _ _ List.not_mem_nil hwd
  have y3 := s3 _ _ List.not_mem_nil hy
  generalize hcm : decide (∀ z ∈ wl, e ≤ z.2) = cm at k
  cases cm with
  | true =>
    walk_at "rd"
    refine x_dc (x_iList (x_CB (x_cons (x_var (by rfl) (x_nil ?_)))))
    refine x_sortD (.inl w3) hk.keys fun ys p hp hs np => ?_
    have ysl : ys.length = wl.length := by rw [hp.length_eq, List.length_map]
    refine x_itl (sqL upd_same) fun G hG => ?_
    have nGp : p ≠ G := ne_of_none upd_same hG
    have hGB : B G = none := by rw [upd_ne (Ne.symm nGp)] at hG; exact hG
    have nGy : y ≠ G := ne_of_none y3 hGB
    refine dc_walk (walk_listR (R := rS) (Hb := H) (paired_S' ys)) (fun n A => SX [] B A ∧ A p = some (.lst (ys.map V.str)) ∧ ∃ kv, A G = some (.dK kv) ∧ KVs rI A kv (pick wl (ys.take n))) ?_ ?_ ?_ ?_
    · exact ⟨(SX.new np).trans (SX.new hG), by rw [upd_ne nGp]; exact upd_same, [], upd_same, .nil⟩
    · exact fun n A _ h => sqL h.2.1
    · rintro n x A0 A hn ⟨sA, pA, kv, dA, kA⟩ ⟨rfl, s, hs', rfl⟩
      obtain ⟨a, ea⟩ := lookA_some (hp.mem_iff.mp (getMem hs'))
      obtain ⟨v, ev, rfl⟩ := hk.at_ ea
      walk_at "rd"
      refine ⟨rfl, ?_⟩
      walk_at "rd"
      refine x_dg' (.inl (sA _ _ List.not_mem_nil w3)) ev ?_
      have kk : kv.map (·.1) = (ys.take n).map Sum.inr := by rw [kA.keys, pick_keys]
      have kl : kv.length = (ys.take n).length := by simpa using congrArg List.length kk
      refine ⟨kv, Sum.inr s, rfl, dA, lt_size (by rw [kl, List.length_take]; omega), ?_⟩
      rw [putK_fresh _ kk (nodup_take (hp.nodup_iff.mpr ok.nd) hs')]
      refine ⟨sx_nil_of (S := [G]) ((nil_sx sA).trans (SX.mut List.mem_cons_self)) (by simp [hGB]), by rw [upd_ne nGp]; exact pA, _, upd_same, ?_⟩
      rw [pick_at hs', ea]
      exact Paired.app kA (.cons ⟨rfl, rfl⟩ .nil)
    rintro A ⟨sA, pA, kv, dA, kA⟩
    rw [List.take_length] at kA
    walk_at "rd"
    have y4 := sA _ _ List.not_mem_nil y3
    refine x_setF [] y4 T.cl_Wish T.n_Wish_table rfl (by decide) (by decide) ?_
    walk_at "rd"
    refine x_setF ["table"] upd_same T.cl_Wish T.n_Wish_endless rfl (by decide) (by decide +kernel) ?_
    rw [upd_upd]
    walk_at "rd"
    refine x_setF ["table", "endless"] upd_same T.cl_Wish T.n_Wish_coming rfl (by decide) (by decide +kernel) ?_
    rw [upd_upd]
    have sr := pick_srt ok.nd hp hs
    refine k _ (pick wl ys) ((nil_sx (s3.trans sA)).trans (SX.mut List.mem_cons_self)) ⟨⟨dy, G, kv, upd_same, by rw [upd_ne (Ne.symm nGy)]; exact dA, kA⟩, sr.srt⟩ sr
  | false =>
    walk_at "rd"
    have w5 : decide (∀ z ∈ wl, z.2 ≤ e) = true := by
      rcases ok.way with h | h
      · exact absurd h (of_decide_eq_false hcm)
      · exact decide_eq_true h
    rw [w5]
    walk_at "rd"
    refine x_dc (x_iList (x_CB (x_cons (x_var (by rfl) (x_nil ?_)))))
    refine x_sortD (.inl w3) hk.keys fun ys p hp hs np => ?_
    have ysl : ys.length = wl.length := by rw [hp.length_eq, List.length_map]
    refine x_itl (sqL upd_same) fun G hG => ?_
    have nGp : p ≠ G := ne_of_none upd_same hG
    have hGB : B G = none := by rw [upd_ne (Ne.symm nGp)] at hG; exact hG
    have nGy : y ≠ G := ne_of_none y3 hGB
    refine dc_walk (walk_listR (R := rS) (Hb := H) (paired_S' ys)) (fun n A => SX [] B A ∧ A p = some (.lst (ys.map V.str)) ∧ ∃ kv, A G = some (.dK kv) ∧ KVs rI A kv (pick wl (ys.take n))) ?_ ?_ ?_ ?_
    · exact ⟨(SX.new np).trans (SX.new hG), by rw [upd_ne nGp]; exact upd_same, [], upd_same, .nil⟩
    · exact fun n A _ h => sqL h.2.1
    · rintro n x A0 A hn ⟨sA, pA, kv, dA, kA⟩ ⟨rfl, s, hs', rfl⟩
      obtain ⟨a, ea⟩ := lookA_some (hp.mem_iff.mp (getMem hs'))
      obtain ⟨v, ev, rfl⟩ := hk.at_ ea
      walk_at "rd"
      refine ⟨rfl, ?_⟩
      walk_at "rd"
      refine x_dg' (.inl (sA _ _ List.not_mem_nil w3)) ev ?_
      have kk : kv.map (·.1) = (ys.take n).map Sum.inr := by rw [kA.keys, pick_keys]
      have kl : kv.length = (ys.take n).length := by simpa using congrArg List.length kk
      refine ⟨kv, Sum.inr s, rfl, dA, lt_size (by rw [kl, List.length_take]; omega), ?_⟩
      rw [putK_fresh _ kk (nodup_take (hp.nodup_iff.mpr ok.nd) hs')]
      refine ⟨sx_nil_of (S := [G]) ((nil_sx sA).trans (SX.mut List.mem_cons_self)) (by simp [hGB]), by rw [upd_ne nGp]; exact pA, _, upd_same, ?_⟩
      rw [pick_at hs', ea]
      exact Paired.app kA (.cons ⟨rfl, rfl⟩ .nil)
    rintro A ⟨sA, pA, kv, dA, kA⟩
    rw [List.take_length] at kA
    walk_at "rd"
    have y4 := sA _ _ List.not_mem_nil y3
    refine x_setF [] y4 T.cl_Wish T.n_Wish_table rfl (by decide) (by decide) ?_
    walk_at "rd"
    refine x_setF ["table"] upd_same T.cl_Wish T.n_Wish_endless rfl (by decide) (by decide +kernel) ?_
    rw [upd_upd]
    walk_at "rd"
    refine x_setF ["table", "endless"] upd_same T.cl_Wish T.n_Wish_coming rfl (by decide) (by decide +kernel) ?_
    rw [upd_upd]
    have sr := pick_srt ok.nd hp hs
    refine k _ (pick wl ys) ((nil_sx (s3.trans sA)).trans (SX.mut List.mem_cons_self)) ⟨⟨dy, G, kv, upd_same, by rw [upd_ne (Ne.symm nGy)]; exact dA, kA⟩, sr.srt⟩ sr
end
end M

namespace M
open PySem PySem.Spec PyProof.Rows L2
/-! ### deep comparing of lists of flat items -/
def dv : V → PyData
  | .str s => .str s
  | .int i => .int i
  | .bl b => .bool b
  | _ => .none
def okV : V → Bool
  | .str s => PyData.strOk s
  | .int _ | .bl _ | .non => true
  | _ => false
theorem dp_all {K : PySem.W.Frag} {H : Hp} : ∀ {xs : List V}, (∀ x ∈ xs, okV x = true) → DpAll K H xs (xs.map dv)
  | [], _ => .nil
  | x :: xs, h => by
    refine .cons ?_ (dp_all fun y hy => h y (List.mem_cons_of_mem _ hy))
    have := h x List.mem_cons_self
    cases x with
    | str s => exact .str s
    | int i => exact .int i
    | bl b => exact .bl b
    | non => exact .non
    | _ => cases this
theorem lay_all : ∀ {xs : List V}, (∀ x ∈ xs, okV x = true) → PyData.canLayAll0 (xs.map dv) = true ∧ PyData.depthAll (xs.map dv) = 0
  | [], _ => ⟨by simp [PyData.canLayAll0], by simp [PyData.depthAll]⟩
  | x :: xs, h => by
    obtain ⟨a, b⟩ := lay_all fun y hy => h y (List.mem_cons_of_mem _ hy)
    have := h x List.mem_cons_self
    rw [List.map_cons]
    refine ⟨?_, ?_⟩
    · rw [PyData.canLayAll0, a, Bool.and_true]
      cases x <;> first | exact this | rfl | cases this
    · rw [PyData.depthAll, b]
      cases x <;> first | rfl | cases this | simp [dv, PyData.depth]
theorem shaped_flat {xs : List V} (h : ∀ x ∈ xs, okV x = true) : SeqAt.shaped (.list (xs.map dv)) = true := by
  obtain ⟨a, b⟩ := lay_all h
  unfold SeqAt.shaped
  rw [Bool.and_eq_true]
  refine ⟨?_, decide_eq_true ?_⟩
  · rw [PyData.canLay0]
    exact a
  · rw [PyData.depth, b]
    decide
theorem eqv_flat {xs : List V} (h : ∀ x ∈ xs, okV x = true) : PyData.eqv (.list (xs.map dv)) (.list (xs.map dv)) = true := by
  refine SeqAt.eqv_refl _ ?_
  rw [PyData.canLay0]
  exact (lay_all h).1
theorem x_neSame {K : PySem.W.Frag} {H : Hp} {Q : VK} {a b : Addr} {xs : List V} (h1 : SqL K H a xs) (h2 : SqL K H b xs) (ok : ∀ x ∈ xs, okV x = true) (k : Q (.bl false) H) : rNeD K (.ref a) (.ref b) H Q :=
  ⟨_, _, .lst h1 (dp_all ok), .lst h2 (dp_all ok), shaped_flat ok, shaped_flat ok, by rw [eqv_flat ok]; exact k⟩
theorem x_eqSame {K : PySem.W.Frag} {H : Hp} {Q : VK} {a b : Addr} {xs : List V} (h1 : SqL K H a xs) (h2 : SqL K H b xs) (ok : ∀ x ∈ xs, okV x = true) (k : Q (.bl true) H) : rEqD K (.ref a) (.ref b) H Q :=
  ⟨_, _, .lst h1 (dp_all ok), .lst h2 (dp_all ok), shaped_flat ok, shaped_flat ok, by rw [eqv_flat ok]; exact k⟩
theorem nameB_strOk {s : Str} (h : nameB s = true) : PyData.strOk s = true := by
  unfold nameB nameL at h
  simp only [Bool.and_eq_true, List.all_eq_true] at h
  unfold PyData.strOk
  rw [Array.all_eq_true_iff_forall_mem]
  intro c hc
  have := h.2 c (by simpa using hc)
  simp [lowB, digB] at this
  simp
  omega
theorem shaped_flatT {xs : List V} (h : ∀ x ∈ xs, okV x = true) : SeqAt.shaped (.tuple (xs.map dv)) = true := by
  obtain ⟨a, b⟩ := lay_all h
  unfold SeqAt.shaped
  rw [Bool.and_eq_true]
  refine ⟨?_, decide_eq_true ?_⟩
  · rw [PyData.canLay0]
    exact a
  · rw [PyData.depth, b]
    decide
theorem eqv_flatT {xs : List V} (h : ∀ x ∈ xs, okV x = true) : PyData.eqv (.tuple (xs.map dv)) (.tuple (xs.map dv)) = true := by
  refine SeqAt.eqv_refl _ ?_
  rw [PyData.canLay0]
  exact (lay_all h).1
theorem x_neSameT {K : PySem.W.Frag} {H : Hp} {Q : VK} {a b : Addr} {xs : List V} (h1 : SqT K H a xs) (h2 : SqT K H b xs) (ok : ∀ x ∈ xs, okV x = true) (k : Q (.bl false) H) : rNeD K (.ref a) (.ref b) H Q :=
  ⟨_, _, .tup h1 (dp_all ok), .tup h2 (dp_all ok), shaped_flatT ok, shaped_flatT ok, by rw [eqv_flatT ok]; exact k⟩
end M

namespace M
open PySem PySem.Spec PyProof.Rows L2
section
variable {P : Program} {w : World} {K : PySem.W.Frag} {mg : Str → Option Value} {base : Heap}
def sp_Wish_worths (T : Tx K mg) : Sp := fun vs H Q _ => ∃ (y : Addr) (tb : List (Str × Int)) (e : Int) (cm : Bool), vs = [.ref y] ∧ WishAt T H y tb e cm ∧ (tb.map (·.1)).Nodup ∧ tb.length ≤ 1000 ∧
  ∀ q H' kv, H q = none → SX [] H H' → H' q = some (.dK kv) → KVs rI H' kv tb → Q (.ref q) H'
theorem ok_Wish_worths (T : Tx K mg) : FnOk P w K mg base CX0 1 T.Wish_worths.f T.Wish_worths.fd P_Wish_worths (sp_Wish_worths T) := by
  refine T.Wish_worths.F.ok sc_Wish_worths (fun vs H Q E h => ?_) (fun cdv A outer s H vs Q E hr h => ?_)
  · obtain ⟨y, tb, e, cm, rfl, wa, nd1, hlen, k⟩ := h
    rfl
  have hu := hu_of hr
  have nd := sc_Wish_worths.nd
  obtain ⟨y, tb, e, cm, rfl, wa, nd1, hlen, k⟩ := h
  refine ⟨_, (pss_one (ps_ret (pe_lockR (pe_dc (own := [("name", 1)]) rfl nd (pi_keys (w_fld (K := K) rfl (pv 0) rfl)) (blkOk_by (own := [("name", 1)]) (N := N_Wish_worths) (sc := defScope s_Wish_worths) (by decide +kernel)) (fun _ _ _ _ _ => (pg_name (i := 1) nd rfl (Or.inl rfl))) (fun _ _ _ _ _ => pts_nil) (fun _ _ _ _ _ => (pv 1)) (fun _ _ _ _ _ => (pe_dget hu (w_fld (K := K) rfl (pv 0) rfl) (pv 1) (fun _ _ => rfl))))))), ?_⟩
  refine x_start (σ' := [some _, none]) rfl ?_
  try simp only [cx_n, cx_K, cx_w, cx_P]
  obtain ⟨dy, d, kvs, hy, hd, hk⟩ := id wa.ex
  walk_at "rd"
  refine x_lockRE (.inl hd) fun od HL eL ne => ?_
  have nyd : y ≠ d := ne_of hy hd (by intro z; cases z)
  have yL : HL y = some (.ins T.a_Wish dy (wishF d e cm)) := by rw [ne _ nyd]; exact hy
  refine x_dc ?_
  walk_at "rd"
  refine x_getF yL T.cl_Wish T.n_Wish_table wish_table ?_
  refine ⟨d, od, rfl, .inl ⟨kvs, eL, fun D hD => ?_⟩⟩
  have hDd : d ≠ D := ne_of_none eL hD
  have hD0 : H D = none := by rw [← ne D (Ne.symm hDd)]; exact hD
  refine dc_walk (walk_keysR hk) (fun n A => SX [] HL A ∧ ∃ kv, A D = some (.dK kv) ∧ KVs rI A kv (tb.take n)) ⟨SX.new hD, [], upd_same, .nil⟩ (fun n A _ h => h.1 _ _ List.not_mem_nil eL) ?_ ?_
  · rintro n x A0 A hn ⟨sA, kv, dA, kA⟩ ⟨rfl, q, v0, hq, rfl, _⟩
    obtain ⟨v, ev, rv⟩ := hk.in_ nd1 (getMem hq)
    walk_at "rd"
    refine ⟨rfl, ?_⟩
    walk_at "rd"
    refine x_getF (sA _ _ List.not_mem_nil yL) T.cl_Wish T.n_Wish_table wish_table ?_
    walk_at "rd"
    refine x_dg' (.inr ⟨od, sA _ _ List.not_mem_nil eL⟩) ev ?_
    have kk : kv.map (·.1) = ((tb.map (·.1)).take n).map Sum.inr := by rw [kA.keys, List.map_take]
    have kl : kv.length = (tb.take n).length := Paired.length kA
    have hq1 : (tb.map (·.1))[n]? = some q.1 := by rw [List.getElem?_map, hq]; rfl
    refine ⟨kv, Sum.inr q.1, rfl, dA, lt_size (by rw [kl, List.length_take]; omega), ?_⟩
    rw [putK_fresh _ kk (nodup_take nd1 hq1)]
    refine ⟨sx_nil_of (S := [D]) ((nil_sx sA).trans (SX.mut List.mem_cons_self)) (by simp [hD]), _, upd_same, ?_⟩
    rw [take_succ_of hq]
    exact Paired.app kA (.cons ⟨rfl, rv⟩ .nil)
  · rintro A ⟨sA, kv, dA, kA⟩
    rw [List.take_length] at kA
    refine ⟨sA _ _ List.not_mem_nil eL, ?_⟩
    exact k D _ kv hD0 (unlock_sx ne sA) (by rw [put_ne (Ne.symm hDd)]; exact dA) kA
def sp_suited (T : Tx K mg) : Sp := fun vs H Q _ => ∃ (x y : Addr) (hands : Int) (start : Str) (tbl : List (Str × Stand)) (tb : List (Str × Int)) (e : Int) (cm : Bool), vs = [.ref x, .ref y] ∧ WorkAt T H x hands start tbl ∧ WishAt T H y tb e cm ∧ tb.map (·.1) = endsOf tbl ∧ (∀ n ∈ endsOf tbl, nameB n = true) ∧
  ∀ H', SX [] H H' → Q .non H'
theorem ok_suited (T : Tx K mg) : FnOk P w K mg base CX0 1 T.suited.f T.suited.fd P_suited (sp_suited T) := by
  refine T.suited.F.ok sc_suited (fun vs H Q E h => ?_) (fun cdv A outer s H vs Q E hr h => ?_)
  · obtain ⟨x, y, hands, start, tbl, tb, e, cm, rfl, wa, wi, he, hn, k⟩ := h
    rfl
  have hu := hu_of hr
  have nd := sc_suited.nd
  obtain ⟨x, y, hands, start, tbl, tb, e, cm, rfl, wa, wi, he, hn, k⟩ := h
  refine ⟨_, (pss_one (ps_if (pt_cmpR (w_neD (K := K) rfl hr.units) (pe_callTy (cl_tupD rfl) (by rfl) T.b_tuple (by decide +kernel) (pa_cons (w_fld (K := K) rfl (pv 1) rfl) pa_nil)) (w_fld (K := K) rfl (pv 0) rfl) (nomark _)) (pss_one ps_never) pss_nil)), ?_⟩
  refine x_start (σ' := [some _, some _]) rfl ?_
  try simp only [cx_n, cx_K, cx_w, cx_P]
  obtain ⟨dy, d, kvs, hy, hd, hk⟩ := id wi.ex
  obtain ⟨dx, d5, nm, en, hx, _, _, hen⟩ := id wa.ex
  walk_at "rd"
  refine x_getF hy T.cl_Wish T.n_Wish_table wish_table ?_
  walk_at "rd"
  refine ⟨d, kvs, rfl, hd, fun q hq => ?_⟩
  have sq : SX [] H (upd H q (.tup (kvs.map fun kv => kV kv.1))) := SX.new hq
  have ek : (kvs.map fun kv => kV kv.1) = (endsOf tbl).map V.str := by
    have h1 : kvs.map (·.1) = (tb.map (·.1)).map Sum.inr := hk.keys
    have h2 : (kvs.map fun kv => kV kv.1) = (kvs.map (·.1)).map kV := by rw [List.map_map]; rfl
    rw [h2, h1, he, List.map_map]
    rfl
  walk_at "rd"
  refine x_getF (sq _ _ List.not_mem_nil hx) T.cl_Work T.n_Work_ends (look_next (by decide +kernel) (look_next (by decide +kernel) (look_next (by decide +kernel) (look_next (by decide +kernel) look_here)))) ?_
  refine x_neSameT (sqT (by rw [upd_same, ek])) (sq.le0.t hen) (fun v hv => ?_) ?_
  · obtain ⟨n, m, rfl⟩ := List.mem_map.mp hv
    exact nameB_strOk (hn n m)
  walk_at "rd"
  exact k _ sq
end
end M

namespace M
open PySem PySem.Spec PyProof.Rows L2
/-! ### duties -/
def moverIn (ns : List Int) : Stand → Bool
  | .hand h _ => decide (h ∈ ns)
  | _ => false
theorem inV_int {i : Int} : ∀ {ns : List Int}, inV (.int i) (ns.map V.int) = decide (i ∈ ns)
  | [] => by simp [inV]
  | n :: ns => by
    have ih := inV_int (i := i) (ns := ns)
    unfold inV at ih ⊢
    rw [List.map_cons, List.any_cons, ih]
    show ((n == i) || _) = _
    by_cases e : n = i
    · subst e
      simp
    · have : (n == i) = false := by simpa using e
      rw [this, Bool.false_or]
      have : ¬ i = n := fun z => e z.symm
      simp [this]
theorem inV_non : ∀ {ns : List Int}, inV .non (ns.map V.int) = false
  | [] => rfl
  | n :: ns => by
    have ih := inV_non (ns := ns)
    unfold inV at ih ⊢
    rw [List.map_cons, List.any_cons, ih]
    rfl
theorem inV_mover {ns : List Int} (st : Stand) : inV (moverV st) (ns.map V.int) = moverIn ns st := by
  cases st with
  | hand h ms => exact inV_int
  | fin => exact inV_non
  | chance ds => exact inV_non
theorem flat_ints (ns : List Int) : (ns.map V.int).all flatV = true := by
  rw [List.all_map]
  exact List.all_eq_true.mpr fun _ _ => rfl
theorem rows_nodupB {st : Stand} (h : st.nd) : (st.rows.map (·.1)).Nodup := by
  cases st with
  | fin => exact List.nodup_nil
  | hand a b => exact h
  | chance b => show ((b.map _).map _).Nodup; rw [List.map_map]; exact h
/-- drawn into bad by one step -/
def drawnB (ns : List Int) (bad : List Str) (st : Stand) : Bool :=
  if st.rows.length = 0 then false else if moverIn ns st = true then st.tos.all fun t => decide (t ∈ bad) else st.tos.any fun t => decide (t ∈ bad)
theorem key_of' {α : Type} {l : List (Str × α)} {s : Str} {a : α} (h : lookA l s = some a) : s ∈ l.map (·.1) := List.mem_map.mpr ⟨(s, a), lookA_mem h, rfl⟩
theorem x_prop {C : Addr} {sp : Sp} {dvs : List V} {E : XK} {ta : TE} {σ : L2.St} {H : Hp} {Q : VK} (k : ta σ H fun x H1 => ∃ a dx fs, x = .ref a ∧ H1 a = some (.ins C dx fs) ∧ sp (.ref a :: dvs) H1 Q E) : tProp C sp dvs E ta σ H Q := k
end M

namespace M
open PySem PySem.Spec PyProof.Rows L2
/-- where what the lot would keep off can't be kept off -/
inductive BadP (bel : Str → Prop) (ns : List Int) (sts : List (Str × Stand)) : Str → Prop
  | base {n : Str} : lookA sts n = some .fin → bel n → BadP bel ns sts n
  | all {n : Str} {st : Stand} : lookA sts n = some st → moverIn ns st = true → st.rows.length ≠ 0 → (∀ t ∈ st.tos, BadP bel ns sts t) → BadP bel ns sts n
  | any {n t : Str} {st : Stand} : lookA sts n = some st → moverIn ns st = false → t ∈ st.tos → BadP bel ns sts t → BadP bel ns sts n
theorem rows_tos_len (st : Stand) : st.rows.length = st.tos.length := by rw [← rows_tos, List.length_map]
theorem badP_drawn {bel : Str → Prop} {ns : List Int} {sts : List (Str × Stand)} {bad : List Str} {n : Str} {st : Stand} (h : ∀ t ∈ bad, BadP bel ns sts t) (e : lookA sts n = some st) (d : drawnB ns bad st = true) : BadP bel ns sts n := by
  unfold drawnB at d
  split at d
  · cases d
  · rename_i h0
    split at d
    · rename_i m
      rw [List.all_eq_true] at d
      exact .all e m h0 fun t ht => h t (of_decide_eq_true (d t ht))
    · rename_i m
      rw [List.any_eq_true] at d
      obtain ⟨t, ht, q⟩ := d
      exact .any e (by simpa using m) ht (h t (of_decide_eq_true q))
theorem badP_in {bel : Str → Prop} {ns : List Int} {sts : List (Str × Stand)} {bad : List Str} (base : ∀ n, lookA sts n = some .fin → bel n → n ∈ bad) (cl : ∀ n st, lookA sts n = some st → drawnB ns bad st = true → n ∈ bad) {n : Str} (h : BadP bel ns sts n) : n ∈ bad := by
  induction h with
  | base e b => exact base _ e b
  | all e m h0 _ ih =>
    refine cl _ _ e ?_
    unfold drawnB
    rw [if_neg h0, if_pos m, List.all_eq_true]
    exact fun t ht => decide_eq_true (ih t ht)
  | @any n t st e m ht _ ih =>
    refine cl _ _ e ?_
    unfold drawnB
    have h0 : ¬ st.rows.length = 0 := fun z => by
      rw [rows_tos_len] at z
      rw [List.eq_nil_of_length_eq_zero z] at ht
      cases ht
    rw [if_neg h0, if_neg (by rw [m]; exact Bool.false_ne_true), List.any_eq_true]
    exact ⟨_, ht, decide_eq_true ih⟩
/-- a table's own stands lead on as the drawn ones -/
theorem badP_tbl {bel : Str → Prop} {ns : List Int} {sts tbl : List (Str × Stand)} (h : ∀ n st, lookA sts n = some st → ∃ st', lookA tbl n = some st' ∧ SrtStand st st') {n : Str} (b : BadP bel ns sts n) : BadP bel ns tbl n := by
  induction b with
  | base e b =>
    obtain ⟨st', e', ss⟩ := h _ _ e
    cases st' with
    | fin => exact .base e' b
    | hand a c => exact ss.elim
    | chance c => exact ss.elim
  | @all n st e m h0 _ ih =>
    obtain ⟨st', e', ss⟩ := h _ _ e
    have mv : moverIn ns st' = moverIn ns st := by
      cases st <;> cases st' <;> first | exact ss.elim | rfl | (have := ss.1; subst this; rfl)
    refine .all e' (by rw [mv]; exact m) (by rw [rows_tos_len, (SrtStand.tos ss).length_eq, ← rows_tos_len]; exact h0) fun t ht => ih t ((SrtStand.tos ss).mem_iff.mp ht)
  | @any n t st e m ht _ ih =>
    obtain ⟨st', e', ss⟩ := h _ _ e
    have mv : moverIn ns st' = moverIn ns st := by
      cases st <;> cases st' <;> first | exact ss.elim | rfl | (have := ss.1; subst this; rfl)
    exact .any e' (by rw [mv]; exact m) ((SrtStand.tos ss).mem_iff.mpr ht) ih
end M

namespace M
open PySem PySem.Spec PyProof.Rows L2
/-- what is known of a work's table -/
structure TbOk (start : Str) (tbl : List (Str × Stand)) : Prop where
  nd : (tbl.map (·.1)).Nodup
  len : tbl.length ≤ 100
  all : ∀ q ∈ tbl, q.2.nd ∧ q.2.size ≤ 4 ∧ (∀ t ∈ q.2.tos, t ∈ tbl.map (·.1)) ∧ (isEnd q.2 = false → 1 ≤ q.2.size)
  nm : ∀ n ∈ tbl.map (·.1), nameB n = true
  st : start ∈ tbl.map (·.1)
  srt : sortedS (tbl.map (·.1)) = true
theorem TbOk.of {hands : Int} {start : Str} {sts tbl : List (Str × Stand)} (o : WorkOk hands start sts) (t : Tbl sts tbl) : TbOk start tbl := by
  have C := o.closed
  have km : ∀ n, n ∈ tbl.map (·.1) ↔ n ∈ sts.map (·.1) := fun n => t.perm.mem_iff
  refine ⟨t.perm.nodup_iff.mpr o.nd, ?_, fun q hq => ?_, fun n hn => ?_, (km _).mpr o.st, t.srt⟩
  · have h1 := t.perm.length_eq
    rw [List.length_map, List.length_map] at h1
    have := o.len.2
    omega
  · obtain ⟨st, e, s⟩ := t.all q hq
    obtain ⟨c1, c2, c3⟩ := C.all _ (lookA_mem e)
    refine ⟨s.nd c1, by rw [s.size]; exact c2, fun x hx => (km x).mpr (c3 x ((SrtStand.tos s).mem_iff.mp hx)), fun hm => ?_⟩
    have so := (o.all _ (lookA_mem e)).2
    generalize q.2 = b at s hm
    rw [s.size]
    cases st with
    | fin => cases b <;> first | exact s.elim | (exact absurd hm (by decide))
    | hand a c => exact so.2.2.1
    | chance c => exact so.1
  · obtain ⟨z, hz, rfl⟩ := List.mem_map.mp ((km n).mp hn)
    exact (o.all z hz).1
theorem TbOk.ends {start : Str} {tbl : List (Str × Stand)} (t : TbOk start tbl) : ∀ n ∈ endsOf tbl, nameB n = true := fun n h => t.nm n (endsOf_sub h)
theorem TbOk.look {start : Str} {tbl : List (Str × Stand)} (t : TbOk start tbl) {n : Str} {st : Stand} (e : lookA tbl n = some st) : st.nd ∧ st.size ≤ 4 ∧ (∀ t ∈ st.tos, t ∈ tbl.map (·.1)) ∧ (isEnd st = false → 1 ≤ st.size) := t.all _ (lookA_mem e)
/-- a wish for a table -/
structure TwOk (tbl : List (Str × Stand)) (tb : List (Str × Int)) : Prop where
  key : tb.map (·.1) = endsOf tbl
  bd : ∀ q ∈ tb, -99 ≤ q.2 ∧ q.2 ≤ 99
theorem inV_strD {s : Str} : ∀ {l : List Str}, inV (.str s) (l.map V.str) = decide (s ∈ l)
  | [] => by simp [inV]
  | n :: ns => by
    have ih := inV_strD (s := s) (l := ns)
    unfold inV at ih ⊢
    rw [List.map_cons, List.any_cons, ih]
    show ((n == s) || _) = _
    by_cases e : n = s
    · subst e
      simp
    · have : (n == s) = false := by simpa using e
      rw [this, Bool.false_or]
      have : ¬ s = n := fun z => e z.symm
      simp [this]
/-- texts in a tuple that lies in the heap -/
def rTS : RR (List Str) := fun H v l => ∃ t, v = .ref t ∧ H t = some (.tup (l.map V.str))
theorem mono_TS : Mono rTS := fun _ _ _ _ e ⟨t, h1, h2⟩ => ⟨t, h1, e.tup _ _ h2⟩
def ltS (a b : Str) : Prop := a.cps.toList < b.cps.toList
theorem strict_of : ∀ {l : List Str}, l.Pairwise leS → l.Nodup → l.Pairwise ltS
  | [], _, _ => .nil
  | a :: l, h, n => by
    obtain ⟨h1, h2⟩ := List.pairwise_cons.mp h
    obtain ⟨n1, n2⟩ := List.nodup_cons.mp n
    refine List.pairwise_cons.mpr ⟨fun b hb => ?_, strict_of h2 n2⟩
    refine Classical.byContradiction fun c => ?_
    have e : a = b := leS_antisymm (h1 b hb) (List.not_lt.mp c)
    exact n1 (e ▸ hb)
/-- a book of moves between safe stands -/
structure BookOk (bel : Str → Prop) (ns : List Int) (tbl : List (Str × Stand)) (bk : List (Str × List Str)) : Prop where
  nd : (bk.map (·.1)).Nodup
  each : ∀ q ∈ bk, ∃ st, lookA tbl q.1 = some st ∧ moverIn ns st = true ∧ ¬ BadP bel ns tbl q.1 ∧ q.2 ≠ [] ∧ q.2.length ≤ 4 ∧ q.2.Pairwise ltS ∧ ∀ z, z ∈ q.2 ↔ ∃ to, lookA st.rows z = some to ∧ ¬ BadP bel ns tbl to
  all : ∀ n st, lookA tbl n = some st → moverIn ns st = true → ¬ BadP bel ns tbl n → n ∈ bk.map (·.1)
theorem safe_move {bel : Str → Prop} {ns : List Int} {tbl : List (Str × Stand)} {n : Str} {st : Stand} (hnd : st.nd) (e : lookA tbl n = some st) (m : moverIn ns st = true) (h1 : 1 ≤ st.size) (nb : ¬ BadP bel ns tbl n) : ∃ z t, lookA st.rows z = some t ∧ ¬ BadP bel ns tbl t := by
  refine Classical.byContradiction fun c => nb (.all e m (by rw [rows_tos_len, tos_len]; omega) fun t ht => ?_)
  rw [← rows_tos] at ht
  obtain ⟨q, hq, rfl⟩ := List.mem_map.mp ht
  exact Classical.byContradiction fun z => c ⟨q.1, q.2, lookA_nodup (rows_nodupB hnd) hq, z⟩
theorem moverIn_end {ns : List Int} {st : Stand} (m : moverIn ns st = true) : isEnd st = false := by cases st <;> first | rfl | cases m
end M

namespace M
open PySem PySem.Spec PyProof.Rows L2
theorem lookA_perm {α : Type} {l m : List (Str × α)} (p : l.Perm m) (hn : (m.map (·.1)).Nodup) (n : Str) : lookA l n = lookA m n := by
  cases e : lookA l n with
  | some a => exact (lookA_nodup hn (p.mem_iff.mp (lookA_mem e))).symm
  | none =>
    have : n ∉ m.map (·.1) := fun h => by
      obtain ⟨a, ea⟩ := lookA_some ((p.map (·.1)).mem_iff.mpr h)
      rw [e] at ea
      cases ea
    exact (lookA_none this).symm
theorem srt_mover {ns : List Int} {st st' : Stand} (ss : SrtStand st st') : moverIn ns st' = moverIn ns st := by
  cases st <;> cases st' <;> first | exact ss.elim | rfl | (have := ss.1; subst this; rfl)
theorem srt_end {st st' : Stand} (ss : SrtStand st st') : isEnd st' = isEnd st := by
  cases st <;> cases st' <;> first | exact ss.elim | rfl
theorem badP_back {bel : Str → Prop} {ns : List Int} {sts tbl : List (Str × Stand)} (h : ∀ n st, lookA tbl n = some st → ∃ st', lookA sts n = some st' ∧ SrtStand st' st) {n : Str} (b : BadP bel ns tbl n) : BadP bel ns sts n := by
  induction b with
  | base e b =>
    obtain ⟨st', e', ss⟩ := h _ _ e
    cases st' with
    | fin => exact .base e' b
    | hand a c => exact ss.elim
    | chance c => exact ss.elim
  | @all n st e m h0 _ ih =>
    obtain ⟨st', e', ss⟩ := h _ _ e
    refine .all e' (by rw [← srt_mover ss]; exact m) (by rw [rows_tos_len, ← (SrtStand.tos ss).length_eq, ← rows_tos_len]; exact h0) fun t ht => ih t ((SrtStand.tos ss).mem_iff.mpr ht)
  | @any n t st e m ht _ ih =>
    obtain ⟨st', e', ss⟩ := h _ _ e
    exact .any e' (by rw [← srt_mover ss]; exact m) ((SrtStand.tos ss).mem_iff.mp ht) ih
section
variable {hands : Int} {start : Str} {sts tbl : List (Str × Stand)} {wl tb : List (Str × Int)}
theorem Tbl.back (t : Tbl sts tbl) (n : Str) (st : Stand) (e : lookA tbl n = some st) : ∃ st', lookA sts n = some st' ∧ SrtStand st' st := t.all _ (lookA_mem e)
theorem Tbl.on (t : Tbl sts tbl) (n : Str) (st : Stand) (e : lookA sts n = some st) : ∃ st', lookA tbl n = some st' ∧ SrtStand st st' := by
  obtain ⟨st', e'⟩ := lookA_some (t.perm.mem_iff.mpr (key_of' e))
  obtain ⟨st2, e2, ss⟩ := t.back n st' e'
  rw [e] at e2
  cases e2
  exact ⟨st', e', ss⟩
theorem ends_tbl (o : WorkOk hands start sts) (t : Tbl sts tbl) (h : (wl.map (·.1)).Perm (endsOf sts)) (s : Srt wl tb) : tb.map (·.1) = endsOf tbl := by
  have tnd : (tbl.map (·.1)).Nodup := t.perm.nodup_iff.mpr o.nd
  refine List.Perm.eq_of_pairwise (fun a b _ _ h1 h2 => leS_antisymm h1 h2) (sortedS_pw s.srt) ((sortedS_pw t.srt).sublist (List.filter_sublist.map _)) ((s.perm.map _).trans (h.trans ?_))
  rw [endsOf_eq o.nd, endsOf_eq tnd]
  have e : (sts.map (·.1)).filter (fun n => match lookA sts n with | some st => isEnd st | none => false) = (sts.map (·.1)).filter (fun n => match lookA tbl n with | some st => isEnd st | none => false) := by
    refine List.filter_congr fun n hn => ?_
    obtain ⟨st, e1⟩ := lookA_some hn
    obtain ⟨st', e2, ss⟩ := t.on n st e1
    rw [e1, e2]
    exact (srt_end ss).symm
  exact (List.Perm.of_eq e).trans (t.perm.symm.filter _)
theorem rg_full {n : Int} (h : 0 ≤ n) : rgV 0 n = ((List.range n.toNat).map fun i => ((i : Nat) : Int)).map V.int := by
  unfold rgV
  rw [List.map_map, Int.sub_zero]
  refine List.map_congr_left fun i _ => ?_
  show V.int (0 + (i : Int)) = V.int (i : Int)
  rw [Int.zero_add]
end
end M

namespace M
open PySem PySem.Spec PyProof.Rows L2 ReR
/-! ### data, over heaps -/
theorem hid_sx {A B : Hp} {p : Addr} (s : SX [p] A B) : ∀ b o, hid [p] A b = some o → hid [p] B b = some o := fun b o h => by
  obtain ⟨n, e⟩ := hid_at h
  rw [hid_of n]
  exact s b o n e
theorem _root_.ReR.DpD.sx {A B : Hp} {p : Addr} {v : V} {d : PyData} (s : SX [p] A B) (h : DpD (hid [p] A) v d) : DpD (hid [p] B) v d := h.mono (hid_sx s)
theorem _root_.ReR.DpDs.sx {A B : Hp} {p : Addr} {v : List V} {d : List PyData} (s : SX [p] A B) (h : DpDs (hid [p] A) v d) : DpDs (hid [p] B) v d := h.mono (hid_sx s)
theorem _root_.ReR.DpD.out {A : Hp} {S : List Addr} {v : V} {d : PyData} (h : DpD (hid S A) v d) : DpD A v d := h.mono fun b o e => (hid_at e).2
theorem _root_.ReR.DpDs.out {A : Hp} {S : List Addr} {v : List V} {d : List PyData} (h : DpDs (hid S A) v d) : DpDs A v d := h.mono fun b o e => (hid_at e).2
theorem _root_.ReR.DpD.nil {A B : Hp} {v : V} {d : PyData} (s : SX [] A B) (h : DpD A v d) : DpD B v d := h.mono fun b o e => s b o List.not_mem_nil e
theorem _root_.ReR.DpDs.nil_ {A B : Hp} {v : List V} {d : List PyData} (s : SX [] A B) (h : DpDs A v d) : DpDs B v d := h.mono fun b o e => s b o List.not_mem_nil e
theorem _root_.ReR.DpDs.len {A : Hp} : ∀ {v : List V} {d : List PyData}, DpDs A v d → v.length = d.length
  | _, _, .nil => rfl
  | _, _, .cons _ r => congrArg (· + 1) r.len
theorem _root_.ReR.DpDs.at_ {A : Hp} : ∀ {v : List V} {d : List PyData} {i : Nat} {y : V}, DpDs A v d → v[i]? = some y → ∃ e, d[i]? = some e ∧ DpD A y e
  | _, _, i, _, .nil, h => by cases i <;> cases h
  | _, _, 0, _, .cons h r, e => by cases e; exact ⟨_, rfl, h⟩
  | _, _, i + 1, _, .cons h r, e => r.at_ (i := i) e
theorem _root_.ReR.DpDs.app {A : Hp} : ∀ {v w : List V} {d e : List PyData}, DpDs A v d → DpDs A w e → DpDs A (v ++ w) (d ++ e)
  | _, _, _, _, .nil, h => h
  | _, _, _, _, .cons h r, k => .cons h (r.app k)
theorem _root_.ReR.DpDs.take {A : Hp} : ∀ {v : List V} {d : List PyData} (n : Nat), DpDs A v d → DpDs A (v.take n) (d.take n)
  | _, _, _, .nil => by rw [List.take_nil, List.take_nil]; exact .nil
  | _, _, 0, .cons h r => .nil
  | _, _, n + 1, .cons h r => .cons h (r.take n)
theorem _root_.ReR.DpDs.drop {A : Hp} : ∀ {v : List V} {d : List PyData} (n : Nat), DpDs A v d → DpDs A (v.drop n) (d.drop n)
  | _, _, _, .nil => by rw [List.drop_nil, List.drop_nil]; exact .nil
  | _, _, 0, .cons h r => .cons h r
  | _, _, n + 1, .cons h r => r.drop n
theorem _root_.ReR.DpDs.strs {A : Hp} : ∀ (l : List Str), DpDs A (l.map V.str) (l.map PyData.str)
  | [] => .nil
  | s :: l => .cons (.str s) (ReR.DpDs.strs l)
mutual
theorem _root_.ReR.DpD.dp {K : PySem.W.Frag} {H : Hp} : ∀ {v : V} {d : PyData}, DpD H v d → d.canLay0 = true → Dp K H v d
  | _, _, .non, _ => .non
  | _, _, .bl b, _ => .bl b
  | _, _, .int i, _ => .int i
  | _, _, .str x, _ => .str x
  | _, _, .lst e h, c => .lst (sqL e) (h.dp (by rw [PyData.canLay0] at c; exact c))
  | _, _, .tup e h, c => .tup (sqT e) (h.dp (by rw [PyData.canLay0] at c; exact c))
  | _, _, .dic e h, c => by rw [PyData.canLay0] at c; cases c
theorem _root_.ReR.DpDs.dp {K : PySem.W.Frag} {H : Hp} : ∀ {v : List V} {d : List PyData}, DpDs H v d → PyData.canLayAll0 d = true → DpAll K H v d
  | _, _, .nil, _ => .nil
  | _, _, .cons h r, c => by
    rw [PyData.canLayAll0, Bool.and_eq_true] at c
    exact .cons (h.dp c.1) (r.dp c.2)
end
theorem shaped_lay {d : PyData} (h : SeqAt.shaped d = true) : d.canLay0 = true := by
  unfold SeqAt.shaped at h
  rw [Bool.and_eq_true] at h
  exact h.1
/-- two things with the same data are equal -/
theorem x_eqDat {K : PySem.W.Frag} {H : Hp} {Q : VK} {v u : V} {d : PyData} (h1 : DpD H v d) (h2 : DpD H u d) (s : SeqAt.shaped d = true) (q : Q (.bl true) H) : rEqD K v u H Q :=
  ⟨d, d, h1.dp (shaped_lay s), h2.dp (shaped_lay s), s, s, by rw [SeqAt.eqv_refl _ (shaped_lay s)]; exact q⟩
theorem x_neDat {K : PySem.W.Frag} {H : Hp} {Q : VK} {v u : V} {d : PyData} (h1 : DpD H v d) (h2 : DpD H u d) (s : SeqAt.shaped d = true) (q : Q (.bl false) H) : rNeD K v u H Q :=
  ⟨d, d, h1.dp (shaped_lay s), h2.dp (shaped_lay s), s, s, by rw [SeqAt.eqv_refl _ (shaped_lay s)]; exact q⟩
end M

namespace M
open PySem PySem.Spec PyProof.Rows L2 ReR
/-! ### things as data -/
def tyD : PyData → String
  | .none => "NoneType"
  | .bool _ => "bool"
  | .int _ => "int"
  | .str _ => "str"
  | .list _ => "list"
  | .tuple _ => "tuple"
  | .dict _ => "dict"
theorem _root_.ReR.DpD.ty {K : PySem.W.Frag} {H : Hp} {v : V} {d : PyData} (h : DpD H v d) : TyX K H v (.type (tyD d)) := by
  cases h with
  | non => exact .base .non
  | bl b => exact .base (.bl b)
  | int i => exact .base (.int i)
  | str x => exact .base (.str x)
  | lst e _ => exact .base (.lst e)
  | tup e _ => exact .base (.tup e)
  | dic e _ =>
    rcases e with e | ⟨o, e⟩
    · exact .base (.dK e)
    · exact .fDict e
theorem kit_str : ∀ d : PyData, kitB (tyD d) "str" = some (match d with | .str _ => true | _ => false)
  | .none => (by decide +kernel : kitB "NoneType" "str" = some false)
  | .bool _ => (by decide +kernel : kitB "bool" "str" = some false)
  | .int _ => (by decide +kernel : kitB "int" "str" = some false)
  | .str _ => (by decide +kernel : kitB "str" "str" = some true)
  | .list _ => (by decide +kernel : kitB "list" "str" = some false)
  | .tuple _ => (by decide +kernel : kitB "tuple" "str" = some false)
  | .dict _ => (by decide +kernel : kitB "dict" "str" = some false)
theorem kit_tup : ∀ d : PyData, kitB (tyD d) "tuple" = some (match d with | .tuple _ => true | _ => false)
  | .none => (by decide +kernel : kitB "NoneType" "tuple" = some false)
  | .bool _ => (by decide +kernel : kitB "bool" "tuple" = some false)
  | .int _ => (by decide +kernel : kitB "int" "tuple" = some false)
  | .str _ => (by decide +kernel : kitB "str" "tuple" = some false)
  | .list _ => (by decide +kernel : kitB "list" "tuple" = some false)
  | .tuple _ => (by decide +kernel : kitB "tuple" "tuple" = some true)
  | .dict _ => (by decide +kernel : kitB "dict" "tuple" = some false)
theorem kit_lst : ∀ d : PyData, kitB (tyD d) "list" = some (match d with | .list _ => true | _ => false)
  | .none => (by decide +kernel : kitB "NoneType" "list" = some false)
  | .bool _ => (by decide +kernel : kitB "bool" "list" = some false)
  | .int _ => (by decide +kernel : kitB "int" "list" = some false)
  | .str _ => (by decide +kernel : kitB "str" "list" = some false)
  | .list _ => (by decide +kernel : kitB "list" "list" = some true)
  | .tuple _ => (by decide +kernel : kitB "tuple" "list" = some false)
  | .dict _ => (by decide +kernel : kitB "dict" "list" = some false)
theorem kit_dict : ∀ d : PyData, kitB (tyD d) "dict" = some (match d with | .dict _ => true | _ => false)
  | .none => (by decide +kernel : kitB "NoneType" "dict" = some false)
  | .bool _ => (by decide +kernel : kitB "bool" "dict" = some false)
  | .int _ => (by decide +kernel : kitB "int" "dict" = some false)
  | .str _ => (by decide +kernel : kitB "str" "dict" = some false)
  | .list _ => (by decide +kernel : kitB "list" "dict" = some false)
  | .tuple _ => (by decide +kernel : kitB "tuple" "dict" = some false)
  | .dict _ => (by decide +kernel : kitB "dict" "dict" = some true)
theorem x_isiO {P : Program} {w : World} {K : PySem.W.Frag} {H : Hp} {Q : VK} {v : V} {d : PyData} (h : DpD H v d) (n : ∀ ds, d ≠ .dict ds) (k : Q (.bl false) H) : rIsiN P w K [v, .ty "dict"] H Q := by
  refine .inl (x_isi h.ty (kit_dict d) ?_)
  cases d with
  | dict ds => exact absurd rfl (n ds)
  | _ => exact k
theorem x_isiDic {P : Program} {w : World} {K : PySem.W.Frag} {H : Hp} {Q : VK} {a : Addr} {kvs : KVN} (h : AnyD P w H a kvs) (k : Q (.bl true) H) : rIsiN P w K [.ref a, .ty "dict"] H Q :=
  .inr ⟨_, _, _, _, true, rfl, .ty _, h, kit_ty (by decide +kernel : kitB "dict" "dict" = some true), k⟩
def nameD : PyData → Bool
  | .str s => nameB s
  | _ => false
/-- no long text -/
def ShortD (d : PyData) : Prop := ∀ s, d = .str s → s.length ≤ 10000
def ShortO (d : PyData) : Prop := ∀ ds, d = .dict ds → ∀ q ∈ ds, ShortD q.2
theorem sx_ext {A B : Hp} (s : SX [] A B) : ExtR A B := Ext.r fun b o h => s b o List.not_mem_nil h
theorem strs_eqv : ∀ xs ys : List Str, PyData.eqvAll ((xs.map V.str).map dv) ((ys.map V.str).map dv) = decide (xs = ys)
  | [], [] => rfl
  | [], _ :: _ => by
    rw [decide_eq_false (by simp)]
    rfl
  | _ :: _, [] => by
    rw [decide_eq_false (by simp)]
    rfl
  | a :: xs, b :: ys => by
    show ((a == b) && PyData.eqvAll ((xs.map V.str).map dv) ((ys.map V.str).map dv)) = _
    rw [strs_eqv xs ys]
    by_cases e : a = b
    · subst e
      by_cases f : xs = ys
      · subst f; simp
      · rw [decide_eq_false f, decide_eq_false (by simpa using f)]; simp
    · have : (a == b) = false := by
        cases h : (a == b)
        · rfl
        · exact absurd (eq_of_beq h) e
      rw [this, Bool.false_and, decide_eq_false fun z => e (List.cons.inj z).1]
/-- what a dict of any kind holds at a text -/
def lkN (kvs : KVN) (n : Str) : Option V := (NK.valN kvs (.text n)).map (·.2)
theorem valN_data {H : Hp} : ∀ {kvs : KVN} {ds : List (PyData × PyData)} {k : NestedKey} {p : V × V}, DpP H kvs ds → NK.valN kvs k = some p → ∃ q ∈ ds, DpD H p.2 q.2
  | [], _, _, _, .nil, h => by cases h
  | x :: kvs, y :: ds, k, p, .cons a r, h => by
    unfold NK.valN at h
    rw [List.find?_cons] at h
    by_cases e : x.1 = k
    · rw [decide_eq_true e] at h
      cases h
      exact ⟨y, List.mem_cons_self, a.2⟩
    · rw [decide_eq_false e] at h
      obtain ⟨q, m, z⟩ := valN_data (kvs := kvs) (ds := ds) (k := k) (p := p) r h
      exact ⟨q, List.mem_cons_of_mem _ m, z⟩
theorem lkN_data {H : Hp} {kvs : KVN} {ds : List (PyData × PyData)} {n : Str} {v : V} (h : DpP H kvs ds) (e : lkN kvs n = some v) : ∃ q ∈ ds, DpD H v q.2 := by
  unfold lkN at e
  cases f : NK.valN kvs (.text n) with
  | none => rw [f] at e; cases e
  | some p =>
    rw [f] at e
    cases e
    exact valN_data h f
theorem nget_text {P : Program} {w : World} {H : Hp} {a : Addr} {kvs : KVN} (g : AnyD P w H a kvs) (n : Str) : NGet P w H a (.str n) (lkN kvs n) := ⟨kvs, .text n, g, .str n, Nat.zero_le _, rfl⟩
section
variable {P : Program} {w : World} {K : PySem.W.Frag} {mg : Str → Option Value} {base : Heap}
def sp_is_name2 (T : Tx K mg) : Sp := fun vs H Q _ => ∃ v d, vs = [v] ∧ DpD H v d ∧ (∀ s, d ≠ .str s) ∧ Q (.bl false) H
theorem ok_is_name2 (T : Tx K mg) : FnOk P w K mg base CX0 1 T.is_name.f T.is_name.fd P_is_name (sp_is_name2 T) := by
  refine T.is_name.F.ok sc_is_name (fun vs H Q E h => ?_) (fun cdv A outer s H vs Q E hr h => ?_)
  · obtain ⟨v, d, rfl, hv, ns, k⟩ := h
    rfl
  have hu := hu_of hr
  have nd := sc_is_name.nd
  obtain ⟨v, d, rfl, hv, ns, k⟩ := h
  refine ⟨_, (pss_cons (ps_if (PW.pt (pw_or (pt_not (pt_val (pe_callB (w_isi (K := K) rfl) (by rfl) T.b_isinstance (by decide +kernel) (pa_cons (pv 0) (pa_cons (pe_bltn (v := .ty "str") (by rfl) T.b_str (by decide +kernel) rfl) pa_nil))))) (pw_or1 (pt_not (pt_chain op_le op_le pe_int (pe_callB (w_len (K := K) rfl) (by rfl) T.b_len (by decide +kernel) (pa_cons (pv 0) pa_nil)) pe_int))))) (pss_one (ps_ret pe_bl)) pss_nil)
      (pss_cons (ps_if (pt_not (pt_chain op_leS op_leS pe_str (pe_ix ix_str (pv 0) pe_int (fun _ _ => rfl)) pe_str)) (pss_one (ps_ret pe_bl)) pss_nil)
      (pss_cons (ps_for PassesOwn.never rfl (pi_str (pv 0)) (pg_name (i := 1) nd rfl (Or.inl rfl)) (pss_one (ps_if (PW.pt (pw_and (pt_not (pt_chain op_leS op_leS pe_str (pv 1) pe_str)) (pw_and1 (pt_not (pt_chain op_leS op_leS pe_str (pv 1) pe_str))))) (pss_one (ps_ret pe_bl)) pss_nil)))
      (pss_one (ps_ret pe_bl))))), ?_⟩
  refine x_start (σ' := [some _, none]) rfl ?_
  try simp only [cx_n, cx_K, cx_w, cx_P]
  walk_at "rd"
  refine x_isi hv.ty (kit_str d) ?_
  cases d with
  | str s => exact absurd rfl (ns s)
  | _ =>
    walk_at "rd"
    exact k
def sp_is_name3 (T : Tx K mg) : Sp := fun vs H Q _ => ∃ v d, vs = [v] ∧ DpD H v d ∧ ShortD d ∧ Q (.bl (nameD d)) H
theorem ok_is_name3 (T : Tx K mg) : FnOk P w K mg base CX0 1 T.is_name.f T.is_name.fd P_is_name (sp_is_name3 T) := by
  have F1 := ok_is_name (P := P) (w := w) (base := base) T
  have F2 := ok_is_name2 (P := P) (w := w) (base := base) T
  have sp : ∀ vs H Q E, sp_is_name3 T vs H Q E → sp_is_name T vs H Q E ∨ sp_is_name2 T vs H Q E := by
    rintro vs H Q E ⟨v, d, rfl, hv, sh, k⟩
    cases d with
    | str s =>
      cases hv
      exact .inl ⟨s, rfl, sh s rfl, k⟩
    | _ => exact .inr ⟨v, _, rfl, hv, (fun s z => nomatch z), k⟩
  refine ⟨fun vs H Q E h => (sp vs H Q E h).elim (F1.len vs H Q E) (F2.len vs H Q E), fun A outer s H args us vs Q E hr he hb hv h => ?_⟩
  exact (sp vs H Q E h).elim (F1.run A outer s H args us vs Q E hr he hb hv) (F2.run A outer s H args us vs Q E hr he hb hv)
end
end M

namespace M
open PySem PySem.Spec PyProof.Rows L2 ReR
/-- small data -/
def itmOk (d : PyData) : Bool := d.showable && decide (d.depth ≤ 1) && d.leavesShort 40 && decide (d.bulk ≤ 50)
theorem nameB_itm {s : Str} (h : nameB s = true) : itmOk (.str s) = true := by
  unfold nameB nameL at h
  simp only [Bool.and_eq_true, List.all_eq_true] at h
  have e1 : (s.cps.toList.all fun c => decide (c < 16 ^ 8)) = true := List.all_eq_true.mpr fun c hc => decide_eq_true (by
    have := h.2 c hc
    simp [lowB, digB] at this
    omega)
  have e2 : s.cps.size ≤ 50 := by
    have := h.1
    simp at this
    omega
  have e3 : itmOk (.str s) = (true && decide (0 ≤ 1) && (s.cps.toList.all fun c => decide (c < 16 ^ 8)) && decide (s.cps.size ≤ 50)) := by
    simp only [itmOk, PyData.showable, PyData.depth, PyData.leavesShort, PyData.bulk]
    rfl
  rw [e3, e1, decide_eq_true e2]
  rfl
theorem itm_parts {d : PyData} (h : itmOk d = true) : d.showable = true ∧ d.depth ≤ 1 ∧ d.leavesShort 40 = true ∧ d.bulk ≤ 50 := by
  unfold itmOk at h
  simp only [Bool.and_eq_true, decide_eq_true_eq] at h
  exact ⟨h.1.1.1, h.1.1.2, h.1.2, h.2⟩
theorem all_itm : ∀ {ds : List PyData}, (∀ d ∈ ds, itmOk d = true) → PyData.showableAll ds = true ∧ PyData.depthAll ds ≤ 1 ∧ PyData.leavesShortAll 40 ds = true ∧ PyData.bulkAll ds ≤ 51 * ds.length
  | [], _ => ⟨rfl, Nat.zero_le _, rfl, Nat.le_refl _⟩
  | d :: ds, h => by
    obtain ⟨a, b, c, e⟩ := itm_parts (h d List.mem_cons_self)
    obtain ⟨a', b', c', e'⟩ := all_itm (ds := ds) fun x hx => h x (List.mem_cons_of_mem _ hx)
    simp only [PyData.showableAll, PyData.depthAll, PyData.leavesShortAll, PyData.bulkAll, List.length_cons, a, a', c, c']
    exact ⟨rfl, Nat.max_le.mpr ⟨b, b'⟩, rfl, by omega⟩
theorem itm_short {d : PyData} (h : itmOk d = true) : ShortD d := fun s e => by
  subst e
  have := (itm_parts h).2.2.2
  simp only [PyData.bulk] at this
  have e : s.length = s.cps.size := by simp [Str.length]
  omega
def EntOk (q : PyData × PyData) : Prop := itmOk q.1 = true ∧ itmOk q.2 = true
theorem all_ent : ∀ {ds : List (PyData × PyData)}, (∀ q ∈ ds, EntOk q) → PyData.showableKv ds = true ∧ PyData.depthKv ds ≤ 1 ∧ PyData.leavesShortKv 40 ds = true ∧ PyData.bulkKv ds ≤ 102 * ds.length
  | [], _ => ⟨rfl, Nat.zero_le _, rfl, Nat.le_refl _⟩
  | (k, v) :: ds, h => by
    obtain ⟨h1, h2⟩ := h (k, v) List.mem_cons_self
    change itmOk k = true at h1
    change itmOk v = true at h2
    obtain ⟨a, b, c, e⟩ := itm_parts h1
    obtain ⟨a2, b2, c2, e2⟩ := itm_parts h2
    obtain ⟨a', b', c', e'⟩ := all_ent (ds := ds) fun x hx => h x (List.mem_cons_of_mem _ hx)
    simp only [PyData.showableKv, PyData.depthKv, PyData.leavesShortKv, PyData.bulkKv, List.length_cons, a, a', c, c', a2, c2]
    exact ⟨rfl, by omega, rfl, by omega⟩
theorem kv_okD {ds : List (PyData × PyData)} (h : ∀ q ∈ ds, EntOk q) (l : ds.length ≤ 300) : okD (.dict ds) := by
  obtain ⟨a, b, c, e⟩ := all_ent h
  exact ⟨by simpa only [PyData.showable] using a, by simp only [PyData.depth]; omega, by simpa only [PyData.leavesShort] using c, by simp only [PyData.bulk]; omega⟩
theorem lst_okD {ds : List PyData} (h : ∀ d ∈ ds, itmOk d = true) (l : ds.length ≤ 300) : okD (.list ds) := by
  obtain ⟨a, b, c, e⟩ := all_itm h
  exact ⟨by simpa only [PyData.showable] using a, by simp only [PyData.depth]; omega, by simpa only [PyData.leavesShort] using c, by simp only [PyData.bulk]; omega⟩
theorem itm_okD {d : PyData} (h : itmOk d = true) : okD d := by
  obtain ⟨a, b, c, e⟩ := itm_parts h
  exact ⟨a, by omega, c, by omega⟩
/-- an entry whose key and value are small data -/
def EntV (H : Hp) (x : NestedKey × V × V) : Prop := ∃ q : PyData × PyData, (DpD H x.2.1 q.1 ∧ DpD H x.2.2 q.2) ∧ EntOk q
theorem dpp_of {H : Hp} : ∀ {kvs : KVN}, (∀ x ∈ kvs, EntV H x) → ∃ ds, DpP H kvs ds ∧ (∀ q ∈ ds, EntOk q) ∧ ds.length = kvs.length
  | [], _ => ⟨[], .nil, (fun _ h => nomatch h), rfl⟩
  | x :: kvs, h => by
    obtain ⟨q, h1, h2⟩ := h x List.mem_cons_self
    obtain ⟨ds, a, b, c⟩ := dpp_of (kvs := kvs) fun y hy => h y (List.mem_cons_of_mem _ hy)
    refine ⟨q :: ds, .cons h1 a, fun y hy => ?_, by rw [List.length_cons, List.length_cons, c]⟩
    rcases List.mem_cons.mp hy with rfl | hy
    · exact h2
    · exact b y hy
theorem thg_of {P : Program} {w : World} {H : Hp} {a : Addr} {kvs : KVN} (g : AnyD P w H a kvs) (h : ∀ x ∈ kvs, EntV H x) (l : kvs.length ≤ 300) : ∃ d o, Thg P w H (.ref a) d o ∧ ShortO d ∧ okD d := by
  obtain ⟨ds, h1, h2, h3⟩ := dpp_of h
  exact ⟨_, _, .dic g h1, (fun ds' e q hq => by cases e; exact itm_short (h2 q hq).2), kv_okD h2 (by omega)⟩
theorem put_ent {H : Hp} {kvs : KVN} {k : NestedKey} {y v : V} (h : ∀ x ∈ kvs, EntV H x) {dk dv : PyData} (hk : DpD H y dk) (hv : DpD H v dv) (ok : itmOk dk = true) (ov : itmOk dv = true) : ∀ x ∈ NK.putN kvs k y v, EntV H x := by
  intro x hx
  unfold NK.putN at hx
  split at hx
  · obtain ⟨z, hz, rfl⟩ := List.mem_map.mp hx
    obtain ⟨q, h1, h2⟩ := h z hz
    split
    · exact ⟨(q.1, dv), ⟨h1.1, hv⟩, h2.1, ov⟩
    · exact ⟨q, h1, h2⟩
  · rcases List.mem_append.mp hx with hx | hx
    · exact h x hx
    · cases List.mem_singleton.mp hx
      exact ⟨(dk, dv), ⟨hk, hv⟩, ok, ov⟩
theorem lift_ent {A H : Hp} {kv : List (Key × V)} {looks : List (Str × Str)} (h : KVs rS A kv looks) (nm : ∀ q ∈ looks, nameB q.1 = true ∧ nameB q.2 = true) : ∀ x ∈ liftK kv, EntV H x := by
  intro x hx
  obtain ⟨z, hz, rfl⟩ := List.mem_map.mp hx
  obtain ⟨i, hi⟩ := List.mem_iff_getElem?.mp hz
  obtain ⟨q, hq, e1, e2⟩ := Paired.getL h hi
  obtain ⟨n1, n2⟩ := nm q (getMem hq)
  have e2 : z.2 = .str q.2 := e2
  refine ⟨(.str q.1, .str q.2), ⟨?_, ?_⟩, nameB_itm n1, nameB_itm n2⟩
  · show DpD H (kV z.1) _
    rw [e1]
    exact .str _
  · show DpD H z.2 _
    rw [e2]
    exact .str _
theorem ent_ext {A B : Hp} (e : ExtR A B) {kvs : KVN} (h : ∀ x ∈ kvs, EntV A x) : ∀ x ∈ kvs, EntV B x := fun x hx => by
  obtain ⟨q, h1, h2⟩ := h x hx
  exact ⟨q, ⟨h1.1.monoR e, h1.2.monoR e⟩, h2⟩
end M

namespace M
open PySem PySem.Spec PyProof.Rows L2
theorem kvs_impJ {α : Type} {R S : RR α} {A B : Hp} : ∀ {kvs : List (Key × V)} {l : List (Str × α)}, (∀ v ∈ kvs.map (·.2), ∀ a, R A v a → S B v a) → KVs R A kvs l → KVs S B kvs l
  | _, _, _, .nil => .nil
  | _, _, h, .cons h1 t => .cons ⟨h1.1, h _ List.mem_cons_self _ h1.2⟩ (kvs_impJ (fun v hv => h v (List.mem_cons_of_mem _ hv)) t)
section
variable {K : PySem.W.Frag} {H : Hp} {S : List Addr} {p : Addr} {ys : List V}
theorem rd_hidP (hp : H p = some (.lst ys)) {a : Addr} {o : HO} (ne : ∀ zs, o ≠ .lst zs) (h : Rd (hid S H) a o) : Rd (hid (p :: S) H) a o := by
  have key : ∀ u, hid S H a = some u → (∀ zs, u ≠ .lst zs) → hid (p :: S) H a = some u := fun u e nu => by
    obtain ⟨nS, eH⟩ := hid_at e
    have n : a ≠ p := fun z => by rw [z, hp] at eH; exact nu ys (Option.some.inj eH).symm
    rw [hid_of (by simpa using ⟨n, nS⟩)]
    exact eH
  rcases h with h | ⟨u, h⟩
  · exact .inl (key _ h ne)
  · exact .inr ⟨u, key _ h fun zs z => nomatch z⟩
theorem sqT_hidP (hp : H p = some (.lst ys)) {a : Addr} {xs : List V} (h : SqT K (hid S H) a xs) : SqT K (hid (p :: S) H) a xs := h.imp (fun h => rd_hidP hp (fun _ z => nomatch z) h) id
theorem rStand_hidP (hp : H p = some (.lst ys)) {v : V} {st : Stand} (h : rStand K (hid S H) v st) : rStand K (hid (p :: S) H) v st := by
  cases st with
  | fin =>
    obtain ⟨t, e, ht⟩ := h
    exact ⟨t, e, sqT_hidP hp ht⟩
  | hand a ms =>
    obtain ⟨t, d, e, ht, m, kvs, e2, hd, hk⟩ := h
    exact ⟨t, d, e, sqT_hidP hp ht, m, kvs, e2, rd_hidP hp (fun _ z => nomatch z) hd, kvs_impJ (fun v _ a h => h) hk⟩
  | chance ds =>
    obtain ⟨t, d, e, ht, m, kvs, e2, hd, hk⟩ := h
    exact ⟨t, d, e, sqT_hidP hp ht, m, kvs, e2, rd_hidP hp (fun _ z => nomatch z) hd, kvs_impJ (fun v _ a ⟨t2, z1, z2, e3, h3, h4, h5⟩ => ⟨t2, z1, z2, e3, sqT_hidP hp h3, h4, h5⟩) hk⟩
end
end M

namespace M
open PySem PySem.Spec PyProof.Rows L2 ReR
/-! ### runs of any things -/
def RunD (tbl : List (Str × Stand)) (a : Str) (ds : List PyData) (run : List Str) : Prop := ds = run.map .str ∧ RunOk tbl a run
theorem trail_snoc {sts : List (Str × Stand)} {a s : Str} {run : List Str} : trail sts a (run ++ [s]) = trail sts a run ++ [atF sts a (run ++ [s])] := by
  unfold trail
  rw [List.length_append]
  show upN _ (run.length + 1 + 1) = _
  rw [upN_succ]
  have e1 : upN (fun i => atF sts a ((run ++ [s]).take i)) (run.length + 1) = upN (fun i => atF sts a (run.take i)) (run.length + 1) := by
    unfold upN
    refine List.map_congr_left fun i hi => ?_
    have := List.mem_range.mp hi
    rw [List.take_append_of_le_length (by omega)]
  have e2 : (run ++ [s]).take (run.length + 1) = run ++ [s] := List.take_of_length_le (by rw [List.length_append]; exact Nat.le_refl _)
  rw [e1, e2]
theorem RunOk.pre {sts : List (Str × Stand)} {a : Str} {run : List Str} (R : RunOk sts a run) (n : Nat) : RunOk sts a (run.take n) := fun i s h => by
  have hi : i < n := by
    have := getLt h
    rw [List.length_take] at this
    omega
  rw [List.getElem?_take_of_lt hi] at h
  obtain ⟨b, g⟩ := R i s h
  exact ⟨b, by rw [List.take_take, Nat.min_eq_left (Nat.le_of_lt hi)]; exact g⟩
theorem str_inj : ∀ {l m : List Str}, l.map PyData.str = m.map PyData.str → l = m
  | [], [], _ => rfl
  | [], _ :: _, h => by cases h
  | _ :: _, [], h => by cases h
  | x :: l, y :: m, h => by
    injection h with h1 h2
    injection h1 with h1
    rw [h1, str_inj h2]
/-- the step at i is no step of the stand there: no run -/
theorem no_run {tbl : List (Str × Stand)} {a : Str} {ds : List PyData} {run : List Str} {i : Nat} {d : PyData} (pre : ds.take i = run.map .str) (hd : ds[i]? = some d) (bad : ∀ s, d = .str s → goS tbl (atF tbl a run) s = none) : ∀ r, ¬ RunD tbl a ds r := by
  rintro r ⟨e, R⟩
  rw [e, ← List.map_take] at pre
  have e2 := str_inj pre
  rw [e, List.getElem?_map] at hd
  cases h : r[i]? with
  | none => rw [h] at hd; cases hd
  | some s =>
    rw [h] at hd
    cases hd
    obtain ⟨b, g⟩ := R i s h
    rw [e2, bad s rfl] at g
    cases g
/-- all steps are steps: a run -/
theorem run_more {tbl : List (Str × Stand)} {a s b : Str} {ds : List PyData} {run : List Str} {i : Nat} (pre : ds.take i = run.map .str) (hd : ds[i]? = some (.str s)) (R : RunOk tbl a run) (g : goS tbl (atF tbl a run) s = some b) : ds.take (i + 1) = (run ++ [s]).map .str ∧ RunOk tbl a (run ++ [s]) := by
  refine ⟨?_, R.snoc g⟩
  rw [take_succ_of hd, pre, List.map_append]
  rfl
theorem RunD.uniq {tbl : List (Str × Stand)} {a : Str} {ds : List PyData} {r r' : List Str} (h : RunD tbl a ds r) (h' : RunD tbl a ds r') : r = r' := str_inj (h.1.symm.trans h'.1)
theorem RunD.len {tbl : List (Str × Stand)} {a : Str} {ds : List PyData} {r : List Str} (h : RunD tbl a ds r) : r.length = ds.length := by rw [h.1, List.length_map]
/-- the table leads from the start to its stands alone -/
def ShutAt (tbl : List (Str × Stand)) (a : Str) : Prop := ∀ run, RunOk tbl a run → ∃ st, lookA tbl (atF tbl a run) = some st
theorem inV_strA {s : Str} : ∀ {l : List Str}, inV (.str s) (l.map V.str) = decide (s ∈ l)
  | [] => by simp [inV]
  | t :: l => by
    have ih := inV_strA (s := s) (l := l)
    unfold inV at ih ⊢
    rw [List.map_cons, List.any_cons, ih]
    show ((t == s) || _) = _
    by_cases h : t = s
    · subst h
      simp
    · have e : (t == s) = false := by simpa using h
      rw [e, Bool.false_or]
      have : ¬ s = t := fun z => h z.symm
      simp [this]
section
variable {P : Program} {w : World} {K : PySem.W.Frag} {mg : Str → Option Value} {base : Heap}
def rowD : PyData → Option (List PyData)
  | .list ds => some ds
  | .tuple ds => some ds
  | _ => none
theorem x_isi2D {H : Hp} {Q : VK} {x : V} {t : Addr} {d : PyData} (h : DpD H x d) (ht : H t = some (.tup [.ty "list", .ty "tuple"])) (k : Q (.bl (rowD d).isSome) H) : rIsiT K [x, .ref t] H Q := by
  refine ⟨x, t, _, _, _, (rowD d).isSome, rfl, ht, .cons (.ty "list") (.cons (.ty "tuple") .nil), h.ty, ?_, k⟩
  unfold PySem.W.kitAny
  rw [kit_ty (kit_lst d)]
  cases d with
  | list _ => rfl
  | tuple _ =>
    show PySem.W.kitAny K _ _ = _
    unfold PySem.W.kitAny
    rw [kit_ty (kit_tup _)]
    rfl
  | none =>
    show PySem.W.kitAny K _ _ = _
    unfold PySem.W.kitAny
    rw [kit_ty (kit_tup _)]
    rfl
  | bool _ =>
    show PySem.W.kitAny K _ _ = _
    unfold PySem.W.kitAny
    rw [kit_ty (kit_tup _)]
    rfl
  | int _ =>
    show PySem.W.kitAny K _ _ = _
    unfold PySem.W.kitAny
    rw [kit_ty (kit_tup _)]
    rfl
  | str _ =>
    show PySem.W.kitAny K _ _ = _
    unfold PySem.W.kitAny
    rw [kit_ty (kit_tup _)]
    rfl
  | dict _ =>
    show PySem.W.kitAny K _ _ = _
    unfold PySem.W.kitAny
    rw [kit_ty (kit_tup _)]
    rfl
def sp_is_row (T : Tx K mg) : Sp := fun vs H Q _ => ∃ v d, vs = [v] ∧ DpD H v d ∧ ∀ H', SX [] H H' → Q (.bl (rowD d).isSome) H'
theorem ok_is_row (T : Tx K mg) : FnOk P w K mg base CX0 1 T.is_row.f T.is_row.fd P_is_row (sp_is_row T) := by
  refine T.is_row.F.ok sc_is_row (fun vs H Q E h => ?_) (fun cdv A outer s H vs Q E hr h => ?_)
  · obtain ⟨v, d, rfl, hd, k⟩ := h
    rfl
  have hu := hu_of hr
  have nd := sc_is_row.nd
  obtain ⟨v, d, rfl, hd, k⟩ := h
  refine ⟨_, (pss_one (ps_ret (pe_callB (w_isiT (K := K) rfl) (by rfl) T.b_isinstance (by decide +kernel) (pa_cons (pv 0) (pa_cons (pe_tup (pa_cons (pe_bltn (v := .ty "list") (by rfl) T.b_list (by decide +kernel) rfl) (pa_cons (pe_bltn (v := .ty "tuple") (by rfl) T.b_tuple (by decide +kernel) rfl) pa_nil))) pa_nil))))), ?_⟩
  refine x_start (σ' := [some _]) rfl ?_
  try simp only [cx_n, cx_K, cx_w, cx_P]
  walk_at "rd"
  refine ⟨Nat.le_of_ble_eq_true rfl, fun t ht => ?_⟩
  have st : SX [] H (upd H t (.tup [.ty "list", .ty "tuple"])) := SX.new ht
  walk_at "rd"
  exact x_isi2D (hd.nil st) upd_same (k _ st)
end
end M

namespace M
open PySem PySem.Spec PyProof.Rows L2
theorem pows_at : ∀ i, i < 4 → ∃ m, ([1, 2, 4, 8] : List Int)[i]? = some m ∧ 0 < m ∧ m ≤ 8 := by
  intro i hi
  match i, hi with
  | 0, _ => exact ⟨1, rfl, by decide, by decide⟩
  | 1, _ => exact ⟨2, rfl, by decide, by decide⟩
  | 2, _ => exact ⟨4, rfl, by decide, by decide⟩
  | 3, _ => exact ⟨8, rfl, by decide, by decide⟩
theorem int_log {i : Int} (h0 : 0 ≤ i) (h1 : i < 1000000) : i.natAbs.log2 < 1920 := by
  obtain ⟨j, rfl⟩ : ∃ j : Nat, i = (j : Int) := ⟨i.toNat, by omega⟩
  exact small_log (by omega)
theorem cut_to' {xs : List V} {n : Nat} (h : n ≤ xs.length) : cutV xs none (some (n : Int)) = xs.take n := by
  unfold cutV
  rw [HT.sIx_nat, HT.sIx_none, List.drop_zero, Nat.sub_zero, Nat.min_eq_left h]
theorem x_ckw {r : List V → List V → Hp → VK → Prop} {t tk : TA} {σ : L2.St} {H : Hp} {Q : VK} (k : t σ H fun vs H1 => tk σ H1 fun zs H2 => r vs zs H2 Q) : tCKw r t tk σ H Q := k
end M

namespace M
open PySem PySem.Spec PyProof.Rows L2 ReR
/-- a book -/
structure BookG (tbl : List (Str × Stand)) (bk : List (Str × List Str)) : Prop where
  nd : (bk.map (·.1)).Nodup
  each : ∀ q ∈ bk, ∃ h ms, lookA tbl q.1 = some (.hand h ms) ∧ q.2 ≠ [] ∧ q.2.length ≤ 4 ∧ q.2.Pairwise ltS ∧ ∀ z ∈ q.2, z ∈ (Stand.hand h ms).rows.map (·.1)
/-- the thing is an entry of a book -/
def EntD (ys : List Str) (d : PyData) : Prop := ∃ l : List Str, d = .tuple (l.map PyData.str) ∧ l ≠ [] ∧ l.Pairwise ltS ∧ ∀ z ∈ l, z ∈ ys
theorem EntD.mem {ys zs : List Str} (h : ∀ z, z ∈ ys ↔ z ∈ zs) {d : PyData} : EntD ys d ↔ EntD zs d := by
  unfold EntD
  simp only [h]
/-- the entries are those of a book -/
def BookD (tbl : List (Str × Stand)) (ds : List (PyData × PyData)) : Prop := ∀ q ∈ ds, ∃ n h ms, q.1 = .str n ∧ lookA tbl n = some (.hand h ms) ∧ EntD (ms.map (·.1)) q.2
theorem map_str_at {ds : List PyData} {kn0 : List Str} {i : Nat} {e : PyData} (h : ds = kn0.map PyData.str) (hi : ds[i]? = some e) : ∃ s, e = .str s ∧ kn0[i]? = some s := by
  subst h
  rw [List.getElem?_map] at hi
  cases q : kn0[i]? with
  | none => rw [q] at hi; cases hi
  | some s => rw [q] at hi; cases hi; exact ⟨s, rfl, rfl⟩
theorem pairwise_snoc {R : Str → Str → Prop} {l : List Str} {s : Str} (trans : ∀ a b c, R a b → R b c → R a c) (h : l.Pairwise R) (last : ∀ z, l.getLast? = some z → R z s) : (l ++ [s]).Pairwise R := by
  rw [List.pairwise_append]
  refine ⟨h, List.pairwise_singleton _ _, fun a ha b hb => ?_⟩
  cases List.mem_singleton.mp hb
  obtain ⟨i, hi, ea⟩ := List.mem_iff_getElem.mp ha
  have ne : l ≠ [] := fun z => by rw [z] at ha; cases ha
  have gl : l.getLast? = some (l.getLast ne) := List.getLast?_eq_some_getLast ne
  have r := last _ gl
  by_cases e : i = l.length - 1
  · have : l.getLast ne = a := by rw [List.getLast_eq_getElem, ← ea]; congr 1; omega
    rw [← this]
    exact r
  · have lt : i < l.length - 1 := by omega
    have := List.pairwise_iff_getElem.mp h i (l.length - 1) hi (by omega) lt
    rw [ea] at this
    refine trans _ _ _ this ?_
    rw [List.getLast_eq_getElem] at r
    exact r
theorem ltS_trans (a b c : Str) (h : ltS a b) (h' : ltS b c) : ltS a c := List.lt_trans (α := Nat) h h'
theorem hn_text {H : Hp} {k : NestedKey} {n : Str} (h : HN H k (.str n)) : k = .text n := by cases h; rfl
theorem any_text {P : Program} {w : World} {H : Hp} {a : Addr} {kvs : KVN} (g : AnyD P w H a kvs) {q : NestedKey × V × V} (m : q ∈ kvs) {n : Str} (e : q.2.1 = .str n) : q.1 = .text n := by
  rcases g with ⟨_, K⟩ | ⟨kk, _, rfl⟩
  · have := (K.is q m).1
    rw [e] at this
    exact hn_text this
  · obtain ⟨z, hz, rfl⟩ := List.mem_map.mp m
    obtain ⟨k, v⟩ := z
    cases k with
    | inl i => cases e
    | inr x => cases e; rfl
theorem lkN_of {kvs : KVN} (nd : (kvs.map (·.1)).Nodup) {q : NestedKey × V × V} (m : q ∈ kvs) {n : Str} (e : q.1 = .text n) : lkN kvs n = some q.2.2 := by
  unfold lkN
  rw [NK.valN_at nd (k := .text n) (p := q.2) (by rw [← e]; exact m)]
  rfl
theorem dpp_at {H : Hp} {kvs : KVN} {ds : List (PyData × PyData)} (h : DpP H kvs ds) {i : Nat} {q : NestedKey × V × V} (e : kvs[i]? = some q) : ∃ d, ds[i]? = some d ∧ DpD H q.2.1 d.1 ∧ DpD H q.2.2 d.2 := by
  obtain ⟨d, hd, r⟩ := paired_get h e
  exact ⟨d, hd, r⟩
section
variable {P : Program} [SupX.PX P] {w : World} {K : PySem.W.Frag} {mg : Str → Option Value} {base : Heap}
def sp_is_entry (T : Tx K mg) : Sp := fun vs H Q _ => ∃ (sl : Addr) (ys : List Str) (v : V) (d : PyData), vs = [.ref sl, v] ∧ SqL K H sl (ys.map V.str) ∧ DpD H v d ∧
  ∀ (bb : Bool) H', SX [] H H' → (bb = true ↔ EntD ys d) → Q (.bl bb) H'
theorem ok_is_entry (T : Tx K mg) : FnOk P w K mg base CX0 1 T.is_entry.f T.is_entry.fd P_is_entry (sp_is_entry T) := by
  refine T.is_entry.F.ok sc_is_entry (fun vs H Q E h => ?_) (fun cdv A outer s H vs Q E hr h => ?_)
  · obtain ⟨sl, ys, v, d, rfl, hsl, hv, k⟩ := h
    rfl
  have hu := hu_of hr
  have nd := sc_is_entry.nd
  obtain ⟨sl, ys, v, d, rfl, hsl, hv, k⟩ := h
  refine ⟨_, (pss_cons (ps_if (PW.pt (pw_or (pt_not (pt_val (pe_callB (w_isi (K := K) rfl) (by rfl) T.b_isinstance (by decide +kernel) (pa_cons (pv 1) (pa_cons (pe_bltn (v := .ty "tuple") (by rfl) T.b_tuple (by decide +kernel) rfl) pa_nil))))) (pw_or1 (pt_cmpR op_eq (pe_callB (w_len (K := K) rfl) (by rfl) T.b_len (by decide +kernel) (pa_cons (pv 1) pa_nil)) pe_int (nomark _))))) (pss_one (ps_ret pe_bl)) pss_nil)
      (pss_cons (ps_for PassesOwn.never rfl (w_enumA (K := K) rfl (by rfl) T.b_enumerate (pa_cons (pv 1) pa_nil)) (w_pgtup (K := K) (n := 2) rfl (by rfl) (pgs_cons (pg_name (i := 2) nd rfl (Or.inl rfl)) (pgs_cons (pg_name (i := 3) nd rfl (Or.inl rfl)) pgs_nil)) (by rfl) (by rfl)) (pss_cons (ps_if (PW.pt (pw_or (pt_not (pt_val (pe_callB (w_isi (K := K) rfl) (by rfl) T.b_isinstance (by decide +kernel) (pa_cons (pv 3) (pa_cons (pe_bltn (v := .ty "str") (by rfl) T.b_str (by decide +kernel) rfl) pa_nil))))) (pw_or1 (pt_cmpR (w_nin (K := K) rfl) (pv 3) (pv 0) (by rfl))))) (pss_one (ps_ret pe_bl)) pss_nil)
      (pss_one (ps_if (PW.pt (pw_and (pt_cmpR op_gt (pv 2) pe_int (nomark _)) (pw_and1 (pt_cmpR op_ge_str (pe_ix (w_ixT (K := K) rfl) (pv 1) (pe_op op_sub (pv 2) pe_int) (fun _ _ => rfl)) (pv 3) (nomark _))))) (pss_one (ps_ret pe_bl)) pss_nil))))
      (pss_one (ps_ret pe_bl)))), ?_⟩
  refine x_start (σ' := [some _, some _, none, none]) rfl ?_
  try simp only [cx_n, cx_K, cx_w, cx_P]
  have no : ∀ B, SX [] H B → ¬ EntD ys d → Q (.bl false) B := fun B s h => k false B s ⟨(fun z => nomatch z), fun z => absurd z h⟩
  walk_at "rd"
  refine x_isi hv.ty (kit_tup d) ?_
  cases hv with
  | @tup a xs ds hkn hs =>
    walk_at "rd"
    refine x_lenT' (sqT hkn) ?_
    walk_at "rd"
    have ln := hs.len
    refine x_cases (fun c => ?_) (fun c => ?_)
    · walk_at "rd"
      refine no _ (SX.refl _) fun ⟨kn0, e, g, _⟩ => g ?_
      have : xs.length = 0 := by have := of_decide_eq_true c; injection this with this; omega
      injection e with e
      have : kn0.length = 0 := by rw [← List.length_map (f := PyData.str), ← e]; omega
      exact List.eq_nil_of_length_eq_zero this
    have l0 : xs.length ≠ 0 := fun z => by
      rw [z] at c
      exact absurd c (by decide)
    walk_at "rd"
    refine x_iEnumA ?_
    walk_at "rd"
    refine ⟨a, xs, rfl, .inr hkn, fun J wk => ?_⟩
    refine for_it wk (fun i σ A => ∃ (c e : Option V) (pre : List Str), SX [] H A ∧ ds.take i = pre.map PyData.str ∧ pre.Pairwise ltS ∧ (∀ s ∈ pre, s ∈ ys) ∧ σ = [some (.ref sl), some (.ref a), c, e])
      ⟨none, none, [], SX.refl _, rfl, .nil, (fun _ h => nomatch h), rfl⟩ (fun i σ A _ h => by obtain ⟨_, _, _, s, _⟩ := h; rw [hkn]; exact s _ _ List.not_mem_nil hkn) ?_ ?_
    · rintro i y σ A A' hi ⟨c, e, pre, sA, ep, pw, pk, rfl⟩ ⟨t, y1, hy, rfl, htn, rfl⟩
      obtain ⟨dy, edy, hdy⟩ := hs.at_ hy
      have sT : SX [] A (upd A t (.tup [.int (i : Int), y1])) := SX.new htn
      have sAT := sA.trans sT
      have hdT := hdy.nil sAT
      have plen : pre.length = i := by
        have := congrArg List.length ep
        rw [List.length_take, List.length_map] at this
        have := getLt edy
        omega
      walk_at "rd"
      refine x_isi hdT.ty (kit_str dy) ?_
      have isS : (∀ s, dy ≠ .str s) → Q (.bl false) (upd A t (.tup [.int (i : Int), y1])) := fun h => no _ sAT fun ⟨kn0, e, g⟩ => by
        injection e with e
        obtain ⟨s, es, _⟩ := map_str_at e edy
        exact h s es
      cases hdT with
      | str s =>
        walk_at "rd"
        refine ⟨sl, _, rfl, .inl (sAT.le0.l hsl), rfl, flat_strs ys, ?_⟩
        rw [inV_strD]
        by_cases mem : s ∈ ys
        · rw [decide_eq_true mem]
          walk_at "rd"
          refine x_false (by rfl) ?_
          walk_at "rd"
          have stepD : ds.take (i + 1) = (pre ++ [s]).map PyData.str := by rw [take_succ_of edy, ep, List.map_append]; rfl
          have mem1 : ∀ z ∈ pre ++ [s], z ∈ ys := fun z hz => by
            rcases List.mem_append.mp hz with hz | hz
            · exact pk z hz
            · cases List.mem_singleton.mp hz
              exact mem
          refine x_cases (fun c2 => ?_) (fun c2 => ?_)
          · have i1 : 1 ≤ i := by
              have := of_decide_eq_true c2
              omega
            have ib : i - 1 < pre.length := by omega
            have ei : (i : Int) - 1 = ((i - 1 : Nat) : Int) := by omega
            have dprev : ds[i - 1]? = some (.str (pre[i - 1]'ib)) := by
              have : (ds.take i)[i - 1]? = some (.str (pre[i - 1]'ib)) := by rw [ep, List.getElem?_map, List.getElem?_eq_getElem ib]; rfl
              rwa [List.getElem?_take_of_lt (by omega)] at this
            have xprev : xs[i - 1]? = some (.str (pre[i - 1]'ib)) := by
              have lx : i - 1 < xs.length := by have := getLt hy; omega
              obtain ⟨e0, q0, h0⟩ := hs.at_ (List.getElem?_eq_getElem lx)
              rw [dprev] at q0
              cases q0
              rw [List.getElem?_eq_getElem lx]
              generalize xs[i - 1] = y9 at h0
              cases h0
              rfl
            have gl : pre.getLast? = some (pre[i - 1]'ib) := by
              have ne : pre ≠ [] := fun z => by rw [z] at plen; simp at plen; omega
              rw [List.getLast?_eq_some_getLast ne, List.getLast_eq_getElem]
              congr 2
              omega
            walk_at "rd"
            rw [ei]
            refine x_ixT (sAT.le0.t (sqT hkn)) (atI_nat (j := i - 1) xprev) ?_
            walk_at "rd"
            refine ⟨_, _, rfl, rfl, ?_⟩
            by_cases lt : (pre[i - 1]'ib).cps.toList < s.cps.toList
            · rw [decide_eq_true lt]
              walk_at "rd"
              exact ⟨_, _, pre ++ [s], sAT, stepD, pairwise_snoc ltS_trans pw (fun z hz => by rw [gl] at hz; cases hz; exact lt), mem1, rfl⟩
            · rw [decide_eq_false lt]
              walk_at "rd"
              refine no _ sAT fun ⟨kn0, e, g⟩ => lt ?_
              injection e with e
              obtain ⟨z, ez, hz⟩ := map_str_at e edy
              cases ez
              obtain ⟨z0, ez0, hz0⟩ := map_str_at e dprev
              injection ez0 with ez0
              have l1 := getLt hz0
              have l2 := getLt hz
              have := List.pairwise_iff_getElem.mp g.2.1 (i - 1) i l1 l2 (by omega)
              rw [List.getElem?_eq_getElem l1] at hz0
              rw [List.getElem?_eq_getElem l2] at hz
              rw [Option.some.inj hz0, Option.some.inj hz, ← ez0] at this
              exact this
          · have i0 : i = 0 := by
              have : decide ((i : Int) > 0) = false := by simpa using c2
              have := of_decide_eq_false this
              omega
            walk_at "rd"
            refine ⟨_, _, pre ++ [s], sAT, stepD, pairwise_snoc ltS_trans pw (fun z hz => ?_), mem1, rfl⟩
            have : pre = [] := List.eq_nil_of_length_eq_zero (by omega)
            rw [this] at hz
            cases hz
        · rw [decide_eq_false mem]
          walk_at "rd"
          refine x_true (by rfl) ?_
          walk_at "rd"
          refine no _ sAT fun ⟨kn0, e, g⟩ => mem ?_
          injection e with e
          obtain ⟨z, ez, hz⟩ := map_str_at e edy
          cases ez
          exact g.2.2 s (getMem hz)
      | _ =>
        walk_at "rd"
        exact isS (fun _ z => nomatch z)
    · rintro σ A ⟨c, e, pre, sA, ep, pw, pk, rfl⟩
      walk_at "rd"
      rw [ln, List.take_length] at ep
      refine k true A sA ⟨fun _ => ⟨pre, by rw [ep], ?_, pw, pk⟩, fun _ => rfl⟩
      rintro rfl
      rw [ln, ep] at l0
      exact l0 rfl
  | _ =>
    walk_at "rd"
    refine no _ (SX.refl _) fun ⟨kn0, e, g⟩ => by cases e
def sp_is_book (P : Program) (w : World) (T : Tx K mg) : Sp := fun vs H Q _ => ∃ (x : Addr) (v : V) (hands : Int) (start : Str) (tbl : List (Str × Stand)) (d : PyData) (o : Option KVN), vs = [.ref x, v] ∧ WorkAt T H x hands start tbl ∧ Thg P w H v d o ∧ (∀ kvs, o = some kvs → (kvs.map (·.1)).Nodup) ∧
  ∀ (bb : Bool) H', SX [] H H' → (bb = true ↔ ∃ ds, d = .dict ds ∧ BookD tbl ds) → Q (.bl bb) H'
theorem ok_is_book (T : Tx K mg) : FnOk P w K mg base CX0 3 T.is_book.f T.is_book.fd P_is_book (sp_is_book P w T) := by
  refine T.is_book.F.ok sc_is_book (fun vs H Q E h => ?_) (fun cdv A outer s H vs Q E hr h => ?_)
  · obtain ⟨x, v, hands, start, tbl, d, o, rfl, wa, tg, knd, k⟩ := h
    rfl
  have hu := hu_of hr
  have nd := sc_is_book.nd
  obtain ⟨x, v, hands, start, tbl, d, o, rfl, wa, tg, knd, k⟩ := h
  refine ⟨_, (pss_cons (ps_if (pt_not (pt_val (pe_callB (wN_isi (P := P) (w := w) (K := K) rfl rfl rfl) (by rfl) T.b_isinstance (by decide +kernel) (pa_cons (pv 1) (pa_cons (pe_bltn (v := .ty "dict") (by rfl) T.b_dict (by decide +kernel) rfl) pa_nil))))) (pss_one (ps_ret pe_bl)) pss_nil)
      (pss_cons (ps_lockR (ps_for PassesOwn.never rfl (w_pikeysN (P := P) (w := w) rfl rfl (pv 1)) (pg_name (i := 2) nd rfl (Or.inl rfl)) (pss_cons (ps_if (PW.pt (pw_or (pt_not (pt_val (pe_callB (w_isi (K := K) rfl) (by rfl) T.b_isinstance (by decide +kernel) (pa_cons (pv 2) (pa_cons (pe_bltn (v := .ty "str") (by rfl) T.b_str (by decide +kernel) rfl) pa_nil))))) (pw_or (pt_cmpR (w_nin (K := K) rfl) (pv 2) (w_fld (K := K) rfl (pv 0) rfl) (by rfl)) (pw_or1 (pt_cmpR op_ne (pe_meth (pv 0) T.cl_Work T.me_Work_kind (ok_Work_kind (P := P) (w := w) T) (hr.mono (by decide)) T.Work_kind.B .nil pass0 (pa_cons (pv 2) pa_nil)) pe_str (nomark _)))))) (pss_one (ps_ret pe_bl)) pss_nil)
      (pss_one (ps_if (pt_not (pt_val (pe_call (ok_is_entry (P := P) (w := w) T) (hr.mono (by decide)) (by rfl) T.is_entry.g T.is_entry.F.kp T.is_entry.B .nil pass0 (pa_cons (pe_meth (pv 0) T.cl_Work T.me_Work_steps (ok_Work_steps (P := P) (w := w) T) (hr.mono (by decide)) T.Work_steps.B .nil pass0 (pa_cons (pv 2) pa_nil)) (pa_cons (wN_get (P := P) (w := w) rfl rfl hr.units (pv 1) (pv 2) (fun _ _ => rfl)) pa_nil))))) (pss_one (ps_ret pe_bl)) pss_nil)))))
      (pss_one (ps_ret pe_bl)))), ?_⟩
  refine x_start (σ' := [some _, some _, none]) rfl ?_
  try simp only [cx_n, cx_K, cx_w, cx_P]
  have no : ∀ B, SX [] H B → ¬ (∃ ds, d = .dict ds ∧ BookD tbl ds) → Q (.bl false) B := fun B s h => k false B s ⟨(fun z => nomatch z), fun z => absurd z h⟩
  walk_at "rd"
  cases tg with
  | odd h n =>
    refine x_isiO h n ?_
    walk_at "rd"
    exact no _ (SX.refl _) fun ⟨ds, e, _⟩ => n ds e
  | dic g dp =>
  rename_i a kvs ds
  have knd := knd kvs rfl
  refine x_isiDic g ?_
  walk_at "rd"
  refine x_lockN g fun od u HL eL ne leL exL gL => ?_
  refine x_iKeysN ?_
  walk_at "rd"
  refine ⟨a, od, u, kvs, rfl, eL, gL, ?_⟩
  have dpL : DpP HL kvs ds := dp.mono exL
  refine for_it walk_keysN (fun i σ A => SX [] HL A ∧ BookD tbl (ds.take i) ∧ ∃ c1, σ = [some (.ref x), some (.ref a), c1]) ⟨SX.refl _, (fun _ h => nomatch h), _, rfl⟩ (fun i σ A _ h => ⟨h.1 _ _ List.not_mem_nil eL, gL.mono (sx_ext h.1)⟩) ?_ ?_
  · rintro i z σ A0 A hi ⟨sA, bA, c1, rfl⟩ ⟨rfl, q, hq, rfl⟩
    obtain ⟨dq, edq, h1, h2⟩ := dpp_at (dpL.mono (sx_ext sA)) hq
    have waA : WorkAt T A x hands start tbl := wa.le (leL.trans sA.le0)
    have noA : ∀ B, SX [] A B → ¬ (∃ n h ms, dq.1 = .str n ∧ lookA tbl n = some (.hand h ms) ∧ EntD (ms.map (·.1)) dq.2) → B a = some (.frz od u) ∧ Q (.bl false) (put B a (H a)) := fun B s h => ⟨(sA.trans s) _ _ List.not_mem_nil eL, no _ (unlock_sx ne (sA.trans s)) fun ⟨ds', e, bd⟩ => by
      injection e with e
      subst e
      exact h (bd dq (getMem edq))⟩
    walk_at "rd"
    refine x_isi h1.ty (kit_str dq.1) ?_
    obtain ⟨k0, v0, w0⟩ := q
    obtain ⟨d1, d2⟩ := dq
    cases h1 with
    | str n =>
      walk_at "rd"
      obtain ⟨dx, d', nm, en, hx, _, hnm, _⟩ := id waA.ex
      refine x_getF hx T.cl_Work T.n_Work_names (look_next (by decide +kernel) (look_next (by decide +kernel) (look_next (by decide +kernel) look_here))) ?_
      walk_at "rd"
      refine ⟨nm, _, rfl, .inr hnm, rfl, flat_strs _, ?_⟩
      rw [inV_strD]
      by_cases mn : n ∈ tbl.map (·.1)
      · rw [decide_eq_true mn]
        walk_at "rd"
        refine x_false (by rfl) ?_
        walk_at "rd"
        obtain ⟨st, est⟩ := lookA_some mn
        refine x_meth ?_
        walk_at "rd"
        refine x_me hx (work_none (by decide +kernel)) ?_
        walk_at "rd"
        refine ⟨x, hands, start, n, tbl, st, rfl, waA, est, ?_⟩
        walk_at "rd"
        cases st with
        | fin =>
          walk_at "if!"
          walk_at "rd"
          exact noA _ (SX.refl _) fun ⟨n', h', ms', e1, e2, _⟩ => by cases e1; rw [est] at e2; cases e2
        | chance cs =>
          walk_at "if!"
          walk_at "rd"
          exact noA _ (SX.refl _) fun ⟨n', h', ms', e1, e2, _⟩ => by cases e1; rw [est] at e2; cases e2
        | hand hh ms =>
          walk_at "if!"
          walk_at "rd"
          refine x_meth ?_
          walk_at "rd"
          refine x_me hx (work_none (by decide +kernel)) ?_
          walk_at "rd"
          refine ⟨x, hands, start, n, tbl, _, rfl, waA, est, fun p B ys hp sB ep pp sy => ?_⟩
          walk_at "rd"
          refine n_get ?_
          walk_at "rd"
          have mq : (k0, V.str n, w0) ∈ kvs := getMem hq
          have gB : AnyD P w B a kvs := gL.mono (sx_ext (sA.trans sB))
          have lk0 : lkN kvs n = some w0 := lkN_of knd mq (any_text gB mq rfl)
          refine ⟨a, w0, rfl, by rw [← lk0]; exact nget_text gB n, ?_⟩
          refine ⟨p, ys, w0, d2, rfl, sqL ep, DpD.nil sB h2, fun bb C sC iff => ?_⟩
          have iff2 : bb = true ↔ EntD (ms.map (·.1)) d2 := iff.trans (EntD.mem fun z => pp.mem_iff)
          cases bb with
          | true =>
            walk_at "rd"
            refine ⟨sA.trans (sB.trans sC), ?_, _, rfl⟩
            rw [take_succ_of edq]
            intro q hq'
            rcases List.mem_append.mp hq' with h | h
            · exact bA q h
            · cases List.mem_singleton.mp h
              exact ⟨n, hh, ms, rfl, est, iff2.mp rfl⟩
          | false =>
            walk_at "rd"
            exact noA _ (sB.trans sC) fun ⟨n', h', ms', e1, e2, e3⟩ => by
              cases e1
              rw [est] at e2
              cases e2
              exact nomatch iff2.mpr e3
      · rw [decide_eq_false mn]
        walk_at "rd"
        refine x_true (by rfl) ?_
        walk_at "rd"
        exact noA _ (SX.refl _) fun ⟨n', h', ms', e1, e2, _⟩ => by cases e1; exact mn (key_of' e2)
    | _ =>
      walk_at "rd"
      exact noA _ (SX.refl _) fun ⟨n', h', ms', e1, e2, _⟩ => nomatch e1
  · rintro σ A ⟨sA, bA, c1, rfl⟩
    rw [show kvs.length = ds.length from Paired.length dp, List.take_length] at bA
    refine ⟨sA _ _ List.not_mem_nil eL, ?_⟩
    walk_at "rd"
    exact k true _ (unlock_sx ne sA) ⟨fun _ => ⟨ds, rfl, bA⟩, fun _ => rfl⟩
end
end M

namespace M
open PySem PySem.Spec PyProof.Rows L2 ReR
/-- the steps that a book lets -/
def letS (bk : List (Str × List Str)) (s : Str) (st : Stand) : List Str := match lookA bk s with
  | some l => l
  | none => st.rows.map (·.1)
/-- how they are listed -/
def LetIs (bk : List (Str × List Str)) (s : Str) (st : Stand) (ys : List Str) : Prop := match lookA bk s with
  | some l => ys = l
  | none => ys.Perm (st.rows.map (·.1)) ∧ sortedS ys = true
theorem LetIs.mem {bk : List (Str × List Str)} {s : Str} {st : Stand} {ys : List Str} (h : LetIs bk s st ys) (z : Str) : z ∈ ys ↔ z ∈ letS bk s st := by
  unfold LetIs at h
  unfold letS
  cases e : lookA bk s with
  | some l => rw [e] at h; rw [h]
  | none => rw [e] at h; exact h.1.mem_iff
def bkD (bk : List (Str × List Str)) : List (PyData × PyData) := bk.map fun q => (.str q.1, .tuple (q.2.map PyData.str))
def BookW (tbl : List (Str × Stand)) (bk : List (Str × List Str)) : Prop := ∀ q ∈ bk, ∃ h ms, lookA tbl q.1 = some (.hand h ms) ∧ q.2 ≠ [] ∧ q.2.Pairwise ltS ∧ ∀ z ∈ q.2, z ∈ ms.map (·.1)
theorem bookD_list {tbl : List (Str × Stand)} : ∀ {ds : List (PyData × PyData)}, BookD tbl ds → ∃ bk, ds = bkD bk ∧ BookW tbl bk
  | [], _ => ⟨[], rfl, fun _ h => nomatch h⟩
  | q :: ds, h => by
    obtain ⟨n, hh, ms, e1, e2, l, e3, e4, e5, e6⟩ := h q List.mem_cons_self
    obtain ⟨bk, e7, e8⟩ := bookD_list (ds := ds) fun x hx => h x (List.mem_cons_of_mem _ hx)
    obtain ⟨q1, q2⟩ := q
    cases e1
    cases e3
    refine ⟨(n, l) :: bk, by rw [e7]; rfl, fun q hq => ?_⟩
    rcases List.mem_cons.mp hq with rfl | hq
    · exact ⟨hh, ms, e2, e4, e5, e6⟩
    · exact e8 q hq
theorem strs_back {A : Hp} : ∀ {l : List Str} {xs : List V}, DpDs A xs (l.map PyData.str) → xs = l.map V.str
  | [], _, h => by cases h; rfl
  | s :: l, _, h => by
    cases h with
    | cons a b =>
      cases a
      rw [strs_back b]
      rfl
theorem bk_look {H : Hp} : ∀ {kvs : KVN} {bk : List (Str × List Str)}, DpP H kvs (bkD bk) → (∀ q ∈ kvs, ∀ n, q.2.1 = .str n → q.1 = .text n) → ∀ n,
    (lookA bk n = none ∧ lkN kvs n = none) ∨ ∃ ys t, lookA bk n = some ys ∧ lkN kvs n = some (.ref t) ∧ H t = some (.tup (ys.map V.str))
  | _, [], h, _, n => by cases h; exact .inl ⟨rfl, rfl⟩
  | [], q :: bk, h, _, n => by cases h
  | x :: kvs, q :: bk, h, hk, n => by
    cases h with
    | cons r t =>
    have ih := bk_look t (fun q h => hk q (List.mem_cons_of_mem _ h)) n
    obtain ⟨k0, v0, w0⟩ := x
    obtain ⟨n0, ys⟩ := q
    obtain ⟨r1, r2⟩ := r
    have e1 : v0 = .str n0 := by
      change DpD H v0 (.str n0) at r1
      cases r1
      rfl
    have e2 : k0 = .text n0 := hk _ List.mem_cons_self n0 e1
    subst e1 e2
    unfold lkN NK.valN at ih ⊢
    rw [List.find?_cons]
    by_cases c : n0 = n
    · subst c
      have r2 : DpD H w0 (.tuple (ys.map PyData.str)) := r2
      cases r2 with
      | tup e hs =>
        rw [strs_back hs] at e
        exact .inr ⟨ys, _, by unfold lookA; rw [if_pos rfl], by simp, e⟩
    · have : decide ((NestedKey.text n0) = .text n) = false := decide_eq_false fun z => c (by cases z; rfl)
      simp only [this]
      unfold lookA
      rw [if_neg c]
      exact ih
def mvDt : Stand → PyData
  | .hand h _ => .int h
  | _ => .none
theorem mv_dp {H : Hp} : ∀ st : Stand, DpD H (moverV st) (mvDt st)
  | .fin => .non
  | .hand _ _ => .int _
  | .chance _ => .non
def okB (tbl : List (Str × Stand)) (bk : List (Str × List Str)) (a : Str) (run : List Str) (i : Nat) : Bool :=
  decide (run.getD i "" ∈ letS bk (atF tbl a (run.take i)) ((lookA tbl (atF tbl a (run.take i))).getD .fin))
def firstB (tbl : List (Str × Stand)) (bk : List (Str × List Str)) (a : Str) (run : List Str) : Option Nat := (List.range run.length).find? fun i => !okB tbl bk a run i
def brD (tbl : List (Str × Stand)) (bk : List (Str × List Str)) (a : Str) (run : List Str) : PyData := match firstB tbl bk a run with
  | none => .none
  | some i => .tuple [.int (i : Int), mvDt ((lookA tbl (atF tbl a (run.take i))).getD .fin)]
theorem firstB_at {tbl : List (Str × Stand)} {bk : List (Str × List Str)} {a : Str} {run : List Str} {i : Nat} (h : ∀ j < i, okB tbl bk a run j = true) (hi : i < run.length) (no : okB tbl bk a run i = false) : firstB tbl bk a run = some i := by
  unfold firstB
  rw [List.find?_range_eq_some]
  exact ⟨by simp [no], by simp [hi], fun j hj => by simp [h j hj]⟩
theorem firstB_no {tbl : List (Str × Stand)} {bk : List (Str × List Str)} {a : Str} {run : List Str} (h : ∀ j < run.length, okB tbl bk a run j = true) : firstB tbl bk a run = none := by
  unfold firstB
  rw [List.find?_range_eq_none]
  intro j hj
  simp [h j hj]
/-- the thing is no run: the first bad place -/
def BadAt (tbl : List (Str × Stand)) (a : Str) (dr : PyData) (i : Int) : Prop := (rowD dr = none ∧ i = -1) ∨ ∃ (ds : List PyData) (j : Nat) (d : PyData) (run : List Str), rowD dr = some ds ∧ i = (j : Int) ∧ ds[j]? = some d ∧ ds.take j = run.map .str ∧ RunOk tbl a run ∧ ∀ s, d = .str s → goS tbl (atF tbl a run) s = none
theorem row_of {H : Hp} {v : V} {d : PyData} {ds : List PyData} (h : DpD H v d) (e : rowD d = some ds) : ∃ r xs, v = .ref r ∧ RowAt H r xs ∧ DpDs H xs ds := by
  cases h with
  | lst a b => cases e; exact ⟨_, _, rfl, .inl a, b⟩
  | tup a b => cases e; exact ⟨_, _, rfl, .inr a, b⟩
  | _ => cases e
section
variable {P : Program} [SupX.PX P] {w : World} {K : PySem.W.Frag} {mg : Str → Option Value} {base : Heap}
def sp_passed (T : Tx K mg) : Sp := fun vs H Q E => ∃ (x : Addr) (v : V) (hands : Int) (a : Str) (dr : PyData) (tbl : List (Str × Stand)), vs = [.ref x, v] ∧ WorkAt T H x hands a tbl ∧ DpD H v dr ∧ (∀ ds, rowD dr = some ds → ds.length ≤ 1000) ∧ ShutAt tbl a ∧ (∀ q ∈ tbl, q.2.size ≤ 4) ∧
  (∀ ds run q H', rowD dr = some ds → RunD tbl a ds run → H q = none → SX [] H H' → H' q = some (.lst ((trail tbl a run).map V.str)) → Q (.ref q) H') ∧
  (∀ i, BadAt tbl a dr i → ∀ H' d, SX [] H H' → H' d = none → E (.ref T.c_BadRun) (some d) (upd H' d (.xd [("index", .int i)])))
theorem ok_passed (T : Tx K mg) : FnOk P w K mg base (L2.CX P w) 3 T.passed.f T.passed.fd P_passed (sp_passed T) := by
  refine T.passed.F.okX sc_passed (fun vs H Q E h => ?_) (fun cdv A outer s H vs Q E hr h => ?_)
  · obtain ⟨x, v, hands, a, dr, tbl, rfl, wa, hd, hl, shut, sz, k, ke⟩ := h
    rfl
  have hu := hu_of hr
  have nd := sc_passed.nd
  obtain ⟨x, v, hands, a, dr, tbl, rfl, wa, hd, hl, shut, sz, k, ke⟩ := h
  refine ⟨_, (pss_cons (ps_if (pt_not (pt_val (pe_call (ok_is_row (P := P) (w := w) T) (hr.mono (by decide)) (by rfl) T.is_row.g T.is_row.F.kp T.is_row.B .nil pass0 (pa_cons (pv 1) pa_nil)))) (pss_one (ps_raise rfl (takes_of rfl rfl rfl rfl) (SupX.pmk_sup (P := P) rfl T.s_BadRun (hr.mono (by decide)) (by rfl) T.g_BadRun (pa_cons (pe_un un_neg pe_int) pa_nil)))) pss_nil)
      (pss_cons (ps_set (i := 2) nd rfl (Or.inl rfl) (w_fld (K := K) rfl (pv 0) rfl))
      (pss_cons (ps_set (i := 3) nd rfl (Or.inl rfl) (pe_lst (pa_cons (pv 2) pa_nil)))
      (pss_cons (ps_for (passes_of rfl) rfl (w_enumA (K := K) rfl (by rfl) T.b_enumerate (pa_cons (pv 1) pa_nil)) (w_pgtup (K := K) (n := 2) rfl (by rfl) (pgs_cons (pg_name (i := 4) nd rfl (Or.inl rfl)) (pgs_cons (pg_name (i := 5) nd rfl (Or.inl rfl)) pgs_nil)) (by rfl) (by rfl)) (pss_cons (ps_if (PW.pt (pw_or (pt_not (pt_val (pe_callB (w_isi (K := K) rfl) (by rfl) T.b_isinstance (by decide +kernel) (pa_cons (pv 5) (pa_cons (pe_bltn (v := .ty "str") (by rfl) T.b_str (by decide +kernel) rfl) pa_nil))))) (pw_or1 (pt_cmpR (w_nin (K := K) rfl) (pv 5) (pe_meth (pv 0) T.cl_Work T.me_Work_steps (ok_Work_steps (P := P) (w := w) T) (hr.mono (by decide)) T.Work_steps.B .nil pass0 (pa_cons (pv 2) pa_nil)) (by rfl))))) (pss_one (ps_raise rfl (takes_of rfl rfl rfl rfl) (SupX.pmk_sup (P := P) rfl T.s_BadRun (hr.mono (by decide)) (by rfl) T.g_BadRun (pa_cons (pv 4) pa_nil)))) pss_nil)
      (pss_cons (ps_set (i := 2) nd rfl (Or.inl rfl) (pe_meth (pv 0) T.cl_Work T.me_Work_to (ok_Work_to (P := P) (w := w) T) (hr.mono (by decide)) T.Work_to.B .nil pass0 (pa_cons (pv 2) (pa_cons (pv 5) pa_nil))))
      (pss_one (ps_expr (pe_bm PySem.F.plainAttrs_list PySem.F.slot_list_append PySem.F.type_list_append mt_append (pv 3) (pa_cons (pv 2) pa_nil)))))))
      (pss_one (ps_ret (pv 3))))))), ?_⟩
  refine x_start (σ' := [some _, some _, none, none, none, none]) rfl ?_
  try simp only [cx_n, cx_K, cx_w, cx_P]
  walk_at "rd"
  refine ⟨v, dr, rfl, hd, fun H1 s1 => ?_⟩
  cases er : rowD dr with
  | none =>
    walk_at "rd"
    refine SupX.x_tMkS ?_
    walk_at "rd"
    exact SupX.x_mkS fun d nd => ke _ (.inl ⟨er, rfl⟩) _ d s1 nd
  | some ds =>
  obtain ⟨r, us, rfl, hr0, hds⟩ := row_of hd er
  have hl := hl ds er
  have ul : us.length = ds.length := hds.len
  rw [show (some ds).isSome = true from rfl]
  walk_at "rd"
  have wa1 := wa.le s1.le0
  obtain ⟨dx, d, nm, en, hx, _⟩ := id wa1.ex
  refine x_getF hx T.cl_Work T.n_Work_start work_start ?_
  walk_at "rd"
  refine ⟨Nat.le_of_ble_eq_true rfl, fun F hF => ?_⟩
  walk_at "rd"
  have hr1 := hr0.sx s1 List.not_mem_nil
  have hF0 : H F = none := s1.free hF List.not_mem_nil
  have s2 : SX [] H1 (upd H1 F (.lst [.str a])) := SX.new hF
  refine x_iEnumA ?_
  walk_at "rd"
  refine ⟨r, us, rfl, hr1.sx s2 List.not_mem_nil, fun J wk => ?_⟩
  refine for_it wk (fun i σ A => ∃ (run : List Str) (c e : Option V), ds.take i = run.map .str ∧ RunOk tbl a run ∧ run.length = i ∧ SX [] H1 A ∧ A F = some (.lst ((trail tbl a run).map V.str)) ∧
      σ = [some (.ref x), some (.ref r), some (.str (atF tbl a run)), some (.ref F), c, e]) ⟨[], none, none, rfl, (fun _ _ h => nomatch h), rfl, s2, upd_same, rfl⟩ ?_ ?_ ?_
  · rintro i σ A hi ⟨_, _, _, _, _, _, sA, _⟩
    rcases hr1 with z | z <;> rw [s2 _ _ List.not_mem_nil z] <;> exact sA _ _ List.not_mem_nil z
  · rintro i y σ A A' hi ⟨run, c, e, pre, R, rl, sA, eF, rfl⟩ ⟨t, y1, hy, rfl, ht, rfl⟩
    obtain ⟨de, hde, dy⟩ := (hds.nil_ (s1.trans sA)).at_ hy
    have sT : SX [] A (upd A t (.tup [.int (i : Int), y1])) := SX.new ht
    have nFt : F ≠ t := ne_of_none eF ht
    have dy2 := dy.nil sT
    have wa2 := wa1.le (sA.trans sT).le0
    obtain ⟨dx2, d2, nm2, en2, hx2, _⟩ := id wa2.ex
    obtain ⟨st, f1⟩ := shut run R
    walk_at "rd"
    refine x_isi dy2.ty (kit_str de) ?_
    have sAT : SX [] H (upd A t (.tup [.int (i : Int), y1])) := s1.trans (sA.trans sT)
    have bad : (∀ s, de = .str s → goS tbl (atF tbl a run) s = none) → BadAt tbl a dr (i : Int) := fun h => .inr ⟨ds, i, de, run, er, rfl, hde, pre, R, h⟩
    cases dy2 with
    | str s =>
      walk_at "rd"
      refine x_meth ?_
      walk_at "rd"
      refine x_me hx2 (work_none (by decide +kernel)) ?_
      walk_at "rd"
      refine ⟨x, hands, a, _, tbl, st, rfl, wa2, f1, fun q B ys hq t1 eq pq sq => ?_⟩
      refine ⟨q, _, rfl, .inl (sqL eq), rfl, flat_strs ys, ?_⟩
      rw [inV_strA]
      by_cases mem : s ∈ ys
      · rw [decide_eq_true mem]
        obtain ⟨b1, lk⟩ := lookA_some (pq.mem_iff.mp mem)
        have g1 : goS tbl (atF tbl a run) s = some b1 := by
          unfold goS
          rw [f1]
          exact lk
        walk_at "rd"
        refine x_false (by rfl) ?_
        walk_at "rd"
        have wa3 := wa2.le t1.le0
        obtain ⟨dx3, d3, nm3, en3, hx3, _⟩ := id wa3.ex
        refine x_meth ?_
        walk_at "rd"
        refine x_me hx3 (work_none (by decide +kernel)) ?_
        walk_at "rd"
        refine ⟨x, hands, a, _, s, b1, tbl, st, rfl, wa3, f1, lk, ?_⟩
        walk_at "rd"
        have eF3 := t1 _ _ List.not_mem_nil (sT _ _ List.not_mem_nil eF)
        refine ⟨.inl ⟨rfl, _, sqL eF3⟩, ?_⟩
        walk_at "rd"
        refine ⟨F, _, _, rfl, rfl, eF3, lt_size (by have := hi; rw [List.length_map]; unfold trail; rw [upN_len]; omega), ?_⟩
        obtain ⟨p1, p2⟩ := run_more pre hde R g1
        refine ⟨run ++ [s], _, _, p1, p2, by rw [List.length_append, rl]; rfl, sx_nil_of (S := [F]) ((nil_sx ((sA.trans sT).trans t1)).trans (SX.mut List.mem_cons_self)) (by simp [hF]), ?_, by rw [atF_snoc g1]⟩
        rw [upd_same, trail_snoc, atF_snoc g1, List.map_append]
        rfl
      · rw [decide_eq_false mem]
        have g1 : goS tbl (atF tbl a run) s = none := by
          unfold goS
          rw [f1]
          exact lookA_none fun z => mem (pq.mem_iff.mpr z)
        walk_at "rd"
        refine x_true (by rfl) ?_
        refine SupX.x_tMkS ?_
        walk_at "rd"
        exact SupX.x_mkS fun d9 nd9 => ke _ (bad fun s' e => by cases e; exact g1) _ d9 (sAT.trans t1) nd9
    | _ =>
      walk_at "rd"
      refine SupX.x_tMkS ?_
      walk_at "rd"
      exact SupX.x_mkS fun d9 nd9 => ke _ (bad fun s' e => nomatch e) _ d9 sAT nd9
  · rintro σ A ⟨run, c, e, pre, R, rl, sA, eF, rfl⟩
    walk_at "rd"
    rw [ul, List.take_length] at pre
    exact k ds run F A er ⟨pre, R⟩ hF0 (s1.trans sA) eF
def sp_let_steps (P : Program) (w : World) (T : Tx K mg) : Sp := fun vs H Q _ => ∃ (x b : Addr) (hands : Int) (start s : Str) (tbl : List (Str × Stand)) (st : Stand) (kvs : KVN) (bk : List (Str × List Str)), vs = [.ref x, .ref b, .str s] ∧ WorkAt T H x hands start tbl ∧ AnyD P w H b kvs ∧ DpP H kvs (bkD bk) ∧ lookA tbl s = some st ∧
  ∀ (p : Addr) (H' : Hp) (ys : List Str), H p = none → SX [] H H' → H' p = some (.lst (ys.map V.str)) → LetIs bk s st ys → Q (.ref p) H'
theorem ok_let_steps (T : Tx K mg) : FnOk P w K mg base CX0 3 T.let_steps.f T.let_steps.fd P_let_steps (sp_let_steps P w T) := by
  refine T.let_steps.F.ok sc_let_steps (fun vs H Q E h => ?_) (fun cdv A outer s H vs Q E hr h => ?_)
  · obtain ⟨x, b, hands, start, s, tbl, st, kvs, bk, rfl, wa, g, dp, est, k⟩ := h
    rfl
  have hu := hu_of hr
  have nd := sc_let_steps.nd
  obtain ⟨x, b, hands, start, s, tbl, st, kvs, bk, rfl, wa, g, dp, est, k⟩ := h
  refine ⟨_, (pss_cons (ps_if (pt_cmp (wN_in (P := P) (w := w) rfl rfl hr.units (pv 2) (pv 1))) (pss_one (ps_ret (pe_callTy (w_list (K := K) rfl) (by rfl) T.b_list (by decide +kernel) (pa_cons (wN_get (P := P) (w := w) rfl rfl hr.units (pv 1) (pv 2) (fun _ _ => rfl)) pa_nil)))) pss_nil)
      (pss_one (ps_ret (pe_meth (pv 0) T.cl_Work T.me_Work_steps (ok_Work_steps (P := P) (w := w) T) (hr.mono (by decide)) T.Work_steps.B .nil pass0 (pa_cons (pv 2) pa_nil))))), ?_⟩
  refine x_start (σ' := [some _, some _, some _]) rfl ?_
  try simp only [cx_n, cx_K, cx_w, cx_P]
  obtain ⟨dx, d, nm, en, hx, _⟩ := id wa.ex
  walk_at "rd"
  refine n_inn ?_
  walk_at "rd"
  refine ⟨b, _, rfl, nget_text g s, ?_⟩
  rcases bk_look dp (fun q h n e => any_text g h e) s with ⟨el, ev⟩ | ⟨l, t, el, ev, ht⟩
  · rw [ev]
    walk_at "rd"
    refine x_false (by rfl) ?_
    walk_at "rd"
    refine x_meth ?_
    walk_at "rd"
    refine x_me hx (work_none (by decide +kernel)) ?_
    walk_at "rd"
    refine ⟨x, hands, start, s, tbl, st, rfl, wa, est, fun p H1 ys hp s1 ep pp sy => ?_⟩
    refine k p H1 ys hp s1 ep ?_
    unfold LetIs
    rw [el]
    exact ⟨pp, sy⟩
  · rw [ev]
    walk_at "rd"
    refine x_true (by rfl) ?_
    walk_at "rd"
    refine n_get ?_
    walk_at "rd"
    refine ⟨b, _, rfl, by rw [← ev]; exact nget_text g s, ?_⟩
    refine x_clistT (sqT ht) fun p hp => ?_
    refine k p _ l hp (SX.new hp) upd_same ?_
    unfold LetIs
    rw [el]
end
end M

namespace M
open PySem PySem.Spec PyProof.Rows L2 ReR
theorem cut_init {xs : List V} {n : Nat} (h : xs.length = n + 1) : cutV xs none (some (-1)) = xs.take n := by
  have e : HT.sIx xs.length xs.length (some (-1)) = n := by
    show (if (-1 : Int) < 0 then ((-1 : Int) + (xs.length : Int)).toNat else min (-1 : Int).toNat xs.length) = n
    rw [if_pos (by decide), h]
    omega
  unfold cutV
  rw [e, HT.sIx_none, List.drop_zero, Nat.sub_zero]
theorem bad_no {tbl : List (Str × Stand)} {a : Str} {dr : PyData} {ds : List PyData} {run : List Str} {i : Int} (e : rowD dr = some ds) (R : RunD tbl a ds run) : ¬ BadAt tbl a dr i := by
  rintro (⟨e1, _⟩ | ⟨ds', j, d, r, e1, _, hd, pre, _, bad⟩)
  · rw [e] at e1
    cases e1
  · rw [e] at e1
    cases e1
    exact no_run pre hd bad run R
theorem x_callS' {sp : Sp} {E : L2.St → XK} {t : TA} {σ : L2.St} {H : Hp} {Q : VK} (k : t σ H fun vs H1 => sp vs H1 Q (E σ)) : tCallS sp E t σ H Q := k
section
variable {P : Program} [SupX.PX P] {w : World} {K : PySem.W.Frag} {mg : Str → Option Value} {base : Heap}
def sp_movers (T : Tx K mg) : Sp := fun vs H Q _ => ∃ (x : Addr) (v : V) (hands : Int) (a : Str) (dr : PyData) (ds : List PyData) (run : List Str) (tbl : List (Str × Stand)), vs = [.ref x, v] ∧ WorkAt T H x hands a tbl ∧ DpD H v dr ∧ rowD dr = some ds ∧ ds.length ≤ 1000 ∧ RunD tbl a ds run ∧ ShutAt tbl a ∧ (∀ q ∈ tbl, q.2.size ≤ 4) ∧
  ∀ q H', H q = none → SX [] H H' → H' q = some (.lst (((trail tbl a run).take run.length).map fun n => moverV ((lookA tbl n).getD .fin))) → Q (.ref q) H'
theorem ok_movers (T : Tx K mg) : FnOk P w K mg base (L2.CX P w) 4 T.movers.f T.movers.fd P_movers (sp_movers T) := by
  refine T.movers.F.okX sc_movers (fun vs H Q E h => ?_) (fun cdv A outer s H vs Q E hr h => ?_)
  · obtain ⟨x, v, hands, a, dr, ds, run, tbl, rfl, wa, hd, er, hl, RD, shut, sz, k⟩ := h
    rfl
  have hu := hu_of hr
  have nd := sc_movers.nd
  obtain ⟨x, v, hands, a, dr, ds, run, tbl, rfl, wa, hd, er, hl, RD, shut, sz, k⟩ := h
  refine ⟨_, (pss_cons (ps_set (i := 2) nd rfl (Or.inl rfl) (pe_callS (ok_passed (P := P) (w := w) T) (hr.mono (by decide)) (by rfl) T.passed.g T.passed.F.kp T.passed.B (fun τ => passAt (takes_of rfl rfl rfl rfl) τ) (pa_cons (pv 0) (pa_cons (pv 1) pa_nil))))
      (pss_one (ps_ret (pe_lc (own := [("stand", 3)]) rfl nd (w_pilist (K := K) rfl (pe_slice (w_slL (K := K) rfl) (pv 2) po_none (po_some (pe_un un_neg pe_int)))) (blkOk_by (own := [("stand", 3)]) (N := N_movers) (sc := defScope s_movers) (by decide +kernel)) (fun _ _ _ _ _ => (pg_name (i := 3) nd rfl (Or.inl rfl))) (fun _ _ _ _ _ => pts_nil) (fun _ _ _ _ _ => (pe_meth (pv 0) T.cl_Work T.me_Work_mover (ok_Work_mover (P := P) (w := w) T) (hr.mono (by decide)) T.Work_mover.B .nil pass0 (pa_cons (pv 3) pa_nil))))))), ?_⟩
  refine x_start (σ' := [some _, some _, none, none]) rfl ?_
  try simp only [cx_n, cx_K, cx_w, cx_P]
  have R := RD.2
  walk_at "rd"
  refine x_callS' ?_
  walk_at "rd"
  refine ⟨x, v, hands, a, dr, tbl, rfl, wa, hd, fun ds' e => by rw [er] at e; cases e; exact hl, shut, sz, fun ds' run' q H1 e' R' hq s1 eq => ?_, fun i b => absurd b (bad_no er RD)⟩
  rw [er] at e'
  cases e'
  cases R'.uniq RD
  have rlen := RD.len
  walk_at "rd"
  have tlen : ((trail tbl a run).map V.str).length = run.length + 1 := by rw [List.length_map]; exact upN_len _ _
  refine ⟨q, _, rfl, sqL eq, fun z hz => ?_⟩
  rw [cut_init tlen, ← List.map_take]
  have et : (trail tbl a run).take run.length = upN (fun i => atF tbl a (run.take i)) run.length := upN_take (Nat.le_succ _)
  rw [et]
  generalize hts : upN (fun i => atF tbl a (run.take i)) run.length = ts at et
  have tsl : ts.length = run.length := by rw [← hts]; exact upN_len _ _
  rw [et] at k
  have s2 : SX [] H (upd H1 z (.lst (ts.map V.str))) := s1.trans (SX.new hz)
  refine x_itl (sqL upd_same) fun D hD => ?_
  have hD1 : H D = none := s2.free hD List.not_mem_nil
  have nzD : z ≠ D := ne_of_none upd_same hD
  refine lc_it (walk_listR (R := rS) (Hb := H) (paired_S' ts)) (fun n A => SX [] H A ∧ A z = some (.lst (ts.map V.str)) ∧ A D = some (.lst ((ts.take n).map fun n => moverV ((lookA tbl n).getD .fin))))
    ⟨s2.trans (SX.new hD), by rw [upd_ne nzD]; exact upd_same, upd_same⟩ (fun n A _ h => sqL h.2.1) ?_ ?_
  · rintro n y A0 A hn ⟨sA, zA, dA⟩ ⟨rfl, s, hs, rfl⟩
    have hn2 : n < run.length := by rw [← tsl]; exact getLt hs
    obtain ⟨s1', hs1⟩ : ∃ s1, run[n]? = some s1 := ⟨run[n], by simp [hn2]⟩
    obtain ⟨b1, g1⟩ := R n s1' hs1
    obtain ⟨st, f1, _⟩ := goS_look g1
    have es : s = atF tbl a (run.take n) := by
      rw [← hts, upN_at hn2] at hs
      cases hs
      rfl
    have waA := wa.le sA.le0
    obtain ⟨dx, d, nm, en, hx, _⟩ := id waA.ex
    walk_at "rd"
    refine ⟨rfl, ?_⟩
    walk_at "rd"
    refine x_meth ?_
    walk_at "rd"
    refine x_me hx (work_none (by decide +kernel)) ?_
    walk_at "rd"
    refine ⟨x, hands, a, s, tbl, st, rfl, waA, by rw [es]; exact f1, ?_⟩
    refine ⟨_, dA, lt_size (by rw [List.length_map, List.length_take]; omega), sx_nil_of (S := [D]) ((nil_sx sA).trans (SX.mut List.mem_cons_self)) (by simp [hD1]), by rw [upd_ne nzD]; exact zA, ?_⟩
    rw [upd_same, take_succ_of hs, List.map_append]
    show some (HO.lst (_ ++ [moverV st])) = some (HO.lst (_ ++ [moverV ((lookA tbl s).getD .fin)]))
    rw [es, f1]
    rfl
  · rintro A ⟨sA, zA, dA⟩
    rw [List.take_length] at dA
    exact k D A hD1 sA dA
/-- the outcomes of first_breach -/
structure BrArg (P : Program) (w : World) (T : Tx K mg) (H : Hp) (x : Addr) (v vr : V) (a : Str) (tbl : List (Str × Stand)) (d dr : PyData) : Prop where
  wa : ∃ hands, WorkAt T H x hands a tbl
  tg : ∃ o, Thg P w H v d o ∧ ∀ kvs, o = some kvs → (kvs.map (·.1)).Nodup
  hd : DpD H vr dr
  len : ∀ ds, rowD dr = some ds → ds.length ≤ 1000
  shut : ShutAt tbl a
  sz : ∀ q ∈ tbl, q.2.size ≤ 4
def sp_first_breach (P : Program) (w : World) (T : Tx K mg) : Sp := fun vs H Q E => ∃ (x : Addr) (v vr : V) (a : Str) (tbl : List (Str × Stand)) (d dr : PyData), vs = [.ref x, v, vr] ∧ BrArg P w T H x v vr a tbl d dr ∧
  ((¬ ∃ ds, d = .dict ds ∧ BookD tbl ds) → ∀ H', SX [] H H' → E (.ref T.c_BadBook) none H') ∧
  (∀ bk, d = .dict (bkD bk) → BookW tbl bk →
    (∀ i, BadAt tbl a dr i → ∀ H' d, SX [] H H' → H' d = none → E (.ref T.c_BadRun) (some d) (upd H' d (.xd [("index", .int i)]))) ∧
    ∀ ds run, rowD dr = some ds → RunD tbl a ds run → ∀ v H', SX [] H H' → DpD H' v (brD tbl bk a run) → Q v H')
theorem ok_first_breach (T : Tx K mg) : FnOk P w K mg base (L2.CX P w) 5 T.first_breach.f T.first_breach.fd P_first_breach (sp_first_breach P w T) := by
  refine T.first_breach.F.okX sc_first_breach (fun vs H Q E h => ?_) (fun cdv A outer s H vs Q E hr h => ?_)
  · obtain ⟨x, v, vr, a, tbl, d, dr, rfl, ⟨⟨hands, wa⟩, ⟨o, tg, knd⟩, hd, hl, shut, sz⟩, kb, kr⟩ := h
    rfl
  have hu := hu_of hr
  have nd := sc_first_breach.nd
  obtain ⟨x, v, vr, a, tbl, d, dr, rfl, ⟨⟨hands, wa⟩, ⟨o, tg, knd⟩, hd, hl, shut, sz⟩, kb, kr⟩ := h
  refine ⟨_, (pss_cons (ps_if (pt_not (pt_val (pe_call (ok_is_book (P := P) (w := w) T) (hr.mono (by decide)) (by rfl) T.is_book.g T.is_book.F.kp T.is_book.B .nil pass0 (pa_cons (pv 0) (pa_cons (pv 1) pa_nil))))) (pss_one (ps_raise rfl (takes_of rfl rfl rfl rfl) (SupX.pmk_own0 (K := K) rfl T.p_BadBook T.g_BadBook (by rfl)))) pss_nil)
      (pss_cons (ps_set (i := 3) nd rfl (Or.inl rfl) (pe_callS (ok_passed (P := P) (w := w) T) (hr.mono (by decide)) (by rfl) T.passed.g T.passed.F.kp T.passed.B (fun τ => passAt (takes_of rfl rfl rfl rfl) τ) (pa_cons (pv 0) (pa_cons (pv 2) pa_nil))))
      (pss_cons (ps_set (i := 4) nd rfl (Or.inl rfl) (pe_callS (ok_movers (P := P) (w := w) T) (hr.mono (by decide)) (by rfl) T.movers.g T.movers.F.kp T.movers.B (fun τ => passAt (takes_of rfl rfl rfl rfl) τ) (pa_cons (pv 0) (pa_cons (pv 2) pa_nil))))
      (pss_cons (ps_for (passes_of rfl) rfl (w_enumA (K := K) rfl (by rfl) T.b_enumerate (pa_cons (pv 2) pa_nil)) (w_pgtup (K := K) (n := 2) rfl (by rfl) (pgs_cons (pg_name (i := 5) nd rfl (Or.inl rfl)) (pgs_cons (pg_name (i := 6) nd rfl (Or.inl rfl)) pgs_nil)) (by rfl) (by rfl)) (pss_one (ps_if (pt_cmpR (w_nin (K := K) rfl) (pv 6) (pe_call (ok_let_steps (P := P) (w := w) T) (hr.mono (by decide)) (by rfl) T.let_steps.g T.let_steps.F.kp T.let_steps.B .nil pass0 (pa_cons (pv 0) (pa_cons (pv 1) (pa_cons (pe_ix (w_ixL (K := K) rfl) (pv 3) (pv 5) (fun _ _ => rfl)) pa_nil)))) (by rfl)) (pss_one (ps_ret (pe_tup (pa_cons (pv 5) (pa_cons (pe_ix (w_ixL (K := K) rfl) (pv 4) (pv 5) (fun _ _ => rfl)) pa_nil))))) pss_nil)))
      (pss_one (ps_ret pe_non)))))), ?_⟩
  refine x_start (σ' := [some _, some _, some _, none, none, none, none]) rfl ?_
  try simp only [cx_n, cx_K, cx_w, cx_P]
  walk_at "rd"
  refine ⟨x, v, hands, a, tbl, d, o, rfl, wa, tg, knd, fun bb H1 s1 iff => ?_⟩
  cases bb with
  | false =>
    walk_at "rd"
    exact kb (fun z => nomatch iff.mpr z) _ s1
  | true =>
  obtain ⟨ds0, e0, bd⟩ := iff.mp rfl
  obtain ⟨bk, e1, bw⟩ := bookD_list bd
  subst e0
  subst e1
  clear iff bd kb
  obtain ⟨kE, k⟩ := kr bk rfl bw
  cases tg with
  | odd h n => exact absurd rfl (n _)
  | dic g dp =>
  rename_i b kvs
  walk_at "rd"
  have wa1 := wa.le s1.le0
  refine x_callS' ?_
  walk_at "rd"
  refine ⟨x, vr, hands, a, dr, tbl, rfl, wa1, hd.nil s1, hl, shut, sz, fun ds run q H2 er RD hq s2 eq => ?_, fun i bad H2 d s2 => kE i bad H2 d (s1.trans s2)⟩
  have k := k ds run er RD
  clear kE kr
  have s12 := s1.trans s2
  have dl := hl ds er
  walk_at "rd"
  refine x_callS' ?_
  walk_at "rd"
  refine ⟨x, vr, hands, a, dr, ds, run, tbl, rfl, wa1.le s2.le0, hd.nil s12, er, dl, RD, shut, sz, fun q2 H3 hq2 s3 eq2 => ?_⟩
  walk_at "rd"
  have s13 := s12.trans s3
  have eq3 := s3 _ _ List.not_mem_nil eq
  obtain ⟨r, us, rfl, hr0, hds⟩ := row_of hd er
  have R := RD.2
  have rl := RD.len
  have ru : us = run.map V.str := by
    rw [RD.1] at hds
    exact strs_back hds
  subst ru
  have hr3 := hr0.sx s13 List.not_mem_nil
  refine x_iEnumA ?_
  walk_at "rd"
  refine ⟨r, _, rfl, hr3, fun J wk => ?_⟩
  refine for_it wk (fun i σ A => ∃ (c e : Option V), SX [] H3 A ∧ (∀ j < i, okB tbl bk a run j = true) ∧
      σ = [some (.ref x), some (.ref b), some (.ref r), some (.ref q), some (.ref q2), c, e]) ⟨none, none, SX.refl _, (fun _ h => absurd h (Nat.not_lt_zero _)), rfl⟩ ?_ ?_ ?_
  · rintro i σ A hi ⟨_, _, sA, _⟩
    rcases hr3 with z | z <;> rw [z] <;> exact sA _ _ List.not_mem_nil z
  · rintro i y σ A A' hi ⟨c, e, sA, ok, rfl⟩ ⟨t, y1, hy, rfl, ht, rfl⟩
    have sT : SX [] A (upd A t (.tup [.int (i : Int), y1])) := SX.new ht
    have sB := sA.trans sT
    rw [List.getElem?_map] at hy
    cases es : run[i]? with
    | none => rw [es] at hy; cases hy
    | some s =>
    rw [es] at hy
    cases hy
    have hi2 : i < run.length := getLt es
    obtain ⟨b1, g1⟩ := R i s es
    obtain ⟨st, f1, _⟩ := goS_look g1
    walk_at "rd"
    have ts : ((trail tbl a run).map V.str)[i]? = some (.str (atF tbl a (run.take i))) := by
      rw [List.getElem?_map]
      unfold trail
      rw [upN_at (by omega)]
      rfl
    refine x_ixL (sqL (sB _ _ List.not_mem_nil eq3)) (atI_nat ts) ?_
    refine ⟨x, b, hands, a, _, tbl, st, kvs, bk, rfl, wa.le (s13.trans sB).le0, g.mono (sx_ext (s13.trans sB)), dp.mono (sx_ext (s13.trans sB)), f1, fun p C ys hp sC ep iff => ?_⟩
    refine ⟨p, _, rfl, .inl (sqL ep), rfl, flat_strs ys, ?_⟩
    rw [inV_strA]
    have eo : okB tbl bk a run i = decide (s ∈ ys) := by
      unfold okB
      rw [f1, List.getD_eq_getElem?_getD, es]
      exact decide_eq_decide.mpr (iff.mem s).symm
    have sC3 := sB.trans sC
    by_cases mem : s ∈ ys
    · rw [decide_eq_true mem] at eo ⊢
      refine ⟨false, rfl, ?_⟩
      walk_at "rd"
      refine ⟨_, _, sC3, fun j hj => ?_, rfl⟩
      rcases Nat.lt_succ_iff_lt_or_eq.mp hj with h | rfl
      · exact ok j h
      · exact eo
    · rw [decide_eq_false mem] at eo ⊢
      refine ⟨true, rfl, ?_⟩
      walk_at "rd"
      have tm : (((trail tbl a run).take run.length).map fun n => moverV ((lookA tbl n).getD .fin))[i]? = some (moverV st) := by
        rw [List.getElem?_map, List.getElem?_take_of_lt hi2]
        unfold trail
        rw [upN_at (by omega)]
        show some (moverV ((lookA tbl (atF tbl a (run.take i))).getD .fin)) = _
        rw [f1]
        rfl
      refine x_ixL (sqL (sC3 _ _ List.not_mem_nil eq2)) (atI_nat tm) ?_
      refine ⟨Nat.le_of_ble_eq_true rfl, fun u hu => ?_⟩
      refine k _ _ ((s13.trans sC3).trans (SX.new hu)) ?_
      unfold brD
      rw [firstB_at ok hi2 eo]
      show DpD _ _ (.tuple [.int (i : Int), mvDt ((lookA tbl (atF tbl a (run.take i))).getD .fin)])
      rw [f1]
      exact .tup upd_same (.cons (.int _) (.cons (mv_dp st) .nil))
  · rintro σ A ⟨c, e, sA, ok, rfl⟩
    walk_at "rd"
    refine k _ _ (s13.trans sA) ?_
    unfold brD
    rw [firstB_no (by simpa using ok)]
    exact .non
end
end M

namespace M
open PySem PySem.Spec PyProof.Rows L2
section
variable {P : Program} {w : World} {K : PySem.W.Frag} {mg : Str → Option Value} {base : Heap}
def sp_law_book (T : Tx K mg) : Sp := fun vs H Q _ => ∃ (p d : Addr) (sts : List (Str × Stand)), vs = [.ref p, .ref d] ∧ Drw H p ∧ rD (rStand K) (hid [p] H) (.ref d) sts ∧ Closed sts ∧ sts.length ≤ 100 ∧ (∀ q ∈ sts, isEnd q.2 = false → 1 ≤ q.2.size) ∧
  ∀ (q : Addr) (H' : Hp) (kv : List (Key × V)) (bk : List (Str × List Str)), H q = none → SX [p] H H' → Drw H' p → H' q = some (.dK kv) → KVs rTS H' kv bk → BookG sts bk → Q (.ref q) H'
theorem ok_law_book (T : Tx K mg) : FnOk P w K mg base CX0 2 T.law_book.f T.law_book.fd P_law_book (sp_law_book T) := by
  refine T.law_book.F.ok sc_law_book (fun vs H Q E h => ?_) (fun cdv A outer s H vs Q E hr h => ?_)
  · obtain ⟨p, d, sts, rfl, hp, hd, CS, hlen, hne, k⟩ := h
    rfl
  have hu := hu_of hr
  have nd := sc_law_book.nd
  obtain ⟨p, d, sts, rfl, hp, hd, CS, hlen, hne, k⟩ := h
  refine ⟨_, (pss_cons (ps_set (i := 2) nd rfl (Or.inl rfl) pe_dnewK)
      (pss_cons (ps_for PassesOwn.never rfl (w_pilist (K := K) rfl (pe_callBK (cl_sortDR rfl) (by rfl) T.b_sorted (by decide +kernel) (pa_cons (pv 1) pa_nil) (pk_cons pe_bl pk_nil))) (pg_name (i := 3) nd rfl (Or.inl rfl)) (pss_one (ps_if (PW.pt (pw_and (pt_cmpR op_eq (pe_ix (w_ixT (K := K) rfl) (pe_dget hu (pv 1) (pv 3) (fun _ _ => rfl)) pe_int (fun _ _ => rfl)) pe_str (nomark _)) (pw_and1 (pt_cmpR op_eq (pe_call (ok_law_draw (P := P) (w := w) T) (hr.mono (by decide)) (by rfl) T.law_draw.g T.law_draw.F.kp T.law_draw.B .nil pass0 (pa_cons (pv 0) (pa_cons pe_int pa_nil))) pe_int (nomark _))))) (pss_cons (ps_set (i := 4) nd rfl (Or.inr rfl) (pe_call (ok_law_steps (P := P) (w := w) T) (hr.mono (by decide)) (by rfl) T.law_steps.g T.law_steps.F.kp T.law_steps.B .nil pass0 (pa_cons (pv 1) (pa_cons (pv 3) pa_nil))))
      (pss_cons (ps_set (i := 5) nd rfl (Or.inr rfl) (pe_op op_add pe_int (pe_call (ok_law_draw (P := P) (w := w) T) (hr.mono (by decide)) (by rfl) T.law_draw.g T.law_draw.F.kp T.law_draw.B .nil pass0 (pa_cons (pv 0) (pa_cons pe_int pa_nil)))))
      (pss_cons (ps_setLc (i := 6) (own := [("at", 7)]) rfl nd rfl rfl (sw_true rfl rfl rfl (by decide +kernel)) (pi_range1 (by rfl) T.b_range (pa_cons (pe_callB (w_len (K := K) rfl) (by rfl) T.b_len (by decide +kernel) (pa_cons (pv 4) pa_nil)) pa_nil)) (blkOk_by (own := [("at", 7)]) (N := N_law_book) (sc := defScope s_law_book) (by decide +kernel)) (fun _ _ _ _ _ => (pg_name (i := 7) nd rfl (Or.inl rfl))) (fun _ _ _ _ _ => pts_one (pt_cmpR op_eq (pe_op op_mod (pe_op op_fdivW (pv 5) (pe_ix (w_ixL (K := K) rfl) (pe_lst (pa_cons pe_int (pa_cons pe_int (pa_cons pe_int (pa_cons pe_int pa_nil))))) (pv 7) (fun _ _ => rfl))) pe_int) pe_int (nomark _))) (fun _ _ _ _ _ => (pe_ix (w_ixL (K := K) rfl) (pv 4) (pv 7) (fun _ _ => rfl))))
      (pss_cons (ps_if (pt_cmpR op_eq (pe_callB (w_len (K := K) rfl) (by rfl) T.b_len (by decide +kernel) (pa_cons (pv 6) pa_nil)) pe_int (nomark _)) (pss_one (ps_set (i := 6) nd rfl (Or.inl rfl) (pe_slice (w_slL (K := K) rfl) (pv 4) po_none (po_some pe_int)))) pss_nil)
      (pss_one (ps_dput hu (pv 2) (pv 3) (pe_callTy (w_tup (K := K) rfl) (by rfl) T.b_tuple (by decide +kernel) (pa_cons (pv 6) pa_nil)) rfl)))))) pss_nil)))
      (pss_one (ps_ret (pv 2))))), ?_⟩
  refine x_start (σ' := [some _, some _, none, none, none, none, none, none]) rfl ?_
  try simp only [cx_n, cx_K, cx_w, cx_P]
  obtain ⟨d', kvs, ed, hrd, hk⟩ := id hd
  cases ed
  walk_at "rd"
  intro F hF
  walk_at "rd"
  have s1 : SX [] H (upd H F (.dK [])) := SX.new hF
  have F1 : (upd H F (.dK [])) F = some (.dK []) := upd_same
  generalize upd H F (.dK []) = H1 at s1 F1
  have nFp : F ≠ p := fun e => hp.there (e ▸ hF)
  refine x_ckw ?_
  walk_at "rd"
  refine ⟨d, kvs, sts.map (·.1), rfl, rfl, s1.le0.rd _ _ trivial (le_hid.rd _ _ trivial hrd), hk.keys, fun ys py hpy np => ?_⟩
  have nFy : F ≠ py := ne_of_none F1 np
  have s2 : SX [] H1 (upd H1 py (.lst (ys.map V.str))) := SX.new np
  have y2 : (upd H1 py (.lst (ys.map V.str))) py = some (.lst (ys.map V.str)) := upd_same
  generalize upd H1 py (.lst (ys.map V.str)) = H2 at s2 y2
  have sH2 : SX [p] H H2 := nil_sx (s1.trans s2)
  have p2 := hp.sx (s1.trans s2) List.not_mem_nil
  have nyp : py ≠ p := fun e => (hp.sx s1 List.not_mem_nil).there (e ▸ np)
  have ynd0 : ys.Nodup := hpy.nodup_iff.mpr CS.nd
  have ysl : ys.length = sts.length := by rw [hpy.length_eq, List.length_map]
  refine x_itl (sqL y2) ?_
  refine for_it (walk_listR (R := rS) (Hb := H) (paired_S' ys)) (fun i σ A => SX [p] H A ∧ Drw A p ∧ A py = some (.lst (ys.map V.str)) ∧ ∃ (kv : List (Key × V)) (bk : List (Str × List Str)) (c1 c2 c3 c4 : Option V), A F = some (.dK kv) ∧ KVs rTS (hid [F, p] A) kv bk ∧
      (∀ n ∈ bk.map (·.1), n ∈ ys.take i) ∧ (bk.map (·.1)).Nodup ∧
      (∀ q ∈ bk, ∃ h ms, lookA sts q.1 = some (.hand h ms) ∧ q.2 ≠ [] ∧ q.2.length ≤ 4 ∧ q.2.Pairwise ltS ∧ ∀ z ∈ q.2, z ∈ (Stand.hand h ms).rows.map (·.1)) ∧
      σ = [some (.ref p), some (.ref d), some (.ref F), c1, c2, c3, c4, none])
    ⟨sH2, p2, y2, [], [], none, none, none, none, s2 _ _ List.not_mem_nil F1, .nil, (fun _ h => nomatch h), List.nodup_nil, (fun _ h => nomatch h), rfl⟩ (fun _ _ _ _ h => sqL h.2.2.1) ?_ ?_
  · rintro i z σ A0 A hi ⟨sA, pA, yA, kv, bk, c1, c2, c3, c4, dA, kA, kI, nA, eA, rfl⟩ ⟨rfl, n, hn, rfl⟩
    obtain ⟨st, est⟩ := lookA_some (hpy.mem_iff.mp (getMem hn))
    obtain ⟨v, ev, rv⟩ := hk.at_ est
    obtain ⟨cnd, csz, cto⟩ := CS.all _ (lookA_mem est)
    have csz : st.size ≤ 4 := csz
    obtain ⟨tp, xs, rfl, htp, h0⟩ := rStand.kind rv
    have nextI : ∀ m ∈ ys.take i, m ∈ ys.take (i + 1) := fun m hm => by rw [take_succ_of hn]; exact List.mem_append_left _ hm
    have skip : ∀ (B : Hp) (c2 c3 c4 : Option V), SX [p] A B → Drw B p → SX [p] H B ∧ Drw B p ∧ B py = some (.lst (ys.map V.str)) ∧ ∃ (kv' : List (Key × V)) (bk' : List (Str × List Str)) (c1' c2' c3' c4' : Option V), B F = some (.dK kv') ∧ KVs rTS (hid [F, p] B) kv' bk' ∧
        (∀ n ∈ bk'.map (·.1), n ∈ ys.take (i + 1)) ∧ (bk'.map (·.1)).Nodup ∧
        (∀ q ∈ bk', ∃ h ms, lookA sts q.1 = some (.hand h ms) ∧ q.2 ≠ [] ∧ q.2.length ≤ 4 ∧ q.2.Pairwise ltS ∧ ∀ z ∈ q.2, z ∈ (Stand.hand h ms).rows.map (·.1)) ∧
        [some (.ref p), some (.ref d), some (.ref F), some (.str n), c2, c3, c4, none] = [some (.ref p), some (.ref d), some (.ref F), c1', c2', c3', c4', none] := fun B c2 c3 c4 sB pB =>
      ⟨sA.trans sB, pB, sB _ _ (by simpa using nyp) yA, kv, bk, _, _, _, _, sB _ _ (by simpa using nFp) dA, KVs.le mono_TS ((sB.sub (by simp)).le) kA, fun m hm => nextI m (kI m hm), nA, eA, rfl⟩
    walk_at "rd"
    refine x_dg' (sA.leH.rd _ _ trivial hrd) ev ?_
    walk_at "rd"
    refine x_ixT (sA.leH.t htp) h0 ?_
    walk_at "rd"
    refine x_cases (fun c => ?_) (fun c => ?_)
    · cases st with
      | fin => exact absurd c (by show ¬ decide (V.str "end" = V.str "hand") = true; decide +kernel)
      | chance ds => exact absurd c (by show ¬ decide (V.str "chance" = V.str "hand") = true; decide +kernel)
      | hand hd0 ms =>
      have h1 : 1 ≤ (Stand.hand hd0 ms).size := hne _ (lookA_mem est) rfl
      walk_at "rd"
      refine ⟨p, 2, rfl, pA, by decide, by decide, fun r B1 r0 r1 t1 q1 => ?_⟩
      walk_at "rd"
      refine x_cases (fun c => ?_) (fun c => ?_)
      · walk_at "rd"
        have sB1 := sA.trans t1
        refine ⟨d, n, sts, _, rfl, mono_D (mono_stand K) _ _ _ _ sB1.leH hd, est, fun l B2 ys2 hl t2 el pp sy => ?_⟩
        walk_at "rd"
        have ynd : ys2.Nodup := pp.nodup_iff.mpr (rows_nodupB cnd)
        have yl : ys2.length = (Stand.hand hd0 ms).size := by rw [pp.length_eq, List.length_map, rows_tos_len, tos_len]
        have nlp : l ≠ p := fun e => q1.there (e ▸ hl)
        refine ⟨p, 15, rfl, q1.sx t2 List.not_mem_nil, by decide, by decide, fun bits B3 b0 b1 t3 q3 => ?_⟩
        walk_at "rd"
        have el3 := t3 _ _ (by simpa using nlp) el
        have sAB3 : SX [p] A B3 := (t1.trans (nil_sx t2)).trans t3
        refine x_lenL' (sqL el3) ?_
        walk_at "rd"
        rw [List.length_map]
        refine x_rng1 (by omega) (by omega) ?_
        rw [Int.toNat_natCast]
        intro D hD
        refine lc_it walk_rng (fun m C => SX [] B3 C ∧ ∃ zs : List Str, C D = some (.lst (zs.map V.str)) ∧ zs.Sublist (ys2.take m)) ⟨SX.new hD, [], upd_same, .slnil⟩ (fun _ _ _ _ => trivial) ?_ ?_
        · rintro j y C0 C hj ⟨u1, zs, u2, sub⟩ ⟨rfl, rfl⟩
          obtain ⟨m, em, m0, m8⟩ := pows_at j (by omega)
          obtain ⟨z, hz⟩ : ∃ z, ys2[j]? = some z := ⟨ys2[j], by simp [hj]⟩
          have zl : zs.length ≤ 4 := by
            have := sub.length_le
            rw [List.length_take] at this
            omega
          walk_at "rd"
          refine ⟨rfl, ?_⟩
          walk_at "rd"
          refine ⟨Nat.le_of_ble_eq_true rfl, fun l2 hl2 => ?_⟩
          have sl : SX [] C (upd C l2 (.lst [.int 1, .int 2, .int 4, .int 8])) := SX.new hl2
          walk_at "rd"
          refine x_ixL (xs := ([1, 2, 4, 8] : List Int).map V.int) (sqL upd_same) (at_map em) ?_
          refine x_I ⟨m0, Nat.lt_trans (int_log (i := m) (by omega) (by omega)) (by decide)⟩ ?_
          walk_at "rd"
          refine x_I (by decide) ?_
          walk_at "rd"
          refine x_cases (fun c => ?_) (fun c => ?_)
          · walk_at "rd"
            refine x_ixL (sqL (sl _ _ List.not_mem_nil (u1 _ _ List.not_mem_nil el3))) (atI_nat (by rw [List.getElem?_map, hz]; rfl)) ?_
            refine ⟨_, sl _ _ List.not_mem_nil u2, lt_size (by rw [List.length_map]; omega), sx_nil_of (S := [D]) ((nil_sx (u1.trans sl)).trans (SX.mut List.mem_cons_self)) (by simp [hD]), zs ++ [z], by rw [upd_same, List.map_append]; rfl, ?_⟩
            rw [take_succ_of hz]
            exact sub.append (.refl _)
          · refine ⟨u1.trans sl, zs, sl _ _ List.not_mem_nil u2, ?_⟩
            rw [take_succ_of hz]
            exact sub.trans (List.sublist_append_left _ _)
        rintro B4 ⟨u1, zs, u2, sub⟩
        rw [List.take_length] at sub
        have q4 := q3.sx u1 List.not_mem_nil
        have sAB4 : SX [p] A B4 := sAB3.trans (nil_sx u1)
        walk_at "rd"
        refine x_lenL' (sqL u2) ?_
        walk_at "rd"
        rw [List.length_map]
        by_cases z0 : zs = []
        · refine x_true (decide_eq_true (by rw [z0]; rfl)) ?_
          walk_at "rd"
          refine ⟨l, _, rfl, sqL (u1 _ _ List.not_mem_nil el3), fun rr hrr => ?_⟩
          have ect : cutV (ys2.map V.str) none (some 1) = (ys2.take 1).map V.str := by
            rw [List.map_take]
            exact cut_to' (n := 1) (by rw [List.length_map]; omega)
          rw [ect]
          have srr : SX [] B4 (upd B4 rr (.lst ((ys2.take 1).map V.str))) := SX.new hrr
          have err : (upd B4 rr (.lst ((ys2.take 1).map V.str))) rr = some (.lst ((ys2.take 1).map V.str)) := upd_same
          generalize upd B4 rr (.lst ((ys2.take 1).map V.str)) = B5 at srr err
          have q5 := q4.sx srr List.not_mem_nil
          walk_at "rd"
          have sAB : SX [p] A B5 := sAB4.trans (nil_sx srr)
          refine x_ctup (sqL err) fun t ht => ?_
          walk_at "rd"
          have ntp : t ≠ p := fun e => q5.there (e ▸ ht)
          have sAT : SX [p] A (upd B5 t (.tup ((ys2.take 1).map V.str))) := sAB.trans (SX.new ht)
          have dT := sAT _ _ (by simpa using nFp) dA
          have kl : kv.length = bk.length := Paired.length kA
          have bl : bk.length ≤ 100 := by
            have := nodup_sub nA fun n hn => List.mem_of_mem_take (kI n hn)
            rw [List.length_map, ysl] at this
            omega
          refine ⟨F, _, rfl, DPut.k (k := Sum.inr n) dT (lt_size (by omega)), ?_⟩
          have ntF : t ≠ F := fun e => by
            have hC := sAB _ _ (by simpa using nFp) dA
            rw [e, hC] at ht
            cases ht
          have fr2 : n ∉ bk.map (·.1) := fun h => nodup_take ynd0 hn (kI n h)
          rw [putK_fresh _ kA.keys fr2]
          have le1 : Le (hid [F, p] A) (hid [F, p] (upd (upd B5 t (.tup ((ys2.take 1).map V.str))) F (.dK (kv ++ [(Sum.inr n, V.ref t)])))) := ((sAT.sub (by simp)).trans (SX.mut (by simp))).le
          have ntpy : py ≠ t := ne_of_none (sAB _ _ (by simpa using nyp) yA) ht
          refine ⟨fun b o nb hb => ?_, (q5.sx (SX.new (S := []) ht) List.not_mem_nil).sx (SX.mut (S := [F]) List.mem_cons_self) (by simpa using Ne.symm nFp), by rw [upd_ne (Ne.symm nFy), upd_ne ntpy]; exact sAB _ _ (by simpa using nyp) yA, _, bk ++ [(n, (ys2.take 1))], _, _, _, _, upd_same, Paired.app (KVs.le mono_TS le1 kA) (.cons ⟨rfl, t, rfl, ?_⟩ .nil), fun m hm => ?_, ?_, fun q hq => ?_, rfl⟩
          · have hbF : b ≠ F := fun e => by rw [e, hF] at hb; cases hb
            rw [upd_ne hbF]
            exact (sA.trans sAT) b o nb hb
          · rw [hid_of (by simp [ntF, ntp]), upd_ne ntF, upd_same]
          · rw [List.map_append] at hm
            rcases List.mem_append.mp hm with h | h
            · exact nextI m (kI m h)
            · cases List.mem_singleton.mp h
              rw [take_succ_of hn]
              exact List.mem_append_right _ List.mem_cons_self
          · rw [List.map_append]
            exact nd_snoc nA fr2
          · rcases List.mem_append.mp hq with h | h
            · exact eA q h
            · cases List.mem_singleton.mp h
              have sb : (ys2.take 1).Sublist ys2 := List.take_sublist _ _
              refine ⟨hd0, ms, est, fun e => by have := congrArg List.length e; change (ys2.take 1).length = 0 at this; rw [List.length_take] at this; omega, ?_, (strict_of (sortedS_pw sy) ynd).sublist sb, fun z hz => pp.mem_iff.mp (sb.mem hz)⟩
              have := sb.length_le
              show (ys2.take 1).length ≤ 4
              omega

        · refine x_false (decide_eq_false fun e => by injection e with e; exact z0 (List.eq_nil_of_length_eq_zero (by omega))) ?_
          walk_at "rd"
          generalize hB5 : B4 = B5 at u1 u2 q4 sAB4
          subst hB5
          have sAB : SX [p] A B4 := sAB4
          refine x_ctup (sqL u2) fun t ht => ?_
          walk_at "rd"
          have ntp : t ≠ p := fun e => q4.there (e ▸ ht)
          have sAT : SX [p] A (upd B4 t (.tup (zs.map V.str))) := sAB.trans (SX.new ht)
          have dT := sAT _ _ (by simpa using nFp) dA
          have kl : kv.length = bk.length := Paired.length kA
          have bl : bk.length ≤ 100 := by
            have := nodup_sub nA fun n hn => List.mem_of_mem_take (kI n hn)
            rw [List.length_map, ysl] at this
            omega
          refine ⟨F, _, rfl, DPut.k (k := Sum.inr n) dT (lt_size (by omega)), ?_⟩
          have ntF : t ≠ F := fun e => by
            have hC := sAB _ _ (by simpa using nFp) dA
            rw [e, hC] at ht
            cases ht
          have fr2 : n ∉ bk.map (·.1) := fun h => nodup_take ynd0 hn (kI n h)
          rw [putK_fresh _ kA.keys fr2]
          have le1 : Le (hid [F, p] A) (hid [F, p] (upd (upd B4 t (.tup (zs.map V.str))) F (.dK (kv ++ [(Sum.inr n, V.ref t)])))) := ((sAT.sub (by simp)).trans (SX.mut (by simp))).le
          have ntpy : py ≠ t := ne_of_none (sAB _ _ (by simpa using nyp) yA) ht
          refine ⟨fun b o nb hb => ?_, (q4.sx (SX.new (S := []) ht) List.not_mem_nil).sx (SX.mut (S := [F]) List.mem_cons_self) (by simpa using Ne.symm nFp), by rw [upd_ne (Ne.symm nFy), upd_ne ntpy]; exact sAB _ _ (by simpa using nyp) yA, _, bk ++ [(n, zs)], _, _, _, _, upd_same, Paired.app (KVs.le mono_TS le1 kA) (.cons ⟨rfl, t, rfl, ?_⟩ .nil), fun m hm => ?_, ?_, fun q hq => ?_, rfl⟩
          · have hbF : b ≠ F := fun e => by rw [e, hF] at hb; cases hb
            rw [upd_ne hbF]
            exact (sA.trans sAT) b o nb hb
          · rw [hid_of (by simp [ntF, ntp]), upd_ne ntF, upd_same]
          · rw [List.map_append] at hm
            rcases List.mem_append.mp hm with h | h
            · exact nextI m (kI m h)
            · cases List.mem_singleton.mp h
              rw [take_succ_of hn]
              exact List.mem_append_right _ List.mem_cons_self
          · rw [List.map_append]
            exact nd_snoc nA fr2
          · rcases List.mem_append.mp hq with h | h
            · exact eA q h
            · cases List.mem_singleton.mp h
              have sb : zs.Sublist ys2 := sub
              refine ⟨hd0, ms, est, z0, ?_, (strict_of (sortedS_pw sy) ynd).sublist sb, fun z hz => pp.mem_iff.mp (sb.mem hz)⟩
              have := sb.length_le
              show zs.length ≤ 4
              omega

      · exact skip _ _ _ _ t1 q1
    · exact skip _ _ _ _ (SX.refl _) pA
  · rintro σ A ⟨sA, pA, yA, kv, bk, c1, c2, c3, c4, dA, kA, kI, nA, eA, rfl⟩
    walk_at "rd"
    exact k F A kv bk hF sA pA dA (KVs.le mono_TS le_hid kA) ⟨nA, eA⟩
end
end M

namespace M
open PySem PySem.Spec PyProof.Rows L2 ReR
/-- a tuple of texts is small -/
def SmallT (d : PyData) : Prop := ∀ l : List Str, d = .tuple (l.map PyData.str) → l.length ≤ 100 ∧ ∀ s ∈ l, PyData.strOk s = true
def strB : PyData → Bool
  | .str _ => true
  | _ => false
theorem strs_ofB : ∀ {ds : List PyData}, ds.all strB = true → ∃ l : List Str, ds = l.map PyData.str
  | [], _ => ⟨[], rfl⟩
  | d :: ds, h => by
    rw [List.all_cons, Bool.and_eq_true] at h
    obtain ⟨l, e⟩ := strs_ofB h.2
    cases d with
    | str s => exact ⟨s :: l, by rw [e]; rfl⟩
    | _ => exact nomatch h.1
theorem lay_okS : ∀ {l : List Str}, (∀ s ∈ l, PyData.strOk s = true) → PyData.canLayAll0 (l.map PyData.str) = true ∧ PyData.depthAll (l.map PyData.str) = 0
  | [], _ => ⟨by rw [List.map_nil, PyData.canLayAll0], by rw [List.map_nil, PyData.depthAll]⟩
  | s :: l, h => by
    obtain ⟨a, b⟩ := lay_okS (l := l) fun x hx => h x (List.mem_cons_of_mem _ hx)
    rw [List.map_cons, PyData.canLayAll0, PyData.depthAll, a, b, PyData.canLay0, PyData.depth]
    exact ⟨by rw [h s List.mem_cons_self]; rfl, rfl⟩
theorem x_eqLs {K : PySem.W.Frag} {H : Hp} {Q : VK} {p q : Addr} {xs ys : List Str} (h1 : H p = some (.lst (xs.map V.str))) (h2 : H q = some (.lst (ys.map V.str))) (o1 : ∀ s ∈ xs, PyData.strOk s = true) (o2 : ∀ s ∈ ys, PyData.strOk s = true) (k : Q (.bl (decide (xs = ys))) H) : rEqD K (.ref p) (.ref q) H Q := by
  have key : ∀ {p : Addr} {l : List Str}, H p = some (.lst (l.map V.str)) → (∀ s ∈ l, PyData.strOk s = true) → Dp K H (.ref p) (.list (l.map PyData.str)) ∧ SeqAt.shaped (.list (l.map PyData.str)) = true := fun h o => by
    obtain ⟨a, b⟩ := lay_okS o
    have d : DpD H (.ref _) (.list (_ : List PyData)) := .lst h (DpDs.strs _)
    refine ⟨d.dp (by rw [PyData.canLay0]; exact a), ?_⟩
    unfold SeqAt.shaped
    rw [Bool.and_eq_true, PyData.canLay0, PyData.depth, b]
    exact ⟨a, by decide⟩
  obtain ⟨a1, a2⟩ := key h1 o1
  obtain ⟨b1, b2⟩ := key h2 o2
  refine ⟨_, _, a1, b1, a2, b2, ?_⟩
  have e := strs_eqv xs ys
  rw [List.map_map, List.map_map] at e
  have e2 : PyData.eqv (.list (xs.map PyData.str)) (.list (ys.map PyData.str)) = decide (xs = ys) := by
    rw [PyData.eqv]
    exact e
  rw [e2]
  exact k
theorem lt_asc {p q : List Str} (hp : p.Pairwise ltS) (hq : q.Pairwise ltS) (h : ∀ x, x ∈ p ↔ x ∈ q) : p = q := by
  have np : ∀ {l : List Str}, l.Pairwise ltS → l.Nodup := fun h => h.imp fun {a b} z e => by subst e; exact List.lt_irrefl _ z
  exact List.Perm.eq_of_pairwise (fun a b _ _ h1 h2 => absurd h2 (List.lt_asymm h1)) hp hq ((List.perm_ext_iff_of_nodup (np hp) (np hq)).mpr h)
/-- a row of an entry is what the steps keep of it -/
theorem ent_filter {ys l : List Str} (hy : ys.Pairwise ltS) : (l.Pairwise ltS ∧ ∀ z ∈ l, z ∈ ys) ↔ l = ys.filter fun z => decide (z ∈ l) := by
  constructor
  · rintro ⟨h1, h2⟩
    refine lt_asc h1 (hy.sublist List.filter_sublist) fun x => ?_
    rw [List.mem_filter]
    exact ⟨fun h => ⟨h2 x h, decide_eq_true h⟩, fun h => of_decide_eq_true h.2⟩
  · intro e
    refine ⟨?_, fun z hz => ?_⟩
    · rw [e]
      exact hy.sublist List.filter_sublist
    · rw [e] at hz
      exact (List.mem_filter.mp hz).1
def rEq : RR V := fun _ v u => v = u
theorem paired_V {H : Hp} : ∀ xs : List V, Paired (rEq H) xs xs
  | [] => .nil
  | x :: xs => .cons rfl (paired_V xs)
section
variable {P : Program} [SupX.PX P] {w : World} {K : PySem.W.Frag} {mg : Str → Option Value} {base : Heap}
def sp_law_same (T : Tx K mg) : Sp := fun vs H Q _ => ∃ b c : Bool, vs = [.bl b, .bl c] ∧ Q (.bl (b == c)) H
theorem ok_law_same (T : Tx K mg) : FnOk P w K mg base CX0 1 T.law_same.f T.law_same.fd P_law_same (sp_law_same T) := by
  refine T.law_same.F.ok sc_law_same (fun vs H Q E h => ?_) (fun cdv A outer s H vs Q E hr h => ?_)
  · obtain ⟨b, c, rfl, k⟩ := h
    rfl
  have hu := hu_of hr
  have nd := sc_law_same.nd
  obtain ⟨b, c, rfl, k⟩ := h
  refine ⟨_, (pss_one (ps_ret (pe_and (pe_callB (w_isi (K := K) rfl) (by rfl) T.b_isinstance (by decide +kernel) (pa_cons (pv 0) (pa_cons (pe_bltn (v := .ty "bool") (by rfl) T.b_bool (by decide +kernel) rfl) pa_nil))) (pe_one (pe_cmpR op_eq (pv 0) (pv 1) (nomark _)))))), ?_⟩
  refine x_start (σ' := [some _, some _]) rfl ?_
  try simp only [cx_n, cx_K, cx_w, cx_P]
  walk_at "rd"
  refine x_isiT (.base (.bl _)) (by decide +kernel) ?_
  walk_at "rd"
  have e9 : decide (V.bl b = V.bl c) = (b == c) := by cases b <;> cases c <;> decide
  rw [e9]
  exact k
def sp_law_entry (T : Tx K mg) : Sp := fun vs H Q _ => ∃ (sl : Addr) (ys : List Str) (v : V) (d : PyData), vs = [.ref sl, v] ∧ H sl = some (.lst (ys.map V.str)) ∧ ys.Pairwise ltS ∧ ys.length ≤ 100 ∧ (∀ s ∈ ys, PyData.strOk s = true) ∧ DpD H v d ∧ SmallT d ∧ (∀ ds, d = .tuple ds → ds.length ≤ 100) ∧
  ∀ (bb : Bool) H', SX [] H H' → (bb = true ↔ EntD ys d) → Q (.bl bb) H'
theorem ok_law_entry (T : Tx K mg) : FnOk P w K mg base CX0 1 T.law_entry.f T.law_entry.fd P_law_entry (sp_law_entry T) := by
  refine T.law_entry.F.ok sc_law_entry (fun vs H Q E h => ?_) (fun cdv A outer s H vs Q E hr h => ?_)
  · obtain ⟨sl, ys, v, d, rfl, hsl, yp, yl, yo, hv, sm, dl, k⟩ := h
    rfl
  have hu := hu_of hr
  have nd := sc_law_entry.nd
  obtain ⟨sl, ys, v, d, rfl, hsl, yp, yl, yo, hv, sm, dl, k⟩ := h
  refine ⟨_, (pss_cons (ps_if (PW.pt (pw_or (pt_not (pt_val (pe_callB (w_isi (K := K) rfl) (by rfl) T.b_isinstance (by decide +kernel) (pa_cons (pv 1) (pa_cons (pe_bltn (v := .ty "tuple") (by rfl) T.b_tuple (by decide +kernel) rfl) pa_nil))))) (pw_or1 (pt_cmpR op_eq (pe_callB (w_len (K := K) rfl) (by rfl) T.b_len (by decide +kernel) (pa_cons (pv 1) pa_nil)) pe_int (nomark _))))) (pss_one (ps_ret pe_bl)) pss_nil)
      (pss_cons (ps_if (pt_not (pt_val (pe_callB (w_all (K := K) rfl rfl) (by rfl) T.b_all (by decide +kernel) (pa_cons (pe_lc (own := [("move", 2)]) rfl nd (w_pitup (K := K) rfl (pv 1)) (blkOk_by (own := [("move", 2)]) (N := N_law_entry) (sc := defScope s_law_entry) (by decide +kernel)) (fun _ _ _ _ _ => (pg_name (i := 2) nd rfl (Or.inl rfl))) (fun _ _ _ _ _ => pts_nil) (fun _ _ _ _ _ => (pe_callB (w_isi (K := K) rfl) (by rfl) T.b_isinstance (by decide +kernel) (pa_cons (pv 2) (pa_cons (pe_bltn (v := .ty "str") (by rfl) T.b_str (by decide +kernel) rfl) pa_nil))))) pa_nil)))) (pss_one (ps_ret pe_bl)) pss_nil)
      (pss_one (ps_ret (pe_cmpR (w_eqD (K := K) rfl hr.units) (pe_callTy (w_list (K := K) rfl) (by rfl) T.b_list (by decide +kernel) (pa_cons (pv 1) pa_nil)) (pe_lc (own := [("step", 3)]) rfl nd (w_pilist (K := K) rfl (pv 0)) (blkOk_by (own := [("step", 3)]) (N := N_law_entry) (sc := defScope s_law_entry) (by decide +kernel)) (fun _ _ _ _ _ => (pg_name (i := 3) nd rfl (Or.inl rfl))) (fun _ _ _ _ _ => pts_one (pt_cmpR (w_in (K := K) rfl) (pv 3) (pv 1) (by rfl))) (fun _ _ _ _ _ => (pv 3))) (nomark _)))))), ?_⟩
  refine x_start (σ' := [some _, some _, none, none]) rfl ?_
  try simp only [cx_n, cx_K, cx_w, cx_P]
  have no : ∀ B, SX [] H B → ¬ EntD ys d → Q (.bl false) B := fun B s h => k false B s ⟨(fun z => nomatch z), fun z => absurd z h⟩
  walk_at "rd"
  refine x_isi hv.ty (kit_tup d) ?_
  cases hv with
  | @tup a xs ds hkn hs =>
    have dl := dl ds rfl
    walk_at "rd"
    refine x_lenT' (sqT hkn) ?_
    walk_at "rd"
    have ln := hs.len
    refine x_cases (fun c => ?_) (fun c => ?_)
    · walk_at "rd"
      refine no _ (SX.refl _) fun ⟨kn0, e, g, _⟩ => g ?_
      have : xs.length = 0 := by have := of_decide_eq_true c; injection this with this; omega
      injection e with e
      have : kn0.length = 0 := by rw [← List.length_map (f := PyData.str), ← e]; omega
      exact List.eq_nil_of_length_eq_zero this
    have l0 : xs.length ≠ 0 := fun z => by
      rw [z] at c
      exact absurd c (by decide)
    walk_at "rd"
    refine x_itt (sqT hkn) fun D hD => ?_
    refine lc_it (walk_tupR (R := rEq) (Hb := H) (paired_V xs)) (fun n A => SX [] H A ∧ A D = some (.lst (((ds.take n).map strB).map V.bl))) ⟨SX.new hD, upd_same⟩ (fun n A _ h => h.1.le0.t (sqT hkn)) ?_ ?_
    · rintro n z A0 A hn ⟨sA, dA⟩ ⟨rfl, u, hu9, rfl⟩
      obtain ⟨dy, edy, hdy⟩ := (hs.nil_ sA).at_ hu9
      walk_at "rd"
      refine ⟨rfl, ?_⟩
      walk_at "rd"
      refine x_isi hdy.ty (kit_str dy) ?_
      refine ⟨_, dA, lt_size (by rw [List.length_map, List.length_map, List.length_take]; omega), sx_nil_of (S := [D]) ((nil_sx sA).trans (SX.mut List.mem_cons_self)) (by simp [hD]), ?_⟩
      rw [upd_same, take_succ_of edy, List.map_append, List.map_append]
      cases dy <;> rfl
    · rintro A ⟨sA, dA⟩
      rw [ln, List.take_length] at dA
      refine ⟨D, _, rfl, sqL dA, ?_⟩
      have e : ((ds.map strB).all id) = ds.all strB := by
        rw [List.all_map]
        rfl
      rw [e]
      cases al : ds.all strB with
      | false =>
        walk_at "rd"
        refine no _ sA fun ⟨l, e, _⟩ => ?_
        injection e with e
        rw [e] at al
        have : (l.map PyData.str).all strB = true := List.all_eq_true.mpr fun x hx => by
          obtain ⟨s, _, rfl⟩ := List.mem_map.mp hx
          rfl
        rw [this] at al
        cases al
      | true =>
        obtain ⟨l, rfl⟩ := strs_ofB al
        have xl := strs_back hs
        subst xl
        obtain ⟨ll, lo⟩ := sm l rfl
        walk_at "rd"
        refine x_clistT (sA.le0.t (sqT hkn)) fun p hp => ?_
        have s1 : SX [] H (upd A p (.lst (l.map V.str))) := sA.trans (SX.new hp)
        have e1 : (upd A p (.lst (l.map V.str))) p = some (.lst (l.map V.str)) := upd_same
        generalize upd A p (.lst (l.map V.str)) = B at s1 e1
        walk_at "rd"
        have hsl1 := s1 _ _ List.not_mem_nil hsl
        refine x_itl (sqL hsl1) fun D2 hD2 => ?_
        refine lc_it (walk_listR (R := rS) (Hb := H) (paired_S' ys)) (fun n A => SX [] B A ∧ A D2 = some (.lst ((((ys.take n).filter fun z => decide (z ∈ l))).map V.str))) ⟨SX.new hD2, upd_same⟩ (fun n A _ h => sqL (h.1 _ _ List.not_mem_nil hsl1)) ?_ ?_
        · rintro n z A0 A2 hn ⟨sA2, dA2⟩ ⟨rfl, u, hu9, rfl⟩
          walk_at "rd"
          refine ⟨rfl, ?_⟩
          walk_at "rd"
          refine ⟨a, _, rfl, .inr ((s1.trans sA2).le0.t (sqT hkn)), rfl, flat_strs l, ?_⟩
          rw [inV_strD]
          walk_at "rd"
          have stp : ((ys.take (n + 1)).filter fun z => decide (z ∈ l)) = ((ys.take n).filter fun z => decide (z ∈ l)) ++ if u ∈ l then [u] else [] := by
            rw [take_succ_of hu9, List.filter_append, List.filter_cons]
            by_cases c : u ∈ l <;> simp [c]
          refine x_cases (fun c => ?_) (fun c => ?_)
          · have c : u ∈ l := of_decide_eq_true c
            walk_at "rd"
            refine ⟨_, dA2, lt_size ?_, sx_nil_of (S := [D2]) ((nil_sx sA2).trans (SX.mut List.mem_cons_self)) (by simp [hD2]), ?_⟩
            · rw [List.length_map]
              refine Nat.le_trans (List.length_filter_le _ _) ?_
              rw [List.length_take]
              omega
            · rw [upd_same, stp, if_pos c, List.map_append]
              rfl
          · have c : u ∉ l := of_decide_eq_false c
            exact ⟨sA2, by rw [dA2, stp, if_neg c, List.append_nil]⟩
        · rintro C ⟨sC, dC⟩
          rw [List.take_length] at dC
          refine x_eqLs (sC _ _ List.not_mem_nil e1) dC lo (fun s hs => yo s (List.mem_filter.mp hs).1) ?_
          refine k _ C (s1.trans sC) ?_
          rw [decide_eq_true_iff, ← ent_filter yp]
          constructor
          · intro h
            exact ⟨l, rfl, (fun z => by rw [z] at l0; exact l0 rfl), h.1, h.2⟩
          · rintro ⟨l', e, _, h1, h2⟩
            injection e with e
            have := str_inj e
            subst this
            exact ⟨h1, h2⟩
  | _ =>
    walk_at "rd"
    refine no _ (SX.refl _) fun ⟨kn0, e, g⟩ => by cases e
end
end M

namespace M
open PySem PySem.Spec PyProof.Rows L2 ReR
def SmallB (d : PyData) : Prop := ∀ ds, d = .dict ds → ∀ q ∈ ds, SmallT q.2 ∧ ∀ l, q.2 = .tuple l → l.length ≤ 100
section
variable {P : Program} [SupX.PX P] {w : World} {K : PySem.W.Frag} {mg : Str → Option Value} {base : Heap}
def sp_law_right (P : Program) (w : World) (T : Tx K mg) : Sp := fun vs H Q _ => ∃ (d9 : Addr) (v : V) (sts : List (Str × Stand)) (d : PyData) (o : Option KVN), vs = [.ref d9, v] ∧ rD (rStand K) H (.ref d9) sts ∧ (∀ z ∈ sts, z.2.nd ∧ z.2.size ≤ 4 ∧ ∀ s ∈ z.2.rows.map (·.1), nameB s = true) ∧ Thg P w H v d o ∧ (∀ kvs, o = some kvs → (kvs.map (·.1)).Nodup) ∧ SmallB d ∧
  ∀ (bb : Bool) H', SX [] H H' → (bb = true ↔ ∃ ds, d = .dict ds ∧ BookD sts ds) → Q (.bl bb) H'
theorem ok_law_right (T : Tx K mg) : FnOk P w K mg base CX0 2 T.law_right.f T.law_right.fd P_law_right (sp_law_right P w T) := by
  refine T.law_right.F.ok sc_law_right (fun vs H Q E h => ?_) (fun cdv A outer s H vs Q E hr h => ?_)
  · obtain ⟨d9, v, sts, d, o, rfl, hd9, ok, tg, knd, sm, k⟩ := h
    rfl
  have hu := hu_of hr
  have nd := sc_law_right.nd
  obtain ⟨d9, v, sts, d, o, rfl, hd9, ok, tg, knd, sm, k⟩ := h
  refine ⟨_, (pss_cons (ps_if (pt_not (pt_val (pe_callB (wN_isi (P := P) (w := w) (K := K) rfl rfl rfl) (by rfl) T.b_isinstance (by decide +kernel) (pa_cons (pv 1) (pa_cons (pe_bltn (v := .ty "dict") (by rfl) T.b_dict (by decide +kernel) rfl) pa_nil))))) (pss_one (ps_ret pe_bl)) pss_nil)
      (pss_cons (ps_lockR (ps_for PassesOwn.never rfl (w_pikeysN (P := P) (w := w) rfl rfl (pv 1)) (pg_name (i := 2) nd rfl (Or.inl rfl)) (pss_cons (ps_if (PW.pt (pw_or (pt_not (pt_val (pe_callB (w_isi (K := K) rfl) (by rfl) T.b_isinstance (by decide +kernel) (pa_cons (pv 2) (pa_cons (pe_bltn (v := .ty "str") (by rfl) T.b_str (by decide +kernel) rfl) pa_nil))))) (pw_or (pt_cmp (pc_dnotin hu (pv 2) (pv 0))) (pw_or1 (pt_cmpR op_ne (pe_ix (w_ixT (K := K) rfl) (pe_dget hu (pv 0) (pv 2) (fun _ _ => rfl)) pe_int (fun _ _ => rfl)) pe_str (nomark _)))))) (pss_one (ps_ret pe_bl)) pss_nil)
      (pss_one (ps_if (pt_not (pt_val (pe_call (ok_law_entry (P := P) (w := w) T) (hr.mono (by decide)) (by rfl) T.law_entry.g T.law_entry.F.kp T.law_entry.B .nil pass0 (pa_cons (pe_call (ok_law_steps (P := P) (w := w) T) (hr.mono (by decide)) (by rfl) T.law_steps.g T.law_steps.F.kp T.law_steps.B .nil pass0 (pa_cons (pv 0) (pa_cons (pv 2) pa_nil))) (pa_cons (wN_get (P := P) (w := w) rfl rfl hr.units (pv 1) (pv 2) (fun _ _ => rfl)) pa_nil))))) (pss_one (ps_ret pe_bl)) pss_nil)))))
      (pss_one (ps_ret pe_bl)))), ?_⟩
  refine x_start (σ' := [some _, some _, none]) rfl ?_
  try simp only [cx_n, cx_K, cx_w, cx_P]
  have no : ∀ B, SX [] H B → ¬ (∃ ds, d = .dict ds ∧ BookD sts ds) → Q (.bl false) B := fun B s h => k false B s ⟨(fun z => nomatch z), fun z => absurd z h⟩
  walk_at "rd"
  cases tg with
  | odd h n =>
    refine x_isiO h n ?_
    walk_at "rd"
    exact no _ (SX.refl _) fun ⟨ds, e, _⟩ => n ds e
  | dic g dp =>
  rename_i a kvs ds
  have knd := knd kvs rfl
  have sm := sm ds rfl
  refine x_isiDic g ?_
  walk_at "rd"
  refine x_lockN g fun od u HL eL ne leL exL gL => ?_
  refine x_iKeysN ?_
  walk_at "rd"
  refine ⟨a, od, u, kvs, rfl, eL, gL, ?_⟩
  have dpL : DpP HL kvs ds := dp.mono exL
  refine for_it walk_keysN (fun i σ A => SX [] HL A ∧ BookD sts (ds.take i) ∧ ∃ c1, σ = [some (.ref d9), some (.ref a), c1]) ⟨SX.refl _, (fun _ h => nomatch h), _, rfl⟩ (fun i σ A _ h => ⟨h.1 _ _ List.not_mem_nil eL, gL.mono (sx_ext h.1)⟩) ?_ ?_
  · rintro i z σ A0 A hi ⟨sA, bA, c1, rfl⟩ ⟨rfl, q, hq, rfl⟩
    obtain ⟨dq, edq, h1, h2⟩ := dpp_at (dpL.mono (sx_ext sA)) hq
    have smq := sm dq (getMem edq)
    have hdA : rD (rStand K) A (.ref d9) sts := mono_D (mono_stand K) _ _ _ _ (leL.trans sA.le0) hd9
    have noA : ∀ B, SX [] A B → ¬ (∃ n h ms, dq.1 = .str n ∧ lookA sts n = some (.hand h ms) ∧ EntD (ms.map (·.1)) dq.2) → B a = some (.frz od u) ∧ Q (.bl false) (put B a (H a)) := fun B s h => ⟨(sA.trans s) _ _ List.not_mem_nil eL, no _ (unlock_sx ne (sA.trans s)) fun ⟨ds', e, bd⟩ => by
      injection e with e
      subst e
      exact h (bd dq (getMem edq))⟩
    walk_at "rd"
    refine x_isi h1.ty (kit_str dq.1) ?_
    obtain ⟨k0, v0, w0⟩ := q
    obtain ⟨d1, d2⟩ := dq
    cases h1 with
    | str n =>
      walk_at "rd"
      obtain ⟨d9', kvs9, e9, hrd, hk⟩ := id hdA
      cases e9
      refine x_dni' hrd ?_
      by_cases mn : n ∈ sts.map (·.1)
      · obtain ⟨st, est⟩ := lookA_some mn
        obtain ⟨v5, ev, rv⟩ := hk.at_ est
        rw [ev]
        walk_at "rd"
        refine x_false (by rfl) ?_
        walk_at "rd"
        refine x_dg' hrd ev ?_
        walk_at "rd"
        obtain ⟨tp, xs5, rfl, htp, h0⟩ := rStand.kind rv
        refine x_ixT htp h0 ?_
        walk_at "rd"
        cases st with
        | fin =>
          walk_at "if!"
          walk_at "rd"
          exact noA _ (SX.refl _) fun ⟨n', h', ms', e1, e2, _⟩ => by cases e1; rw [est] at e2; cases e2
        | chance cs =>
          walk_at "if!"
          walk_at "rd"
          exact noA _ (SX.refl _) fun ⟨n', h', ms', e1, e2, _⟩ => by cases e1; rw [est] at e2; cases e2
        | hand hh ms =>
          walk_at "if!"
          walk_at "rd"
          refine ⟨d9, n, sts, _, rfl, hdA, est, fun p B ys hp sB ep pp sy => ?_⟩
          walk_at "rd"
          refine n_get ?_
          walk_at "rd"
          obtain ⟨snd, ssz, snm⟩ := ok _ (lookA_mem est)
          have mq : (k0, V.str n, w0) ∈ kvs := getMem hq
          have gB : AnyD P w B a kvs := gL.mono (sx_ext (sA.trans sB))
          have lk0 : lkN kvs n = some w0 := lkN_of knd mq (any_text gB mq rfl)
          refine ⟨a, w0, rfl, by rw [← lk0]; exact nget_text gB n, ?_⟩
          have ynd : ys.Nodup := pp.nodup_iff.mpr (rows_nodupB snd)
          have ylen : ys.length ≤ 100 := by
            rw [pp.length_eq, List.length_map, rows_tos_len, tos_len]
            exact Nat.le_trans ssz (by decide)
          refine ⟨p, ys, w0, d2, rfl, ep, strict_of (sortedS_pw sy) ynd, ylen, fun s hs => nameB_strOk (snm s (pp.mem_iff.mp hs)), DpD.nil sB h2, smq.1, smq.2, fun bb C sC iff => ?_⟩
          have iff2 : bb = true ↔ EntD (ms.map (·.1)) d2 := iff.trans (EntD.mem fun z => pp.mem_iff)
          cases bb with
          | true =>
            walk_at "rd"
            refine ⟨sA.trans (sB.trans sC), ?_, _, rfl⟩
            rw [take_succ_of edq]
            intro q hq'
            rcases List.mem_append.mp hq' with h | h
            · exact bA q h
            · cases List.mem_singleton.mp h
              exact ⟨n, hh, ms, rfl, est, iff2.mp rfl⟩
          | false =>
            walk_at "rd"
            exact noA _ (sB.trans sC) fun ⟨n', h', ms', e1, e2, e3⟩ => by
              cases e1
              rw [est] at e2
              cases e2
              exact nomatch iff2.mpr e3
      · have en : valV kvs9 (Sum.inr n) = none := by
          rcases hk.look n with ⟨v9, b9, e1, e2, _⟩ | ⟨e1, _⟩
          · exact absurd (key_of' e2) mn
          · exact e1
        rw [en]
        walk_at "rd"
        refine x_true (by rfl) ?_
        walk_at "rd"
        exact noA _ (SX.refl _) fun ⟨n', h', ms', e1, e2, _⟩ => by cases e1; exact mn (key_of' e2)
    | _ =>
      walk_at "rd"
      exact noA _ (SX.refl _) fun ⟨n', h', ms', e1, e2, _⟩ => nomatch e1
  · rintro σ A ⟨sA, bA, c1, rfl⟩
    rw [show kvs.length = ds.length from Paired.length dp, List.take_length] at bA
    refine ⟨sA _ _ List.not_mem_nil eL, ?_⟩
    walk_at "rd"
    exact k true _ (unlock_sx ne sA) ⟨fun _ => ⟨ds, rfl, bA⟩, fun _ => rfl⟩
end
end M

namespace M
open PySem PySem.Spec PyProof.Rows L2 ReR
theorem cut_toA {xs : List V} {n : Nat} : cutV xs none (some (n : Int)) = xs.take n := by
  by_cases h : n ≤ xs.length
  · exact cut_to' h
  · unfold cutV
    rw [HT.sIx_nat, HT.sIx_none, List.drop_zero, Nat.sub_zero, Nat.min_eq_right (by omega), List.take_length, List.take_of_length_le (by omega)]
theorem x_li {te : TE} {σ : L2.St} {H : Hp} {Q : VK} (k : te σ H fun x H1 => LiI.rItemsL x H1 Q) : LiI.tListItems te σ H Q := k
theorem x_revL {K : PySem.W.Frag} {te : TE} {σ : L2.St} {H : Hp} {Q : VK} (k : te σ H fun x H1 => ∃ a xs, x = .ref a ∧ SqL K H1 a xs ∧ ∀ p, H1 p = none → Q (.ref p) (upd H1 p (.lst xs.reverse))) : tRevL K te σ H Q := k
theorem x_cat {a b : Addr} {xs ys : List V} {H : Hp} {Q : VK} (h1 : H a = some (.lst xs)) (h2 : H b = some (.lst ys)) (l : xs.length + ys.length ≤ sizeLine) (k : ∀ p, H p = none → Q (.ref p) (upd H p (.lst (xs ++ ys)))) : rCat (.ref a) (.ref b) H Q := ⟨a, b, xs, ys, rfl, rfl, h1, h2, l, k⟩
theorem at_memL {xs : List V} {r : Int} (h0 : 0 ≤ r) (h1 : r < (xs.length : Int)) : ∃ v, atI xs r = some v ∧ v ∈ xs := by
  obtain ⟨n, rfl⟩ := Int.eq_ofNat_of_zero_le h0
  have hn : n < xs.length := by omega
  exact ⟨xs[n], atI_nat (by rw [List.getElem?_eq_getElem hn]), List.getElem_mem hn⟩
def SmT (d : PyData) : Prop := SmallT d ∧ ∀ l, d = .tuple l → l.length ≤ 100
theorem SmT.non {d : PyData} (h : ∀ l, d ≠ .tuple l) : SmT d := ⟨fun l e => absurd e (h _), fun l e => absurd e (h _)⟩
theorem SmT.tup {ds : List PyData} (n : ds.length ≤ 100) (h : ∀ d ∈ ds, ∀ s, d = .str s → PyData.strOk s = true) : SmT (.tuple ds) := by
  refine ⟨fun l e => ?_, fun l e => ?_⟩
  · injection e with e
    subst e
    rw [List.length_map] at n
    exact ⟨n, fun s hs => h (.str s) (List.mem_map.mpr ⟨s, hs, rfl⟩) s rfl⟩
  · injection e with e
    rw [← e]
    exact n
theorem SmT.strs {l : List Str} (n : l.length ≤ 100) (h : ∀ s ∈ l, PyData.strOk s = true) : SmT (.tuple (l.map PyData.str)) := SmT.tup (by rw [List.length_map]; exact n) fun d hd s e => by
  obtain ⟨z, hz, rfl⟩ := List.mem_map.mp hd
  rw [← PyData.str.inj e]
  exact h z hz
def EntT (H : Hp) (x : NestedKey × V × V) : Prop := ∃ q : PyData × PyData, (DpD H x.2.1 q.1 ∧ DpD H x.2.2 q.2) ∧ SmT q.2
theorem dpp_ofT {H : Hp} : ∀ {kvs : KVN}, (∀ x ∈ kvs, EntT H x) → ∃ ds, DpP H kvs ds ∧ (∀ q ∈ ds, SmT q.2)
  | [], _ => ⟨[], .nil, fun _ h => nomatch h⟩
  | x :: kvs, h => by
    obtain ⟨q, h1, h2⟩ := h x List.mem_cons_self
    obtain ⟨ds, a, b⟩ := dpp_ofT (kvs := kvs) fun y hy => h y (List.mem_cons_of_mem _ hy)
    refine ⟨q :: ds, .cons h1 a, fun y hy => ?_⟩
    rcases List.mem_cons.mp hy with rfl | hy
    · exact h2
    · exact b y hy
/-- a thing that may be a book -/
def ThB (P : Program) (w : World) (H : Hp) (v : V) (d : PyData) : Prop := (∃ o, Thg P w H v d o ∧ ∀ kvs, o = some kvs → (kvs.map (·.1)).Nodup) ∧ SmallB d
theorem thb_of {P : Program} {w : World} {H : Hp} {a : Addr} {kvs : KVN} (g : AnyD P w H a kvs) (nd : (kvs.map (·.1)).Nodup) (h : ∀ x ∈ kvs, EntT H x) : ∃ d, ThB P w H (.ref a) d := by
  obtain ⟨ds, h1, h2⟩ := dpp_ofT h
  exact ⟨_, ⟨_, .dic g h1, fun kvs e => by cases e; exact nd⟩, fun ds' e q hq => by cases e; exact h2 q hq⟩
theorem put_entT {H : Hp} {kvs : KVN} {k : NestedKey} {y v : V} (h : ∀ x ∈ kvs, EntT H x) {dk dv : PyData} (hk : DpD H y dk) (hv : DpD H v dv) (ov : SmT dv) : ∀ x ∈ NK.putN kvs k y v, EntT H x := by
  intro x hx
  unfold NK.putN at hx
  split at hx
  · obtain ⟨z, hz, rfl⟩ := List.mem_map.mp hx
    obtain ⟨q, h1, h2⟩ := h z hz
    split
    · exact ⟨(q.1, dv), ⟨h1.1, hv⟩, ov⟩
    · exact ⟨q, h1, h2⟩
  · rcases List.mem_append.mp hx with hx | hx
    · exact h x hx
    · cases List.mem_singleton.mp hx
      exact ⟨(dk, dv), ⟨hk, hv⟩, ov⟩
theorem ent_extT {A B : Hp} (e : ExtR A B) {kvs : KVN} (h : ∀ x ∈ kvs, EntT A x) : ∀ x ∈ kvs, EntT B x := fun x hx => by
  obtain ⟨q, h1, h2⟩ := h x hx
  exact ⟨q, ⟨h1.1.monoR e, h1.2.monoR e⟩, h2⟩
theorem lift_entT {H : Hp} {kv : List (Key × V)} {bk : List (Str × List Str)} (h : KVs rTS H kv bk) (sm : ∀ q ∈ bk, q.2.length ≤ 4 ∧ ∀ s ∈ q.2, PyData.strOk s = true) : ∀ x ∈ liftK kv, EntT H x := by
  intro x hx
  obtain ⟨z, hz, rfl⟩ := List.mem_map.mp hx
  obtain ⟨i, hi⟩ := List.mem_iff_getElem?.mp hz
  obtain ⟨q, hq, e1, t, e2, ht⟩ := Paired.getL h hi
  obtain ⟨n1, n2⟩ := sm q (getMem hq)
  refine ⟨(.str q.1, .tuple (q.2.map PyData.str)), ⟨?_, ?_⟩, SmT.strs (by omega) n2⟩
  · show DpD H (kV z.1) _
    rw [e1]
    exact .str _
  · show DpD H z.2 _
    rw [e2]
    exact .tup ht (DpDs.strs _)
theorem ext_updT {B : Hp} {a : Addr} {o : HO} : Ext (hid [a] B) (upd B a o) := fun b u h => by
  obtain ⟨n, e⟩ := hid_at h
  rw [upd_ne (by simpa using n)]
  exact e
theorem put_thb {P : Program} {w : World} {B : Hp} {p a : Addr} {kv : List (Key × V)} {k : NestedKey} {y v : V} {dk dv : PyData} (ne : a ≠ p) (e : B a = some (.dK kv)) (nd : (kv.map (·.1)).Nodup) (l : kv.length ≤ 8) (en : ∀ x ∈ liftK kv, EntT (hid [p, a] B) x)
    (hk : HN (hid [p] B) k y) (d8 : k.depth ≤ 8) (h1 : DpD (hid [p, a] B) y dk) (h2 : DpD (hid [p, a] B) v dv) (o2 : SmT dv) :
    ∃ H4, NPut P w B a y v H4 ∧ SX [a] B H4 ∧ ∃ d, ThB P w (hid [p] H4) (.ref a) d := by
  have ll : (liftK kv).length ≤ 8 := by unfold liftK; rw [List.length_map]; exact l
  refine ⟨_, ⟨liftK kv, k, .inr ⟨kv, e, rfl⟩, hk.mono fun t xs h => (hid_at h).2, d8, Nat.lt_of_le_of_lt ll (by decide), rfl⟩, SX.mut List.mem_cons_self, ?_⟩
  have tp : ∀ t xs, hid [p] B t = some (.tup xs) → hid [p] (upd B a (NdO P w a (NK.putN (liftK kv) k y v))) t = some (.tup xs) := fun t xs h => by
    obtain ⟨n, h⟩ := hid_at h
    rw [hid_of n, upd_ne (fun z => by rw [z, e] at h; cases h)]
    exact h
  have kn := putN_keys (k := k) (y := y) (v := v) (lift_keys (H := hid [p] B) nd) hk d8
  refine thb_of (.inl ⟨.inl (by rw [hid_of (by simpa using ne)]; exact upd_same), kn.mono tp⟩) kn.nd (ent_extT (Ext.r fun b u h => ?_) (put_entT en h1 h2 o2))
  obtain ⟨n, e⟩ := hid_at h
  rw [hid_of fun m => n (by rw [List.mem_singleton.mp m]; exact List.mem_cons_self), upd_ne fun z => n (by rw [z]; exact List.mem_cons_of_mem _ List.mem_cons_self)]
  exact e
theorem items_dataT {A A0 B : Hp} : ∀ {ts : List Addr} {kv : List (Key × V)} {bk : List (Str × List Str)}, (∀ t ∈ ts, ∀ {o}, A t = some o → B t = some o) → Paired (fun (t : Addr) (q : Key × V) => A t = some (.tup [kV q.1, q.2])) ts kv → KVs rTS A0 kv bk → (∀ t xs, A0 t = some (.tup xs) → B t = some (.tup xs)) →
    ∃ ds, DpDs B (ts.map V.ref) ds
  | [], [], _, _, .nil, _, _ => ⟨[], .nil⟩
  | t :: ts, (k, v) :: kv, (a, b) :: bk, e, .cons h r, .cons ⟨h1, h2⟩ r2, nm => by
    obtain ⟨ds, g1⟩ := items_dataT (fun t m _ => e t (List.mem_cons_of_mem _ m)) r r2 nm
    have h1 : k = Sum.inr a := h1
    obtain ⟨u, h2, hu⟩ := h2
    have h2 : v = .ref u := h2
    subst h1 h2
    exact ⟨.tuple [.str a, .tuple (b.map PyData.str)] :: ds, .cons (.tup (e t List.mem_cons_self h) (.cons (.str _) (.cons (.tup (nm _ _ hu) (DpDs.strs _)) .nil))) g1⟩
section
variable {P : Program} [SupX.PX P] {w : World} {K : PySem.W.Frag} {mg : Str → Option Value} {base : Heap}
def sp_law_spoiled (P : Program) (w : World) (T : Tx K mg) : Sp := fun vs H Q _ => ∃ (p d9 b : Addr) (sts : List (Str × Stand)) (bk : List (Str × List Str)) (kv : List (Key × V)), vs = [.ref p, .ref d9, .ref b] ∧ Drw H p ∧ rD (rStand K) (hid [p, b] H) (.ref d9) sts ∧ sts.length ≤ 8 ∧ 1 ≤ sts.length ∧ (∀ z ∈ sts, z.2.nd ∧ z.2.size ≤ 4 ∧ ∀ s ∈ z.2.rows.map (·.1), nameB s = true) ∧ H b = some (.dK kv) ∧ KVs rTS H kv bk ∧
  BookG sts bk ∧ bk.length ≤ 8 ∧
  ∀ v d H', SX [p, b] H H' → Drw H' p → ThB P w (hid [p] H') v d → Q v H'
theorem ok_law_spoiled (T : Tx K mg) : FnOk P w K mg base CX0 2 T.law_spoiled.f T.law_spoiled.fd P_law_spoiled (sp_law_spoiled P w T) := by
  refine T.law_spoiled.F.ok sc_law_spoiled (fun vs H Q E h => ?_) (fun cdv A outer s H vs Q E hr h => ?_)
  · obtain ⟨p, d9, b, sts, bk, kv, rfl, hp, hd9, h8, h1, ok, hb, kl, bg, l8, k⟩ := h
    rfl
  have hu := hu_of hr
  have nd := sc_law_spoiled.nd
  obtain ⟨p, d9, b, sts, bk, kv, rfl, hp, hd9, h8, h1, ok, hb, kl, bg, l8, k⟩ := h
  refine ⟨_, (pss_cons (ps_set (i := 3) nd rfl (Or.inl rfl) (pe_callB (cl_sortD rfl) (by rfl) T.b_sorted (by decide +kernel) (pa_cons (pv 1) pa_nil)))
      (pss_cons (ps_set (i := 4) nd rfl (Or.inl rfl) (pe_ix (w_ixL (K := K) rfl) (pv 3) (pe_call (ok_law_draw (P := P) (w := w) T) (hr.mono (by decide)) (by rfl) T.law_draw.g T.law_draw.F.kp T.law_draw.B .nil pass0 (pa_cons (pv 0) (pa_cons (pe_callB (w_len (K := K) rfl) (by rfl) T.b_len (by decide +kernel) (pa_cons (pv 3) pa_nil)) pa_nil))) (fun _ _ => rfl)))
      (pss_cons (ps_set (i := 5) nd rfl (Or.inl rfl) (pe_call (ok_law_steps (P := P) (w := w) T) (hr.mono (by decide)) (by rfl) T.law_steps.g T.law_steps.F.kp T.law_steps.B .nil pass0 (pa_cons (pv 1) (pa_cons (pv 4) pa_nil))))
      (pss_cons (ps_set (i := 6) nd rfl (Or.inl rfl) (pe_call (ok_law_draw (P := P) (w := w) T) (hr.mono (by decide)) (by rfl) T.law_draw.g T.law_draw.F.kp T.law_draw.B .nil pass0 (pa_cons (pv 0) (pa_cons pe_int pa_nil))))
      (pss_cons (ps_if (pt_cmpR op_eq (pv 6) pe_int (nomark _)) (pss_one (wN_put (P := P) (w := w) rfl rfl hr.units (pv 2) (pe_ix (w_ixL (K := K) rfl) (pe_lst (pa_cons pe_str (pa_cons pe_non (pa_cons pe_str (pa_cons (pe_tup (pa_cons (pv 4) pa_nil)) pa_nil))))) (pe_call (ok_law_draw (P := P) (w := w) T) (hr.mono (by decide)) (by rfl) T.law_draw.g T.law_draw.F.kp T.law_draw.B .nil pass0 (pa_cons (pv 0) (pa_cons pe_int pa_nil))) (fun _ _ => rfl)) (pe_callTy (w_tup (K := K) rfl) (by rfl) T.b_tuple (by decide +kernel) (pa_cons (pv 5) pa_nil)) rfl)) pss_nil)
      (pss_cons (ps_if (pt_cmpR op_eq (pv 6) pe_int (nomark _)) (pss_one (wN_put (P := P) (w := w) rfl rfl hr.units (pv 2) (pv 4) (pe_callTy (w_tup (K := K) rfl) (by rfl) T.b_tuple (by decide +kernel) (pa_cons (w_revL (K := K) rfl (pv 5)) pa_nil)) rfl)) pss_nil)
      (pss_cons (ps_if (pt_cmpR op_eq (pv 6) pe_int (nomark _)) (pss_one (wN_put (P := P) (w := w) rfl rfl hr.units (pv 2) (pv 4) (pe_callTy (w_tup (K := K) rfl) (by rfl) T.b_tuple (by decide +kernel) (pa_cons (pe_op op_cat (pv 5) (pe_slice (w_slL (K := K) rfl) (pv 5) po_none (po_some pe_int))) pa_nil)) rfl)) pss_nil)
      (pss_cons (ps_if (pt_cmpR op_eq (pv 6) pe_int (nomark _)) (pss_one (wN_put (P := P) (w := w) rfl rfl hr.units (pv 2) (pv 4) (pe_callTy (w_list (K := K) rfl) (by rfl) T.b_list (by decide +kernel) (pa_cons (pv 5) pa_nil)) rfl)) pss_nil)
      (pss_cons (ps_if (pt_cmpR op_eq (pv 6) pe_int (nomark _)) (pss_one (wN_put (P := P) (w := w) rfl rfl hr.units (pv 2) (pv 4) (pe_callTy (w_tup (K := K) rfl) (by rfl) T.b_tuple (by decide +kernel) (pa_cons (pe_slice (w_slL (K := K) rfl) (pv 5) po_none (po_some (pe_call (ok_law_draw (P := P) (w := w) T) (hr.mono (by decide)) (by rfl) T.law_draw.g T.law_draw.F.kp T.law_draw.B .nil pass0 (pa_cons (pv 0) (pa_cons pe_int pa_nil))))) pa_nil)) rfl)) pss_nil)
      (pss_cons (ps_if (pt_cmpR op_eq (pv 6) pe_int (nomark _)) (pss_one (wN_put (P := P) (w := w) rfl rfl hr.units (pv 2) (pv 4) (pe_callTy (w_tup (K := K) rfl) (by rfl) T.b_tuple (by decide +kernel) (pa_cons (pe_op op_cat (pe_slice (w_slL (K := K) rfl) (pv 5) po_none (po_some pe_int)) (pe_lst (pa_cons (pe_ix (w_ixL (K := K) rfl) (pe_lst (pa_cons pe_str (pa_cons pe_non (pa_cons pe_int (pa_cons pe_str (pa_cons (pe_tup (pa_cons pe_str pa_nil)) (pa_cons (pe_lst (pa_cons pe_str pa_nil)) pa_nil))))))) (pe_call (ok_law_draw (P := P) (w := w) T) (hr.mono (by decide)) (by rfl) T.law_draw.g T.law_draw.F.kp T.law_draw.B .nil pass0 (pa_cons (pv 0) (pa_cons pe_int pa_nil))) (fun _ _ => rfl)) pa_nil))) pa_nil)) rfl)) pss_nil)
      (pss_cons (ps_if (pt_cmpR op_eq (pv 6) pe_int (nomark _)) (pss_one (ps_ret (pe_ix (w_ixL (K := K) rfl) (pe_lst (pa_cons pe_non (pa_cons (pe_lst pa_nil) (pa_cons (pe_tup pa_nil) (pa_cons pe_str (pa_cons pe_int (pa_cons (LiI.pe_listItems rfl (pv 2) (by rfl) T.b_list boot_list rfl rfl) (pa_cons pe_bl pa_nil)))))))) (pe_call (ok_law_draw (P := P) (w := w) T) (hr.mono (by decide)) (by rfl) T.law_draw.g T.law_draw.F.kp T.law_draw.B .nil pass0 (pa_cons (pv 0) (pa_cons pe_int pa_nil))) (fun _ _ => rfl)))) pss_nil)
      (pss_cons (ps_if (pt_cmpR op_eq (pv 6) pe_int (nomark _)) (pss_one (wN_put (P := P) (w := w) rfl rfl hr.units (pv 2) (pv 4) (pe_ix (w_ixL (K := K) rfl) (pe_lst (pa_cons pe_non (pa_cons pe_str (pa_cons pe_int (pa_cons pe_dnewK (pa_cons (pe_tup pa_nil) pa_nil)))))) (pe_call (ok_law_draw (P := P) (w := w) T) (hr.mono (by decide)) (by rfl) T.law_draw.g T.law_draw.F.kp T.law_draw.B .nil pass0 (pa_cons (pv 0) (pa_cons pe_int pa_nil))) (fun _ _ => rfl)) rfl)) pss_nil)
      (pss_one (ps_ret (pv 2))))))))))))))), ?_⟩
  refine x_start (σ' := [some _, some _, some _, none, none, none, none]) rfl ?_
  try simp only [cx_n, cx_K, cx_w, cx_P]
  obtain ⟨d9', kvs9, ed, hrd, hk⟩ := id hd9
  cases ed
  have npb : b ≠ p := fun z => by
    obtain ⟨qs, eq⟩ := hp.lst
    rw [← z, hb] at eq
    cases eq
  have hpL := hp.lst
  walk_at "rd"
  refine ⟨d9, kvs9, sts.map (·.1), rfl, le_hid.rd _ _ trivial hrd, hk.keys, fun ys yl py _ nyl => ?_⟩
  walk_at "rd"
  have s1 : SX [] H (upd H yl (.lst (ys.map V.str))) := SX.new nyl
  have e1 : (upd H yl (.lst (ys.map V.str))) yl = some (.lst (ys.map V.str)) := upd_same
  generalize upd H yl (.lst (ys.map V.str)) = H1 at s1 e1
  have p1 := hp.sx s1 List.not_mem_nil
  have nyp : yl ≠ p := fun z => hp.there (z ▸ nyl)
  have ylen : ys.length = sts.length := by rw [py.length_eq, List.length_map]
  refine x_lenL' (sqL e1) ?_
  walk_at "rd"
  rw [List.length_map]
  refine ⟨p, _, rfl, p1, by omega, by omega, fun r H2 r0 r1 s2 p2 => ?_⟩
  walk_at "rd"
  obtain ⟨v1, a1, m1⟩ := at_memL (xs := ys.map V.str) r0 (by rw [List.length_map]; exact r1)
  obtain ⟨one, o1, rfl⟩ := List.mem_map.mp m1
  refine x_ixL (sqL (s2 _ _ (by simpa using nyp) e1)) a1 ?_
  walk_at "rd"
  have sB2 : SX [p, b] H H2 := ((nil_sx s1).trans s2).sub fun x m => by
    rw [List.mem_singleton.mp m]
    exact List.mem_cons_self
  obtain ⟨st, est⟩ := lookA_some (py.mem_iff.mp o1)
  obtain ⟨snd, ssz, snm⟩ := ok _ (lookA_mem est)
  refine ⟨d9, one, sts, st, rfl, mono_D (mono_stand K) _ _ _ _ sB2.leH hd9, est, fun sl H3 zs hsl s3 esl pz sz => ?_⟩
  walk_at "rd"
  have p3 := p2.sx s3 List.not_mem_nil
  have nslp : sl ≠ p := fun z => p2.there (z ▸ hsl)
  have znd : zs.Nodup := pz.nodup_iff.mpr (rows_nodupB snd)
  have zlen : zs.length ≤ 4 := by
    rw [pz.length_eq, List.length_map, rows_tos_len, tos_len]
    exact ssz
  have zok : ∀ s ∈ zs, PyData.strOk s = true := fun s hs => nameB_strOk (snm s (pz.mem_iff.mp hs))
  refine ⟨p, 8, rfl, p3, by decide, by decide, fun ch H4 c0 c8 s4 p4 => ?_⟩
  walk_at "rd"
  have e4 : H4 sl = some (.lst (zs.map V.str)) := s4 _ _ (by simpa using nslp) esl
  have s34 : SX [p, b] H2 H4 := ((nil_sx s3).trans s4).sub fun x m => by
    rw [List.mem_singleton.mp m]
    exact List.mem_cons_self
  have sA : SX [p, b] H H4 := sB2.trans s34
  have sAp : SX [p] H H4 := ((nil_sx s1).trans s2).trans ((nil_sx s3).trans s4)
  have eb4 : H4 b = some (.dK kv) := sAp _ _ (by simpa using npb) hb
  clear s1 e1 p1 s2 p2 p3 s3 s4 s34 sB2 m1 a1 r0 r1 esl
  have sm : ∀ q ∈ bk, q.2.length ≤ 4 ∧ ∀ s ∈ q.2, PyData.strOk s = true := fun q hq => by
    obtain ⟨hh, ms, f1, _, f2, _, f3⟩ := bg.each q hq
    exact ⟨f2, fun s hs => nameB_strOk ((ok _ (lookA_mem f1)).2.2 s (f3 s hs))⟩
  have ntb : ∀ {t : Addr} {xs : List V}, H t = some (.tup xs) → t ∉ [p, b] := fun h m => by
    rcases List.mem_cons.mp m with rfl | m
    · obtain ⟨qs, eq⟩ := hpL
      rw [h] at eq
      cases eq
    · rw [List.mem_singleton.mp m, hb] at h
      cases h
  have tupK : ∀ {B : Hp}, SX [p, b] H B → ∀ {t : Addr} {xs : List V}, H t = some (.tup xs) → hid [p, b] B t = some (.tup xs) := fun s t xs h => by
    rw [hid_of (ntb h)]
    exact s _ _ (ntb h) h
  have en : ∀ {B : Hp}, SX [p, b] H B → ∀ x ∈ liftK kv, EntT (hid [p, b] B) x := fun s => lift_entT (kvs_impJ (fun v _ a h => by
    obtain ⟨t, e, ht⟩ := h
    exact ⟨t, e, tupK s ht⟩) kl) sm
  have kvn : (kv.map (·.1)).Nodup := by
    rw [kl.keys]
    exact bg.nd.map _ (fun a b h => by intro z; exact h (Sum.inr.inj z))
  have kvl : kv.length ≤ 8 := by rw [Paired.length kl]; exact l8
  have fin : ∀ {B : Hp} {kk : NestedKey} {y v : V} {dk dv : PyData}, SX [p, b] H B → Drw B p → B b = some (.dK kv) → HN (hid [p] B) kk y → kk.depth ≤ 8 → DpD (hid [p, b] B) y dk → DpD (hid [p, b] B) v dv → SmT dv →
      ∃ H4, NPut P w B b y v H4 ∧ Q (.ref b) H4 := fun s dp e hk d8 h1 h2 o2 => by
    obtain ⟨H4, np, s4, d, t1⟩ := put_thb (P := P) (w := w) npb e kvn kvl (en s) hk d8 h1 h2 o2
    exact ⟨H4, np, k _ d H4 (s.trans (s4.sub fun x m => by rw [List.mem_singleton.mp m]; exact List.mem_cons_of_mem _ List.mem_cons_self)) (dp.sx s4 (by simpa using npb.symm)) t1⟩
  have hidP : ∀ {B : Hp} {t : Addr} {o : HO}, B t = some o → t ≠ b → t ≠ p → hid [p, b] B t = some o := fun h n m => by
    rw [hid_of (by simpa using ⟨m, n⟩)]
    exact h
  have hidL : ∀ {B : Hp} {t : Addr} {o : HO}, B t = some o → t ≠ b → Drw B p → (∀ xs, o ≠ .lst xs) → hid [p, b] B t = some o := fun h n dp nl => hidP h n fun z => by
    obtain ⟨qs, eq⟩ := dp.lst
    rw [z, eq] at h
    exact nl _ (Option.some.inj h).symm
  have hid1 : ∀ {B : Hp} {t : Addr} {o : HO}, hid [p, b] B t = some o → hid [p] B t = some o := fun h => by
    obtain ⟨n, e⟩ := hid_at h
    rw [hid_of fun m => n (by rw [List.mem_singleton.mp m]; exact List.mem_cons_self)]
    exact e
  have c : ch = 0 ∨ ch = 1 ∨ ch = 2 ∨ ch = 3 ∨ ch = 4 ∨ ch = 5 ∨ ch = 6 ∨ ch = 7 := by omega
  rcases c with rfl | rfl | rfl | rfl | rfl | rfl | rfl | rfl
  · walk_at "rd"
    iterate 1 (walk_at "if!"; walk_at "rd")
    refine n_put ?_
    walk_at "rd"
    refine x_ctup (sqL e4) fun t ht => ?_
    have s5 : SX [] H4 (upd H4 t (.tup (zs.map V.str))) := SX.new ht
    have f5 : (upd H4 t (.tup (zs.map V.str))) t = some (.tup (zs.map V.str)) := upd_same
    generalize upd H4 t (.tup (zs.map V.str)) = H5 at s5 f5
    have p5 := p4.sx s5 List.not_mem_nil
    have n5 : t ≠ p := fun z => p4.there (z ▸ ht)
    have n5b : t ≠ b := fun z => by rw [z, eb4] at ht; cases ht
    walk_at "rd"
    refine ⟨Nat.le_of_ble_eq_true rfl, fun u hu => ?_⟩
    walk_at "rd"
    refine ⟨Nat.le_of_ble_eq_true rfl, fun l hl => ?_⟩
    have s6 : SX [] H5 (upd H5 u (.tup [.str one])) := SX.new hu
    have f6 : (upd H5 u (.tup [.str one])) u = some (.tup [.str one]) := upd_same
    have n6 : u ≠ p := fun z => p5.there (z ▸ hu)
    have n6b : u ≠ b := fun z => by rw [z] at hu; rw [s5 _ _ List.not_mem_nil eb4] at hu; cases hu
    generalize upd H5 u (.tup [.str one]) = H6 at s6 f6 hl
    let L1 : List V := [.str "zz", .non, .str "", .ref u]
    have s7 : SX [] H6 (upd H6 l (.lst L1)) := SX.new hl
    have f7 : (upd H6 l (.lst L1)) l = some (.lst L1) := upd_same
    change tCall _ _ _ _ _ (upd H6 l (.lst L1)) _
    generalize upd H6 l (.lst L1) = H7 at s7 f7
    have p6 := p5.sx s6 List.not_mem_nil
    have n7 : l ≠ p := fun z => p6.there (z ▸ hl)
    walk_at "rd"
    refine ⟨p, 4, rfl, p6.sx s7 List.not_mem_nil, by decide, by decide, fun r B r0 r1 s8 p8 => ?_⟩
    obtain ⟨v, ev, mv⟩ := at_memL (xs := L1) r0 r1
    refine x_ixL (sqL (s8 _ _ (by simpa using n7) f7)) ev ?_
    have eB : B b = some (.dK kv) := s8 _ _ (by simpa using npb) ((s5.trans (s6.trans s7)) _ _ List.not_mem_nil eb4)
    have etB : B t = some (.tup (zs.map V.str)) := s8 _ _ (by simpa using n5) ((s6.trans s7) _ _ List.not_mem_nil f5)
    have euB : B u = some (.tup [.str one]) := s8 _ _ (by simpa using n6) (s7 _ _ List.not_mem_nil f6)
    have sB : SX [p, b] H B := sA.trans ((nil_sx (s5.trans (s6.trans s7))).trans (s8.sub fun x m => by
      rw [List.mem_singleton.mp m]
      exact List.mem_cons_self))
    have key : ∃ kk dk, HN (hid [p] B) kk v ∧ kk.depth ≤ 8 ∧ DpD (hid [p, b] B) v dk := by
      simp only [L1, List.mem_cons, List.not_mem_nil, or_false] at mv
      rcases mv with rfl | rfl | rfl | rfl
      · exact ⟨_, _, .str _, Nat.zero_le _, .str _⟩
      · exact ⟨_, _, .non, Nat.zero_le _, .non⟩
      · exact ⟨_, _, .str _, Nat.zero_le _, .str _⟩
      · exact ⟨_, _, .tup (hid1 (hidP euB n6b n6)) (.cons (.str _) .nil), Nat.le_of_ble_eq_true rfl, .tup (hidP euB n6b n6) (.cons (.str _) .nil)⟩
    obtain ⟨kk, dk, hk1, hk2, hk3⟩ := key
    obtain ⟨H9, np, q⟩ := fin (v := .ref t) sB p8 eB hk1 hk2 hk3 (.tup (hidP etB n5b n5) (DpDs.strs zs)) (SmT.strs (by omega) zok)
    refine ⟨b, H9, rfl, np, ?_⟩
    walk_at "rd"
    iterate 7 (walk_at "if!"; walk_at "rd")
    exact q
  · walk_at "rd"
    iterate 2 (walk_at "if!"; walk_at "rd")
    refine n_put ?_
    walk_at "rd"
    refine x_revL ?_
    walk_at "rd"
    refine ⟨sl, _, rfl, sqL e4, fun u hu => ?_⟩
    have er : (zs.map V.str).reverse = zs.reverse.map V.str := by rw [List.map_reverse]
    rw [er]
    have s5 : SX [] H4 (upd H4 u (.lst (zs.reverse.map V.str))) := SX.new hu
    have f5 : (upd H4 u (.lst (zs.reverse.map V.str))) u = some (.lst (zs.reverse.map V.str)) := upd_same
    generalize upd H4 u (.lst (zs.reverse.map V.str)) = H5 at s5 f5
    walk_at "rd"
    refine x_ctup (sqL f5) fun t ht => ?_
    walk_at "rd"
    have s6 : SX [] H5 (upd H5 t (.tup (zs.reverse.map V.str))) := SX.new ht
    have eb5 := s5 _ _ List.not_mem_nil eb4
    have n6b : t ≠ b := fun z => by rw [z, eb5] at ht; cases ht
    obtain ⟨H9, np, q⟩ := fin (v := .ref t) (sA.trans (nil_sx (s5.trans s6))) (p4.sx (s5.trans s6) List.not_mem_nil) (s6 _ _ List.not_mem_nil eb5) (.str one) (Nat.zero_le _) (.str one) (.tup (hidL upd_same n6b (p4.sx (s5.trans s6) List.not_mem_nil) (fun _ z => nomatch z)) (DpDs.strs zs.reverse)) (SmT.strs (by rw [List.length_reverse]; omega) fun s hs => zok s (List.mem_reverse.mp hs))
    refine ⟨b, H9, rfl, np, ?_⟩
    walk_at "rd"
    iterate 6 (walk_at "if!"; walk_at "rd")
    exact q
  · walk_at "rd"
    iterate 3 (walk_at "if!"; walk_at "rd")
    refine n_put ?_
    walk_at "rd"
    refine ⟨sl, _, rfl, sqL e4, fun u hu => ?_⟩
    rw [show cutV (zs.map V.str) none (some 1) = (zs.take 1).map V.str from by rw [List.map_take]; exact cut_toA (n := 1)]
    have s5 : SX [] H4 (upd H4 u (.lst ((zs.take 1).map V.str))) := SX.new hu
    have f5 : (upd H4 u (.lst ((zs.take 1).map V.str))) u = some (.lst ((zs.take 1).map V.str)) := upd_same
    generalize upd H4 u (.lst ((zs.take 1).map V.str)) = H5 at s5 f5
    walk_at "rd"
    have tl : (zs.take 1).length ≤ 1 := by rw [List.length_take]; omega
    refine x_cat (s5 _ _ List.not_mem_nil e4) f5 (Nat.le_of_lt (lt_size (by rw [List.length_map, List.length_map]; omega))) fun u2 hu2 => ?_
    rw [← List.map_append]
    have s6 : SX [] H5 (upd H5 u2 (.lst ((zs ++ zs.take 1).map V.str))) := SX.new hu2
    have f6 : (upd H5 u2 (.lst ((zs ++ zs.take 1).map V.str))) u2 = some (.lst ((zs ++ zs.take 1).map V.str)) := upd_same
    generalize upd H5 u2 (.lst ((zs ++ zs.take 1).map V.str)) = H6 at s6 f6
    walk_at "rd"
    refine x_ctup (sqL f6) fun t ht => ?_
    walk_at "rd"
    have s7 : SX [] H6 (upd H6 t (.tup ((zs ++ zs.take 1).map V.str))) := SX.new ht
    have eb6 := (s5.trans s6) _ _ List.not_mem_nil eb4
    have n7b : t ≠ b := fun z => by rw [z, eb6] at ht; cases ht
    obtain ⟨H9, np, q⟩ := fin (v := .ref t) (sA.trans (nil_sx (s5.trans (s6.trans s7)))) (p4.sx (s5.trans (s6.trans s7)) List.not_mem_nil) (s7 _ _ List.not_mem_nil eb6) (.str one) (Nat.zero_le _) (.str one) (.tup (hidL upd_same n7b (p4.sx (s5.trans (s6.trans s7)) List.not_mem_nil) (fun _ z => nomatch z)) (DpDs.strs _)) (SmT.strs (by rw [List.length_append]; omega) fun s hs => by
      rcases List.mem_append.mp hs with h | h
      · exact zok s h
      · exact zok s (List.mem_of_mem_take h))
    refine ⟨b, H9, rfl, np, ?_⟩
    walk_at "rd"
    iterate 5 (walk_at "if!"; walk_at "rd")
    exact q
  · walk_at "rd"
    iterate 4 (walk_at "if!"; walk_at "rd")
    refine n_put ?_
    walk_at "rd"
    refine x_clist (sqL e4) fun t ht => ?_
    walk_at "rd"
    have s5 : SX [] H4 (upd H4 t (.lst (zs.map V.str))) := SX.new ht
    have n5b : t ≠ b := fun z => by rw [z, eb4] at ht; cases ht
    obtain ⟨H9, np, q⟩ := fin (v := .ref t) (sA.trans (nil_sx s5)) (p4.sx s5 List.not_mem_nil) (s5 _ _ List.not_mem_nil eb4) (.str one) (Nat.zero_le _) (.str one) (.lst (hidP upd_same n5b fun z => p4.there (z ▸ ht)) (DpDs.strs _)) (SmT.non fun l z => nomatch z)
    refine ⟨b, H9, rfl, np, ?_⟩
    walk_at "rd"
    iterate 4 (walk_at "if!"; walk_at "rd")
    exact q
  · walk_at "rd"
    iterate 5 (walk_at "if!"; walk_at "rd")
    refine n_put ?_
    walk_at "rd"
    refine ⟨p, 3, rfl, p4, by decide, by decide, fun r B r0 r1 s5 p5 => ?_⟩
    obtain ⟨g, rfl⟩ := Int.eq_ofNat_of_zero_le r0
    have e5 := s5 _ _ (by simpa using nslp) e4
    walk_at "rd"
    refine ⟨sl, _, rfl, sqL e5, fun u hu => ?_⟩
    rw [show cutV (zs.map V.str) none (some (g : Int)) = (zs.take g).map V.str from by rw [List.map_take]; exact cut_toA (n := g)]
    have s6 : SX [] B (upd B u (.lst ((zs.take g).map V.str))) := SX.new hu
    have f6 : (upd B u (.lst ((zs.take g).map V.str))) u = some (.lst ((zs.take g).map V.str)) := upd_same
    generalize upd B u (.lst ((zs.take g).map V.str)) = H6 at s6 f6
    walk_at "rd"
    refine x_ctup (sqL f6) fun t ht => ?_
    walk_at "rd"
    have s7 : SX [] H6 (upd H6 t (.tup ((zs.take g).map V.str))) := SX.new ht
    have eb6 := s6 _ _ List.not_mem_nil (s5 _ _ (by simpa using npb) eb4)
    have n7b : t ≠ b := fun z => by rw [z, eb6] at ht; cases ht
    have s5' : SX [p, b] H4 B := s5.sub fun x m => by
      rw [List.mem_singleton.mp m]
      exact List.mem_cons_self
    obtain ⟨H9, np, q⟩ := fin (v := .ref t) (sA.trans (s5'.trans (nil_sx (s6.trans s7)))) (p5.sx (s6.trans s7) List.not_mem_nil) (s7 _ _ List.not_mem_nil eb6) (.str one) (Nat.zero_le _) (.str one) (.tup (hidL upd_same n7b (p5.sx (s6.trans s7) List.not_mem_nil) (fun _ z => nomatch z)) (DpDs.strs _)) (SmT.strs (by rw [List.length_take]; omega) fun s hs => zok s (List.mem_of_mem_take hs))
    refine ⟨b, H9, rfl, np, ?_⟩
    walk_at "rd"
    iterate 3 (walk_at "if!"; walk_at "rd")
    exact q
  · walk_at "rd"
    iterate 6 (walk_at "if!"; walk_at "rd")
    refine n_put ?_
    walk_at "rd"
    refine ⟨sl, _, rfl, sqL e4, fun u hu => ?_⟩
    rw [show cutV (zs.map V.str) none (some 1) = (zs.take 1).map V.str from by rw [List.map_take]; exact cut_toA (n := 1)]
    have s5 : SX [] H4 (upd H4 u (.lst ((zs.take 1).map V.str))) := SX.new hu
    have f5 : (upd H4 u (.lst ((zs.take 1).map V.str))) u = some (.lst ((zs.take 1).map V.str)) := upd_same
    have n5 : u ≠ p := fun z => p4.there (z ▸ hu)
    generalize upd H4 u (.lst ((zs.take 1).map V.str)) = H5 at s5 f5
    have p5 := p4.sx s5 List.not_mem_nil
    have eb5 := s5 _ _ List.not_mem_nil eb4
    walk_at "rd"
    refine ⟨Nat.le_of_ble_eq_true rfl, fun t1 ht1 => ?_⟩
    have s6 : SX [] H5 (upd H5 t1 (.tup [.str "go"])) := SX.new ht1
    have f6 : (upd H5 t1 (.tup [.str "go"])) t1 = some (.tup [.str "go"]) := upd_same
    have n6 : t1 ≠ p := fun z => p5.there (z ▸ ht1)
    have n6b : t1 ≠ b := fun z => by rw [z, eb5] at ht1; cases ht1
    generalize upd H5 t1 (.tup [.str "go"]) = H6 at s6 f6
    have p6 := p5.sx s6 List.not_mem_nil
    have eb6 := s6 _ _ List.not_mem_nil eb5
    walk_at "rd"
    refine ⟨Nat.le_of_ble_eq_true rfl, fun t2 ht2 => ?_⟩
    have s7 : SX [] H6 (upd H6 t2 (.lst [.str "go"])) := SX.new ht2
    have f7 : (upd H6 t2 (.lst [.str "go"])) t2 = some (.lst [.str "go"]) := upd_same
    have n7 : t2 ≠ p := fun z => p6.there (z ▸ ht2)
    have n7b : t2 ≠ b := fun z => by rw [z, eb6] at ht2; cases ht2
    generalize upd H6 t2 (.lst [.str "go"]) = H7 at s7 f7
    have p7 := p6.sx s7 List.not_mem_nil
    have eb7 := s7 _ _ List.not_mem_nil eb6
    walk_at "rd"
    refine ⟨Nat.le_of_ble_eq_true rfl, fun l hl => ?_⟩
    let L1 : List V := [.str "zz8zz", .non, .int 0, .str "", .ref t1, .ref t2]
    have s8 : SX [] H7 (upd H7 l (.lst L1)) := SX.new hl
    have f8 : (upd H7 l (.lst L1)) l = some (.lst L1) := upd_same
    have n8 : l ≠ p := fun z => p7.there (z ▸ hl)
    change tCall _ _ _ _ _ (upd H7 l (.lst L1)) _
    generalize upd H7 l (.lst L1) = H8 at s8 f8
    walk_at "rd"
    refine ⟨p, 6, rfl, p7.sx s8 List.not_mem_nil, by decide, by decide, fun r B r0 r1 s9 p9 => ?_⟩
    obtain ⟨v, ev, mv⟩ := at_memL (xs := L1) r0 r1
    refine x_ixL (sqL (s9 _ _ (by simpa using n8) f8)) ev ?_
    have uB := s9 _ _ (by simpa using n5) ((s6.trans (s7.trans s8)) _ _ List.not_mem_nil f5)
    have t1B := s9 _ _ (by simpa using n6) ((s7.trans s8) _ _ List.not_mem_nil f6)
    have t2B := s9 _ _ (by simpa using n7) (s8 _ _ List.not_mem_nil f7)
    have ebB := s9 _ _ (by simpa using npb) (s8 _ _ List.not_mem_nil eb7)
    have sB : SX [p, b] H B := sA.trans ((nil_sx (s5.trans (s6.trans (s7.trans s8)))).trans (s9.sub fun x m => by
      rw [List.mem_singleton.mp m]
      exact List.mem_cons_self))
    refine ⟨Nat.le_of_ble_eq_true rfl, fun o ho => ?_⟩
    have s10 : SX [] B (upd B o (.lst [v])) := SX.new ho
    have f10 : (upd B o (.lst [v])) o = some (.lst [v]) := upd_same
    generalize upd B o (.lst [v]) = C at s10 f10
    walk_at "rd"
    have tl : (zs.take 1).length ≤ 1 := by rw [List.length_take]; omega
    refine x_cat (s10 _ _ List.not_mem_nil uB) f10 (Nat.le_of_lt (lt_size (by rw [List.length_map]; have e1 : [v].length = 1 := rfl; omega))) fun u2 hu2 => ?_
    have s11 : SX [] C (upd C u2 (.lst ((zs.take 1).map V.str ++ [v]))) := SX.new hu2
    have f11 : (upd C u2 (.lst ((zs.take 1).map V.str ++ [v]))) u2 = some (.lst ((zs.take 1).map V.str ++ [v])) := upd_same
    generalize upd C u2 (.lst ((zs.take 1).map V.str ++ [v])) = D at s11 f11
    walk_at "rd"
    refine x_ctup (sqL f11) fun t ht => ?_
    walk_at "rd"
    have s12 : SX [] D (upd D t (.tup ((zs.take 1).map V.str ++ [v]))) := SX.new ht
    have s1012 := s10.trans (s11.trans s12)
    have ebD := (s10.trans s11) _ _ List.not_mem_nil ebB
    have n12b : t ≠ b := fun z => by rw [z, ebD] at ht; cases ht
    have val : ∃ dv, DpD (hid [p, b] (upd D t (.tup ((zs.take 1).map V.str ++ [v])))) v dv ∧ ∀ s, dv = .str s → PyData.strOk s = true := by
      simp only [L1, List.mem_cons, List.not_mem_nil, or_false] at mv
      rcases mv with rfl | rfl | rfl | rfl | rfl | rfl
      · exact ⟨_, .str _, fun s e => by rw [← PyData.str.inj e]; decide +kernel⟩
      · exact ⟨_, .non, fun s e => nomatch e⟩
      · exact ⟨_, .int _, fun s e => nomatch e⟩
      · exact ⟨_, .str _, fun s e => by rw [← PyData.str.inj e]; decide +kernel⟩
      · exact ⟨_, .tup (hidP (s1012 _ _ List.not_mem_nil t1B) n6b n6) (.cons (.str _) .nil), fun s e => nomatch e⟩
      · exact ⟨_, .lst (hidP (s1012 _ _ List.not_mem_nil t2B) n7b n7) (.cons (.str _) .nil), fun s e => nomatch e⟩
    obtain ⟨dv, hdv, sdv⟩ := val
    obtain ⟨H9, np, q⟩ := fin (v := .ref t) (sB.trans (nil_sx s1012)) (p9.sx s1012 List.not_mem_nil) (s12 _ _ List.not_mem_nil ebD) (.str one) (Nat.zero_le _) (.str one) (.tup (hidL upd_same n12b (p9.sx s1012 List.not_mem_nil) (fun _ z => nomatch z)) ((DpDs.strs (zs.take 1)).app (.cons hdv .nil))) (SmT.tup (by rw [List.length_append, List.length_map]; show _ + 1 ≤ _; omega) fun d hd s e => by
      rcases List.mem_append.mp hd with h | h
      · obtain ⟨z, hz, rfl⟩ := List.mem_map.mp h
        rw [← PyData.str.inj e]
        exact zok z (List.mem_of_mem_take hz)
      · rw [List.mem_singleton.mp h] at e
        exact sdv s e)
    refine ⟨b, H9, rfl, np, ?_⟩
    walk_at "rd"
    iterate 2 (walk_at "if!"; walk_at "rd")
    exact q
  · walk_at "rd"
    iterate 7 (walk_at "if!"; walk_at "rd")
    refine ⟨Nat.le_of_ble_eq_true rfl, fun l0 hl0 => ?_⟩
    walk_at "rd"
    refine ⟨Nat.le_of_ble_eq_true rfl, fun t0 ht0 => ?_⟩
    walk_at "rd"
    have s5 : SX [] H4 (upd H4 l0 (.lst [])) := SX.new hl0
    have f5 : (upd H4 l0 (.lst [])) l0 = some (.lst []) := upd_same
    generalize upd H4 l0 (.lst []) = H5 at s5 f5 ht0
    have s6 : SX [] H5 (upd H5 t0 (.tup [])) := SX.new ht0
    have f6 : (upd H5 t0 (.tup [])) t0 = some (.tup []) := upd_same
    generalize upd H5 t0 (.tup []) = H6 at s6 f6
    refine x_li ?_
    walk_at "rd"
    have eb6 := (s5.trans s6) _ _ List.not_mem_nil eb4
    refine ⟨b, kv, rfl, eb6, fun H7 il ts ex hil hts nil eil pil => ?_⟩
    have s7 : SX [] H6 H7 := fun b o _ h => ex b o h
    walk_at "rd"
    refine ⟨Nat.le_of_ble_eq_true rfl, fun l hl => ?_⟩
    let L1 : List V := [.non, .ref l0, .ref t0, .str "a", .int 0, .ref il, .bl true]
    have s8 : SX [] H7 (upd H7 l (.lst L1)) := SX.new hl
    have f8 : (upd H7 l (.lst L1)) l = some (.lst L1) := upd_same
    change tCall _ _ _ _ _ (upd H7 l (.lst L1)) _
    generalize upd H7 l (.lst L1) = H8 at s8 f8
    walk_at "rd"
    have s57 := s5.trans (s6.trans s7)
    have out : ∀ {B : Hp} {x : Addr}, SX [] H4 B → B x = none → x ≠ p := fun s h z => (p4.sx s List.not_mem_nil).there (z ▸ h)
    have np8 := out s57 hl
    refine ⟨p, 7, rfl, p4.sx (s57.trans s8) List.not_mem_nil, by decide, by decide, fun r B r0 r1 s9 p9 => ?_⟩
    obtain ⟨v, ev, mv⟩ := at_memL (xs := L1) r0 r1
    refine x_ixL (sqL (s9 _ _ (by simpa using np8) f8)) ev ?_
    have sB : SX [p, b] H B := sA.trans ((nil_sx (s57.trans s8)).trans (s9.sub fun b m => by
      rw [List.mem_singleton.mp m]
      exact List.mem_cons_self))
    have odd : ∀ {d : PyData}, DpD (hid [p] B) v d → (∀ ds, d ≠ .dict ds) → Q v B := fun h n => k _ _ B sB p9 ⟨⟨none, .odd h n, fun _ z => nomatch z⟩, fun ds e => absurd e (n ds)⟩
    have hp1 : ∀ {t : Addr} {o : HO}, B t = some o → t ≠ p → hid [p] B t = some o := fun h n => by
      rw [hid_of (by simpa using n)]
      exact h
    have g0 := s9 _ _ (by simpa using out (SX.refl _) hl0) ((s6.trans (s7.trans s8)) _ _ List.not_mem_nil f5)
    have g1 := s9 _ _ (by simpa using out s5 ht0) ((s7.trans s8) _ _ List.not_mem_nil f6)
    have g2 := s9 _ _ (by simpa using out (s5.trans s6) hil) (s8 _ _ List.not_mem_nil eil)
    simp only [L1, List.mem_cons, List.not_mem_nil, or_false] at mv
    rcases mv with rfl | rfl | rfl | rfl | rfl | rfl | rfl
    · exact odd .non (fun _ z => nomatch z)
    · exact odd (.lst (hp1 g0 (out (SX.refl _) hl0)) .nil) (fun _ z => nomatch z)
    · exact odd (.tup (hp1 g1 (out s5 ht0)) .nil) (fun _ z => nomatch z)
    · exact odd (.str _) (fun _ z => nomatch z)
    · exact odd (.int _) (fun _ z => nomatch z)
    · obtain ⟨ds, g9⟩ := items_dataT (B := hid [p] B) (fun t m _ h => hp1 (s9 _ _ (by simpa using out (s5.trans s6) (hts t m)) (s8 _ _ List.not_mem_nil h)) (out (s5.trans s6) (hts t m))) pil kl (fun t xs h => hp1 (sB _ _ (ntb h) h) fun z => ntb h (by rw [z]; exact List.mem_cons_self))
      exact odd (.lst (hp1 g2 (out (s5.trans s6) hil)) g9) (fun _ z => nomatch z)
    · exact odd (.bl _) (fun _ z => nomatch z)
  · walk_at "rd"
    iterate 8 (walk_at "if!"; walk_at "rd")
    refine n_put ?_
    walk_at "rd"
    intro e0 he0
    have s5 : SX [] H4 (upd H4 e0 (.dK [])) := SX.new he0
    have f5 : (upd H4 e0 (.dK [])) e0 = some (.dK []) := upd_same
    have n5 : e0 ≠ p := fun z => p4.there (z ▸ he0)
    have n5b : e0 ≠ b := fun z => by rw [z, eb4] at he0; cases he0
    generalize upd H4 e0 (.dK []) = H5 at s5 f5
    have p5 := p4.sx s5 List.not_mem_nil
    have eb5 := s5 _ _ List.not_mem_nil eb4
    walk_at "rd"
    refine ⟨Nat.le_of_ble_eq_true rfl, fun t1 ht1 => ?_⟩
    have s6 : SX [] H5 (upd H5 t1 (.tup [])) := SX.new ht1
    have f6 : (upd H5 t1 (.tup [])) t1 = some (.tup []) := upd_same
    have n6 : t1 ≠ p := fun z => p5.there (z ▸ ht1)
    have n6b : t1 ≠ b := fun z => by rw [z, eb5] at ht1; cases ht1
    generalize upd H5 t1 (.tup []) = H6 at s6 f6
    have p6 := p5.sx s6 List.not_mem_nil
    have eb6 := s6 _ _ List.not_mem_nil eb5
    walk_at "rd"
    refine ⟨Nat.le_of_ble_eq_true rfl, fun l hl => ?_⟩
    let L1 : List V := [.non, .str "go", .int 0, .ref e0, .ref t1]
    have s8 : SX [] H6 (upd H6 l (.lst L1)) := SX.new hl
    have f8 : (upd H6 l (.lst L1)) l = some (.lst L1) := upd_same
    have n8 : l ≠ p := fun z => p6.there (z ▸ hl)
    change tCall _ _ _ _ _ (upd H6 l (.lst L1)) _
    generalize upd H6 l (.lst L1) = H8 at s8 f8
    walk_at "rd"
    refine ⟨p, 5, rfl, p6.sx s8 List.not_mem_nil, by decide, by decide, fun r B r0 r1 s9 p9 => ?_⟩
    obtain ⟨v, ev, mv⟩ := at_memL (xs := L1) r0 r1
    refine x_ixL (sqL (s9 _ _ (by simpa using n8) f8)) ev ?_
    have e0B := s9 _ _ (by simpa using n5) ((s6.trans s8) _ _ List.not_mem_nil f5)
    have t1B := s9 _ _ (by simpa using n6) (s8 _ _ List.not_mem_nil f6)
    have ebB := s9 _ _ (by simpa using npb) (s8 _ _ List.not_mem_nil eb6)
    have sB : SX [p, b] H B := sA.trans ((nil_sx (s5.trans (s6.trans s8))).trans (s9.sub fun x m => by
      rw [List.mem_singleton.mp m]
      exact List.mem_cons_self))
    walk_at "rd"
    have val : ∃ dv, DpD (hid [p, b] B) v dv ∧ SmT dv := by
      simp only [L1, List.mem_cons, List.not_mem_nil, or_false] at mv
      rcases mv with rfl | rfl | rfl | rfl | rfl
      · exact ⟨_, .non, SmT.non fun l z => nomatch z⟩
      · exact ⟨_, .str _, SmT.non fun l z => nomatch z⟩
      · exact ⟨_, .int _, SmT.non fun l z => nomatch z⟩
      · exact ⟨_, .dic (.inl (hidP e0B n5b n5)) .nil, SmT.non fun l z => nomatch z⟩
      · exact ⟨_, .tup (hidP t1B n6b n6) .nil, SmT.tup (Nat.zero_le _) fun d h => nomatch h⟩
    obtain ⟨dv, hdv, sdv⟩ := val
    obtain ⟨H9, np, q⟩ := fin (v := v) sB p9 ebB (.str one) (Nat.zero_le _) (.str one) hdv sdv
    refine ⟨b, H9, rfl, np, ?_⟩
    walk_at "rd"
    exact q
end
end M

namespace M
open PySem PySem.Spec PyProof.Rows L2
def turnL (l : List (Str × Int)) : List (Str × Int) := l.map fun q => (q.1, -q.2)
theorem turn_keys (l : List (Str × Int)) : (turnL l).map (·.1) = l.map (·.1) := by
  unfold turnL
  rw [List.map_map]
  rfl
theorem turn_ok {l : List (Str × Int)} {e : Int} (o : WishOk l e) : WishOk (turnL l) (-e) := by
  have m : ∀ z ∈ turnL l, ∃ q ∈ l, z = (q.1, -q.2) := fun z hz => by
    obtain ⟨q, hq, rfl⟩ := List.mem_map.mp hz
    exact ⟨q, hq, rfl⟩
  refine ⟨by rw [turn_keys]; exact o.nd, by unfold turnL; rw [List.length_map]; exact o.len, fun z hz => ?_, by have := o.e1; omega, by have := o.e0; omega, ?_⟩
  · obtain ⟨q, hq, rfl⟩ := m z hz
    obtain ⟨a, b, c⟩ := o.all q hq
    exact ⟨a, by show -99 ≤ -q.2; omega, by show -q.2 ≤ 99; omega⟩
  · rcases o.way with h | h
    · refine .inr fun z hz => ?_
      obtain ⟨q, hq, rfl⟩ := m z hz
      have := h q hq
      show -q.2 ≤ -e
      omega
    · refine .inl fun z hz => ?_
      obtain ⟨q, hq, rfl⟩ := m z hz
      have := h q hq
      show -e ≤ -q.2
      omega
theorem less_frac {a b : Int} (f : FracOk a b) : FracOk (a - 2 * b) b := ⟨f.1, by
  have : a - 2 * b = a + b * (-2) := by omega
  rw [this, Int.gcd_add_mul_left_left]
  exact f.2⟩
end M

namespace M
open PySem PySem.Spec PyProof.Rows L2 ReR
theorem atF_key {sts : List (Str × Stand)} {a : Str} (CS : Closed sts) (ha : a ∈ sts.map (·.1)) {run : List Str} (R : RunOk sts a run) : atF sts a run ∈ sts.map (·.1) := by
  have := at_key (fun q hq => (CS.all q hq).2.2) ha R run.length (Nat.le_refl _)
  rwa [List.take_length] at this
end M

namespace M
open PySem PySem.Spec PyProof.Rows L2 ReR
theorem bkD_inj : ∀ {a b : List (Str × List Str)}, bkD a = bkD b → a = b
  | [], [], _ => rfl
  | [], _ :: _, h => by cases h
  | _ :: _, [], h => by cases h
  | (n, l) :: a, (m, k) :: b, h => by
    have h : ((PyData.str n, PyData.tuple (l.map PyData.str)) :: bkD a) = ((PyData.str m, PyData.tuple (k.map PyData.str)) :: bkD b) := h
    injection h with h1 h2
    injection h1 with h3 h4
    injection h3 with h3
    injection h4 with h4
    rw [h3, str_inj h4, bkD_inj h2]
theorem bookD_of {tbl : List (Str × Stand)} {bk : List (Str × List Str)} (h : BookW tbl bk) : BookD tbl (bkD bk) := fun q hq => by
  obtain ⟨z, hz, rfl⟩ := List.mem_map.mp hq
  obtain ⟨hh, ms, e1, e2, e3, e4⟩ := h z hz
  exact ⟨z.1, hh, ms, rfl, e1, z.2, rfl, e2, e3, e4⟩
section
variable {P : Program} [SupX.PX P] {w : World} {K : PySem.W.Frag} {mg : Str → Option Value} {base : Heap}
theorem BrArg.nil {T : Tx K mg} {A B : Hp} {x : Addr} {v vr : V} {a : Str} {tbl : List (Str × Stand)} {d dr : PyData} (s : SX [] A B) (h : BrArg P w T A x v vr a tbl d dr) : BrArg P w T B x v vr a tbl d dr := by
  obtain ⟨⟨hands, wa⟩, ⟨o, tg, knd⟩, hd, hl, shut, sz⟩ := h
  exact ⟨⟨hands, wa.le s.le0⟩, ⟨o, tg.mono (sx_ext s), knd⟩, hd.nil s, hl, shut, sz⟩
end
end M

namespace M
open PySem PySem.Spec PyProof.Rows L2 ReR
theorem le_intoS {S : List Addr} {A B : Hp} (l : Le A B) (h : ∀ b ∈ S, A b = none) : Le A (hid S B) := by
  have e : ∀ {b u}, A b = some u → b ∉ S := fun q m => by rw [h _ m] at q; cases q
  refine ⟨fun b v p q => ?_, fun b C dx fs q => ?_, fun b xs q => ?_⟩
  · have n : b ∉ S := q.elim (fun q => e q) fun ⟨u, q⟩ => e q
    have := l.rd b v p q
    unfold Rd at this ⊢
    rw [hid_of n]
    exact this
  · rw [hid_of (e q)]
    exact l.ins b C dx fs q
  · rw [hid_of (e q)]
    exact l.tup b xs q
theorem work_hidP {K : PySem.W.Frag} {mg : Str → Option Value} {T : Tx K mg} {H : Hp} {p : Addr} {ys : List V} {x : Addr} {hands : Int} {start : Str} {tbl : List (Str × Stand)} (hp : H p = some (.lst ys)) (h : WorkAt T H x hands start tbl) : WorkAt T (hid [p] H) x hands start tbl := by
  obtain ⟨dx, d, nm, en, h1, ⟨d', kvs, e, h2, hk⟩, h3, h4⟩ := h.ex
  have hidE : hid [] H = H := by
    funext b
    exact hid_of List.not_mem_nil
  have nx : x ∉ [p] := fun m => by
    rw [List.mem_singleton.mp m, hp] at h1
    cases h1
  refine ⟨dx, d, nm, en, by rw [hid_of nx]; exact h1, ⟨d', kvs, e, rd_hidP (S := []) hp (fun _ z => nomatch z) (by rw [hidE]; exact h2), kvs_impJ (fun v _ a h => rStand_hidP (S := []) hp (by rw [hidE]; exact h)) hk⟩, sqT_hidP (S := []) hp (by rw [hidE]; exact h3), sqT_hidP (S := []) hp (by rw [hidE]; exact h4)⟩
theorem stands_hidP {K : PySem.W.Frag} {H : Hp} {p : Addr} {ys : List V} {d : Addr} {sts : List (Str × Stand)} (hp : H p = some (.lst ys)) (h : rD (rStand K) H (.ref d) sts) : rD (rStand K) (hid [p] H) (.ref d) sts := by
  obtain ⟨d', kvs, e, h2, hk⟩ := h
  have hidE : hid [] H = H := by
    funext b
    exact hid_of List.not_mem_nil
  exact ⟨d', kvs, e, rd_hidP (S := []) hp (fun _ z => nomatch z) (by rw [hidE]; exact h2), kvs_impJ (fun v _ a h => rStand_hidP (S := []) hp (by rw [hidE]; exact h)) hk⟩
theorem x_joinS {c : Bool} {A : Prop} {R : L2.St → Hp → Prop} {σ : L2.St} {B : Hp} (J : L2.St → Hp → Prop) (hA : c = true → (∀ σ' B', J σ' B' → R σ' B') → A) (hB : c = false → J σ B) (hR : ∀ σ' B', J σ' B' → R σ' B') : if c = true then A else R σ B := by
  cases c with
  | true => rw [if_pos rfl]; exact hA rfl hR
  | false => rw [if_neg Bool.false_ne_true]; exact hR _ _ (hB rfl)
theorem rows_nmB {h : Int} {ns : List Str} {st : Stand} (o : StandOk h ns st) {s : Str} (m : s ∈ st.rows.map (·.1)) : nameB s = true := by
  cases st with
  | fin => cases m
  | hand a b =>
    obtain ⟨z, hz, rfl⟩ := List.mem_map.mp m
    exact (o.2.2.2.2.2 z hz).1
  | chance b =>
    change s ∈ (b.map _).map _ at m
    rw [List.map_map] at m
    obtain ⟨z, hz, rfl⟩ := List.mem_map.mp m
    exact (o.2.2.2 z hz).1
theorem hid_none {S : List Addr} {H : Hp} {b : Addr} (h : b ∈ S ∨ H b = none) : hid S H b = none := by
  cases e : hid S H b with
  | none => rfl
  | some o =>
    obtain ⟨n, e2⟩ := hid_at e
    rcases h with h | h
    · exact absurd h n
    · rw [h] at e2
      cases e2
theorem Tbl.runBack {sts tbl : List (Str × Stand)} (t : Tbl sts tbl) (nd : ∀ q ∈ sts, q.2.nd) {a : Str} {run : List Str} (R : RunOk tbl a run) : RunOk sts a run := fun i s h => by
  obtain ⟨b, g⟩ := R i s h
  exact ⟨b, by rw [← t.atF nd, ← t.go nd]; exact g⟩
theorem mvDt_of (st : Stand) : mvDt st = match moverV st with | .int h => .int h | _ => .none := by cases st <;> rfl
theorem letS_srt {bk : List (Str × List Str)} {n : Str} {a b : Stand} (h : SrtStand a b) (z : Str) : z ∈ letS bk n b ↔ z ∈ letS bk n a := by
  unfold letS
  split
  · exact Iff.rfl
  · exact (h.rowsPerm.map _).mem_iff
theorem Tbl.getD {sts tbl : List (Str × Stand)} (t : Tbl sts tbl) (n : Str) : SrtStand ((lookA sts n).getD .fin) ((lookA tbl n).getD .fin) := by
  by_cases h : n ∈ sts.map (·.1)
  · obtain ⟨st, e⟩ := lookA_some h
    obtain ⟨st', e', ss⟩ := t.look e
    rw [e, e']
    exact ss
  · rw [lookA_none h, lookA_none fun z => h (t.perm.mem_iff.mp z)]
    exact trivial
theorem okB_tbl {sts tbl : List (Str × Stand)} (t : Tbl sts tbl) (nd : ∀ q ∈ sts, q.2.nd) {bk : List (Str × List Str)} {a : Str} {run : List Str} {i : Nat} : okB tbl bk a run i = okB sts bk a run i := by
  unfold okB
  rw [t.atF nd]
  exact decide_eq_decide.mpr (letS_srt (t.getD _) _)
theorem brD_tbl {sts tbl : List (Str × Stand)} (t : Tbl sts tbl) (nd : ∀ q ∈ sts, q.2.nd) {bk : List (Str × List Str)} {a : Str} {run : List Str} : brD tbl bk a run = brD sts bk a run := by
  have e : firstB tbl bk a run = firstB sts bk a run := by
    unfold firstB
    simp only [okB_tbl t nd]
  unfold brD
  rw [e]
  split
  · rfl
  · rw [t.atF nd, mvDt_of, mvDt_of, (t.getD _).mover]
theorem brD_nil {tbl : List (Str × Stand)} {a : Str} {run : List Str} (R : RunOk tbl a run) : brD tbl [] a run = .none := by
  unfold brD
  rw [firstB_no fun j hj => ?_]
  have es : run[j]? = some (run[j]'hj) := List.getElem?_eq_getElem hj
  obtain ⟨b, g⟩ := R j _ es
  obtain ⟨st, f1, lk⟩ := goS_look g
  unfold okB
  rw [f1, List.getD_eq_getElem?_getD, es]
  exact decide_eq_true (key_of' lk)
theorem hand_srt {h : Int} {ms : List (Str × Str)} {b : Stand} (s : SrtStand (.hand h ms) b) : ∃ h' ms', b = .hand h' ms' ∧ (ms'.map (·.1)).Perm (ms.map (·.1)) := by
  cases b with
  | hand h' ms' => exact ⟨h', ms', rfl, s.rowsPerm.map _⟩
  | _ => exact s.elim
theorem hand_srtB {h : Int} {ms : List (Str × Str)} {a : Stand} (s : SrtStand a (.hand h ms)) : ∃ h' ms', a = .hand h' ms' ∧ (ms.map (·.1)).Perm (ms'.map (·.1)) := by
  cases a with
  | hand h' ms' => exact ⟨h', ms', rfl, s.rowsPerm.map _⟩
  | _ => exact s.elim
theorem bookD_tbl {sts tbl : List (Str × Stand)} (t : Tbl sts tbl) {ds : List (PyData × PyData)} : BookD tbl ds ↔ BookD sts ds := by
  constructor
  · intro h q hq
    obtain ⟨n, hh, ms, e1, e2, e3⟩ := h q hq
    obtain ⟨st, f1, s⟩ := t.back n _ e2
    obtain ⟨h', ms', rfl, pm⟩ := hand_srtB s
    exact ⟨n, h', ms', e1, f1, (EntD.mem fun z => pm.mem_iff).mp e3⟩
  · intro h q hq
    obtain ⟨n, hh, ms, e1, e2, e3⟩ := h q hq
    obtain ⟨st, f1, s⟩ := t.look e2
    obtain ⟨h', ms', rfl, pm⟩ := hand_srt s
    exact ⟨n, h', ms', e1, f1, (EntD.mem fun z => pm.mem_iff).mpr e3⟩
theorem BookG.d {sts : List (Str × Stand)} {bk : List (Str × List Str)} (g : BookG sts bk) : BookD sts (bkD bk) := fun q hq => by
  obtain ⟨z, hz, rfl⟩ := List.mem_map.mp hq
  obtain ⟨hh, ms, e1, e2, e3, e4, e5⟩ := g.each z hz
  exact ⟨z.1, hh, ms, rfl, e1, z.2, rfl, e2, e4, e5⟩
theorem BookW.of {tbl : List (Str × Stand)} {bk : List (Str × List Str)} (h : BookD tbl (bkD bk)) : BookW tbl bk := by
  obtain ⟨bk', e1, e2⟩ := bookD_list h
  rw [bkD_inj e1]
  exact e2
theorem bk_DpDk {H B : Hp} (tp : ∀ t xs, H t = some (.tup xs) → B t = some (.tup xs)) : ∀ {kv : List (Key × V)} {l : List (Str × List Str)}, KVs rTS H kv l → DpDk B kv (bkD l)
  | [], [], .nil => .nil
  | (k, v) :: kv, (a, b) :: l, .cons ⟨h1, h2⟩ t => by
    cases h1
    obtain ⟨u, h2, hu⟩ := h2
    have h2 : v = .ref u := h2
    subst h2
    exact .cons (.tup (tp _ _ hu) (DpDs.strs _)) (bk_DpDk tp t)
theorem bk_DpP {H B : Hp} (tp : ∀ t xs, H t = some (.tup xs) → B t = some (.tup xs)) : ∀ {kv : List (Key × V)} {l : List (Str × List Str)}, KVs rTS H kv l → DpP B (liftK kv) (bkD l)
  | [], [], .nil => .nil
  | (k, v) :: kv, (a, b) :: l, .cons ⟨h1, h2⟩ t => by
    cases h1
    obtain ⟨u, h2, hu⟩ := h2
    have h2 : v = .ref u := h2
    subst h2
    exact .cons ⟨.str _, .tup (tp _ _ hu) (DpDs.strs _)⟩ (bk_DpP tp t)
theorem nameB_size8 {s : Str} (h : nameB s = true) : s.length ≤ 8 := by
  unfold nameB nameL at h
  simp only [Bool.and_eq_true, decide_eq_true_eq] at h
  have e : s.cps.toList.length = s.length := by simp [Str.length]
  omega
theorem itm_tup4 {l : List Str} (h : ∀ s ∈ l, nameB s = true) (n : l.length ≤ 4) : itmOk (.tuple (l.map PyData.str)) = true := by
  have : ∀ l : List Str, (∀ s ∈ l, nameB s = true) → PyData.showableAll (l.map PyData.str) = true ∧ PyData.depthAll (l.map PyData.str) = 0 ∧ PyData.leavesShortAll 40 (l.map PyData.str) = true ∧ PyData.bulkAll (l.map PyData.str) ≤ 9 * l.length := by
    intro l h
    induction l with
    | nil => exact ⟨rfl, rfl, rfl, Nat.le_refl _⟩
    | cons a l ih =>
      obtain ⟨x1, x2, x3, x4⟩ := ih fun s hs => h s (List.mem_cons_of_mem _ hs)
      have ha := h a List.mem_cons_self
      obtain ⟨y1, y2, y3, y4⟩ := itm_parts (nameB_itm ha)
      have h8 := nameB_size8 ha
      have es : a.cps.size = a.length := by simp [Str.length]
      simp only [List.map_cons, PyData.showableAll, PyData.depthAll, PyData.leavesShortAll, PyData.bulkAll, x1, x2, x3, y1, y3, List.length_cons]
      refine ⟨rfl, rfl, rfl, ?_⟩
      simp only [PyData.bulk]
      omega
  obtain ⟨x1, x2, x3, x4⟩ := this l h
  unfold itmOk
  simp only [Bool.and_eq_true, decide_eq_true_eq]
  exact ⟨⟨⟨by simpa only [PyData.showable] using x1, by simp only [PyData.depth]; omega⟩, by simpa only [PyData.leavesShort] using x3⟩, by simp only [PyData.bulk]; omega⟩
theorem okD_br {ds : List (PyData × PyData)} {es : List PyData} (h : ∀ q ∈ ds, EntOk q) (l : ds.length ≤ 8) (h2 : ∀ d ∈ es, itmOk d = true) (l2 : es.length ≤ 300) : okD (.list [.dict ds, .list es]) := by
  obtain ⟨a, b, c, e⟩ := all_ent h
  obtain ⟨a2, b2, c2, e2⟩ := all_itm h2
  refine ⟨?_, ?_, ?_, ?_⟩
  · simp only [PyData.showable, PyData.showableAll, a, a2]
    rfl
  · simp only [PyData.depth, PyData.depthAll]
    omega
  · simp only [PyData.leavesShort, PyData.leavesShortAll, c, c2]
    rfl
  · simp only [PyData.bulk, PyData.bulkAll]
    omega
theorem shut_of {sts tbl : List (Str × Stand)} (t : Tbl sts tbl) (CS : Closed sts) {a : Str} (ha : a ∈ sts.map (·.1)) : ShutAt tbl a := fun run R => by
  have nd : ∀ q ∈ sts, q.2.nd := fun q hq => (CS.all q hq).1
  obtain ⟨st, e⟩ := lookA_some (atF_key CS ha (t.runBack nd R))
  obtain ⟨st', e', _⟩ := t.look e
  exact ⟨st', by rw [t.atF nd]; exact e'⟩
end M

namespace M
open PySem PySem.Spec PyProof.Rows L2 ReR
/-! ### which stands come by let steps, in the order in which they are found -/
/-- texts in order -/
def canonS (l : List Str) : List Str := l.mergeSort fun a b => decide (a.cps.toList ≤ b.cps.toList)
theorem canon_pw (l : List Str) : (canonS l).Pairwise leS := by
  have := List.pairwise_mergeSort (le := fun a b : Str => decide (a.cps.toList ≤ b.cps.toList)) (fun a b c h1 h2 => decide_eq_true (List.le_trans (of_decide_eq_true h1) (of_decide_eq_true h2))) (fun a b => by
    rcases List.le_total a.cps.toList b.cps.toList with h | h
    · rw [Bool.or_eq_true]
      exact .inl (decide_eq_true h)
    · rw [Bool.or_eq_true]
      exact .inr (decide_eq_true h)) l
  exact this.imp fun h => of_decide_eq_true h
theorem perm_canon (l : List Str) : (canonS l).Perm l := List.mergeSort_perm l _
theorem canon_of {ys l : List Str} (p : ys.Perm l) (s : sortedS ys = true) : ys = canonS l :=
  List.Perm.eq_of_pairwise (le := leS) (fun a b _ _ h1 h2 => leS_antisymm h1 h2) (sortedS_pw s) (canon_pw l) (p.trans (perm_canon l).symm)
theorem canon_perm {l m : List Str} (p : l.Perm m) : canonS l = canonS m :=
  List.Perm.eq_of_pairwise (le := leS) (fun a b _ _ h1 h2 => leS_antisymm h1 h2) (canon_pw l) (canon_pw m) (((perm_canon l).trans p).trans (perm_canon m).symm)
/-- the steps that a book lets, as they are listed -/
def letL (bk : List (Str × List Str)) (n : Str) (st : Stand) : List Str := match lookA bk n with
  | some l => l
  | none => canonS (st.rows.map (·.1))
theorem mem_letL {bk : List (Str × List Str)} {n : Str} {st : Stand} (z : Str) : z ∈ letL bk n st ↔ z ∈ letS bk n st := by
  unfold letL letS
  cases lookA bk n with
  | some l => exact Iff.rfl
  | none => exact (perm_canon _).mem_iff
theorem LetIs.eq {bk : List (Str × List Str)} {s : Str} {st : Stand} {ys : List Str} (h : LetIs bk s st ys) : ys = letL bk s st := by
  unfold LetIs at h
  unfold letL
  cases e : lookA bk s with
  | some l => rw [e] at h; exact h
  | none => rw [e] at h; exact canon_of h.1 h.2
theorem letL_srt {bk : List (Str × List Str)} {n : Str} {a b : Stand} (h : SrtStand a b) : letL bk n b = letL bk n a := by
  unfold letL
  split
  · rfl
  · exact canon_perm (h.rowsPerm.map _)
/-- the ways: a stand, and the stand and the step from which it was found -/
abbrev Ways := List (Str × Option (Str × Str))
def addW (rows : List (Str × Str)) (n : Str) (w : Ways) (z : Str) : Ways := match lookA rows z with
  | some to => if to ∈ w.map (·.1) then w else w ++ [(to, some (n, z))]
  | none => w
def expW (tbl : List (Str × Stand)) (bk : List (Str × List Str)) (n : Str) (w : Ways) : Ways := match lookA tbl n with
  | some st => (letL bk n st).foldl (addW st.rows n) w
  | none => w
def waysF (tbl : List (Str × Stand)) (bk : List (Str × List Str)) : Nat → Nat → Ways → Ways
  | 0, _, w => w
  | f + 1, j, w => match w[j]? with
    | some q => waysF tbl bk f (j + 1) (expW tbl bk q.1 w)
    | none => w
def waysW (tbl : List (Str × Stand)) (bk : List (Str × List Str)) (start : Str) : Ways := waysF tbl bk tbl.length 0 [(start, none)]
/-- the ways hold together -/
structure WOk (tbl : List (Str × Stand)) (bk : List (Str × List Str)) (start : Str) (w : Ways) : Prop where
  nd : (w.map (·.1)).Nodup
  hd : w[0]? = some (start, none)
  up : ∀ i q, w[i]? = some q → (i = 0 ∧ q = (start, none)) ∨ ∃ j n z st, j < i ∧ (w.map (·.1))[j]? = some n ∧ q.2 = some (n, z) ∧ lookA tbl n = some st ∧ z ∈ letL bk n st ∧ lookA st.rows z = some q.1
theorem WOk.start (tbl : List (Str × Stand)) (bk : List (Str × List Str)) (start : Str) : WOk tbl bk start [(start, none)] :=
  ⟨List.nodup_cons.mpr ⟨List.not_mem_nil, List.nodup_nil⟩, rfl, fun i q h => by
    cases i with
    | zero => exact .inl ⟨rfl, (Option.some.inj h).symm⟩
    | succ i => cases h⟩
theorem WOk.add {tbl : List (Str × Stand)} {bk : List (Str × List Str)} {start n z : Str} {st : Stand} {w : Ways} (h : WOk tbl bk start w) (hn : n ∈ w.map (·.1)) (e : lookA tbl n = some st) (hz : z ∈ letL bk n st) : WOk tbl bk start (addW st.rows n w z) := by
  unfold addW
  split
  · rename_i to eto
    split
    · exact h
    · rename_i nm
      refine ⟨?_, ?_, fun i q hi => ?_⟩
      · rw [List.map_append]
        exact nd_snoc h.nd nm
      · have := getLt h.hd
        rw [List.getElem?_append_left this]
        exact h.hd
      · by_cases li : i < w.length
        · rw [List.getElem?_append_left li] at hi
          rcases h.up i q hi with h | ⟨j, n', z', st', h1, h2, h3⟩
          · exact .inl h
          · exact .inr ⟨j, n', z', st', h1, by rw [List.map_append, List.getElem?_append_left (getLt h2)]; exact h2, h3⟩
        · have := getLt hi
          rw [List.length_append] at this
          change i < w.length + 1 at this
          obtain rfl : i = w.length := by omega
          rw [List.getElem?_append_right (Nat.le_refl _), Nat.sub_self] at hi
          cases hi
          obtain ⟨j, hj⟩ := List.getElem?_of_mem hn
          have lj := getLt hj
          rw [List.length_map] at lj
          exact .inr ⟨j, n, z, st, lj, by rw [List.map_append, List.getElem?_append_left (getLt hj)]; exact hj, rfl, e, hz, eto⟩
  · exact h
theorem addW_pre {rows : List (Str × Str)} {n z : Str} {w : Ways} : ∃ m, addW rows n w z = w ++ m := by
  unfold addW
  split
  · split
    · exact ⟨[], (List.append_nil _).symm⟩
    · exact ⟨_, rfl⟩
  · exact ⟨[], (List.append_nil _).symm⟩
theorem WOk.fold {tbl : List (Str × Stand)} {bk : List (Str × List Str)} {start n : Str} {st : Stand} (e : lookA tbl n = some st) : ∀ {l : List Str} {w : Ways}, WOk tbl bk start w → n ∈ w.map (·.1) → (∀ z ∈ l, z ∈ letL bk n st) →
    WOk tbl bk start (l.foldl (addW st.rows n) w) ∧ ∃ m, l.foldl (addW st.rows n) w = w ++ m
  | [], w, h, _, _ => ⟨h, [], (List.append_nil _).symm⟩
  | z :: l, w, h, hn, hz => by
    have h1 := h.add hn e (hz z List.mem_cons_self)
    obtain ⟨m, em⟩ := addW_pre (rows := st.rows) (n := n) (z := z) (w := w)
    have hn1 : n ∈ (addW st.rows n w z).map (·.1) := by
      rw [em, List.map_append]
      exact List.mem_append_left _ hn
    obtain ⟨h2, m2, e2⟩ := WOk.fold e h1 hn1 (l := l) fun z hz' => hz z (List.mem_cons_of_mem _ hz')
    exact ⟨h2, m ++ m2, by rw [List.foldl_cons, e2, em, List.append_assoc]⟩
theorem WOk.exp {tbl : List (Str × Stand)} {bk : List (Str × List Str)} {start n : Str} {w : Ways} (h : WOk tbl bk start w) (hn : n ∈ w.map (·.1)) : WOk tbl bk start (expW tbl bk n w) ∧ ∃ m, expW tbl bk n w = w ++ m := by
  unfold expW
  split
  · rename_i st e
    exact WOk.fold e h hn fun z hz => hz
  · exact ⟨h, [], (List.append_nil _).symm⟩
theorem nodup_val {α : Type} {l : List (Str × α)} (nd : (l.map (·.1)).Nodup) {x : Str} {a b : α} (h1 : (x, a) ∈ l) (h2 : (x, b) ∈ l) : a = b := by
  have e1 := lookA_nodup nd h1
  rw [lookA_nodup nd h2] at e1
  exact (Option.some.inj e1).symm
/-- a run that leads to a stand by these ways -/
inductive IsPath (w : Ways) : Str → List Str → Prop
  | base {n : Str} : (n, none) ∈ w → IsPath w n []
  | step {n m z : Str} {r : List Str} : IsPath w m r → (n, some (m, z)) ∈ w → IsPath w n (r ++ [z])
theorem IsPath.uniq {w : Ways} (nd : (w.map (·.1)).Nodup) {n : Str} {r r' : List Str} (h : IsPath w n r) (h' : IsPath w n r') : r = r' := by
  induction h generalizing r' with
  | base h =>
    cases h' with
    | base _ => rfl
    | step _ h2 => cases nodup_val nd h h2
  | step _ h2 ih =>
    cases h' with
    | base h => cases nodup_val nd h h2
    | step p h3 =>
      cases nodup_val nd h2 h3
      rw [ih p]
end M

namespace M
open PySem PySem.Spec PyProof.Rows L2 ReR
theorem addW_perm {rows rows' : List (Str × Str)} (h : ∀ z, lookA rows' z = lookA rows z) {n z : Str} {w : Ways} : addW rows' n w z = addW rows n w z := by
  unfold addW
  rw [h z]
theorem expW_tbl {sts tbl : List (Str × Stand)} (t : Tbl sts tbl) (nd : ∀ q ∈ sts, q.2.nd) {bk : List (Str × List Str)} {n : Str} {w : Ways} : expW tbl bk n w = expW sts bk n w := by
  unfold expW
  by_cases h : n ∈ sts.map (·.1)
  · obtain ⟨st, e⟩ := lookA_some h
    obtain ⟨st', e', ss⟩ := t.look e
    rw [e, e']
    show (letL bk n st').foldl (addW st'.rows n) w = (letL bk n st).foldl (addW st.rows n) w
    rw [letL_srt ss]
    have : addW st'.rows n = addW st.rows n := funext fun w => funext fun z => addW_perm fun z => perm_look (rows_nodup (nd _ (lookA_mem e))) ss.rowsPerm z
    rw [this]
  · rw [lookA_none h, lookA_none fun z => h (t.perm.mem_iff.mp z)]
theorem waysF_tbl {sts tbl : List (Str × Stand)} (t : Tbl sts tbl) (nd : ∀ q ∈ sts, q.2.nd) {bk : List (Str × List Str)} : ∀ {f j : Nat} {w : Ways}, waysF tbl bk f j w = waysF sts bk f j w
  | 0, _, _ => rfl
  | f + 1, j, w => by
    unfold waysF
    cases w[j]? with
    | none => rfl
    | some q =>
      show waysF tbl bk f (j + 1) (expW tbl bk q.1 w) = waysF sts bk f (j + 1) (expW sts bk q.1 w)
      rw [expW_tbl t nd, waysF_tbl t nd]
theorem waysW_tbl {sts tbl : List (Str × Stand)} (t : Tbl sts tbl) (nd : ∀ q ∈ sts, q.2.nd) {bk : List (Str × List Str)} {a : Str} : waysW tbl bk a = waysW sts bk a := by
  unfold waysW
  have := t.perm.length_eq
  rw [List.length_map, List.length_map] at this
  rw [this, waysF_tbl t nd]
/-- only the lookups of a book count -/
theorem letL_look {b1 b2 : List (Str × List Str)} (h : ∀ n, lookA b1 n = lookA b2 n) {n : Str} {st : Stand} : letL b1 n st = letL b2 n st := by
  unfold letL
  rw [h n]
theorem waysF_look {tbl : List (Str × Stand)} {b1 b2 : List (Str × List Str)} (h : ∀ n, lookA b1 n = lookA b2 n) : ∀ {f j : Nat} {w : Ways}, waysF tbl b1 f j w = waysF tbl b2 f j w
  | 0, _, _ => rfl
  | f + 1, j, w => by
    unfold waysF
    cases w[j]? with
    | none => rfl
    | some q =>
      have : expW tbl b1 q.1 w = expW tbl b2 q.1 w := by
        unfold expW
        cases lookA tbl q.1 with
        | none => rfl
        | some st =>
          show (letL b1 q.1 st).foldl _ w = (letL b2 q.1 st).foldl _ w
          rw [letL_look h]
      show waysF tbl b1 f (j + 1) (expW tbl b1 q.1 w) = waysF tbl b2 f (j + 1) (expW tbl b2 q.1 w)
      rw [this, waysF_look h]
/-- behind the end nothing comes -/
theorem waysF_end {tbl : List (Str × Stand)} {bk : List (Str × List Str)} {f j : Nat} {w : Ways} (h : w.length ≤ j) : waysF tbl bk f j w = w := by
  cases f with
  | zero => rfl
  | succ f =>
    unfold waysF
    rw [List.getElem?_eq_none_iff.mpr h]
theorem waysF_step {tbl : List (Str × Stand)} {bk : List (Str × List Str)} {f j : Nat} {w : Ways} {q : Str × Option (Str × Str)} (h : w[j]? = some q) : waysF tbl bk (f + 1) j w = waysF tbl bk f (j + 1) (expW tbl bk q.1 w) := by
  show (match w[j]? with | some q => waysF tbl bk f (j + 1) (expW tbl bk q.1 w) | none => w) = _
  rw [h]
theorem IsPath.mono {w : Ways} {m : Ways} {n : Str} {r : List Str} (h : IsPath w n r) : IsPath (w ++ m) n r := by
  induction h with
  | base h => exact .base (List.mem_append_left _ h)
  | step _ h2 ih => exact .step ih (List.mem_append_left _ h2)
/-- each stand found has its run -/
theorem WOk.path {tbl : List (Str × Stand)} {bk : List (Str × List Str)} {start : Str} {w : Ways} (h : WOk tbl bk start w) : ∀ (i : Nat) (q : Str × Option (Str × Str)), w[i]? = some q → ∃ r, IsPath w q.1 r := by
  intro i
  induction i using Nat.strongRecOn with
  | ind i ih =>
    intro q hq
    rcases h.up i q hq with ⟨_, rfl⟩ | ⟨j, n, z, st, hj, en, e2, _⟩
    · exact ⟨[], .base (getMem hq)⟩
    · rw [List.getElem?_map] at en
      cases e : w[j]? with
      | none => rw [e] at en; cases en
      | some u =>
        rw [e] at en
        obtain ⟨r, hr⟩ := ih j hj u e
        have : u.1 = n := Option.some.inj en
        rw [this] at hr
        exact ⟨r ++ [z], .step hr (by rw [← e2]; exact getMem hq)⟩
/-- the run goes by let steps -/
theorem WOk.goes {tbl : List (Str × Stand)} {bk : List (Str × List Str)} {start : Str} {w : Ways} (h : WOk tbl bk start w) {n : Str} {r : List Str} (p : IsPath w n r) : RunOk tbl start r ∧ atF tbl start r = n ∧ ∀ i < r.length, okB tbl bk start r i = true := by
  induction p with
  | @base n hn =>
    obtain ⟨i, hi⟩ := List.getElem?_of_mem hn
    rcases h.up i _ hi with ⟨_, e⟩ | ⟨_, _, _, _, _, _, e, _⟩
    · cases e
      exact ⟨(fun _ _ z => nomatch z), rfl, fun i z => absurd z (Nat.not_lt_zero _)⟩
    · cases e
  | @step n m z r p hn ih =>
    obtain ⟨R, e, ok⟩ := ih
    obtain ⟨i, hi⟩ := List.getElem?_of_mem hn
    rcases h.up i _ hi with ⟨_, e⟩ | ⟨j, n', z', st, _, _, e2, est, hz, eto⟩
    · cases e
    · cases e2
      have g : goS tbl (atF tbl start r) z = some n := by
        unfold goS
        rw [e, est]
        exact eto
      refine ⟨R.snoc g, atF_snoc g, fun i hi => ?_⟩
      rw [List.length_append] at hi
      change i < r.length + 1 at hi
      by_cases li : i < r.length
      · have := ok i li
        unfold okB at this ⊢
        rw [List.take_append_of_le_length (by omega), List.getD_eq_getElem?_getD, List.getElem?_append_left li, ← List.getD_eq_getElem?_getD]
        exact this
      · obtain rfl : i = r.length := by omega
        unfold okB
        rw [List.take_append_of_le_length (Nat.le_refl _), List.take_length, e, est, List.getD_eq_getElem?_getD, List.getElem?_append_right (Nat.le_refl _), Nat.sub_self]
        exact decide_eq_true ((mem_letL z).mp hz)
end M

namespace M
open PySem PySem.Spec PyProof.Rows L2 ReR
/-! ### how many steps lead there -/
def depOf (acc : List (Str × Int)) : Option (Str × Str) → Int
  | none => 0
  | some (n, _) => (lookA acc n).getD 0 + 1
def depW (w : Ways) : List (Str × Int) := w.foldl (fun acc q => acc ++ [(q.1, depOf acc q.2)]) []
theorem depW_snoc {w : Ways} {q : Str × Option (Str × Str)} : depW (w ++ [q]) = depW w ++ [(q.1, depOf (depW w) q.2)] := by
  unfold depW
  rw [List.foldl_append]
  rfl
theorem depW_names (w : Ways) : (depW w).map (·.1) = w.map (·.1) := by
  have key : ∀ (n : Nat) (w : Ways), w.length = n → (depW w).map (·.1) = w.map (·.1) := by
    intro n
    induction n with
    | zero => intro w h; rw [List.eq_nil_of_length_eq_zero h]; rfl
    | succ n ih =>
      intro w h
      have hs : w[n]? = some (w[n]'(by omega)) := List.getElem?_eq_getElem _
      have e : w = w.take n ++ [w[n]'(by omega)] := by
        have := take_succ_of hs
        rw [List.take_of_length_le (by omega)] at this
        exact this
      rw [e, depW_snoc, List.map_append, List.map_append, ih (w.take n) (by rw [List.length_take]; omega)]
      rfl
  exact key w.length w rfl
theorem depW_len (w : Ways) : (depW w).length = w.length := by
  have := congrArg List.length (depW_names w)
  rwa [List.length_map, List.length_map] at this
theorem depW_pre {w m : Ways} : ∃ d, depW (w ++ m) = depW w ++ d := by
  have key : ∀ (n : Nat) (m : Ways), m.length = n → ∃ d, depW (w ++ m) = depW w ++ d := by
    intro n
    induction n with
    | zero => intro m h; rw [List.eq_nil_of_length_eq_zero h, List.append_nil]; exact ⟨[], (List.append_nil _).symm⟩
    | succ n ih =>
      intro m h
      have hs : m[n]? = some (m[n]'(by omega)) := List.getElem?_eq_getElem _
      have e : m = m.take n ++ [m[n]'(by omega)] := by
        have := take_succ_of hs
        rw [List.take_of_length_le (by omega)] at this
        exact this
      obtain ⟨d, ed⟩ := ih (m.take n) (by rw [List.length_take]; omega)
      rw [e, ← List.append_assoc, depW_snoc, ed]
      exact ⟨d ++ [_], List.append_assoc _ _ _⟩
  exact key m.length m rfl
/-- the depth of a stand: how long its run is -/
theorem WOk.dep {tbl : List (Str × Stand)} {bk : List (Str × List Str)} {start : Str} {w : Ways} (h : WOk tbl bk start w) : ∀ (i : Nat) (q : Str × Option (Str × Str)), w[i]? = some q → ∀ r, IsPath w q.1 r → (depW w)[i]? = some (q.1, (r.length : Int)) := by
  intro i
  induction i using Nat.strongRecOn with
  | ind i ih =>
    intro q hq r hr
    have ew : w = w.take (i + 1) ++ w.drop (i + 1) := (List.take_append_drop _ _).symm
    obtain ⟨d, ed⟩ := depW_pre (w := w.take (i + 1)) (m := w.drop (i + 1))
    rw [← ew, take_succ_of hq, depW_snoc] at ed
    have tl : (w.take i).length = i := by have := getLt hq; rw [List.length_take]; omega
    have dl : (depW (w.take i)).length = i := by rw [depW_len, tl]
    have at_ : (depW w)[i]? = some (q.1, depOf (depW (w.take i)) q.2) := by
      rw [ed, List.append_assoc, List.getElem?_append_right (by omega), dl, Nat.sub_self]
      rfl
    rw [at_]
    rcases h.up i q hq with ⟨_, rfl⟩ | ⟨j, n, z, st, hj, en, e2, _⟩
    · have : r = [] := IsPath.uniq h.nd hr (.base (getMem hq))
      rw [this]
      rfl
    · rw [List.getElem?_map] at en
      cases e : w[j]? with
      | none => rw [e] at en; cases en
      | some u =>
        rw [e] at en
        have eu : u.1 = n := Option.some.inj en
        obtain ⟨r0, hr0⟩ := h.path j u e
        have d0 := ih j hj u e r0 hr0
        rw [eu] at hr0 d0
        have er : r = r0 ++ [z] := IsPath.uniq h.nd hr (.step hr0 (by rw [← e2]; exact getMem hq))
        have nd1 : ((depW w).map (·.1)).Nodup := by rw [depW_names]; exact h.nd
        have dj : (depW (w.take i))[j]? = some (n, (r0.length : Int)) := by
          rw [ed, List.append_assoc, List.getElem?_append_left (by omega)] at d0
          exact d0
        have nd2 : ((depW (w.take i)).map (·.1)).Nodup := by
          rw [depW_names]
          exact h.nd.sublist ((List.take_sublist _ _).map _)
        have lk : lookA (depW (w.take i)) n = some (r0.length : Int) := lookA_nodup nd2 (getMem dj)
        rw [e2, er]
        show some (q.1, (lookA (depW (w.take i)) n).getD 0 + 1) = _
        rw [lk, List.length_append]
        rfl
/-- the depths go up, and at place j none is more than one above -/
structure DepUp (w : Ways) (j : Nat) : Prop where
  up : (depW w).Pairwise fun a b => a.2 ≤ b.2
  top : ∀ a, (depW w)[j]? = some a → ∀ b ∈ depW w, b.2 ≤ a.2 + 1
theorem DepUp.start (start : Str) : DepUp [(start, none)] 0 := ⟨List.pairwise_singleton _ _, fun a h b hb => by
  have e : depW [(start, none)] = [(start, 0)] := rfl
  rw [e] at h hb
  cases h
  rw [List.mem_singleton.mp hb]
  exact (by decide : (0 : Int) ≤ 0 + 1)⟩
theorem DepUp.add {tbl : List (Str × Stand)} {bk : List (Str × List Str)} {start n z : Str} {rows : List (Str × Str)} {w : Ways} {j : Nat} {v : Option (Str × Str)} (h : WOk tbl bk start w) (hj : w[j]? = some (n, v)) (d : DepUp w j) : DepUp (addW rows n w z) j := by
  unfold addW
  split
  · split
    · exact d
    · rename_i to _ nm
      obtain ⟨r, hr⟩ := h.path j _ hj
      have dj := h.dep j _ hj r hr
      have nd1 : ((depW w).map (·.1)).Nodup := by rw [depW_names]; exact h.nd
      have lk : lookA (depW w) n = some (r.length : Int) := lookA_nodup nd1 (getMem dj)
      have e : depW (w ++ [(to, some (n, z))]) = depW w ++ [(to, (r.length : Int) + 1)] := by
        rw [depW_snoc]
        show depW w ++ [(to, (lookA (depW w) n).getD 0 + 1)] = _
        rw [lk]
        rfl
      have top := d.top _ dj
      refine ⟨?_, fun a ha b hb => ?_⟩
      · rw [e, List.pairwise_append]
        refine ⟨d.up, List.pairwise_singleton _ _, fun a ha b hb => ?_⟩
        rw [List.mem_singleton.mp hb]
        exact top a ha
      · rw [e] at ha hb
        rw [List.getElem?_append_left (getLt dj), dj] at ha
        cases ha
        rcases List.mem_append.mp hb with hb | hb
        · exact top b hb
        · rw [List.mem_singleton.mp hb]
          exact Int.le_refl _
  · exact d
theorem DepUp.fold {tbl : List (Str × Stand)} {bk : List (Str × List Str)} {start n : Str} {st : Stand} (e : lookA tbl n = some st) {j : Nat} {v : Option (Str × Str)} : ∀ {l : List Str} {w : Ways}, WOk tbl bk start w → w[j]? = some (n, v) → (∀ z ∈ l, z ∈ letL bk n st) → DepUp w j → DepUp (l.foldl (addW st.rows n) w) j
  | [], _, _, _, _, d => d
  | z :: l, w, h, hj, hz, d => by
    have hn : n ∈ w.map (·.1) := List.mem_map.mpr ⟨_, getMem hj, rfl⟩
    have h1 := h.add hn e (hz z List.mem_cons_self)
    obtain ⟨m, em⟩ := addW_pre (rows := st.rows) (n := n) (z := z) (w := w)
    refine DepUp.fold e (l := l) h1 (v := v) ?_ (fun z hz' => hz z (List.mem_cons_of_mem _ hz')) (d.add h hj)
    rw [em, List.getElem?_append_left (getLt hj)]
    exact hj
theorem DepUp.next {w : Ways} {j : Nat} (d : DepUp w j) (hj : j < w.length) : DepUp w (j + 1) := ⟨d.up, fun a ha b hb => by
  have l : j < (depW w).length := by rw [depW_len]; exact hj
  have e : (depW w)[j]? = some ((depW w)[j]'l) := List.getElem?_eq_getElem l
  have t := d.top _ e b hb
  have l2 := getLt ha
  have u := List.pairwise_iff_getElem.mp d.up j (j + 1) l l2 (by omega)
  rw [List.getElem?_eq_getElem l2] at ha
  rw [Option.some.inj ha] at u
  omega⟩
theorem DepUp.exp {tbl : List (Str × Stand)} {bk : List (Str × List Str)} {start n : Str} {w : Ways} {j : Nat} {v : Option (Str × Str)} (h : WOk tbl bk start w) (hj : w[j]? = some (n, v)) (d : DepUp w j) : DepUp (expW tbl bk n w) (j + 1) := by
  have hn : n ∈ w.map (·.1) := List.mem_map.mpr ⟨_, getMem hj, rfl⟩
  obtain ⟨_, m, em⟩ := h.exp hn
  have lt : j < (expW tbl bk n w).length := by
    have := getLt hj
    rw [em, List.length_append]
    omega
  refine DepUp.next ?_ lt
  unfold expW
  split
  · rename_i st e
    exact DepUp.fold e h hj (fun z hz => hz) d
  · exact d
end M

namespace M
open PySem PySem.Spec PyProof.Rows L2 ReR
theorem WOk.key {tbl : List (Str × Stand)} {bk : List (Str × List Str)} {start : Str} {w : Ways} (to : TbOk start tbl) (h : WOk tbl bk start w) : ∀ n ∈ w.map (·.1), n ∈ tbl.map (·.1) := fun n hn => by
  obtain ⟨q, hq, rfl⟩ := List.mem_map.mp hn
  obtain ⟨i, hi⟩ := List.getElem?_of_mem hq
  rcases h.up i q hi with ⟨_, rfl⟩ | ⟨_, _, z, st, _, _, _, e, _, eto⟩
  · exact to.st
  · refine (to.look e).2.2.1 _ ?_
    rw [← rows_tos]
    exact List.mem_map.mpr ⟨(z, q.1), lookA_mem eto, rfl⟩
theorem WOk.len {tbl : List (Str × Stand)} {bk : List (Str × List Str)} {start : Str} {w : Ways} (to : TbOk start tbl) (h : WOk tbl bk start w) : w.length ≤ tbl.length := by
  have := nodup_sub h.nd (h.key to)
  rwa [List.length_map, List.length_map] at this
theorem BookW.let_rows {tbl : List (Str × Stand)} {bk : List (Str × List Str)} (b : BookW tbl bk) {n : Str} {st : Stand} (e : lookA tbl n = some st) {z : Str} (hz : z ∈ letL bk n st) : ∃ u, lookA st.rows z = some u := by
  unfold letL at hz
  cases el : lookA bk n with
  | some l =>
    rw [el] at hz
    obtain ⟨h, ms, e1, _, _, e2⟩ := b _ (lookA_mem el)
    rw [e] at e1
    cases e1
    exact lookA_some (e2 z hz)
  | none =>
    rw [el] at hz
    exact lookA_some ((perm_canon _).mem_iff.mp hz)
theorem merge1' {a : Str} {u : V} : mergeK [] [((Sum.inr a : Key), u)] = [(Sum.inr a, u)] := rfl
/-- how a stand was found -/
def rWay : RR (Option (Str × Str)) := fun H v o => match o with
  | none => v = .non
  | some (n, z) => ∃ t, v = .ref t ∧ H t = some (.tup [.str n, .str z])
theorem rWay.keep {A B : Hp} (s : ∀ t xs, A t = some (.tup xs) → B t = some (.tup xs)) {v : V} {o : Option (Str × Str)} (h : rWay A v o) : rWay B v o := by
  cases o with
  | none => exact h
  | some q =>
    obtain ⟨t, e, ht⟩ := h
    exact ⟨t, e, s _ _ ht⟩
theorem ways_keep {A B : Hp} (s : ∀ t xs, A t = some (.tup xs) → B t = some (.tup xs)) {kw : List (Key × V)} {w : Ways} (h : KVs rWay A kw w) : KVs rWay B kw w := kvs_impJ (fun _ _ _ h => rWay.keep s h) h
section
variable {P : Program} [SupX.PX P] {w : World} {K : PySem.W.Frag} {mg : Str → Option Value} {base : Heap}
theorem x_pcons' {tk tv : TE} {r : List (TE × TE)} {σ : L2.St} {H : Hp} {Q : List (V × V) → Hp → Prop} (k : tk σ H fun x H1 => tv σ H1 fun y H2 => tPairs r σ H2 fun ps H3 => Q ((x, y) :: ps) H3) : tPairs ((tk, tv) :: r) σ H Q := k
theorem x_pnil' {σ : L2.St} {H : Hp} {Q : List (V × V) → Hp → Prop} (k : Q [] H) : tPairs [] σ H Q := k
def sp_let_ways (P : Program) (w : World) (T : Tx K mg) : Sp := fun vs H Q _ => ∃ (x b : Addr) (hands : Int) (start : Str) (tbl : List (Str × Stand)) (kvs : KVN) (bk : List (Str × List Str)), vs = [.ref x, .ref b] ∧ WorkAt T H x hands start tbl ∧ TbOk start tbl ∧ AnyD P w H b kvs ∧ DpP H kvs (bkD bk) ∧ BookW tbl bk ∧
  ∀ (q : Addr) (H' : Hp) (kw : List (Key × V)), H q = none → SX [] H H' → H' q = some (.dK kw) → KVs rWay H' kw (waysW tbl bk start) → WOk tbl bk start (waysW tbl bk start) → DepUp (waysW tbl bk start) (waysW tbl bk start).length → Q (.ref q) H'
theorem ok_let_ways (T : Tx K mg) : FnOk P w K mg base CX0 4 T.let_ways.f T.let_ways.fd P_let_ways (sp_let_ways P w T) := by
  refine T.let_ways.F.ok sc_let_ways (fun vs H Q E h => ?_) (fun cdv A outer s H vs Q E hr h => ?_)
  · obtain ⟨x, b, hands, start, tbl, kvs, bk, rfl, wa, tok, g, dp, bo, k⟩ := h
    rfl
  have hu := hu_of hr
  have nd := sc_let_ways.nd
  obtain ⟨x, b, hands, start, tbl, kvs, bk, rfl, wa, tok, g, dp, bo, k⟩ := h
  refine ⟨_, (pss_cons (ps_set (i := 2) nd rfl (Or.inl rfl) (pe_disp (pps_cons (w_fld (K := K) rfl (pv 0) rfl) pe_non pps_nil) (by rfl) (by rfl) (fun z => by cases z) (by decide)))
      (pss_cons (ps_set (i := 3) nd rfl (Or.inl rfl) (pe_lst (pa_cons (w_fld (K := K) rfl (pv 0) rfl) pa_nil)))
      (pss_cons (ps_set (i := 4) nd rfl (Or.inl rfl) pe_int)
      (pss_cons (ps_while PassesOwn.never (pt_cmpR op_lt (pv 4) (pe_callB (w_len (K := K) rfl) (by rfl) T.b_len (by decide +kernel) (pa_cons (pv 3) pa_nil)) (nomark _)) (pss_cons (ps_set (i := 5) nd rfl (Or.inl rfl) (pe_ix (w_ixL (K := K) rfl) (pv 3) (pv 4) (fun _ _ => rfl)))
      (pss_cons (ps_for PassesOwn.never rfl (w_pilist (K := K) rfl (pe_call (ok_let_steps (P := P) (w := w) T) (hr.mono (by decide)) (by rfl) T.let_steps.g T.let_steps.F.kp T.let_steps.B .nil pass0 (pa_cons (pv 0) (pa_cons (pv 1) (pa_cons (pv 5) pa_nil))))) (pg_name (i := 6) nd rfl (Or.inl rfl)) (pss_cons (ps_set (i := 7) nd rfl (Or.inl rfl) (pe_meth (pv 0) T.cl_Work T.me_Work_to (ok_Work_to (P := P) (w := w) T) (hr.mono (by decide)) T.Work_to.B .nil pass0 (pa_cons (pv 5) (pa_cons (pv 6) pa_nil))))
      (pss_one (ps_if (pt_cmp (pc_dnotin hu (pv 7) (pv 2))) (pss_cons (ps_dput hu (pv 2) (pv 7) (pe_tup (pa_cons (pv 5) (pa_cons (pv 6) pa_nil))) rfl)
      (pss_one (ps_expr (pe_bm PySem.F.plainAttrs_list PySem.F.slot_list_append PySem.F.type_list_append mt_append (pv 3) (pa_cons (pv 7) pa_nil))))) pss_nil))))
      (pss_one (ps_aug (i := 4) nd rfl (Or.inl rfl) pe_int ip_add)))))
      (pss_one (ps_ret (pv 2))))))), ?_⟩
  refine x_start (σ' := [some _, some _, none, none, none, none, none, none]) rfl ?_
  try simp only [cx_n, cx_K, cx_w, cx_P]
  obtain ⟨dx, d, nm, en, hx, _⟩ := id wa.ex
  walk_at "rd"
  intro wy hwy
  have sw : SX [] H (upd H wy (.dK [])) := SX.new hwy
  refine x_pcons' ?_
  walk_at "rd"
  refine x_getF (sw _ _ List.not_mem_nil hx) T.cl_Work T.n_Work_start work_start ?_
  walk_at "rd"
  refine x_pnil' ?_
  refine ⟨upd_same, [(Sum.inr start, .non)], rfl, Nat.le_of_ble_eq_true rfl, ?_⟩
  rw [merge1', upd_upd]
  have s0 : SX [] H (upd H wy (.dK [(Sum.inr start, .non)])) := SX.new hwy
  have w0 : (upd H wy (.dK [(Sum.inr start, .non)])) wy = some (.dK [(Sum.inr start, .non)]) := upd_same
  generalize upd H wy (.dK [(Sum.inr start, V.non)]) = H1 at s0 w0
  walk_at "rd"
  refine x_getF (s0 _ _ List.not_mem_nil hx) T.cl_Work T.n_Work_start work_start ?_
  walk_at "rd"
  refine ⟨Nat.le_of_ble_eq_true rfl, fun wt hwt => ?_⟩
  walk_at "rd"
  have nwt : wy ≠ wt := ne_of_none w0 hwt
  have hwt0 : H wt = none := s0.free hwt List.not_mem_nil
  have s1 : SX [] H (upd H1 wt (.lst [.str start])) := s0.trans (SX.new hwt)
  have tl := tok.len
  refine x_while (fun σ A => ∃ (kw : List (Key × V)) (ws : Ways) (j : Nat) (c1 c2 c3 : Option V), SX [] H A ∧ A wy = some (.dK kw) ∧ KVs rWay A kw ws ∧ A wt = some (.lst ((ws.map (·.1)).map V.str)) ∧ WOk tbl bk start ws ∧ j ≤ ws.length ∧ DepUp ws j ∧ waysF tbl bk (tbl.length - j) j ws = waysW tbl bk start ∧
      σ = [some (.ref x), some (.ref b), some (.ref wy), some (.ref wt), some (.int (j : Int)), c1, c2, c3])
    (fun σ _ => match σ with | [_, _, _, _, some (.int j), _, _, _] => 101 - j.toNat | _ => 0)
    ⟨[(Sum.inr start, .non)], [(start, none)], 0, none, none, none, s1, by rw [upd_ne nwt]; exact w0, .cons ⟨rfl, rfl⟩ .nil, upd_same, WOk.start _ _ _, Nat.zero_le _, DepUp.start _, rfl, rfl⟩ ?_ ?_
  · rintro σ A ⟨kw, ws, j, c1, c2, c3, sA, wA, kA, tA, wo, jA, dA, eF, rfl⟩
    have wl := wo.len tok
    walk_at "rd"
    refine x_lenL' (sqL tA) ?_
    walk_at "rd"
    rw [List.length_map, List.length_map]
    refine x_cases (fun c => ?_) (fun c => ?_)
    · have c : j < ws.length := by
        have := of_decide_eq_true c
        omega
      obtain ⟨n, v0, hn⟩ : ∃ n v0, ws[j]? = some (n, v0) := ⟨ws[j].1, ws[j].2, by simp [c]⟩
      have nk : n ∈ ws.map (·.1) := List.mem_map.mpr ⟨_, getMem hn, rfl⟩
      obtain ⟨st, est⟩ := lookA_some (wo.key tok n nk)
      walk_at "rd"
      refine x_ixL (sqL tA) (atI_nat (by rw [List.getElem?_map, List.getElem?_map, hn]; rfl)) ?_
      walk_at "rd"
      refine ⟨x, b, hands, start, n, tbl, st, kvs, bk, rfl, wa.le sA.le0, g.mono (sx_ext sA), dp.mono (sx_ext sA), est, fun p B ys hp sB ep ml => ?_⟩
      have ey := ml.eq
      refine x_itl (sqL ep) ?_
      have nwp : wy ≠ p := ne_of_none wA hp
      have ntp : wt ≠ p := ne_of_none tA hp
      refine for_it (walk_listR (R := rS) (Hb := H) (paired_S' ys)) (fun i σ C => ∃ (kw2 : List (Key × V)) (w2 : Ways) (c2 c3 : Option V), SX [] H C ∧ C p = some (.lst (ys.map V.str)) ∧ C wy = some (.dK kw2) ∧ KVs rWay C kw2 w2 ∧ C wt = some (.lst ((w2.map (·.1)).map V.str)) ∧ WOk tbl bk start w2 ∧ (∃ m, w2 = ws ++ m) ∧ (ys.take i).foldl (addW st.rows n) ws = w2 ∧
          σ = [some (.ref x), some (.ref b), some (.ref wy), some (.ref wt), some (.int (j : Int)), some (.str n), c2, c3])
        ⟨kw, ws, c2, c3, sA.trans sB, ep, sB _ _ List.not_mem_nil wA, ways_keep (fun t xs h => sB _ _ List.not_mem_nil h) kA, sB _ _ List.not_mem_nil tA, wo, ⟨[], (List.append_nil _).symm⟩, rfl, rfl⟩ (fun i σ C _ h => by obtain ⟨_, _, _, _, _, h, _⟩ := h; exact sqL h) ?_ ?_
      · rintro i z0 σ C0 C hi ⟨kw2, w2, c4, c5, sC, pC, wC, kC, tC, wo2, ⟨more, em⟩, ef, rfl⟩ ⟨rfl, z, hz, rfl⟩
        have zl : z ∈ letL bk n st := by rw [← ey]; exact getMem hz
        obtain ⟨u, eu⟩ := bo.let_rows est zl
        have n2 : n ∈ w2.map (·.1) := by rw [em, List.map_append]; exact List.mem_append_left _ nk
        have waC := wa.le sC.le0
        have w2l := wo2.len tok
        have kwl : kw2.length = w2.length := Paired.length kC
        obtain ⟨dx3, d3, nm3, en3, hx3, _⟩ := id waC.ex
        have next : (ys.take (i + 1)).foldl (addW st.rows n) ws = addW st.rows n w2 z := by
          rw [take_succ_of hz, List.foldl_append, ef]
          rfl
        have wo3 := wo2.add n2 est zl
        have pre3 : ∃ m, addW st.rows n w2 z = ws ++ m := by
          obtain ⟨m, e⟩ := addW_pre (rows := st.rows) (n := n) (z := z) (w := w2)
          exact ⟨more ++ m, by rw [e, em, List.append_assoc]⟩
        walk_at "rd"
        refine x_meth ?_
        walk_at "rd"
        refine x_me hx3 (work_none (by decide +kernel)) ?_
        walk_at "rd"
        refine ⟨x, hands, start, n, z, u, tbl, st, rfl, waC, est, eu, ?_⟩
        walk_at "rd"
        refine x_dni' (.inl wC) ?_
        rw [keys_val kC.keys]
        walk_at "rd"
        refine x_cases (fun c => ?_) (fun c => ?_)
        · have nu : u ∉ w2.map (·.1) := by simpa using c
          have ea : addW st.rows n w2 z = w2 ++ [(u, some (n, z))] := by
            unfold addW
            rw [eu]
            exact if_neg nu
          walk_at "rd"
          refine ⟨Nat.le_of_ble_eq_true rfl, fun t ht => ?_⟩
          have sT : SX [] C (upd C t (.tup [.str n, .str z])) := SX.new ht
          walk_at "rd"
          refine ⟨wy, _, rfl, DPut.k (k := Sum.inr u) (sT _ _ List.not_mem_nil wC) (lt_size (by omega)), ?_⟩
          walk_at "rd"
          have epk := putK_fresh (V.ref t) kC.keys nu
          have tC3 : (upd (upd C t (.tup [.str n, .str z])) wy (.dK (putK kw2 (Sum.inr u) (V.ref t)))) wt = some (.lst ((w2.map (·.1)).map V.str)) := by
            rw [upd_ne (Ne.symm nwt)]
            exact sT _ _ List.not_mem_nil tC
          refine ⟨.inl ⟨rfl, _, sqL tC3⟩, ?_⟩
          walk_at "rd"
          refine ⟨wt, _, _, rfl, rfl, tC3, lt_size (by rw [List.length_map, List.length_map]; omega), ?_⟩
          have keep : ∀ t' xs, C t' = some (.tup xs) → (upd (upd (upd C t (.tup [.str n, .str z])) wy (.dK (putK kw2 (Sum.inr u) (V.ref t)))) wt (.lst ((w2.map (·.1)).map V.str ++ [V.str u]))) t' = some (.tup xs) := fun t' xs h => by
            have h1 : t' ≠ wt := ne_of h tC (by intro z; cases z)
            have h2 : t' ≠ wy := ne_of h wC (by intro z; cases z)
            rw [upd_ne h1, upd_ne h2]
            exact sT _ _ List.not_mem_nil h
          have htw : t ≠ wt := fun e => by rw [e, tC] at ht; cases ht
          have hty : t ≠ wy := fun e => by rw [e, wC] at ht; cases ht
          refine ⟨putK kw2 (Sum.inr u) (V.ref t), w2 ++ [(u, some (n, z))], _, _, sx_nil_of (S := [wy, wt]) ((nil_sx (sC.trans sT)).trans ((SX.mut (by simp)).trans (SX.mut (by simp)))) (by simp [hwy, hwt0]), ?_, ?_, ?_, ?_, by rw [← ea]; exact wo3, by rw [← ea]; exact pre3, by rw [next, ea], rfl⟩
          · rw [upd_ne (Ne.symm ntp), upd_ne (Ne.symm nwp)]
            exact sT _ _ List.not_mem_nil pC
          · rw [upd_ne nwt, upd_same]
          · rw [epk] at keep ⊢
            exact Paired.app (ways_keep keep kC) (.cons ⟨rfl, t, rfl, by rw [upd_ne htw, upd_ne hty, upd_same]⟩ .nil)
          · rw [upd_same, List.map_append, List.map_append]
            rfl
        · have nu : u ∈ w2.map (·.1) := by simpa using c
          have ea : addW st.rows n w2 z = w2 := by
            unfold addW
            rw [eu]
            exact if_pos nu
          walk_at "rd"
          exact ⟨kw2, w2, _, _, sC, pC, wC, kC, tC, wo2, ⟨more, em⟩, by rw [next, ea], rfl⟩
      · rintro σ C ⟨kw2, w2, c4, c5, sC, pC, wC, kC, tC, wo2, ⟨more, em⟩, ef, rfl⟩
        rw [List.take_length] at ef
        have ex : expW tbl bk n ws = w2 := by
          unfold expW
          rw [est]
          show (letL bk n st).foldl (addW st.rows n) ws = w2
          rw [← ey]
          exact ef
        walk_at "rd"
        refine ⟨⟨kw2, w2, j + 1, _, _, _, sC, wC, kC, tC, wo2, by rw [em, List.length_append]; omega, by rw [← ex]; exact dA.exp wo hn, ?_, rfl⟩, ?_⟩
        · rw [← eF, show tbl.length - j = (tbl.length - (j + 1)) + 1 by omega, waysF_step hn]
          rw [← ex]
        · show 101 - ((j : Int) + 1).toNat < 101 - ((j : Int)).toNat
          omega
    · have jl : ws.length ≤ j := by
        have := of_decide_eq_false c
        omega
      have eW : ws = waysW tbl bk start := by rw [← eF, waysF_end jl]
      walk_at "rd"
      have jl2 : j = ws.length := by omega
      rw [jl2] at dA
      rw [eW] at kA wo dA
      exact k wy A kw hwy sA wA kA wo dA
  · rintro σ A Q1 Q2 hm ⟨v, hv, w, hw, x5, n5, e5, l5, i, j, e1, e2, c, hc, q⟩
    exact ⟨v, hv, w, hw, x5, n5, e5, l5, i, j, e1, e2, c, hc, hm _ _ q⟩
end
end M

namespace M
open PySem PySem.Spec PyProof.Rows L2 ReR
/-- runs are no longer than the place at which the stand was found -/
theorem WOk.short {tbl : List (Str × Stand)} {bk : List (Str × List Str)} {start : Str} {w : Ways} (h : WOk tbl bk start w) : ∀ (i : Nat) (q : Str × Option (Str × Str)), w[i]? = some q → ∀ r, IsPath w q.1 r → r.length ≤ i := by
  intro i
  induction i using Nat.strongRecOn with
  | ind i ih =>
    intro q hq r hr
    rcases h.up i q hq with ⟨_, rfl⟩ | ⟨j, n, z, st, hj, en, e2, _⟩
    · rw [IsPath.uniq h.nd hr (.base (getMem hq))]
      exact Nat.zero_le _
    · rw [List.getElem?_map] at en
      cases e : w[j]? with
      | none => rw [e] at en; cases en
      | some u =>
        rw [e] at en
        have eu : u.1 = n := Option.some.inj en
        obtain ⟨r0, hr0⟩ := h.path j u e
        have l0 := ih j hj u e r0 hr0
        rw [eu] at hr0
        rw [IsPath.uniq h.nd hr (.step hr0 (by rw [← e2]; exact getMem hq)), List.length_append]
        show r0.length + 1 ≤ i
        omega
theorem WOk.has {tbl : List (Str × Stand)} {bk : List (Str × List Str)} {start : Str} {w : Ways} (to : TbOk start tbl) (h : WOk tbl bk start w) {n : Str} (hn : n ∈ w.map (·.1)) : ∃ r, IsPath w n r ∧ r.length ≤ 100 := by
  obtain ⟨q, hq, rfl⟩ := List.mem_map.mp hn
  obtain ⟨i, hi⟩ := List.getElem?_of_mem hq
  obtain ⟨r, hr⟩ := h.path i q hi
  refine ⟨r, hr, ?_⟩
  have := h.short i q hi r hr
  have := getLt hi
  have := h.len to
  have := to.len
  omega
section
variable {P : Program} [SupX.PX P] {w : World} {K : PySem.W.Frag} {mg : Str → Option Value} {base : Heap}
def sp_way_to (T : Tx K mg) : Sp := fun vs H Q _ => ∃ (q : Addr) (n0 : Str) (kw : List (Key × V)) (ws : Ways) (run : List Str), vs = [.ref q, .str n0] ∧ Rd H q (.dK kw) ∧ KVs rWay H kw ws ∧ (ws.map (·.1)).Nodup ∧ IsPath ws n0 run ∧ run.length ≤ 100 ∧
  ∀ p H', H p = none → SX [] H H' → H' p = some (.lst (run.map V.str)) → Q (.ref p) H'
theorem ok_way_to (T : Tx K mg) : FnOk P w K mg base CX0 1 T.way_to.f T.way_to.fd P_way_to (sp_way_to T) := by
  refine T.way_to.F.ok sc_way_to (fun vs H Q E h => ?_) (fun cdv A outer s H vs Q E hr h => ?_)
  · obtain ⟨q, n0, kw, ws, run, rfl, hq, hk, nd1, hp0, hl, k⟩ := h
    rfl
  have hu := hu_of hr
  have nd := sc_way_to.nd
  obtain ⟨q, n0, kw, ws, run, rfl, hq, hk, nd1, hp0, hl, k⟩ := h
  refine ⟨_, (pss_cons (ps_set (i := 2) nd rfl (Or.inl rfl) (pe_lst pa_nil))
      (pss_cons (ps_set (i := 3) nd rfl (Or.inl rfl) (pv 1))
      (pss_cons (ps_while PassesOwn.never (pt_cmpR op_notNo (pe_dget hu (pv 0) (pv 3) (fun _ _ => rfl)) pe_non (nomark _)) (pss_cons (ps_asg (pe_dget hu (pv 0) (pv 3) (fun _ _ => rfl)) (w_pgtup (K := K) (n := 2) rfl (by rfl) (pgs_cons (pg_name (i := 3) nd rfl (Or.inl rfl)) (pgs_cons (pg_name (i := 4) nd rfl (Or.inl rfl)) pgs_nil)) (by rfl) (by rfl)))
      (pss_one (ps_expr (pe_bm PySem.F.plainAttrs_list PySem.F.slot_list_append PySem.F.type_list_append mt_append (pv 2) (pa_cons (pv 4) pa_nil))))))
      (pss_one (ps_ret (w_revL (K := K) rfl (pv 2))))))), ?_⟩
  refine x_start (σ' := [some _, some _, none, none, none]) rfl ?_
  try simp only [cx_n, cx_K, cx_w, cx_P]
  walk_at "rd"
  refine ⟨Nat.le_of_ble_eq_true rfl, fun wl hwl => ?_⟩
  walk_at "rd"
  have s1 : SX [] H (upd H wl (.lst [])) := SX.new hwl
  refine x_while (fun σ A => ∃ (n : Str) (r xs : List Str) (c : Option V), SX [] H A ∧ A wl = some (.lst (xs.map V.str)) ∧ IsPath ws n r ∧ r ++ xs.reverse = run ∧ σ = [some (.ref q), some (.str n0), some (.ref wl), some (.str n), c])
    (fun _ A => match A wl with | some (.lst l) => 101 - l.length | _ => 0)
    ⟨n0, run, [], none, s1, upd_same, hp0, List.append_nil _, rfl⟩ ?_ ?_
  · rintro σ A ⟨n, r, xs, c, sA, wA, hr, er, rfl⟩
    have rA : Rd A q (.dK kw) := sA.le0.rd _ _ trivial hq
    have hkA := ways_keep (fun t xs h => sA _ _ List.not_mem_nil h) hk
    walk_at "rd"
    cases hr with
    | base hm =>
      obtain ⟨v, ev, rv⟩ := hkA.at_ (lookA_nodup nd1 hm)
      have rv : v = .non := rv
      subst rv
      refine x_dg' rA ev ?_
      walk_at "rd"
      refine x_false (by rfl) ?_
      walk_at "rd"
      refine x_revL ?_
      walk_at "rd"
      refine ⟨wl, _, rfl, sqL wA, fun p hp => k p _ (sA.free hp List.not_mem_nil) (sA.trans (SX.new hp)) ?_⟩
      rw [upd_same, ← er, List.nil_append, List.map_reverse]
    | @step _ m z r' hr' hm =>
      obtain ⟨v, ev, t, rfl, et⟩ := hkA.at_ (lookA_nodup nd1 hm)
      have xl : xs.length + 1 ≤ run.length := by
        rw [← er, List.length_append, List.length_append, List.length_reverse]
        show xs.length + 1 ≤ r'.length + 1 + xs.length
        omega
      refine x_dg' rA ev ?_
      walk_at "rd"
      refine x_true (by rfl) ?_
      walk_at "rd"
      refine x_dg' rA ev ?_
      refine x_gtup (sqT et) rfl ?_
      walk_at "rd"
      refine ⟨.inl ⟨rfl, _, sqL wA⟩, ?_⟩
      walk_at "rd"
      refine ⟨wl, _, _, rfl, rfl, wA, lt_size (by rw [List.length_map]; omega), ?_⟩
      refine ⟨⟨m, r', xs ++ [z], _, sx_nil_of (S := [wl]) ((nil_sx sA).trans (SX.mut List.mem_cons_self)) (by simp [hwl]), by rw [upd_same, List.map_append]; rfl, hr', by rw [← er, List.reverse_append, List.append_assoc]; rfl, rfl⟩, ?_⟩
      show (match (upd A wl (.lst (xs.map V.str ++ [V.str z]))) wl with | some (.lst l) => 101 - l.length | _ => 0) < (match A wl with | some (.lst l) => 101 - l.length | _ => 0)
      rw [upd_same, wA]
      show 101 - (xs.map V.str ++ [V.str z]).length < 101 - (xs.map V.str).length
      rw [List.length_append, List.length_map]
      show 101 - (xs.length + 1) < 101 - xs.length
      omega
  · rintro σ A Q1 Q2 hm ⟨v, hv, w, hw, a5, v5, e5, d5, e6, c, hc, q⟩
    exact ⟨v, hv, w, hw, a5, v5, e5, d5, e6, c, hc, hm _ _ q⟩
def sp_is_below (T : Tx K mg) : Sp := fun vs H Q _ => ∃ (v : Int) (t : Addr) (a b : Int), vs = [.int v, .ref t] ∧ SqT K H t [.int a, .int b] ∧ -99 ≤ v ∧ v ≤ 99 ∧ Q (.bl (decide (v * b < a))) H
theorem ok_is_below (T : Tx K mg) : FnOk P w K mg base CX0 1 T.is_below.f T.is_below.fd P_is_below (sp_is_below T) := by
  refine T.is_below.F.ok sc_is_below (fun vs H Q E h => ?_) (fun cdv A outer s H vs Q E hr h => ?_)
  · obtain ⟨v, t, a, b, rfl, ht, h0, h1, k⟩ := h
    rfl
  have hu := hu_of hr
  have nd := sc_is_below.nd
  obtain ⟨v, t, a, b, rfl, ht, h0, h1, k⟩ := h
  refine ⟨_, (pss_one (ps_ret (pe_cmpR op_lt (pe_op op_mul (pv 0) (pe_ix (w_ixT (K := K) rfl) (pv 1) pe_int (fun _ _ => rfl))) (pe_ix (w_ixT (K := K) rfl) (pv 1) pe_int (fun _ _ => rfl)) (nomark _)))), ?_⟩
  refine x_start (σ' := [some _, some _]) rfl ?_
  try simp only [cx_n, cx_K, cx_w, cx_P]
  walk_at "rd"
  refine x_ixT ht (v := .int b) (atI_nat (j := 1) rfl) ?_
  refine x_I (.inl ⟨by omega, by omega⟩) ?_
  walk_at "rd"
  refine x_ixT ht (v := .int a) (atI_nat (j := 0) rfl) ?_
  walk_at "rd"
  exact k
end
end M

namespace M
open PySem PySem.Spec PyProof.Rows L2 ReR
def lowE (tb : List (Str × Int)) (a b : Int) (n : Str) : Bool := match lookA tb n with
  | some v => decide (v * b < a)
  | none => false
def lowF (tb : List (Str × Int)) (a b : Int) (w : Ways) : Option Str := (w.map (·.1)).find? (lowE tb a b)
theorem find_at {l : List Str} {f : Str → Bool} {i : Nat} {n : Str} (hi : l[i]? = some n) (h : f n = true) (pre : ∀ m ∈ l.take i, f m = false) : l.find? f = some n := by
  have e : l = l.take i ++ n :: l.drop (i + 1) := by
    have := take_succ_of hi
    have e2 := (List.take_append_drop (i + 1) l).symm
    rw [this, List.append_assoc] at e2
    exact e2
  rw [e, List.find?_append, List.find?_eq_none.mpr fun m hm => by rw [pre m hm]; exact Bool.false_ne_true, List.find?_cons, h]
  rfl
/-- what the functions with books are asked with -/
structure BkArg {K : PySem.W.Frag} {mg : Str → Option Value} (P : Program) (w : World) (T : Tx K mg) (H : Hp) (x y lv : Addr) (v : V) (start : Str) (tbl : List (Str × Stand)) (tb : List (Str × Int)) (a b : Int) (d : PyData) : Prop where
  wa : ∃ hands, WorkAt T H x hands start tbl
  wi : ∃ e cm, WishAt T H y tb e cm
  hlv : SqT K H lv [.int a, .int b]
  to : TbOk start tbl
  tw : TwOk tbl tb
  fr : FracOk a b
  tg : ∃ o, Thg P w H v d o ∧ ∀ kvs, o = some kvs → (kvs.map (·.1)).Nodup
theorem BkArg.nil {K : PySem.W.Frag} {mg : Str → Option Value} {P : Program} {w : World} {T : Tx K mg} {H B : Hp} {x y lv : Addr} {v : V} {start : Str} {tbl : List (Str × Stand)} {tb : List (Str × Int)} {a b : Int} {d : PyData} (s : SX [] H B) (h : BkArg P w T H x y lv v start tbl tb a b d) : BkArg P w T B x y lv v start tbl tb a b d := by
  obtain ⟨⟨hands, wa⟩, ⟨e, cm, wi⟩, hlv, to, tw, fr, o, tg, nd⟩ := h
  exact ⟨⟨hands, wa.le s.le0⟩, ⟨e, cm, wi.sx s⟩, s.le0.t hlv, to, tw, fr, o, tg.mono (sx_ext s), nd⟩
def isBk (tbl : List (Str × Stand)) (d : PyData) : Prop := ∃ ds, d = .dict ds ∧ BookD tbl ds
theorem isBk.of {tbl : List (Str × Stand)} {d : PyData} (h : isBk tbl d) : ∃ bk, d = .dict (bkD bk) ∧ BookW tbl bk := by
  obtain ⟨ds, e, bd⟩ := h
  obtain ⟨bk, e2, bw⟩ := bookD_list bd
  exact ⟨bk, by rw [e, e2], bw⟩
section
variable {P : Program} [SupX.PX P] {w : World} {K : PySem.W.Frag} {mg : Str → Option Value} {base : Heap}
def sp_checked_book (P : Program) (w : World) (T : Tx K mg) : Sp := fun vs H Q E => ∃ (x y lv : Addr) (v : V) (start : Str) (tbl : List (Str × Stand)) (tb : List (Str × Int)) (a b : Int) (d : PyData), vs = [.ref x, .ref y, .ref lv, v] ∧ BkArg P w T H x y lv v start tbl tb a b d ∧
  (¬ isBk tbl d → ∀ H', SX [] H H' → E (.ref T.c_BadBook) none H') ∧ (isBk tbl d → ∀ H', SX [] H H' → Q .non H')
theorem ok_checked_book (T : Tx K mg) : FnOk P w K mg base (L2.CX P w) 4 T.checked_book.f T.checked_book.fd P_checked_book (sp_checked_book P w T) := by
  refine T.checked_book.F.okX sc_checked_book (fun vs H Q E h => ?_) (fun cdv A outer s H vs Q E hr h => ?_)
  · obtain ⟨x, y, lv, v, start, tbl, tb, a, b, d, rfl, ar, ke, k⟩ := h
    rfl
  have hu := hu_of hr
  have nd := sc_checked_book.nd
  obtain ⟨x, y, lv, v, start, tbl, tb, a, b, d, rfl, ar, ke, k⟩ := h
  refine ⟨_, (pss_cons (ps_expr (pe_call (ok_suited (P := P) (w := w) T) (hr.mono (by decide)) (by rfl) T.suited.g T.suited.F.kp T.suited.B .nil pass0 (pa_cons (pv 0) (pa_cons (pv 1) pa_nil))))
      (pss_cons (ps_if (pt_not (pt_val (pe_call (ok_is_fraction (P := P) (w := w) T) (hr.mono (by decide)) (by rfl) T.is_fraction.g T.is_fraction.F.kp T.is_fraction.B .nil pass0 (pa_cons (pv 2) pa_nil)))) (pss_one (ps_raise rfl (takes_of rfl rfl rfl rfl) (SupX.pmk_own0 (K := K) rfl T.p_BadFraction T.g_BadFraction (by rfl)))) pss_nil)
      (pss_one (ps_if (pt_not (pt_val (pe_call (ok_is_book (P := P) (w := w) T) (hr.mono (by decide)) (by rfl) T.is_book.g T.is_book.F.kp T.is_book.B .nil pass0 (pa_cons (pv 0) (pa_cons (pv 3) pa_nil))))) (pss_one (ps_raise rfl (takes_of rfl rfl rfl rfl) (SupX.pmk_own0 (K := K) rfl T.p_BadBook T.g_BadBook (by rfl)))) pss_nil)))), ?_⟩
  refine x_start (σ' := [some _, some _, some _, some _]) rfl ?_
  try simp only [cx_n, cx_K, cx_w, cx_P]
  obtain ⟨⟨hands, wa⟩, ⟨e, cm, wi⟩, hlv, to, tw, fr, o, tg, nd1⟩ := ar
  walk_at "rd"
  refine ⟨x, y, hands, start, tbl, tb, e, cm, rfl, wa, wi, tw.key, to.ends, fun H1 s1 => ?_⟩
  walk_at "rd"
  refine ⟨lv, a, b, rfl, s1.le0.t hlv, fr, fun H2 s2 => ?_⟩
  walk_at "rd"
  have s12 := s1.trans s2
  refine ⟨x, v, hands, start, tbl, d, o, rfl, wa.le s12.le0, tg.mono (sx_ext s12), nd1, fun bb H3 s3 iff => ?_⟩
  cases bb with
  | false =>
    walk_at "rd"
    exact ke (fun z => nomatch iff.mpr z) _ (s12.trans s3)
  | true =>
    walk_at "rd"
    exact k (iff.mp rfl) _ (s12.trans s3)
def sp_breaking (P : Program) (w : World) (T : Tx K mg) : Sp := fun vs H Q E => ∃ (x y lv : Addr) (v : V) (start : Str) (tbl : List (Str × Stand)) (tb : List (Str × Int)) (a b : Int) (d : PyData), vs = [.ref x, .ref y, .ref lv, v] ∧ BkArg P w T H x y lv v start tbl tb a b d ∧
  (¬ isBk tbl d → ∀ H', SX [] H H' → E (.ref T.c_BadBook) none H') ∧
  ∀ bk, d = .dict (bkD bk) → BookW tbl bk → WOk tbl bk start (waysW tbl bk start) → DepUp (waysW tbl bk start) (waysW tbl bk start).length →
    (lowF tb a b (waysW tbl bk start) = none → ∀ H', SX [] H H' → Q .non H') ∧
    ∀ n run, lowF tb a b (waysW tbl bk start) = some n → IsPath (waysW tbl bk start) n run → ∀ p H', H p = none → SX [] H H' → H' p = some (.lst (run.map V.str)) → Q (.ref p) H'
theorem ok_breaking (T : Tx K mg) : FnOk P w K mg base (L2.CX P w) 5 T.breaking.f T.breaking.fd P_breaking (sp_breaking P w T) := by
  refine T.breaking.F.okX sc_breaking (fun vs H Q E h => ?_) (fun cdv A outer s H vs Q E hr h => ?_)
  · obtain ⟨x, y, lv, v, start, tbl, tb, a, b, d, rfl, ar, ke, k⟩ := h
    rfl
  have hu := hu_of hr
  have nd := sc_breaking.nd
  obtain ⟨x, y, lv, v, start, tbl, tb, a, b, d, rfl, ar, ke, k⟩ := h
  refine ⟨_, (pss_cons (ps_expr (pe_callS (ok_checked_book (P := P) (w := w) T) (hr.mono (by decide)) (by rfl) T.checked_book.g T.checked_book.F.kp T.checked_book.B (fun τ => passAt (takes_of rfl rfl rfl rfl) τ) (pa_cons (pv 0) (pa_cons (pv 1) (pa_cons (pv 2) (pa_cons (pv 3) pa_nil))))))
      (pss_cons (ps_set (i := 4) nd rfl (Or.inl rfl) (pe_prop (pv 1) T.cl_Wish T.pr_Wish_worths (ok_Wish_worths (P := P) (w := w) T) (hr.mono (by decide)) T.Wish_worths.B .nil pass0 rfl))
      (pss_cons (ps_set (i := 5) nd rfl (Or.inl rfl) (pe_call (ok_let_ways (P := P) (w := w) T) (hr.mono (by decide)) (by rfl) T.let_ways.g T.let_ways.F.kp T.let_ways.B .nil pass0 (pa_cons (pv 0) (pa_cons (pv 3) pa_nil))))
      (pss_cons (ps_lockR (ps_for (passes_of rfl) rfl (pi_keys (pv 5)) (pg_name (i := 6) nd rfl (Or.inl rfl)) (pss_one (ps_if (PW.pt (pw_and (pt_cmp (pc_din hu (pv 6) (pv 4))) (pw_and1 (pt_val (pe_call (ok_is_below (P := P) (w := w) T) (hr.mono (by decide)) (by rfl) T.is_below.g T.is_below.F.kp T.is_below.B .nil pass0 (pa_cons (pe_dget hu (pv 4) (pv 6) (fun _ _ => rfl)) (pa_cons (pv 2) pa_nil))))))) (pss_one (ps_ret (pe_call (ok_way_to (P := P) (w := w) T) (hr.mono (by decide)) (by rfl) T.way_to.g T.way_to.F.kp T.way_to.B .nil pass0 (pa_cons (pv 5) (pa_cons (pv 6) pa_nil))))) pss_nil))))
      (pss_one (ps_ret pe_non)))))), ?_⟩
  refine x_start (σ' := [some _, some _, some _, some _, none, none, none]) rfl ?_
  try simp only [cx_n, cx_K, cx_w, cx_P]
  walk_at "rd"
  refine x_callS' ?_
  walk_at "rd"
  refine ⟨x, y, lv, v, start, tbl, tb, a, b, d, rfl, ar, ke, fun ib H1 s1 => ?_⟩
  obtain ⟨bk, ed, bw⟩ := ib.of
  have kk := k bk ed bw
  clear k
  obtain ⟨⟨hands, wa⟩, ⟨e, cm, wi⟩, hlv, to, tw, fr, o, tg, nd1⟩ := ar
  subst ed
  cases tg with
  | odd h n => exact absurd rfl (n _)
  | dic g dp =>
  rename_i bd kvs
  clear ke ib
  walk_at "rd"
  have wi1 := wi.sx s1
  obtain ⟨dy, d, kvt, hy, hd, hk⟩ := id wi1.ex
  have ndB : (tb.map (·.1)).Nodup := by
    rw [tw.key]
    exact List.Nodup.sublist (List.filter_sublist.map _) to.nd
  have tbl1 : tb.length ≤ 100 := by
    have h1 := congrArg List.length tw.key
    rw [List.length_map] at h1
    have h2 := endsOf_len tbl
    have := to.len
    omega
  refine x_prop ?_
  walk_at "rd"
  refine ⟨y, dy, _, rfl, hy, y, tb, e, cm, rfl, wi1, ndB, by omega, fun wd H2 kw hwd s2 ew kwk => ?_⟩
  walk_at "rd"
  have s12 := s1.trans s2
  refine ⟨x, bd, hands, start, tbl, kvs, bk, rfl, wa.le s12.le0, to, g.mono (sx_ext s12), dp.mono (sx_ext s12), bw, fun q H3 kq hq s3 eq kqk wo du => ?_⟩
  obtain ⟨k1, k2⟩ := kk wo du
  generalize hW : waysW tbl bk start = ws at k1 k2 kqk wo du
  walk_at "rd"
  refine x_lockR (.inl eq) fun od HL eL ne => ?_
  have leL : Le H3 HL := lock_le (.inl eq) eL ne
  walk_at "rd"
  refine x_itk eL ?_
  have nqw : wd ≠ q := ne_of_none ew hq
  have ewL : HL wd = some (.dK kw) := by rw [ne _ nqw]; exact s3 _ _ List.not_mem_nil ew
  have s13 := s12.trans s3
  have hlvL := leL.t (s13.le0.t hlv)
  have kqL : KVs rWay HL kq ws := ways_keep (fun t xs h => leL.tup _ _ h) kqk
  refine for_it (walk_keysR kqk) (fun i σ A => SX [] HL A ∧ (∀ n ∈ (ws.map (·.1)).take i, lowE tb a b n = false) ∧ ∃ c, σ = [some (.ref x), some (.ref y), some (.ref lv), some (.ref bd), some (.ref wd), some (.ref q), c]) ⟨SX.refl _, (fun _ h => nomatch h), _, rfl⟩ (fun _ _ _ _ h => h.1 _ _ List.not_mem_nil eL) ?_ ?_
  · rintro i z σ A0 A hi ⟨sA, okA, c, rfl⟩ ⟨rfl, p, _, hp, rfl, _⟩
    have hn : (ws.map (·.1))[i]? = some p.1 := by rw [List.getElem?_map, hp]; rfl
    have next : lowE tb a b p.1 = false → ∀ m ∈ (ws.map (·.1)).take (i + 1), lowE tb a b m = false := fun h m hm => by
      rw [take_succ_of hn] at hm
      rcases List.mem_append.mp hm with h' | h'
      · exact okA m h'
      · rw [List.mem_singleton.mp h']
        exact h
    walk_at "rd"
    refine x_din' (.inl (sA _ _ List.not_mem_nil ewL)) ?_
    rw [keys_val kwk.keys]
    walk_at "rd"
    refine x_cases (fun c1 => ?_) (fun c1 => ?_)
    · have c1 : p.1 ∈ tb.map (·.1) := by simpa using c1
      obtain ⟨vw, ev⟩ := lookA_some c1
      obtain ⟨vv, e1, rfl⟩ := kwk.at_ ev
      obtain ⟨b0, b1⟩ := tw.bd _ (lookA_mem ev)
      walk_at "rd"
      refine x_dg' (.inl (sA _ _ List.not_mem_nil ewL)) e1 ?_
      walk_at "rd"
      refine ⟨vw, lv, a, b, rfl, sA.le0.t hlvL, b0, b1, ?_⟩
      have el : lowE tb a b p.1 = decide (vw * b < a) := by unfold lowE; rw [ev]
      by_cases nv : vw * b < a
      · rw [decide_eq_true nv] at el ⊢
        walk_at "rd"
        obtain ⟨run, hr, rl⟩ := wo.has to (n := p.1) (getMem hn)
        refine ⟨q, p.1, kq, ws, run, rfl, .inr ⟨od, sA _ _ List.not_mem_nil eL⟩, ways_keep (fun t xs h => sA _ _ List.not_mem_nil h) kqL, wo.nd, hr, rl, fun p' A2 hp' s4 er => ?_⟩
        refine ⟨s4 _ _ List.not_mem_nil (sA _ _ List.not_mem_nil eL), ?_⟩
        have f := find_at hn el okA
        have sE := s13.trans (unlock_sx ne (sA.trans s4))
        have npq : p' ≠ q := fun z => by rw [z, sA _ _ List.not_mem_nil eL] at hp'; cases hp'
        exact k2 p.1 run f hr p' _ (by
          have := sA.free hp' List.not_mem_nil
          rw [ne _ npq] at this
          exact s13.free this List.not_mem_nil) sE (by
          unfold put
          rw [if_neg npq]
          exact er)
      · rw [decide_eq_false nv] at el ⊢
        walk_at "rd"
        exact ⟨sA, next el, _, rfl⟩
    · have c1 : p.1 ∉ tb.map (·.1) := by simpa using c1
      walk_at "rd"
      exact ⟨sA, next (by unfold lowE; rw [lookA_none c1]), _, rfl⟩
  · rintro σ A ⟨sA, okA, c, rfl⟩
    rw [show ws.length = (ws.map (·.1)).length from (List.length_map _).symm, List.take_length] at okA
    refine ⟨sA _ _ List.not_mem_nil eL, ?_⟩
    walk_at "rd"
    exact k1 (List.find?_eq_none.mpr fun m hm => by rw [okA m hm]; exact Bool.false_ne_true) _ (s13.trans (unlock_sx ne sA))
def sp_keeps (P : Program) (w : World) (T : Tx K mg) : Sp := fun vs H Q E => ∃ (x y lv : Addr) (v : V) (start : Str) (tbl : List (Str × Stand)) (tb : List (Str × Int)) (a b : Int) (d : PyData), vs = [.ref x, .ref y, .ref lv, v] ∧ BkArg P w T H x y lv v start tbl tb a b d ∧
  (¬ isBk tbl d → ∀ H', SX [] H H' → E (.ref T.c_BadBook) none H') ∧
  ∀ bk, d = .dict (bkD bk) → BookW tbl bk → ∀ H', SX [] H H' → Q (.bl (lowF tb a b (waysW tbl bk start)).isNone) H'
theorem ok_keeps (T : Tx K mg) : FnOk P w K mg base (L2.CX P w) 6 T.keeps.f T.keeps.fd P_keeps (sp_keeps P w T) := by
  refine T.keeps.F.okX sc_keeps (fun vs H Q E h => ?_) (fun cdv A outer s H vs Q E hr h => ?_)
  · obtain ⟨x, y, lv, v, start, tbl, tb, a, b, d, rfl, ar, ke, k⟩ := h
    rfl
  have hu := hu_of hr
  have nd := sc_keeps.nd
  obtain ⟨x, y, lv, v, start, tbl, tb, a, b, d, rfl, ar, ke, k⟩ := h
  refine ⟨_, (pss_one (ps_ret (pe_cmpR op_isNo (pe_callS (ok_breaking (P := P) (w := w) T) (hr.mono (by decide)) (by rfl) T.breaking.g T.breaking.F.kp T.breaking.B (fun τ => passAt (takes_of rfl rfl rfl rfl) τ) (pa_cons (pv 0) (pa_cons (pv 1) (pa_cons (pv 2) (pa_cons (pv 3) pa_nil))))) pe_non (nomark _)))), ?_⟩
  refine x_start (σ' := [some _, some _, some _, some _]) rfl ?_
  try simp only [cx_n, cx_K, cx_w, cx_P]
  walk_at "rd"
  refine x_callS' ?_
  walk_at "rd"
  refine ⟨x, y, lv, v, start, tbl, tb, a, b, d, rfl, ar, ke, fun bk e bw wo du => ⟨fun h H1 s1 => ?_, fun n run h hr p H1 hp s1 er => ?_⟩⟩
  · have kk := k bk e bw H1 s1
    rw [h] at kk
    walk_at "rd"
    exact kk
  · have kk := k bk e bw H1 s1
    rw [h] at kk
    walk_at "rd"
    exact kk
def sp_kept_stands (P : Program) (w : World) (T : Tx K mg) : Sp := fun vs H Q E => ∃ (x y lv : Addr) (v : V) (start : Str) (tbl : List (Str × Stand)) (tb : List (Str × Int)) (a b : Int) (d : PyData), vs = [.ref x, .ref y, .ref lv, v] ∧ BkArg P w T H x y lv v start tbl tb a b d ∧
  (¬ isBk tbl d → ∀ H', SX [] H H' → E (.ref T.c_BadBook) none H') ∧
  ∀ bk, d = .dict (bkD bk) → BookW tbl bk → (lowF tb a b (waysW tbl bk start) ≠ none → ∀ H', SX [] H H' → Q .non H') ∧
    (lowF tb a b (waysW tbl bk start) = none → ∀ p H', H p = none → SX [] H H' → H' p = some (.lst ((canonS ((waysW tbl bk start).map (·.1))).map V.str)) → Q (.ref p) H')
theorem ok_kept_stands (T : Tx K mg) : FnOk P w K mg base (L2.CX P w) 7 T.kept_stands.f T.kept_stands.fd P_kept_stands (sp_kept_stands P w T) := by
  refine T.kept_stands.F.okX sc_kept_stands (fun vs H Q E h => ?_) (fun cdv A outer s H vs Q E hr h => ?_)
  · obtain ⟨x, y, lv, v, start, tbl, tb, a, b, d, rfl, ar, ke, k⟩ := h
    rfl
  have hu := hu_of hr
  have nd := sc_kept_stands.nd
  obtain ⟨x, y, lv, v, start, tbl, tb, a, b, d, rfl, ar, ke, k⟩ := h
  refine ⟨_, (pss_cons (ps_if (pt_not (pt_val (pe_callS (ok_keeps (P := P) (w := w) T) (hr.mono (by decide)) (by rfl) T.keeps.g T.keeps.F.kp T.keeps.B (fun τ => passAt (takes_of rfl rfl rfl rfl) τ) (pa_cons (pv 0) (pa_cons (pv 1) (pa_cons (pv 2) (pa_cons (pv 3) pa_nil))))))) (pss_one (ps_ret pe_non)) pss_nil)
      (pss_one (ps_ret (pe_callB (cl_sortD rfl) (by rfl) T.b_sorted (by decide +kernel) (pa_cons (pe_call (ok_let_ways (P := P) (w := w) T) (hr.mono (by decide)) (by rfl) T.let_ways.g T.let_ways.F.kp T.let_ways.B .nil pass0 (pa_cons (pv 0) (pa_cons (pv 3) pa_nil))) pa_nil))))), ?_⟩
  refine x_start (σ' := [some _, some _, some _, some _]) rfl ?_
  try simp only [cx_n, cx_K, cx_w, cx_P]
  walk_at "rd"
  refine x_callS' ?_
  walk_at "rd"
  refine ⟨x, y, lv, v, start, tbl, tb, a, b, d, rfl, ar, ke, fun bk ed bw H1 s1 => ?_⟩
  obtain ⟨k1, k2⟩ := k bk ed bw
  clear k
  cases h : lowF tb a b (waysW tbl bk start) with
  | some n =>
    walk_at "rd"
    exact k1 (by rw [h]; exact fun z => nomatch z) _ s1
  | none =>
    obtain ⟨⟨hands, wa⟩, ⟨e, cm, wi⟩, hlv, to, tw, fr, o, tg, nd1⟩ := ar.nil s1
    have k2 := k2 h
    subst ed
    cases tg with
    | odd h n => exact absurd rfl (n _)
    | dic g dp =>
    rename_i bd kvs
    rw [show Option.isNone (none : Option Str) = true from rfl]
    walk_at "rd"
    refine ⟨x, bd, hands, start, tbl, kvs, bk, rfl, wa, to, g, dp, bw, fun q H3 kq hq s3 eq kqk wo du => ?_⟩
    walk_at "rd"
    refine x_sortD (.inl eq) kqk.keys fun ys p hp hs np => ?_
    have ey := canon_of hp hs
    subst ey
    exact k2 p _ ((s1.trans s3).free np List.not_mem_nil) ((s1.trans s3).trans (SX.new np)) upd_same
end
end M

namespace M
open PySem PySem.Spec PyProof.Rows L2 ReR
theorem WOk.keyC {sts : List (Str × Stand)} {bk : List (Str × List Str)} {start : Str} {w : Ways} (CS : Closed sts) (hst : start ∈ sts.map (·.1)) (h : WOk sts bk start w) : ∀ n ∈ w.map (·.1), n ∈ sts.map (·.1) := fun n hn => by
  obtain ⟨q, hq, rfl⟩ := List.mem_map.mp hn
  obtain ⟨i, hi⟩ := List.getElem?_of_mem hq
  rcases h.up i q hi with ⟨_, rfl⟩ | ⟨_, _, z, st, _, _, _, e, _, eto⟩
  · exact hst
  · refine (CS.all _ (lookA_mem e)).2.2 _ ?_
    rw [← rows_tos]
    exact List.mem_map.mpr ⟨(z, q.1), lookA_mem eto, rfl⟩
theorem WOk.lenC {sts : List (Str × Stand)} {bk : List (Str × List Str)} {start : Str} {w : Ways} (CS : Closed sts) (hst : start ∈ sts.map (·.1)) (h : WOk sts bk start w) : w.length ≤ sts.length := by
  have := nodup_sub h.nd (h.keyC CS hst)
  rwa [List.length_map, List.length_map] at this
section
variable {P : Program} [SupX.PX P] {w : World} {K : PySem.W.Frag} {mg : Str → Option Value} {base : Heap}
def sp_law_let (T : Tx K mg) : Sp := fun vs H Q _ => ∃ (d b : Addr) (s : Str) (sts : List (Str × Stand)) (st : Stand) (kv : List (Key × V)) (bk : List (Str × List Str)), vs = [.ref d, .ref b, .str s] ∧ rD (rStand K) H (.ref d) sts ∧ H b = some (.dK kv) ∧ KVs rTS H kv bk ∧ lookA sts s = some st ∧
  ∀ p H', H p = none → SX [] H H' → H' p = some (.lst ((letL bk s st).map V.str)) → Q (.ref p) H'
theorem ok_law_let (T : Tx K mg) : FnOk P w K mg base CX0 2 T.law_let.f T.law_let.fd P_law_let (sp_law_let T) := by
  refine T.law_let.F.ok sc_law_let (fun vs H Q E h => ?_) (fun cdv A outer s H vs Q E hr h => ?_)
  · obtain ⟨d, b, s, sts, st, kv, bk, rfl, hd, hb, hk, est, k⟩ := h
    rfl
  have hu := hu_of hr
  have nd := sc_law_let.nd
  obtain ⟨d, b, s, sts, st, kv, bk, rfl, hd, hb, hk, est, k⟩ := h
  refine ⟨_, (pss_cons (ps_if (pt_cmp (pc_din hu (pv 2) (pv 1))) (pss_one (ps_ret (pe_callTy (w_list (K := K) rfl) (by rfl) T.b_list (by decide +kernel) (pa_cons (pe_dget hu (pv 1) (pv 2) (fun _ _ => rfl)) pa_nil)))) pss_nil)
      (pss_one (ps_ret (pe_call (ok_law_steps (P := P) (w := w) T) (hr.mono (by decide)) (by rfl) T.law_steps.g T.law_steps.F.kp T.law_steps.B .nil pass0 (pa_cons (pv 0) (pa_cons (pv 2) pa_nil)))))), ?_⟩
  refine x_start (σ' := [some _, some _, some _]) rfl ?_
  try simp only [cx_n, cx_K, cx_w, cx_P]
  walk_at "rd"
  refine x_din' (.inl hb) ?_
  rcases hk.look s with ⟨v, l, ev, el, t, rfl, ht⟩ | ⟨ev, el⟩
  · rw [ev]
    walk_at "rd"
    refine x_true (by rfl) ?_
    walk_at "rd"
    refine x_dg' (.inl hb) ev ?_
    walk_at "rd"
    refine x_clistT (sqT ht) fun p hp => k p _ hp (SX.new hp) ?_
    rw [upd_same]
    unfold letL
    rw [el]
  · rw [ev]
    walk_at "rd"
    refine x_false (by rfl) ?_
    walk_at "rd"
    refine ⟨d, s, sts, st, rfl, hd, est, fun p H1 ys hp s1 ep pp sy => ?_⟩
    refine k p H1 hp s1 ?_
    rw [ep, canon_of pp sy]
    unfold letL
    rw [el]
end
end M

namespace M
open PySem PySem.Spec PyProof.Rows L2 ReR
section
variable {P : Program} [SupX.PX P] {w : World} {K : PySem.W.Frag} {mg : Str → Option Value} {base : Heap}
def sp_law_reached (T : Tx K mg) : Sp := fun vs H Q _ => ∃ (d b : Addr) (start : Str) (sts : List (Str × Stand)) (kv : List (Key × V)) (bk : List (Str × List Str)), vs = [.ref d, .ref b, .str start] ∧ rD (rStand K) H (.ref d) sts ∧ H b = some (.dK kv) ∧ KVs rTS H kv bk ∧ BookW sts bk ∧ Closed sts ∧ start ∈ sts.map (·.1) ∧ sts.length ≤ 100 ∧
  ∀ q H' kd, H q = none → SX [] H H' → H' q = some (.dK kd) → KVs rI H' kd (depW (waysW sts bk start)) → Q (.ref q) H'
theorem ok_law_reached (T : Tx K mg) : FnOk P w K mg base CX0 3 T.law_reached.f T.law_reached.fd P_law_reached (sp_law_reached T) := by
  refine T.law_reached.F.ok sc_law_reached (fun vs H Q E h => ?_) (fun cdv A outer s H vs Q E hr h => ?_)
  · obtain ⟨d, b, start, sts, kv, bk, rfl, hd, hb, hk, bo, CS, hst, h100, k⟩ := h
    rfl
  have hu := hu_of hr
  have nd := sc_law_reached.nd
  obtain ⟨d, b, start, sts, kv, bk, rfl, hd, hb, hk, bo, CS, hst, h100, k⟩ := h
  refine ⟨_, (pss_cons (ps_set (i := 3) nd rfl (Or.inl rfl) (pe_disp (pps_cons (pv 2) pe_int pps_nil) (by rfl) (by rfl) (fun z => by cases z) (by decide)))
      (pss_cons (ps_set (i := 4) nd rfl (Or.inl rfl) (pe_lst (pa_cons (pv 2) pa_nil)))
      (pss_cons (ps_for PassesOwn.never rfl (pi_range1 (by rfl) T.b_range (pa_cons (pe_callB cl_lenD (by rfl) T.b_len (by decide +kernel) (pa_cons (pv 0) pa_nil)) pa_nil)) (pg_name (i := 5) nd rfl (Or.inl rfl)) (pss_one (ps_if (pt_cmpR op_lt (pv 5) (pe_callB (w_len (K := K) rfl) (by rfl) T.b_len (by decide +kernel) (pa_cons (pv 4) pa_nil)) (nomark _)) (pss_one (ps_for PassesOwn.never rfl (w_pilist (K := K) rfl (pe_call (ok_law_let (P := P) (w := w) T) (hr.mono (by decide)) (by rfl) T.law_let.g T.law_let.F.kp T.law_let.B .nil pass0 (pa_cons (pv 0) (pa_cons (pv 1) (pa_cons (pe_ix (w_ixL (K := K) rfl) (pv 4) (pv 5) (fun _ _ => rfl)) pa_nil))))) (pg_name (i := 6) nd rfl (Or.inl rfl)) (pss_cons (ps_set (i := 7) nd rfl (Or.inl rfl) (pe_call (ok_law_to (P := P) (w := w) T) (hr.mono (by decide)) (by rfl) T.law_to.g T.law_to.F.kp T.law_to.B .nil pass0 (pa_cons (pv 0) (pa_cons (pe_ix (w_ixL (K := K) rfl) (pv 4) (pv 5) (fun _ _ => rfl)) (pa_cons (pv 6) pa_nil)))))
      (pss_one (ps_if (pt_cmp (pc_dnotin hu (pv 7) (pv 3))) (pss_cons (ps_dput hu (pv 3) (pv 7) (pe_op op_add (pe_dget hu (pv 3) (pe_ix (w_ixL (K := K) rfl) (pv 4) (pv 5) (fun _ _ => rfl)) (fun _ _ => rfl)) pe_int) rfl)
      (pss_one (ps_expr (pe_bm PySem.F.plainAttrs_list PySem.F.slot_list_append PySem.F.type_list_append mt_append (pv 4) (pa_cons (pv 7) pa_nil))))) pss_nil))))) pss_nil)))
      (pss_one (ps_ret (pv 3)))))), ?_⟩
  refine x_start (σ' := [some _, some _, some _, none, none, none, none, none]) rfl ?_
  try simp only [cx_n, cx_K, cx_w, cx_P]
  obtain ⟨d', kvs9, ed, hrd, hks⟩ := id hd
  cases ed
  walk_at "rd"
  intro wy hwy
  have sw : SX [] H (upd H wy (.dK [])) := SX.new hwy
  refine x_pcons' ?_
  walk_at "rd"
  refine x_pnil' ?_
  refine ⟨upd_same, [(Sum.inr start, .int 0)], rfl, Nat.le_of_ble_eq_true rfl, ?_⟩
  rw [merge1', upd_upd]
  have s0 : SX [] H (upd H wy (.dK [(Sum.inr start, .int 0)])) := SX.new hwy
  have w0 : (upd H wy (.dK [(Sum.inr start, .int 0)])) wy = some (.dK [(Sum.inr start, .int 0)]) := upd_same
  generalize upd H wy (.dK [(Sum.inr start, V.int 0)]) = H1 at s0 w0
  walk_at "rd"
  refine ⟨Nat.le_of_ble_eq_true rfl, fun wt hwt => ?_⟩
  have nwt : wy ≠ wt := ne_of_none w0 hwt
  have hwt0 : H wt = none := s0.free hwt List.not_mem_nil
  have s1 : SX [] H (upd H1 wt (.lst [.str start])) := s0.trans (SX.new hwt)
  walk_at "rd"
  refine x_lenD (s1.le0.rd _ _ trivial hrd) ?_
  walk_at "rd"
  rw [show kvs9.length = sts.length from Paired.length hks]
  refine x_rng1 (by omega) (by omega) ?_
  refine for_it walk_rng (fun i σ A => ∃ (kd : List (Key × V)) (ws : Ways) (c1 c2 c3 : Option V), SX [] H A ∧ A wy = some (.dK kd) ∧ KVs rI A kd (depW ws) ∧ A wt = some (.lst ((ws.map (·.1)).map V.str)) ∧ WOk sts bk start ws ∧ waysF sts bk (sts.length - i) i ws = waysW sts bk start ∧
      σ = [some (.ref d), some (.ref b), some (.str start), some (.ref wy), some (.ref wt), c1, c2, c3])
    ⟨[(Sum.inr start, .int 0)], [(start, none)], none, none, none, s1, by rw [upd_ne nwt]; exact w0, .cons ⟨rfl, rfl⟩ .nil, upd_same, WOk.start _ _ _, rfl, rfl⟩ (fun _ _ _ _ _ => trivial) ?_ ?_
  · rintro j x σ A0 A hj ⟨kd, ws, c1, c2, c3, sA, wA, kA, tA, wo, eF, rfl⟩ ⟨rfl, rfl⟩
    have jl : j < sts.length := by omega
    have wl := wo.lenC CS hst
    walk_at "rd"
    refine x_lenL' (sqL tA) ?_
    walk_at "rd"
    rw [List.length_map, List.length_map]
    refine x_cases (fun c => ?_) (fun c => ?_)
    · have c : j < ws.length := by
        have := of_decide_eq_true c
        omega
      obtain ⟨n, v0, hn⟩ : ∃ n v0, ws[j]? = some (n, v0) := ⟨ws[j].1, ws[j].2, by simp [c]⟩
      have nk : n ∈ ws.map (·.1) := List.mem_map.mpr ⟨_, getMem hn, rfl⟩
      obtain ⟨st, est⟩ := lookA_some (wo.keyC CS hst n nk)
      walk_at "rd"
      refine x_ixL (sqL tA) (atI_nat (by rw [List.getElem?_map, List.getElem?_map, hn]; rfl)) ?_
      walk_at "rd"
      refine ⟨d, b, n, sts, st, kv, bk, rfl, mono_D (mono_stand K) _ _ _ _ sA.le0 hd, sA _ _ List.not_mem_nil hb, KVs.le mono_TS sA.le0 hk, est, fun p B hp sB ep => ?_⟩
      generalize hys : letL bk n st = ys at ep
      refine x_itl (sqL ep) ?_
      have nwp : wy ≠ p := ne_of_none wA hp
      have ntp : wt ≠ p := ne_of_none tA hp
      refine for_it (walk_listR (R := rS) (Hb := H) (paired_S' ys)) (fun i σ C => ∃ (kw2 : List (Key × V)) (w2 : Ways) (c2 c3 : Option V), SX [] H C ∧ C p = some (.lst (ys.map V.str)) ∧ C wy = some (.dK kw2) ∧ KVs rI C kw2 (depW w2) ∧ C wt = some (.lst ((w2.map (·.1)).map V.str)) ∧ WOk sts bk start w2 ∧ (∃ m, w2 = ws ++ m) ∧ (ys.take i).foldl (addW st.rows n) ws = w2 ∧
          σ = [some (.ref d), some (.ref b), some (.str start), some (.ref wy), some (.ref wt), some (.int (j : Int)), c2, c3])
        ⟨kd, ws, c2, c3, sA.trans sB, ep, sB _ _ List.not_mem_nil wA, kvs_impJ (fun _ _ _ h => h) kA, sB _ _ List.not_mem_nil tA, wo, ⟨[], (List.append_nil _).symm⟩, rfl, rfl⟩ (fun i σ C _ h => by obtain ⟨_, _, _, _, _, h, _⟩ := h; exact sqL h) ?_ ?_
      · rintro i z0 σ C0 C hi ⟨kw2, w2, c4, c5, sC, pC, wC, kC, tC, wo2, ⟨more, em⟩, ef, rfl⟩ ⟨rfl, z, hz, rfl⟩
        have zl : z ∈ letL bk n st := by rw [hys]; exact getMem hz
        obtain ⟨u, eu⟩ := bo.let_rows est zl
        have hn2 : w2[j]? = some (n, v0) := by rw [em, List.getElem?_append_left (getLt hn)]; exact hn
        have n2 : n ∈ w2.map (·.1) := List.mem_map.mpr ⟨_, getMem hn2, rfl⟩
        have w2l := wo2.lenC CS hst
        have kwl : kw2.length = w2.length := by rw [Paired.length kC, depW_len]
        have next : (ys.take (i + 1)).foldl (addW st.rows n) ws = addW st.rows n w2 z := by
          rw [take_succ_of hz, List.foldl_append, ef]
          rfl
        have wo3 := wo2.add n2 est zl
        have pre3 : ∃ m, addW st.rows n w2 z = ws ++ m := by
          obtain ⟨m, e⟩ := addW_pre (rows := st.rows) (n := n) (z := z) (w := w2)
          exact ⟨more ++ m, by rw [e, em, List.append_assoc]⟩
        have an : ∀ {xs : List V}, atI ((w2.map (·.1)).map V.str) (j : Int) = some (.str n) := fun {_} => atI_nat (by rw [List.getElem?_map, List.getElem?_map, hn2]; rfl)
        have hdC := mono_D (mono_stand K) _ _ _ _ sC.le0 hd
        have keyE : kw2.map (·.1) = (w2.map (·.1)).map Sum.inr := by rw [kC.keys, depW_names]
        walk_at "rd"
        refine x_ixL (sqL tC) (an (xs := [])) ?_
        walk_at "rd"
        refine ⟨d, n, z, u, sts, st, rfl, hdC, est, eu, ?_⟩
        walk_at "rd"
        refine x_dni' (.inl wC) ?_
        rw [keys_val keyE]
        walk_at "rd"
        refine x_cases (fun c => ?_) (fun c => ?_)
        · have nu : u ∉ w2.map (·.1) := by simpa using c
          have ea : addW st.rows n w2 z = w2 ++ [(u, some (n, z))] := by
            unfold addW
            rw [eu]
            exact if_neg nu
          obtain ⟨r, hr⟩ := lookA_some (show n ∈ (depW w2).map (·.1) by rw [depW_names]; exact n2)
          obtain ⟨vr, evr, rfl⟩ := kC.at_ hr
          walk_at "rd"
          refine x_ixL (sqL tC) (an (xs := [])) ?_
          refine x_dg' (.inl wC) evr ?_
          walk_at "rd"
          refine ⟨wy, _, rfl, DPut.k (k := Sum.inr u) wC (lt_size (by omega)), ?_⟩
          walk_at "rd"
          have epk := putK_fresh (V.int (r + 1)) keyE nu
          have tC3 : (upd C wy (.dK (putK kw2 (Sum.inr u) (V.int (r + 1))))) wt = some (.lst ((w2.map (·.1)).map V.str)) := by
            rw [upd_ne (Ne.symm nwt)]
            exact tC
          refine ⟨.inl ⟨rfl, _, sqL tC3⟩, ?_⟩
          walk_at "rd"
          refine ⟨wt, _, _, rfl, rfl, tC3, lt_size (by rw [List.length_map, List.length_map]; omega), ?_⟩
          refine ⟨putK kw2 (Sum.inr u) (V.int (r + 1)), w2 ++ [(u, some (n, z))], _, _, sx_nil_of (S := [wy, wt]) ((nil_sx sC).trans ((SX.mut (by simp)).trans (SX.mut (by simp)))) (by simp [hwy, hwt0]), ?_, ?_, ?_, ?_, by rw [← ea]; exact wo3, by rw [← ea]; exact pre3, by rw [next, ea], rfl⟩
          · rw [upd_ne (Ne.symm ntp), upd_ne (Ne.symm nwp)]
            exact pC
          · rw [upd_ne nwt, upd_same]
          · rw [epk, depW_snoc]
            refine Paired.app (kvs_impJ (fun _ _ _ h => h) kC) (.cons ⟨rfl, ?_⟩ .nil)
            show V.int (r + 1) = V.int ((lookA (depW w2) n).getD 0 + 1)
            rw [hr]
            rfl
          · rw [upd_same, List.map_append, List.map_append]
            rfl
        · have nu : u ∈ w2.map (·.1) := by simpa using c
          have ea : addW st.rows n w2 z = w2 := by
            unfold addW
            rw [eu]
            exact if_pos nu
          walk_at "rd"
          exact ⟨kw2, w2, _, _, sC, pC, wC, kC, tC, wo2, ⟨more, em⟩, by rw [next, ea], rfl⟩
      · rintro σ C ⟨kw2, w2, c4, c5, sC, pC, wC, kC, tC, wo2, ⟨more, em⟩, ef, rfl⟩
        rw [List.take_length] at ef
        have ex : expW sts bk n ws = w2 := by
          unfold expW
          rw [est]
          show (letL bk n st).foldl (addW st.rows n) ws = w2
          rw [hys]
          exact ef
        walk_at "rd"
        refine ⟨kw2, w2, _, _, _, sC, wC, kC, tC, wo2, ?_, rfl⟩
        rw [← eF, show sts.length - j = (sts.length - (j + 1)) + 1 by omega, waysF_step hn]
        rw [← ex]
    · have jl2 : ws.length ≤ j := by
        have := of_decide_eq_false c
        omega
      walk_at "rd"
      refine ⟨kd, ws, _, _, _, sA, wA, kA, tA, wo, ?_, rfl⟩
      rw [waysF_end (by omega), ← eF, waysF_end jl2]
  · rintro σ A ⟨kd, ws, c1, c2, c3, sA, wA, kA, tA, wo, eF, rfl⟩
    walk_at "rd"
    have wl := wo.lenC CS hst
    rw [waysF_end (by omega)] at eF
    rw [eF] at kA
    exact k wy A kd hwy sA wA kA
end
end M

namespace M
open PySem PySem.Spec PyProof.Rows L2 ReR
section
variable {P : Program} [SupX.PX P] {w : World} {K : PySem.W.Frag} {mg : Str → Option Value} {base : Heap}
def sp_law_breaks (T : Tx K mg) : Sp := fun vs H Q _ => ∃ (d wd lv b rp : Addr) (start : Str) (sts : List (Str × Stand)) (kw kv : List (Key × V)) (wl : List (Str × Int)) (bk : List (Str × List Str)) (a b' v : Int) (run : List Str), vs = [.ref d, .ref wd, .ref lv, .ref b, .str start, .ref rp, .int run.length] ∧ rD (rStand K) H (.ref d) sts ∧
  H wd = some (.dK kw) ∧ KVs rI H kw wl ∧ SqT K H lv [.int a, .int b'] ∧ H b = some (.dK kv) ∧ KVs rTS H kv bk ∧ H rp = some (.lst (run.map V.str)) ∧ RunOk sts start run ∧ (∀ i < run.length, okB sts bk start run i = true) ∧ lookA sts (atF sts start run) = some .fin ∧ lookA wl (atF sts start run) = some v ∧ v * b' < a ∧ -99 ≤ v ∧ v ≤ 99 ∧
  ∀ H', SX [] H H' → Q (.bl true) H'
theorem ok_law_breaks (T : Tx K mg) : FnOk P w K mg base CX0 3 T.law_breaks.f T.law_breaks.fd P_law_breaks (sp_law_breaks T) := by
  refine T.law_breaks.F.ok sc_law_breaks (fun vs H Q E h => ?_) (fun cdv A outer s H vs Q E hr h => ?_)
  · obtain ⟨d, wd, lv, b, rp, start, sts, kw, kv, wl, bk, a, b', v, run, rfl, hd, hwd, hkw, hlv, hb, hk, hrp, R, ok, efin, ew, low, v0, v1, k⟩ := h
    rfl
  have hu := hu_of hr
  have nd := sc_law_breaks.nd
  obtain ⟨d, wd, lv, b, rp, start, sts, kw, kv, wl, bk, a, b', v, run, rfl, hd, hwd, hkw, hlv, hb, hk, hrp, R, ok, efin, ew, low, v0, v1, k⟩ := h
  refine ⟨_, (pss_cons (ps_if (PW.pt (pw_or (pt_not (pt_val (pe_callB (w_isi (K := K) rfl) (by rfl) T.b_isinstance (by decide +kernel) (pa_cons (pv 5) (pa_cons (pe_bltn (v := .ty "list") (by rfl) T.b_list (by decide +kernel) rfl) pa_nil))))) (pw_or1 (pt_cmpR op_ne (pe_callB (w_len (K := K) rfl) (by rfl) T.b_len (by decide +kernel) (pa_cons (pv 5) pa_nil)) (pv 6) (nomark _))))) (pss_one (ps_ret pe_bl)) pss_nil)
      (pss_cons (ps_set (i := 7) nd rfl (Or.inl rfl) (pv 4))
      (pss_cons (ps_for PassesOwn.never rfl (w_pilist (K := K) rfl (pv 5)) (pg_name (i := 8) nd rfl (Or.inl rfl)) (pss_cons (ps_if (pt_cmpR (w_nin (K := K) rfl) (pv 8) (pe_call (ok_law_let (P := P) (w := w) T) (hr.mono (by decide)) (by rfl) T.law_let.g T.law_let.F.kp T.law_let.B .nil pass0 (pa_cons (pv 0) (pa_cons (pv 3) (pa_cons (pv 7) pa_nil)))) (by rfl)) (pss_one (ps_ret pe_bl)) pss_nil)
      (pss_one (ps_set (i := 7) nd rfl (Or.inl rfl) (pe_call (ok_law_to (P := P) (w := w) T) (hr.mono (by decide)) (by rfl) T.law_to.g T.law_to.F.kp T.law_to.B .nil pass0 (pa_cons (pv 0) (pa_cons (pv 7) (pa_cons (pv 8) pa_nil))))))))
      (pss_one (ps_ret (pe_and (pe_cmpR op_eq (pe_ix (w_ixT (K := K) rfl) (pe_dget hu (pv 0) (pv 7) (fun _ _ => rfl)) pe_int (fun _ _ => rfl)) pe_str (nomark _)) (pe_one (pe_cmpR op_lt (pe_op op_mul (pe_dget hu (pv 1) (pv 7) (fun _ _ => rfl)) (pe_ix (w_ixT (K := K) rfl) (pv 2) pe_int (fun _ _ => rfl))) (pe_ix (w_ixT (K := K) rfl) (pv 2) pe_int (fun _ _ => rfl)) (nomark _))))))))), ?_⟩
  refine x_start (σ' := [some _, some _, some _, some _, some _, some _, some _, none, none]) rfl ?_
  try simp only [cx_n, cx_K, cx_w, cx_P]
  walk_at "rd"
  refine x_isi (DpD.lst hrp (DpDs.strs run) : DpD H (.ref rp) (.list (run.map PyData.str))).ty (kit_lst _) ?_
  walk_at "rd"
  refine x_lenL' (sqL hrp) ?_
  walk_at "rd"
  rw [List.length_map]
  refine x_false (by rw [decide_eq_true rfl]; rfl) ?_
  walk_at "rd"
  refine x_itl (sqL hrp) ?_
  refine for_it (walk_listR (R := rS) (Hb := H) (paired_S' run)) (fun i σ A => SX [] H A ∧ ∃ c, σ = [some (.ref d), some (.ref wd), some (.ref lv), some (.ref b), some (.str start), some (.ref rp), some (.int run.length), some (.str (atF sts start (run.take i))), c])
    ⟨SX.refl _, none, rfl⟩ (fun i σ A _ h => sqL (h.1 _ _ List.not_mem_nil hrp)) ?_ ?_
  · rintro i z0 σ A0 A hi ⟨sA, c, rfl⟩ ⟨rfl, s, es, rfl⟩
    have hi2 : i < run.length := getLt es
    obtain ⟨b1, g1⟩ := R i s es
    obtain ⟨st, f1, lk⟩ := goS_look g1
    have hdA := mono_D (mono_stand K) _ _ _ _ sA.le0 hd
    walk_at "rd"
    refine ⟨d, b, _, sts, st, kv, bk, rfl, hdA, sA _ _ List.not_mem_nil hb, KVs.le mono_TS sA.le0 hk, f1, fun p B hp sB ep => ?_⟩
    refine ⟨p, _, rfl, .inl (sqL ep), rfl, flat_strs _, ?_⟩
    have o := ok i hi2
    unfold okB at o
    rw [f1, List.getD_eq_getElem?_getD, es] at o
    have m : s ∈ letL bk (atF sts start (run.take i)) st := (mem_letL s).mpr (of_decide_eq_true o)
    rw [inV_strD, decide_eq_true m]
    refine ⟨false, rfl, ?_⟩
    walk_at "rd"
    refine ⟨d, _, s, b1, sts, st, rfl, mono_D (mono_stand K) _ _ _ _ (sA.trans sB).le0 hd, f1, lk, ?_⟩
    walk_at "rd"
    exact ⟨sA.trans sB, _, by rw [take_succ_of es, atF_snoc g1]⟩
  · rintro σ A ⟨sA, c, rfl⟩
    rw [List.take_length]
    obtain ⟨d', kvs9, e9, hrd, hks⟩ := mono_D (mono_stand K) _ _ _ _ sA.le0 hd
    cases e9
    obtain ⟨v5, ev5, rv⟩ := hks.at_ efin
    obtain ⟨tp, rfl, htp⟩ := rv
    obtain ⟨v6, ev6, rfl⟩ := hkw.at_ ew
    walk_at "rd"
    refine x_dg' hrd ev5 ?_
    walk_at "rd"
    refine x_ixT htp (atI_nat (j := 0) rfl) ?_
    walk_at "rd"
    refine x_true (decide_eq_true rfl) ?_
    walk_at "rd"
    refine x_dg' (.inl (sA _ _ List.not_mem_nil hwd)) ev6 ?_
    walk_at "rd"
    refine x_ixT (sA.le0.t hlv) (v := .int b') (atI_nat (j := 1) rfl) ?_
    refine x_I (.inl ⟨by omega, by omega⟩) ?_
    walk_at "rd"
    refine x_ixT (sA.le0.t hlv) (v := .int a) (atI_nat (j := 0) rfl) ?_
    walk_at "rd"
    rw [decide_eq_true low]
    exact k A sA
end
end M

namespace M
open PySem PySem.Spec PyProof.Rows L2 ReR
section
variable {P : Program} [SupX.PX P] {w : World} {K : PySem.W.Frag} {mg : Str → Option Value} {base : Heap}
/-- a table with its keys in another order; R any way to tell its values that lasts -/
def sp_law_turned (T : Tx K mg) : Sp := fun vs H Q _ => ∃ (α : Type) (R : RR α) (d : Addr) (kv : List (Key × V)) (l : List (Str × α)), vs = [.ref d] ∧ (∀ A B, SX [] A B → ∀ v a, R A v a → R B v a) ∧ Rd H d (.dK kv) ∧ KVs R H kv l ∧ (l.map (·.1)).Nodup ∧ l.length ≤ 1000 ∧
  ∀ q H' kv' l', H q = none → SX [] H H' → H' q = some (.dK kv') → KVs R H kv' l' → l'.Perm l → Q (.ref q) H'
theorem ok_law_turned (T : Tx K mg) : FnOk P w K mg base CX0 1 T.law_turned.f T.law_turned.fd P_law_turned (sp_law_turned T) := by
  refine T.law_turned.F.ok sc_law_turned (fun vs H Q E h => ?_) (fun cdv A outer s H vs Q E hr h => ?_)
  · obtain ⟨α, R, d, kv, l, rfl, mono, hd, hk, ln, ll, k⟩ := h
    rfl
  have hu := hu_of hr
  have nd := sc_law_turned.nd
  obtain ⟨α, R, d, kv, l, rfl, mono, hd, hk, ln, ll, k⟩ := h
  refine ⟨_, (pss_cons (ps_set (i := 1) nd rfl (Or.inl rfl) pe_dnewK)
      (pss_cons (ps_for PassesOwn.never rfl (w_pilist (K := K) rfl (pe_callBK (cl_sortDR rfl) (by rfl) T.b_sorted (by decide +kernel) (pa_cons (pv 0) pa_nil) (pk_cons pe_bl pk_nil))) (pg_name (i := 2) nd rfl (Or.inl rfl)) (pss_one (ps_dput hu (pv 1) (pv 2) (pe_dget hu (pv 0) (pv 2) (fun _ _ => rfl)) rfl)))
      (pss_one (ps_ret (pv 1))))), ?_⟩
  refine x_start (σ' := [some _, none, none]) rfl ?_
  try simp only [cx_n, cx_K, cx_w, cx_P]
  walk_at "rd"
  intro F hF
  have s1 : SX [] H (upd H F (.dK [])) := SX.new hF
  have F1 : (upd H F (.dK [])) F = some (.dK []) := upd_same
  generalize upd H F (.dK []) = H1 at s1 F1
  walk_at "rd"
  refine x_ckw ?_
  walk_at "rd"
  refine ⟨d, kv, l.map (·.1), rfl, rfl, s1.le0.rd _ _ trivial hd, hk.keys, fun ys py hpy np => ?_⟩
  have nFy : F ≠ py := ne_of_none F1 np
  have s2 : SX [] H1 (upd H1 py (.lst (ys.map V.str))) := SX.new np
  have y2 : (upd H1 py (.lst (ys.map V.str))) py = some (.lst (ys.map V.str)) := upd_same
  have F2 := s2 _ _ List.not_mem_nil F1
  generalize upd H1 py (.lst (ys.map V.str)) = H2 at s2 y2 F2
  have ynd : ys.Nodup := hpy.nodup_iff.mpr ln
  have ylen : ys.length = l.length := by rw [hpy.length_eq, List.length_map]
  have s12 := s1.trans s2
  refine x_itl (sqL y2) ?_
  refine for_it (walk_listR (R := rS) (Hb := H) (paired_S' ys)) (fun i σ A => ∃ (kv2 : List (Key × V)) (l2 : List (Str × α)) (c : Option V), SX [] H A ∧ A py = some (.lst (ys.map V.str)) ∧ A F = some (.dK kv2) ∧ KVs R H kv2 l2 ∧ l2.map (·.1) = ys.take i ∧ (∀ q ∈ l2, q ∈ l) ∧ σ = [some (.ref d), some (.ref F), c])
    ⟨[], [], none, s12, y2, F2, .nil, rfl, (fun _ h => nomatch h), rfl⟩ (fun i σ A _ h => by obtain ⟨_, _, _, _, h, _⟩ := h; exact sqL h) ?_ ?_
  · rintro i z0 σ A0 A hi ⟨kv2, l2, c, sA, yA, FA, kA, nA, mA, rfl⟩ ⟨rfl, n, hn, rfl⟩
    obtain ⟨a, ea⟩ := lookA_some (hpy.mem_iff.mp (getMem hn))
    obtain ⟨v, ev, rv⟩ := hk.at_ ea
    walk_at "rd"
    refine x_dg' (sA.le0.rd _ _ trivial hd) ev ?_
    walk_at "rd"
    have nn : n ∉ l2.map (·.1) := by rw [nA]; exact nodup_take ynd hn
    have kl : kv2.length ≤ 1000 := by
      rw [Paired.length kA]
      have := congrArg List.length nA
      rw [List.length_map, List.length_take] at this
      omega
    refine ⟨F, _, rfl, DPut.k (k := Sum.inr n) FA (lt_size (by omega)), ?_⟩
    have epk := putK_fresh v kA.keys nn
    refine ⟨putK kv2 (Sum.inr n) v, l2 ++ [(n, a)], _, sx_nil_of (S := [F]) ((nil_sx sA).trans (SX.mut List.mem_cons_self)) (by simp [hF]), by rw [upd_ne (Ne.symm nFy)]; exact yA, upd_same, ?_, by rw [List.map_append, nA, take_succ_of hn]; rfl, fun q hq => ?_, rfl⟩
    · rw [epk]
      exact Paired.app kA (.cons ⟨rfl, rv⟩ .nil)
    · rcases List.mem_append.mp hq with h | h
      · exact mA q h
      · rw [List.mem_singleton.mp h]
        exact lookA_mem ea
  · rintro σ A ⟨kv2, l2, c, sA, yA, FA, kA, nA, mA, rfl⟩
    rw [List.take_length] at nA
    walk_at "rd"
    refine k F A kv2 l2 hF sA FA kA ?_
    have n2 : (l2.map (·.1)).Nodup := by rw [nA]; exact ynd
    have nd_of : ∀ {l : List (Str × α)}, (l.map (·.1)).Nodup → l.Nodup := fun h => (List.pairwise_map.mp h).imp fun h e => h (by rw [e])
    refine (List.perm_ext_iff_of_nodup (nd_of n2) (nd_of ln)).mpr fun q => ⟨mA q, fun hq => ?_⟩
    have : q.1 ∈ l2.map (·.1) := by rw [nA]; exact hpy.mem_iff.mpr (List.mem_map.mpr ⟨q, hq, rfl⟩)
    obtain ⟨q2, h2, e2⟩ := List.mem_map.mp this
    have := nodup_val ln (show (q.1, q.2) ∈ l from hq) (show (q.1, q2.2) ∈ l by rw [← e2]; exact mA q2 h2)
    have : q2 = q := Prod.ext e2 this.symm
    rw [← this]
    exact h2
end
end M

namespace M
open PySem PySem.Spec PyProof.Rows L2 ReR
/-! ### every stand that comes is found -/
def WDone (tbl : List (Str × Stand)) (bk : List (Str × List Str)) (w : Ways) (j : Nat) : Prop := ∀ i < j, ∀ q, w[i]? = some q → ∀ st, lookA tbl q.1 = some st → ∀ z ∈ letL bk q.1 st, ∀ u, lookA st.rows z = some u → u ∈ w.map (·.1)
theorem addW_has {rows : List (Str × Str)} {n z u : Str} {w : Ways} (h : lookA rows z = some u) : u ∈ (addW rows n w z).map (·.1) := by
  unfold addW
  rw [h]
  show u ∈ (if u ∈ w.map (·.1) then w else w ++ [(u, some (n, z))]).map (·.1)
  split
  · assumption
  · rw [List.map_append]
    exact List.mem_append_right _ List.mem_cons_self
theorem fold_pre {rows : List (Str × Str)} {n : Str} : ∀ {l : List Str} {w : Ways}, ∃ m, l.foldl (addW rows n) w = w ++ m
  | [], w => ⟨[], (List.append_nil _).symm⟩
  | z :: l, w => by
    obtain ⟨m, e⟩ := addW_pre (rows := rows) (n := n) (z := z) (w := w)
    obtain ⟨m2, e2⟩ := fold_pre (rows := rows) (n := n) (l := l) (w := addW rows n w z)
    exact ⟨m ++ m2, by rw [List.foldl_cons, e2, e, List.append_assoc]⟩
theorem fold_has {rows : List (Str × Str)} {n : Str} : ∀ {l : List Str} {w : Ways}, ∀ z ∈ l, ∀ u, lookA rows z = some u → u ∈ (l.foldl (addW rows n) w).map (·.1)
  | z :: l, w, y, hy, u, hu9 => by
    rw [List.foldl_cons]
    rcases List.mem_cons.mp hy with rfl | h
    · obtain ⟨m, e⟩ := fold_pre (rows := rows) (n := n) (l := l) (w := addW rows n w y)
      rw [e, List.map_append]
      exact List.mem_append_left _ (addW_has hu9)
    · exact fold_has y h u hu9
theorem waysF_done {tbl : List (Str × Stand)} {bk : List (Str × List Str)} {start : Str} (ml : ∀ w, WOk tbl bk start w → w.length ≤ tbl.length) : ∀ (f j : Nat) (w : Ways), WOk tbl bk start w → WDone tbl bk w j → tbl.length ≤ f + j →
    WOk tbl bk start (waysF tbl bk f j w) ∧ WDone tbl bk (waysF tbl bk f j w) (waysF tbl bk f j w).length
  | 0, j, w, wo, d, h => ⟨wo, fun i hi => d i (by have := ml w wo; have hi : i < w.length := hi; omega)⟩
  | f + 1, j, w, wo, d, h => by
    unfold waysF
    cases e : w[j]? with
    | none =>
      have := List.getElem?_eq_none_iff.mp e
      exact ⟨wo, fun i hi => d i (by have hi : i < w.length := hi; omega)⟩
    | some q =>
      have hn : q.1 ∈ w.map (·.1) := List.mem_map.mpr ⟨_, getMem e, rfl⟩
      obtain ⟨wo2, m, em⟩ := wo.exp hn
      refine waysF_done ml f (j + 1) (expW tbl bk q.1 w) wo2 ?_ (by omega)
      intro i hi p hp st est z hz u hu9
      have lj := getLt e
      have hp' : w[i]? = some p := by
        rw [em, List.getElem?_append_left (by omega)] at hp
        exact hp
      by_cases c : i < j
      · rw [em, List.map_append]
        exact List.mem_append_left _ (d i c p hp' st est z hz u hu9)
      · obtain rfl : i = j := by omega
        rw [e] at hp'
        cases hp'
        unfold expW
        rw [est]
        exact fold_has z hz u hu9
theorem waysW_done {tbl : List (Str × Stand)} {bk : List (Str × List Str)} {start : Str} (ml : ∀ w, WOk tbl bk start w → w.length ≤ tbl.length) : WOk tbl bk start (waysW tbl bk start) ∧ WDone tbl bk (waysW tbl bk start) (waysW tbl bk start).length :=
  waysF_done ml _ 0 _ (WOk.start _ _ _) (fun i hi => absurd hi (Nat.not_lt_zero _)) (Nat.le_refl _)
theorem ways_all {tbl : List (Str × Stand)} {bk : List (Str × List Str)} {start : Str} (ml : ∀ w, WOk tbl bk start w → w.length ≤ tbl.length) {run : List Str} (R : RunOk tbl start run) (ok : ∀ i < run.length, okB tbl bk start run i = true) : ∀ k ≤ run.length, atF tbl start (run.take k) ∈ (waysW tbl bk start).map (·.1)
  | 0, _ => by
    obtain ⟨wo, _⟩ := waysW_done ml
    exact List.mem_map.mpr ⟨_, getMem wo.hd, rfl⟩
  | k + 1, hk => by
    obtain ⟨wo, wd⟩ := waysW_done ml
    have ih := ways_all ml R ok k (by omega)
    obtain ⟨q, hq, eq⟩ := List.mem_map.mp ih
    obtain ⟨i, hi⟩ := List.getElem?_of_mem hq
    have es : run[k]? = some (run[k]'(by omega)) := List.getElem?_eq_getElem _
    obtain ⟨b, g⟩ := R k _ es
    obtain ⟨st, f1, lk⟩ := goS_look g
    have o := ok k (by omega)
    unfold okB at o
    rw [f1, List.getD_eq_getElem?_getD, es] at o
    have m := (mem_letL (bk := bk) (n := atF tbl start (run.take k)) (st := st) _).mpr (of_decide_eq_true o)
    rw [take_succ_of es, atF_snoc g]
    exact wd i (getLt hi) q hi st (by rw [eq]; exact f1) _ (by rw [eq]; exact m) b lk
theorem breach_at {tbl : List (Str × Stand)} {bk : List (Str × List Str)} {a : Str} {run : List Str} (h : ¬ ∀ i < run.length, okB tbl bk a run i = true) : ∃ i, i < run.length ∧ (∀ j < i, okB tbl bk a run j = true) ∧ okB tbl bk a run i = false ∧ brD tbl bk a run = .tuple [.int (i : Int), mvDt ((lookA tbl (atF tbl a (run.take i))).getD .fin)] := by
  cases e : firstB tbl bk a run with
  | none =>
    unfold firstB at e
    rw [List.find?_range_eq_none] at e
    exact absurd (fun i hi => by have := e i hi; simpa using this) h
  | some i =>
    have e0 := e
    unfold firstB at e
    rw [List.find?_range_eq_some] at e
    obtain ⟨h1, h2, h3⟩ := e
    refine ⟨i, by simpa using h2, fun j hj => by simpa using h3 j hj, by simpa using h1, ?_⟩
    unfold brD
    rw [e0]
end M

namespace M
open PySem PySem.Spec PyProof.Rows L2 ReR
/-- how deep the ends below the level lie that come -/
def lowD (dl : List (Str × Int)) (a b : Int) (wl : List (Str × Int)) : List Int := wl.filterMap fun q => match lookA dl q.1 with
  | some d => if q.2 * b < a then some d else none
  | none => none
theorem lowD_mem {dl : List (Str × Int)} {a b : Int} {wl : List (Str × Int)} {d : Int} : d ∈ lowD dl a b wl ↔ ∃ q ∈ wl, lookA dl q.1 = some d ∧ q.2 * b < a := by
  unfold lowD
  rw [List.mem_filterMap]
  constructor
  · rintro ⟨q, hq, h⟩
    refine ⟨q, hq, ?_⟩
    cases e : lookA dl q.1 with
    | none => rw [e] at h; cases h
    | some d' =>
      rw [e] at h
      have h : (if q.2 * b < a then some d' else none) = some d := h
      by_cases c : q.2 * b < a
      · rw [if_pos c] at h
        cases h
        exact ⟨rfl, c⟩
      · rw [if_neg c] at h
        cases h
  · rintro ⟨q, hq, e, c⟩
    refine ⟨q, hq, ?_⟩
    rw [e]
    exact if_pos c
theorem lowE_iff {tb wl : List (Str × Int)} (lk : ∀ n, lookA tb n = lookA wl n) (nd : (wl.map (·.1)).Nodup) {a b : Int} {n : Str} : lowE tb a b n = true ↔ ∃ q ∈ wl, q.1 = n ∧ q.2 * b < a := by
  unfold lowE
  rw [lk n]
  constructor
  · intro h
    cases e : lookA wl n with
    | none => rw [e] at h; cases h
    | some v =>
      rw [e] at h
      exact ⟨_, lookA_mem e, rfl, of_decide_eq_true h⟩
  · rintro ⟨q, hq, rfl, c⟩
    rw [lookA_nodup nd (show (q.1, q.2) ∈ wl from hq)]
    exact decide_eq_true c
theorem lowD_yes {dl : List (Str × Int)} {a b d : Int} {z : Str × Int} (e : lookA dl z.1 = some d) (c : z.2 * b < a) : lowD dl a b [z] = [d] := by
  unfold lowD
  simp [e, c]
theorem lowD_no {dl : List (Str × Int)} {a b d : Int} {z : Str × Int} (e : lookA dl z.1 = some d) (c : ¬ z.2 * b < a) : lowD dl a b [z] = [] := by
  unfold lowD
  simp [e]
  omega
theorem lowD_out {dl : List (Str × Int)} {a b : Int} {z : Str × Int} (e : lookA dl z.1 = none) : lowD dl a b [z] = [] := by
  unfold lowD
  simp [e]
/-- none is below, just when no depth is told -/
theorem lowD_nil {ws : Ways} {tb wl : List (Str × Int)} (lk : ∀ n, lookA tb n = lookA wl n) (nd : (wl.map (·.1)).Nodup) {a b : Int} : (lowD (depW ws) a b wl = []) ↔ lowF tb a b ws = none := by
  unfold lowF
  rw [List.find?_eq_none, List.eq_nil_iff_forall_not_mem]
  constructor
  · intro h n hn c
    obtain ⟨q, hq, rfl, c2⟩ := (lowE_iff lk nd).mp c
    rw [← depW_names] at hn
    obtain ⟨d, e⟩ := lookA_some hn
    exact h d (lowD_mem.mpr ⟨q, hq, e, c2⟩)
  · intro h d hd
    obtain ⟨q, hq, e, c⟩ := lowD_mem.mp hd
    refine h q.1 ?_ ((lowE_iff lk nd).mpr ⟨q, hq, rfl, c⟩)
    rw [← depW_names]
    exact key_of' e
/-- the first that is below is the one with the least depth -/
theorem lowD_min {tbl : List (Str × Stand)} {bk : List (Str × List Str)} {start : Str} {ws : Ways} (wo : WOk tbl bk start ws) {j : Nat} (du : DepUp ws j) {tb wl : List (Str × Int)} (lk : ∀ n, lookA tb n = lookA wl n) (nd : (wl.map (·.1)).Nodup) {a b : Int} {n : Str} (h : lowF tb a b ws = some n) {run : List Str} (hr : IsPath ws n run) :
    (run.length : Int) ∈ lowD (depW ws) a b wl ∧ ∀ d ∈ lowD (depW ws) a b wl, (run.length : Int) ≤ d := by
  unfold lowF at h
  obtain ⟨hn, l1, l2, e, no⟩ := List.find?_eq_some_iff_append.mp h
  have wd : ((depW ws).map (·.1)).Nodup := by rw [depW_names]; exact wo.nd
  have at_ : (ws.map (·.1))[l1.length]? = some n := by rw [e, List.getElem?_append_right (Nat.le_refl _), Nat.sub_self]; rfl
  rw [List.getElem?_map] at at_
  obtain ⟨q, hq, rfl⟩ : ∃ q, ws[l1.length]? = some q ∧ q.1 = n := by
    cases e : ws[l1.length]? with
    | none => rw [e] at at_; cases at_
    | some q => rw [e] at at_; exact ⟨q, rfl, Option.some.inj at_⟩
  have dq := wo.dep _ q hq run hr
  obtain ⟨z, hz, ez, cz⟩ := (lowE_iff lk nd).mp hn
  have lq : lookA (depW ws) q.1 = some (run.length : Int) := lookA_nodup wd (getMem dq)
  refine ⟨lowD_mem.mpr ⟨z, hz, by rw [ez]; exact lq, cz⟩, fun d hd => ?_⟩
  obtain ⟨u, hu9, eu, cu⟩ := lowD_mem.mp hd
  have mu := lookA_mem eu
  obtain ⟨i, hi⟩ := List.getElem?_of_mem mu
  have li := getLt hi
  have lj := getLt dq
  rcases Nat.lt_trichotomy i l1.length with c | c | c
  · have e3 : (ws.map (·.1))[i]? = some u.1 := by
      rw [← depW_names, List.getElem?_map, hi]
      rfl
    rw [e, List.getElem?_append_left c] at e3
    have := no _ (getMem e3)
    rw [(lowE_iff lk nd).mpr ⟨u, hu9, rfl, cu⟩] at this
    cases this
  · rw [c, dq] at hi
    exact Int.le_of_eq (congrArg Prod.snd (Option.some.inj hi))
  · have := List.pairwise_iff_getElem.mp du.up l1.length i lj li c
    rw [List.getElem?_eq_getElem lj] at dq
    rw [List.getElem?_eq_getElem li] at hi
    rw [Option.some.inj dq, Option.some.inj hi] at this
    exact this
section
variable {P : Program} [SupX.PX P] {w : World} {K : PySem.W.Frag} {mg : Str → Option Value} {base : Heap}
/-- what the law asks with: work and wish, and its own tables beside them -/
structure AskArg {K : PySem.W.Frag} {mg : Str → Option Value} (P : Program) (w : World) (T : Tx K mg) (H : Hp) (x y d wd lv b : Addr) (start : Str) (sts tbl : List (Str × Stand)) (tb wl : List (Str × Int)) (fa fb : Int) (kv kw : List (Key × V)) (bk : List (Str × List Str)) : Prop where
  ar : BkArg P w T H x y lv (.ref b) start tbl tb fa fb (.dict (bkD bk))
  rd : rD (rStand K) H (.ref d) sts
  ewd : H wd = some (.dK kw)
  kwk : KVs rI H kw wl
  eb : H b = some (.dK kv)
  kvk : KVs rTS H kv bk
  bw : BookW sts bk
  bt : BookW tbl bk
  CS : Closed sts
  t : Tbl sts tbl
  st : start ∈ sts.map (·.1)
  len : sts.length ≤ 100
  wnd : (wl.map (·.1)).Nodup
  wlen : wl.length ≤ 100
  wlk : ∀ n, lookA tb n = lookA wl n
  wend : ∀ n ∈ wl.map (·.1), lookA sts n = some .fin
  wbd : ∀ q ∈ wl, -99 ≤ q.2 ∧ q.2 ≤ 99
def sp_law_asked (P : Program) (w : World) (T : Tx K mg) : Sp := fun vs H Q _ => ∃ (x y d wd lv b : Addr) (start : Str) (sts tbl : List (Str × Stand)) (tb wl : List (Str × Int)) (fa fb : Int) (kv kw : List (Key × V)) (bk : List (Str × List Str)), vs = [.ref x, .ref y, .ref d, .ref wd, .ref lv, .ref b, .str start] ∧
  AskArg P w T H x y d wd lv b start sts tbl tb wl fa fb kv kw bk ∧ ∀ H', SX [] H H' → Q (.bl true) H'
theorem ok_law_asked (T : Tx K mg) : FnOk P w K mg base CX0 8 T.law_asked.f T.law_asked.fd P_law_asked (sp_law_asked P w T) := by
  refine T.law_asked.F.ok sc_law_asked (fun vs H Q E h => ?_) (fun cdv A outer s H vs Q E hr h => ?_)
  · obtain ⟨x, y, d, wd, lv, b, start, sts, tbl, tb, wl, fa, fb, kv, kw, bk, rfl, ⟨ar, rd, ewd, kwk, eb, kvk, bw, bt, CS, t, st, len, wnd, wlen, wlk, wend, wbd⟩, k⟩ := h
    rfl
  have hu := hu_of hr
  have nd := sc_law_asked.nd
  obtain ⟨x, y, d, wd, lv, b, start, sts, tbl, tb, wl, fa, fb, kv, kw, bk, rfl, ⟨ar, rd, ewd, kwk, eb, kvk, bw, bt, CS, t, st, len, wnd, wlen, wlk, wend, wbd⟩, k⟩ := h
  refine ⟨_, (pss_cons (ps_set (i := 7) nd rfl (Or.inr rfl) (pe_call (ok_law_reached (P := P) (w := w) T) (hr.mono (by decide)) (by rfl) T.law_reached.g T.law_reached.F.kp T.law_reached.B .nil pass0 (pa_cons (pv 2) (pa_cons (pv 5) (pa_cons (pv 6) pa_nil)))))
      (pss_cons (ps_lockR (ps_setLc (i := 8) (own := [("end", 9)]) rfl nd rfl rfl (sw_true rfl rfl rfl (by decide +kernel)) (pi_keys (pv 3)) (blkOk_by (own := [("end", 9)]) (N := N_law_asked) (sc := defScope s_law_asked) (by decide +kernel)) (fun _ _ _ _ _ => (pg_name (i := 9) nd rfl (Or.inl rfl))) (fun _ _ _ _ _ => pts_one (PW.pt (pw_and (pt_cmp (pc_din hu (pv 9) (pv 7))) (pw_and1 (pt_cmpR op_lt (pe_op op_mul (pe_dget hu (pv 3) (pv 9) (fun _ _ => rfl)) (pe_ix (w_ixT (K := K) rfl) (pv 4) pe_int (fun _ _ => rfl))) (pe_ix (w_ixT (K := K) rfl) (pv 4) pe_int (fun _ _ => rfl)) (nomark _)))))) (fun _ _ _ _ _ => (pe_dget hu (pv 7) (pv 9) (fun _ _ => rfl)))))
      (pss_cons (ps_if (pt_not (pt_val (pe_call (ok_law_same (P := P) (w := w) T) (hr.mono (by decide)) (by rfl) T.law_same.g T.law_same.F.kp T.law_same.B .nil pass0 (pa_cons (pe_call (ok_keeps (P := P) (w := w) T) (hr.mono (by decide)) (by rfl) T.keeps.g T.keeps.F.kp T.keeps.B .nil passL (pa_cons (pv 0) (pa_cons (pv 1) (pa_cons (pv 4) (pa_cons (pv 5) pa_nil))))) (pa_cons (pe_cmpR op_eq (pe_callB (w_len (K := K) rfl) (by rfl) T.b_len (by decide +kernel) (pa_cons (pv 8) pa_nil)) pe_int (nomark _)) pa_nil))))) (pss_one (ps_ret pe_bl)) pss_nil)
      (pss_cons (ps_set (i := 10) nd rfl (Or.inl rfl) (pe_call (ok_breaking (P := P) (w := w) T) (hr.mono (by decide)) (by rfl) T.breaking.g T.breaking.F.kp T.breaking.B .nil passL (pa_cons (pv 0) (pa_cons (pv 1) (pa_cons (pv 4) (pa_cons (pv 5) pa_nil))))))
      (pss_cons (ps_set (i := 11) nd rfl (Or.inl rfl) (pe_call (ok_kept_stands (P := P) (w := w) T) (hr.mono (by decide)) (by rfl) T.kept_stands.g T.kept_stands.F.kp T.kept_stands.B .nil passL (pa_cons (pv 0) (pa_cons (pv 1) (pa_cons (pv 4) (pa_cons (pv 5) pa_nil))))))
      (pss_cons (ps_if (pt_cmpR op_eq (pe_callB (w_len (K := K) rfl) (by rfl) T.b_len (by decide +kernel) (pa_cons (pv 8) pa_nil)) pe_int (nomark _)) (pss_one (ps_ret (pe_and (pe_cmpR op_isNo (pv 10) pe_non (nomark _)) (pe_and (pe_callB (w_isi (K := K) rfl) (by rfl) T.b_isinstance (by decide +kernel) (pa_cons (pv 11) (pa_cons (pe_bltn (v := .ty "list") (by rfl) T.b_list (by decide +kernel) rfl) pa_nil))) (pe_one (pe_cmpR (w_eqD (K := K) rfl hr.units) (pv 11) (pe_callB (cl_sortD rfl) (by rfl) T.b_sorted (by decide +kernel) (pa_cons (pv 7) pa_nil)) (nomark _))))))) pss_nil)
      (pss_one (ps_ret (pe_and (pe_cmpR op_isNo (pv 11) pe_non (nomark _)) (pe_one (pe_call (ok_law_breaks (P := P) (w := w) T) (hr.mono (by decide)) (by rfl) T.law_breaks.g T.law_breaks.F.kp T.law_breaks.B .nil pass0 (pa_cons (pv 2) (pa_cons (pv 3) (pa_cons (pv 4) (pa_cons (pv 5) (pa_cons (pv 6) (pa_cons (pv 10) (pa_cons (pe_callB (w_min (K := K) rfl rfl) (by rfl) T.b_min (by decide +kernel) (pa_cons (pv 8) pa_nil)) pa_nil)))))))))))))))))), ?_⟩
  refine x_start (σ' := [some _, some _, some _, some _, some _, some _, some _, none, none, none, none, none]) rfl ?_
  try simp only [cx_n, cx_K, cx_w, cx_P]
  have ndS : ∀ q ∈ sts, q.2.nd := fun q hq => (CS.all q hq).1
  have eW : waysW tbl bk start = waysW sts bk start := waysW_tbl t ndS
  walk_at "rd"
  refine ⟨d, b, start, sts, kv, bk, rfl, rd, eb, kvk, bw, CS, st, len, fun q H1 kd hq s1 eq kdk => ?_⟩
  have to := ar.to
  have dup := ar.hlv
  generalize hW : waysW sts bk start = ws at kdk
  have s1 := s1
  have ewd1 := s1 _ _ List.not_mem_nil ewd
  have keyE : kd.map (·.1) = (ws.map (·.1)).map Sum.inr := by rw [kdk.keys, depW_names]
  have nqw : wd ≠ q := ne_of_none ewd hq
  walk_at "rd"
  refine x_lockR (.inl ewd1) fun od HL eL ne => ?_
  have leL : Le H1 HL := lock_le (.inl ewd1) eL ne
  have eqL : HL q = some (.dK kd) := by rw [ne _ (Ne.symm nqw)]; exact eq
  have hlvL := leL.t (s1.le0.t ar.hlv)
  walk_at "rd"
  refine ⟨wd, od, rfl, .inl ⟨kw, eL, fun D hD => ?_⟩⟩
  have hDd : wd ≠ D := ne_of_none eL hD
  have hD1 : H1 D = none := by rw [← ne D (Ne.symm hDd)]; exact hD
  refine lc_it (walk_keysR kwk) (fun n A => SX [] HL A ∧ A D = some (.lst ((lowD (depW ws) fa fb (wl.take n)).map V.int))) ⟨SX.new hD, upd_same⟩ (fun _ _ _ h => h.1 _ _ List.not_mem_nil eL) ?_ ?_
  · rintro n z0 A0 A hn ⟨sA, dA⟩ ⟨rfl, z, _, hz, rfl, _⟩
    obtain ⟨v9, ev, rfl⟩ := kwk.at_ (lookA_nodup wnd (show (z.1, z.2) ∈ wl from getMem hz))
    have bd := wbd z (getMem hz)
    have snoc : lowD (depW ws) fa fb (wl.take (n + 1)) = lowD (depW ws) fa fb (wl.take n) ++ lowD (depW ws) fa fb [z] := by
      rw [take_succ_of hz]
      unfold lowD
      rw [List.filterMap_append]
    have ll : (lowD (depW ws) fa fb (wl.take n)).length ≤ 100 := by
      refine Nat.le_trans (List.length_filterMap_le _ _) ?_
      rw [List.length_take]
      omega
    walk_at "rd"
    refine ⟨rfl, ?_⟩
    walk_at "rd"
    refine x_din' (.inl (sA _ _ List.not_mem_nil eqL)) ?_
    rw [keys_val keyE]
    walk_at "rd"
    refine x_cases (fun c1 => ?_) (fun c1 => ?_)
    · have c1 : z.1 ∈ (depW ws).map (·.1) := by rw [depW_names]; simpa using c1
      obtain ⟨dz, edz⟩ := lookA_some c1
      obtain ⟨vd, evd, rfl⟩ := kdk.at_ edz
      walk_at "rd"
      refine x_dg' (.inr ⟨od, sA _ _ List.not_mem_nil eL⟩) ev ?_
      walk_at "rd"
      refine x_ixT (sA.le0.t hlvL) (v := .int fb) (atI_nat (j := 1) rfl) ?_
      refine x_I (.inl ⟨by omega, by omega⟩) ?_
      walk_at "rd"
      refine x_ixT (sA.le0.t hlvL) (v := .int fa) (atI_nat (j := 0) rfl) ?_
      walk_at "rd"
      refine x_cases (fun c2 => ?_) (fun c2 => ?_)
      · have c2 := of_decide_eq_true c2
        walk_at "rd"
        refine x_dg' (.inl (sA _ _ List.not_mem_nil eqL)) evd ?_
        refine ⟨_, dA, lt_size (by rw [List.length_map]; omega), sx_nil_of (S := [D]) ((nil_sx sA).trans (SX.mut List.mem_cons_self)) (by simp [hD]), ?_⟩
        rw [upd_same, snoc, List.map_append]
        rw [lowD_yes edz c2]
        rfl
      · have c2 := of_decide_eq_false c2
        refine ⟨sA, ?_⟩
        rw [dA, snoc, lowD_no edz c2, List.append_nil]
    · have c1 : z.1 ∉ (depW ws).map (·.1) := by rw [depW_names]; simpa using c1
      refine ⟨sA, ?_⟩
      rw [dA, snoc, lowD_out (lookA_none c1), List.append_nil]
  rintro A ⟨sA, dA⟩
  rw [List.take_length] at dA
  refine ⟨sA _ _ List.not_mem_nil eL, ?_⟩
  have sB : SX [] H1 (put A wd (H1 wd)) := unlock_sx ne sA
  have dB : (put A wd (H1 wd)) D = some (.lst ((lowD (depW ws) fa fb wl).map V.int)) := by rw [put_ne (Ne.symm hDd)]; exact dA
  generalize put A wd (H1 wd) = B at sB dB
  clear sA dA eqL hlvL leL hD eL ne
  have s1B := s1.trans sB
  have eqB := sB _ _ List.not_mem_nil eq
  have llw : (lowD (depW ws) fa fb wl).length ≤ 100 := Nat.le_trans (List.length_filterMap_le _ _) wlen
  have arX : ∀ {C : Hp}, SX [] B C → BkArg P w T C x y lv (.ref b) start tbl tb fa fb (.dict (bkD bk)) := fun s => BkArg.nil (s1B.trans s) ar
  have rdX : ∀ {C : Hp}, SX [] B C → rD (rStand K) C (.ref d) sts := fun s => mono_D (mono_stand K) _ _ _ _ (s1B.trans s).le0 rd
  have ml : ∀ bk w, WOk sts bk start w → w.length ≤ sts.length := fun bk w h => h.lenC CS st
  have isb : isBk tbl (.dict (bkD bk)) := ⟨_, rfl, bookD_of bt⟩
  have iff9 := lowD_nil (ws := ws) wlk wnd (a := fa) (b := fb)
  walk_at "rd"
  refine ⟨x, y, lv, .ref b, start, tbl, tb, fa, fb, _, rfl, arX (SX.refl _), fun n => absurd isb n, fun bk' ed bw' H2 s2 => ?_⟩
  obtain rfl : bk = bk' := bkD_inj (PyData.dict.inj ed)
  rw [eW, hW]
  walk_at "rd"
  refine x_lenL' (sqL (s2 _ _ List.not_mem_nil dB)) ?_
  walk_at "rd"
  rw [List.length_map]
  have eb9 : (lowF tb fa fb ws).isNone = decide (V.int ((lowD (depW ws) fa fb wl).length : Int) = V.int 0) := by
    cases e : lowF tb fa fb ws with
    | none => rw [iff9.mpr e]; exact (decide_eq_true rfl).symm
    | some n =>
      have : (lowD (depW ws) fa fb wl).length ≠ 0 := fun z => by
        rw [iff9.mp (List.eq_nil_of_length_eq_zero z)] at e
        cases e
      exact (decide_eq_false (fun z => this (by have := V.int.inj z; omega))).symm
  refine ⟨_, _, rfl, true, by rw [eb9, beq_self_eq_true], ?_⟩
  walk_at "rd"
  have sm : ∀ s ∈ canonS (ws.map (·.1)), PyData.strOk s = true := fun s hs => by
    have h1 := (perm_canon _).mem_iff.mp hs
    rw [← hW] at h1
    exact nameB_strOk (to.nm s (t.perm.mem_iff.mpr ((waysW_done (ml bk)).1.keyC CS st s h1)))
  refine ⟨x, y, lv, .ref b, start, tbl, tb, fa, fb, _, rfl, arX s2, fun n => absurd isb n, fun bk' ed bw' wo du => ?_⟩
  obtain rfl : bk = bk' := bkD_inj (PyData.dict.inj ed)
  rw [eW, hW] at wo du ⊢
  cases e : lowF tb fa fb ws with
  | none =>
    have en := iff9.mpr e
    refine ⟨fun _ H3 s3 => ?_, fun n run h => nomatch h⟩
    walk_at "rd"
    refine ⟨x, y, lv, .ref b, start, tbl, tb, fa, fb, _, rfl, arX (s2.trans s3), fun n => absurd isb n, fun bk' ed bw' => ?_⟩
    obtain rfl : bk = bk' := bkD_inj (PyData.dict.inj ed)
    rw [eW, hW, e]
    refine ⟨fun h => absurd rfl h, fun _ p5 H4 hp5 s4 e5 => ?_⟩
    walk_at "rd"
    have s24 := s2.trans (s3.trans s4)
    refine x_lenL' (sqL (s24 _ _ List.not_mem_nil dB)) ?_
    walk_at "rd"
    rw [en]
    refine x_true (decide_eq_true rfl) ?_
    walk_at "rd"
    rw [if_pos (decide_eq_true rfl)]
    walk_at "rd"
    refine x_isi (DpD.lst e5 (DpDs.strs _) : DpD H4 (.ref p5) (.list ((canonS (ws.map (·.1))).map PyData.str))).ty (kit_lst _) ?_
    walk_at "rd"
    refine x_sortD (.inl ((sB.trans s24) _ _ List.not_mem_nil eq)) keyE fun ys p6 hp hs np => ?_
    obtain rfl := canon_of hp hs
    refine x_eqLs (SX.new np _ _ List.not_mem_nil e5) upd_same sm sm ?_
    rw [decide_eq_true rfl]
    exact k _ (s1B.trans (s24.trans (SX.new np)))
  | some n =>
    refine ⟨(fun h => nomatch h), fun n' run h hr p5 H3 hp5 s3 e5 => ?_⟩
    cases h
    obtain ⟨m1, m2⟩ := lowD_min wo du wlk wnd e hr
    walk_at "rd"
    refine ⟨x, y, lv, .ref b, start, tbl, tb, fa, fb, _, rfl, arX (s2.trans s3), fun n => absurd isb n, fun bk' ed bw' => ?_⟩
    obtain rfl : bk = bk' := bkD_inj (PyData.dict.inj ed)
    rw [eW, hW, e]
    refine ⟨fun _ H4 s4 => ?_, fun h => nomatch h⟩
    walk_at "rd"
    have s24 := s2.trans (s3.trans s4)
    refine x_lenL' (sqL (s24 _ _ List.not_mem_nil dB)) ?_
    walk_at "rd"
    have lne : lowD (depW ws) fa fb wl ≠ [] := fun z => by rw [z] at m1; cases m1
    refine x_false (decide_eq_false fun z => lne (by
      have z := V.int.inj z
      rw [List.length_map] at z
      exact List.eq_nil_of_length_eq_zero (by omega))) ?_
    walk_at "rd"
    have dC := s24 _ _ List.not_mem_nil dB
    rw [if_pos (decide_eq_true rfl)]
    walk_at "rd"
    refine ⟨D, _, rfl, sqL dC, List.length_pos_iff.mpr lne, fun m hm1 hm2 => ?_⟩
    obtain rfl : m = (run.length : Int) := Int.le_antisymm (hm2 _ m1) (m2 _ hm1)
    have wo9 := (waysW_done (ml bk)).1
    rw [hW] at wo9
    obtain ⟨R, eat, oks⟩ := wo9.goes hr
    obtain ⟨z, hz, rfl, cz⟩ := (lowE_iff wlk wnd).mp (List.find?_some e)
    obtain ⟨b0, b1⟩ := wbd z hz
    have lz : lookA wl z.1 = some z.2 := lookA_nodup wnd (show (z.1, z.2) ∈ wl from hz)
    walk_at "rd"
    have s14 := s1B.trans s24
    exact ⟨d, wd, lv, b, p5, start, sts, kw, kv, wl, bk, fa, fb, z.2, run, rfl, rdX s24, s14 _ _ List.not_mem_nil ewd, KVs.le mono_I s14.le0 kwk, s14.le0.t ar.hlv, s14 _ _ List.not_mem_nil eb, KVs.le mono_TS s14.le0 kvk, s4 _ _ List.not_mem_nil e5, R, oks, by rw [eat]; exact wend _ (List.mem_map.mpr ⟨z, hz, rfl⟩), by rw [eat]; exact lz, cz, b0, b1, fun H9 s9 => k _ (s14.trans s9)⟩
end
end M

namespace M
open PySem PySem.Spec PyProof.Rows L2 ReR
section
variable {P : Program} [SupX.PX P] {w : World} {K : PySem.W.Frag} {mg : Str → Option Value} {base : Heap}
theorem AskArg.nil {T : Tx K mg} {A B : Hp} {x y d wd lv b : Addr} {start : Str} {sts tbl : List (Str × Stand)} {tb wl : List (Str × Int)} {fa fb : Int} {kv kw : List (Key × V)} {bk : List (Str × List Str)} (s : SX [] A B) (h : AskArg P w T A x y d wd lv b start sts tbl tb wl fa fb kv kw bk) : AskArg P w T B x y d wd lv b start sts tbl tb wl fa fb kv kw bk := by
  obtain ⟨ar, rd, ewd, kwk, eb, kvk, bw, bt, CS, t, st, len, wnd, wlen, wlk, wend, wbd⟩ := h
  exact ⟨BkArg.nil s ar, mono_D (mono_stand K) _ _ _ _ s.le0 rd, s _ _ List.not_mem_nil ewd, KVs.le mono_I s.le0 kwk, s _ _ List.not_mem_nil eb, KVs.le mono_TS s.le0 kvk, bw, bt, CS, t, st, len, wnd, wlen, wlk, wend, wbd⟩
theorem BkArg.none {T : Tx K mg} {H : Hp} {x y lv : Addr} {v : V} {start : Str} {tbl : List (Str × Stand)} {tb : List (Str × Int)} {a b : Int} {d : PyData} (h : BkArg P w T H x y lv v start tbl tb a b d) {e : Addr} (he : H e = some (.dK [])) : BkArg P w T H x y lv (.ref e) start tbl tb a b (.dict (bkD [])) := by
  obtain ⟨wa, wi, hlv, to, tw, fr, o, tg, nd9⟩ := h
  exact ⟨wa, wi, hlv, to, tw, fr, some (liftK []), .dic (.inr ⟨[], .inl he, rfl⟩) .nil, fun kvs e => by cases e; exact List.nodup_nil⟩
def sp_law_known_breach (P : Program) (w : World) (T : Tx K mg) : Sp := fun vs H Q _ => ∃ (x y d wd lv b : Addr) (start : Str) (sts tbl : List (Str × Stand)) (tb wl : List (Str × Int)) (fa fb : Int) (kv kw : List (Key × V)) (bk : List (Str × List Str)), vs = [.ref x, .ref y, .ref d, .ref lv, .ref b] ∧
  AskArg P w T H x y d wd lv b start sts tbl tb wl fa fb kv kw bk ∧ ∀ H', SX [] H H' → Q (.bl true) H'
theorem ok_law_known_breach (T : Tx K mg) : FnOk P w K mg base CX0 7 T.law_known_breach.f T.law_known_breach.fd P_law_known_breach (sp_law_known_breach P w T) := by
  refine T.law_known_breach.F.ok sc_law_known_breach (fun vs H Q E h => ?_) (fun cdv A outer s H vs Q E hr h => ?_)
  · obtain ⟨x, y, d, wd, lv, b, start, sts, tbl, tb, wl, fa, fb, kv, kw, bk, rfl, aa, k⟩ := h
    rfl
  have hu := hu_of hr
  have nd := sc_law_known_breach.nd
  obtain ⟨x, y, d, wd, lv, b, start, sts, tbl, tb, wl, fa, fb, kv, kw, bk, rfl, aa, k⟩ := h
  refine ⟨_, (pss_cons (ps_set (i := 5) nd rfl (Or.inl rfl) (pe_call (ok_breaking (P := P) (w := w) T) (hr.mono (by decide)) (by rfl) T.breaking.g T.breaking.F.kp T.breaking.B .nil passL (pa_cons (pv 0) (pa_cons (pv 1) (pa_cons (pv 3) (pa_cons pe_dnewK pa_nil))))))
      (pss_cons (ps_if (PW.pt (pw_or (pt_cmpR op_isNo (pv 5) pe_non (nomark _)) (pw_or1 (pt_not (pt_val (pe_call (ok_keeps (P := P) (w := w) T) (hr.mono (by decide)) (by rfl) T.keeps.g T.keeps.F.kp T.keeps.B .nil passL (pa_cons (pv 0) (pa_cons (pv 1) (pa_cons (pv 3) (pa_cons (pv 4) pa_nil)))))))))) (pss_one (ps_ret pe_bl)) pss_nil)
      (pss_cons (ps_set (i := 6) nd rfl (Or.inl rfl) (pe_call (ok_first_breach (P := P) (w := w) T) (hr.mono (by decide)) (by rfl) T.first_breach.g T.first_breach.F.kp T.first_breach.B .nil passL (pa_cons (pv 0) (pa_cons (pv 4) (pa_cons (pv 5) pa_nil)))))
      (pss_cons (ps_if (PW.pt (pw_or (pt_not (pt_val (pe_callB (w_isi (K := K) rfl) (by rfl) T.b_isinstance (by decide +kernel) (pa_cons (pv 6) (pa_cons (pe_bltn (v := .ty "tuple") (by rfl) T.b_tuple (by decide +kernel) rfl) pa_nil))))) (pw_or1 (pt_cmpR op_ne (pe_callB (w_len (K := K) rfl) (by rfl) T.b_len (by decide +kernel) (pa_cons (pv 6) pa_nil)) pe_int (nomark _))))) (pss_one (ps_ret pe_bl)) pss_nil)
      (pss_cons (ps_set (i := 7) nd rfl (Or.inl rfl) (w_fld (K := K) rfl (pv 0) rfl))
      (pss_cons (ps_for PassesOwn.never rfl (w_pilist (K := K) rfl (pe_slice (w_slL (K := K) rfl) (pv 5) po_none (po_some (pe_ix (w_ixT (K := K) rfl) (pv 6) pe_int (fun _ _ => rfl))))) (pg_name (i := 8) nd rfl (Or.inl rfl)) (pss_cons (ps_if (pt_cmpR (w_nin (K := K) rfl) (pv 8) (pe_call (ok_law_let (P := P) (w := w) T) (hr.mono (by decide)) (by rfl) T.law_let.g T.law_let.F.kp T.law_let.B .nil pass0 (pa_cons (pv 2) (pa_cons (pv 4) (pa_cons (pv 7) pa_nil)))) (by rfl)) (pss_one (ps_ret pe_bl)) pss_nil)
      (pss_one (ps_set (i := 7) nd rfl (Or.inl rfl) (pe_call (ok_law_to (P := P) (w := w) T) (hr.mono (by decide)) (by rfl) T.law_to.g T.law_to.F.kp T.law_to.B .nil pass0 (pa_cons (pv 2) (pa_cons (pv 7) (pa_cons (pv 8) pa_nil))))))))
      (pss_one (ps_ret (pe_and (pe_cmpR (w_nin (K := K) rfl) (pe_ix (w_ixL (K := K) rfl) (pv 5) (pe_ix (w_ixT (K := K) rfl) (pv 6) pe_int (fun _ _ => rfl)) (fun _ _ => rfl)) (pe_call (ok_law_let (P := P) (w := w) T) (hr.mono (by decide)) (by rfl) T.law_let.g T.law_let.F.kp T.law_let.B .nil pass0 (pa_cons (pv 2) (pa_cons (pv 4) (pa_cons (pv 7) pa_nil)))) (by rfl)) (pe_one (pe_cmpR (w_eqD (K := K) rfl hr.units) (pe_call (ok_law_mover (P := P) (w := w) T) (hr.mono (by decide)) (by rfl) T.law_mover.g T.law_mover.F.kp T.law_mover.B .nil pass0 (pa_cons (pv 2) (pa_cons (pv 7) pa_nil))) (pe_ix (w_ixT (K := K) rfl) (pv 6) pe_int (fun _ _ => rfl)) (nomark _)))))))))))), ?_⟩
  refine x_start (σ' := [some _, some _, some _, some _, some _, none, none, none, none]) rfl ?_
  try simp only [cx_n, cx_K, cx_w, cx_P]
  obtain ⟨ar, rd, ewd, kwk, eb, kvk, bw, bt, CS, t, st, len, wnd, wlen, wlk, wend, wbd⟩ := id aa
  have ndS : ∀ q ∈ sts, q.2.nd := fun q hq => (CS.all q hq).1
  have eW : ∀ bk, waysW tbl bk start = waysW sts bk start := fun bk => waysW_tbl t ndS
  have ml : ∀ bk w, WOk sts bk start w → w.length ≤ sts.length := fun bk w h => h.lenC CS st
  walk_at "rd"
  intro e he
  have s1 : SX [] H (upd H e (.dK [])) := SX.new he
  have e1 : (upd H e (.dK [])) e = some (.dK []) := upd_same
  generalize upd H e (.dK []) = H1 at s1 e1
  walk_at "rd"
  have ar1 := (BkArg.nil s1 ar).none e1
  refine ⟨x, y, lv, .ref e, start, tbl, tb, fa, fb, _, rfl, ar1, fun n => absurd ⟨_, rfl, fun q hq => nomatch hq⟩ n, fun bk' ed bw' wo du => ?_⟩
  obtain rfl : [] = bk' := bkD_inj (PyData.dict.inj ed)
  rw [eW] at wo du ⊢
  refine ⟨fun _ H2 s2 => ?_, fun n run h hr p2 H2 hp2 s2 e2 => ?_⟩
  · walk_at "rd"
    refine x_true (decide_eq_true rfl) ?_
    walk_at "rd"
    exact k _ (s1.trans s2)
  walk_at "rd"
  refine x_false (decide_eq_false (fun z => nomatch z)) ?_
  walk_at "rd"
  have s12 := s1.trans s2
  refine ⟨x, y, lv, .ref b, start, tbl, tb, fa, fb, _, rfl, BkArg.nil s12 ar, fun n => absurd ⟨_, rfl, bookD_of bt⟩ n, fun bk' ed bw' H3 s3 => ?_⟩
  obtain rfl : bk = bk' := bkD_inj (PyData.dict.inj ed)
  rw [eW]
  cases ek : lowF tb fa fb (waysW sts bk start) with
  | some m =>
    rw [show (some m).isNone = false from rfl]
    walk_at "rd"
    exact k _ (s12.trans s3)
  | none =>
  rw [show (none : Option Str).isNone = true from rfl]
  walk_at "rd"
  have s13 := s12.trans s3
  have wo0 := (waysW_done (ml [])).1
  obtain ⟨R, eat, _⟩ := wo0.goes hr
  have rl : run.length ≤ 100 := by
    obtain ⟨r', hr', rl'⟩ := wo.has ar.to (n := n) (by
      have := List.mem_of_find?_eq_some h
      exact this)
    rw [IsPath.uniq wo.nd hr hr']
    exact rl'
  have nall : ¬ ∀ i < run.length, okB sts bk start run i = true := fun all => by
    have m := ways_all (ml bk) R all run.length (Nat.le_refl _)
    rw [List.take_length, eat] at m
    have := List.find?_eq_none.mp ek n m
    exact this (List.find?_some h)
  obtain ⟨i, hi, before, no, ebr⟩ := breach_at nall
  have shut : ShutAt tbl start := shut_of t CS st
  have sz : ∀ q ∈ tbl, q.2.size ≤ 4 := fun q hq => (ar.to.all q hq).2.1
  have Rt : RunOk tbl start run := t.run ndS R
  have e3 := s3 _ _ List.not_mem_nil e2
  have ba : BrArg P w T H3 x (.ref b) (.ref p2) start tbl (.dict (bkD bk)) (.list (run.map PyData.str)) := by
    obtain ⟨wa, wi, hlv, to, tw, fr, tg⟩ := BkArg.nil s13 ar
    exact ⟨wa, tg, .lst e3 (DpDs.strs run), fun ds e => by cases e; rw [List.length_map]; omega, shut, sz⟩
  refine ⟨x, .ref b, .ref p2, start, tbl, _, _, rfl, ba, fun n => absurd ⟨_, rfl, bookD_of bt⟩ n, fun bk' ed bw' => ⟨fun i bad => ?_, fun ds run' e9 RD v H4 s4 dv => ?_⟩⟩
  · exact (bad_no (ds := run.map PyData.str) rfl ⟨rfl, Rt⟩ bad).elim
  obtain rfl : bk = bk' := bkD_inj (PyData.dict.inj ed)
  cases e9
  rw [RD.uniq ⟨rfl, Rt⟩, brD_tbl t ndS, ebr] at dv
  obtain ⟨b1, g1⟩ := R i _ (List.getElem?_eq_getElem hi)
  obtain ⟨st0, f0, _⟩ := goS_look g1
  rw [f0] at dv
  obtain ⟨bt9, rfl, e9⟩ : ∃ t, v = .ref t ∧ H4 t = some (.tup [.int (i : Int), moverV st0]) := by
    have dv : DpD H4 v (.tuple [.int (i : Int), mvDt st0]) := dv
    cases dv with
    | tup h1 h2 =>
      cases h2 with
      | cons a1 h3 =>
        cases h3 with
        | cons a2 h4 =>
          cases h4
          cases a1
          refine ⟨_, rfl, ?_⟩
          rw [h1]
          cases st0 <;> (cases a2; rfl)
  have s14 := s13.trans s4
  have rd4 := mono_D (mono_stand K) _ _ _ _ s14.le0 rd
  have e4 := s4 _ _ List.not_mem_nil e3
  have eb4 := s14 _ _ List.not_mem_nil eb
  have kvk4 := KVs.le mono_TS s14.le0 kvk
  have wa4 : ∃ hands, WorkAt T H4 x hands start tbl := by
    obtain ⟨hands, wa⟩ := ar.wa
    exact ⟨hands, wa.le s14.le0⟩
  obtain ⟨hands, wa4⟩ := wa4
  obtain ⟨dx, dd, nm, en, hx, _⟩ := id wa4.ex
  walk_at "rd"
  refine x_isi (DpD.tup e9 (.cons (.int _) (.cons (mv_dp st0) .nil)) : DpD H4 (.ref bt9) (.tuple [.int (i : Int), mvDt st0])).ty (kit_tup _) ?_
  walk_at "rd"
  refine x_lenT' (sqT e9) ?_
  walk_at "rd"
  refine x_false (by rfl) ?_
  walk_at "rd"
  refine x_getF hx T.cl_Work T.n_Work_start work_start ?_
  walk_at "rd"
  refine x_ixT (sqT e9) (v := .int (i : Int)) (atI_nat (j := 0) rfl) ?_
  refine ⟨i, rfl, p2, _, rfl, sqL e4, fun z hz => ?_⟩
  rw [show cutV (run.map V.str) none (some (i : Int)) = (run.take i).map V.str from by rw [List.map_take]; exact cut_to' (by rw [List.length_map]; omega)]
  have s5 : SX [] H4 (upd H4 z (.lst ((run.take i).map V.str))) := SX.new hz
  have e5 : (upd H4 z (.lst ((run.take i).map V.str))) z = some (.lst ((run.take i).map V.str)) := upd_same
  generalize upd H4 z (.lst ((run.take i).map V.str)) = H5 at s5 e5
  refine x_itl (sqL e5) ?_
  refine for_it (walk_listR (R := rS) (Hb := H) (paired_S' (run.take i))) (fun j σ A => SX [] H5 A ∧ ∃ c, σ = [some (.ref x), some (.ref y), some (.ref d), some (.ref lv), some (.ref b), some (.ref p2), some (.ref bt9), some (.str (atF sts start (run.take j))), c])
    ⟨SX.refl _, none, rfl⟩ (fun i σ A _ h => sqL (h.1 _ _ List.not_mem_nil e5)) ?_ ?_
  · rintro j z0 σ A0 A hj ⟨sA, c, rfl⟩ ⟨rfl, s, es, rfl⟩
    have hj2 : j < i := by
      have := getLt es
      rw [List.length_take] at this
      omega
    have es2 : run[j]? = some s := by
      rw [List.getElem?_take_of_lt hj2] at es
      exact es
    obtain ⟨b2, g2⟩ := R j s es2
    obtain ⟨st1, f1, lk⟩ := goS_look g2
    have s4A := s5.trans sA
    have rdA := mono_D (mono_stand K) _ _ _ _ s4A.le0 rd4
    walk_at "rd"
    refine ⟨d, b, _, sts, st1, kv, bk, rfl, rdA, s4A _ _ List.not_mem_nil eb4, KVs.le mono_TS s4A.le0 kvk4, f1, fun p B hp sB ep => ?_⟩
    refine ⟨p, _, rfl, .inl (sqL ep), rfl, flat_strs _, ?_⟩
    have o := before j hj2
    unfold okB at o
    rw [f1, List.getD_eq_getElem?_getD, es2] at o
    have m : s ∈ letL bk (atF sts start (run.take j)) st1 := (mem_letL s).mpr (of_decide_eq_true o)
    rw [inV_strD, decide_eq_true m]
    refine ⟨false, rfl, ?_⟩
    walk_at "rd"
    refine ⟨d, _, s, b2, sts, st1, rfl, mono_D (mono_stand K) _ _ _ _ (s4A.trans sB).le0 rd4, f1, lk, ?_⟩
    walk_at "rd"
    exact ⟨sA.trans sB, _, by rw [take_succ_of es2, atF_snoc g2]⟩
  · rintro σ A ⟨sA, c, rfl⟩
    have li : (run.take i).length = i := by rw [List.length_take]; omega
    rw [li]
    have s4A := s5.trans sA
    have rdA := mono_D (mono_stand K) _ _ _ _ s4A.le0 rd4
    walk_at "rd"
    refine x_ixT (sqT (s4A _ _ List.not_mem_nil e9)) (v := .int (i : Int)) (atI_nat (j := 0) rfl) ?_
    refine x_ixL (sqL (s4A _ _ List.not_mem_nil e4)) (v := .str run[i]) (atI_nat (by rw [List.getElem?_map, List.getElem?_eq_getElem hi]; rfl)) ?_
    walk_at "rd"
    refine ⟨d, b, _, sts, st0, kv, bk, rfl, rdA, s4A _ _ List.not_mem_nil eb4, KVs.le mono_TS s4A.le0 kvk4, f0, fun p B hp sB ep => ?_⟩
    refine ⟨p, _, rfl, .inl (sqL ep), rfl, flat_strs _, ?_⟩
    have o := no
    unfold okB at o
    rw [f0, List.getD_eq_getElem?_getD, List.getElem?_eq_getElem hi] at o
    have m : run[i] ∉ letL bk (atF sts start (run.take i)) st0 := fun z => of_decide_eq_false o ((mem_letL _).mp z)
    rw [inV_strD, decide_eq_false m]
    refine ⟨true, rfl, ?_⟩
    rw [if_pos rfl]
    walk_at "rd"
    have sAB := s4A.trans sB
    refine ⟨d, _, sts, st0, rfl, mono_D (mono_stand K) _ _ _ _ sAB.le0 rd4, f0, ?_⟩
    walk_at "rd"
    refine x_ixT (sqT (sAB _ _ List.not_mem_nil e9)) (atI_nat (j := 1) rfl) ?_
    refine x_eqDat (mv_dp st0) (mv_dp st0) ?_ ?_
    · cases st0 with
      | fin => exact (by decide +kernel : SeqAt.shaped PyData.none = true)
      | hand h ms =>
        unfold SeqAt.shaped mvDt
        rw [Bool.and_eq_true]
        exact ⟨by rw [PyData.canLay0], decide_eq_true (by rw [PyData.depth]; decide)⟩
      | chance ds => exact (by decide +kernel : SeqAt.shaped PyData.none = true)
    · exact k _ (s14.trans sAB)
end
end M

namespace M
open PySem PySem.Spec PyProof.Rows L2 ReR
/-- the same stand, its steps in another order -/
def TurnS : Stand → Stand → Prop
  | .fin, .fin => True
  | .hand h ms, .hand h' ms' => h = h' ∧ ms'.Perm ms
  | .chance ds, .chance ds' => ds'.Perm ds
  | _, _ => False
structure TurnT (sts sts' : List (Str × Stand)) : Prop where
  perm : (sts'.map (·.1)).Perm (sts.map (·.1))
  all : ∀ p ∈ sts', ∃ st, lookA sts p.1 = some st ∧ TurnS st p.2
theorem TurnS.srt {a b c : Stand} (h : TurnS a b) (s : SrtStand b c) : SrtStand a c := by
  cases a <;> cases b <;> cases c <;> first | exact h.elim | exact s.elim | trivial | exact ⟨h.1.trans s.1, ⟨s.2.perm.trans h.2, s.2.srt⟩⟩ | exact ⟨(Srt.perm s).trans h, Srt.srt s⟩
theorem TurnS.ok {h : Int} {ns ns' : List Str} {a b : Stand} (sub : ∀ n, n ∈ ns → n ∈ ns') (t : TurnS a b) (o : StandOk h ns a) : StandOk h ns' b := by
  cases a with
  | fin => cases b with
    | fin => trivial
    | _ => exact t.elim
  | hand i ms => cases b with
    | hand i' ms' =>
      obtain ⟨rfl, p⟩ := t
      obtain ⟨o1, o2, o3, o4, o5, o6⟩ := o
      refine ⟨o1, o2, by rw [p.length_eq]; exact o3, by rw [p.length_eq]; exact o4, (p.map _).nodup_iff.mpr o5, fun q hq => ?_⟩
      obtain ⟨q1, q2, q3⟩ := o6 q (p.mem_iff.mp hq)
      exact ⟨q1, q2, sub _ q3⟩
    | _ => exact t.elim
  | chance ds => cases b with
    | chance ds' =>
      have p : ds'.Perm ds := t
      obtain ⟨o3, o4, o5, o6⟩ := o
      refine ⟨by rw [p.length_eq]; exact o3, by rw [p.length_eq]; exact o4, (p.map _).nodup_iff.mpr o5, fun q hq => ?_⟩
      obtain ⟨q1, q2, q3, q4⟩ := o6 q (p.mem_iff.mp hq)
      exact ⟨q1, q2, sub _ q3, q4⟩
    | _ => exact t.elim
theorem TurnT.ok {hands : Int} {start : Str} {sts sts' : List (Str × Stand)} (t : TurnT sts sts') (o : WorkOk hands start sts) : WorkOk hands start sts' := by
  have l := t.perm.length_eq
  rw [List.length_map, List.length_map] at l
  refine ⟨o.h, by rw [l]; exact o.len, t.perm.nodup_iff.mpr o.nd, fun p hp => ?_, t.perm.mem_iff.mpr o.st⟩
  obtain ⟨st, e, ts⟩ := t.all p hp
  obtain ⟨o1, o2⟩ := o.all _ (lookA_mem e)
  exact ⟨o1, ts.ok (fun n hn => t.perm.mem_iff.mpr hn) o2⟩
theorem TurnT.tbl {sts sts' tbl : List (Str × Stand)} (t : TurnT sts sts') (b : Tbl sts' tbl) : Tbl sts tbl := by
  refine ⟨b.srt, b.perm.trans t.perm, fun p hp => ?_⟩
  obtain ⟨st', e', s⟩ := b.all p hp
  obtain ⟨st, e, ts⟩ := t.all _ (lookA_mem e')
  exact ⟨st, e, ts.srt s⟩
theorem putK_last {kvs : List (Key × V)} {l : List Str} {s : Str} (v u : V) (e : kvs.map (·.1) = l.map Sum.inr) (n : s ∉ l) : putK (kvs ++ [(Sum.inr s, v)]) (Sum.inr s) u = kvs ++ [(Sum.inr s, u)] := by
  induction kvs generalizing l with
  | nil => exact putK_cons_pos rfl rfl
  | cons p r ih =>
    cases l with
    | nil => cases e
    | cons a l =>
      rw [List.map_cons, List.map_cons] at e
      injection e with e1 e2
      rw [List.cons_append, putK_cons_neg (by rw [e1]; intro z; exact n (by rw [Sum.inr.inj z]; exact List.mem_cons_self)), ih e2 (fun h => n (List.mem_cons_of_mem _ h))]
      rfl
theorem x_catTT' {K : PySem.W.Frag} {a b : Addr} {xs ys : List V} {H : Hp} {Q : VK} (h1 : SqT K H a xs) (h2 : SqT K H b ys) (l : xs.length + ys.length ≤ sizeLine) (nx : xs ≠ []) (ny : ys ≠ []) (k : ∀ p, H p = none → Q (.ref p) (upd H p (.tup (xs ++ ys)))) : rCatA K (.ref a) (.ref b) H Q := ⟨a, b, xs, ys, rfl, rfl, h1, h2, l, fun z => absurd z nx, fun _ z => absurd z ny, fun _ _ => k⟩
theorem x_slTT {K : PySem.W.Frag} {a : Addr} {xs : List V} (n : Nat) {H : Hp} {Q : VK} (h1 : SqT K H a xs) (l : n < xs.length) (k : ∀ p, H p = none → Q (.ref p) (upd H p (.tup (xs.take n)))) : rSlA K (.ref a) none (some (n : Int)) H Q := by
  refine ⟨a, xs, rfl, h1, fun z => ?_, fun _ p hp => ?_⟩
  · have := z.2
    rw [HT.sIx_nat] at this
    omega
  · have : cutV xs none (some (n : Int)) = xs.take n := cut_toA (n := n)
    rw [this]
    exact k p hp
theorem kvs_impR {α : Type} {R : RR α} {A : Hp} {S : List Addr} : ∀ {kv : List (Key × V)} {l : List (Str × α)}, KVs R (hid S A) kv l → KVs (fun C v a => R (hid S C) v a) A kv l
  | [], [], .nil => .nil
  | _ :: _, _ :: _, .cons h t => .cons h (kvs_impR t)
theorem kvs_backR {α : Type} {R : RR α} {A : Hp} {S : List Addr} : ∀ {kv : List (Key × V)} {l : List (Str × α)}, KVs (fun C v a => R (hid S C) v a) A kv l → KVs R (hid S A) kv l
  | [], [], .nil => .nil
  | _ :: _, _ :: _, .cons h t => .cons h (kvs_backR t)
theorem kvs_putSt {K : PySem.W.Frag} {A B : Hp} (s : SX [] A B) {kv : List (Key × V)} {l : List (Str × Stand)} (h : KVs (rStand K) A kv l) : KVs (rStand K) B kv l := KVs.le (mono_stand K) s.le0 h
section
variable {P : Program} [SupX.PX P] {w : World} {K : PySem.W.Frag} {mg : Str → Option Value} {base : Heap}
def sp_law_turned_stands (T : Tx K mg) : Sp := fun vs H Q _ => ∃ (d : Addr) (sts : List (Str × Stand)), vs = [.ref d] ∧ rD (rStand K) H (.ref d) sts ∧ Closed sts ∧
  ∀ q H' sts', H q = none → SX [] H H' → rD (rStand K) H' (.ref q) sts' → TurnT sts sts' → Q (.ref q) H'
theorem ok_law_turned_stands (T : Tx K mg) : FnOk P w K mg base CX0 2 T.law_turned_stands.f T.law_turned_stands.fd P_law_turned_stands (sp_law_turned_stands T) := by
  refine T.law_turned_stands.F.ok sc_law_turned_stands (fun vs H Q E h => ?_) (fun cdv A outer s H vs Q E hr h => ?_)
  · obtain ⟨d, sts, rfl, hd, CS, k⟩ := h
    rfl
  have hu := hu_of hr
  have nd := sc_law_turned_stands.nd
  obtain ⟨d, sts, rfl, hd, CS, k⟩ := h
  refine ⟨_, (pss_cons (ps_set (i := 1) nd rfl (Or.inl rfl) pe_dnewK)
      (pss_cons (ps_for PassesOwn.never rfl (w_pilist (K := K) rfl (w_revL (K := K) rfl (pe_callTy (cl_listD rfl) (by rfl) T.b_list (by decide +kernel) (pa_cons (pv 0) pa_nil)))) (pg_name (i := 2) nd rfl (Or.inl rfl)) (pss_cons (ps_set (i := 3) nd rfl (Or.inl rfl) (pe_dget hu (pv 0) (pv 2) (fun _ _ => rfl)))
      (pss_cons (ps_dput hu (pv 1) (pv 2) (pv 3) rfl)
      (pss_one (ps_if (pt_cmpR op_ne (pe_ix (w_ixT (K := K) rfl) (pv 3) pe_int (fun _ _ => rfl)) pe_str (nomark _)) (pss_one (ps_dput hu (pv 1) (pv 2) (pe_op (w_catT (K := K) rfl) (pe_slice (w_slT (K := K) rfl) (pv 3) po_none (po_some (pe_op op_sub (pe_callB (w_len (K := K) rfl) (by rfl) T.b_len (by decide +kernel) (pa_cons (pv 3) pa_nil)) pe_int))) (pe_tup (pa_cons (pe_call (ok_law_turned (P := P) (w := w) T) (hr.mono (by decide)) (by rfl) T.law_turned.g T.law_turned.F.kp T.law_turned.B .nil pass0 (pa_cons (pe_ix (w_ixT (K := K) rfl) (pv 3) (pe_op op_sub (pe_callB (w_len (K := K) rfl) (by rfl) T.b_len (by decide +kernel) (pa_cons (pv 3) pa_nil)) pe_int) (fun _ _ => rfl)) pa_nil)) pa_nil))) rfl)) pss_nil)))))
      (pss_one (ps_ret (pv 1))))), ?_⟩
  refine x_start (σ' := [some _, none, none, none]) rfl ?_
  try simp only [cx_n, cx_K, cx_w, cx_P]
  obtain ⟨d', kvs9, ed, hrd, hks⟩ := id hd
  cases ed
  have l1000 := CS.len
  walk_at "rd"
  intro F hF
  have s1 : SX [] H (upd H F (.dK [])) := SX.new hF
  have F1 : (upd H F (.dK [])) F = some (.dK []) := upd_same
  generalize upd H F (.dK []) = H1 at s1 F1
  walk_at "rd"
  refine x_revL ?_
  walk_at "rd"
  refine x_clistD (s1.le0.rd _ _ trivial hrd) fun p1 hp1 => ?_
  have ek : (kvs9.map fun kv => kV kv.1) = (sts.map (·.1)).map V.str := by
    have : (kvs9.map fun kv => kV kv.1) = (kvs9.map (·.1)).map kV := by rw [List.map_map]; rfl
    rw [this, hks.keys, List.map_map]
    rfl
  rw [ek]
  refine ⟨p1, _, rfl, sqL upd_same, fun py np => ?_⟩
  have hpy0 : H1 py = none := by
    by_cases c : py = p1
    · rw [c]; exact hp1
    · rw [upd_ne c] at np
      exact np
  rw [← List.map_reverse]
  generalize hys : (sts.map (·.1)).reverse = ys
  have s2 : SX [] H1 (upd (upd H1 p1 (.lst ((sts.map (·.1)).map V.str))) py (.lst (ys.map V.str))) := (SX.new hp1).trans (SX.new np)
  have y2 : (upd (upd H1 p1 (.lst ((sts.map (·.1)).map V.str))) py (.lst (ys.map V.str))) py = some (.lst (ys.map V.str)) := upd_same
  have F2 := s2 _ _ List.not_mem_nil F1
  have nFy : F ≠ py := ne_of_none F1 hpy0
  generalize upd (upd H1 p1 (.lst ((sts.map (·.1)).map V.str))) py (.lst (ys.map V.str)) = H2 at s2 y2 F2
  have yp : ys.Perm (sts.map (·.1)) := by rw [← hys]; exact List.reverse_perm _
  have ynd : ys.Nodup := yp.nodup_iff.mpr CS.nd
  have ylen : ys.length = sts.length := by rw [yp.length_eq, List.length_map]
  have s12 := s1.trans s2
  refine x_itl (sqL y2) ?_
  refine for_it (walk_listR (R := rS) (Hb := H) (paired_S' ys)) (fun i σ A => ∃ (kv2 : List (Key × V)) (l2 : List (Str × Stand)) (c1 c2 : Option V), SX [] H A ∧ A py = some (.lst (ys.map V.str)) ∧ A F = some (.dK kv2) ∧ KVs (rStand K) (hid [F] A) kv2 l2 ∧ l2.map (·.1) = ys.take i ∧ (∀ q ∈ l2, ∃ st, lookA sts q.1 = some st ∧ TurnS st q.2) ∧ σ = [some (.ref d), some (.ref F), c1, c2])
    ⟨[], [], none, none, s12, y2, F2, .nil, rfl, (fun _ h => nomatch h), rfl⟩ (fun i σ A _ h => by obtain ⟨_, _, _, _, _, h, _⟩ := h; exact sqL h) ?_ ?_
  · rintro i z0 σ A0 A hi ⟨kv2, l2, c1, c2, sA, yA, FA, kA, nA, mA, rfl⟩ ⟨rfl, n, hn, rfl⟩
    obtain ⟨st, est⟩ := lookA_some (yp.mem_iff.mp (getMem hn))
    obtain ⟨v, ev, rv⟩ := hks.at_ est
    have nn : n ∉ l2.map (·.1) := by rw [nA]; exact nodup_take ynd hn
    have kl : kv2.length ≤ 1000 := by
      rw [Paired.length kA]
      have := congrArg List.length nA
      rw [List.length_map, List.length_take] at this
      omega
    have snd := (CS.all _ (lookA_mem est)).1
    have ssz := (CS.all _ (lookA_mem est)).2.1
    walk_at "rd"
    refine x_dg' (sA.le0.rd _ _ trivial hrd) ev ?_
    walk_at "rd"
    refine ⟨F, _, rfl, DPut.k (k := Sum.inr n) FA (lt_size (by omega)), ?_⟩
    have epk := putK_fresh v kA.keys nn
    rw [epk]
    have sB : SX [F] A (upd A F (.dK (kv2 ++ [(Sum.inr n, v)]))) := SX.mut List.mem_cons_self
    have s0B : SX [] H (upd A F (.dK (kv2 ++ [(Sum.inr n, v)]))) := sx_nil_of (S := [F]) ((nil_sx sA).trans sB) (by simp [hF])
    have FB : (upd A F (.dK (kv2 ++ [(Sum.inr n, v)]))) F = some (.dK (kv2 ++ [(Sum.inr n, v)])) := upd_same
    have yB : (upd A F (.dK (kv2 ++ [(Sum.inr n, v)]))) py = some (.lst (ys.map V.str)) := by rw [upd_ne (Ne.symm nFy)]; exact yA
    have lF : Le H (hid [F] A) := le_intoS sA.le0 fun b m => by rw [List.mem_singleton.mp m]; exact hF
    have kB : KVs (rStand K) (hid [F] (upd A F (.dK (kv2 ++ [(Sum.inr n, v)])))) kv2 l2 := KVs.le (mono_stand K) sB.le kA
    have lB : Le H (hid [F] (upd A F (.dK (kv2 ++ [(Sum.inr n, v)])))) := lF.trans sB.le
    have l0B : Le H (upd A F (.dK (kv2 ++ [(Sum.inr n, v)]))) := s0B.le0
    generalize upd A F (.dK (kv2 ++ [(Sum.inr n, v)])) = B at s0B FB yB kB lB l0B
    clear epk sB
    have done : ∀ {C : Hp} {u : V} {st' : Stand} {c1 c2 : Option V}, SX [] H C → C F = some (.dK (kv2 ++ [(Sum.inr n, u)])) → C py = some (.lst (ys.map V.str)) → KVs (rStand K) (hid [F] C) kv2 l2 → rStand K (hid [F] C) u st' → TurnS st st' →
      ∃ (kv2 : List (Key × V)) (l2 : List (Str × Stand)) (c3 c4 : Option V), SX [] H C ∧ C py = some (.lst (ys.map V.str)) ∧ C F = some (.dK kv2) ∧ KVs (rStand K) (hid [F] C) kv2 l2 ∧ l2.map (·.1) = ys.take (i + 1) ∧ (∀ q ∈ l2, ∃ st, lookA sts q.1 = some st ∧ TurnS st q.2) ∧ [some (V.ref d), some (.ref F), c1, c2] = [some (.ref d), some (.ref F), c3, c4] := fun s f y kk ru ts =>
        ⟨_, l2 ++ [(n, _)], _, _, s, y, f, Paired.app kk (.cons ⟨rfl, ru⟩ .nil), by rw [List.map_append, nA, take_succ_of hn]; rfl, fun q hq => by
          rcases List.mem_append.mp hq with h | h
          · exact mA q h
          · rw [List.mem_singleton.mp h]
            exact ⟨st, est, ts⟩, rfl⟩
    have rB := mono_stand K _ _ _ _ lB rv
    have rA0 := mono_stand K _ _ _ _ l0B rv
    cases st with
    | fin =>
      obtain ⟨tp, rfl, htp⟩ := rA0
      walk_at "rd"
      refine x_ixT htp (atI_nat (j := 0) rfl) ?_
      walk_at "rd"
      refine x_false (by decide +kernel) ?_
      walk_at "rd"
      exact done s0B FB yB kB rB trivial
    | hand hh ms =>
      obtain ⟨tp, dd, rfl, htp, ⟨dm, kvm, rfl, hrm, hkm⟩⟩ := rA0
      obtain ⟨tp', dd', e', htp', hdd'⟩ := rv
      walk_at "rd"
      refine x_ixT htp (atI_nat (j := 0) rfl) ?_
      walk_at "rd"
      refine x_true (by decide +kernel) ?_
      walk_at "rd"
      refine x_lenT' htp ?_
      walk_at "rd"
      show rSlA K (V.ref tp) none (some ((2 : Nat) : Int)) _ _
      refine x_slTT 2 htp (by simp) fun t1 ht1 => ?_
      have sC : SX [] B (upd B t1 (.tup [.str "hand", .int hh])) := SX.new ht1
      have fC : (upd B t1 (.tup [.str "hand", .int hh])) t1 = some (.tup [.str "hand", .int hh]) := upd_same
      change tTup _ _ (upd B t1 (.tup [.str "hand", .int hh])) _
      generalize upd B t1 (.tup [.str "hand", .int hh]) = C at sC fC
      have n1F : t1 ≠ F := fun z => by rw [z, FB] at ht1; cases ht1
      walk_at "rd"
      refine x_lenT' (sC.le0.t htp) ?_
      walk_at "rd"
      refine x_ixT (sC.le0.t htp) (v := .ref dm) (atI_nat (j := 2) rfl) ?_
      walk_at "rd"
      refine ⟨Str, rS, dm, kvm, ms, rfl, fun _ _ _ _ _ h => h, sC.le0.rd _ _ trivial hrm, kvs_impJ (fun _ _ _ h => h) hkm, snd, by have : ms.length ≤ 4 := ssz; omega, fun qm D kvt mt hqm sD eD kD pm => ?_⟩
      have s2 := sC.trans sD
      have nqF : qm ≠ F := fun z => by rw [z, sC _ _ List.not_mem_nil FB] at hqm; cases hqm
      walk_at "rd"
      refine ⟨Nat.le_of_ble_eq_true rfl, fun t2 ht2 => ?_⟩
      have s3 : SX [] D (upd D t2 (.tup [.ref qm])) := SX.new ht2
      have f3 : (upd D t2 (.tup [.ref qm])) t2 = some (.tup [.ref qm]) := upd_same
      generalize upd D t2 (.tup [.ref qm]) = E3 at s3 f3
      refine x_catTT' (sqT ((sD.trans s3) _ _ List.not_mem_nil fC)) (sqT f3) (Nat.le_of_ble_eq_true rfl) (by simp) (by simp) fun t3 ht3 => ?_
      have s4 : SX [] E3 (upd E3 t3 (.tup [.str "hand", .int hh, .ref qm])) := SX.new ht3
      have f4 : (upd E3 t3 (.tup [.str "hand", .int hh, .ref qm])) t3 = some (.tup [.str "hand", .int hh, .ref qm]) := upd_same
      change tVar 1 _ (upd E3 t3 (.tup [.str "hand", .int hh, .ref qm])) _
      generalize upd E3 t3 (.tup [.str "hand", .int hh, .ref qm]) = E4 at s4 f4
      have sB4 : SX [] B E4 := s2.trans (s3.trans s4)
      have F4 := sB4 _ _ List.not_mem_nil FB
      walk_at "rd"
      refine ⟨F, _, rfl, DPut.k (k := Sum.inr n) F4 (lt_size (by rw [List.length_append]; show kv2.length + 1 ≤ _; omega)), ?_⟩
      rw [putK_last _ _ kA.keys nn]
      have s5 : SX [F] E4 (upd E4 F (.dK (kv2 ++ [(Sum.inr n, .ref t3)]))) := SX.mut List.mem_cons_self
      have q4 : E4 qm = some (.dK kvt) := (s3.trans s4) _ _ List.not_mem_nil eD
      have n3F : t3 ≠ F := fun z => by rw [z] at f4; rw [f4] at F4; cases F4
      refine done (st' := .hand hh mt) (sx_nil_of (S := [F]) ((nil_sx (s0B.trans sB4)).trans s5) (by simp [hF])) upd_same (by rw [upd_ne (Ne.symm nFy)]; exact sB4 _ _ List.not_mem_nil yB) (KVs.le (mono_stand K) ((nil_sx sB4 : SX [F] B E4).le.trans s5.le) kB) ⟨t3, .ref qm, rfl, sqT (by rw [hid_of (by simpa using n3F), upd_ne n3F]; exact f4), qm, kvt, rfl, .inl (by rw [hid_of (by simpa using nqF), upd_ne nqF]; exact q4), kvs_impJ (fun _ _ _ h => h) kD⟩ ⟨rfl, pm⟩
    | chance ds =>
      obtain ⟨tp, dd, rfl, htp0, ⟨dm, kvm, rfl, hrm0, hkm⟩⟩ := rB
      have htp : SqT K B tp [.str "chance", .ref dm] := le_hid.t htp0
      have hrm : Rd B dm (.dK kvm) := le_hid.rd _ _ trivial hrm0
      walk_at "rd"
      refine x_ixT htp (atI_nat (j := 0) rfl) ?_
      walk_at "rd"
      refine x_true (by decide +kernel) ?_
      walk_at "rd"
      refine x_lenT' htp ?_
      walk_at "rd"
      show rSlA K (V.ref tp) none (some ((1 : Nat) : Int)) _ _
      refine x_slTT 1 htp (by simp) fun t1 ht1 => ?_
      have sC : SX [] B (upd B t1 (.tup [.str "chance"])) := SX.new ht1
      have fC : (upd B t1 (.tup [.str "chance"])) t1 = some (.tup [.str "chance"]) := upd_same
      change tTup _ _ (upd B t1 (.tup [.str "chance"])) _
      generalize upd B t1 (.tup [.str "chance"]) = C at sC fC
      have n1F : t1 ≠ F := fun z => by rw [z, FB] at ht1; cases ht1
      walk_at "rd"
      refine x_lenT' (sC.le0.t htp) ?_
      walk_at "rd"
      refine x_ixT (sC.le0.t htp) (v := .ref dm) (atI_nat (j := 1) rfl) ?_
      walk_at "rd"
      have lFC : Le H (hid [F] C) := lB.trans (nil_sx sC : SX [F] B C).le
      refine ⟨Str × Int, (fun A v a => rP K rS rI (hid [F] A) v a), dm, kvm, ds, rfl, fun A B s v a h => mono_P mono_S mono_I _ _ _ _ (nil_sx s : SX [F] A B).le h, sC.le0.rd _ _ trivial hrm, ?_, snd, by have : ds.length ≤ 4 := ssz; omega, fun qm D kvt mt hqm sD eD kD pm => ?_⟩
      · have : KVs (rP K rS rI) (hid [F] C) kvm ds := KVs.le (mono_P mono_S mono_I) (nil_sx sC : SX [F] B C).le hkm
        exact kvs_impR this
      have s2 := sC.trans sD
      have nqF : qm ≠ F := fun z => by rw [z, sC _ _ List.not_mem_nil FB] at hqm; cases hqm
      walk_at "rd"
      refine ⟨Nat.le_of_ble_eq_true rfl, fun t2 ht2 => ?_⟩
      have s3 : SX [] D (upd D t2 (.tup [.ref qm])) := SX.new ht2
      have f3 : (upd D t2 (.tup [.ref qm])) t2 = some (.tup [.ref qm]) := upd_same
      generalize upd D t2 (.tup [.ref qm]) = E3 at s3 f3
      refine x_catTT' (sqT ((sD.trans s3) _ _ List.not_mem_nil fC)) (sqT f3) (Nat.le_of_ble_eq_true rfl) (by simp) (by simp) fun t3 ht3 => ?_
      have s4 : SX [] E3 (upd E3 t3 (.tup [.str "chance", .ref qm])) := SX.new ht3
      have f4 : (upd E3 t3 (.tup [.str "chance", .ref qm])) t3 = some (.tup [.str "chance", .ref qm]) := upd_same
      change tVar 1 _ (upd E3 t3 (.tup [.str "chance", .ref qm])) _
      generalize upd E3 t3 (.tup [.str "chance", .ref qm]) = E4 at s4 f4
      have sB4 : SX [] B E4 := s2.trans (s3.trans s4)
      have F4 := sB4 _ _ List.not_mem_nil FB
      walk_at "rd"
      refine ⟨F, _, rfl, DPut.k (k := Sum.inr n) F4 (lt_size (by rw [List.length_append]; show kv2.length + 1 ≤ _; omega)), ?_⟩
      rw [putK_last _ _ kA.keys nn]
      have s5 : SX [F] E4 (upd E4 F (.dK (kv2 ++ [(Sum.inr n, .ref t3)]))) := SX.mut List.mem_cons_self
      have q4 : E4 qm = some (.dK kvt) := (s3.trans s4) _ _ List.not_mem_nil eD
      have n3F : t3 ≠ F := fun z => by rw [z] at f4; rw [f4] at F4; cases F4
      refine done (st' := .chance mt) (sx_nil_of (S := [F]) ((nil_sx (s0B.trans sB4)).trans s5) (by simp [hF])) upd_same (by rw [upd_ne (Ne.symm nFy)]; exact sB4 _ _ List.not_mem_nil yB) (KVs.le (mono_stand K) ((nil_sx sB4 : SX [F] B E4).le.trans s5.le) kB) ⟨t3, .ref qm, rfl, sqT (by rw [hid_of (by simpa using n3F), upd_ne n3F]; exact f4), qm, kvt, rfl, .inl (by rw [hid_of (by simpa using nqF), upd_ne nqF]; exact q4), KVs.le (mono_P mono_S mono_I) ((nil_sx (sD.trans (s3.trans s4)) : SX [F] C E4).le.trans s5.le) (kvs_backR kD)⟩ pm
  · rintro σ A ⟨kv2, l2, c1, c2, sA, yA, FA, kA, nA, mA, rfl⟩
    rw [List.take_length] at nA
    walk_at "rd"
    exact k F A l2 hF sA ⟨F, kv2, rfl, .inl FA, KVs.le (mono_stand K) le_hid kA⟩ ⟨by rw [nA]; exact yp, mA⟩
end
end M

namespace M
open PySem PySem.Spec PyProof.Rows L2 ReR
def dueT (b : Bool) : Str := if b = true then "let" else "book"
section
variable {P : Program} [SupX.PX P] {w : World} {K : PySem.W.Frag} {mg : Str → Option Value} {base : Heap}
def sp_law_refused (P : Program) (w : World) (T : Tx K mg) : Sp := fun vs H Q _ => ∃ (c : Int) (x y lv : Addr) (v : V) (start : Str) (tbl : List (Str × Stand)) (tb : List (Str × Int)) (a b : Int) (d : PyData), vs = [.int c, .ref x, .ref y, .ref lv, v] ∧ BkArg P w T H x y lv v start tbl tb a b d ∧ ShutAt tbl start ∧
  ∀ (bb : Bool) H', (bb = true ↔ isBk tbl d) → SX [] H H' → Q (.str (dueT bb)) H'
theorem ok_law_refused (T : Tx K mg) : FnOk P w K mg base CX0 8 T.law_refused.f T.law_refused.fd P_law_refused (sp_law_refused P w T) := by
  refine T.law_refused.F.ok sc_law_refused (fun vs H Q E h => ?_) (fun cdv A outer s H vs Q E hr h => ?_)
  · obtain ⟨c, x, y, lv, v, start, tbl, tb, a, b, d, rfl, ar, shut, k⟩ := h
    rfl
  have hu := hu_of hr
  have nd := sc_law_refused.nd
  obtain ⟨c, x, y, lv, v, start, tbl, tb, a, b, d, rfl, ar, shut, k⟩ := h
  refine ⟨_, (pss_cons (ps_set (i := 5) nd rfl (Or.inl rfl) pe_str)
      (pss_cons (ps_try_mix rfl rfl nd takes0 (fun W pn xe tk0 po0 => (pss_one (ps_if (pt_cmpR op_eq (pv 0) pe_int (nomark _)) (pss_one (ps_expr (pe_callS (ok_keeps (P := P) (w := w) T) (hr.mono (by decide)) (by rfl) T.keeps.g T.keeps.F.kp T.keeps.B (fun τ => passAt tk0 τ) (pa_cons (pv 1) (pa_cons (pv 2) (pa_cons (pv 3) (pa_cons (pv 4) pa_nil))))))) (pss_one (ps_if (pt_cmpR op_eq (pv 0) pe_int (nomark _)) (pss_one (ps_expr (pe_callS (ok_breaking (P := P) (w := w) T) (hr.mono (by decide)) (by rfl) T.breaking.g T.breaking.F.kp T.breaking.B (fun τ => passAt tk0 τ) (pa_cons (pv 1) (pa_cons (pv 2) (pa_cons (pv 3) (pa_cons (pv 4) pa_nil))))))) (pss_one (ps_if (pt_cmpR op_eq (pv 0) pe_int (nomark _)) (pss_one (ps_expr (pe_callS (ok_kept_stands (P := P) (w := w) T) (hr.mono (by decide)) (by rfl) T.kept_stands.g T.kept_stands.F.kp T.kept_stands.B (fun τ => passAt tk0 τ) (pa_cons (pv 1) (pa_cons (pv 2) (pa_cons (pv 3) (pa_cons (pv 4) pa_nil))))))) (pss_one (ps_expr (pe_callS (ok_first_breach (P := P) (w := w) T) (hr.mono (by decide)) (by rfl) T.first_breach.g T.first_breach.F.kp T.first_breach.B (fun τ => passAt tk0 τ) (pa_cons (pv 1) (pa_cons (pv 4) (pa_cons (pe_lst pa_nil) pa_nil)))))))))))))
      (.cons (m := ⟨.ref T.c_BadBook, none, _⟩) ⟨by rfl, by decide, .inl T.g_BadBook⟩ True.intro (fun a ob cv dv pn hz hf => (pss_one (ps_set (i := 5) nd rfl (Or.inl rfl) pe_str))) (.cons (m := ⟨.ref T.c_OwnError, none, _⟩) ⟨by rfl, by decide, .inl T.g_OwnError⟩ True.intro (fun a ob cv dv pn hz hf => (pss_one (ps_set (i := 5) nd rfl (Or.inl rfl) pe_str))) .nil)))
      (pss_one (ps_ret (pv 5))))), ?_⟩
  refine x_start (σ' := [some _, some _, some _, some _, some _, none]) rfl ?_
  try simp only [cx_n, cx_K, cx_w, cx_P]
  have kN : ∀ H', ¬ isBk tbl d → SX [] H H' → Q (.str (dueT false)) H' := fun H' n s => k false H' ⟨(fun z => nomatch z), fun z => absurd z n⟩ s
  have kY : ∀ H', isBk tbl d → SX [] H H' → Q (.str (dueT true)) H' := fun H' n s => k true H' ⟨fun _ => n, fun _ => rfl⟩ s
  have sz : ∀ q ∈ tbl, q.2.size ≤ 4 := fun q hq => (ar.to.all q hq).2.1
  walk_at "rd"
  refine x_cases (fun c0 => ?_) (fun c0 => ?_)
  · walk_at "rd"
    refine x_callS' ?_
    walk_at "rd"
    refine ⟨x, y, lv, v, start, tbl, tb, a, b, d, rfl, ar, fun nb H1 s1 => ?_, fun bk e bw H1 s1 => ?_⟩
    · refine x_tryMix (c := Value.none) T.xp_BadBook_BadBook fun a na => ?_
      show tRet (tVar 5) _ _ _
      walk_at "rd"
      exact kN _ nb s1
    · walk_at "rd"
      exact kY _ ⟨_, e, bookD_of bw⟩ s1
  walk_at "rd"
  refine x_cases (fun c1 => ?_) (fun c1 => ?_)
  · walk_at "rd"
    refine x_callS' ?_
    walk_at "rd"
    refine ⟨x, y, lv, v, start, tbl, tb, a, b, d, rfl, ar, fun nb H1 s1 => ?_, fun bk e bw wo du => ⟨fun _ H1 s1 => ?_, fun n run _ _ p H1 _ s1 _ => ?_⟩⟩
    · refine x_tryMix (c := Value.none) T.xp_BadBook_BadBook fun a na => ?_
      show tRet (tVar 5) _ _ _
      walk_at "rd"
      exact kN _ nb s1
    · walk_at "rd"
      exact kY _ ⟨_, e, bookD_of bw⟩ s1
    · walk_at "rd"
      exact kY _ ⟨_, e, bookD_of bw⟩ s1
  walk_at "rd"
  refine x_cases (fun c2 => ?_) (fun c2 => ?_)
  · walk_at "rd"
    refine x_callS' ?_
    walk_at "rd"
    refine ⟨x, y, lv, v, start, tbl, tb, a, b, d, rfl, ar, fun nb H1 s1 => ?_, fun bk e bw => ⟨fun _ H1 s1 => ?_, fun _ p H1 _ s1 _ => ?_⟩⟩
    · refine x_tryMix (c := Value.none) T.xp_BadBook_BadBook fun a na => ?_
      show tRet (tVar 5) _ _ _
      walk_at "rd"
      exact kN _ nb s1
    · walk_at "rd"
      exact kY _ ⟨_, e, bookD_of bw⟩ s1
    · walk_at "rd"
      exact kY _ ⟨_, e, bookD_of bw⟩ s1
  walk_at "rd"
  refine x_callS' ?_
  walk_at "rd"
  refine ⟨Nat.le_of_ble_eq_true rfl, fun r hr0 => ?_⟩
  have s0 : SX [] H (upd H r (.lst [])) := SX.new hr0
  have f0 : (upd H r (.lst [])) r = some (.lst []) := upd_same
  generalize upd H r (.lst []) = H0 at s0 f0
  have ba : BrArg P w T H0 x v (.ref r) start tbl d (.list []) := by
    obtain ⟨wa, wi, hlv, to, tw, fr, tg⟩ := BkArg.nil s0 ar
    exact ⟨wa, tg, .lst f0 .nil, fun ds e => by cases e; exact Nat.zero_le _, shut, sz⟩
  walk_at "rd"
  have R0 : RunD tbl start [] [] := ⟨rfl, (fun _ _ z => nomatch z)⟩
  refine ⟨x, v, .ref r, start, tbl, d, _, rfl, ba, fun nb H1 s1 => ?_, fun bk e bw => ⟨fun i bad => (bad_no (ds := []) rfl R0 bad).elim, fun ds run e9 RD v H1 s1 dv => ?_⟩⟩
  · refine x_tryMix (c := Value.none) T.xp_BadBook_BadBook fun a na => ?_
    show tRet (tVar 5) _ _ _
    walk_at "rd"
    exact kN _ nb (s0.trans s1)
  · walk_at "rd"
    exact kY _ ⟨_, e, bookD_of bw⟩ (s0.trans s1)
end
end M

namespace M
open PySem PySem.Spec PyProof.Rows L2 ReR
theorem WishOk.perm {l m : List (Str × Int)} {e : Int} (o : WishOk l e) (p : m.Perm l) : WishOk m e :=
  ⟨(p.map _).nodup_iff.mpr o.nd, by rw [p.length_eq]; exact o.len, fun z hz => o.all z (p.mem_iff.mp hz), o.e0, o.e1, o.way.elim (fun h => .inl fun z hz => h z (p.mem_iff.mp hz)) (fun h => .inr fun z hz => h z (p.mem_iff.mp hz))⟩
theorem BookG.perm {sts : List (Str × Stand)} {b c : List (Str × List Str)} (g : BookG sts b) (p : c.Perm b) : BookG sts c :=
  ⟨(p.map _).nodup_iff.mpr g.nd, fun z hz => g.each z (p.mem_iff.mp hz)⟩
theorem BookG.none {sts : List (Str × Stand)} : BookG sts [] := ⟨List.nodup_nil, fun _ h => nomatch h⟩
section
variable {P : Program} [SupX.PX P] {w : World} {K : PySem.W.Frag} {mg : Str → Option Value} {base : Heap}
theorem ask_mk {T : Tx K mg} {B : Hp} {x y d wd lv b : Addr} {hands : Int} {n0 : Str} {sts tbl : List (Str × Stand)} {tb wl : List (Str × Int)} {e : Int} {cm : Bool} {fa fb : Int} {kv kw : List (Key × V)} {bk : List (Str × List Str)} (wa : WorkAt T B x hands n0 tbl) (tbT : Tbl sts tbl) (ok : WorkOk hands n0 sts) (wi : WishAt T B y tb e cm) (srt : Srt wl tb) (wok : WishOk wl e) (perm : (wl.map (·.1)).Perm (endsOf sts)) (hlv : SqT K B lv [.int fa, .int fb]) (fr : FracOk fa fb) (rd : rD (rStand K) B (.ref d) sts) (ewd : B wd = some (.dK kw)) (kwk : KVs rI B kw wl) (eb : B b = some (.dK kv)) (kvk : KVs rTS B kv bk) (bg : BookG sts bk) : AskArg P w T B x y d wd lv b n0 sts tbl tb wl fa fb kv kw bk := by
  have btn : BookD tbl (bkD bk) := (bookD_tbl tbT).mpr bg.d
  have kvn : (kv.map (·.1)).Nodup := by
    rw [kvk.keys]
    exact bg.nd.map _ (fun a b h => by intro z; exact h (Sum.inr.inj z))
  have tw : TwOk tbl tb := ⟨ends_tbl ok tbT perm srt, fun q hq => (wok.all q (srt.perm.mem_iff.mp hq)).2⟩
  refine ⟨⟨⟨hands, wa⟩, ⟨e, cm, wi⟩, hlv, TbOk.of ok tbT, tw, fr, some (liftK kv), .dic (.inr ⟨kv, .inl eb, rfl⟩) (bk_DpP (fun _ _ h => h) kvk), fun kvs e => by cases e; exact (lift_keys (H := B) kvn).nd⟩,
    rd, ewd, kwk, eb, kvk, BookW.of bg.d, BookW.of btn, ok.closed, tbT, ok.st, ok.len.2, wok.nd, wok.len, fun n => perm_look wok.nd srt.perm n, fun n hn => ?_, fun q hq => (wok.all q hq).2⟩
  have := perm.mem_iff.mp hn
  rw [endsOf_eq ok.nd, List.mem_filter] at this
  obtain ⟨h1, h2⟩ := this
  obtain ⟨st, est⟩ := lookA_some h1
  rw [est] at h2 ⊢
  cases st with
  | fin => rfl
  | hand => cases h2
  | chance => cases h2
end
end M

namespace M
open PySem PySem.Spec PyProof.Rows L2 ReR
theorem lowF_look {t1 t2 : List (Str × Int)} (h : ∀ n, lookA t1 n = lookA t2 n) {a b : Int} {w : Ways} : lowF t1 a b w = lowF t2 a b w := by
  have : lowE t1 a b = lowE t2 a b := funext fun n => by
    unfold lowE
    rw [h n]
  unfold lowF
  rw [this]
theorem perm_keys {α : Type} {l m : List (Str × α)} (nm : (m.map (·.1)).Nodup) (h : (l.map (·.1)).Perm (m.map (·.1))) (sub : ∀ q ∈ l, q ∈ m) : l.Perm m := by
  have n2 : (l.map (·.1)).Nodup := h.nodup_iff.mpr nm
  have nd_of : ∀ {l : List (Str × α)}, (l.map (·.1)).Nodup → l.Nodup := fun h => (List.pairwise_map.mp h).imp fun h e => h (by rw [e])
  refine (List.perm_ext_iff_of_nodup (nd_of n2) (nd_of nm)).mpr fun q => ⟨sub q, fun hq => ?_⟩
  have : q.1 ∈ l.map (·.1) := h.mem_iff.mpr (List.mem_map.mpr ⟨q, hq, rfl⟩)
  obtain ⟨q2, h2, e2⟩ := List.mem_map.mp this
  have := nodup_val nm (show (q.1, q.2) ∈ m from hq) (show (q.1, q2.2) ∈ m by rw [← e2]; exact sub q2 h2)
  have : q2 = q := Prod.ext e2 this.symm
  rw [← this]
  exact h2
/-- what `breaking` returns, as data -/
def BrD (ws : Ways) (low : Option Str) (d : PyData) : Prop := (low = none ∧ d = .none) ∨ ∃ n run, low = some n ∧ IsPath ws n run ∧ d = .list (run.map PyData.str)
theorem BrD.uniq {ws : Ways} (nd : (ws.map (·.1)).Nodup) {low : Option Str} {d d' : PyData} (h : BrD ws low d) (h' : BrD ws low d') : d = d' := by
  rcases h with ⟨e, rfl⟩ | ⟨n, run, e, p, rfl⟩ <;> rcases h' with ⟨e', rfl⟩ | ⟨n', run', e', p', rfl⟩
  · rfl
  · rw [e] at e'; cases e'
  · rw [e] at e'; cases e'
  · rw [e] at e'
    cases e'
    rw [p.uniq nd p']
/-- a new list, or None -/
def Told (S : List Addr) (H B : Hp) (v : V) : Prop := (v = .non ∨ ∃ p ∈ S, v = .ref p) ∧ ∀ p ∈ S, H p = none ∧ ∃ xs, B p = some (.lst xs) ∧ xs.length ≤ 200
theorem Told.zero {H B : Hp} : Told [] H B .non := ⟨.inl rfl, fun _ h => nomatch h⟩
theorem Told.one {H B : Hp} {p : Addr} {xs : List V} (h : H p = none) (e : B p = some (.lst xs)) (l : xs.length ≤ 200) : Told [p] H B (.ref p) := ⟨.inr ⟨p, List.mem_cons_self, rfl⟩, fun q hq => by rw [List.mem_singleton.mp hq]; exact ⟨h, xs, e, l⟩⟩
theorem shapedS {xs : List Str} (o1 : ∀ s ∈ xs, PyData.strOk s = true) : SeqAt.shaped (.list (xs.map PyData.str)) = true := by
  obtain ⟨l1, l2⟩ := lay_okS o1
  unfold SeqAt.shaped
  rw [Bool.and_eq_true]
  refine ⟨?_, decide_eq_true ?_⟩
  · simpa only [PyData.canLay0] using l1
  · simp only [PyData.depth]
    omega
section
variable {P : Program} [SupX.PX P] {w : World} {K : PySem.W.Frag} {mg : Str → Option Value} {base : Heap}
theorem use_breaking {T : Tx K mg} {H : Hp} {x y lv b : Addr} {start : Str} {tbl : List (Str × Stand)} {tb : List (Str × Int)} {fa fb : Int} {bk : List (Str × List Str)} {Q : VK} {E : XK} {ws : Ways} {low : Option Str} (ar : BkArg P w T H x y lv (.ref b) start tbl tb fa fb (.dict (bkD bk))) (bt : BookW tbl bk) (hW : waysW tbl bk start = ws) (hl : lowF tb fa fb ws = low)
    (st : ∀ n run, IsPath ws n run → run.length ≤ 200 ∧ ∀ s ∈ run, PyData.strOk s = true)
    (k : ∀ v B d S, SX [] H B → BrD ws low d → DpD B v d → SeqAt.shaped d = true → Told S H B v → Q v B) : sp_breaking P w T [.ref x, .ref y, .ref lv, .ref b] H Q E := by
  refine ⟨x, y, lv, .ref b, start, tbl, tb, fa, fb, _, rfl, ar, fun n => absurd ⟨_, rfl, bookD_of bt⟩ n, fun bk' ed bw' wo du => ?_⟩
  obtain rfl : bk = bk' := bkD_inj (PyData.dict.inj ed)
  rw [hW, hl]
  refine ⟨fun h B s => k _ _ _ _ s (.inl ⟨h, rfl⟩) .non (by decide +kernel) Told.zero, fun n run h hr p B hp s e => ?_⟩
  obtain ⟨l, so⟩ := st n run hr
  exact k _ _ _ _ s (.inr ⟨n, run, h, hr, rfl⟩) (.lst e (DpDs.strs run)) (shapedS so) (Told.one hp e (by rw [List.length_map]; exact l))
theorem use_kept {T : Tx K mg} {H : Hp} {x y lv b : Addr} {start : Str} {tbl : List (Str × Stand)} {tb : List (Str × Int)} {fa fb : Int} {bk : List (Str × List Str)} {Q : VK} {E : XK} (ar : BkArg P w T H x y lv (.ref b) start tbl tb fa fb (.dict (bkD bk))) (bt : BookW tbl bk) (len : (waysW tbl bk start).length ≤ 200)
    (k : ∀ v B S, SX [] H B → Told S H B v → Q v B) : sp_kept_stands P w T [.ref x, .ref y, .ref lv, .ref b] H Q E := by
  refine ⟨x, y, lv, .ref b, start, tbl, tb, fa, fb, _, rfl, ar, fun n => absurd ⟨_, rfl, bookD_of bt⟩ n, fun bk' ed bw' => ?_⟩
  obtain rfl : bk = bk' := bkD_inj (PyData.dict.inj ed)
  exact ⟨fun _ B s => k _ _ _ s Told.zero, fun _ p B hp s e => k _ _ _ s (Told.one hp e (by rw [List.length_map, (perm_canon _).length_eq, List.length_map]; exact len))⟩
end
end M

namespace M
open PySem PySem.Spec PyProof.Rows L2 ReR
theorem x_joinN {c : Bool} {A : Prop} {D : Ends} {σ : L2.St} {B : Hp} (J : L2.St → Hp → Prop) (hA : c = true → (∀ σ' B', J σ' B' → D.nx σ' B') → A) (hB : c = false → J σ B) (hR : ∀ σ' B', J σ' B' → D.nx σ' B') : if c = true then A else tNext D σ B := by
  cases c with
  | true => rw [if_pos rfl]; exact hA rfl hR
  | false => rw [if_neg Bool.false_ne_true]; exact hR _ _ (hB rfl)
section
variable {P : Program} [SupX.PX P] {w : World} {K : PySem.W.Frag} {mg : Str → Option Value} {base : Heap}
def sp_law (T : Tx K mg) : Sp := fun vs H Q _ => ∃ (a : Addr) (ns : List Int), vs = [.ref a] ∧ SqL K H a (ns.map V.int) ∧ ns.length ≤ 10000 ∧ ∀ H', Q (.bl true) H'
theorem ok_law (T : Tx K mg) (hsy : ReR.SysIs base) : ReR.FnG P w K mg base CX0 9 T.law.f T.law.fd P_law (sp_law T) := by
  refine T.law.F.okG sc_law (fun vs H Q E h => ?_) (fun cdv A outer s H vs Q E hr hg h => ?_)
  · obtain ⟨a, ns, rfl, ha, hlen, k⟩ := h
    rfl
  have hu := hu_of hr
  have nd := sc_law.nd
  obtain ⟨a, ns, rfl, ha, hlen, k⟩ := h
  refine ⟨_, (pss_cons (ps_asg (pe_call (ok_law_build (P := P) (w := w) T) (hr.mono (by decide)) (by rfl) T.law_build.g T.law_build.F.kp T.law_build.B .nil pass0 (pa_cons (pv 0) pa_nil)) (w_pglst (K := K) (n := 3) rfl (by rfl) (pgs_cons (pg_name (i := 1) nd rfl (Or.inl rfl)) (pgs_cons (pg_name (i := 2) nd rfl (Or.inl rfl)) (pgs_cons (pg_name (i := 3) nd rfl (Or.inl rfl)) pgs_nil))) (by rfl) (by rfl)))
      (pss_cons (ps_set (i := 4) nd rfl (Or.inl rfl) (pe_call (ok_law_open (P := P) (w := w) T) (hr.mono (by decide)) (by rfl) T.law_open.g T.law_open.F.kp T.law_open.B .nil pass0 (pa_cons (pv 0) (pa_cons pe_int pa_nil))))
      (pss_cons (ps_set (i := 5) nd rfl (Or.inl rfl) (pe_call (ok_law_worths (P := P) (w := w) T) (hr.mono (by decide)) (by rfl) T.law_worths.g T.law_worths.F.kp T.law_worths.B .nil pass0 (pa_cons (pv 4) (pa_cons (pv 3) pa_nil))))
      (pss_cons (ps_set (i := 6) nd rfl (Or.inl rfl) (pe_call (ok_law_endless (P := P) (w := w) T) (hr.mono (by decide)) (by rfl) T.law_endless.g T.law_endless.F.kp T.law_endless.B .nil pass0 (pa_cons (pv 4) (pa_cons (pv 5) pa_nil))))
      (pss_cons (ps_set (i := 7) nd rfl (Or.inl rfl) (pe_call (ok_law_level (P := P) (w := w) T) (hr.mono (by decide)) (by rfl) T.law_level.g T.law_level.F.kp T.law_level.B .nil pass0 (pa_cons (pv 4) (pa_cons (pv 5) (pa_cons (pv 6) pa_nil)))))
      (pss_cons (ps_set (i := 8) nd rfl (Or.inl rfl) (pe_call (ok_law_book (P := P) (w := w) T) (hr.mono (by decide)) (by rfl) T.law_book.g T.law_book.F.kp T.law_book.B .nil pass0 (pa_cons (pe_call (ok_law_open (P := P) (w := w) T) (hr.mono (by decide)) (by rfl) T.law_open.g T.law_open.F.kp T.law_open.B .nil pass0 (pa_cons (pv 0) (pa_cons pe_int pa_nil))) (pa_cons (pv 3) pa_nil))))
      (pss_cons (ps_set (i := 9) nd rfl (Or.inl rfl) (pe_make T.m_Work (ok_Work_init (P := P) (w := w) T) (hr.mono (by decide)) (by rfl) T.g_Work T.Work_init.B .nil pass0 (pa_cons (pv 1) (pa_cons (pe_ix (w_ixL (K := K) rfl) (pv 2) pe_int (fun _ _ => rfl)) (pa_cons (pv 3) pa_nil)))))
      (pss_cons (ps_set (i := 10) nd rfl (Or.inl rfl) (pe_make T.m_Wish (ok_Wish_init (P := P) (w := w) T) (hr.mono (by decide)) (by rfl) T.g_Wish T.Wish_init.B .nil pass0 (pa_cons (pv 5) (pa_cons (pv 6) pa_nil))))
      (pss_cons (ps_set (i := 11) nd rfl (Or.inl rfl) (pe_callB (ReR.cr_repr hg hr.units hsy) (by rfl) T.b_repr (by decide +kernel) (pa_cons (pv 8) pa_nil)))
      (pss_cons (ps_if (pt_not (pt_val (pe_call (ok_law_asked (P := P) (w := w) T) (hr.mono (by decide)) (by rfl) T.law_asked.g T.law_asked.F.kp T.law_asked.B .nil pass0 (pa_cons (pv 9) (pa_cons (pv 10) (pa_cons (pv 3) (pa_cons (pv 5) (pa_cons (pv 7) (pa_cons (pv 8) (pa_cons (pe_ix (w_ixL (K := K) rfl) (pv 2) pe_int (fun _ _ => rfl)) pa_nil)))))))))) (pss_one (ps_ret pe_bl)) pss_nil)
      (pss_cons (ps_set (i := 12) nd rfl (Or.inl rfl) (pe_make T.m_Work (ok_Work_init (P := P) (w := w) T) (hr.mono (by decide)) (by rfl) T.g_Work T.Work_init.B .nil pass0 (pa_cons (pv 1) (pa_cons (pe_ix (w_ixL (K := K) rfl) (pv 2) pe_int (fun _ _ => rfl)) (pa_cons (pe_call (ok_law_turned_stands (P := P) (w := w) T) (hr.mono (by decide)) (by rfl) T.law_turned_stands.g T.law_turned_stands.F.kp T.law_turned_stands.B .nil pass0 (pa_cons (pv 3) pa_nil)) pa_nil)))))
      (pss_cons (ps_set (i := 13) nd rfl (Or.inl rfl) (pe_make T.m_Wish (ok_Wish_init (P := P) (w := w) T) (hr.mono (by decide)) (by rfl) T.g_Wish T.Wish_init.B .nil pass0 (pa_cons (pe_call (ok_law_turned (P := P) (w := w) T) (hr.mono (by decide)) (by rfl) T.law_turned.g T.law_turned.F.kp T.law_turned.B .nil pass0 (pa_cons (pv 5) pa_nil)) (pa_cons (pv 6) pa_nil))))
      (pss_cons (ps_set (i := 14) nd rfl (Or.inl rfl) pe_dnewK)
      (pss_cons (ps_for PassesOwn.never rfl (w_pilist (K := K) rfl (w_revL (K := K) rfl (pe_callTy (cl_listD rfl) (by rfl) T.b_list (by decide +kernel) (pa_cons (pv 8) pa_nil)))) (pg_name (i := 15) nd rfl (Or.inl rfl)) (pss_one (ps_dput hu (pv 14) (pv 15) (pe_dget hu (pv 8) (pv 15) (fun _ _ => rfl)) rfl)))
      (pss_cons (ps_if (pt_cmpR (w_neD (K := K) rfl hr.units) (pe_call (ok_breaking (P := P) (w := w) T) (hr.mono (by decide)) (by rfl) T.breaking.g T.breaking.F.kp T.breaking.B .nil passL (pa_cons (pv 12) (pa_cons (pv 13) (pa_cons (pv 7) (pa_cons (pv 14) pa_nil))))) (pe_call (ok_breaking (P := P) (w := w) T) (hr.mono (by decide)) (by rfl) T.breaking.g T.breaking.F.kp T.breaking.B .nil passL (pa_cons (pv 9) (pa_cons (pv 10) (pa_cons (pv 7) (pa_cons (pv 8) pa_nil))))) (nomark _)) (pss_one (ps_ret pe_bl)) pss_nil)
      (pss_cons (ps_for PassesOwn.never rfl (w_pitup (K := K) rfl (pe_tup (pa_cons (pe_call (ok_breaking (P := P) (w := w) T) (hr.mono (by decide)) (by rfl) T.breaking.g T.breaking.F.kp T.breaking.B .nil passL (pa_cons (pv 9) (pa_cons (pv 10) (pa_cons (pv 7) (pa_cons (pv 8) pa_nil))))) (pa_cons (pe_call (ok_kept_stands (P := P) (w := w) T) (hr.mono (by decide)) (by rfl) T.kept_stands.g T.kept_stands.F.kp T.kept_stands.B .nil passL (pa_cons (pv 9) (pa_cons (pv 10) (pa_cons (pv 7) (pa_cons (pv 8) pa_nil))))) pa_nil)))) (pg_name (i := 16) nd rfl (Or.inl rfl)) (pss_one (ps_if (pt_cmpR op_notNo (pv 16) pe_non (nomark _)) (pss_one (ps_expr (pe_bm PySem.F.plainAttrs_list PySem.F.slot_list_append PySem.F.type_list_append mt_append (pv 16) (pa_cons pe_str pa_nil)))) pss_nil)))
      (pss_cons (ps_if (PW.pt (pw_or (pt_not (pt_val (pe_call (ok_law_asked (P := P) (w := w) T) (hr.mono (by decide)) (by rfl) T.law_asked.g T.law_asked.F.kp T.law_asked.B .nil pass0 (pa_cons (pv 9) (pa_cons (pv 10) (pa_cons (pv 3) (pa_cons (pv 5) (pa_cons (pv 7) (pa_cons (pv 8) (pa_cons (pe_ix (w_ixL (K := K) rfl) (pv 2) pe_int (fun _ _ => rfl)) pa_nil)))))))))) (pw_or1 (pt_cmpR op_ne (pe_callB (ReR.cr_repr hg hr.units hsy) (by rfl) T.b_repr (by decide +kernel) (pa_cons (pv 8) pa_nil)) (pv 11) (nomark _))))) (pss_one (ps_ret pe_bl)) pss_nil)
      (pss_cons (ps_if (pt_not (pt_val (pe_call (ok_law_asked (P := P) (w := w) T) (hr.mono (by decide)) (by rfl) T.law_asked.g T.law_asked.F.kp T.law_asked.B .nil pass0 (pa_cons (pv 9) (pa_cons (pv 10) (pa_cons (pv 3) (pa_cons (pv 5) (pa_cons (pv 7) (pa_cons pe_dnewK (pa_cons (pe_ix (w_ixL (K := K) rfl) (pv 2) pe_int (fun _ _ => rfl)) pa_nil)))))))))) (pss_one (ps_ret pe_bl)) pss_nil)
      (pss_cons (ps_set (i := 17) nd rfl (Or.inl rfl) pe_dnewK)
      (pss_cons (ps_lockR (ps_for PassesOwn.never rfl (pi_keys (pv 5)) (pg_name (i := 18) nd rfl (Or.inl rfl)) (pss_one (ps_dput hu (pv 17) (pv 18) (pe_un un_neg (pe_dget hu (pv 5) (pv 18) (fun _ _ => rfl))) rfl))))
      (pss_cons (ps_set (i := 19) nd rfl (Or.inl rfl) (pe_tup (pa_cons (pe_op op_sub (pe_ix (w_ixT (K := K) rfl) (pv 7) pe_int (fun _ _ => rfl)) (pe_op op_mul pe_int (pe_ix (w_ixT (K := K) rfl) (pv 7) pe_int (fun _ _ => rfl)))) (pa_cons (pe_ix (w_ixT (K := K) rfl) (pv 7) pe_int (fun _ _ => rfl)) pa_nil))))
      (pss_cons (ps_if (pt_not (pt_val (pe_call (ok_law_asked (P := P) (w := w) T) (hr.mono (by decide)) (by rfl) T.law_asked.g T.law_asked.F.kp T.law_asked.B .nil pass0 (pa_cons (pv 9) (pa_cons (pv 10) (pa_cons (pv 3) (pa_cons (pv 5) (pa_cons (pv 19) (pa_cons (pv 8) (pa_cons (pe_ix (w_ixL (K := K) rfl) (pv 2) pe_int (fun _ _ => rfl)) pa_nil)))))))))) (pss_one (ps_ret pe_bl)) pss_nil)
      (pss_cons (ps_if (pt_not (pt_val (pe_call (ok_law_asked (P := P) (w := w) T) (hr.mono (by decide)) (by rfl) T.law_asked.g T.law_asked.F.kp T.law_asked.B .nil pass0 (pa_cons (pv 9) (pa_cons (pe_make T.m_Wish (ok_Wish_init (P := P) (w := w) T) (hr.mono (by decide)) (by rfl) T.g_Wish T.Wish_init.B .nil pass0 (pa_cons (pv 17) (pa_cons (pe_un un_neg (pv 6)) pa_nil))) (pa_cons (pv 3) (pa_cons (pv 17) (pa_cons (pv 7) (pa_cons (pv 8) (pa_cons (pe_ix (w_ixL (K := K) rfl) (pv 2) pe_int (fun _ _ => rfl)) pa_nil)))))))))) (pss_one (ps_ret pe_bl)) pss_nil)
      (pss_cons (ps_if (pt_not (pt_val (pe_call (ok_law_asked (P := P) (w := w) T) (hr.mono (by decide)) (by rfl) T.law_asked.g T.law_asked.F.kp T.law_asked.B .nil pass0 (pa_cons (pv 9) (pa_cons (pv 10) (pa_cons (pv 3) (pa_cons (pv 5) (pa_cons (pv 7) (pa_cons (pv 8) (pa_cons (pe_ix (w_ixL (K := K) rfl) (pv 2) pe_int (fun _ _ => rfl)) pa_nil)))))))))) (pss_one (ps_ret pe_bl)) pss_nil)
      (pss_cons (ps_set (i := 20) nd rfl (Or.inl rfl) (pe_call (ok_law_spoiled (P := P) (w := w) T) (hr.mono (by decide)) (by rfl) T.law_spoiled.g T.law_spoiled.F.kp T.law_spoiled.B .nil pass0 (pa_cons (pe_call (ok_law_open (P := P) (w := w) T) (hr.mono (by decide)) (by rfl) T.law_open.g T.law_open.F.kp T.law_open.B .nil pass0 (pa_cons (pv 0) (pa_cons pe_int pa_nil))) (pa_cons (pv 3) (pa_cons (pe_callTy cl_dict (by rfl) T.b_dict (by decide +kernel) (pa_cons (pv 8) pa_nil)) pa_nil)))))
      (pss_cons (ps_set (i := 21) nd rfl (Or.inl rfl) pe_str)
      (pss_cons (ps_if (pt_val (pe_call (ok_law_right (P := P) (w := w) T) (hr.mono (by decide)) (by rfl) T.law_right.g T.law_right.F.kp T.law_right.B .nil pass0 (pa_cons (pv 3) (pa_cons (pv 20) pa_nil)))) (pss_one (ps_set (i := 21) nd rfl (Or.inl rfl) pe_str)) pss_nil)
      (pss_cons (ps_for PassesOwn.never rfl (pi_range1 (by rfl) T.b_range (pa_cons pe_int pa_nil)) (pg_name (i := 22) nd rfl (Or.inl rfl)) (pss_one (ps_if (pt_cmpR op_ne (pe_call (ok_law_refused (P := P) (w := w) T) (hr.mono (by decide)) (by rfl) T.law_refused.g T.law_refused.F.kp T.law_refused.B .nil pass0 (pa_cons (pv 22) (pa_cons (pv 9) (pa_cons (pv 10) (pa_cons (pv 7) (pa_cons (pv 20) pa_nil)))))) (pv 21) (nomark _)) (pss_one (ps_ret pe_bl)) pss_nil)))
      (pss_one (ps_ret (pe_call (ok_law_known_breach (P := P) (w := w) T) (hr.mono (by decide)) (by rfl) T.law_known_breach.g T.law_known_breach.F.kp T.law_known_breach.B .nil pass0 (pa_cons (pv 9) (pa_cons (pv 10) (pa_cons (pv 3) (pa_cons (pv 7) (pa_cons (pv 8) pa_nil)))))))))))))))))))))))))))))))))))), ?_⟩
  refine x_start (σ' := [some _, none, none, none, none, none, none, none, none, none, none, none, none, none, none, none, none, none, none, none, none, none, none]) rfl ?_
  try simp only [cx_n, cx_K, cx_w, cx_P]
  walk_at "rd"
  refine ⟨a, ns, rfl, ha, hlen, fun q H1 hands nl names d sts n0 hq s1 eq enl hnl rd ok hn0 nlen keys fin _ => ?_⟩
  refine ⟨q, _, rfl, sqL eq, rfl, ?_⟩
  walk_at "rd"
  refine ⟨a, ns, 2, rfl, s1.le0.l ha, hlen, by decide, by decide, fun p H2 hp s2 p2 => ?_⟩
  walk_at "rd"
  have C := ok.closed
  have slen := ok.len.2
  have h8 : sts.length ≤ 8 := by
    have h := nodup_sub ok.nd fun n hn => (keys n).mp hn
    rw [List.length_map] at h
    omega
  have hp' : ∀ b ∈ [p], H1 b = none := fun b hb => by cases List.mem_singleton.mp hb; exact hp
  refine ⟨p, d, sts, rfl, p2, mono_D (mono_stand K) _ _ _ _ (le_intoS s2.le0 hp') rd, ok.nd, by omega, fun wd H3 l hwd s3 p3 ⟨kw, ewd, kwk⟩ _ perm lnd lb => ?_⟩
  walk_at "rd"
  have nwp : wd ≠ p := fun e => p2.there (e ▸ hwd)
  have nwp' : wd ∉ [p] := by simpa using nwp
  have ll : l.length ≤ 100 := by
    have h1 := perm.length_eq
    rw [List.length_map] at h1
    have h2 := endsOf_len sts
    omega
  have l1 : 1 ≤ l.length := by
    obtain ⟨z, hz, ez⟩ := fin
    have h1 := perm.length_eq
    rw [List.length_map] at h1
    rw [h1]
    refine List.length_pos_of_mem (a := z.1) ?_
    rw [endsOf_eq ok.nd, List.mem_filter]
    exact ⟨List.mem_map.mpr ⟨z, hz, rfl⟩, by rw [lookA_nodup ok.nd hz, ez]; rfl⟩
  refine ⟨p, wd, l, rfl, p3, nwp, ⟨wd, kw, rfl, .inl ewd, kwk⟩, lnd, l1, by omega, lb, fun e H4 s4 p4 e0 e1 way => ?_⟩
  walk_at "rd"
  have ewd4 := s4 _ _ nwp' ewd
  refine ⟨p, wd, l, e, rfl, p4, nwp, ⟨wd, kw, rfl, .inl ewd4, kwk⟩, lnd, by omega, fun z hz => by have := lb z hz; omega, by omega, by omega, fun lv H5 fa fb hlv s5 p5 elv fr a0 a1 b1 => ?_⟩
  walk_at "rd"
  have ewd5 := s5 _ _ nwp' ewd4
  have s15 : SX [] H1 H5 := sx_nil_of (S := [p]) ((((nil_sx s2).trans s3).trans s4).trans s5) hp'
  have rd5 := mono_D (mono_stand K) _ _ _ _ s15.le0 rd
  have enl5 := s15 _ _ List.not_mem_nil enl
  have an0 : atI (names.map V.str) 0 = some (.str n0) := atI_nat (j := 0) (by rw [List.getElem?_map, hn0]; rfl)
  have wok : WishOk l e := ⟨lnd, ll, fun z hz => by
    have m := endsOf_sub (perm.mem_iff.mp (List.mem_map.mpr ⟨z, hz, rfl⟩))
    obtain ⟨y, hy, ey⟩ := List.mem_map.mp m
    have := (ok.all y hy).1
    rw [ey] at this
    have b := lb z hz
    exact ⟨this, by omega, by omega⟩, by omega, by omega, way⟩
  have ha5 := (s1.trans s15).le0.l ha
  have hne : ∀ q ∈ sts, isEnd q.2 = false → 1 ≤ q.2.size := fun q hq he => by
    have o := (ok.all q hq).2
    generalize q.2 = st at he o
    cases st with
    | fin => cases he
    | hand h ms => exact o.2.2.1
    | chance ds => exact o.1
  have rws : ∀ z ∈ sts, z.2.nd ∧ z.2.size ≤ 4 ∧ ∀ s ∈ z.2.rows.map (·.1), nameB s = true := fun z hz => ⟨(C.all z hz).1, (C.all z hz).2.1, fun s hs => rows_nmB (ok.all z hz).2 hs⟩
  clear s2 s3 s4 s5 p2 p3 p4 p5 ewd ewd4 hp' hp s15 rd eq hq hnl s1 enl
  refine ⟨a, ns, 3, rfl, ha5, hlen, by decide, by decide, fun p2 H6 hp2 s6 q6 => ?_⟩
  walk_at "rd"
  have hp2' : ∀ b ∈ [p2], H5 b = none := fun b hb => by cases List.mem_singleton.mp hb; exact hp2
  refine ⟨p2, d, sts, rfl, q6, mono_D (mono_stand K) _ _ _ _ (le_intoS s6.le0 hp2') rd5, C, by omega, hne, fun b H7 kv bk hb s7 q7 eb kvk bg => ?_⟩
  have s57 : SX [] H5 H7 := sx_nil_of (S := [p2]) ((nil_sx s6).trans s7) hp2'
  have rd7 := mono_D (mono_stand K) _ _ _ _ s57.le0 rd5
  have enl7 := s57 _ _ List.not_mem_nil enl5
  have ewd7 := s57 _ _ List.not_mem_nil ewd5
  have elv7 := s57 _ _ List.not_mem_nil elv
  have ha7 := s57.le0.l ha5
  clear s6 s7 q6 q7 hp2' hp2 hb s57 rd5 enl5 ewd5 elv ha5
  walk_at "rd"
  show tCons _ _ _ _ _
  walk_at "rd"
  refine x_ixL (sqL enl7) an0 ?_
  walk_at "rd"
  intro x dx hx hdx ndx
  have s8 : SX [] H7 (upd (upd H7 dx (.own x)) x (.ins T.a_Work dx [])) := (SX.new hdx).trans (SX.new (by rw [upd_ne (Ne.symm ndx)]; exact hx))
  have hx' : ∀ b ∈ [x], H7 b = none := fun b hb => by cases List.mem_singleton.mp hb; exact hx
  refine ⟨x, dx, .ref d, hands, n0, sts, rfl, upd_same, mono_D (mono_stand K) _ _ _ _ (le_intoS s8.le0 hx') rd7, ok, fun H8 tbl sx wa tbT => ⟨rfl, ?_⟩⟩
  have s78 : SX [] H7 H8 := sx_nil_of (S := [x]) ((nil_sx s8).trans sx) hx'
  clear s8 sx hx' hx hdx ndx
  have ewd8 := s78 _ _ List.not_mem_nil ewd7
  walk_at "rd"
  show tCons _ _ _ _ _
  walk_at "rd"
  intro y dy hy hdy ndy
  have s8a : SX [] H8 (upd (upd H8 dy (.own y)) y (.ins T.a_Wish dy [])) := (SX.new hdy).trans (SX.new (by rw [upd_ne (Ne.symm ndy)]; exact hy))
  have hy' : ∀ b ∈ [y], H8 b = none := fun b hb => by cases List.mem_singleton.mp hb; exact hy
  refine ⟨y, dy, wd, l, kw, e, rfl, upd_same, s8a _ _ List.not_mem_nil ewd8, kvs_impJ (fun v _ a h => h) kwk, wok, fun H9 tb sy wi srt => ⟨rfl, ?_⟩⟩
  have s89 : SX [] H8 H9 := sx_nil_of (S := [y]) ((nil_sx s8a).trans sy) hy'
  clear s8a sy hy' hy hdy ndy
  generalize decide (∀ z ∈ l, e ≤ z.2) = cm at wi
  have s79 := s78.trans s89
  -- what lasts from here on
  have waX : ∀ {B : Hp}, SX [] H9 B → WorkAt T B x hands n0 tbl := fun s => (wa.le s89.le0).le s.le0
  have wiX : ∀ {B : Hp}, SX [] H9 B → WishAt T B y tb e cm := fun s => wi.sx s
  have rdX : ∀ {B : Hp}, SX [] H9 B → rD (rStand K) B (.ref d) sts := fun s => mono_D (mono_stand K) _ _ _ _ (s79.trans s).le0 rd7
  have enlX : ∀ {B : Hp}, SX [] H9 B → B nl = some (.lst (names.map V.str)) := fun s => (s79.trans s) _ _ List.not_mem_nil enl7
  have ewdX : ∀ {B : Hp}, SX [] H9 B → B wd = some (.dK kw) := fun s => (s79.trans s) _ _ List.not_mem_nil ewd7
  have kwX : ∀ {B : Hp}, KVs rI B kw l := kvs_impJ (fun v _ a h => h) kwk
  have lvX : ∀ {B : Hp}, SX [] H9 B → SqT K B lv [.int fa, .int fb] := fun s => sqT ((s79.trans s) _ _ List.not_mem_nil elv7)
  have haX : ∀ {B : Hp}, SX [] H9 B → SqL K B a (ns.map V.int) := fun s => (s79.trans s).le0.l ha7
  have ebX : ∀ {B : Hp}, SX [] H9 B → B b = some (.dK kv) := fun s => (s79.trans s) _ _ List.not_mem_nil eb
  have kvX : ∀ {B : Hp}, SX [] H9 B → KVs rTS B kv bk := fun s => KVs.le mono_TS (s79.trans s).le0 kvk
  have askX : ∀ {B : Hp}, SX [] H9 B → AskArg P w T B x y d wd lv b n0 sts tbl tb l fa fb kv kw bk := fun s => ask_mk (waX s) tbT ok (wiX s) srt wok perm (lvX s) fr (rdX s) (ewdX s) kwX (ebX s) (kvX s) bg
  have bl8 : bk.length ≤ 8 := by
    have h := nodup_sub bg.nd (m := sts.map (·.1)) fun n hn => by
      obtain ⟨q, hq, rfl⟩ := List.mem_map.mp hn
      obtain ⟨_, _, e, _⟩ := bg.each q hq
      exact key_of' e
    rw [List.length_map, List.length_map] at h
    omega
  have kvn : (kv.map (·.1)).Nodup := by
    rw [kvk.keys]
    exact bg.nd.map _ (fun a b h => by intro z; exact h (Sum.inr.inj z))
  have lkn : ((liftK kv).map (·.1)).Nodup := (lift_keys (H := H7) kvn).nd
  have rep : ∀ {B : Hp}, SX [] H9 B → DpD B (.ref b) (.dict (bkD bk)) := fun s => .dic (.inl (ebX s)) (bk_DpDk (fun t xs h => h) (kvX s))
  have okd : okD (.dict (bkD bk)) := kv_okD (fun q hq => by
    obtain ⟨z, hz, rfl⟩ := List.mem_map.mp hq
    obtain ⟨hh, ms, e1, _, e2, _, e3⟩ := bg.each z hz
    exact ⟨nameB_itm (ok.all _ (lookA_mem e1)).1, itm_tup4 (fun s hs => (rws _ (lookA_mem e1)).2.2 s (e3 s hs)) e2⟩) (by unfold bkD; rw [List.length_map]; omega)
  clear wa wi rd7 enl7 ewd7 elv7 ha7 eb kvk s78 s89 s79 ewd8
  walk_at "rd"
  refine ⟨_, _, rfl, rep (SX.refl _), okd, ?_⟩
  generalize hsh : (PyData.dict (bkD bk)).shown = sh
  walk_at "rd"
  refine x_ixL (sqL (enlX (SX.refl _))) an0 ?_
  walk_at "rd"
  refine ⟨x, y, d, wd, lv, b, n0, sts, tbl, tb, l, fa, fb, kv, kw, bk, rfl, askX (SX.refl _), fun C1 t1 => ?_⟩
  refine ⟨true, rfl, ?_⟩
  walk_at "rd"
  show tCons _ _ _ _ _
  walk_at "rd"
  refine x_ixL (sqL (enlX t1)) an0 ?_
  walk_at "rd"
  refine ⟨d, sts, rfl, rdX t1, C, fun qd C2 sts2 hqd t12 rd2 tt => ?_⟩
  have t2 := t1.trans t12
  clear t12 t1 hqd
  walk_at "rd"
  intro x2 dx2 hx2 hdx2 ndx2
  have t2a : SX [] C2 (upd (upd C2 dx2 (.own x2)) x2 (.ins T.a_Work dx2 [])) := (SX.new hdx2).trans (SX.new (by rw [upd_ne (Ne.symm ndx2)]; exact hx2))
  have hx2' : ∀ b ∈ [x2], C2 b = none := fun b hb => by cases List.mem_singleton.mp hb; exact hx2
  refine ⟨x2, dx2, .ref qd, hands, n0, sts2, rfl, upd_same, mono_D (mono_stand K) _ _ _ _ (le_intoS t2a.le0 hx2') rd2, tt.ok ok, fun C3 tbl2 sx2 wa2 tbT2' => ⟨rfl, ?_⟩⟩
  have t23 : SX [] C2 C3 := sx_nil_of (S := [x2]) ((nil_sx t2a).trans sx2) hx2'
  have tbT2 : Tbl sts tbl2 := tt.tbl tbT2'
  have t3 := t2.trans t23
  clear t2a sx2 hx2' hx2 hdx2 ndx2 t23 t2 rd2 tbT2' tt
  walk_at "rd"
  show tCons _ _ _ _ _
  walk_at "rd"
  refine ⟨Int, rI, wd, kw, l, rfl, fun _ _ _ _ _ h => h, .inl (ewdX t3), kwX, lnd, by omega, fun qw C4 kw2 l2 hqw t34 eqw kwk2 pm2 => ?_⟩
  have t4 := t3.trans t34
  walk_at "rd"
  intro y2 dy2 hy2 hdy2 ndy2
  have t4a : SX [] C4 (upd (upd C4 dy2 (.own y2)) y2 (.ins T.a_Wish dy2 [])) := (SX.new hdy2).trans (SX.new (by rw [upd_ne (Ne.symm ndy2)]; exact hy2))
  have hy2' : ∀ b ∈ [y2], C4 b = none := fun b hb => by cases List.mem_singleton.mp hb; exact hy2
  have wok2 := WishOk.perm wok pm2
  refine ⟨y2, dy2, qw, l2, kw2, e, rfl, upd_same, t4a _ _ List.not_mem_nil eqw, kvs_impJ (fun v _ a h => h) kwk2, wok2, fun C5 tb2 sy2 wi2 srt2 => ⟨rfl, ?_⟩⟩
  have t45 : SX [] C4 C5 := sx_nil_of (S := [y2]) ((nil_sx t4a).trans sy2) hy2'
  generalize decide (∀ z ∈ l2, e ≤ z.2) = cm2 at wi2
  have t5 := t4.trans t45
  have wa5 := wa2.le (t34.trans t45).le0
  have eqw5 := t45 _ _ List.not_mem_nil eqw
  have kwk5 : ∀ {B : Hp}, KVs rI B kw2 l2 := kvs_impJ (fun v _ a h => h) kwk2
  clear t4a sy2 hy2' hy2 hdy2 ndy2 t45 t34 t4 t3 wa2 eqw hqw kwk2
  walk_at "rd"
  intro F hF
  have t6 : SX [] C5 (upd C5 F (.dK [])) := SX.new hF
  have F6 : (upd C5 F (.dK [])) F = some (.dK []) := upd_same
  generalize upd C5 F (.dK []) = C6 at t6 F6
  walk_at "rd"
  refine x_revL ?_
  walk_at "rd"
  have t56 := t5.trans t6
  refine x_clistD (.inl (ebX t56)) fun m1 hm1 => ?_
  have ek : (kv.map fun kv => kV kv.1) = (bk.map (·.1)).map V.str := by
    have : (kv.map fun kv => kV kv.1) = (kv.map (·.1)).map kV := by rw [List.map_map]; rfl
    rw [this, (kvX t56).keys, List.map_map]
    rfl
  rw [ek]
  refine ⟨m1, _, rfl, sqL upd_same, fun m2 hm2 => ?_⟩
  have hm20 : C6 m2 = none := by
    by_cases c : m2 = m1
    · rw [c]; exact hm1
    · rw [upd_ne c] at hm2
      exact hm2
  rw [← List.map_reverse]
  generalize hys : (bk.map (·.1)).reverse = ys
  have t67 : SX [] C6 (upd (upd C6 m1 (.lst ((bk.map (·.1)).map V.str))) m2 (.lst (ys.map V.str))) := (SX.new hm1).trans (SX.new hm2)
  have y7 : (upd (upd C6 m1 (.lst ((bk.map (·.1)).map V.str))) m2 (.lst (ys.map V.str))) m2 = some (.lst (ys.map V.str)) := upd_same
  have F7 := t67 _ _ List.not_mem_nil F6
  have nFm : F ≠ m2 := ne_of_none F6 hm20
  generalize upd (upd C6 m1 (.lst ((bk.map (·.1)).map V.str))) m2 (.lst (ys.map V.str)) = C7 at t67 y7 F7
  have yp : ys.Perm (bk.map (·.1)) := by rw [← hys]; exact List.reverse_perm _
  have ynd : ys.Nodup := yp.nodup_iff.mpr bg.nd
  have t57 := t6.trans t67
  have t7 := t5.trans t57
  refine x_itl (sqL y7) ?_
  refine for_it (walk_listR (R := rS) (Hb := H) (paired_S' ys)) (fun i σ A => ∃ (kv2 : List (Key × V)) (lb2 : List (Str × List Str)) (c : Option V), SX [F] C7 A ∧ A F = some (.dK kv2) ∧ KVs rTS H9 kv2 lb2 ∧ lb2.map (·.1) = ys.take i ∧ (∀ q ∈ lb2, q ∈ bk) ∧
      σ = [some (.ref a), some (.int hands), some (.ref nl), some (.ref d), some (.ref p), some (.ref wd), some (.int e), some (.ref lv), some (.ref b), some (.ref x), some (.ref y), some (.str sh), some (.ref x2), some (.ref y2), some (.ref F), c, none, none, none, none, none, none, none])
    ⟨[], [], none, SX.refl _, F7, .nil, rfl, (fun _ h => nomatch h), rfl⟩ (fun i σ A _ h => by obtain ⟨_, _, _, h, _⟩ := h; exact sqL (h _ _ (by simpa using Ne.symm nFm) y7)) ?_ ?_
  · rintro i z0 σ A0 A hi ⟨kv2, lb2, c, sA, FA, kA, nA, mA, rfl⟩ ⟨rfl, n, hn, rfl⟩
    obtain ⟨bl, ebl⟩ := lookA_some (yp.mem_iff.mp (getMem hn))
    obtain ⟨v, ev, rv⟩ := (kvX (SX.refl _)).at_ ebl
    have s5A : SX [] C5 A := sx_nil_of (S := [F]) ((nil_sx t57).trans sA) (by simp [hF])
    walk_at "rd"
    refine x_dg' (.inl (ebX (t5.trans s5A))) ev ?_
    walk_at "rd"
    have nn : n ∉ lb2.map (·.1) := by rw [nA]; exact nodup_take ynd hn
    have kl : kv2.length ≤ 1000 := by
      rw [Paired.length kA]
      have := congrArg List.length nA
      rw [List.length_map, List.length_take] at this
      have := yp.length_eq
      rw [List.length_map] at this
      omega
    refine ⟨F, _, rfl, DPut.k (k := Sum.inr n) FA (lt_size (by omega)), ?_⟩
    rw [putK_fresh v kA.keys nn]
    refine ⟨_, lb2 ++ [(n, bl)], _, sA.trans (SX.mut List.mem_cons_self), upd_same, Paired.app kA (.cons ⟨rfl, rv⟩ .nil), by rw [List.map_append, nA, take_succ_of hn]; rfl, fun q hq => ?_, rfl⟩
    rcases List.mem_append.mp hq with h | h
    · exact mA q h
    · rw [List.mem_singleton.mp h]
      exact lookA_mem ebl
  rintro σ C8 ⟨kv2, bk2, c15, sA, FA, kA, nA, mA, rfl⟩
  rw [List.take_length] at nA
  have t58 : SX [] C5 C8 := sx_nil_of (S := [F]) ((nil_sx t57).trans sA) (by simp [hF])
  have t8 := t5.trans t58
  have pmb : bk2.Perm bk := perm_keys bg.nd (by rw [nA]; exact yp) mA
  clear sA t57 t7 t67 y7 F7 F6 t6 t56 hm1 hm2 hm20 hF nFm
  have ask2 : AskArg P w T C8 x2 y2 d qw lv F n0 sts tbl2 tb2 l2 fa fb kv2 kw2 bk2 := ask_mk (wa5.le t58.le0) tbT2 ok (wi2.sx t58) srt2 wok2 ((pm2.map _).trans perm) (lvX t8) fr (rdX t8) (t58 _ _ List.not_mem_nil eqw5) kwk5 FA (KVs.le mono_TS t8.le0 kA) (bg.perm pmb)
  have ndS : ∀ q ∈ sts, q.2.nd := fun q hq => (C.all q hq).1
  obtain ⟨ws, hws⟩ : ∃ ws, waysW sts bk n0 = ws := ⟨_, rfl⟩
  have eW1 : waysW tbl bk n0 = ws := by rw [waysW_tbl tbT ndS, hws]
  have eW2 : waysW tbl2 bk2 n0 = ws := by
    rw [waysW_tbl tbT2 ndS, ← hws]
    exact waysF_look fun n => perm_look bg.nd pmb n
  have wo : WOk sts bk n0 ws := by rw [← hws]; exact (waysW_done fun w h => h.lenC C ok.st).1
  have wlen8 : ws.length ≤ 8 := Nat.le_trans (wo.lenC C ok.st) h8
  obtain ⟨low, hlow⟩ : ∃ low, lowF tb fa fb ws = low := ⟨_, rfl⟩
  have hlow2 : lowF tb2 fa fb ws = low := by
    rw [← hlow]
    exact lowF_look fun n => by rw [perm_look wok2.nd srt2.perm, perm_look wok.nd pm2, perm_look wok.nd srt.perm]
  have stp : ∀ n run, IsPath ws n run → run.length ≤ 200 ∧ ∀ s ∈ run, PyData.strOk s = true := fun n run hr => by
    obtain ⟨R, eat, _⟩ := wo.goes hr
    refine ⟨?_, fun s hs => ?_⟩
    · have hm : n ∈ ws.map (·.1) := by cases hr <;> exact List.mem_map.mpr ⟨_, ‹_ ∈ ws›, rfl⟩
      obtain ⟨q, hq, rfl⟩ := List.mem_map.mp hm
      obtain ⟨i, hi⟩ := List.getElem?_of_mem hq
      have := wo.short i q hi run hr
      have := getLt hi
      omega
    · obtain ⟨i, hi⟩ := List.getElem?_of_mem hs
      obtain ⟨b1, g1⟩ := R i s hi
      obtain ⟨st1, f1, lk⟩ := goS_look g1
      exact nameB_strOk ((rws _ (lookA_mem f1)).2.2 s (key_of' lk))
  walk_at "rd"
  refine use_breaking ask2.ar ask2.bt eW2 hlow2 stp fun v1 D1 d1 S1 u1 bd1 dv1 sh1 _ => ?_
  walk_at "rd"
  have t9 := t8.trans u1
  have ask1 := askX (B := D1) t9
  refine use_breaking ask1.ar ask1.bt eW1 hlow stp fun v2 D2 d2 S2 u2 bd2 dv2 _ _ => ?_
  obtain rfl := bd1.uniq wo.nd bd2
  walk_at "rd"
  refine x_neDat (dv1.nil u2) dv2 sh1 ?_
  have t10 := t9.trans u2
  clear ask2 ask1 dv1 dv2 bd1 bd2 sh1 u1 u2 t9
  walk_at "rd"
  refine use_breaking (askX t10).ar (askX t10).bt eW1 hlow stp fun v3 D3 d3 S3 u3 _ _ _ tl3 => ?_
  walk_at "rd"
  have t11 := t10.trans u3
  refine use_kept (askX t11).ar (askX t11).bt (by rw [eW1]; omega) fun v4 D4 S4 u4 tl4 => ?_
  walk_at "rd"
  refine ⟨Nat.le_of_ble_eq_true rfl, fun tp htp => ?_⟩
  have u5 : SX [] D4 (upd D4 tp (.tup [v3, v4])) := SX.new htp
  have e5 : (upd D4 tp (.tup [v3, v4])) tp = some (.tup [v3, v4]) := upd_same
  generalize upd D4 tp (.tup [v3, v4]) = D5 at u5 e5
  have tS : ∀ p ∈ S3 ++ S4, D2 p = none ∧ ∃ xs, D5 p = some (.lst xs) ∧ xs.length ≤ 200 := fun p hp => by
    rcases List.mem_append.mp hp with h | h
    · obtain ⟨h1, xs, h2, h3⟩ := tl3.2 p h
      exact ⟨h1, xs, (u4.trans u5) _ _ List.not_mem_nil h2, h3⟩
    · obtain ⟨h1, xs, h2, h3⟩ := tl4.2 p h
      exact ⟨u3.free h1 List.not_mem_nil, xs, u5 _ _ List.not_mem_nil h2, h3⟩
  have vS : ∀ v ∈ [v3, v4], v = .non ∨ ∃ p ∈ S3 ++ S4, v = .ref p := fun v hv => by
    simp only [List.mem_cons, List.not_mem_nil, or_false] at hv
    rcases hv with rfl | rfl
    · exact tl3.1.elim .inl fun ⟨p, h, e⟩ => .inr ⟨p, List.mem_append_left _ h, e⟩
    · exact tl4.1.elim .inl fun ⟨p, h, e⟩ => .inr ⟨p, List.mem_append_right _ h, e⟩
  have u25 := u3.trans (u4.trans u5)
  generalize S3 ++ S4 = SL at tS vS
  have ntp : tp ∉ SL := fun h => by
    obtain ⟨_, xs, e6, _⟩ := tS _ h
    rw [e5] at e6
    cases e6
  clear tl3 tl4 u3 u4 u5 t11 htp
  refine x_itt (sqT e5) ?_
  refine for_it walk_tup (fun i σ A => SX SL D5 A ∧ (∀ p ∈ SL, ∃ xs, A p = some (.lst xs) ∧ xs.length ≤ 200 + i) ∧ ∃ c,
      σ = [some (.ref a), some (.int hands), some (.ref nl), some (.ref d), some (.ref p), some (.ref wd), some (.int e), some (.ref lv), some (.ref b), some (.ref x), some (.ref y), some (.str sh), some (.ref x2), some (.ref y2), some (.ref F), c15, c, none, none, none, none, none, none])
    ⟨SX.refl _, (fun p h => by obtain ⟨_, xs, h1, h2⟩ := tS p h; exact ⟨xs, h1, h2⟩), none, rfl⟩ (fun i σ A _ h => sqT (h.1 _ _ ntp e5)) ?_ ?_
  · rintro i v σ A0 A hi ⟨sA, lA, c, rfl⟩ ⟨rfl, hv⟩
    have hi2 : i < 2 := hi
    walk_at "rd"
    rcases vS v (getMem hv) with rfl | ⟨p, hp, rfl⟩
    · refine x_false (by rfl) ?_
      walk_at "rd"
      exact ⟨sA, (fun p h => by obtain ⟨xs, h1, h2⟩ := lA p h; exact ⟨xs, h1, by omega⟩), _, rfl⟩
    · obtain ⟨xs, h1, h2⟩ := lA p hp
      refine x_true (by rfl) ?_
      walk_at "rd"
      refine ⟨.inl ⟨rfl, _, sqL h1⟩, ?_⟩
      walk_at "rd"
      refine ⟨p, _, _, rfl, rfl, h1, lt_size (by omega), ?_⟩
      refine ⟨sA.trans (SX.mut hp), fun q hq => ?_, _, rfl⟩
      by_cases c : q = p
      · rw [c, upd_same]
        exact ⟨_, rfl, by rw [List.length_append]; show xs.length + 1 ≤ _; omega⟩
      · rw [upd_ne c]
        obtain ⟨ys, h3, h4⟩ := lA q hq
        exact ⟨ys, h3, by omega⟩
  rintro σ D6 ⟨sA, _, c16, rfl⟩
  have t12 : SX [] H9 D6 := t10.trans (sx_nil_of (S := SL) ((nil_sx u25).trans sA) fun p hp => (tS p hp).1)
  clear t10 u25 sA tS vS ntp e5
  walk_at "rd"
  refine x_ixL (sqL (enlX t12)) an0 ?_
  walk_at "rd"
  refine ⟨x, y, d, wd, lv, b, n0, sts, tbl, tb, l, fa, fb, kv, kw, bk, rfl, askX t12, fun E1 r1 => ?_⟩
  refine ⟨true, rfl, ?_⟩
  have t13 := t12.trans r1
  clear r1 t12
  walk_at "rd"
  refine ⟨_, _, rfl, rep t13, okd, ?_⟩
  rw [hsh]
  walk_at "rd"
  refine x_false (by rw [decide_eq_true rfl]; rfl) ?_
  walk_at "rd"
  intro e0 he0
  have r2 : SX [] E1 (upd E1 e0 (.dK [])) := SX.new he0
  have f2 : (upd E1 e0 (.dK [])) e0 = some (.dK []) := upd_same
  generalize upd E1 e0 (.dK []) = E2 at r2 f2
  have t14 := t13.trans r2
  clear r2 t13 he0
  walk_at "rd"
  refine x_ixL (sqL (enlX t14)) an0 ?_
  walk_at "rd"
  refine ⟨x, y, d, wd, lv, e0, n0, sts, tbl, tb, l, fa, fb, [], kw, [], rfl, ask_mk (waX t14) tbT ok (wiX t14) srt wok perm (lvX t14) fr (rdX t14) (ewdX t14) kwX f2 .nil BookG.none, fun E3 r3 => ?_⟩
  refine ⟨true, rfl, ?_⟩
  have t15 := t14.trans r3
  clear f2 r3 t14
  walk_at "rd"
  intro td htd
  walk_at "rd"
  have s7 : SX [] E3 (upd E3 td (.dK [])) := SX.new htd
  have td7 : (upd E3 td (.dK [])) td = some (.dK []) := upd_same
  generalize upd E3 td (.dK []) = H7 at s7 td7
  have ewdL := ewdX (t15.trans s7)
  have nwt : td ≠ wd := fun e => by
    have := ewdX t15
    rw [← e, htd] at this
    cases this
  refine x_lockR (.inl ewdL) fun od HL eL ne => ?_
  walk_at "rd"
  refine x_itk eL ?_
  refine for_it (walk_keysR (kwX (B := H7))) (fun i σ A => SX [td] HL A ∧ ∃ (kv : List (Key × V)) (c : Option V), A td = some (.dK kv) ∧ KVs rI A kv (turnL (l.take i)) ∧
      σ = [some (.ref a), some (.int hands), some (.ref nl), some (.ref d), some (.ref p), some (.ref wd), some (.int e), some (.ref lv), some (.ref b), some (.ref x), some (.ref y), some (.str sh), some (.ref x2), some (.ref y2), some (.ref F), c15, c16, some (.ref td), c, none, none, none, none])
    ⟨SX.refl _, [], none, by rw [ne _ nwt]; exact td7, .nil, rfl⟩ (fun _ _ _ _ h => h.1 _ _ (by simpa using Ne.symm nwt) eL) ?_ ?_
  · rintro i z σ A0 A hi ⟨sA, kv, c, dA, kA, rfl⟩ ⟨rfl, z, v0, hz, rfl, _⟩
    obtain ⟨vv, e2, rfl⟩ := (kwX (B := H7)).in_ lnd (getMem hz)
    walk_at "rd"
    refine x_dg' (.inr ⟨od, sA _ _ (by simpa using Ne.symm nwt) eL⟩) e2 ?_
    walk_at "rd"
    have kl : kv.length = (turnL (l.take i)).length := Paired.length kA
    refine ⟨td, _, rfl, DPut.k (k := Sum.inr z.1) dA (lt_size ?_), ?_⟩
    · rw [kl]
      unfold turnL
      rw [List.length_map, List.length_take]
      omega
    rw [putK_fresh _ kA.keys (by rw [turn_keys]; exact key_fresh lnd hz)]
    refine ⟨sA.trans (SX.mut List.mem_cons_self), _, _, upd_same, ?_, rfl⟩
    have e3 : turnL (l.take (i + 1)) = turnL (l.take i) ++ [(z.1, -z.2)] := by
      unfold turnL
      rw [take_succ_of hz, List.map_append]
      rfl
    rw [e3]
    exact Paired.app kA (.cons ⟨rfl, rfl⟩ .nil)
  rintro σ A ⟨sA, kvT, c18, dA, kA, rfl⟩
  rw [List.take_length] at kA
  refine ⟨sA _ _ (by simpa using Ne.symm nwt) eL, ?_⟩
  have s6A : SX [] E3 (put A wd (H7 wd)) := sx_nil_of (S := [td]) ((nil_sx s7).trans (unlock_sx ne sA)) (by simp [htd])
  have tdA : (put A wd (H7 wd)) td = some (.dK kvT) := by rw [put_ne nwt]; exact dA
  generalize put A wd (H7 wd) = E4 at s6A tdA
  have t16 := t15.trans s6A
  have tperm : ((turnL l).map (·.1)).Perm (endsOf sts) := by rw [turn_keys]; exact perm
  have tok := turn_ok wok
  have kT : ∀ {B : Hp}, KVs rI B kvT (turnL l) := kvs_impJ (fun v _ a h => h) kA
  clear sA dA s6A ewdL s7 td7 eL ne kA t15 nwt htd
  walk_at "rd"
  refine x_ixT (lvX t16) (v := .int fa) (atI_nat (j := 0) rfl) ?_
  walk_at "rd"
  refine x_ixT (lvX t16) (v := .int fb) (atI_nat (j := 1) rfl) ?_
  refine x_I (.inl ⟨by decide, by decide⟩) ?_
  walk_at "rd"
  refine x_ixT (lvX t16) (v := .int fb) (atI_nat (j := 1) rfl) ?_
  walk_at "rd"
  refine ⟨Nat.le_of_ble_eq_true rfl, fun ls hls => ?_⟩
  have r5 : SX [] E4 (upd E4 ls (.tup [.int (fa - 2 * fb), .int fb])) := SX.new hls
  have els : (upd E4 ls (.tup [.int (fa - 2 * fb), .int fb])) ls = some (.tup [.int (fa - 2 * fb), .int fb]) := upd_same
  generalize upd E4 ls (.tup [.int (fa - 2 * fb), .int fb]) = E5 at r5 els
  have tdA := r5 _ _ List.not_mem_nil tdA
  have t17 := t16.trans r5
  clear r5 t16 hls
  walk_at "rd"
  refine x_ixL (sqL (enlX t17)) an0 ?_
  walk_at "rd"
  refine ⟨x, y, d, wd, ls, b, n0, sts, tbl, tb, l, _, _, kv, kw, bk, rfl, ask_mk (waX t17) tbT ok (wiX t17) srt wok perm (sqT els) (less_frac fr) (rdX t17) (ewdX t17) kwX (ebX t17) (kvX t17) bg, fun E6 r6 => ?_⟩
  refine ⟨true, rfl, ?_⟩
  have tdA := r6 _ _ List.not_mem_nil tdA
  have t18 := t17.trans r6
  clear els r6 t17
  walk_at "rd"
  show tCons _ _ _ _ _
  walk_at "rd"
  intro y3 dy3 hy3 hdy3 ndy3
  have u8a : SX [] E6 (upd (upd E6 dy3 (.own y3)) y3 (.ins T.a_Wish dy3 [])) := (SX.new hdy3).trans (SX.new (by rw [upd_ne (Ne.symm ndy3)]; exact hy3))
  have hy3' : ∀ b ∈ [y3], E6 b = none := fun b hb => by cases List.mem_singleton.mp hb; exact hy3
  refine ⟨y3, dy3, td, turnL l, kvT, -e, rfl, upd_same, u8a _ _ List.not_mem_nil tdA, kT, tok, fun E7 tb3 sy3 wi3 srt3 => ⟨rfl, ?_⟩⟩
  have u67 : SX [] E6 E7 := sx_nil_of (S := [y3]) ((nil_sx u8a).trans sy3) hy3'
  generalize decide (∀ z ∈ turnL l, -e ≤ z.2) = cm3 at wi3
  have tdA := u67 _ _ List.not_mem_nil tdA
  have t19 := t18.trans u67
  clear u8a sy3 hy3' hy3 hdy3 ndy3 u67 t18
  walk_at "rd"
  refine x_ixL (sqL (enlX t19)) an0 ?_
  walk_at "rd"
  refine ⟨x, y3, d, td, lv, b, n0, sts, tbl, tb3, turnL l, fa, fb, kv, kvT, bk, rfl, ask_mk (waX t19) tbT ok wi3 srt3 tok tperm (lvX t19) fr (rdX t19) tdA kT (ebX t19) (kvX t19) bg, fun E8 r8 => ?_⟩
  refine ⟨true, rfl, ?_⟩
  have t20 := t19.trans r8
  clear r8 t19 tdA wi3 srt3
  walk_at "rd"
  refine x_ixL (sqL (enlX t20)) an0 ?_
  walk_at "rd"
  refine ⟨x, y, d, wd, lv, b, n0, sts, tbl, tb, l, fa, fb, kv, kw, bk, rfl, askX t20, fun E9 r9 => ?_⟩
  refine ⟨true, rfl, ?_⟩
  have t21 := t20.trans r9
  clear r9 t20
  walk_at "rd"
  refine ⟨a, ns, 4, rfl, haX t21, hlen, by decide, by decide, fun p4 G1 hp4 v1 q4 => ?_⟩
  walk_at "rd"
  refine x_cdict (.inl (ebX (t21.trans v1))) fun b2 hb2 => ?_
  have v2 : SX [] G1 (upd G1 b2 (.dK kv)) := SX.new hb2
  have f2 : (upd G1 b2 (.dK kv)) b2 = some (.dK kv) := upd_same
  generalize upd G1 b2 (.dK kv) = G2 at v2 f2
  have v12 := v1.trans v2
  have q42 := q4.sx v2 List.not_mem_nil
  have hS : ∀ c ∈ [p4, b2], E9 c = none := fun c m => by
    rcases List.mem_cons.mp m with rfl | m
    · exact hp4
    · rw [List.mem_singleton.mp m]
      exact v1.free hb2 List.not_mem_nil
  walk_at "rd"
  refine ⟨p4, d, b2, sts, bk, kv, rfl, q42, mono_D (mono_stand K) _ _ _ _ (le_intoS v12.le0 hS) (rdX t21), h8, ok.len.1, rws, f2, kvX (t21.trans v12), bg, bl8, fun v dd G3 v3 _ thd => ?_⟩
  obtain ⟨⟨o, tg, knd⟩, smd⟩ := thd
  have t22 : SX [] H9 G3 := t21.trans (sx_nil_of (S := [p4, b2]) ((nil_sx v12).trans v3) hS)
  have tgX : ∀ {B : Hp}, SX [] G3 B → Thg P w B v dd o := fun s => (tg.mono (Ext.r fun b o h => (hid_at h).2)).mono (sx_ext s)
  clear v1 v2 v12 q4 q42 hS v3 f2 hp4 hb2 t21
  walk_at "rd"
  refine ⟨d, v, sts, dd, o, rfl, rdX t22, rws, tgX (SX.refl _), knd, smd, fun bb G4 v4 iff => ?_⟩
  have t23 := t22.trans v4
  have tgY : ∀ {B : Hp}, SX [] G4 B → Thg P w B v dd o := fun s => tgX (v4.trans s)
  clear t22 v4 tg tgX
  refine ⟨bb, rfl, ?_⟩
  refine x_joinN (fun σ' B' => B' = G4 ∧ σ' = [some (.ref a), some (.int hands), some (.ref nl), some (.ref d), some (.ref p), some (.ref wd), some (.int e), some (.ref lv), some (.ref b), some (.ref x), some (.ref y), some (.str sh), some (.ref x2), some (.ref y2), some (.ref F), c15, c16, some (.ref td), c18, some (.ref ls), some v, some (.str (dueT bb)), none])
    (fun c1 join => ?_) (fun c1 => ⟨rfl, by subst c1; rfl⟩) ?_
  · refine x_asg (x_c (x_name (by rfl) ?_))
    exact join _ _ ⟨rfl, by subst c1; rfl⟩
  rintro σ' B' ⟨rfl, rfl⟩
  have iffT : bb = true ↔ isBk tbl dd := iff.trans ⟨fun ⟨ds, e, h⟩ => ⟨ds, e, (bookD_tbl tbT).mpr h⟩, fun ⟨ds, e, h⟩ => ⟨ds, e, (bookD_tbl tbT).mp h⟩⟩
  have shut : ShutAt tbl n0 := shut_of tbT C ok.st
  walk_at "rd"
  refine x_rng1 (by decide) (by decide) ?_
  refine for_it walk_rng (fun i σ A => SX [] B' A ∧ ∃ c,
      σ = [some (.ref a), some (.int hands), some (.ref nl), some (.ref d), some (.ref p), some (.ref wd), some (.int e), some (.ref lv), some (.ref b), some (.ref x), some (.ref y), some (.str sh), some (.ref x2), some (.ref y2), some (.ref F), c15, c16, some (.ref td), c18, some (.ref ls), some v, some (.str (dueT bb)), c])
    ⟨SX.refl _, none, rfl⟩ (fun _ _ _ _ _ => trivial) ?_ ?_
  · rintro j z σ A0 A hj ⟨sA, c, rfl⟩ ⟨rfl, rfl⟩
    have tA := t23.trans sA
    walk_at "rd"
    have ar : BkArg P w T A x y lv v n0 tbl tb fa fb dd := by
      obtain ⟨wa, wi, hlv, to, tw, fr, _⟩ := (askX tA).ar
      exact ⟨wa, wi, hlv, to, tw, fr, o, tgY sA, knd⟩
    refine ⟨_, x, y, lv, v, n0, tbl, tb, fa, fb, dd, rfl, ar, shut, fun b9 G5 iff9 s5 => ?_⟩
    obtain rfl : bb = b9 := by
      have := iffT.trans iff9.symm
      cases bb <;> cases b9 <;> simp_all
    walk_at "rd"
    refine x_false (by rw [decide_eq_true rfl]; rfl) ?_
    walk_at "rd"
    exact ⟨sA.trans s5, _, rfl⟩
  · rintro σ A ⟨sA, c, rfl⟩
    have tA := t23.trans sA
    walk_at "rd"
    exact ⟨x, y, d, wd, lv, b, n0, sts, tbl, tb, l, fa, fb, kv, kw, bk, rfl, askX tA, fun H9 _ => k H9⟩
end
end M

namespace M
open PySem L2
def spLaw (K : PySem.W.Frag) : Sp := fun vs H Q _ => ∃ (a : Addr) (ns : List Int), vs = [.ref a] ∧ SqL K H a (ns.map V.int) ∧ ns.length ≤ 10000 ∧ ∀ H', Q (.bl true) H'
theorem all_mk {l : PySem.W.OpenLaw} [SupX.PX l.prog] {w : World} {K : PySem.W.Frag} {h : Heap} {mg : Str → Option Value} {fa : Addr} (X : K.In h) (G : h.Ns mainGlobals mg) (hfa : mg "law" = some (.ref fa))
    {f_is_integer f_is_name f_is_pair f_is_moves f_is_draws f_is_stand f_are_stands f_copied f_leads f_is_ringless f_Work_init f_Work_row f_Work_kind f_Work_mover f_Work_steps f_Work_to f_law_open f_law_draw f_law_names f_law_target f_law_menu f_law_stand f_law_stands f_law_build f_law_steps f_law_to f_law_mover f_law_worths f_law_endless f_law_level f_common_divisor f_is_fraction f_is_value f_are_worths f_Wish_init f_Wish_worths f_suited f_is_row f_passed f_movers f_is_entry f_is_book f_let_steps f_let_ways f_way_to f_is_below f_checked_book f_breaking f_keeps f_kept_stands f_first_breach f_law_book f_law_let f_law_reached f_law_same f_law_breaks f_law_asked f_law_known_breach f_law_turned f_law_turned_stands f_law_entry f_law_right f_law_spoiled f_law_refused f_law q_Work q_Wish : Addr}
    {od_is_integer an_is_integer od_is_name an_is_name od_is_pair an_is_pair od_is_moves an_is_moves od_is_draws an_is_draws od_is_stand an_is_stand od_are_stands an_are_stands od_copied an_copied od_leads an_leads od_is_ringless an_is_ringless od_Work_init an_Work_init od_Work_row an_Work_row od_Work_kind an_Work_kind od_Work_mover an_Work_mover od_Work_steps an_Work_steps od_Work_to an_Work_to od_law_open an_law_open od_law_draw an_law_draw od_law_names an_law_names od_law_target an_law_target od_law_menu an_law_menu od_law_stand an_law_stand od_law_stands an_law_stands od_law_build an_law_build od_law_steps an_law_steps od_law_to an_law_to od_law_mover an_law_mover od_law_worths an_law_worths od_law_endless an_law_endless od_law_level an_law_level od_common_divisor an_common_divisor od_is_fraction an_is_fraction od_is_value an_is_value od_are_worths an_are_worths od_Wish_init an_Wish_init od_Wish_worths an_Wish_worths od_suited an_suited od_is_row an_is_row od_passed an_passed od_movers an_movers od_is_entry an_is_entry od_is_book an_is_book od_let_steps an_let_steps od_let_ways an_let_ways od_way_to an_way_to od_is_below an_is_below od_checked_book an_checked_book od_breaking an_breaking od_keeps an_keeps od_kept_stands an_kept_stands od_first_breach an_first_breach od_law_book an_law_book od_law_let an_law_let od_law_reached an_law_reached od_law_same an_law_same od_law_breaks an_law_breaks od_law_asked an_law_asked od_law_known_breach an_law_known_breach od_law_turned an_law_turned od_law_turned_stands an_law_turned_stands od_law_entry an_law_entry od_law_right an_law_right od_law_spoiled an_law_spoiled od_law_refused an_law_refused od_law an_law : Option Addr} {sl_is_integer sl_is_name sl_is_pair sl_is_moves sl_is_draws sl_is_stand sl_are_stands sl_copied sl_leads sl_is_ringless sl_Work_init sl_Work_row sl_Work_kind sl_Work_mover sl_Work_steps sl_Work_to sl_law_open sl_law_draw sl_law_names sl_law_target sl_law_menu sl_law_stand sl_law_stands sl_law_build sl_law_steps sl_law_to sl_law_mover sl_law_worths sl_law_endless sl_law_level sl_common_divisor sl_is_fraction sl_is_value sl_are_worths sl_Wish_init sl_Wish_worths sl_suited sl_is_row sl_passed sl_movers sl_is_entry sl_is_book sl_let_steps sl_let_ways sl_way_to sl_is_below sl_checked_book sl_breaking sl_keeps sl_kept_stands sl_first_breach sl_law_book sl_law_let sl_law_reached sl_law_same sl_law_breaks sl_law_asked sl_law_known_breach sl_law_turned sl_law_turned_stands sl_law_entry sl_law_right sl_law_spoiled sl_law_refused sl_law : Array (Option Value)}
    {oc_is_integer kV_is_integer dc_is_integer pm_is_integer cd_is_integer ct_is_integer oc_is_name kV_is_name dc_is_name pm_is_name cd_is_name ct_is_name oc_is_pair kV_is_pair dc_is_pair pm_is_pair cd_is_pair ct_is_pair oc_is_moves kV_is_moves dc_is_moves pm_is_moves cd_is_moves ct_is_moves oc_is_draws kV_is_draws dc_is_draws pm_is_draws cd_is_draws ct_is_draws oc_is_stand kV_is_stand dc_is_stand pm_is_stand cd_is_stand ct_is_stand oc_are_stands kV_are_stands dc_are_stands pm_are_stands cd_are_stands ct_are_stands oc_copied kV_copied dc_copied pm_copied cd_copied ct_copied oc_leads kV_leads dc_leads pm_leads cd_leads ct_leads oc_is_ringless kV_is_ringless dc_is_ringless pm_is_ringless cd_is_ringless ct_is_ringless oc_Work_init kV_Work_init dc_Work_init pm_Work_init cd_Work_init ct_Work_init oc_Work_row kV_Work_row dc_Work_row pm_Work_row cd_Work_row ct_Work_row oc_Work_kind kV_Work_kind dc_Work_kind pm_Work_kind cd_Work_kind ct_Work_kind oc_Work_mover kV_Work_mover dc_Work_mover pm_Work_mover cd_Work_mover ct_Work_mover oc_Work_steps kV_Work_steps dc_Work_steps pm_Work_steps cd_Work_steps ct_Work_steps oc_Work_to kV_Work_to dc_Work_to pm_Work_to cd_Work_to ct_Work_to oc_law_open kV_law_open dc_law_open pm_law_open cd_law_open ct_law_open oc_law_draw kV_law_draw dc_law_draw pm_law_draw cd_law_draw ct_law_draw oc_law_names kV_law_names dc_law_names pm_law_names cd_law_names ct_law_names oc_law_target kV_law_target dc_law_target pm_law_target cd_law_target ct_law_target oc_law_menu kV_law_menu dc_law_menu pm_law_menu cd_law_menu ct_law_menu oc_law_stand kV_law_stand dc_law_stand pm_law_stand cd_law_stand ct_law_stand oc_law_stands kV_law_stands dc_law_stands pm_law_stands cd_law_stands ct_law_stands oc_law_build kV_law_build dc_law_build pm_law_build cd_law_build ct_law_build oc_law_steps kV_law_steps dc_law_steps pm_law_steps cd_law_steps ct_law_steps oc_law_to kV_law_to dc_law_to pm_law_to cd_law_to ct_law_to oc_law_mover kV_law_mover dc_law_mover pm_law_mover cd_law_mover ct_law_mover oc_law_worths kV_law_worths dc_law_worths pm_law_worths cd_law_worths ct_law_worths oc_law_endless kV_law_endless dc_law_endless pm_law_endless cd_law_endless ct_law_endless oc_law_level kV_law_level dc_law_level pm_law_level cd_law_level ct_law_level oc_common_divisor kV_common_divisor dc_common_divisor pm_common_divisor cd_common_divisor ct_common_divisor oc_is_fraction kV_is_fraction dc_is_fraction pm_is_fraction cd_is_fraction ct_is_fraction oc_is_value kV_is_value dc_is_value pm_is_value cd_is_value ct_is_value oc_are_worths kV_are_worths dc_are_worths pm_are_worths cd_are_worths ct_are_worths oc_Wish_init kV_Wish_init dc_Wish_init pm_Wish_init cd_Wish_init ct_Wish_init oc_Wish_worths kV_Wish_worths dc_Wish_worths pm_Wish_worths cd_Wish_worths ct_Wish_worths oc_suited kV_suited dc_suited pm_suited cd_suited ct_suited oc_is_row kV_is_row dc_is_row pm_is_row cd_is_row ct_is_row oc_passed kV_passed dc_passed pm_passed cd_passed ct_passed oc_movers kV_movers dc_movers pm_movers cd_movers ct_movers oc_is_entry kV_is_entry dc_is_entry pm_is_entry cd_is_entry ct_is_entry oc_is_book kV_is_book dc_is_book pm_is_book cd_is_book ct_is_book oc_let_steps kV_let_steps dc_let_steps pm_let_steps cd_let_steps ct_let_steps oc_let_ways kV_let_ways dc_let_ways pm_let_ways cd_let_ways ct_let_ways oc_way_to kV_way_to dc_way_to pm_way_to cd_way_to ct_way_to oc_is_below kV_is_below dc_is_below pm_is_below cd_is_below ct_is_below oc_checked_book kV_checked_book dc_checked_book pm_checked_book cd_checked_book ct_checked_book oc_breaking kV_breaking dc_breaking pm_breaking cd_breaking ct_breaking oc_keeps kV_keeps dc_keeps pm_keeps cd_keeps ct_keeps oc_kept_stands kV_kept_stands dc_kept_stands pm_kept_stands cd_kept_stands ct_kept_stands oc_first_breach kV_first_breach dc_first_breach pm_first_breach cd_first_breach ct_first_breach oc_law_book kV_law_book dc_law_book pm_law_book cd_law_book ct_law_book oc_law_let kV_law_let dc_law_let pm_law_let cd_law_let ct_law_let oc_law_reached kV_law_reached dc_law_reached pm_law_reached cd_law_reached ct_law_reached oc_law_same kV_law_same dc_law_same pm_law_same cd_law_same ct_law_same oc_law_breaks kV_law_breaks dc_law_breaks pm_law_breaks cd_law_breaks ct_law_breaks oc_law_asked kV_law_asked dc_law_asked pm_law_asked cd_law_asked ct_law_asked oc_law_known_breach kV_law_known_breach dc_law_known_breach pm_law_known_breach cd_law_known_breach ct_law_known_breach oc_law_turned kV_law_turned dc_law_turned pm_law_turned cd_law_turned ct_law_turned oc_law_turned_stands kV_law_turned_stands dc_law_turned_stands pm_law_turned_stands cd_law_turned_stands ct_law_turned_stands oc_law_entry kV_law_entry dc_law_entry pm_law_entry cd_law_entry ct_law_entry oc_law_right kV_law_right dc_law_right pm_law_right cd_law_right ct_law_right oc_law_spoiled kV_law_spoiled dc_law_spoiled pm_law_spoiled cd_law_spoiled ct_law_spoiled oc_law_refused kV_law_refused dc_law_refused pm_law_refused cd_law_refused ct_law_refused oc_law kV_law dc_law pm_law cd_law ct_law : Value}
    {p_Wish_worths : Addr} {r_Wish_worths : List Value}
    (a_Work : PySem.W.nsIn K mainGlobals "Work" = some (some (.ref q_Work)))
    (a_Wish : PySem.W.nsIn K mainGlobals "Wish" = some (some (.ref q_Wish)))
    (a_is_integer : PySem.W.nsIn K mainGlobals "is_integer" = some (some (.ref f_is_integer)))
    (l_is_integer : K.lookup f_is_integer = some ⟨oc_is_integer, od_is_integer, .func (PySem.W.fnOf "is_integer" "is_integer" (defArgs s_is_integer) (defBody s_is_integer) (defScope s_is_integer) .none kV_is_integer dc_is_integer pm_is_integer an_is_integer cd_is_integer ct_is_integer), sl_is_integer⟩) (c_is_integer : PySem.W.codeIn K cd_is_integer "is_integer" = true) (k_is_integer : PySem.W.keepIn K (.ref f_is_integer) = true)
    (a_is_name : PySem.W.nsIn K mainGlobals "is_name" = some (some (.ref f_is_name)))
    (l_is_name : K.lookup f_is_name = some ⟨oc_is_name, od_is_name, .func (PySem.W.fnOf "is_name" "is_name" (defArgs s_is_name) (defBody s_is_name) (defScope s_is_name) .none kV_is_name dc_is_name pm_is_name an_is_name cd_is_name ct_is_name), sl_is_name⟩) (c_is_name : PySem.W.codeIn K cd_is_name "is_name" = true) (k_is_name : PySem.W.keepIn K (.ref f_is_name) = true)
    (a_is_pair : PySem.W.nsIn K mainGlobals "is_pair" = some (some (.ref f_is_pair)))
    (l_is_pair : K.lookup f_is_pair = some ⟨oc_is_pair, od_is_pair, .func (PySem.W.fnOf "is_pair" "is_pair" (defArgs s_is_pair) (defBody s_is_pair) (defScope s_is_pair) .none kV_is_pair dc_is_pair pm_is_pair an_is_pair cd_is_pair ct_is_pair), sl_is_pair⟩) (c_is_pair : PySem.W.codeIn K cd_is_pair "is_pair" = true) (k_is_pair : PySem.W.keepIn K (.ref f_is_pair) = true)
    (a_is_moves : PySem.W.nsIn K mainGlobals "is_moves" = some (some (.ref f_is_moves)))
    (l_is_moves : K.lookup f_is_moves = some ⟨oc_is_moves, od_is_moves, .func (PySem.W.fnOf "is_moves" "is_moves" (defArgs s_is_moves) (defBody s_is_moves) (defScope s_is_moves) .none kV_is_moves dc_is_moves pm_is_moves an_is_moves cd_is_moves ct_is_moves), sl_is_moves⟩) (c_is_moves : PySem.W.codeIn K cd_is_moves "is_moves" = true) (k_is_moves : PySem.W.keepIn K (.ref f_is_moves) = true)
    (a_is_draws : PySem.W.nsIn K mainGlobals "is_draws" = some (some (.ref f_is_draws)))
    (l_is_draws : K.lookup f_is_draws = some ⟨oc_is_draws, od_is_draws, .func (PySem.W.fnOf "is_draws" "is_draws" (defArgs s_is_draws) (defBody s_is_draws) (defScope s_is_draws) .none kV_is_draws dc_is_draws pm_is_draws an_is_draws cd_is_draws ct_is_draws), sl_is_draws⟩) (c_is_draws : PySem.W.codeIn K cd_is_draws "is_draws" = true) (k_is_draws : PySem.W.keepIn K (.ref f_is_draws) = true)
    (a_is_stand : PySem.W.nsIn K mainGlobals "is_stand" = some (some (.ref f_is_stand)))
    (l_is_stand : K.lookup f_is_stand = some ⟨oc_is_stand, od_is_stand, .func (PySem.W.fnOf "is_stand" "is_stand" (defArgs s_is_stand) (defBody s_is_stand) (defScope s_is_stand) .none kV_is_stand dc_is_stand pm_is_stand an_is_stand cd_is_stand ct_is_stand), sl_is_stand⟩) (c_is_stand : PySem.W.codeIn K cd_is_stand "is_stand" = true) (k_is_stand : PySem.W.keepIn K (.ref f_is_stand) = true)
    (a_are_stands : PySem.W.nsIn K mainGlobals "are_stands" = some (some (.ref f_are_stands)))
    (l_are_stands : K.lookup f_are_stands = some ⟨oc_are_stands, od_are_stands, .func (PySem.W.fnOf "are_stands" "are_stands" (defArgs s_are_stands) (defBody s_are_stands) (defScope s_are_stands) .none kV_are_stands dc_are_stands pm_are_stands an_are_stands cd_are_stands ct_are_stands), sl_are_stands⟩) (c_are_stands : PySem.W.codeIn K cd_are_stands "are_stands" = true) (k_are_stands : PySem.W.keepIn K (.ref f_are_stands) = true)
    (a_copied : PySem.W.nsIn K mainGlobals "copied" = some (some (.ref f_copied)))
    (l_copied : K.lookup f_copied = some ⟨oc_copied, od_copied, .func (PySem.W.fnOf "copied" "copied" (defArgs s_copied) (defBody s_copied) (defScope s_copied) .none kV_copied dc_copied pm_copied an_copied cd_copied ct_copied), sl_copied⟩) (c_copied : PySem.W.codeIn K cd_copied "copied" = true) (k_copied : PySem.W.keepIn K (.ref f_copied) = true)
    (a_leads : PySem.W.nsIn K mainGlobals "leads" = some (some (.ref f_leads)))
    (l_leads : K.lookup f_leads = some ⟨oc_leads, od_leads, .func (PySem.W.fnOf "leads" "leads" (defArgs s_leads) (defBody s_leads) (defScope s_leads) .none kV_leads dc_leads pm_leads an_leads cd_leads ct_leads), sl_leads⟩) (c_leads : PySem.W.codeIn K cd_leads "leads" = true) (k_leads : PySem.W.keepIn K (.ref f_leads) = true)
    (a_is_ringless : PySem.W.nsIn K mainGlobals "is_ringless" = some (some (.ref f_is_ringless)))
    (l_is_ringless : K.lookup f_is_ringless = some ⟨oc_is_ringless, od_is_ringless, .func (PySem.W.fnOf "is_ringless" "is_ringless" (defArgs s_is_ringless) (defBody s_is_ringless) (defScope s_is_ringless) .none kV_is_ringless dc_is_ringless pm_is_ringless an_is_ringless cd_is_ringless ct_is_ringless), sl_is_ringless⟩) (c_is_ringless : PySem.W.codeIn K cd_is_ringless "is_ringless" = true) (k_is_ringless : PySem.W.keepIn K (.ref f_is_ringless) = true)
    (a_Work_init : PySem.W.findIn K (.ref q_Work) "__init__" = some (some (.ref f_Work_init))) (i_Work_init : PySem.W.isFn K (.ref f_Work_init) = true)
    (l_Work_init : K.lookup f_Work_init = some ⟨oc_Work_init, od_Work_init, .func (PySem.W.fnOf "__init__" "Work.__init__" (defArgs s_Work_init) (defBody s_Work_init) (defScope s_Work_init) .none kV_Work_init dc_Work_init pm_Work_init an_Work_init cd_Work_init ct_Work_init), sl_Work_init⟩) (c_Work_init : PySem.W.codeIn K cd_Work_init "Work.__init__" = true) (k_Work_init : PySem.W.keepIn K (.ref f_Work_init) = true)
    (a_Work_row : PySem.W.findIn K (.ref q_Work) "row" = some (some (.ref f_Work_row))) (i_Work_row : PySem.W.isFn K (.ref f_Work_row) = true)
    (l_Work_row : K.lookup f_Work_row = some ⟨oc_Work_row, od_Work_row, .func (PySem.W.fnOf "row" "Work.row" (defArgs s_Work_row) (defBody s_Work_row) (defScope s_Work_row) .none kV_Work_row dc_Work_row pm_Work_row an_Work_row cd_Work_row ct_Work_row), sl_Work_row⟩) (c_Work_row : PySem.W.codeIn K cd_Work_row "Work.row" = true) (k_Work_row : PySem.W.keepIn K (.ref f_Work_row) = true)
    (a_Work_kind : PySem.W.findIn K (.ref q_Work) "kind" = some (some (.ref f_Work_kind))) (i_Work_kind : PySem.W.isFn K (.ref f_Work_kind) = true)
    (l_Work_kind : K.lookup f_Work_kind = some ⟨oc_Work_kind, od_Work_kind, .func (PySem.W.fnOf "kind" "Work.kind" (defArgs s_Work_kind) (defBody s_Work_kind) (defScope s_Work_kind) .none kV_Work_kind dc_Work_kind pm_Work_kind an_Work_kind cd_Work_kind ct_Work_kind), sl_Work_kind⟩) (c_Work_kind : PySem.W.codeIn K cd_Work_kind "Work.kind" = true) (k_Work_kind : PySem.W.keepIn K (.ref f_Work_kind) = true)
    (a_Work_mover : PySem.W.findIn K (.ref q_Work) "mover" = some (some (.ref f_Work_mover))) (i_Work_mover : PySem.W.isFn K (.ref f_Work_mover) = true)
    (l_Work_mover : K.lookup f_Work_mover = some ⟨oc_Work_mover, od_Work_mover, .func (PySem.W.fnOf "mover" "Work.mover" (defArgs s_Work_mover) (defBody s_Work_mover) (defScope s_Work_mover) .none kV_Work_mover dc_Work_mover pm_Work_mover an_Work_mover cd_Work_mover ct_Work_mover), sl_Work_mover⟩) (c_Work_mover : PySem.W.codeIn K cd_Work_mover "Work.mover" = true) (k_Work_mover : PySem.W.keepIn K (.ref f_Work_mover) = true)
    (a_Work_steps : PySem.W.findIn K (.ref q_Work) "steps" = some (some (.ref f_Work_steps))) (i_Work_steps : PySem.W.isFn K (.ref f_Work_steps) = true)
    (l_Work_steps : K.lookup f_Work_steps = some ⟨oc_Work_steps, od_Work_steps, .func (PySem.W.fnOf "steps" "Work.steps" (defArgs s_Work_steps) (defBody s_Work_steps) (defScope s_Work_steps) .none kV_Work_steps dc_Work_steps pm_Work_steps an_Work_steps cd_Work_steps ct_Work_steps), sl_Work_steps⟩) (c_Work_steps : PySem.W.codeIn K cd_Work_steps "Work.steps" = true) (k_Work_steps : PySem.W.keepIn K (.ref f_Work_steps) = true)
    (a_Work_to : PySem.W.findIn K (.ref q_Work) "to" = some (some (.ref f_Work_to))) (i_Work_to : PySem.W.isFn K (.ref f_Work_to) = true)
    (l_Work_to : K.lookup f_Work_to = some ⟨oc_Work_to, od_Work_to, .func (PySem.W.fnOf "to" "Work.to" (defArgs s_Work_to) (defBody s_Work_to) (defScope s_Work_to) .none kV_Work_to dc_Work_to pm_Work_to an_Work_to cd_Work_to ct_Work_to), sl_Work_to⟩) (c_Work_to : PySem.W.codeIn K cd_Work_to "Work.to" = true) (k_Work_to : PySem.W.keepIn K (.ref f_Work_to) = true)
    (a_law_open : PySem.W.nsIn K mainGlobals "_law_open" = some (some (.ref f_law_open)))
    (l_law_open : K.lookup f_law_open = some ⟨oc_law_open, od_law_open, .func (PySem.W.fnOf "_law_open" "_law_open" (defArgs s_law_open) (defBody s_law_open) (defScope s_law_open) .none kV_law_open dc_law_open pm_law_open an_law_open cd_law_open ct_law_open), sl_law_open⟩) (c_law_open : PySem.W.codeIn K cd_law_open "_law_open" = true) (k_law_open : PySem.W.keepIn K (.ref f_law_open) = true)
    (a_law_draw : PySem.W.nsIn K mainGlobals "_law_draw" = some (some (.ref f_law_draw)))
    (l_law_draw : K.lookup f_law_draw = some ⟨oc_law_draw, od_law_draw, .func (PySem.W.fnOf "_law_draw" "_law_draw" (defArgs s_law_draw) (defBody s_law_draw) (defScope s_law_draw) .none kV_law_draw dc_law_draw pm_law_draw an_law_draw cd_law_draw ct_law_draw), sl_law_draw⟩) (c_law_draw : PySem.W.codeIn K cd_law_draw "_law_draw" = true) (k_law_draw : PySem.W.keepIn K (.ref f_law_draw) = true)
    (a_law_names : PySem.W.nsIn K mainGlobals "_law_names" = some (some (.ref f_law_names)))
    (l_law_names : K.lookup f_law_names = some ⟨oc_law_names, od_law_names, .func (PySem.W.fnOf "_law_names" "_law_names" (defArgs s_law_names) (defBody s_law_names) (defScope s_law_names) .none kV_law_names dc_law_names pm_law_names an_law_names cd_law_names ct_law_names), sl_law_names⟩) (c_law_names : PySem.W.codeIn K cd_law_names "_law_names" = true) (k_law_names : PySem.W.keepIn K (.ref f_law_names) = true)
    (a_law_target : PySem.W.nsIn K mainGlobals "_law_target" = some (some (.ref f_law_target)))
    (l_law_target : K.lookup f_law_target = some ⟨oc_law_target, od_law_target, .func (PySem.W.fnOf "_law_target" "_law_target" (defArgs s_law_target) (defBody s_law_target) (defScope s_law_target) .none kV_law_target dc_law_target pm_law_target an_law_target cd_law_target ct_law_target), sl_law_target⟩) (c_law_target : PySem.W.codeIn K cd_law_target "_law_target" = true) (k_law_target : PySem.W.keepIn K (.ref f_law_target) = true)
    (a_law_menu : PySem.W.nsIn K mainGlobals "_law_menu" = some (some (.ref f_law_menu)))
    (l_law_menu : K.lookup f_law_menu = some ⟨oc_law_menu, od_law_menu, .func (PySem.W.fnOf "_law_menu" "_law_menu" (defArgs s_law_menu) (defBody s_law_menu) (defScope s_law_menu) .none kV_law_menu dc_law_menu pm_law_menu an_law_menu cd_law_menu ct_law_menu), sl_law_menu⟩) (c_law_menu : PySem.W.codeIn K cd_law_menu "_law_menu" = true) (k_law_menu : PySem.W.keepIn K (.ref f_law_menu) = true)
    (a_law_stand : PySem.W.nsIn K mainGlobals "_law_stand" = some (some (.ref f_law_stand)))
    (l_law_stand : K.lookup f_law_stand = some ⟨oc_law_stand, od_law_stand, .func (PySem.W.fnOf "_law_stand" "_law_stand" (defArgs s_law_stand) (defBody s_law_stand) (defScope s_law_stand) .none kV_law_stand dc_law_stand pm_law_stand an_law_stand cd_law_stand ct_law_stand), sl_law_stand⟩) (c_law_stand : PySem.W.codeIn K cd_law_stand "_law_stand" = true) (k_law_stand : PySem.W.keepIn K (.ref f_law_stand) = true)
    (a_law_stands : PySem.W.nsIn K mainGlobals "_law_stands" = some (some (.ref f_law_stands)))
    (l_law_stands : K.lookup f_law_stands = some ⟨oc_law_stands, od_law_stands, .func (PySem.W.fnOf "_law_stands" "_law_stands" (defArgs s_law_stands) (defBody s_law_stands) (defScope s_law_stands) .none kV_law_stands dc_law_stands pm_law_stands an_law_stands cd_law_stands ct_law_stands), sl_law_stands⟩) (c_law_stands : PySem.W.codeIn K cd_law_stands "_law_stands" = true) (k_law_stands : PySem.W.keepIn K (.ref f_law_stands) = true)
    (a_law_build : PySem.W.nsIn K mainGlobals "_law_build" = some (some (.ref f_law_build)))
    (l_law_build : K.lookup f_law_build = some ⟨oc_law_build, od_law_build, .func (PySem.W.fnOf "_law_build" "_law_build" (defArgs s_law_build) (defBody s_law_build) (defScope s_law_build) .none kV_law_build dc_law_build pm_law_build an_law_build cd_law_build ct_law_build), sl_law_build⟩) (c_law_build : PySem.W.codeIn K cd_law_build "_law_build" = true) (k_law_build : PySem.W.keepIn K (.ref f_law_build) = true)
    (a_law_steps : PySem.W.nsIn K mainGlobals "_law_steps" = some (some (.ref f_law_steps)))
    (l_law_steps : K.lookup f_law_steps = some ⟨oc_law_steps, od_law_steps, .func (PySem.W.fnOf "_law_steps" "_law_steps" (defArgs s_law_steps) (defBody s_law_steps) (defScope s_law_steps) .none kV_law_steps dc_law_steps pm_law_steps an_law_steps cd_law_steps ct_law_steps), sl_law_steps⟩) (c_law_steps : PySem.W.codeIn K cd_law_steps "_law_steps" = true) (k_law_steps : PySem.W.keepIn K (.ref f_law_steps) = true)
    (a_law_to : PySem.W.nsIn K mainGlobals "_law_to" = some (some (.ref f_law_to)))
    (l_law_to : K.lookup f_law_to = some ⟨oc_law_to, od_law_to, .func (PySem.W.fnOf "_law_to" "_law_to" (defArgs s_law_to) (defBody s_law_to) (defScope s_law_to) .none kV_law_to dc_law_to pm_law_to an_law_to cd_law_to ct_law_to), sl_law_to⟩) (c_law_to : PySem.W.codeIn K cd_law_to "_law_to" = true) (k_law_to : PySem.W.keepIn K (.ref f_law_to) = true)
    (a_law_mover : PySem.W.nsIn K mainGlobals "_law_mover" = some (some (.ref f_law_mover)))
    (l_law_mover : K.lookup f_law_mover = some ⟨oc_law_mover, od_law_mover, .func (PySem.W.fnOf "_law_mover" "_law_mover" (defArgs s_law_mover) (defBody s_law_mover) (defScope s_law_mover) .none kV_law_mover dc_law_mover pm_law_mover an_law_mover cd_law_mover ct_law_mover), sl_law_mover⟩) (c_law_mover : PySem.W.codeIn K cd_law_mover "_law_mover" = true) (k_law_mover : PySem.W.keepIn K (.ref f_law_mover) = true)
    (a_law_worths : PySem.W.nsIn K mainGlobals "_law_worths" = some (some (.ref f_law_worths)))
    (l_law_worths : K.lookup f_law_worths = some ⟨oc_law_worths, od_law_worths, .func (PySem.W.fnOf "_law_worths" "_law_worths" (defArgs s_law_worths) (defBody s_law_worths) (defScope s_law_worths) .none kV_law_worths dc_law_worths pm_law_worths an_law_worths cd_law_worths ct_law_worths), sl_law_worths⟩) (c_law_worths : PySem.W.codeIn K cd_law_worths "_law_worths" = true) (k_law_worths : PySem.W.keepIn K (.ref f_law_worths) = true)
    (a_law_endless : PySem.W.nsIn K mainGlobals "_law_endless" = some (some (.ref f_law_endless)))
    (l_law_endless : K.lookup f_law_endless = some ⟨oc_law_endless, od_law_endless, .func (PySem.W.fnOf "_law_endless" "_law_endless" (defArgs s_law_endless) (defBody s_law_endless) (defScope s_law_endless) .none kV_law_endless dc_law_endless pm_law_endless an_law_endless cd_law_endless ct_law_endless), sl_law_endless⟩) (c_law_endless : PySem.W.codeIn K cd_law_endless "_law_endless" = true) (k_law_endless : PySem.W.keepIn K (.ref f_law_endless) = true)
    (a_law_level : PySem.W.nsIn K mainGlobals "_law_level" = some (some (.ref f_law_level)))
    (l_law_level : K.lookup f_law_level = some ⟨oc_law_level, od_law_level, .func (PySem.W.fnOf "_law_level" "_law_level" (defArgs s_law_level) (defBody s_law_level) (defScope s_law_level) .none kV_law_level dc_law_level pm_law_level an_law_level cd_law_level ct_law_level), sl_law_level⟩) (c_law_level : PySem.W.codeIn K cd_law_level "_law_level" = true) (k_law_level : PySem.W.keepIn K (.ref f_law_level) = true)
    (a_common_divisor : PySem.W.nsIn K mainGlobals "common_divisor" = some (some (.ref f_common_divisor)))
    (l_common_divisor : K.lookup f_common_divisor = some ⟨oc_common_divisor, od_common_divisor, .func (PySem.W.fnOf "common_divisor" "common_divisor" (defArgs s_common_divisor) (defBody s_common_divisor) (defScope s_common_divisor) .none kV_common_divisor dc_common_divisor pm_common_divisor an_common_divisor cd_common_divisor ct_common_divisor), sl_common_divisor⟩) (c_common_divisor : PySem.W.codeIn K cd_common_divisor "common_divisor" = true) (k_common_divisor : PySem.W.keepIn K (.ref f_common_divisor) = true)
    (a_is_fraction : PySem.W.nsIn K mainGlobals "is_fraction" = some (some (.ref f_is_fraction)))
    (l_is_fraction : K.lookup f_is_fraction = some ⟨oc_is_fraction, od_is_fraction, .func (PySem.W.fnOf "is_fraction" "is_fraction" (defArgs s_is_fraction) (defBody s_is_fraction) (defScope s_is_fraction) .none kV_is_fraction dc_is_fraction pm_is_fraction an_is_fraction cd_is_fraction ct_is_fraction), sl_is_fraction⟩) (c_is_fraction : PySem.W.codeIn K cd_is_fraction "is_fraction" = true) (k_is_fraction : PySem.W.keepIn K (.ref f_is_fraction) = true)
    (a_is_value : PySem.W.nsIn K mainGlobals "is_value" = some (some (.ref f_is_value)))
    (l_is_value : K.lookup f_is_value = some ⟨oc_is_value, od_is_value, .func (PySem.W.fnOf "is_value" "is_value" (defArgs s_is_value) (defBody s_is_value) (defScope s_is_value) .none kV_is_value dc_is_value pm_is_value an_is_value cd_is_value ct_is_value), sl_is_value⟩) (c_is_value : PySem.W.codeIn K cd_is_value "is_value" = true) (k_is_value : PySem.W.keepIn K (.ref f_is_value) = true)
    (a_are_worths : PySem.W.nsIn K mainGlobals "are_worths" = some (some (.ref f_are_worths)))
    (l_are_worths : K.lookup f_are_worths = some ⟨oc_are_worths, od_are_worths, .func (PySem.W.fnOf "are_worths" "are_worths" (defArgs s_are_worths) (defBody s_are_worths) (defScope s_are_worths) .none kV_are_worths dc_are_worths pm_are_worths an_are_worths cd_are_worths ct_are_worths), sl_are_worths⟩) (c_are_worths : PySem.W.codeIn K cd_are_worths "are_worths" = true) (k_are_worths : PySem.W.keepIn K (.ref f_are_worths) = true)
    (a_Wish_init : PySem.W.findIn K (.ref q_Wish) "__init__" = some (some (.ref f_Wish_init))) (i_Wish_init : PySem.W.isFn K (.ref f_Wish_init) = true)
    (l_Wish_init : K.lookup f_Wish_init = some ⟨oc_Wish_init, od_Wish_init, .func (PySem.W.fnOf "__init__" "Wish.__init__" (defArgs s_Wish_init) (defBody s_Wish_init) (defScope s_Wish_init) .none kV_Wish_init dc_Wish_init pm_Wish_init an_Wish_init cd_Wish_init ct_Wish_init), sl_Wish_init⟩) (c_Wish_init : PySem.W.codeIn K cd_Wish_init "Wish.__init__" = true) (k_Wish_init : PySem.W.keepIn K (.ref f_Wish_init) = true)
    (a_Wish_worths : PySem.W.findIn K (.ref q_Wish) "worths" = some (some (.ref p_Wish_worths))) (g_Wish_worths : PySem.W.specialIn K (.ref p_Wish_worths) "__get__" = some (some (.builtin "property.__get__"))) (t_Wish_worths : PySem.W.takesIn K (.ref p_Wish_worths) = some true) (rc_Wish_worths : PySem.W.recIn K p_Wish_worths "property" = some (.ref f_Wish_worths :: r_Wish_worths))
    (l_Wish_worths : K.lookup f_Wish_worths = some ⟨oc_Wish_worths, od_Wish_worths, .func (PySem.W.fnOf "worths" "Wish.worths" (defArgs s_Wish_worths) (defBody s_Wish_worths) (defScope s_Wish_worths) .none kV_Wish_worths dc_Wish_worths pm_Wish_worths an_Wish_worths cd_Wish_worths ct_Wish_worths), sl_Wish_worths⟩) (c_Wish_worths : PySem.W.codeIn K cd_Wish_worths "Wish.worths" = true) (k_Wish_worths : PySem.W.keepIn K (.ref f_Wish_worths) = true)
    (a_suited : PySem.W.nsIn K mainGlobals "suited" = some (some (.ref f_suited)))
    (l_suited : K.lookup f_suited = some ⟨oc_suited, od_suited, .func (PySem.W.fnOf "suited" "suited" (defArgs s_suited) (defBody s_suited) (defScope s_suited) .none kV_suited dc_suited pm_suited an_suited cd_suited ct_suited), sl_suited⟩) (c_suited : PySem.W.codeIn K cd_suited "suited" = true) (k_suited : PySem.W.keepIn K (.ref f_suited) = true)
    (a_is_row : PySem.W.nsIn K mainGlobals "is_row" = some (some (.ref f_is_row)))
    (l_is_row : K.lookup f_is_row = some ⟨oc_is_row, od_is_row, .func (PySem.W.fnOf "is_row" "is_row" (defArgs s_is_row) (defBody s_is_row) (defScope s_is_row) .none kV_is_row dc_is_row pm_is_row an_is_row cd_is_row ct_is_row), sl_is_row⟩) (c_is_row : PySem.W.codeIn K cd_is_row "is_row" = true) (k_is_row : PySem.W.keepIn K (.ref f_is_row) = true)
    (a_passed : PySem.W.nsIn K mainGlobals "passed" = some (some (.ref f_passed)))
    (l_passed : K.lookup f_passed = some ⟨oc_passed, od_passed, .func (PySem.W.fnOf "passed" "passed" (defArgs s_passed) (defBody s_passed) (defScope s_passed) .none kV_passed dc_passed pm_passed an_passed cd_passed ct_passed), sl_passed⟩) (c_passed : PySem.W.codeIn K cd_passed "passed" = true) (k_passed : PySem.W.keepIn K (.ref f_passed) = true)
    (a_movers : PySem.W.nsIn K mainGlobals "movers" = some (some (.ref f_movers)))
    (l_movers : K.lookup f_movers = some ⟨oc_movers, od_movers, .func (PySem.W.fnOf "movers" "movers" (defArgs s_movers) (defBody s_movers) (defScope s_movers) .none kV_movers dc_movers pm_movers an_movers cd_movers ct_movers), sl_movers⟩) (c_movers : PySem.W.codeIn K cd_movers "movers" = true) (k_movers : PySem.W.keepIn K (.ref f_movers) = true)
    (a_is_entry : PySem.W.nsIn K mainGlobals "is_entry" = some (some (.ref f_is_entry)))
    (l_is_entry : K.lookup f_is_entry = some ⟨oc_is_entry, od_is_entry, .func (PySem.W.fnOf "is_entry" "is_entry" (defArgs s_is_entry) (defBody s_is_entry) (defScope s_is_entry) .none kV_is_entry dc_is_entry pm_is_entry an_is_entry cd_is_entry ct_is_entry), sl_is_entry⟩) (c_is_entry : PySem.W.codeIn K cd_is_entry "is_entry" = true) (k_is_entry : PySem.W.keepIn K (.ref f_is_entry) = true)
    (a_is_book : PySem.W.nsIn K mainGlobals "is_book" = some (some (.ref f_is_book)))
    (l_is_book : K.lookup f_is_book = some ⟨oc_is_book, od_is_book, .func (PySem.W.fnOf "is_book" "is_book" (defArgs s_is_book) (defBody s_is_book) (defScope s_is_book) .none kV_is_book dc_is_book pm_is_book an_is_book cd_is_book ct_is_book), sl_is_book⟩) (c_is_book : PySem.W.codeIn K cd_is_book "is_book" = true) (k_is_book : PySem.W.keepIn K (.ref f_is_book) = true)
    (a_let_steps : PySem.W.nsIn K mainGlobals "let_steps" = some (some (.ref f_let_steps)))
    (l_let_steps : K.lookup f_let_steps = some ⟨oc_let_steps, od_let_steps, .func (PySem.W.fnOf "let_steps" "let_steps" (defArgs s_let_steps) (defBody s_let_steps) (defScope s_let_steps) .none kV_let_steps dc_let_steps pm_let_steps an_let_steps cd_let_steps ct_let_steps), sl_let_steps⟩) (c_let_steps : PySem.W.codeIn K cd_let_steps "let_steps" = true) (k_let_steps : PySem.W.keepIn K (.ref f_let_steps) = true)
    (a_let_ways : PySem.W.nsIn K mainGlobals "let_ways" = some (some (.ref f_let_ways)))
    (l_let_ways : K.lookup f_let_ways = some ⟨oc_let_ways, od_let_ways, .func (PySem.W.fnOf "let_ways" "let_ways" (defArgs s_let_ways) (defBody s_let_ways) (defScope s_let_ways) .none kV_let_ways dc_let_ways pm_let_ways an_let_ways cd_let_ways ct_let_ways), sl_let_ways⟩) (c_let_ways : PySem.W.codeIn K cd_let_ways "let_ways" = true) (k_let_ways : PySem.W.keepIn K (.ref f_let_ways) = true)
    (a_way_to : PySem.W.nsIn K mainGlobals "way_to" = some (some (.ref f_way_to)))
    (l_way_to : K.lookup f_way_to = some ⟨oc_way_to, od_way_to, .func (PySem.W.fnOf "way_to" "way_to" (defArgs s_way_to) (defBody s_way_to) (defScope s_way_to) .none kV_way_to dc_way_to pm_way_to an_way_to cd_way_to ct_way_to), sl_way_to⟩) (c_way_to : PySem.W.codeIn K cd_way_to "way_to" = true) (k_way_to : PySem.W.keepIn K (.ref f_way_to) = true)
    (a_is_below : PySem.W.nsIn K mainGlobals "is_below" = some (some (.ref f_is_below)))
    (l_is_below : K.lookup f_is_below = some ⟨oc_is_below, od_is_below, .func (PySem.W.fnOf "is_below" "is_below" (defArgs s_is_below) (defBody s_is_below) (defScope s_is_below) .none kV_is_below dc_is_below pm_is_below an_is_below cd_is_below ct_is_below), sl_is_below⟩) (c_is_below : PySem.W.codeIn K cd_is_below "is_below" = true) (k_is_below : PySem.W.keepIn K (.ref f_is_below) = true)
    (a_checked_book : PySem.W.nsIn K mainGlobals "checked_book" = some (some (.ref f_checked_book)))
    (l_checked_book : K.lookup f_checked_book = some ⟨oc_checked_book, od_checked_book, .func (PySem.W.fnOf "checked_book" "checked_book" (defArgs s_checked_book) (defBody s_checked_book) (defScope s_checked_book) .none kV_checked_book dc_checked_book pm_checked_book an_checked_book cd_checked_book ct_checked_book), sl_checked_book⟩) (c_checked_book : PySem.W.codeIn K cd_checked_book "checked_book" = true) (k_checked_book : PySem.W.keepIn K (.ref f_checked_book) = true)
    (a_breaking : PySem.W.nsIn K mainGlobals "breaking" = some (some (.ref f_breaking)))
    (l_breaking : K.lookup f_breaking = some ⟨oc_breaking, od_breaking, .func (PySem.W.fnOf "breaking" "breaking" (defArgs s_breaking) (defBody s_breaking) (defScope s_breaking) .none kV_breaking dc_breaking pm_breaking an_breaking cd_breaking ct_breaking), sl_breaking⟩) (c_breaking : PySem.W.codeIn K cd_breaking "breaking" = true) (k_breaking : PySem.W.keepIn K (.ref f_breaking) = true)
    (a_keeps : PySem.W.nsIn K mainGlobals "keeps" = some (some (.ref f_keeps)))
    (l_keeps : K.lookup f_keeps = some ⟨oc_keeps, od_keeps, .func (PySem.W.fnOf "keeps" "keeps" (defArgs s_keeps) (defBody s_keeps) (defScope s_keeps) .none kV_keeps dc_keeps pm_keeps an_keeps cd_keeps ct_keeps), sl_keeps⟩) (c_keeps : PySem.W.codeIn K cd_keeps "keeps" = true) (k_keeps : PySem.W.keepIn K (.ref f_keeps) = true)
    (a_kept_stands : PySem.W.nsIn K mainGlobals "kept_stands" = some (some (.ref f_kept_stands)))
    (l_kept_stands : K.lookup f_kept_stands = some ⟨oc_kept_stands, od_kept_stands, .func (PySem.W.fnOf "kept_stands" "kept_stands" (defArgs s_kept_stands) (defBody s_kept_stands) (defScope s_kept_stands) .none kV_kept_stands dc_kept_stands pm_kept_stands an_kept_stands cd_kept_stands ct_kept_stands), sl_kept_stands⟩) (c_kept_stands : PySem.W.codeIn K cd_kept_stands "kept_stands" = true) (k_kept_stands : PySem.W.keepIn K (.ref f_kept_stands) = true)
    (a_first_breach : PySem.W.nsIn K mainGlobals "first_breach" = some (some (.ref f_first_breach)))
    (l_first_breach : K.lookup f_first_breach = some ⟨oc_first_breach, od_first_breach, .func (PySem.W.fnOf "first_breach" "first_breach" (defArgs s_first_breach) (defBody s_first_breach) (defScope s_first_breach) .none kV_first_breach dc_first_breach pm_first_breach an_first_breach cd_first_breach ct_first_breach), sl_first_breach⟩) (c_first_breach : PySem.W.codeIn K cd_first_breach "first_breach" = true) (k_first_breach : PySem.W.keepIn K (.ref f_first_breach) = true)
    (a_law_book : PySem.W.nsIn K mainGlobals "_law_book" = some (some (.ref f_law_book)))
    (l_law_book : K.lookup f_law_book = some ⟨oc_law_book, od_law_book, .func (PySem.W.fnOf "_law_book" "_law_book" (defArgs s_law_book) (defBody s_law_book) (defScope s_law_book) .none kV_law_book dc_law_book pm_law_book an_law_book cd_law_book ct_law_book), sl_law_book⟩) (c_law_book : PySem.W.codeIn K cd_law_book "_law_book" = true) (k_law_book : PySem.W.keepIn K (.ref f_law_book) = true)
    (a_law_let : PySem.W.nsIn K mainGlobals "_law_let" = some (some (.ref f_law_let)))
    (l_law_let : K.lookup f_law_let = some ⟨oc_law_let, od_law_let, .func (PySem.W.fnOf "_law_let" "_law_let" (defArgs s_law_let) (defBody s_law_let) (defScope s_law_let) .none kV_law_let dc_law_let pm_law_let an_law_let cd_law_let ct_law_let), sl_law_let⟩) (c_law_let : PySem.W.codeIn K cd_law_let "_law_let" = true) (k_law_let : PySem.W.keepIn K (.ref f_law_let) = true)
    (a_law_reached : PySem.W.nsIn K mainGlobals "_law_reached" = some (some (.ref f_law_reached)))
    (l_law_reached : K.lookup f_law_reached = some ⟨oc_law_reached, od_law_reached, .func (PySem.W.fnOf "_law_reached" "_law_reached" (defArgs s_law_reached) (defBody s_law_reached) (defScope s_law_reached) .none kV_law_reached dc_law_reached pm_law_reached an_law_reached cd_law_reached ct_law_reached), sl_law_reached⟩) (c_law_reached : PySem.W.codeIn K cd_law_reached "_law_reached" = true) (k_law_reached : PySem.W.keepIn K (.ref f_law_reached) = true)
    (a_law_same : PySem.W.nsIn K mainGlobals "_law_same" = some (some (.ref f_law_same)))
    (l_law_same : K.lookup f_law_same = some ⟨oc_law_same, od_law_same, .func (PySem.W.fnOf "_law_same" "_law_same" (defArgs s_law_same) (defBody s_law_same) (defScope s_law_same) .none kV_law_same dc_law_same pm_law_same an_law_same cd_law_same ct_law_same), sl_law_same⟩) (c_law_same : PySem.W.codeIn K cd_law_same "_law_same" = true) (k_law_same : PySem.W.keepIn K (.ref f_law_same) = true)
    (a_law_breaks : PySem.W.nsIn K mainGlobals "_law_breaks" = some (some (.ref f_law_breaks)))
    (l_law_breaks : K.lookup f_law_breaks = some ⟨oc_law_breaks, od_law_breaks, .func (PySem.W.fnOf "_law_breaks" "_law_breaks" (defArgs s_law_breaks) (defBody s_law_breaks) (defScope s_law_breaks) .none kV_law_breaks dc_law_breaks pm_law_breaks an_law_breaks cd_law_breaks ct_law_breaks), sl_law_breaks⟩) (c_law_breaks : PySem.W.codeIn K cd_law_breaks "_law_breaks" = true) (k_law_breaks : PySem.W.keepIn K (.ref f_law_breaks) = true)
    (a_law_asked : PySem.W.nsIn K mainGlobals "_law_asked" = some (some (.ref f_law_asked)))
    (l_law_asked : K.lookup f_law_asked = some ⟨oc_law_asked, od_law_asked, .func (PySem.W.fnOf "_law_asked" "_law_asked" (defArgs s_law_asked) (defBody s_law_asked) (defScope s_law_asked) .none kV_law_asked dc_law_asked pm_law_asked an_law_asked cd_law_asked ct_law_asked), sl_law_asked⟩) (c_law_asked : PySem.W.codeIn K cd_law_asked "_law_asked" = true) (k_law_asked : PySem.W.keepIn K (.ref f_law_asked) = true)
    (a_law_known_breach : PySem.W.nsIn K mainGlobals "_law_known_breach" = some (some (.ref f_law_known_breach)))
    (l_law_known_breach : K.lookup f_law_known_breach = some ⟨oc_law_known_breach, od_law_known_breach, .func (PySem.W.fnOf "_law_known_breach" "_law_known_breach" (defArgs s_law_known_breach) (defBody s_law_known_breach) (defScope s_law_known_breach) .none kV_law_known_breach dc_law_known_breach pm_law_known_breach an_law_known_breach cd_law_known_breach ct_law_known_breach), sl_law_known_breach⟩) (c_law_known_breach : PySem.W.codeIn K cd_law_known_breach "_law_known_breach" = true) (k_law_known_breach : PySem.W.keepIn K (.ref f_law_known_breach) = true)
    (a_law_turned : PySem.W.nsIn K mainGlobals "_law_turned" = some (some (.ref f_law_turned)))
    (l_law_turned : K.lookup f_law_turned = some ⟨oc_law_turned, od_law_turned, .func (PySem.W.fnOf "_law_turned" "_law_turned" (defArgs s_law_turned) (defBody s_law_turned) (defScope s_law_turned) .none kV_law_turned dc_law_turned pm_law_turned an_law_turned cd_law_turned ct_law_turned), sl_law_turned⟩) (c_law_turned : PySem.W.codeIn K cd_law_turned "_law_turned" = true) (k_law_turned : PySem.W.keepIn K (.ref f_law_turned) = true)
    (a_law_turned_stands : PySem.W.nsIn K mainGlobals "_law_turned_stands" = some (some (.ref f_law_turned_stands)))
    (l_law_turned_stands : K.lookup f_law_turned_stands = some ⟨oc_law_turned_stands, od_law_turned_stands, .func (PySem.W.fnOf "_law_turned_stands" "_law_turned_stands" (defArgs s_law_turned_stands) (defBody s_law_turned_stands) (defScope s_law_turned_stands) .none kV_law_turned_stands dc_law_turned_stands pm_law_turned_stands an_law_turned_stands cd_law_turned_stands ct_law_turned_stands), sl_law_turned_stands⟩) (c_law_turned_stands : PySem.W.codeIn K cd_law_turned_stands "_law_turned_stands" = true) (k_law_turned_stands : PySem.W.keepIn K (.ref f_law_turned_stands) = true)
    (a_law_entry : PySem.W.nsIn K mainGlobals "_law_entry" = some (some (.ref f_law_entry)))
    (l_law_entry : K.lookup f_law_entry = some ⟨oc_law_entry, od_law_entry, .func (PySem.W.fnOf "_law_entry" "_law_entry" (defArgs s_law_entry) (defBody s_law_entry) (defScope s_law_entry) .none kV_law_entry dc_law_entry pm_law_entry an_law_entry cd_law_entry ct_law_entry), sl_law_entry⟩) (c_law_entry : PySem.W.codeIn K cd_law_entry "_law_entry" = true) (k_law_entry : PySem.W.keepIn K (.ref f_law_entry) = true)
    (a_law_right : PySem.W.nsIn K mainGlobals "_law_right" = some (some (.ref f_law_right)))
    (l_law_right : K.lookup f_law_right = some ⟨oc_law_right, od_law_right, .func (PySem.W.fnOf "_law_right" "_law_right" (defArgs s_law_right) (defBody s_law_right) (defScope s_law_right) .none kV_law_right dc_law_right pm_law_right an_law_right cd_law_right ct_law_right), sl_law_right⟩) (c_law_right : PySem.W.codeIn K cd_law_right "_law_right" = true) (k_law_right : PySem.W.keepIn K (.ref f_law_right) = true)
    (a_law_spoiled : PySem.W.nsIn K mainGlobals "_law_spoiled" = some (some (.ref f_law_spoiled)))
    (l_law_spoiled : K.lookup f_law_spoiled = some ⟨oc_law_spoiled, od_law_spoiled, .func (PySem.W.fnOf "_law_spoiled" "_law_spoiled" (defArgs s_law_spoiled) (defBody s_law_spoiled) (defScope s_law_spoiled) .none kV_law_spoiled dc_law_spoiled pm_law_spoiled an_law_spoiled cd_law_spoiled ct_law_spoiled), sl_law_spoiled⟩) (c_law_spoiled : PySem.W.codeIn K cd_law_spoiled "_law_spoiled" = true) (k_law_spoiled : PySem.W.keepIn K (.ref f_law_spoiled) = true)
    (a_law_refused : PySem.W.nsIn K mainGlobals "_law_refused" = some (some (.ref f_law_refused)))
    (l_law_refused : K.lookup f_law_refused = some ⟨oc_law_refused, od_law_refused, .func (PySem.W.fnOf "_law_refused" "_law_refused" (defArgs s_law_refused) (defBody s_law_refused) (defScope s_law_refused) .none kV_law_refused dc_law_refused pm_law_refused an_law_refused cd_law_refused ct_law_refused), sl_law_refused⟩) (c_law_refused : PySem.W.codeIn K cd_law_refused "_law_refused" = true) (k_law_refused : PySem.W.keepIn K (.ref f_law_refused) = true)
    (a_law : PySem.W.nsIn K mainGlobals "law" = some (some (.ref f_law)))
    (l_law : K.lookup f_law = some ⟨oc_law, od_law, .func (PySem.W.fnOf "law" "law" (defArgs s_law) (defBody s_law) (defScope s_law) .none kV_law dc_law pm_law an_law cd_law ct_law), sl_law⟩) (c_law : PySem.W.codeIn K cd_law "law" = true) (k_law : PySem.W.keepIn K (.ref f_law) = true)
    (pg_Work : PySem.W.plainGet K q_Work Str.empty = true) (hd_Work : PySem.W.hasDictIn K q_Work = true) (po_Work : PySem.W.plainOver K q_Work = true) (sa_Work : PySem.W.findIn K (.ref q_Work) "__setattr__" = some (some (.builtin "object.__setattr__"))) (mk_Work : PySem.W.makesIn K q_Work = true) (kc_Work : PySem.W.keepIn K (.ref q_Work) = true)
    (n_Work_hands : PySem.W.findIn K (.ref q_Work) "hands" = some none)
    (n_Work_start : PySem.W.findIn K (.ref q_Work) "start" = some none)
    (n_Work_table : PySem.W.findIn K (.ref q_Work) "table" = some none)
    (n_Work_names : PySem.W.findIn K (.ref q_Work) "names" = some none)
    (n_Work_ends : PySem.W.findIn K (.ref q_Work) "ends" = some none)
    (n_Work_ringless : PySem.W.findIn K (.ref q_Work) "ringless" = some none)
    (pg_Wish : PySem.W.plainGet K q_Wish Str.empty = true) (hd_Wish : PySem.W.hasDictIn K q_Wish = true) (po_Wish : PySem.W.plainOver K q_Wish = true) (sa_Wish : PySem.W.findIn K (.ref q_Wish) "__setattr__" = some (some (.builtin "object.__setattr__"))) (mk_Wish : PySem.W.makesIn K q_Wish = true) (kc_Wish : PySem.W.keepIn K (.ref q_Wish) = true)
    (n_Wish_table : PySem.W.findIn K (.ref q_Wish) "table" = some none)
    (n_Wish_endless : PySem.W.findIn K (.ref q_Wish) "endless" = some none)
    (n_Wish_coming : PySem.W.findIn K (.ref q_Wish) "coming" = some none)
    (z_abs : PySem.W.nsIn K mainGlobals "abs" = some none)
    (z_all : PySem.W.nsIn K mainGlobals "all" = some none)
    (z_bool : PySem.W.nsIn K mainGlobals "bool" = some none)
    (z_dict : PySem.W.nsIn K mainGlobals "dict" = some none)
    (z_enumerate : PySem.W.nsIn K mainGlobals "enumerate" = some none)
    (z_int : PySem.W.nsIn K mainGlobals "int" = some none)
    (z_isinstance : PySem.W.nsIn K mainGlobals "isinstance" = some none)
    (z_len : PySem.W.nsIn K mainGlobals "len" = some none)
    (z_list : PySem.W.nsIn K mainGlobals "list" = some none)
    (z_max : PySem.W.nsIn K mainGlobals "max" = some none)
    (z_min : PySem.W.nsIn K mainGlobals "min" = some none)
    (z_range : PySem.W.nsIn K mainGlobals "range" = some none)
    (z_repr : PySem.W.nsIn K mainGlobals "repr" = some none)
    (z_sorted : PySem.W.nsIn K mainGlobals "sorted" = some none)
    (z_str : PySem.W.nsIn K mainGlobals "str" = some none)
    (z_tuple : PySem.W.nsIn K mainGlobals "tuple" = some none)
    {q_OwnError : Addr} (z_super : PySem.W.nsIn K mainGlobals "super" = some none) (z_any : PySem.W.nsIn K PySem.cStatics "thirdparty.any" = some none)
    {q_BadRun i_BadRun cda_BadRun cc_BadRun N_BadRun : Addr} {nm_BadRun qn_BadRun : Str} {bs_BadRun : List Value} {sn_BadRun : List Str} {su_BadRun : List Value} {ab_BadRun : Bool} {cl_BadRun : Option Bool} {dd_BadRun : Option Addr} {m0_BadRun m1_BadRun m2_BadRun m3_BadRun m5_BadRun : Option Value}
    {oc_BadRun kV_BadRun dc_BadRun pm_BadRun ct_BadRun c1_BadRun c2_BadRun : Value} {od_BadRun an_BadRun e1_BadRun e2_BadRun : Option Addr} {sl_BadRun sa_BadRun sb_BadRun : Array (Option Value)} {fv_BadRun : Array Value} {tf_BadRun : Tok}
    (xa_BadRun : PySem.W.nsIn K mainGlobals "BadRun" = some (some (.ref q_BadRun))) (xl_BadRun : K.lookup q_BadRun = some (excClassObj nm_BadRun qn_BadRun q_BadRun N_BadRun bs_BadRun [.ref q_OwnError, .type "ValueError", .type "Exception", .type "BaseException", .type "object"] true sn_BadRun su_BadRun ab_BadRun cl_BadRun dd_BadRun m0_BadRun m1_BadRun m2_BadRun m3_BadRun m5_BadRun "ValueError.__new__")) (xs_BadRun : PySem.W.findIn K (.ref q_BadRun) "__setattr__" = some (some (.builtin "object.__setattr__"))) (xg_BadRun : PySem.W.findIn K (.ref q_BadRun) "__getattribute__" = some (some (.builtin "BaseException.__getattribute__"))) (xh_BadRun : PySem.W.findIn K (.ref q_BadRun) "__getattr__" = some none) (xn_BadRun : PySem.W.findIn K (.ref q_BadRun) "index" = some none) (xi_BadRun : PySem.W.findIn K (.ref q_BadRun) "__init__" = some (some (.ref i_BadRun))) (xt_BadRun : PySem.W.typeIn K (.ref i_BadRun) = some (.type "function")) (xu_BadRun : PySem.W.ks_superIn K q_BadRun q_BadRun "__init__" = some (some (.builtin "ValueError.__init__"))) (xm_BadRun : PySem.W.mroIn K q_BadRun (.ref q_BadRun) = some true) (xv_BadRun : PySem.W.subIn K (.ref q_BadRun) (.type "ValueError") = some true) (xb_BadRun : PySem.W.subIn K (.ref q_BadRun) (.type "BaseException") = some true) (xy_BadRun : PySem.W.typeIn K (.ref q_BadRun) = some (.type "type")) (xk_BadRun : PySem.W.keepIn K (.ref q_BadRun) = true) (xd_BadRun : PySem.W.hasDictIn K q_BadRun = true) (xc_BadRun : PySem.W.isClsIn K q_BadRun = true) (xf_BadRun : K.lookup i_BadRun = some ⟨oc_BadRun, od_BadRun, .func (PySem.W.ksFn "__init__" "BadRun.__init__" (SupX.sA "index" ⟨45, 17, 45, 21⟩ ⟨45, 23, 45, 28⟩) (SupX.sB "index" "the run is not valid" 0 ⟨46, 8, 46, 13⟩ ⟨46, 8, 46, 15⟩ ⟨46, 8, 46, 24⟩ ⟨46, 25, 46, 47⟩ ⟨46, 8, 46, 48⟩ ⟨46, 8, 46, 48⟩ ⟨47, 8, 47, 12⟩ ⟨47, 8, 47, 18⟩ ⟨47, 21, 47, 26⟩ ⟨47, 8, 47, 26⟩) (SupX.sS "index") .none kV_BadRun dc_BadRun pm_BadRun an_BadRun (.ref cda_BadRun) ct_BadRun cc_BadRun), sl_BadRun⟩) (xo_BadRun : PySem.W.codeIn K (.ref cda_BadRun) "BadRun.__init__" = true) (xe_BadRun : K.lookup cc_BadRun = some ⟨c1_BadRun, e1_BadRun, .cell (some (.ref q_BadRun)), sa_BadRun⟩) (xp_BadRun : K.lookup cda_BadRun = some ⟨c2_BadRun, e2_BadRun, .fields fv_BadRun, sb_BadRun⟩) (xq_BadRun : fv_BadRun[2]? = some (.str "/claim/cut.py" tf_BadRun))
    (xa_OwnError : PySem.W.nsIn K mainGlobals "OwnError" = some (some (.ref q_OwnError))) (xy_OwnError : PySem.W.typeIn K (.ref q_OwnError) = some (.type "type")) (xc_OwnError : PySem.W.isClsIn K q_OwnError = true)
    (z_clget : PySem.W.specialIn K (.builtin "object.__class__") "__get__" = some (some (.builtin "getset_descriptor.__get__"))) (z_cltk : PySem.W.takesIn K (.builtin "object.__class__") = some true)
    {q_BadBook : Addr} (xa_BadBook : PySem.W.nsIn K mainGlobals "BadBook" = some (some (.ref q_BadBook))) (xx_BadBook : PySem.W.excIn K q_BadBook SupX.bmVE "ValueError.__new__" = true) (xk_BadBook : PySem.W.keepIn K (.ref q_BadBook) = true) (xb_BadBook : PySem.W.subIn K (.ref q_BadBook) (.type "BaseException") = some true) (xy_BadBook : PySem.W.typeIn K (.ref q_BadBook) = some (.type "type")) (xc_BadBook : PySem.W.isClsIn K q_BadBook = true) (xg_BadBook : PySem.W.findIn K (.ref q_BadBook) "__getattribute__" = some (some (.builtin "BaseException.__getattribute__"))) (xh_BadBook : PySem.W.findIn K (.ref q_BadBook) "__getattr__" = some none) (xd_BadBook : PySem.W.hasDictIn K q_BadBook = true) (xe_BadBook : PySem.W.findIn K (.ref q_BadBook) "__class__" = some (some (.builtin "object.__class__"))) (xm_BadBook : PySem.W.mroIn K q_BadBook (.type "object") = some true)
    {q_BadFraction : Addr} (xa_BadFraction : PySem.W.nsIn K mainGlobals "BadFraction" = some (some (.ref q_BadFraction))) (xx_BadFraction : PySem.W.excIn K q_BadFraction SupX.bmVE "ValueError.__new__" = true) (xk_BadFraction : PySem.W.keepIn K (.ref q_BadFraction) = true) (xb_BadFraction : PySem.W.subIn K (.ref q_BadFraction) (.type "BaseException") = some true) (xy_BadFraction : PySem.W.typeIn K (.ref q_BadFraction) = some (.type "type")) (xc_BadFraction : PySem.W.isClsIn K q_BadFraction = true) (xg_BadFraction : PySem.W.findIn K (.ref q_BadFraction) "__getattribute__" = some (some (.builtin "BaseException.__getattribute__"))) (xh_BadFraction : PySem.W.findIn K (.ref q_BadFraction) "__getattr__" = some none) (xd_BadFraction : PySem.W.hasDictIn K q_BadFraction = true) (xe_BadFraction : PySem.W.findIn K (.ref q_BadFraction) "__class__" = some (some (.builtin "object.__class__"))) (xm_BadFraction : PySem.W.mroIn K q_BadFraction (.type "object") = some true)
    (pr_BadBook_BadBook : PySem.W.subIn K (.ref q_BadBook) (.ref q_BadBook) = some true)
    : ∃ fd : FuncData, (∀ (s : Shared) (v : Value), BindsTo s fd ⟨[v], []⟩ [("script", v)]) ∧ ∀ base : Heap, K.In base → base.Ns mainGlobals mg → ReR.SysIs base → ReR.FnG l.prog w K mg base CX0 9 fa fd ["script"] (spLaw K) := by
  have e := hfa.symm.trans (PySem.W.mg_of X G a_law)
  cases e
  have F_is_integer := fun_mk (st := s_is_integer) l_is_integer c_is_integer k_is_integer
  have b_is_integer := F_is_integer.binds (ps := P_is_integer) fun _ _ _ _ _ _ us hl => match us, hl with | [_], _ => rfl
  have F_is_name := fun_mk (st := s_is_name) l_is_name c_is_name k_is_name
  have b_is_name := F_is_name.binds (ps := P_is_name) fun _ _ _ _ _ _ us hl => match us, hl with | [_], _ => rfl
  have F_is_pair := fun_mk (st := s_is_pair) l_is_pair c_is_pair k_is_pair
  have b_is_pair := F_is_pair.binds (ps := P_is_pair) fun _ _ _ _ _ _ us hl => match us, hl with | [_], _ => rfl
  have F_is_moves := fun_mk (st := s_is_moves) l_is_moves c_is_moves k_is_moves
  have b_is_moves := F_is_moves.binds (ps := P_is_moves) fun _ _ _ _ _ _ us hl => match us, hl with | [_, _], _ => rfl
  have F_is_draws := fun_mk (st := s_is_draws) l_is_draws c_is_draws k_is_draws
  have b_is_draws := F_is_draws.binds (ps := P_is_draws) fun _ _ _ _ _ _ us hl => match us, hl with | [_, _], _ => rfl
  have F_is_stand := fun_mk (st := s_is_stand) l_is_stand c_is_stand k_is_stand
  have b_is_stand := F_is_stand.binds (ps := P_is_stand) fun _ _ _ _ _ _ us hl => match us, hl with | [_, _, _], _ => rfl
  have F_are_stands := fun_mk (st := s_are_stands) l_are_stands c_are_stands k_are_stands
  have b_are_stands := F_are_stands.binds (ps := P_are_stands) fun _ _ _ _ _ _ us hl => match us, hl with | [_, _], _ => rfl
  have F_copied := fun_mk (st := s_copied) l_copied c_copied k_copied
  have b_copied := F_copied.binds (ps := P_copied) fun _ _ _ _ _ _ us hl => match us, hl with | [_], _ => rfl
  have F_leads := fun_mk (st := s_leads) l_leads c_leads k_leads
  have b_leads := F_leads.binds (ps := P_leads) fun _ _ _ _ _ _ us hl => match us, hl with | [_, _], _ => rfl
  have F_is_ringless := fun_mk (st := s_is_ringless) l_is_ringless c_is_ringless k_is_ringless
  have b_is_ringless := F_is_ringless.binds (ps := P_is_ringless) fun _ _ _ _ _ _ us hl => match us, hl with | [_], _ => rfl
  have F_Work_init := fun_mk (st := s_Work_init) l_Work_init c_Work_init k_Work_init
  have b_Work_init := F_Work_init.binds (ps := P_Work_init) fun _ _ _ _ _ _ us hl => match us, hl with | [_, _, _, _], _ => rfl
  have F_Work_row := fun_mk (st := s_Work_row) l_Work_row c_Work_row k_Work_row
  have b_Work_row := F_Work_row.binds (ps := P_Work_row) fun _ _ _ _ _ _ us hl => match us, hl with | [_, _], _ => rfl
  have F_Work_kind := fun_mk (st := s_Work_kind) l_Work_kind c_Work_kind k_Work_kind
  have b_Work_kind := F_Work_kind.binds (ps := P_Work_kind) fun _ _ _ _ _ _ us hl => match us, hl with | [_, _], _ => rfl
  have F_Work_mover := fun_mk (st := s_Work_mover) l_Work_mover c_Work_mover k_Work_mover
  have b_Work_mover := F_Work_mover.binds (ps := P_Work_mover) fun _ _ _ _ _ _ us hl => match us, hl with | [_, _], _ => rfl
  have F_Work_steps := fun_mk (st := s_Work_steps) l_Work_steps c_Work_steps k_Work_steps
  have b_Work_steps := F_Work_steps.binds (ps := P_Work_steps) fun _ _ _ _ _ _ us hl => match us, hl with | [_, _], _ => rfl
  have F_Work_to := fun_mk (st := s_Work_to) l_Work_to c_Work_to k_Work_to
  have b_Work_to := F_Work_to.binds (ps := P_Work_to) fun _ _ _ _ _ _ us hl => match us, hl with | [_, _, _], _ => rfl
  have F_law_open := fun_mk (st := s_law_open) l_law_open c_law_open k_law_open
  have b_law_open := F_law_open.binds (ps := P_law_open) fun _ _ _ _ _ _ us hl => match us, hl with | [_, _], _ => rfl
  have F_law_draw := fun_mk (st := s_law_draw) l_law_draw c_law_draw k_law_draw
  have b_law_draw := F_law_draw.binds (ps := P_law_draw) fun _ _ _ _ _ _ us hl => match us, hl with | [_, _], _ => rfl
  have F_law_names := fun_mk (st := s_law_names) l_law_names c_law_names k_law_names
  have b_law_names := F_law_names.binds (ps := P_law_names) fun _ _ _ _ _ _ us hl => match us, hl with | [_, _], _ => rfl
  have F_law_target := fun_mk (st := s_law_target) l_law_target c_law_target k_law_target
  have b_law_target := F_law_target.binds (ps := P_law_target) fun _ _ _ _ _ _ us hl => match us, hl with | [_, _, _, _], _ => rfl
  have F_law_menu := fun_mk (st := s_law_menu) l_law_menu c_law_menu k_law_menu
  have b_law_menu := F_law_menu.binds (ps := P_law_menu) fun _ _ _ _ _ _ us hl => match us, hl with | [_], _ => rfl
  have F_law_stand := fun_mk (st := s_law_stand) l_law_stand c_law_stand k_law_stand
  have b_law_stand := F_law_stand.binds (ps := P_law_stand) fun _ _ _ _ _ _ us hl => match us, hl with | [_, _, _, _, _, _], _ => rfl
  have F_law_stands := fun_mk (st := s_law_stands) l_law_stands c_law_stands k_law_stands
  have b_law_stands := F_law_stands.binds (ps := P_law_stands) fun _ _ _ _ _ _ us hl => match us, hl with | [_, _, _, _], _ => rfl
  have F_law_build := fun_mk (st := s_law_build) l_law_build c_law_build k_law_build
  have b_law_build := F_law_build.binds (ps := P_law_build) fun _ _ _ _ _ _ us hl => match us, hl with | [_], _ => rfl
  have F_law_steps := fun_mk (st := s_law_steps) l_law_steps c_law_steps k_law_steps
  have b_law_steps := F_law_steps.binds (ps := P_law_steps) fun _ _ _ _ _ _ us hl => match us, hl with | [_, _], _ => rfl
  have F_law_to := fun_mk (st := s_law_to) l_law_to c_law_to k_law_to
  have b_law_to := F_law_to.binds (ps := P_law_to) fun _ _ _ _ _ _ us hl => match us, hl with | [_, _, _], _ => rfl
  have F_law_mover := fun_mk (st := s_law_mover) l_law_mover c_law_mover k_law_mover
  have b_law_mover := F_law_mover.binds (ps := P_law_mover) fun _ _ _ _ _ _ us hl => match us, hl with | [_, _], _ => rfl
  have F_law_worths := fun_mk (st := s_law_worths) l_law_worths c_law_worths k_law_worths
  have b_law_worths := F_law_worths.binds (ps := P_law_worths) fun _ _ _ _ _ _ us hl => match us, hl with | [_, _], _ => rfl
  have F_law_endless := fun_mk (st := s_law_endless) l_law_endless c_law_endless k_law_endless
  have b_law_endless := F_law_endless.binds (ps := P_law_endless) fun _ _ _ _ _ _ us hl => match us, hl with | [_, _], _ => rfl
  have F_law_level := fun_mk (st := s_law_level) l_law_level c_law_level k_law_level
  have b_law_level := F_law_level.binds (ps := P_law_level) fun _ _ _ _ _ _ us hl => match us, hl with | [_, _, _], _ => rfl
  have F_common_divisor := fun_mk (st := s_common_divisor) l_common_divisor c_common_divisor k_common_divisor
  have b_common_divisor := F_common_divisor.binds (ps := P_common_divisor) fun _ _ _ _ _ _ us hl => match us, hl with | [_, _], _ => rfl
  have F_is_fraction := fun_mk (st := s_is_fraction) l_is_fraction c_is_fraction k_is_fraction
  have b_is_fraction := F_is_fraction.binds (ps := P_is_fraction) fun _ _ _ _ _ _ us hl => match us, hl with | [_], _ => rfl
  have F_is_value := fun_mk (st := s_is_value) l_is_value c_is_value k_is_value
  have b_is_value := F_is_value.binds (ps := P_is_value) fun _ _ _ _ _ _ us hl => match us, hl with | [_], _ => rfl
  have F_are_worths := fun_mk (st := s_are_worths) l_are_worths c_are_worths k_are_worths
  have b_are_worths := F_are_worths.binds (ps := P_are_worths) fun _ _ _ _ _ _ us hl => match us, hl with | [_], _ => rfl
  have F_Wish_init := fun_mk (st := s_Wish_init) l_Wish_init c_Wish_init k_Wish_init
  have b_Wish_init := F_Wish_init.binds (ps := P_Wish_init) fun _ _ _ _ _ _ us hl => match us, hl with | [_, _, _], _ => rfl
  have F_Wish_worths := fun_mk (st := s_Wish_worths) l_Wish_worths c_Wish_worths k_Wish_worths
  have b_Wish_worths := F_Wish_worths.binds (ps := P_Wish_worths) fun _ _ _ _ _ _ us hl => match us, hl with | [_], _ => rfl
  have F_suited := fun_mk (st := s_suited) l_suited c_suited k_suited
  have b_suited := F_suited.binds (ps := P_suited) fun _ _ _ _ _ _ us hl => match us, hl with | [_, _], _ => rfl
  have F_is_row := fun_mk (st := s_is_row) l_is_row c_is_row k_is_row
  have b_is_row := F_is_row.binds (ps := P_is_row) fun _ _ _ _ _ _ us hl => match us, hl with | [_], _ => rfl
  have F_passed := fun_mk (st := s_passed) l_passed c_passed k_passed
  have b_passed := F_passed.binds (ps := P_passed) fun _ _ _ _ _ _ us hl => match us, hl with | [_, _], _ => rfl
  have F_movers := fun_mk (st := s_movers) l_movers c_movers k_movers
  have b_movers := F_movers.binds (ps := P_movers) fun _ _ _ _ _ _ us hl => match us, hl with | [_, _], _ => rfl
  have F_is_entry := fun_mk (st := s_is_entry) l_is_entry c_is_entry k_is_entry
  have b_is_entry := F_is_entry.binds (ps := P_is_entry) fun _ _ _ _ _ _ us hl => match us, hl with | [_, _], _ => rfl
  have F_is_book := fun_mk (st := s_is_book) l_is_book c_is_book k_is_book
  have b_is_book := F_is_book.binds (ps := P_is_book) fun _ _ _ _ _ _ us hl => match us, hl with | [_, _], _ => rfl
  have F_let_steps := fun_mk (st := s_let_steps) l_let_steps c_let_steps k_let_steps
  have b_let_steps := F_let_steps.binds (ps := P_let_steps) fun _ _ _ _ _ _ us hl => match us, hl with | [_, _, _], _ => rfl
  have F_let_ways := fun_mk (st := s_let_ways) l_let_ways c_let_ways k_let_ways
  have b_let_ways := F_let_ways.binds (ps := P_let_ways) fun _ _ _ _ _ _ us hl => match us, hl with | [_, _], _ => rfl
  have F_way_to := fun_mk (st := s_way_to) l_way_to c_way_to k_way_to
  have b_way_to := F_way_to.binds (ps := P_way_to) fun _ _ _ _ _ _ us hl => match us, hl with | [_, _], _ => rfl
  have F_is_below := fun_mk (st := s_is_below) l_is_below c_is_below k_is_below
  have b_is_below := F_is_below.binds (ps := P_is_below) fun _ _ _ _ _ _ us hl => match us, hl with | [_, _], _ => rfl
  have F_checked_book := fun_mk (st := s_checked_book) l_checked_book c_checked_book k_checked_book
  have b_checked_book := F_checked_book.binds (ps := P_checked_book) fun _ _ _ _ _ _ us hl => match us, hl with | [_, _, _, _], _ => rfl
  have F_breaking := fun_mk (st := s_breaking) l_breaking c_breaking k_breaking
  have b_breaking := F_breaking.binds (ps := P_breaking) fun _ _ _ _ _ _ us hl => match us, hl with | [_, _, _, _], _ => rfl
  have F_keeps := fun_mk (st := s_keeps) l_keeps c_keeps k_keeps
  have b_keeps := F_keeps.binds (ps := P_keeps) fun _ _ _ _ _ _ us hl => match us, hl with | [_, _, _, _], _ => rfl
  have F_kept_stands := fun_mk (st := s_kept_stands) l_kept_stands c_kept_stands k_kept_stands
  have b_kept_stands := F_kept_stands.binds (ps := P_kept_stands) fun _ _ _ _ _ _ us hl => match us, hl with | [_, _, _, _], _ => rfl
  have F_first_breach := fun_mk (st := s_first_breach) l_first_breach c_first_breach k_first_breach
  have b_first_breach := F_first_breach.binds (ps := P_first_breach) fun _ _ _ _ _ _ us hl => match us, hl with | [_, _, _], _ => rfl
  have F_law_book := fun_mk (st := s_law_book) l_law_book c_law_book k_law_book
  have b_law_book := F_law_book.binds (ps := P_law_book) fun _ _ _ _ _ _ us hl => match us, hl with | [_, _], _ => rfl
  have F_law_let := fun_mk (st := s_law_let) l_law_let c_law_let k_law_let
  have b_law_let := F_law_let.binds (ps := P_law_let) fun _ _ _ _ _ _ us hl => match us, hl with | [_, _, _], _ => rfl
  have F_law_reached := fun_mk (st := s_law_reached) l_law_reached c_law_reached k_law_reached
  have b_law_reached := F_law_reached.binds (ps := P_law_reached) fun _ _ _ _ _ _ us hl => match us, hl with | [_, _, _], _ => rfl
  have F_law_same := fun_mk (st := s_law_same) l_law_same c_law_same k_law_same
  have b_law_same := F_law_same.binds (ps := P_law_same) fun _ _ _ _ _ _ us hl => match us, hl with | [_, _], _ => rfl
  have F_law_breaks := fun_mk (st := s_law_breaks) l_law_breaks c_law_breaks k_law_breaks
  have b_law_breaks := F_law_breaks.binds (ps := P_law_breaks) fun _ _ _ _ _ _ us hl => match us, hl with | [_, _, _, _, _, _, _], _ => rfl
  have F_law_asked := fun_mk (st := s_law_asked) l_law_asked c_law_asked k_law_asked
  have b_law_asked := F_law_asked.binds (ps := P_law_asked) fun _ _ _ _ _ _ us hl => match us, hl with | [_, _, _, _, _, _, _], _ => rfl
  have F_law_known_breach := fun_mk (st := s_law_known_breach) l_law_known_breach c_law_known_breach k_law_known_breach
  have b_law_known_breach := F_law_known_breach.binds (ps := P_law_known_breach) fun _ _ _ _ _ _ us hl => match us, hl with | [_, _, _, _, _], _ => rfl
  have F_law_turned := fun_mk (st := s_law_turned) l_law_turned c_law_turned k_law_turned
  have b_law_turned := F_law_turned.binds (ps := P_law_turned) fun _ _ _ _ _ _ us hl => match us, hl with | [_], _ => rfl
  have F_law_turned_stands := fun_mk (st := s_law_turned_stands) l_law_turned_stands c_law_turned_stands k_law_turned_stands
  have b_law_turned_stands := F_law_turned_stands.binds (ps := P_law_turned_stands) fun _ _ _ _ _ _ us hl => match us, hl with | [_], _ => rfl
  have F_law_entry := fun_mk (st := s_law_entry) l_law_entry c_law_entry k_law_entry
  have b_law_entry := F_law_entry.binds (ps := P_law_entry) fun _ _ _ _ _ _ us hl => match us, hl with | [_, _], _ => rfl
  have F_law_right := fun_mk (st := s_law_right) l_law_right c_law_right k_law_right
  have b_law_right := F_law_right.binds (ps := P_law_right) fun _ _ _ _ _ _ us hl => match us, hl with | [_, _], _ => rfl
  have F_law_spoiled := fun_mk (st := s_law_spoiled) l_law_spoiled c_law_spoiled k_law_spoiled
  have b_law_spoiled := F_law_spoiled.binds (ps := P_law_spoiled) fun _ _ _ _ _ _ us hl => match us, hl with | [_, _, _], _ => rfl
  have F_law_refused := fun_mk (st := s_law_refused) l_law_refused c_law_refused k_law_refused
  have b_law_refused := F_law_refused.binds (ps := P_law_refused) fun _ _ _ _ _ _ us hl => match us, hl with | [_, _, _, _, _], _ => rfl
  have F_law := fun_mk (st := s_law) l_law c_law k_law
  have b_law := F_law.binds (ps := P_law) fun _ _ _ _ _ _ us hl => match us, hl with | [_], _ => rfl
  let T : Tx K mg := {
    is_integer := ⟨f_is_integer, _, F_is_integer, PySem.W.mg_of X G a_is_integer, b_is_integer⟩
    is_name := ⟨f_is_name, _, F_is_name, PySem.W.mg_of X G a_is_name, b_is_name⟩
    is_pair := ⟨f_is_pair, _, F_is_pair, PySem.W.mg_of X G a_is_pair, b_is_pair⟩
    is_moves := ⟨f_is_moves, _, F_is_moves, PySem.W.mg_of X G a_is_moves, b_is_moves⟩
    is_draws := ⟨f_is_draws, _, F_is_draws, PySem.W.mg_of X G a_is_draws, b_is_draws⟩
    is_stand := ⟨f_is_stand, _, F_is_stand, PySem.W.mg_of X G a_is_stand, b_is_stand⟩
    are_stands := ⟨f_are_stands, _, F_are_stands, PySem.W.mg_of X G a_are_stands, b_are_stands⟩
    copied := ⟨f_copied, _, F_copied, PySem.W.mg_of X G a_copied, b_copied⟩
    leads := ⟨f_leads, _, F_leads, PySem.W.mg_of X G a_leads, b_leads⟩
    is_ringless := ⟨f_is_ringless, _, F_is_ringless, PySem.W.mg_of X G a_is_ringless, b_is_ringless⟩
    Work_init := ⟨f_Work_init, _, F_Work_init, b_Work_init⟩
    Work_row := ⟨f_Work_row, _, F_Work_row, b_Work_row⟩
    Work_kind := ⟨f_Work_kind, _, F_Work_kind, b_Work_kind⟩
    Work_mover := ⟨f_Work_mover, _, F_Work_mover, b_Work_mover⟩
    Work_steps := ⟨f_Work_steps, _, F_Work_steps, b_Work_steps⟩
    Work_to := ⟨f_Work_to, _, F_Work_to, b_Work_to⟩
    law_open := ⟨f_law_open, _, F_law_open, PySem.W.mg_of X G a_law_open, b_law_open⟩
    law_draw := ⟨f_law_draw, _, F_law_draw, PySem.W.mg_of X G a_law_draw, b_law_draw⟩
    law_names := ⟨f_law_names, _, F_law_names, PySem.W.mg_of X G a_law_names, b_law_names⟩
    law_target := ⟨f_law_target, _, F_law_target, PySem.W.mg_of X G a_law_target, b_law_target⟩
    law_menu := ⟨f_law_menu, _, F_law_menu, PySem.W.mg_of X G a_law_menu, b_law_menu⟩
    law_stand := ⟨f_law_stand, _, F_law_stand, PySem.W.mg_of X G a_law_stand, b_law_stand⟩
    law_stands := ⟨f_law_stands, _, F_law_stands, PySem.W.mg_of X G a_law_stands, b_law_stands⟩
    law_build := ⟨f_law_build, _, F_law_build, PySem.W.mg_of X G a_law_build, b_law_build⟩
    law_steps := ⟨f_law_steps, _, F_law_steps, PySem.W.mg_of X G a_law_steps, b_law_steps⟩
    law_to := ⟨f_law_to, _, F_law_to, PySem.W.mg_of X G a_law_to, b_law_to⟩
    law_mover := ⟨f_law_mover, _, F_law_mover, PySem.W.mg_of X G a_law_mover, b_law_mover⟩
    law_worths := ⟨f_law_worths, _, F_law_worths, PySem.W.mg_of X G a_law_worths, b_law_worths⟩
    law_endless := ⟨f_law_endless, _, F_law_endless, PySem.W.mg_of X G a_law_endless, b_law_endless⟩
    law_level := ⟨f_law_level, _, F_law_level, PySem.W.mg_of X G a_law_level, b_law_level⟩
    common_divisor := ⟨f_common_divisor, _, F_common_divisor, PySem.W.mg_of X G a_common_divisor, b_common_divisor⟩
    is_fraction := ⟨f_is_fraction, _, F_is_fraction, PySem.W.mg_of X G a_is_fraction, b_is_fraction⟩
    is_value := ⟨f_is_value, _, F_is_value, PySem.W.mg_of X G a_is_value, b_is_value⟩
    are_worths := ⟨f_are_worths, _, F_are_worths, PySem.W.mg_of X G a_are_worths, b_are_worths⟩
    Wish_init := ⟨f_Wish_init, _, F_Wish_init, b_Wish_init⟩
    Wish_worths := ⟨f_Wish_worths, _, F_Wish_worths, b_Wish_worths⟩
    suited := ⟨f_suited, _, F_suited, PySem.W.mg_of X G a_suited, b_suited⟩
    is_row := ⟨f_is_row, _, F_is_row, PySem.W.mg_of X G a_is_row, b_is_row⟩
    passed := ⟨f_passed, _, F_passed, PySem.W.mg_of X G a_passed, b_passed⟩
    movers := ⟨f_movers, _, F_movers, PySem.W.mg_of X G a_movers, b_movers⟩
    is_entry := ⟨f_is_entry, _, F_is_entry, PySem.W.mg_of X G a_is_entry, b_is_entry⟩
    is_book := ⟨f_is_book, _, F_is_book, PySem.W.mg_of X G a_is_book, b_is_book⟩
    let_steps := ⟨f_let_steps, _, F_let_steps, PySem.W.mg_of X G a_let_steps, b_let_steps⟩
    let_ways := ⟨f_let_ways, _, F_let_ways, PySem.W.mg_of X G a_let_ways, b_let_ways⟩
    way_to := ⟨f_way_to, _, F_way_to, PySem.W.mg_of X G a_way_to, b_way_to⟩
    is_below := ⟨f_is_below, _, F_is_below, PySem.W.mg_of X G a_is_below, b_is_below⟩
    checked_book := ⟨f_checked_book, _, F_checked_book, PySem.W.mg_of X G a_checked_book, b_checked_book⟩
    breaking := ⟨f_breaking, _, F_breaking, PySem.W.mg_of X G a_breaking, b_breaking⟩
    keeps := ⟨f_keeps, _, F_keeps, PySem.W.mg_of X G a_keeps, b_keeps⟩
    kept_stands := ⟨f_kept_stands, _, F_kept_stands, PySem.W.mg_of X G a_kept_stands, b_kept_stands⟩
    first_breach := ⟨f_first_breach, _, F_first_breach, PySem.W.mg_of X G a_first_breach, b_first_breach⟩
    law_book := ⟨f_law_book, _, F_law_book, PySem.W.mg_of X G a_law_book, b_law_book⟩
    law_let := ⟨f_law_let, _, F_law_let, PySem.W.mg_of X G a_law_let, b_law_let⟩
    law_reached := ⟨f_law_reached, _, F_law_reached, PySem.W.mg_of X G a_law_reached, b_law_reached⟩
    law_same := ⟨f_law_same, _, F_law_same, PySem.W.mg_of X G a_law_same, b_law_same⟩
    law_breaks := ⟨f_law_breaks, _, F_law_breaks, PySem.W.mg_of X G a_law_breaks, b_law_breaks⟩
    law_asked := ⟨f_law_asked, _, F_law_asked, PySem.W.mg_of X G a_law_asked, b_law_asked⟩
    law_known_breach := ⟨f_law_known_breach, _, F_law_known_breach, PySem.W.mg_of X G a_law_known_breach, b_law_known_breach⟩
    law_turned := ⟨f_law_turned, _, F_law_turned, PySem.W.mg_of X G a_law_turned, b_law_turned⟩
    law_turned_stands := ⟨f_law_turned_stands, _, F_law_turned_stands, PySem.W.mg_of X G a_law_turned_stands, b_law_turned_stands⟩
    law_entry := ⟨f_law_entry, _, F_law_entry, PySem.W.mg_of X G a_law_entry, b_law_entry⟩
    law_right := ⟨f_law_right, _, F_law_right, PySem.W.mg_of X G a_law_right, b_law_right⟩
    law_spoiled := ⟨f_law_spoiled, _, F_law_spoiled, PySem.W.mg_of X G a_law_spoiled, b_law_spoiled⟩
    law_refused := ⟨f_law_refused, _, F_law_refused, PySem.W.mg_of X G a_law_refused, b_law_refused⟩
    law := ⟨fa, _, F_law, PySem.W.mg_of X G a_law, b_law⟩
    b_abs := PySem.W.mg_none_of X G z_abs
    b_all := PySem.W.mg_none_of X G z_all
    b_bool := PySem.W.mg_none_of X G z_bool
    b_dict := PySem.W.mg_none_of X G z_dict
    b_enumerate := PySem.W.mg_none_of X G z_enumerate
    b_int := PySem.W.mg_none_of X G z_int
    b_isinstance := PySem.W.mg_none_of X G z_isinstance
    b_len := PySem.W.mg_none_of X G z_len
    b_list := PySem.W.mg_none_of X G z_list
    b_max := PySem.W.mg_none_of X G z_max
    b_min := PySem.W.mg_none_of X G z_min
    b_range := PySem.W.mg_none_of X G z_range
    b_repr := PySem.W.mg_none_of X G z_repr
    b_sorted := PySem.W.mg_none_of X G z_sorted
    b_str := PySem.W.mg_none_of X G z_str
    b_tuple := PySem.W.mg_none_of X G z_tuple
    a_Work := q_Work
    g_Work := PySem.W.mg_of X G a_Work
    cl_Work := ⟨pg_Work, hd_Work, po_Work, sa_Work⟩
    m_Work := ⟨mk_Work, a_Work_init, i_Work_init, kc_Work⟩
    n_Work_hands := n_Work_hands
    n_Work_start := n_Work_start
    n_Work_table := n_Work_table
    n_Work_names := n_Work_names
    n_Work_ends := n_Work_ends
    n_Work_ringless := n_Work_ringless
    a_Wish := q_Wish
    g_Wish := PySem.W.mg_of X G a_Wish
    cl_Wish := ⟨pg_Wish, hd_Wish, po_Wish, sa_Wish⟩
    m_Wish := ⟨mk_Wish, a_Wish_init, i_Wish_init, kc_Wish⟩
    n_Wish_table := n_Wish_table
    n_Wish_endless := n_Wish_endless
    n_Wish_coming := n_Wish_coming
    me_Work_row := ⟨a_Work_row, i_Work_row, k_Work_row⟩
    me_Work_kind := ⟨a_Work_kind, i_Work_kind, k_Work_kind⟩
    me_Work_mover := ⟨a_Work_mover, i_Work_mover, k_Work_mover⟩
    me_Work_steps := ⟨a_Work_steps, i_Work_steps, k_Work_steps⟩
    me_Work_to := ⟨a_Work_to, i_Work_to, k_Work_to⟩
    p_Wish_worths := p_Wish_worths
    pr_Wish_worths := ⟨a_Wish_worths, g_Wish_worths, t_Wish_worths, r_Wish_worths, rc_Wish_worths⟩
    c_BadRun := q_BadRun
    i_BadRun := i_BadRun
    d_BadRun := _
    g_BadRun := PySem.W.mg_of X G xa_BadRun
    s_BadRun := { oex := ⟨⟨_, _, _, _, _, _, _, _, _, _, _, _, _, _, _, xl_BadRun, rfl⟩, xs_BadRun, xb_BadRun, xy_BadRun, xk_BadRun⟩, xf := ⟨xg_BadRun, xh_BadRun, xb_BadRun, xd_BadRun⟩, noN := xn_BadRun, iC := xi_BadRun, tI := xt_BadRun, sup := xu_BadRun, mro := xm_BadRun, sub := xv_BadRun, nsu := PySem.W.mg_none_of X G z_super, bnd := .all (fun us hl => match us, hl with | [_, _], _ => rfl), any := z_any, sc := NdefX.nscope_by (by decide +kernel), d1 := (by decide +kernel), d2 := (by decide +kernel), scs := rfl, fn := ⟨_, _, _, _, _, _, _, _, _, _, _, _, _, _, _, _, _, _, _, _, _, _, _, _, _, rfl, rfl, xf_BadRun, xo_BadRun, ⟨_, _, _, xe_BadRun⟩, _, _, _, _, _, xp_BadRun, xq_BadRun⟩ }
    c_BadBook := q_BadBook
    g_BadBook := PySem.W.mg_of X G xa_BadBook
    p_BadBook := ⟨xx_BadBook, xk_BadBook, xb_BadBook, xy_BadBook, ⟨xg_BadBook, xh_BadBook, xb_BadBook, xd_BadBook, xe_BadBook, z_clget, z_cltk, xm_BadBook⟩⟩
    c_BadFraction := q_BadFraction
    g_BadFraction := PySem.W.mg_of X G xa_BadFraction
    p_BadFraction := ⟨xx_BadFraction, xk_BadFraction, xb_BadFraction, xy_BadFraction, ⟨xg_BadFraction, xh_BadFraction, xb_BadFraction, xd_BadFraction, xe_BadFraction, z_clget, z_cltk, xm_BadFraction⟩⟩
    c_OwnError := q_OwnError
    g_OwnError := PySem.W.mg_of X G xa_OwnError
    xp_BadBook_BadBook := exm_pair xb_BadBook xc_BadBook xy_BadBook pr_BadBook_BadBook
  }
  exact ⟨PySem.W.fnOf "law" "law" (defArgs s_law) (defBody s_law) (defScope s_law) .none kV_law dc_law pm_law an_law cd_law ct_law, fun s v => .of_eq rfl, fun base _ _ hsy => ok_law T hsy⟩
theorem walk {l : PySem.W.OpenLaw} {q : Program} {loose : List Str} {XP : (Str → Option Value) → Heap → Prop} {YP : World → Heap → Prop} {d : DefRec} {K : Params → PySem.W.Frag} (hn : l.most = some 63) (hdf : d.params.defaults = []) (him : PyProof.Rows.importsNone q = true)
    (hY : ∀ (w : World) (h : Heap), YP w h → (K w.params).In h)
    (F : ∀ (w : World) (mg : Str → Option Value) (fa : Addr) (h : Heap), (K w.params).In h → h.Ns mainGlobals mg → mg d.name = some (.ref fa) →
      ∃ fd : FuncData, (∀ (s : Shared) (u : Value), BindsTo s fd ⟨[u], []⟩ [("script", u)]) ∧ ∀ base : Heap, (K w.params).In base → base.Ns mainGlobals mg → ReR.SysIs base → ReR.FnG l.prog w (K w.params) mg base CX0 9 fa fd ["script"] (spLaw (K w.params))) :
    PySem.W.WalkO q loose XP YP l.row.toRowW d [] (fun f vs => PySem.call f vs) :=
  ReR.walk_ofG (n := 63) (k := 9) (x := "script") (CX := fun w => CX0) (sp := fun w => spLaw (K w.params)) hn (by decide) hdf ⟨rfl, by decide, by decide⟩ him hY F (fun _ _ a ns hl _ hS => ⟨a, ns, rfl, hS, Nat.le_trans hl (by decide), fun _ => rfl⟩) fun _ _ _ _ _ z => z
end M
open PySem PySem.W PyProof.Rows
instance : SupX.PX (PySem.Challenge.rw_ownshares_k70_whole_keeps_by_all_let_run).prog := ⟨by decide +kernel, by rfl⟩
set_option maxRecDepth 100000 in
set_option maxHeartbeats 0 in
theorem PySem.Challenge.cw_ownshares_k70_whole_keeps_by_all_let_run_holds : PySem.Challenge.rw_ownshares_k70_whole_keeps_by_all_let_run.Holds := by
  w_on; o_law; k_head; (case hw => w_witness2)
  k_fill
  refine M.walk (l := PySem.Challenge.rw_ownshares_k70_whole_keeps_by_all_let_run) rfl rfl (by decide +kernel) (fun w h Y => PySem.W.kIn_of Y) ?F
  case F =>
    intro w mg fa h KX G hmg
    refine' M.all_mk (l := PySem.Challenge.rw_ownshares_k70_whole_keeps_by_all_let_run) KX G hmg ?a_Work ?a_Wish ?a_is_integer ?l_is_integer ?c_is_integer ?k_is_integer ?a_is_name ?l_is_name ?c_is_name ?k_is_name ?a_is_pair ?l_is_pair ?c_is_pair ?k_is_pair ?a_is_moves ?l_is_moves ?c_is_moves ?k_is_moves ?a_is_draws ?l_is_draws ?c_is_draws ?k_is_draws ?a_is_stand ?l_is_stand ?c_is_stand ?k_is_stand ?a_are_stands ?l_are_stands ?c_are_stands ?k_are_stands ?a_copied ?l_copied ?c_copied ?k_copied ?a_leads ?l_leads ?c_leads ?k_leads ?a_is_ringless ?l_is_ringless ?c_is_ringless ?k_is_ringless ?a_Work_init ?i_Work_init ?l_Work_init ?c_Work_init ?k_Work_init ?a_Work_row ?i_Work_row ?l_Work_row ?c_Work_row ?k_Work_row ?a_Work_kind ?i_Work_kind ?l_Work_kind ?c_Work_kind ?k_Work_kind ?a_Work_mover ?i_Work_mover ?l_Work_mover ?c_Work_mover ?k_Work_mover ?a_Work_steps ?i_Work_steps ?l_Work_steps ?c_Work_steps ?k_Work_steps ?a_Work_to ?i_Work_to ?l_Work_to ?c_Work_to ?k_Work_to ?a_law_open ?l_law_open ?c_law_open ?k_law_open ?a_law_draw ?l_law_draw ?c_law_draw ?k_law_draw ?a_law_names ?l_law_names ?c_law_names ?k_law_names ?a_law_target ?l_law_target ?c_law_target ?k_law_target ?a_law_menu ?l_law_menu ?c_law_menu ?k_law_menu ?a_law_stand ?l_law_stand ?c_law_stand ?k_law_stand ?a_law_stands ?l_law_stands ?c_law_stands ?k_law_stands ?a_law_build ?l_law_build ?c_law_build ?k_law_build ?a_law_steps ?l_law_steps ?c_law_steps ?k_law_steps ?a_law_to ?l_law_to ?c_law_to ?k_law_to ?a_law_mover ?l_law_mover ?c_law_mover ?k_law_mover ?a_law_worths ?l_law_worths ?c_law_worths ?k_law_worths ?a_law_endless ?l_law_endless ?c_law_endless ?k_law_endless ?a_law_level ?l_law_level ?c_law_level ?k_law_level ?a_common_divisor ?l_common_divisor ?c_common_divisor ?k_common_divisor ?a_is_fraction ?l_is_fraction ?c_is_fraction ?k_is_fraction ?a_is_value ?l_is_value ?c_is_value ?k_is_value ?a_are_worths ?l_are_worths ?c_are_worths ?k_are_worths ?a_Wish_init ?i_Wish_init ?l_Wish_init ?c_Wish_init ?k_Wish_init ?a_Wish_worths ?g_Wish_worths ?t_Wish_worths ?rc_Wish_worths ?l_Wish_worths ?c_Wish_worths ?k_Wish_worths ?a_suited ?l_suited ?c_suited ?k_suited ?a_is_row ?l_is_row ?c_is_row ?k_is_row ?a_passed ?l_passed ?c_passed ?k_passed ?a_movers ?l_movers ?c_movers ?k_movers ?a_is_entry ?l_is_entry ?c_is_entry ?k_is_entry ?a_is_book ?l_is_book ?c_is_book ?k_is_book ?a_let_steps ?l_let_steps ?c_let_steps ?k_let_steps ?a_let_ways ?l_let_ways ?c_let_ways ?k_let_ways ?a_way_to ?l_way_to ?c_way_to ?k_way_to ?a_is_below ?l_is_below ?c_is_below ?k_is_below ?a_checked_book ?l_checked_book ?c_checked_book ?k_checked_book ?a_breaking ?l_breaking ?c_breaking ?k_breaking ?a_keeps ?l_keeps ?c_keeps ?k_keeps ?a_kept_stands ?l_kept_stands ?c_kept_stands ?k_kept_stands ?a_first_breach ?l_first_breach ?c_first_breach ?k_first_breach ?a_law_book ?l_law_book ?c_law_book ?k_law_book ?a_law_let ?l_law_let ?c_law_let ?k_law_let ?a_law_reached ?l_law_reached ?c_law_reached ?k_law_reached ?a_law_same ?l_law_same ?c_law_same ?k_law_same ?a_law_breaks ?l_law_breaks ?c_law_breaks ?k_law_breaks ?a_law_asked ?l_law_asked ?c_law_asked ?k_law_asked ?a_law_known_breach ?l_law_known_breach ?c_law_known_breach ?k_law_known_breach ?a_law_turned ?l_law_turned ?c_law_turned ?k_law_turned ?a_law_turned_stands ?l_law_turned_stands ?c_law_turned_stands ?k_law_turned_stands ?a_law_entry ?l_law_entry ?c_law_entry ?k_law_entry ?a_law_right ?l_law_right ?c_law_right ?k_law_right ?a_law_spoiled ?l_law_spoiled ?c_law_spoiled ?k_law_spoiled ?a_law_refused ?l_law_refused ?c_law_refused ?k_law_refused ?a_law ?l_law ?c_law ?k_law ?pg_Work ?hd_Work ?po_Work ?sa_Work ?mk_Work ?kc_Work ?n_Work_hands ?n_Work_start ?n_Work_table ?n_Work_names ?n_Work_ends ?n_Work_ringless ?pg_Wish ?hd_Wish ?po_Wish ?sa_Wish ?mk_Wish ?kc_Wish ?n_Wish_table ?n_Wish_endless ?n_Wish_coming ?z_abs ?z_all ?z_bool ?z_dict ?z_enumerate ?z_int ?z_isinstance ?z_len ?z_list ?z_max ?z_min ?z_range ?z_repr ?z_sorted ?z_str ?z_tuple ?z_super ?z_any ?xa_BadRun ?xl_BadRun ?xs_BadRun ?xg_BadRun ?xh_BadRun ?xn_BadRun ?xi_BadRun ?xt_BadRun ?xu_BadRun ?xm_BadRun ?xv_BadRun ?xb_BadRun ?xy_BadRun ?xk_BadRun ?xd_BadRun ?xc_BadRun ?xf_BadRun ?xo_BadRun ?xe_BadRun ?xp_BadRun ?xq_BadRun ?xa_OwnError ?xy_OwnError ?xc_OwnError ?z_clget ?z_cltk ?xa_BadBook ?xx_BadBook ?xk_BadBook ?xb_BadBook ?xy_BadBook ?xc_BadBook ?xg_BadBook ?xh_BadBook ?xd_BadBook ?xe_BadBook ?xm_BadBook ?xa_BadFraction ?xx_BadFraction ?xk_BadFraction ?xb_BadFraction ?xy_BadFraction ?xc_BadFraction ?xg_BadFraction ?xh_BadFraction ?xd_BadFraction ?xe_BadFraction ?xm_BadFraction ?pr_BadBook_BadBook
    (case a_Work => k_is)
    (case a_Wish => k_is)
    (case a_is_integer => k_is)
    (case l_is_integer => k_is)
    (case c_is_integer => k_is)
    (case k_is_integer => k_is)
    (case a_is_name => k_is)
    (case l_is_name => k_is)
    (case c_is_name => k_is)
    (case k_is_name => k_is)
    (case a_is_pair => k_is)
    (case l_is_pair => k_is)
    (case c_is_pair => k_is)
    (case k_is_pair => k_is)
    (case a_is_moves => k_is)
    (case l_is_moves => k_is)
    (case c_is_moves => k_is)
    (case k_is_moves => k_is)
    (case a_is_draws => k_is)
    (case l_is_draws => k_is)
    (case c_is_draws => k_is)
    (case k_is_draws => k_is)
    (case a_is_stand => k_is)
    (case l_is_stand => k_is)
    (case c_is_stand => k_is)
    (case k_is_stand => k_is)
    (case a_are_stands => k_is)
    (case l_are_stands => k_is)
    (case c_are_stands => k_is)
    (case k_are_stands => k_is)
    (case a_copied => k_is)
    (case l_copied => k_is)
    (case c_copied => k_is)
    (case k_copied => k_is)
    (case a_leads => k_is)
    (case l_leads => k_is)
    (case c_leads => k_is)
    (case k_leads => k_is)
    (case a_is_ringless => k_is)
    (case l_is_ringless => k_is)
    (case c_is_ringless => k_is)
    (case k_is_ringless => k_is)
    (case a_Work_init => k_is)
    (case i_Work_init => k_is)
    (case l_Work_init => k_is)
    (case c_Work_init => k_is)
    (case k_Work_init => k_is)
    (case a_Work_row => k_is)
    (case i_Work_row => k_is)
    (case l_Work_row => k_is)
    (case c_Work_row => k_is)
    (case k_Work_row => k_is)
    (case a_Work_kind => k_is)
    (case i_Work_kind => k_is)
    (case l_Work_kind => k_is)
    (case c_Work_kind => k_is)
    (case k_Work_kind => k_is)
    (case a_Work_mover => k_is)
    (case i_Work_mover => k_is)
    (case l_Work_mover => k_is)
    (case c_Work_mover => k_is)
    (case k_Work_mover => k_is)
    (case a_Work_steps => k_is)
    (case i_Work_steps => k_is)
    (case l_Work_steps => k_is)
    (case c_Work_steps => k_is)
    (case k_Work_steps => k_is)
    (case a_Work_to => k_is)
    (case i_Work_to => k_is)
    (case l_Work_to => k_is)
    (case c_Work_to => k_is)
    (case k_Work_to => k_is)
    (case a_law_open => k_is)
    (case l_law_open => k_is)
    (case c_law_open => k_is)
    (case k_law_open => k_is)
    (case a_law_draw => k_is)
    (case l_law_draw => k_is)
    (case c_law_draw => k_is)
    (case k_law_draw => k_is)
    (case a_law_names => k_is)
    (case l_law_names => k_is)
    (case c_law_names => k_is)
    (case k_law_names => k_is)
    (case a_law_target => k_is)
    (case l_law_target => k_is)
    (case c_law_target => k_is)
    (case k_law_target => k_is)
    (case a_law_menu => k_is)
    (case l_law_menu => k_is)
    (case c_law_menu => k_is)
    (case k_law_menu => k_is)
    (case a_law_stand => k_is)
    (case l_law_stand => k_is)
    (case c_law_stand => k_is)
    (case k_law_stand => k_is)
    (case a_law_stands => k_is)
    (case l_law_stands => k_is)
    (case c_law_stands => k_is)
    (case k_law_stands => k_is)
    (case a_law_build => k_is)
    (case l_law_build => k_is)
    (case c_law_build => k_is)
    (case k_law_build => k_is)
    (case a_law_steps => k_is)
    (case l_law_steps => k_is)
    (case c_law_steps => k_is)
    (case k_law_steps => k_is)
    (case a_law_to => k_is)
    (case l_law_to => k_is)
    (case c_law_to => k_is)
    (case k_law_to => k_is)
    (case a_law_mover => k_is)
    (case l_law_mover => k_is)
    (case c_law_mover => k_is)
    (case k_law_mover => k_is)
    (case a_law_worths => k_is)
    (case l_law_worths => k_is)
    (case c_law_worths => k_is)
    (case k_law_worths => k_is)
    (case a_law_endless => k_is)
    (case l_law_endless => k_is)
    (case c_law_endless => k_is)
    (case k_law_endless => k_is)
    (case a_law_level => k_is)
    (case l_law_level => k_is)
    (case c_law_level => k_is)
    (case k_law_level => k_is)
    (case a_common_divisor => k_is)
    (case l_common_divisor => k_is)
    (case c_common_divisor => k_is)
    (case k_common_divisor => k_is)
    (case a_is_fraction => k_is)
    (case l_is_fraction => k_is)
    (case c_is_fraction => k_is)
    (case k_is_fraction => k_is)
    (case a_is_value => k_is)
    (case l_is_value => k_is)
    (case c_is_value => k_is)
    (case k_is_value => k_is)
    (case a_are_worths => k_is)
    (case l_are_worths => k_is)
    (case c_are_worths => k_is)
    (case k_are_worths => k_is)
    (case a_Wish_init => k_is)
    (case i_Wish_init => k_is)
    (case l_Wish_init => k_is)
    (case c_Wish_init => k_is)
    (case k_Wish_init => k_is)
    (case a_Wish_worths => k_is)
    (case g_Wish_worths => k_is)
    (case t_Wish_worths => k_is)
    (case rc_Wish_worths => k_is)
    (case l_Wish_worths => k_is)
    (case c_Wish_worths => k_is)
    (case k_Wish_worths => k_is)
    (case a_suited => k_is)
    (case l_suited => k_is)
    (case c_suited => k_is)
    (case k_suited => k_is)
    (case a_is_row => k_is)
    (case l_is_row => k_is)
    (case c_is_row => k_is)
    (case k_is_row => k_is)
    (case a_passed => k_is)
    (case l_passed => k_is)
    (case c_passed => k_is)
    (case k_passed => k_is)
    (case a_movers => k_is)
    (case l_movers => k_is)
    (case c_movers => k_is)
    (case k_movers => k_is)
    (case a_is_entry => k_is)
    (case l_is_entry => k_is)
    (case c_is_entry => k_is)
    (case k_is_entry => k_is)
    (case a_is_book => k_is)
    (case l_is_book => k_is)
    (case c_is_book => k_is)
    (case k_is_book => k_is)
    (case a_let_steps => k_is)
    (case l_let_steps => k_is)
    (case c_let_steps => k_is)
    (case k_let_steps => k_is)
    (case a_let_ways => k_is)
    (case l_let_ways => k_is)
    (case c_let_ways => k_is)
    (case k_let_ways => k_is)
    (case a_way_to => k_is)
    (case l_way_to => k_is)
    (case c_way_to => k_is)
    (case k_way_to => k_is)
    (case a_is_below => k_is)
    (case l_is_below => k_is)
    (case c_is_below => k_is)
    (case k_is_below => k_is)
    (case a_checked_book => k_is)
    (case l_checked_book => k_is)
    (case c_checked_book => k_is)
    (case k_checked_book => k_is)
    (case a_breaking => k_is)
    (case l_breaking => k_is)
    (case c_breaking => k_is)
    (case k_breaking => k_is)
    (case a_keeps => k_is)
    (case l_keeps => k_is)
    (case c_keeps => k_is)
    (case k_keeps => k_is)
    (case a_kept_stands => k_is)
    (case l_kept_stands => k_is)
    (case c_kept_stands => k_is)
    (case k_kept_stands => k_is)
    (case a_first_breach => k_is)
    (case l_first_breach => k_is)
    (case c_first_breach => k_is)
    (case k_first_breach => k_is)
    (case a_law_book => k_is)
    (case l_law_book => k_is)
    (case c_law_book => k_is)
    (case k_law_book => k_is)
    (case a_law_let => k_is)
    (case l_law_let => k_is)
    (case c_law_let => k_is)
    (case k_law_let => k_is)
    (case a_law_reached => k_is)
    (case l_law_reached => k_is)
    (case c_law_reached => k_is)
    (case k_law_reached => k_is)
    (case a_law_same => k_is)
    (case l_law_same => k_is)
    (case c_law_same => k_is)
    (case k_law_same => k_is)
    (case a_law_breaks => k_is)
    (case l_law_breaks => k_is)
    (case c_law_breaks => k_is)
    (case k_law_breaks => k_is)
    (case a_law_asked => k_is)
    (case l_law_asked => k_is)
    (case c_law_asked => k_is)
    (case k_law_asked => k_is)
    (case a_law_known_breach => k_is)
    (case l_law_known_breach => k_is)
    (case c_law_known_breach => k_is)
    (case k_law_known_breach => k_is)
    (case a_law_turned => k_is)
    (case l_law_turned => k_is)
    (case c_law_turned => k_is)
    (case k_law_turned => k_is)
    (case a_law_turned_stands => k_is)
    (case l_law_turned_stands => k_is)
    (case c_law_turned_stands => k_is)
    (case k_law_turned_stands => k_is)
    (case a_law_entry => k_is)
    (case l_law_entry => k_is)
    (case c_law_entry => k_is)
    (case k_law_entry => k_is)
    (case a_law_right => k_is)
    (case l_law_right => k_is)
    (case c_law_right => k_is)
    (case k_law_right => k_is)
    (case a_law_spoiled => k_is)
    (case l_law_spoiled => k_is)
    (case c_law_spoiled => k_is)
    (case k_law_spoiled => k_is)
    (case a_law_refused => k_is)
    (case l_law_refused => k_is)
    (case c_law_refused => k_is)
    (case k_law_refused => k_is)
    (case a_law => k_is)
    (case l_law => k_is)
    (case c_law => k_is)
    (case k_law => k_is)
    (case pg_Work => k_is)
    (case hd_Work => k_is)
    (case po_Work => k_is)
    (case sa_Work => k_is)
    (case mk_Work => k_is)
    (case kc_Work => k_is)
    (case n_Work_hands => k_is)
    (case n_Work_start => k_is)
    (case n_Work_table => k_is)
    (case n_Work_names => k_is)
    (case n_Work_ends => k_is)
    (case n_Work_ringless => k_is)
    (case pg_Wish => k_is)
    (case hd_Wish => k_is)
    (case po_Wish => k_is)
    (case sa_Wish => k_is)
    (case mk_Wish => k_is)
    (case kc_Wish => k_is)
    (case n_Wish_table => k_is)
    (case n_Wish_endless => k_is)
    (case n_Wish_coming => k_is)
    (case z_abs => k_is)
    (case z_all => k_is)
    (case z_bool => k_is)
    (case z_dict => k_is)
    (case z_enumerate => k_is)
    (case z_int => k_is)
    (case z_isinstance => k_is)
    (case z_len => k_is)
    (case z_list => k_is)
    (case z_max => k_is)
    (case z_min => k_is)
    (case z_range => k_is)
    (case z_repr => k_is)
    (case z_sorted => k_is)
    (case z_str => k_is)
    (case z_tuple => k_is)
    (case z_super => k_is)
    (case z_any => k_is)
    (case xa_BadRun => k_is)
    (case xl_BadRun => k_is)
    (case xs_BadRun => k_is)
    (case xg_BadRun => k_is)
    (case xh_BadRun => k_is)
    (case xn_BadRun => k_is)
    (case xi_BadRun => k_is)
    (case xt_BadRun => k_is)
    (case xu_BadRun => first | ks_is | k_is)
    (case xm_BadRun => k_is)
    (case xv_BadRun => k_is)
    (case xb_BadRun => k_is)
    (case xy_BadRun => k_is)
    (case xk_BadRun => k_is)
    (case xd_BadRun => k_is)
    (case xc_BadRun => k_is)
    (case xf_BadRun => k_is)
    (case xo_BadRun => k_is)
    (case xe_BadRun => k_is)
    (case xp_BadRun => k_is)
    (case xq_BadRun => rfl)
    (case xa_OwnError => k_is)
    (case xy_OwnError => k_is)
    (case xc_OwnError => k_is)
    (case z_clget => k_is)
    (case z_cltk => k_is)
    (case xa_BadBook => k_is)
    (case xx_BadBook => k_exc)
    (case xk_BadBook => k_is)
    (case xb_BadBook => k_is)
    (case xy_BadBook => k_is)
    (case xc_BadBook => k_is)
    (case xg_BadBook => k_is)
    (case xh_BadBook => k_is)
    (case xd_BadBook => k_is)
    (case xe_BadBook => k_is)
    (case xm_BadBook => k_is)
    (case xa_BadFraction => k_is)
    (case xx_BadFraction => k_exc)
    (case xk_BadFraction => k_is)
    (case xb_BadFraction => k_is)
    (case xy_BadFraction => k_is)
    (case xc_BadFraction => k_is)
    (case xg_BadFraction => k_is)
    (case xh_BadFraction => k_is)
    (case xd_BadFraction => k_is)
    (case xe_BadFraction => k_is)
    (case xm_BadFraction => k_is)
    (case pr_BadBook_BadBook => first | rfl | k_is)
#print axioms PySem.Challenge.cw_ownshares_k70_whole_keeps_by_all_let_run_holds
