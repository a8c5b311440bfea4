import PyProof.Rows.All
import Wide.All
import OpenK.AllK
import Wide.FinOn
import HandS.ForMost
import HandS.Wide
import HandS.WideBits
import HandS.IsInst
import HandS.TupAny
import HandS.Deep
import HandS.EndBits
import HandS.More
import HandS.Walk
import HandS.Conv
import HandS.ForExc
import HandS.HotCalls
import HandS.ExcInit
import HandS.ExcSuper
import HandS.ExcField
import HandS.Nested
import KE.KExcSuper
import KE.KExcIs
import HandS.ExcIs
import HandS.TupLe
import PySem.Challenge.RW_judgedplay_k34_whole_store_reads_back
set_option Elab.async false
set_option linter.all false
set_option maxRecDepth 100000
set_option maxHeartbeats 4000000
/-! ### my own layer: introduction forms for the readings -/
namespace Jp
open PySem PySem.Spec PyProof.Rows L2
/-! rules by names -/
section
variable {X : Cx}
def rInt1 : List V → Hp → VK → Prop := fun xs H Q => (∃ i, xs = [.int i] ∧ Q (.int i) H) ∨ ∃ k, xs = [.bl k] ∧ Q (.int (if k then 1 else 0)) H
theorem c_int : CallR X (.type "int") rInt1 := call_int1
def rAbs : List V → Hp → VK → Prop := fun xs H Q => ∃ i, xs = [.int i] ∧ Q (.int (if i < 0 then -i else i)) H
theorem c_abs : CallR X (.builtin "abs") rAbs := call_abs
def rMax2 : List V → Hp → VK → Prop := fun xs H Q => ∃ i j, xs = [.int i, .int j] ∧ Q (.int (if j > i then j else i)) H
theorem c_max2 (hc : X.calm = true) : CallR X (.builtin "max") rMax2 := call_max2 hc
def rMin2 : List V → Hp → VK → Prop := fun xs H Q => ∃ i j, xs = [.int i, .int j] ∧ Q (.int (if j < i then j else i)) H
theorem c_min2 (hc : X.calm = true) : CallR X (.builtin "min") rMin2 := call_min2 hc
def qLen (K : PySem.W.Frag) : List V → Hp → VK → Prop := fun xs H Q => ∃ x n, xs = [x] ∧ LenV K x H n ∧ Q (.int (n : Nat)) H
theorem c_len : CallR X (.builtin "len") (qLen X.K) := call_len
def rLenD : List V → Hp → VK → Prop := fun xs H Q => ∃ a kvs, xs = [V.ref a] ∧ H a = some (.dK kvs) ∧ Q (.int kvs.length) H
theorem c_lenD : CallR X (.builtin "len") rLenD := call_lenD
def rTupOf (K : PySem.W.Frag) : List V → Hp → VK → Prop := fun xs H Q => ∃ p ys, xs = [.ref p] ∧ ((SqL K H p ys ∧ ∀ l, H l = none → Q (.ref l) (upd H l (.tup ys))) ∨ (SqT K H p ys ∧ Q (.ref p) H))
theorem c_tup : CallR X (.type "tuple") (rTupOf X.K) := call_tuple_of
def rLstOf (K : PySem.W.Frag) : List V → Hp → VK → Prop := fun xs H Q => ∃ p ys, xs = [.ref p] ∧ (SqL K H p ys ∨ SqT K H p ys) ∧ ∀ l, H l = none → Q (.ref l) (upd H l (.lst ys))
theorem c_lst : CallR X (.type "list") (rLstOf X.K) := call_list_of
def rBool1 : List V → Hp → VK → Prop := fun xs H Q => (∃ i, xs = [.int i] ∧ Q (.bl (i != 0)) H) ∨ ∃ k, xs = [.bl k] ∧ Q (.bl k) H
theorem c_bool1 : CallR X (.type "bool") rBool1 := call_bool1
def rIsNon : R2 := fun x y H Q => y = .non ∧ Q (.bl (decide (x = .non))) H
theorem o_isN : OpR X (compareOp .Is) rIsNon := op_isN
def rNotNon : R2 := fun x y H Q => y = .non ∧ Q (.bl (!decide (x = .non))) H
theorem o_notN : OpR X (compareOp .IsNot) rNotNon := op_notN
def rAddStr : R2 := fun x y H Q => ∃ i j, x = .str i ∧ y = .str j ∧ i.length + j.length ≤ sizeLine ∧ Q (.str (i ++ j)) H
theorem o_addS : OpR X (binaryOp .Add) rAddStr := op_add_str
theorem o_iaddS : OpR X (inplaceOp .Add) rAddStr := iop_add_str
end
section
variable {K : PySem.W.Frag} {σ : L2.St} {H : Hp} {Q : VK}
theorem i_isN {x : V} (q : Q (.bl (decide (x = .non))) H) : rIsNon x .non H Q := ⟨rfl, q⟩
theorem i_notN {x : V} (q : Q (.bl (!decide (x = .non))) H) : rNotNon x .non H Q := ⟨rfl, q⟩
theorem i_int {i : Int} (q : Q (.int i) H) : rInt1 [.int i] H Q := .inl ⟨i, rfl, q⟩
theorem i_intB {k : Bool} (q : Q (.int (if k then 1 else 0)) H) : rInt1 [.bl k] H Q := .inr ⟨k, rfl, q⟩
theorem i_abs {i : Int} (q : Q (.int (if i < 0 then -i else i)) H) : rAbs [.int i] H Q := ⟨i, rfl, q⟩
theorem i_max2 {i j : Int} (q : Q (.int (if j > i then j else i)) H) : rMax2 [.int i, .int j] H Q := ⟨i, j, rfl, q⟩
theorem i_min2 {i j : Int} (q : Q (.int (if j < i then j else i)) H) : rMin2 [.int i, .int j] H Q := ⟨i, j, rfl, q⟩
theorem i_lenL {p : Addr} {xs : List V} (h : SqL K H p xs) (q : Q (.int xs.length) H) : qLen K [.ref p] H Q := ⟨.ref p, xs.length, rfl, .inl ⟨xs, h, rfl⟩, q⟩
theorem i_lenT {p : Addr} {xs : List V} (h : SqT K H p xs) (q : Q (.int xs.length) H) : qLen K [.ref p] H Q := ⟨.ref p, xs.length, rfl, .inr ⟨xs, h, rfl⟩, q⟩
theorem i_lenS {x : Str} (h : x.length ≤ sizeLine) (q : Q (.int x.length) H) : qLen K [.str x] H Q := ⟨.str x, x.length, rfl, ⟨h, rfl⟩, q⟩
theorem i_lenD {p : Addr} {kvs : List (L2.Key × V)} (h : H p = some (.dK kvs)) (q : Q (.int kvs.length) H) : rLenD [.ref p] H Q := ⟨p, kvs, rfl, h, q⟩
theorem i_tupL {p : Addr} {ys : List V} (h : SqL K H p ys) (q : ∀ l, H l = none → Q (.ref l) (upd H l (.tup ys))) : rTupOf K [.ref p] H Q := ⟨p, ys, rfl, .inl ⟨h, q⟩⟩
theorem i_tupT {p : Addr} {ys : List V} (h : SqT K H p ys) (q : Q (.ref p) H) : rTupOf K [.ref p] H Q := ⟨p, ys, rfl, .inr ⟨h, q⟩⟩
theorem i_lstL {p : Addr} {ys : List V} (h : SqL K H p ys) (q : ∀ l, H l = none → Q (.ref l) (upd H l (.lst ys))) : rLstOf K [.ref p] H Q := ⟨p, ys, rfl, .inl h, q⟩
theorem i_lstT {p : Addr} {ys : List V} (h : SqT K H p ys) (q : ∀ l, H l = none → Q (.ref l) (upd H l (.lst ys))) : rLstOf K [.ref p] H Q := ⟨p, ys, rfl, .inr h, q⟩
theorem i_catA {p b : Addr} {xs ys : List V} (h1 : SqT K H p xs) (h2 : SqT K H b ys) (hl : xs.length + ys.length ≤ sizeLine) (q : ∀ (r : Addr) (H' : Hp), (∀ b o, H b = some o → H' b = some o) → SqT K H' r (xs ++ ys) → Q (.ref r) H') : rCatA K (.ref p) (.ref b) H Q := by
  refine ⟨p, b, xs, ys, rfl, rfl, h1, h2, hl, fun e => ?_, fun _ e => ?_, fun _ _ r hr => ?_⟩
  · subst e; exact q b H (fun _ _ h => h) h2
  · subst e; exact q p H (fun _ _ h => h) (by rw [List.append_nil]; exact h1)
  · exact q r _ (fun b o e => by rw [upd_ne (ne_of_none e hr)]; exact e) (.inl (.inl upd_same))
theorem i_catI {p b : Addr} {ns ms : List Int} (h1 : SqT K H p (ns.map V.int)) (h2 : SqT K H b (ms.map V.int)) (hl : ns.length + ms.length ≤ 10000) (q : ∀ (r : Addr) (H' : Hp), (∀ b o, H b = some o → H' b = some o) → SqT K H' r ((ns ++ ms).map V.int) → Q (.ref r) H') : rCatA K (.ref p) (.ref b) H Q :=
  i_catA h1 h2 (by rw [List.length_map, List.length_map]; exact Nat.le_trans hl (by decide)) fun r H' s t => q r H' s (by rw [List.map_append]; exact t)
/-- ns[lo:hi] -/
def cutI (ns : List Int) (lo hi : Option Int) : List Int := (ns.drop (HT.sIx ns.length 0 lo)).take (HT.sIx ns.length ns.length hi - HT.sIx ns.length 0 lo)
theorem cutI_len (ns : List Int) (lo hi : Option Int) : (cutI ns lo hi).length ≤ ns.length := by
  unfold cutI
  rw [List.length_take, List.length_drop]
  omega
theorem i_slI {p : Addr} {ns : List Int} {lo hi : Option Int} (h : SqT K H p (ns.map V.int)) (hw : ¬ (HT.sIx ns.length 0 lo = 0 ∧ HT.sIx ns.length ns.length hi = ns.length))
    (q : ∀ (r : Addr) (H' : Hp), (∀ b o, H b = some o → H' b = some o) → SqT K H' r ((cutI ns lo hi).map V.int) → Q (.ref r) H') : rSlT K (.ref p) lo hi H Q := by
  refine ⟨p, _, rfl, h, by rw [List.length_map]; exact hw, fun r hr => q r _ (fun b o e => by rw [upd_ne (ne_of_none e hr)]; exact e) (.inl (.inl ?_))⟩
  rw [upd_same]
  unfold cutV cutI
  rw [List.length_map, List.map_take, List.map_drop]
theorem i_sl {r : V → Option Int → Option Int → Hp → VK → Prop} {te : TE} {tl th : TO} (h : te σ H fun x H1 => tl σ H1 fun l H2 => th σ H2 fun u H3 => r x l u H3 Q) : tSl r te tl th σ H Q := h
theorem i_noPart {Q : Option Int → Hp → Prop} (q : Q none H) : tNoPart σ H Q := q
theorem i_part {t : TE} {Q : Option Int → Hp → Prop} (h : t σ H fun x H1 => ∃ i, x = .int i ∧ Q (some i) H1) : tPart t σ H Q := h
theorem i_cat {p b : Addr} {xs zs : List V} (h1 : H p = some (.lst xs)) (h2 : H b = some (.lst zs)) (hl : xs.length + zs.length ≤ sizeLine) (q : ∀ r, H r = none → Q (.ref r) (upd H r (.lst (xs ++ zs)))) : rCat (.ref p) (.ref b) H Q := ⟨p, b, xs, zs, rfl, rfl, h1, h2, hl, q⟩
theorem i_cat' {p b : Addr} {xs zs : List V} (e1 : H p = some (.lst xs)) (e2 : H b = some (.lst zs)) (hl : xs.length + zs.length ≤ 10000) (q : ∀ r H', (∀ b o, H b = some o → H' b = some o) → H r = none → H' r = some (.lst (xs ++ zs)) → Q (.ref r) H') : rCat (.ref p) (.ref b) H Q :=
  i_cat e1 e2 (by rw [sizeLine_eq]; omega) fun r hr => q r _ (fun b o e => by rw [upd_ne (ne_of_none e hr)]; exact e) hr upd_same
theorem i_slL {p : Addr} {xs : List V} {lo hi : Option Int} (h : SqL K H p xs) (q : ∀ r H', (∀ b o, H b = some o → H' b = some o) → H r = none → H' r = some (.lst (cutV xs lo hi)) → Q (.ref r) H') : rSlL K (.ref p) lo hi H Q :=
  ⟨p, xs, rfl, h, fun r hr => q r _ (fun b o e => by rw [upd_ne (ne_of_none e hr)]; exact e) hr upd_same⟩
theorem i_chain {r r' : R2} {ta tb tc : TE} (h : ta σ H fun x H1 => tb σ H1 fun y H2 => r x y H2 fun z H3 => ∃ k, z = .bl k ∧ (if k = true then tc σ H3 fun w' H4 => r' y w' H4 Q else Q (.bl false) H3)) : tChain r r' ta tb tc σ H Q := h
theorem i_popAt {p : Addr} {xs : List V} {i : Int} {y : V} (h : H p = some (.lst xs)) (h0 : 0 ≤ i) (h1 : i < xs.length) (h2 : xs.length ≤ 1000000) (e : xs[i.toNat]? = some y) (q : Q y (upd H p (.lst (xs.eraseIdx i.toNat)))) : rPopAt (.ref p) [.int i] H Q :=
  ⟨p, xs, i, i.toNat, y, rfl, rfl, h, by omega, by omega, seqIndex_of h0 h1, e, q⟩
theorem i_isI {i : Int} {Q : Int → Prop} (q : Q i) : ∃ i', V.int i = .int i' ∧ Q i' := ⟨i, rfl, q⟩
theorem i_bm {T : String} {r : V → List V → Hp → VK → Prop} {to : TE} {t : TA} (h : to σ H fun x H1 => tyV K T x H1 ∧ t σ H1 fun xs H2 => r x xs H2 Q) : tBM K T r to t σ H Q := h
theorem i_bm0 {T : String} {r : V → List V → Hp → VK → Prop} {to : TE} (h : to σ H fun x H1 => tyV K T x H1 ∧ r x [] H1 Q) : tBM0 K T r to σ H Q := h
theorem i_tyL {p : Addr} {xs : List V} {R : Prop} (s : SqL K H p xs) (q : R) : tyV K "list" (.ref p) H ∧ R := ⟨.inl ⟨rfl, xs, s⟩, q⟩
theorem i_app {p : Addr} {xs : List V} {y : V} (h : H p = some (.lst xs)) (hl : xs.length < sizeLine) (q : Q .non (upd H p (.lst (xs ++ [y])))) : rAppend (.ref p) [y] H Q := ⟨p, xs, y, rfl, rfl, h, hl, q⟩
theorem i_addS {x y : Str} (h : x.length + y.length ≤ sizeLine) (q : Q (.str (x ++ y)) H) : rAddStr (.str x) (.str y) H Q := ⟨x, y, rfl, rfl, h, q⟩
theorem i_isi {x : V} {n : String} {t : Value} {b : Bool} (ty : TyX K H x t) (e : PySem.W.kitOne K t (.type n) = some b) (q : Q (.bl b) H) : rIsi K [x, .ty n] H Q := ⟨x, .ty n, t, .type n, b, rfl, .ty n, ty, e, q⟩
theorem i_var {i : Nat} {v : V} (h : σ[i]? = some (some v)) (q : Q v H) : tVar i σ H Q := ⟨v, h, q⟩
theorem i_c {v : V} (q : Q v H) : tC v σ H Q := q
theorem i_op {r : R2} {ta tb : TE} (h : ta σ H fun x H1 => tb σ H1 fun y H2 => r x y H2 Q) : tOp r ta tb σ H Q := h
theorem i_un {r : V → Hp → VK → Prop} {ta : TE} (h : ta σ H fun x H1 => r x H1 Q) : tUn r ta σ H Q := h
theorem i_rI0 {g : Int → Int → V} {i j : Int} (q : Q (g i j) H) : rI0 g (.int i) (.int j) H Q := ⟨i, j, rfl, rfl, q⟩
theorem i_rI {C : Int → Int → Prop} {g : Int → Int → V} {i j : Int} (c : C i j) (q : Q (g i j) H) : rI C g (.int i) (.int j) H Q := ⟨i, j, rfl, rfl, c, q⟩
theorem i_rU {g : Int → V} {i : Int} (q : Q (g i) H) : rU g (.int i) H Q := ⟨i, rfl, q⟩
theorem i_eqI {i j : Int} (q : Q (.bl (decide (i = j))) H) : rEq (.int i) (.int j) H Q := ⟨rfl, by
  have e : decide (V.int i = V.int j) = decide (i = j) := by simp
  rw [e]; exact q⟩
theorem i_neI {i j : Int} (q : Q (.bl (!decide (i = j))) H) : rNe (.int i) (.int j) H Q := ⟨rfl, by
  have e : decide (V.int i = V.int j) = decide (i = j) := by simp
  rw [e]; exact q⟩
theorem i_eqB {i j : Bool} (q : Q (.bl (decide (i = j))) H) : rEq (.bl i) (.bl j) H Q := ⟨rfl, by
  have e : decide (V.bl i = V.bl j) = decide (i = j) := by simp
  rw [e]; exact q⟩
theorem i_neB {i j : Bool} (q : Q (.bl (!decide (i = j))) H) : rNe (.bl i) (.bl j) H Q := ⟨rfl, by
  have e : decide (V.bl i = V.bl j) = decide (i = j) := by simp
  rw [e]; exact q⟩
theorem i_eqS {i j : Str} (q : Q (.bl (decide (i = j))) H) : rEq (.str i) (.str j) H Q := ⟨rfl, by
  have e : decide (V.str i = V.str j) = decide (i = j) := by simp
  rw [e]; exact q⟩
theorem i_neS {i j : Str} (q : Q (.bl (!decide (i = j))) H) : rNe (.str i) (.str j) H Q := ⟨rfl, by
  have e : decide (V.str i = V.str j) = decide (i = j) := by simp
  rw [e]; exact q⟩
/-! index -/
theorem i_ixL {p : Addr} {xs : List V} {i : Int} {v : V} (h : SqL K H p xs) (e : atI xs i = some v) (q : Q v H) : rIxL K (.ref p) (.int i) H Q := ⟨p, xs, i, v, rfl, rfl, h, e, q⟩
theorem i_ixT {p : Addr} {xs : List V} {i : Int} {v : V} (h : SqT K H p xs) (e : atI xs i = some v) (q : Q v H) : rIxT K (.ref p) (.int i) H Q := ⟨p, xs, i, v, rfl, rfl, h, e, q⟩
theorem i_ix1 {x y : V} (h : rIxL K x y H Q) : rIx K x y H Q := .inl h
theorem i_ix2 {x y : V} (h : rIxT K x y H Q) : rIx K x y H Q := .inr (.inl h)
/-! arguments, calls, displays -/
theorem i_nil {Q : List V → Hp → Prop} (q : Q [] H) : tNil σ H Q := q
theorem i_cons {ta : TE} {tr : TA} {Q : List V → Hp → Prop} (h : ta σ H fun x H1 => tr σ H1 fun xs H2 => Q (x :: xs) H2) : tCons ta tr σ H Q := h
theorem i_call {sp : Sp} {E : XK} {t : TA} (h : t σ H fun vs H1 => sp (vs ++ []) H1 Q E) : tCall sp [] E t σ H Q := h
theorem i_cb {r : List V → Hp → VK → Prop} {t : TA} (h : t σ H fun vs H1 => r vs H1 Q) : tCB r t σ H Q := h
theorem i_tup {t : TA} (h : t σ H fun xs H1 => xs.length ≤ sizeLine ∧ ∀ p, H1 p = none → Q (.ref p) (upd H1 p (.tup xs))) : tTup t σ H Q := h
theorem i_lst {t : TA} (h : t σ H fun xs H1 => xs.length ≤ sizeLine ∧ ∀ p, H1 p = none → Q (.ref p) (upd H1 p (.lst xs))) : tLst t σ H Q := h
theorem i_new {n : Nat} {R : Addr → Prop} (h : n ≤ sizeLine) (q : ∀ p, H p = none → R p) : n ≤ sizeLine ∧ ∀ p, H p = none → R p := ⟨h, q⟩
theorem i_if {c : TT} {ta tb : TE} (h : c σ H fun b H1 => if b = true then ta σ H1 Q else tb σ H1 Q) : tIf c ta tb σ H Q := h
theorem i_andV {ta tb : TE} (h : ta σ H fun x H1 => ∃ c, x = .bl c ∧ if c = true then tb σ H1 Q else Q (.bl false) H1) : tAndV ta tb σ H Q := h
theorem i_orV {ta tb : TE} (h : ta σ H fun x H1 => ∃ c, x = .bl c ∧ if c = true then Q (.bl true) H1 else tb σ H1 Q) : tOrV ta tb σ H Q := h
theorem i_notV {ta : TE} (h : ta σ H fun x H1 => ∃ c, x = .bl c ∧ Q (.bl (!c)) H1) : tNotV ta σ H Q := h
/-! tests -/
theorem i_test {t : TE} {Q : Bool → Hp → Prop} (h : t σ H fun x H1 => ∃ k, x = .bl k ∧ Q k H1) : tTest t σ H Q := h
theorem i_B {t : TE} {Q : Bool → Hp → Prop} (h : t σ H fun x H1 => ∃ k, x = .bl k ∧ Q k H1) : tB t σ H Q := h
theorem i_isb {k : Bool} {Q : Bool → Prop} (q : Q k) : ∃ k', V.bl k = .bl k' ∧ Q k' := ⟨k, rfl, q⟩
theorem i_and {t u : TT} {Q : Bool → Hp → Prop} (h : t σ H fun c H1 => if c = true then u σ H1 Q else Q false H1) : tAnd t u σ H Q := h
theorem i_or {t u : TT} {Q : Bool → Hp → Prop} (h : t σ H fun c H1 => if c = true then Q true H1 else u σ H1 Q) : tOr t u σ H Q := h
theorem i_not {t : TT} {Q : Bool → Hp → Prop} (h : t σ H fun c H1 => Q (!c) H1) : tNot t σ H Q := h
/-! statements -/
section
variable {nx : L2.St → Hp → Prop} {rt : VK} {bk ct : L2.St → Hp → Prop}
theorem i_seq {t u : TS} (h : t ⟨u ⟨nx, rt, bk, ct⟩, rt, bk, ct⟩ σ H) : tSeq t u ⟨nx, rt, bk, ct⟩ σ H := h
theorem i_next (h : nx σ H) : tNext ⟨nx, rt, bk, ct⟩ σ H := h
theorem i_asg {te : TE} {g : TG} (h : te σ H fun x H1 => g x σ H1 nx) : tAsg te g ⟨nx, rt, bk, ct⟩ σ H := h
theorem i_drop {te : TE} (h : te σ H fun _ H1 => nx σ H1) : tDrop te ⟨nx, rt, bk, ct⟩ σ H := h
theorem i_ret {te : TE} (h : te σ H rt) : tRet te ⟨nx, rt, bk, ct⟩ σ H := h
theorem i_retN (h : rt .non H) : tRetN ⟨nx, rt, bk, ct⟩ σ H := h
theorem i_ifS {c : TT} {t u : TS} (h : c σ H fun b H1 => if b = true then t ⟨nx, rt, bk, ct⟩ σ H1 else u ⟨nx, rt, bk, ct⟩ σ H1) : tIfS c t u ⟨nx, rt, bk, ct⟩ σ H := h
theorem i_ifC {c : TT} {t u : TS} (J : L2.St → Hp → Prop) (h1 : ∀ σ' H', J σ' H' → nx σ' H') (h2 : ∀ N : L2.St → Hp → Prop, (∀ σ' H', J σ' H' → N σ' H') → tIfS c t u ⟨N, rt, bk, ct⟩ σ H) : tIfS c t u ⟨nx, rt, bk, ct⟩ σ H := h2 _ h1
theorem i_break (h : bk σ H) : tBreak ⟨nx, rt, bk, ct⟩ σ H := h
theorem i_cont (h : ct σ H) : tCont ⟨nx, rt, bk, ct⟩ σ H := h
theorem i_augE {i : Nat} {te : TE} {ti : TIp} {x : V} (e : σ[i]? = some (some x)) (h : te σ H fun y H1 => ti x y H1 fun z H2 => gName i z σ H2 nx) : tAug i te ti ⟨nx, rt, bk, ct⟩ σ H := ⟨x, e, h⟩
theorem i_augS {to ti te : TE} {tget : V → V → Hp → VK → Prop} {tip : TIp} {tset : TSet} (h : to σ H fun o H1 => ti σ H1 fun i H2 => tget o i H2 fun x H3 => te σ H3 fun y H4 => tip x y H4 fun z H5 => tset o i z H5 fun H6 => nx σ H6) : tAugS to ti te tget tip tset ⟨nx, rt, bk, ct⟩ σ H := h
theorem i_ipI {f : Int → Int → Int} {i j : Int} (q : Q (.int (f i j)) H) : ipI f (.int i) (.int j) H Q := ⟨i, j, rfl, rfl, q⟩
theorem i_for {wi : TI} {g : TG} {tb : TS} (h : wi σ H fun J H1 => ∃ W : Nat → Nat → L2.St → Hp → Prop, (∃ m, W 0 m σ H1) ∧ ∀ i m σ H, W i m σ H →
  (J.stop i H ∧ nx σ H) ∨ (J.go i H ∧ ∃ N : L2.St → Hp → Prop, (∀ σ' H', N σ' H' → ∃ m', m' < m ∧ W (i + 1) m' σ' H') ∧ ∀ x H', J.yld i H x H' → g x σ H' fun σ2 H2 => tb ⟨N, rt, nx, N⟩ σ2 H2)) : tFor wi g tb ⟨nx, rt, bk, ct⟩ σ H := h
theorem i_iList {tl : TE} {R : It → Hp → Prop} (h : tl σ H fun x H1 => ∃ a, x = .ref a ∧ (∃ xs, SqL K H1 a xs) ∧ R (Itl K a) H1) : iList K tl σ H R := h
theorem i_iTup {tl : TE} {R : It → Hp → Prop} (h : tl σ H fun x H1 => ∃ a, x = .ref a ∧ (∃ xs, SqT K H1 a xs) ∧ R (Itt K a) H1) : iTup K tl σ H R := h
theorem i_isL {a : Addr} {xs : List V} {R : Addr → Prop} (s : SqL K H a xs) (h : R a) : ∃ a', V.ref a = .ref a' ∧ (∃ xs, SqL K H a' xs) ∧ R a' := ⟨a, rfl, ⟨xs, s⟩, h⟩
theorem i_isT {a : Addr} {xs : List V} {R : Addr → Prop} (s : SqT K H a xs) (h : R a) : ∃ a', V.ref a = .ref a' ∧ (∃ xs, SqT K H a' xs) ∧ R a' := ⟨a, rfl, ⟨xs, s⟩, h⟩
theorem i_rng1 {ta : TA} {R : It → Hp → Prop} (h : ta σ H fun vs H1 => ∃ j : Int, vs = [.int j] ∧ -(2 ^ 62) ≤ j ∧ j < 2 ^ 62 ∧ R (Itr 0 j.toNat) H1) : iRng1 ta σ H R := h
theorem i_rng2 {ta : TA} {R : It → Hp → Prop} (h : ta σ H fun vs H1 => ∃ i j : Int, vs = [.int i, .int j] ∧ (-(2 ^ 62) ≤ i ∧ i < 2 ^ 62 ∧ -(2 ^ 62) ≤ j ∧ j < 2 ^ 62) ∧ R (Itr i (j - i).toNat) H1) : iRng2 ta σ H R := h
theorem i_isR1 {j : Int} {R : Int → Prop} (h1 : -(2 ^ 62) ≤ j) (h2 : j < 2 ^ 62) (h : R j) : ∃ j' : Int, [V.int j] = [.int j'] ∧ -(2 ^ 62) ≤ j' ∧ j' < 2 ^ 62 ∧ R j' := ⟨j, rfl, h1, h2, h⟩
theorem i_isR2 {i j : Int} {R : Int → Int → Prop} (h1 : -(2 ^ 62) ≤ i) (h2 : i < 2 ^ 62) (h3 : -(2 ^ 62) ≤ j) (h4 : j < 2 ^ 62) (h : R i j) : ∃ i' j' : Int, [V.int i, V.int j] = [.int i', .int j'] ∧ (-(2 ^ 62) ≤ i' ∧ i' < 2 ^ 62 ∧ -(2 ^ 62) ≤ j' ∧ j' < 2 ^ 62) ∧ R i' j' := ⟨i, j, rfl, ⟨h1, h2, h3, h4⟩, h⟩
end
/-! comprehensions -/
theorem i_lc {wi : TI} {g : TG} {tt : TT} {te : TE} {ws : List Nat} {σ' : L2.St} (e : wipe σ ws = σ') (h : wi σ H fun J H1 => ∀ D, H1 D = none → ∃ W : Nat → Nat → Hp → Prop, (∃ m, W 0 m (upd H1 D (.lst []))) ∧ ∀ i m H, W i m H →
  (J.stop i H ∧ Q (.ref D) H) ∨ (J.go i H ∧ ∃ Nx : Hp → Prop, (∀ H', Nx H' → ∃ m', m' < m ∧ W (i + 1) m' H') ∧ ∀ x H', J.yld i H x H' → g x σ' H' fun σ2 H2 => wipe σ2 ws = σ' ∧ tt σ2 H2 fun b H3 =>
    if b = true then te σ2 H3 fun y H4 => ∃ acc, H4 D = some (.lst acc) ∧ acc.length < sizeLine ∧ Nx (upd H4 D (.lst (acc ++ [y]))) else Nx H3)) : tLc wi g tt te ws σ H Q := by subst e; exact h
/-! targets -/
theorem i_gNameE {i : Nat} {v : V} {σ' : L2.St} {Q : L2.St → Hp → Prop} (e : σ.set i (some v) = σ') (q : Q σ' H) : gName i v σ H Q := by subst e; exact q
theorem st_of {t : TS} {D : Ends} {σ σ' : L2.St} {H : Hp} (e : σ = σ') (h : t D σ' H) : t D σ H := by subst e; exact h
theorem i_gName {i : Nat} {v : V} {Q : L2.St → Hp → Prop} (q : Q (σ.set i (some v)) H) : gName i v σ H Q := q
theorem i_gSub {to ti : TE} {t : TSet} {v : V} {Q : L2.St → Hp → Prop} (h : to σ H fun o H1 => ti σ H1 fun i H2 => t o i v H2 fun H3 => Q σ H3) : gSub to ti t v σ H Q := h
theorem i_setL {p : Addr} {xs : List V} {k : Int} {j : Nat} {v : V} {Q : Hp → Prop} (h : H p = some (.lst xs)) (e : ixN xs.length k = some j) (q : Q (upd H p (.lst (xs.set j v)))) : rSetL (.ref p) (.int k) v H Q := ⟨p, xs, k, j, rfl, rfl, h, e, q⟩
theorem i_gTup {n : Nat} {t : TGs} {a : Addr} {xs : List V} {Q : L2.St → Hp → Prop} (h : SqT K H a xs) (e : xs.length = n) (q : t xs σ H Q) : gTup K n t (.ref a) σ H Q := ⟨a, xs, rfl, h, e, q⟩
theorem i_gNil {Q : L2.St → Hp → Prop} (q : Q σ H) : gNil [] σ H Q := ⟨rfl, q⟩
theorem i_gCons {t : TG} {u : TGs} {v : V} {r : List V} {Q : L2.St → Hp → Prop} (q : t v σ H fun σ' H' => u r σ' H' Q) : gCons t u (v :: r) σ H Q := ⟨v, r, rfl, q⟩
/-! builtins' calls -/
end
/-! ### heaps -/
/-- all but p is as it was -/
def Kp (p : Addr) (H H' : Hp) : Prop := ∀ b o, H b = some o → b ≠ p → H' b = some o
theorem Kp.refl {p : Addr} {H : Hp} : Kp p H H := fun _ _ e _ => e
theorem Kp.of {p : Addr} {H H' : Hp} (s : Same H H') : Kp p H H' := fun b o e _ => s b o e
theorem Kp.trans {p : Addr} {H H1 H2 : Hp} (a : Kp p H H1) (b : Kp p H1 H2) : Kp p H H2 := fun c o e n => b c o (a c o e n) n
theorem Kp.upd {p : Addr} {H : Hp} {o : HO} : Kp p H (upd H p o) := fun b u e n => by rw [upd_ne n]; exact e
theorem same_new {H : Hp} {p : Addr} {o : HO} (h : H p = none) : Same H (upd H p o) := fun b x e => by
  rw [upd_ne (ne_of_none e h)]
  exact e
theorem Same.tup {K : PySem.W.Frag} {H H' : Hp} {a : Addr} {xs : List V} (e : Same H H') (h : SqT K H a xs) : SqT K H' a xs := by
  rcases h with (h | ⟨o, h⟩) | h
  · exact .inl (.inl (e _ _ h))
  · exact .inl (.inr ⟨o, e _ _ h⟩)
  · exact .inr h
/-- all tuples are as they were -/
def Tps (H H' : Hp) : Prop := ∀ a, (∀ xs, H a = some (.tup xs) → H' a = some (.tup xs)) ∧ ∀ o xs, H a = some (.frz o (.tup xs)) → H' a = some (.frz o (.tup xs))
theorem Tps.sq {K : PySem.W.Frag} {H H' : Hp} {a : Addr} {xs : List V} (e : Tps H H') (h : SqT K H a xs) : SqT K H' a xs := by
  rcases h with (h | ⟨o, h⟩) | h
  · exact .inl (.inl ((e a).1 _ h))
  · exact .inl (.inr ⟨o, (e a).2 _ _ h⟩)
  · exact .inr h
theorem Tps.refl {H : Hp} : Tps H H := fun _ => ⟨fun _ h => h, fun _ _ h => h⟩
theorem Tps.trans {H H1 H2 : Hp} (a : Tps H H1) (b : Tps H1 H2) : Tps H H2 := fun c => ⟨fun xs h => (b c).1 xs ((a c).1 xs h), fun o xs h => (b c).2 o xs ((a c).2 o xs h)⟩
theorem Tps.of {H H' : Hp} (s : Same H H') : Tps H H' := fun a => ⟨fun xs h => s _ _ h, fun o xs h => s _ _ h⟩
theorem Kp.tps {p : Addr} {H H' : Hp} (k : Kp p H H') {xs : List V} (h : H p = some (.lst xs)) : Tps H H' := fun a => ⟨fun ys e => k _ _ e (ne_of e h (by intro z; cases z)), fun o ys e => k _ _ e (ne_of e h (by intro z; cases z))⟩
theorem Kp.seq {K : PySem.W.Frag} {p b : Addr} {H H' : Hp} {xs : List V} (k : Kp p H H') (h : SqL K H b xs) (n : b ≠ p) : SqL K H' b xs := by
  rcases h with (h | ⟨o, h⟩) | h
  · exact .inl (.inl (k _ _ h n))
  · exact .inl (.inr ⟨o, k _ _ h n⟩)
  · exact .inr h
/-! ### data -/
def Shp (n : Nat) (d : PyData) : Prop := d.canLay0 = true ∧ d.depth ≤ n
theorem Shp.shaped {n : Nat} {d : PyData} (h : Shp n d) (hn : n ≤ 64) : SeqAt.shaped d = true := by
  unfold SeqAt.shaped
  rw [h.1, decide_eq_true (Nat.le_trans h.2 hn)]
  rfl
theorem Shp.eqv {n : Nat} {d : PyData} (h : Shp n d) : PyData.eqv d d = true := SeqAt.eqv_refl d h.1
theorem Shp.int (i : Int) : Shp 0 (.int i) := ⟨by simp [PyData.canLay0], by simp [PyData.depth]⟩
theorem Shp.non : Shp 0 .none := ⟨by simp [PyData.canLay0], by simp [PyData.depth]⟩
theorem Shp.bool (b : Bool) : Shp 0 (.bool b) := ⟨by simp [PyData.canLay0], by simp [PyData.depth]⟩
theorem Shp.mono {n m : Nat} {d : PyData} (h : Shp n d) (hm : n ≤ m) : Shp m d := ⟨h.1, Nat.le_trans h.2 hm⟩
theorem shpAll {n : Nat} : ∀ {ds : List PyData}, (∀ d ∈ ds, Shp n d) → PyData.canLayAll0 ds = true ∧ PyData.depthAll ds ≤ n
  | [], _ => ⟨by simp [PyData.canLayAll0], by simp [PyData.depthAll]⟩
  | d :: ds, h => by
    have h1 := h d List.mem_cons_self
    have h2 := shpAll (ds := ds) fun x hx => h x (List.mem_cons_of_mem _ hx)
    refine ⟨by rw [PyData.canLayAll0, h1.1, h2.1]; rfl, ?_⟩
    rw [PyData.depthAll]
    exact Nat.max_le.mpr ⟨h1.2, h2.2⟩
theorem Shp.tup {n : Nat} {ds : List PyData} (h : ∀ d ∈ ds, Shp n d) : Shp (n + 1) (.tuple ds) := by
  have := shpAll h
  exact ⟨by rw [PyData.canLay0]; exact this.1, by rw [PyData.depth]; omega⟩
theorem Shp.lst {n : Nat} {ds : List PyData} (h : ∀ d ∈ ds, Shp n d) : Shp (n + 1) (.list ds) := by
  have := shpAll h
  exact ⟨by rw [PyData.canLay0]; exact this.1, by rw [PyData.depth]; omega⟩
theorem dpAll_of {K : PySem.W.Frag} {H : Hp} : ∀ {xs : List V} {ds : List PyData}, xs.length = ds.length → (∀ (i : Nat) x d, xs[i]? = some x → ds[i]? = some d → Dp K H x d) → DpAll K H xs ds
  | [], [], _, _ => .nil
  | x :: xs, d :: ds, hl, h => .cons (h 0 x d rfl rfl) (dpAll_of (by simpa using hl) fun i y e h1 h2 => h (i + 1) y e (by simpa using h1) (by simpa using h2))
theorem dp_ints {K : PySem.W.Frag} {H : Hp} {a : Addr} {ns : List Int} (h : SqT K H a (ns.map V.int)) : Dp K H (.ref a) (.tuple (ns.map PyData.int)) := by
  refine .tup h (dpAll_of (by simp) fun i x d h1 h2 => ?_)
  rw [List.getElem?_map] at h1 h2
  cases e : ns[i]? with
  | none => rw [e] at h1; cases h1
  | some z =>
    rw [e] at h1 h2
    cases h1
    cases h2
    exact .int z
/-! ### slices of tuples -/
section
variable {prog : Program} {w : World} {A : Around} {E : Value → Shared → Prop} {s : Shared}
theorem tup_whole {t sl : Addr} {items : Array Value} {vl vu : Value} {lo hi : Option Int} {Q : Value → Shared → Prop} (ht : IsTup s.heap t items) (hs : s.heap.IsSliceOf sl vl vu .none) (pl : IsPart vl lo) (pu : IsPart vu hi)
    (h0 : HT.sIx items.size 0 lo = 0) (h1 : HT.sIx items.size items.size hi = items.size) (h : Q (.ref t) s) : wpAny (model prog w) A (getItem (.ref t) (.ref sl)) Q E s := by
  have hTs : s.TypeIs (.ref sl) "slice" := by
    obtain ⟨os, hos, hcs, _⟩ := id hs
    exact ⟨os, hos, hcs⟩
  unfold getItem
  try with_reducible refine wpAny_holding ?_
  first | refine wpAny_bind (wpAny_pure ?_) | skip
  refine wpAny_bind (wpAny_sequenceKey ht.typeIs (by decide) (wpAny_bind (wpAny_callSpecial?_slot (name := Str.ofString "__getitem__") ht.typeIs PyProof.Rows.slot_tuple_getitem (wpAny_call_entry PyProof.Rows.slot_tuple_getitem ht.typeIs entry_tuple_getitem ?_ (args_tuple_getitem _ _)))))
  show wpAny _ _ (Builtin.Tuple.tupleItemsOf (.ref t) >>= _) _ _ s
  refine wpAny_bind (tupleItemsOf_ ht (wpAny_bind (wpAny_typeOf hTs ?_)))
  rw [if_pos (by decide)]
  refine wpAny_bind (HT.sliceApplied_gen hs pl pu ?_)
  show wpAny _ _ (if (((HT.sIx items.size 0 lo : Nat) : Int) == 0 && (1 : Int) == 1 && (HT.sIx items.size items.size hi - HT.sIx items.size 0 lo) == items.size) = true then _ else _) _ _ s
  rw [h0, h1, if_pos (by simp)]
  unfold Builtin.Tuple.tupleIsExact
  refine wpAny_bind (wpAny_bind (wpAny_typeOf ht.typeIs (wpAny_pure ?_)))
  rw [if_pos (by decide)]
  first
    | exact wpAny_bind (wpAny_rule (wpAny_pure ⟨_, rfl, wpAny_pure h⟩))
    | exact wpAny_bind (wpAny_rule (wpAny_bind (wpAny_pure (wpAny_pure ⟨_, rfl, wpAny_pure h⟩))))
end
section
variable {X : Cx}
/-- t[lo:hi], the whole of it too (that is t itself) -/
def rSlQ (K : PySem.W.Frag) : V → Option Int → Option Int → Hp → VK → Prop := fun x lo hi H Q => ∃ a xs, x = .ref a ∧ SqT K H a xs ∧
  (cutV xs lo hi = xs → Q (.ref a) H) ∧ ∀ p, H p = none → Q (.ref p) (upd H p (.tup (cutV xs lo hi)))
theorem sl_tupQ : SlR X (rSlQ X.K) := by
  intro pins s σ H x v vl vu lo hi sl Q I rx hs pl pu h
  obtain ⟨a, xs, e, hx, q0, q1⟩ := h
  by_cases hw : HT.sIx xs.length 0 lo = 0 ∧ HT.sIx xs.length xs.length hi = xs.length
  · subst e
    cases rx
    obtain ⟨its, r, ht, hz⟩ := I.tuple hx
    have hlen : its.toArray.size = xs.length := by rw [List.size_toArray]; exact r.length.symm
    refine ⟨"tuple", _, PyProof.Rows.slot_tuple_getitem.lookup, ht.typeIs, ?_⟩
    refine tup_whole ht hs pl pu (by rw [hlen]; exact hw.1) (by rw [hlen]; exact hw.2) ⟨.ref a, H, I, rfl, q0 ?_⟩
    unfold cutV
    rw [hw.1, hw.2]
    simp
  · exact sl_tup pins s σ H x v vl vu lo hi sl Q I rx hs pl pu ⟨a, xs, e, hx, hw, q1⟩
end
/-! ### loops -/
section
variable {K : PySem.W.Frag} {a : Addr} {xs : List V} {g : TG} {tb : TS} {σ : L2.St} {H : Hp} {nx : L2.St → Hp → Prop} {rt : VK}
theorem f_list (Pv : Nat → L2.St → Hp → Prop) (h0 : Pv 0 σ H) (hl : ∀ i σ H, i ≤ xs.length → Pv i σ H → SqL K H a xs)
    (hs : ∀ i x σ H, xs[i]? = some x → Pv i σ H → g x σ H fun σ2 H2 => tb ⟨Pv (i + 1), rt, nx, Pv (i + 1)⟩ σ2 H2) (hd : ∀ σ H, Pv xs.length σ H → nx σ H) :
    ∃ W : Nat → Nat → L2.St → Hp → Prop, (∃ m, W 0 m σ H) ∧ ∀ i m σ H, W i m σ H →
      ((Itl K a).stop i H ∧ nx σ H) ∨ ((Itl K a).go i H ∧ ∃ N : L2.St → Hp → Prop, (∀ σ' H', N σ' H' → ∃ m', m' < m ∧ W (i + 1) m' σ' H') ∧ ∀ x H', (Itl K a).yld i H x H' → g x σ H' fun σ2 H2 => tb ⟨N, rt, nx, N⟩ σ2 H2) :=
  for_list (D := ⟨nx, rt, fun _ _ => False, fun _ _ => False⟩) Pv h0 hl hs hd
theorem f_tup (Pv : Nat → L2.St → Hp → Prop) (h0 : Pv 0 σ H) (hl : ∀ i σ H, i ≤ xs.length → Pv i σ H → SqT K H a xs)
    (hs : ∀ i x σ H, xs[i]? = some x → Pv i σ H → g x σ H fun σ2 H2 => tb ⟨Pv (i + 1), rt, nx, Pv (i + 1)⟩ σ2 H2) (hd : ∀ σ H, Pv xs.length σ H → nx σ H) :
    ∃ W : Nat → Nat → L2.St → Hp → Prop, (∃ m, W 0 m σ H) ∧ ∀ i m σ H, W i m σ H →
      ((Itt K a).stop i H ∧ nx σ H) ∨ ((Itt K a).go i H ∧ ∃ N : L2.St → Hp → Prop, (∀ σ' H', N σ' H' → ∃ m', m' < m ∧ W (i + 1) m' σ' H') ∧ ∀ x H', (Itt K a).yld i H x H' → g x σ H' fun σ2 H2 => tb ⟨N, rt, nx, N⟩ σ2 H2) :=
  for_tup (D := ⟨nx, rt, fun _ _ => False, fun _ _ => False⟩) Pv h0 hl hs hd
theorem f_range {lo : Int} {n : Nat} (Pv : Nat → L2.St → Hp → Prop) (h0 : Pv 0 σ H)
    (hs : ∀ i σ H, i < n → Pv i σ H → g (.int (lo + i)) σ H fun σ2 H2 => tb ⟨Pv (i + 1), rt, nx, Pv (i + 1)⟩ σ2 H2) (hd : ∀ σ H, Pv n σ H → nx σ H) :
    ∃ W : Nat → Nat → L2.St → Hp → Prop, (∃ m, W 0 m σ H) ∧ ∀ i m σ H, W i m σ H →
      ((Itr lo n).stop i H ∧ nx σ H) ∨ ((Itr lo n).go i H ∧ ∃ N : L2.St → Hp → Prop, (∀ σ' H', N σ' H' → ∃ m', m' < m ∧ W (i + 1) m' σ' H') ∧ ∀ x H', (Itr lo n).yld i H x H' → g x σ H' fun σ2 H2 => tb ⟨N, rt, nx, N⟩ σ2 H2) :=
  for_range (D := ⟨nx, rt, fun _ _ => False, fun _ _ => False⟩) Pv h0 hs hd
theorem f_rangeC {lo c : Int} {n : Nat} (Pv : Nat → L2.St → Hp → Prop) (h0 : Pv 0 σ H)
    (hs : ∀ i σ H, i < n → Pv i σ H → g (.int (lo + (i : Nat) * c)) σ H fun σ2 H2 => tb ⟨Pv (i + 1), rt, nx, Pv (i + 1)⟩ σ2 H2) (hd : ∀ σ H, Pv n σ H → nx σ H) :
    ∃ W : Nat → Nat → L2.St → Hp → Prop, (∃ m, W 0 m σ H) ∧ ∀ i m σ H, W i m σ H →
      ((Itc lo c n).stop i H ∧ nx σ H) ∨ ((Itc lo c n).go i H ∧ ∃ N : L2.St → Hp → Prop, (∀ σ' H', N σ' H' → ∃ m', m' < m ∧ W (i + 1) m' σ' H') ∧ ∀ x H', (Itc lo c n).yld i H x H' → g x σ H' fun σ2 H2 => tb ⟨N, rt, nx, N⟩ σ2 H2) :=
  for_rangeC (D := ⟨nx, rt, fun _ _ => False, fun _ _ => False⟩) Pv h0 hs hd
theorem i_rng3 {ta : TA} {R : It → Hp → Prop} (h : ta σ H fun vs H1 => ∃ (i j c : Int) (n : Nat), vs = [.int i, .int j, .int c] ∧ RgC i j c n ∧ R (Itc i c n) H1) : iRng3 ta σ H R := h
variable {tt : TT} {te : TE} {ws : List Nat} {D : Addr} {Qd : Hp → Prop} {σ' : L2.St}
theorem l_list (Pv : Nat → Hp → Prop) (h0 : Pv 0 (upd H D (.lst []))) (hl : ∀ i H, i ≤ xs.length → Pv i H → SqL K H a xs)
    (hs : ∀ i x H, xs[i]? = some x → Pv i H → g x σ' H fun σ2 H2 => wipe σ2 ws = σ' ∧ tt σ2 H2 fun b H3 =>
      if b = true then te σ2 H3 fun y H4 => ∃ acc, H4 D = some (.lst acc) ∧ acc.length < sizeLine ∧ Pv (i + 1) (upd H4 D (.lst (acc ++ [y]))) else Pv (i + 1) H3) (hd : ∀ H, Pv xs.length H → Qd H) (e : wipe σ' ws = σ' := by rfl) :
    ∃ W : Nat → Nat → Hp → Prop, (∃ m, W 0 m (upd H D (.lst []))) ∧ ∀ i m H, W i m H →
      ((Itl K a).stop i H ∧ Qd H) ∨ ((Itl K a).go i H ∧ ∃ Nx : Hp → Prop, (∀ H', Nx H' → ∃ m', m' < m ∧ W (i + 1) m' H') ∧ ∀ x H', (Itl K a).yld i H x H' → g x σ' H' fun σ2 H2 => wipe σ2 ws = σ' ∧ tt σ2 H2 fun b H3 =>
        if b = true then te σ2 H3 fun y H4 => ∃ acc, H4 D = some (.lst acc) ∧ acc.length < sizeLine ∧ Nx (upd H4 D (.lst (acc ++ [y]))) else Nx H3) := by
  have h := lc_list (K := K) (a := a) (xs := xs) (g := g) (tt := tt) (te := te) (vs := ws) (σ := σ') (H1 := H) (D := D) (Qd := Qd) Pv h0 hl (by rw [e]; exact hs) hd
  rw [e] at h
  exact h
theorem l_tup (Pv : Nat → Hp → Prop) (h0 : Pv 0 (upd H D (.lst []))) (hl : ∀ i H, i ≤ xs.length → Pv i H → SqT K H a xs)
    (hs : ∀ i x H, xs[i]? = some x → Pv i H → g x σ' H fun σ2 H2 => wipe σ2 ws = σ' ∧ tt σ2 H2 fun b H3 =>
      if b = true then te σ2 H3 fun y H4 => ∃ acc, H4 D = some (.lst acc) ∧ acc.length < sizeLine ∧ Pv (i + 1) (upd H4 D (.lst (acc ++ [y]))) else Pv (i + 1) H3) (hd : ∀ H, Pv xs.length H → Qd H) (e : wipe σ' ws = σ' := by rfl) :
    ∃ W : Nat → Nat → Hp → Prop, (∃ m, W 0 m (upd H D (.lst []))) ∧ ∀ i m H, W i m H →
      ((Itt K a).stop i H ∧ Qd H) ∨ ((Itt K a).go i H ∧ ∃ Nx : Hp → Prop, (∀ H', Nx H' → ∃ m', m' < m ∧ W (i + 1) m' H') ∧ ∀ x H', (Itt K a).yld i H x H' → g x σ' H' fun σ2 H2 => wipe σ2 ws = σ' ∧ tt σ2 H2 fun b H3 =>
        if b = true then te σ2 H3 fun y H4 => ∃ acc, H4 D = some (.lst acc) ∧ acc.length < sizeLine ∧ Nx (upd H4 D (.lst (acc ++ [y]))) else Nx H3) := by
  have h := lc_tup (K := K) (a := a) (xs := xs) (g := g) (tt := tt) (te := te) (vs := ws) (σ := σ') (H1 := H) (D := D) (Qd := Qd) Pv h0 hl (by rw [e]; exact hs) hd
  rw [e] at h
  exact h
theorem l_range {lo : Int} {n : Nat} (Pv : Nat → Hp → Prop) (h0 : Pv 0 (upd H D (.lst [])))
    (hs : ∀ i H, i < n → Pv i H → g (.int (lo + i)) σ' H fun σ2 H2 => wipe σ2 ws = σ' ∧ tt σ2 H2 fun b H3 =>
      if b = true then te σ2 H3 fun y H4 => ∃ acc, H4 D = some (.lst acc) ∧ acc.length < sizeLine ∧ Pv (i + 1) (upd H4 D (.lst (acc ++ [y]))) else Pv (i + 1) H3) (hd : ∀ H, Pv n H → Qd H) (e : wipe σ' ws = σ' := by rfl) :
    ∃ W : Nat → Nat → Hp → Prop, (∃ m, W 0 m (upd H D (.lst []))) ∧ ∀ i m H, W i m H →
      ((Itr lo n).stop i H ∧ Qd H) ∨ ((Itr lo n).go i H ∧ ∃ Nx : Hp → Prop, (∀ H', Nx H' → ∃ m', m' < m ∧ W (i + 1) m' H') ∧ ∀ x H', (Itr lo n).yld i H x H' → g x σ' H' fun σ2 H2 => wipe σ2 ws = σ' ∧ tt σ2 H2 fun b H3 =>
        if b = true then te σ2 H3 fun y H4 => ∃ acc, H4 D = some (.lst acc) ∧ acc.length < sizeLine ∧ Nx (upd H4 D (.lst (acc ++ [y]))) else Nx H3) := by
  have h := lc_range (lo := lo) (n := n) (g := g) (tt := tt) (te := te) (vs := ws) (σ := σ') (H1 := H) (D := D) (Qd := Qd) Pv h0 (by rw [e]; exact hs) hd
  rw [e] at h
  exact h
/-! a comprehension whose elements lay nothing -/
theorem l_rangeP {lo : Int} {n : Nat} (f : Nat → V) (hD : H D = none) (hn : n ≤ 1000000)
    (hs : ∀ i H' (R : VK), i < n → Same H H' → R (f i) H' → g (.int (lo + i)) σ' H' fun σ2 H2 => wipe σ2 ws = σ' ∧ tt σ2 H2 fun b H3 => if b = true then te σ2 H3 R else False)
    (hd : ∀ H', Same H H' → H' D = some (.lst ((List.range n).map f)) → Qd H') (e : wipe σ' ws = σ' := by rfl)
    (htt : ∀ (σ2 : L2.St) (H2 : Hp) (A : Hp → Prop) (B : Hp → Prop), (tt σ2 H2 fun b H3 => if b = true then A H3 else False) → tt σ2 H2 fun b H3 => if b = true then A H3 else B H3 := by intro _ _ _ _ h; exact h) (hg : ∀ x (σ2 : L2.St) (H2 : Hp) (A B : L2.St → Hp → Prop), (∀ s h, A s h → B s h) → g x σ2 H2 A → g x σ2 H2 B := by intro _ _ _ _ _ h q; exact h _ _ q) :
    ∃ W : Nat → Nat → Hp → Prop, (∃ m, W 0 m (upd H D (.lst []))) ∧ ∀ i m H, W i m H →
      ((Itr lo n).stop i H ∧ Qd H) ∨ ((Itr lo n).go i H ∧ ∃ Nx : Hp → Prop, (∀ H', Nx H' → ∃ m', m' < m ∧ W (i + 1) m' H') ∧ ∀ x H', (Itr lo n).yld i H x H' → g x σ' H' fun σ2 H2 => wipe σ2 ws = σ' ∧ tt σ2 H2 fun b H3 =>
        if b = true then te σ2 H3 fun y H4 => ∃ acc, H4 D = some (.lst acc) ∧ acc.length < sizeLine ∧ Nx (upd H4 D (.lst (acc ++ [y]))) else Nx H3) := by
  refine l_range (fun i H' => Same H H' ∧ H' D = some (.lst ((List.range i).map f))) ⟨same_new hD, upd_same⟩ (fun i H' hi h => ?_) (fun H' h => hd H' h.1 h.2) e
  obtain ⟨s, hD'⟩ := h
  refine hg _ _ _ _ _ (fun σ2 H2 q => ⟨q.1, htt _ _ _ _ q.2⟩) (hs i H' _ hi s ⟨_, hD', ?_, fun b o hb => ?_, ?_⟩)
  · rw [List.length_map, List.length_range, sizeLine_eq]; omega
  · rw [upd_ne (ne_of_none hb hD)]; exact s _ _ hb
  · rw [upd_same, List.range_succ, List.map_append] <;> rfl
theorem l_listP (f : Nat → V) (hD : H D = none) (hn : xs.length ≤ 1000000) (hx : SqL K H a xs)
    (hs : ∀ i x H' (R : VK), xs[i]? = some x → Same H H' → R (f i) H' → g x σ' H' fun σ2 H2 => wipe σ2 ws = σ' ∧ tt σ2 H2 fun b H3 => if b = true then te σ2 H3 R else False)
    (hd : ∀ H', Same H H' → H' D = some (.lst ((List.range xs.length).map f)) → Qd H') (e : wipe σ' ws = σ' := by rfl)
    (htt : ∀ (σ2 : L2.St) (H2 : Hp) (A : Hp → Prop) (B : Hp → Prop), (tt σ2 H2 fun b H3 => if b = true then A H3 else False) → tt σ2 H2 fun b H3 => if b = true then A H3 else B H3 := by intro _ _ _ _ h; exact h) (hg : ∀ x (σ2 : L2.St) (H2 : Hp) (A B : L2.St → Hp → Prop), (∀ s h, A s h → B s h) → g x σ2 H2 A → g x σ2 H2 B := by intro _ _ _ _ _ h q; exact h _ _ q) :
    ∃ W : Nat → Nat → Hp → Prop, (∃ m, W 0 m (upd H D (.lst []))) ∧ ∀ i m H, W i m H →
      ((Itl K a).stop i H ∧ Qd H) ∨ ((Itl K a).go i H ∧ ∃ Nx : Hp → Prop, (∀ H', Nx H' → ∃ m', m' < m ∧ W (i + 1) m' H') ∧ ∀ x H', (Itl K a).yld i H x H' → g x σ' H' fun σ2 H2 => wipe σ2 ws = σ' ∧ tt σ2 H2 fun b H3 =>
        if b = true then te σ2 H3 fun y H4 => ∃ acc, H4 D = some (.lst acc) ∧ acc.length < sizeLine ∧ Nx (upd H4 D (.lst (acc ++ [y]))) else Nx H3) := by
  refine l_list (xs := xs) (fun i H' => Same H H' ∧ H' D = some (.lst ((List.range i).map f))) ⟨same_new hD, upd_same⟩ (fun i H' _ h => Same.seq h.1 hx) (fun i x H' hi h => ?_) (fun H' h => hd H' h.1 h.2) e
  obtain ⟨s, hD'⟩ := h
  have hlt := (List.getElem?_eq_some_iff.mp hi).1
  refine hg _ _ _ _ _ (fun σ2 H2 q => ⟨q.1, htt _ _ _ _ q.2⟩) (hs i x H' _ hi s ⟨_, hD', ?_, fun b o hb => ?_, ?_⟩)
  · rw [List.length_map, List.length_range, sizeLine_eq]; omega
  · rw [upd_ne (ne_of_none hb hD)]; exact s _ _ hb
  · rw [upd_same, List.range_succ, List.map_append] <;> rfl
theorem l_tupP (f : Nat → V) (hD : H D = none) (hn : xs.length ≤ 1000000) (hx : SqT K H a xs)
    (hs : ∀ i x H' (R : VK), xs[i]? = some x → Same H H' → R (f i) H' → g x σ' H' fun σ2 H2 => wipe σ2 ws = σ' ∧ tt σ2 H2 fun b H3 => if b = true then te σ2 H3 R else False)
    (hd : ∀ H', Same H H' → H' D = some (.lst ((List.range xs.length).map f)) → Qd H') (e : wipe σ' ws = σ' := by rfl)
    (htt : ∀ (σ2 : L2.St) (H2 : Hp) (A : Hp → Prop) (B : Hp → Prop), (tt σ2 H2 fun b H3 => if b = true then A H3 else False) → tt σ2 H2 fun b H3 => if b = true then A H3 else B H3 := by intro _ _ _ _ h; exact h) (hg : ∀ x (σ2 : L2.St) (H2 : Hp) (A B : L2.St → Hp → Prop), (∀ s h, A s h → B s h) → g x σ2 H2 A → g x σ2 H2 B := by intro _ _ _ _ _ h q; exact h _ _ q) :
    ∃ W : Nat → Nat → Hp → Prop, (∃ m, W 0 m (upd H D (.lst []))) ∧ ∀ i m H, W i m H →
      ((Itt K a).stop i H ∧ Qd H) ∨ ((Itt K a).go i H ∧ ∃ Nx : Hp → Prop, (∀ H', Nx H' → ∃ m', m' < m ∧ W (i + 1) m' H') ∧ ∀ x H', (Itt K a).yld i H x H' → g x σ' H' fun σ2 H2 => wipe σ2 ws = σ' ∧ tt σ2 H2 fun b H3 =>
        if b = true then te σ2 H3 fun y H4 => ∃ acc, H4 D = some (.lst acc) ∧ acc.length < sizeLine ∧ Nx (upd H4 D (.lst (acc ++ [y]))) else Nx H3) := by
  refine l_tup (xs := xs) (fun i H' => Same H H' ∧ H' D = some (.lst ((List.range i).map f))) ⟨same_new hD, upd_same⟩ (fun i H' _ h => Same.tup h.1 hx) (fun i x H' hi h => ?_) (fun H' h => hd H' h.1 h.2) e
  obtain ⟨s, hD'⟩ := h
  have hlt := (List.getElem?_eq_some_iff.mp hi).1
  refine hg _ _ _ _ _ (fun σ2 H2 q => ⟨q.1, htt _ _ _ _ q.2⟩) (hs i x H' _ hi s ⟨_, hD', ?_, fun b o hb => ?_, ?_⟩)
  · rw [List.length_map, List.length_range, sizeLine_eq]; omega
  · rw [upd_ne (ne_of_none hb hD)]; exact s _ _ hb
  · rw [upd_same, List.range_succ, List.map_append] <;> rfl
end
theorem i_yes {σ : L2.St} {H : Hp} {Q : Bool → Hp → Prop} (q : Q true H) : tYes σ H Q := q
/-! ### ifs -/
theorem c_dec {P A B : Prop} [Decidable P] (h1 : P → A) (h2 : ¬ P → B) : if decide P = true then A else B := by
  by_cases h : P
  · rw [if_pos (decide_eq_true h)]; exact h1 h
  · rw [if_neg (by rw [decide_eq_false h]; exact Bool.false_ne_true)]; exact h2 h
theorem c_decN {P A B : Prop} [Decidable P] (h1 : ¬ P → A) (h2 : P → B) : if (!decide P) = true then A else B := by
  by_cases h : P
  · rw [if_neg (by rw [decide_eq_true h]; exact Bool.false_ne_true)]; exact h2 h
  · rw [if_pos (by rw [decide_eq_false h]; rfl)]; exact h1 h
theorem c_nt {A B : Prop} (h : B) : if (!true) = true then A else B := iteF h
theorem c_nf {A B : Prop} (h : A) : if (!false) = true then A else B := iteT h
theorem c_bool {b : Bool} {A B : Prop} (h1 : b = true → A) (h2 : b = false → B) : if b = true then A else B := by
  cases b
  · exact iteF (h2 rfl)
  · exact iteT (h1 rfl)
theorem c_yes {P A B : Prop} [Decidable P] (h : P) (h1 : A) : if decide P = true then A else B := by rw [if_pos (decide_eq_true h)]; exact h1
theorem c_no {P A B : Prop} [Decidable P] (h : ¬ P) (h1 : B) : if decide P = true then A else B := by rw [if_neg (by rw [decide_eq_false h]; exact Bool.false_ne_true)]; exact h1
theorem c_yesN {P A B : Prop} [Decidable P] (h : ¬ P) (h1 : A) : if (!decide P) = true then A else B := by rw [if_pos (by rw [decide_eq_false h]; rfl)]; exact h1
theorem c_noN {P A B : Prop} [Decidable P] (h : P) (h1 : B) : if (!decide P) = true then A else B := by rw [if_neg (by rw [decide_eq_true h]; exact Bool.false_ne_true)]; exact h1
section
variable {K : PySem.W.Frag} {σ : L2.St} {H : Hp} {Q : VK}
theorem i_slA {p : Addr} {xs : List V} {lo hi : Option Int} (h : SqT K H p xs) (q : ∀ (r : Addr) (H' : Hp), Same H H' → SqT K H' r (cutV xs lo hi) → Q (.ref r) H') : rSlQ K (.ref p) lo hi H Q :=
  ⟨p, xs, rfl, h, fun e => q p H (Same.refl H) (by rw [e]; exact h), fun r hr => q r _ (same_new hr) (SqT.of upd_same)⟩
theorem i_eqD {x y : V} {d e : PyData} {n m : Nat} (h1 : Dp K H x d) (h2 : Dp K H y e) (s1 : Shp n d) (s2 : Shp m e) (hn : n ≤ 64) (hm : m ≤ 64) (q : Q (.bl (PyData.eqv d e)) H) : rEqD K x y H Q := ⟨d, e, h1, h2, s1.shaped hn, s2.shaped hm, q⟩
theorem i_neD {x y : V} {d e : PyData} {n m : Nat} (h1 : Dp K H x d) (h2 : Dp K H y e) (s1 : Shp n d) (s2 : Shp m e) (hn : n ≤ 64) (hm : m ≤ 64) (q : Q (.bl (!PyData.eqv d e)) H) : rNeD K x y H Q := ⟨d, e, h1, h2, s1.shaped hn, s2.shaped hm, q⟩
/-- == and != of the same data -/
theorem i_eqS' {x y : V} {d : PyData} {n : Nat} (h1 : Dp K H x d) (h2 : Dp K H y d) (s1 : Shp n d) (hn : n ≤ 64) (q : Q (.bl true) H) : rEqD K x y H Q := i_eqD h1 h2 s1 s1 hn hn (by rw [s1.eqv]; exact q)
theorem i_neS' {x y : V} {d : PyData} {n : Nat} (h1 : Dp K H x d) (h2 : Dp K H y d) (s1 : Shp n d) (hn : n ≤ 64) (q : Q (.bl false) H) : rNeD K x y H Q := i_neD h1 h2 s1 s1 hn hn (by rw [s1.eqv]; exact q)
theorem i_while {c : TT} {tb : TS} {nx : L2.St → Hp → Prop} {rt : VK} {bk ct : L2.St → Hp → Prop} (W : Nat → L2.St → Hp → Prop) (h0 : ∃ m, W m σ H) (h : ∀ m σ H, W m σ H →
  c σ H fun b H1 => if b = true then ∃ N : L2.St → Hp → Prop, (∀ σ' H', N σ' H' → ∃ m', m' < m ∧ W m' σ' H') ∧ tb ⟨N, rt, nx, N⟩ σ H1 else nx σ H1) : tWhile c tb ⟨nx, rt, bk, ct⟩ σ H := ⟨W, h0, h⟩
theorem i_par {i j : Nat} {ta : TA} {nx : L2.St → Hp → Prop} {rt : VK} {bk ct : L2.St → Hp → Prop} (h : ta σ H fun vs H1 => ∃ v w, vs = [v, w] ∧ nx ((σ.set i (some v)).set j (some w)) H1) : tPar i j ta ⟨nx, rt, bk, ct⟩ σ H := h
theorem i_two {x y : V} {R : V → V → Prop} (q : R x y) : ∃ v w, [x, y] = [v, w] ∧ R v w := ⟨x, y, rfl, q⟩
theorem Dp.same {K : PySem.W.Frag} {H H' : Hp} (s : Same H H') : ∀ (d : PyData) (v : V), Dp K H v d → Dp K H' v d := by
  intro d v h
  exact Dp.rec (motive_1 := fun v d _ => Dp K H' v d) (motive_2 := fun vs ds _ => DpAll K H' vs ds) .non (fun b => .bl b) (fun i => .int i) (fun x => .str x) (fun h _ q => .lst (s.seq h) q) (fun h _ q => .tup (Same.tup s h) q) .nil (fun _ _ h1 h2 => .cons h1 h2) h
end
/-! ### a def that can be called -/
structure Df (K : PySem.W.Frag) (mg : Str → Option Value) (x : Str) (st : Stmt) (f : Addr) (fd : FuncData) (ps : List Str) : Prop where
  fn : Fun K x x st f fd
  mgf : mg x = some (.ref f)
  bi : Binds K fd ps []
/-- a def of the text by its promise: it lets no exception out -/
structure Cl (P : Program) (w : World) (K : PySem.W.Frag) (mg : Str → Option Value) (base : Heap) (k : Nat) (x : Str) (sp : Sp) : Prop where
  ex : ∃ (f : Addr) (fd : FuncData) (ps : List Str), FnOk P w K mg base CX0 k f fd ps sp ∧ mg x = some (.ref f) ∧ PySem.W.keepIn K (.ref f) = true ∧ Binds K fd ps []
section
variable {P : Program} {w : World} {K : PySem.W.Frag} {mg : Str → Option Value} {base : Heap}
theorem Df.ok {x : Str} {st : Stmt} {f : Addr} {fd : FuncData} {ps N : List Str} {k : Nat} {sp : Sp} (F : Df K mg x st f fd ps) (S : FnScope N ps (defScope st)) (len : ∀ vs H Q E, sp vs H Q E → vs.length = ps.length)
    (hbody : ∀ (cdv : Value) (A : Around) (outer : List Env) (s : Shared) (H : Hp) (vs : List V) (Q : VK) (E : XK), Room k (A.deeper (envOfC x (defScope st) s.heap.objs.size f cdv)) → sp vs H Q E →
      ∃ t, PSs (cxOf CX0 P w K mg base N x (defScope st) f cdv A outer s H E).nox (defBody st) t ∧ t { nx := fun _ H' => Q .non H', rt := Q } (start N vs) H) : FnOk P w K mg base CX0 (k + 1) f fd ps sp :=
  F.fn.ok S len hbody
theorem Df.cl {x : Str} {st : Stmt} {f : Addr} {fd : FuncData} {ps : List Str} {k : Nat} {sp : Sp} (F : Df K mg x st f fd ps) (o : FnOk P w K mg base CX0 k f fd ps sp) : Cl P w K mg base k x sp :=
  ⟨f, fd, ps, o, F.mgf, F.fn.kp, F.bi⟩
variable {X : Cx}
theorem pe_cl {x : Str} {sp : Sp} {j k : Nat} {e : Expr} {es : List Expr} {t : TA} {p pos : Pos} (c : Cl X.prog X.w X.K X.mg X.base k x sp) (hr : Room j X.A) (hk : k ≤ j) (hg : Gl X x) (ha : PA X (e :: es) t)
    (hdb : (x == ("__debug__" : Str)) = false := by decide) (he : starEach (e :: es) X.env = (false, eval e X.env) :: starEach es X.env := by rfl) (hpl : (backTo pos (starEach es X.env)).any (·.1) = false := by rfl) :
    PE X (.Call (.Name x p) (e :: es) [] pos) (tCall sp [] E0 t) := by
  obtain ⟨f, fd, ps, F, hm, kp, b⟩ := c.ex
  exact pe_call F (hr.mono hk) hg hm kp b .nil pass0 ha hdb he hpl
theorem pe_cl0 {x : Str} {sp : Sp} {j k : Nat} {p pos : Pos} (c : Cl X.prog X.w X.K X.mg X.base k x sp) (hr : Room j X.A) (hk : k ≤ j) (hg : Gl X x) (hdb : (x == ("__debug__" : Str)) = false := by decide) :
    PE X (.Call (.Name x p) [] [] pos) (tCall sp [] E0 tNil) := by
  obtain ⟨f, fd, ps, F, hm, kp, b⟩ := c.ex
  exact pe_call0 F (hr.mono hk) hg hm kp b .nil pass0 hdb
/-- a constant of the module's top -/
def Cn (mg : Str → Option Value) (x : Str) (v : V) : Prop := ∃ u, mg x = some u ∧ RelV v u
theorem pe_cn {x : Str} {v : V} {pos : Pos} (hg : Gl X x) (h : Cn X.mg x v) (hd : (x == ("__debug__" : Str)) = false := by decide) : PE X (.Name x pos) (tC v) := by
  obtain ⟨u, hm, r⟩ := h
  exact pe_glob hg hm r hd
section
variable {K : PySem.W.Frag} {T : String} {name : Str} {id : String} {r : V → List V → Hp → VK → Prop} {o e : Expr} {es : List Expr} {apos cpos pos : Pos} {to ta : TE} {t : TA}
theorem pe_bm0K (hK : X.K = K) (pa : PlainAttrs T) (slot : Slot T name id) (hty : typeOf (.builtin id) = pure (.type "method_descriptor")) (hm : MtR X id r) (ho : PE X o to)
    (hbase : attributeBase o name X.env (eval o X.env) = eval o X.env := by rfl) (hline : (apos.endLine == cpos.line) = true := by rfl) : PE X (.Call (.Attribute o name apos) [] [] cpos) (tBM0 K T r to) := by
  subst hK; exact pe_bm0 pa slot hty hm ho hbase hline
theorem pe_bmK (hK : X.K = K) (pa : PlainAttrs T) (slot : Slot T name id) (hty : typeOf (.builtin id) = pure (.type "method_descriptor")) (hm : MtR X id r) (ho : PE X o to) (ha : PA X (e :: es) t)
    (hbase : attributeBase o name X.env (eval o X.env) = eval o X.env := by rfl)
    (hfew : ((backTo cpos (starEach (e :: es) X.env)).all (fun x => !x.1) && (backToKw cpos (keywordEach [] X.env)).all (fun x => x.1.isSome)
      && decide ((e :: es).length + ([] : List Keyword).length + (if ([] : List Keyword).isEmpty then 0 else 1) < 30)) = true := by rfl)
    (hline : (apos.endLine == cpos.line) = true := by rfl) (hs : starEach (e :: es) X.env = (false, eval e X.env) :: starEach es X.env := by rfl) (hplain : (backTo cpos (starEach es X.env)).any (·.1) = false := by rfl) :
    PE X (.Call (.Attribute o name apos) (e :: es) [] cpos) (tBM K T r to t) := by
  subst hK; exact pe_bm pa slot hty hm ho ha hbase hfew hline hs hplain
theorem pe_fldK (hK : X.K = K) {f : Str} (he : PE X e ta) (hb : attributeBase e f X.env (eval e X.env) = eval e X.env) : PE X (.Attribute e f pos) (tFld K ta f) := by
  subst hK; exact pe_fld he hb
theorem pg_tupK (hK : X.K = K) {es : List Expr} {k : Nat} {t : TGs} {n : Nat} (hc : X.calm = true) (h : PGs X es t)
    (hn : (assignEach es X.env).length = n := by rfl) (hst : (assignEach es X.env).findIdx? (·.1) = none := by rfl) : PG X (.Tuple es k pos) (gTup K n t) := by
  subst hK; exact pg_tup hc h hn hst
end
theorem get_list : L2.PGet X (rIxL X.K) := by
  intro pins s σ H x y v u Q I rx ry h
  obtain ⟨p, xs, i, z, rfl, rfl, hq, he, q⟩ := h
  cases rx
  obtain ⟨t, rfl⟩ := ry
  obtain ⟨its, r, pl, hz⟩ := I.list hq
  obtain ⟨j, h1, h2, h3, h4, h5⟩ := atI_get he
  obtain ⟨w, ew, rw'⟩ := r.get h2
  have hl := r.length
  have hn := line63
  have fin : EP X pins σ Q w s := ⟨z, H, I, rw', q⟩
  by_cases h0 : 0 ≤ i
  · have hj : i.toNat = j := by
      rw [seqIndex_of h0 h5] at h1
      exact Option.some.inj h1
    exact wpAny_getItem_list pl.isList h0 (by omega) (by rw [hj]; simpa using ew) fin
  · have hj : (i + (its.toArray.size : Int)).toNat = j := by
      rw [seqIndex_neg (by omega) h4] at h1
      rw [List.size_toArray, ← hl]
      exact Option.some.inj h1
    exact wpAny_getItem_list_neg pl.isList (by omega) (by rw [List.size_toArray] <;> omega) (by omega) (by rw [hj]; simpa using ew) fin
end
theorem perm_erase {α : Type} : ∀ (l : List α) (i : Nat) (h : i < l.length), (l[i] :: l.eraseIdx i).Perm l
  | x :: r, 0, _ => List.Perm.refl _
  | x :: r, i + 1, h => (List.Perm.swap x (r[i]'(Nat.lt_of_succ_lt_succ h)) (r.eraseIdx i)).trans ((perm_erase r i (Nat.lt_of_succ_lt_succ h)).cons x)
theorem ints_at {ns : List Int} {i : Nat} {x : V} (h : (ns.map V.int)[i]? = some x) : ∃ z, x = .int z ∧ ns[i]? = some z ∧ ns.take (i + 1) = ns.take i ++ [z] ∧ i < ns.length := by
  rw [List.getElem?_map] at h
  cases e : ns[i]? with
  | none => rw [e] at h; cases h
  | some z =>
    rw [e] at h
    exact ⟨z, (Option.some.inj h).symm, rfl, by rw [List.take_add_one, e]; rfl, (List.getElem?_eq_some_iff.mp e).1⟩
theorem at_lt {α : Type} {xs : List α} {i : Int} (h0 : 0 ≤ i) (h : i < xs.length) : ∃ v, atI xs i = some v ∧ v ∈ xs ∧ xs[i.toNat]? = some v := by
  have hl : i.toNat < xs.length := by omega
  refine ⟨xs[i.toNat], ?_, List.getElem_mem hl, List.getElem?_eq_getElem hl⟩
  have := atI_nat (xs := xs) (j := i.toNat) (v := xs[i.toNat]) (List.getElem?_eq_getElem hl)
  rw [Int.toNat_of_nonneg h0] at this
  exact this
theorem ixN_of {n : Nat} {i : Int} (h0 : 0 ≤ i) (h : i < n) : ixN n i = some i.toNat := by
  unfold ixN
  rw [if_pos h0, if_pos h]
end Jp

/-! ### own classes: methods and instances -/
namespace Jp
open PySem PySem.Spec PyProof.Rows L2
/-- a method of the class C -/
structure Dm (K : PySem.W.Frag) (C : Addr) (x q : Str) (st : Stmt) (f : Addr) (fd : FuncData) (ps : List Str) : Prop where
  fn : Fun K x q st f fd
  mt : Meth K C x f
  bi : Binds K fd ps []
structure Mt (P : Program) (w : World) (K : PySem.W.Frag) (mg : Str → Option Value) (base : Heap) (k : Nat) (C : Addr) (m : Str) (sp : Sp) : Prop where
  ex : ∃ (f : Addr) (fd : FuncData) (ps : List Str), FnOk P w K mg base CX0 k f fd ps sp ∧ Meth K C m f ∧ Binds K fd ps []
structure Mkc (P : Program) (w : World) (K : PySem.W.Frag) (mg : Str → Option Value) (base : Heap) (k : Nat) (C : Addr) (sp : Sp) : Prop where
  ex : ∃ (f : Addr) (fd : FuncData) (ps : List Str), FnOk P w K mg base CX0 k f fd ps sp ∧ Mk K C f ∧ Binds K fd ps []
section
variable {P : Program} {w : World} {K : PySem.W.Frag} {mg : Str → Option Value} {base : Heap}
theorem Dm.ok {C : Addr} {x q : Str} {st : Stmt} {f : Addr} {fd : FuncData} {ps N : List Str} {k : Nat} {sp : Sp} (F : Dm K C x q st f fd ps) (S : FnScope N ps (defScope st)) (len : ∀ vs H Q E, sp vs H Q E → vs.length = ps.length)
    (hbody : ∀ (cdv : Value) (A : Around) (outer : List Env) (s : Shared) (H : Hp) (vs : List V) (Q : VK) (E : XK), Room k (A.deeper (envOfC q (defScope st) s.heap.objs.size f cdv)) → sp vs H Q E →
      ∃ t, PSs (cxOf CX0 P w K mg base N q (defScope st) f cdv A outer s H E).nox (defBody st) t ∧ t { nx := fun _ H' => Q .non H', rt := Q } (start N vs) H) : FnOk P w K mg base CX0 (k + 1) f fd ps sp :=
  F.fn.ok S len hbody
variable {X : Cx}
theorem pe_mtc {pl : Sem Bool} {C : Addr} {m : Str} {sp : Sp} {j k : Nat} {o e : Expr} {es : List Expr} {ta : TE} {t : TA} {apos pos : Pos} (c : Mt X.prog X.w X.K X.mg X.base k C m sp) (cl : Cls X.K C) (hr : Room j X.A) (hk : k ≤ j) (he : PE X o ta) (ha : PA X (e :: es) t)
    (hst : starEach (e :: es) X.env = (false, eval e X.env) :: starEach es X.env := by rfl) (hpl : (backTo pos (starEach es X.env)).any (·.1) = false := by rfl)
    (ht : eval (.Call (.Attribute o m apos) (e :: es) [] pos) X.env = (do
      let ov ← eval o X.env
      standAt apos.atName
      let (f, first) ← holding [ov] (getMethod ov m pl)
      callWith pos f first (backTo pos (starEach (e :: es) X.env)) (backToKw pos (keywordEach [] X.env))) := by rfl) : PE X (.Call (.Attribute o m apos) (e :: es) [] pos) (tMeth C m sp [] E0 ta t) := by
  obtain ⟨f, fd, ps, F, hm, b⟩ := c.ex
  exact pe_meth he cl hm F (hr.mono hk) b .nil pass0 ha hst hpl ht
theorem pe_mtc0 {pl : Sem Bool} {C : Addr} {m : Str} {sp : Sp} {j k : Nat} {o : Expr} {ta : TE} {apos pos : Pos} (c : Mt X.prog X.w X.K X.mg X.base k C m sp) (cl : Cls X.K C) (hr : Room j X.A) (hk : k ≤ j) (he : PE X o ta)
    (ht : eval (.Call (.Attribute o m apos) [] [] pos) X.env = (do
      let ov ← eval o X.env
      standAt apos.atName
      let (f, first) ← holding [ov] (getMethod ov m pl)
      callWith pos f first (backTo pos (starEach [] X.env)) (backToKw pos (keywordEach [] X.env))) := by rfl) : PE X (.Call (.Attribute o m apos) [] [] pos) (tMeth C m sp [] E0 ta tNil) := by
  obtain ⟨f, fd, ps, F, hm, b⟩ := c.ex
  exact pe_meth0 he cl hm F (hr.mono hk) b .nil pass0 ht
theorem pe_mkc {C : Addr} {x : Str} {sp : Sp} {j k : Nat} {e : Expr} {es : List Expr} {t : TA} {p pos : Pos} (c : Mkc X.prog X.w X.K X.mg X.base k C sp) (hr : Room j X.A) (hk : k + 1 ≤ j) (hg : Gl X x) (hm : X.mg x = some (.ref C)) (ha : PA X (e :: es) t)
    (hdb : (x == ("__debug__" : Str)) = false := by decide) (he : starEach (e :: es) X.env = (false, eval e X.env) :: starEach es X.env := by rfl) (hpl : (backTo pos (starEach es X.env)).any (·.1) = false := by rfl) : PE X (.Call (.Name x p) (e :: es) [] pos) (tMake C sp [] E0 t) := by
  obtain ⟨f, fd, ps, F, M, b⟩ := c.ex
  exact pe_make M F (hr.mono hk) hg hm b .nil pass0 ha hdb he hpl
theorem pe_mkc0 {C : Addr} {x : Str} {sp : Sp} {j k : Nat} {p pos : Pos} (c : Mkc X.prog X.w X.K X.mg X.base k C sp) (hr : Room j X.A) (hk : k + 1 ≤ j) (hg : Gl X x) (hm : X.mg x = some (.ref C)) (hdb : (x == ("__debug__" : Str)) = false := by decide) : PE X (.Call (.Name x p) [] [] pos) (tMake C sp [] E0 tNil) := by
  obtain ⟨f, fd, ps, F, M, b⟩ := c.ex
  exact pe_make0 M F (hr.mono hk) hg hm b .nil pass0 hdb
section
variable {σ : L2.St} {H : Hp} {Q : VK}
theorem i_fld {ta : TE} {f : Str} (h : ta σ H fun x H1 => ∃ a C dx fs v, x = .ref a ∧ H1 a = some (.ins C dx fs) ∧ Cls K C ∧ NoAttr K C f ∧ fs.lookup f = some v ∧ Q v H1) : tFld K ta f σ H Q := h
theorem i_ins {a C dx : Addr} {f : Str} {fs : List (Str × V)} {v : V} {R : V → Prop} (h : H a = some (.ins C dx fs)) (c : Cls K C) (n : NoAttr K C f) (l : fs.lookup f = some v) (q : R v) : ∃ a' C' dx' fs' v', V.ref a = .ref a' ∧ H a' = some (.ins C' dx' fs') ∧ Cls K C' ∧ NoAttr K C' f ∧ fs'.lookup f = some v' ∧ R v' := ⟨a, C, dx, fs, v, rfl, h, c, n, l, q⟩
theorem i_insS {a C dx : Addr} {f : Str} {fs : List (Str × V)} {R : Addr → Addr → Addr → List (Str × V) → Prop} (h : H a = some (.ins C dx fs)) (c : Cls K C) (n : NoAttr K C f) (l : fs.length < 1000) (q : R a C dx fs) : ∃ a' C' dx' fs', V.ref a = .ref a' ∧ H a' = some (.ins C' dx' fs') ∧ Cls K C' ∧ NoAttr K C' f ∧ fs'.length < 1000 ∧ R a' C' dx' fs' := ⟨a, C, dx, fs, rfl, h, c, n, l, q⟩
theorem i_sfld {ta tv : TE} {f : Str} {nx : L2.St → Hp → Prop} {rt : VK} {bk ct : L2.St → Hp → Prop} (h : tv σ H fun y H1 => ta σ H1 fun x H2 => ∃ a C dx fs, x = .ref a ∧ H2 a = some (.ins C dx fs) ∧ Cls K C ∧ NoAttr K C f ∧ fs.length < 1000 ∧ nx σ (upd H2 a (.ins C dx (putF f y fs)))) : sFld K ta tv f ⟨nx, rt, bk, ct⟩ σ H := h
theorem i_meth {C : Addr} {m : Str} {sp : Sp} {E : XK} {ta : TE} {t : TA} (h : ta σ H fun x H1 => ∃ a dx fs, x = .ref a ∧ H1 a = some (.ins C dx fs) ∧ fs.lookup m = none ∧ t σ H1 fun vs H2 => sp (x :: (vs ++ [])) H2 Q E) : tMeth C m sp [] E ta t σ H Q := h
theorem i_make {C : Addr} {sp : Sp} {E : XK} {t : TA} (h : t σ H fun vs H1 => ∀ x dx, H1 x = none → H1 dx = none → dx ≠ x → sp (.ref x :: (vs ++ [])) (upd (upd H1 dx (.own x)) x (.ins C dx [])) (fun v H2 => v = .non ∧ Q (.ref x) H2) E) : tMake C sp [] E t σ H Q := h
end
end
end Jp

/-! ### own errors over ValueError whose __init__ says super().__init__("..") and then stores its fields -/
namespace EX2
open PySem PySem.Spec PyProof.Rows L2 NdefX
theorem head_split {α : Type} {l : List α} {x : α} (h : l.head? = some x) : ∃ r, l = x :: r := by
  cases l with
  | nil => cases h
  | cons y r => cases h; exact ⟨r, rfl⟩
/-- ValueError.__init__ bound to e, called -/
theorem call_mwV {prog : Program} {w : World} {A : Around} {E : Value → Shared → Prop} {h : Heap} {g : Array GenState} {d : Drawn} {t : Nat} {os : OsState}
    {nm q : Str} {C N : Addr} {bs bm : List Value} {hdct : Bool} {sn : List Str} {sub : List Value} {ab : Bool} {col : Option Bool} {dd : Option Addr} {k0 k1 k2 k3 k5 : Option Value}
    {u e t0 : Addr} {rest : List Value} {Q : Value → Shared → Prop}
    (hC : h.get? C = some (excClassObj nm q C N bs bm hdct sn sub ab col dd k0 k1 k2 k3 k5 "ValueError.__new__")) (he : h.get? e = some (HandSPX.excO C t0)) (hu : h.get? u = some (W.kxs_mw "ValueError.__init__" e)) (hrest : rest.length ≤ sizeLine)
    (hq : ∀ h' t1, (∀ b o, b ≠ e → h.get? b = some o → h'.get? b = some o) → h'.get? e = some (HandSPX.excO C t1) → Q .none ⟨h', g, d, t, os⟩) :
    wpAny (model prog w) A (call (.ref u) rest) Q E ⟨h, g, d, t, os⟩ := by
  refine wpAny_call (codeAny_of_tree ?_)
  show wpAny _ A.in1 (callAny (.ref u) ⟨rest, []⟩) _ _ _
  simp only [callAny]
  refine wpAny_bind (wpAny_load hu ?_)
  simp only [W.kxs_mw, show (Value.type "method-wrapper" == Value.type "method" || Value.type "method-wrapper" == Value.type "builtin_function_or_method" || Value.type "method-wrapper" == Value.type "method-wrapper") = true by decide, if_true]
  refine W.KFB.if_so (by decide) ?_
  refine wpAny_bind (ESX.check_bound F.excBase_ValueError hC he rfl ?_)
  refine wpAny_bind (wpAny_pure (wpAny_pure ?_))
  refine ⟨Code.quiet_builtin _ (by decide +kernel), codeAny_builtin F.excBase_ValueError.initEntry ?_⟩
  rw [Around.under_plainId F.excBase_ValueError.init.plain _]
  wp_walk
  refine hq _ h.objs.size (fun b o hb ho => ?_) ?_
  · rw [Heap.get?_update_other _ _ (Ne.symm hb)]
    exact Heap.get?_push_of_some _ ho
  · rw [Heap.get?_update_self _ (Heap.get?_push_of_some _ he) rfl]
    rfl
/-- what the written part says of the class at C and of its own __init__ (class cell cc, code object cda) -/
structure InT (P : Program) (K : PySem.W.Frag) (C cc cda : Addr) : Prop where
  T : OexC K C
  cell : ∃ (cl : Value) (cld : Option Addr) (csl : Array (Option Value)), K.lookup cc = some ⟨cl, cld, .cell (some (.ref C)), csl⟩
  code : ∃ (ccl : Value) (cdd : Option Addr) (vs : Array Value) (ccs : Array (Option Value)) (file : Str) (tf : Tok), K.lookup cda = some ⟨ccl, cdd, .fields vs, ccs⟩ ∧ vs[2]? = some (.str file tf) ∧ ((P.main.file : Str) == file) = true
  self : PySem.W.mroIn K C (.ref C) = some true
  top : (P.main.scope.names.lookup ("super" : Str)).isSome = false
  opq : PySem.W.nsIn K cStatics "thirdparty.any" = some none
  up : PySem.W.ks_superIn K C C "__init__" = some (some (.builtin "ValueError.__init__"))
  ve : PySem.W.subIn K (.ref C) (.type "ValueError") = some true
theorem mc_eq {o : Expr} {name : Str} {p2 p3 : Pos} {env : Env} {c : Const} {kd : Nat} {pc : Pos} (hpos : (p2.endLine == p3.line) = true) :
    eval (.Call (.Attribute o name p2) [.Constant c kd pc] [] p3) env = (do
      let ov ← attributeBase o name env (eval o env)
      standAt p2.atName
      let (f, first) ← holding [ov] (getMethod ov name (do return (← importBound o env).getD true))
      callWith p3 f first (backTo p3 (starEach [.Constant c kd pc] env)) []) := by
  rw [arm_eval_Call]
  congr 1
  funext ov
  congr 1
  funext _
  have h1 : methodCallForm ([Expr.Constant c kd pc].length + ([] : List Keyword).length) (backTo p3 (starEach [.Constant c kd pc] env)) (backToKw p3 (keywordEach [] env)) = true := by rfl
  have h2 : methodCallPos true o env p2 p3 = pure p3 := by
    unfold methodCallPos
    rw [hpos]
    rfl
  unfold methodCall
  rw [h1, h2]
  simp only [pure_bind]
  rfl
theorem fn_exc {CX : CXT} {P : Program} {w : World} {K : PySem.W.Frag} {mg : Str → Option Value} {base : Heap} {k : Nat} {f : Addr} {name qual : Str} {params : Arguments} {rest : List Stmt} {scope : Scope} {dV kV doc pm ct oc : Value} {an od : Option Addr} {cc cda C : Addr}
    {osl : Array (Option Value)} {N ps : List Str} {sp : Sp} {p0 p1 p2 p3 p4 pc : Pos} {txt : Str} {kd : Nat} {ar : Arg}
    (lk : K.lookup f = some ⟨oc, od, .func (PySem.W.fnX name qual params (.Expr (.Call (.Attribute (.Call (.Name "super" p0) [] [] p1) "__init__" p2) [.Constant (.str txt) kd pc] [] p3) p4 :: rest) scope [("__class__", cc)] dV kV doc pm an (.ref cda) ct), osl⟩)
    (hcd : PySem.W.codeIn K (.ref cda) qual = true) (S : NScope N ps ["__class__"] scope) (Z : InT P K C cc cda) (hsup : mg "super" = none)
    (hks : scope.names.lookup ("super" : Str) = some .globalImplicit) (hp : (params.posonlyargs ++ params.args).head? = some ar) (hps : ps.head? = some ar.arg) (hpos : (p2.endLine == p3.line) = true)
    (len : ∀ vs H Q E, sp vs H Q E → vs.length = ps.length)
    (hsp : ∀ vs H Q E, sp vs H Q E → ∃ a ws, vs = .ref a :: ws ∧ H a = some (exo a C none))
    (hbody : ∀ (A : Around) (outer : List Env) (s : Shared) (H : Hp) (vs : List V) (Q : VK) (E : XK), sp vs H Q E →
      ∃ t, PSs (ncx CX P w K mg base N ⟨name, qual, params, .Expr (.Call (.Attribute (.Call (.Name "super" p0) [] [] p1) "__init__" p2) [.Constant (.str txt) kd pc] [] p3) p4 :: rest, scope, [("__class__", cc)], cda⟩ f A outer s H E) rest t ∧ t { nx := fun _ H' => Q .non H', rt := Q } (startF N vs [none]) H) :
    FnOk P w K mg base CX (k + 1) f (PySem.W.fnX name qual params (.Expr (.Call (.Attribute (.Call (.Name "super" p0) [] [] p1) "__init__" p2) [.Constant (.str txt) kd pc] [] p3) p4 :: rest) scope [("__class__", cc)] dV kV doc pm an (.ref cda) ct) ps sp := by
  refine ⟨len, fun A outer s H args us vs Q E hr e0 hb r hs => ?_⟩
  have hl := len _ _ _ _ hs
  obtain ⟨a, ws, ev, ea⟩ := hsp _ _ _ _ hs
  have KX : K.In s.heap := e0.mod.kin.keeps fun b o e => (e0.bs b o e).1
  have lim : s.heap.NoLimit := e0.mod.nolimit.keeps fun b o e => (e0.bs b o e).1
  obtain ⟨cl, cld, csl, hcell⟩ := Z.cell
  obtain ⟨t, ht, hq⟩ := hbody A outer s H vs Q E hs
  have nodeNd : ps.Nodup := by
    have q := S.nd.sublist (List.take_sublist (ps.length + [("__class__" : Str)].length) N)
    rw [S.pre] at q
    exact (List.nodup_append.mp q).1
  refine ks_codeAny_call_defAt (binds := ps.zip us) hr.depth (KX _ _ lk) rfl lim (PySem.W.codeRec_of KX hcd) rfl hb (fun x hx => S.nocell x hx) (fun x hx => S.par _ (List.of_mem_zip (show (x.1, x.2) ∈ ps.zip us from hx)).1) (fun h₁ hns hk₁ => ?_) S.co S.gen S.kind
  have ccH : H cc = none := (e0.bs cc _ (e0.mod.kin _ _ hcell)).2
  have CA : CellsAt [("__class__", cc)] ["__class__"] [none] s.heap H := by
    have ccI : s.heap.IsCell cc (some (.ref C)) := ⟨_, KX _ _ hcell, rfl⟩
    have inv : ∀ (y : Str) (c : Addr), List.lookup y [(("__class__" : Str), cc)] = some c → y = ("__class__" : Str) ∧ c = cc := fun y c e => by
      rw [List.lookup_cons] at e
      cases hy : (y == ("__class__" : Str)) with
      | true => rw [hy] at e; cases e; exact ⟨by simpa using hy, rfl⟩
      | false => rw [hy] at e; cases e
    refine ⟨rfl, fun y c e => ?_, fun x y c e1 e2 => ?_, fun i y e => ?_⟩
    · obtain ⟨_, rfl⟩ := inv _ _ e
      exact ⟨ccH, _, ccI⟩
    · exact (inv _ _ e1).1.trans (inv _ _ e2).1.symm
    · cases i with
      | zero =>
        cases e
        refine ⟨cc, ?_, fun v hv => by cases hv⟩
        rw [List.lookup_cons, show (("__class__" : Str) == ("__class__" : Str)) = true from by decide +kernel]
      | succ i => simp at e
  have I := inv_startN (CX := CX) (E := E) (F := ⟨name, qual, params, .Expr (.Call (.Attribute (.Call (.Name "super" p0) [] [] p1) "__init__" p2) [.Constant (.str txt) kd pc] [] p3) p4 :: rest, scope, [("__class__", cc)], cda⟩) (f := f) (tk := s.toks + (ps.zip us).length) S hr.hd e0 hl r CA hns hk₁
  have hk : (envF ⟨name, qual, params, .Expr (.Call (.Attribute (.Call (.Name "super" p0) [] [] p1) "__init__" p2) [.Constant (.str txt) kd pc] [] p3) p4 :: rest, scope, [("__class__", cc)], cda⟩ f s.heap.objs.size).scope.kind = .function := S.kind
  obtain ⟨ccl, cdd, cvs, ccs, file, tf, hcode, hvs, hfile⟩ := Z.code
  obtain ⟨nm, q, N', bs, bm, sn, sub, ab, col, dd, k0, k1, k2, k3, k5, hCl, hbm⟩ := Z.T.cls
  have hcl : PySem.W.clsIn K C = some { name := nm, bases := bs, mro := .ref C :: bm, ns := N', qualname := q, hasDict := true, slotNames := sn, subclasses := sub, abstract := ab, collection := col, hasDel := false } := by unfold PySem.W.clsIn; rw [hCl] <;> rfl
  have hal : PySem.W.alongIn K "__init__" bm = some (some (.builtin "ValueError.__init__")) := by
    have z := Z.up
    unfold PySem.W.ks_superIn at z
    rw [hcl, Option.bind_some] at z
    dsimp only at z
    rw [ESX.drop_own] at z
    exact z
  have hint : interactive (envF ⟨name, qual, params, .Expr (.Call (.Attribute (.Call (.Name "super" p0) [] [] p1) "__init__" p2) [.Constant (.str txt) kd pc] [] p3) p4 :: rest, scope, [("__class__", cc)], cda⟩ f s.heap.objs.size) = false := by
    unfold interactive
    rw [hk]
    rfl
  refine PySem.ks_wpAt_execs_cons (PySem.ks_wpAt_Expr_any (PySem.ks_wpAt_MethodCall (pl := do return (← importBound (.Call (.Name "super" p0) [] [] p1) (envF ⟨name, qual, params, .Expr (.Call (.Attribute (.Call (.Name "super" p0) [] [] p1) "__init__" p2) [.Constant (.str txt) kd pc] [] p3) p4 :: rest, scope, [("__class__", cc)], cda⟩ f s.heap.objs.size)).getD true) ?_ (mc_eq hpos)) hint (by first | rfl | (unfold swapsWith; rfl)))
  refine PySem.ks_wpAt_super_base (fd := (PySem.W.fnX name qual params (.Expr (.Call (.Attribute (.Call (.Name "super" p0) [] [] p1) "__init__" p2) [.Constant (.str txt) kd pc] [] p3) p4 :: rest) scope [("__class__", cc)] dV kV doc pm an (.ref cda) ct)) hks (S.frk "__class__" (by simp)) (by decide) rfl (hk₁ _ _ (KX _ _ lk)) rfl hp rfl (hk₁ _ _ (KX _ _ hcode)) rfl hvs hfile Z.top ?_
  obtain ⟨mb, hb1, hb2⟩ := e0.mod.blt
  have bk : ∀ b o, base.get? b = some o → h₁.get? b = some o := fun b o e => hk₁ _ _ (e0.bs b o e).1
  refine PySem.W.ks_loadName_global S.kind hks (Calls.loadGlobal_builtin (e0.mod.glob.keeps bk) hsup (hb1.keeps bk) ((hb2 _ (by decide +kernel)).trans (by first | rfl | kernel_rfl | decide +kernel)) ⟨rfl, ?_⟩)
  refine wpAny_loadName_free S.kind (S.frk "__class__" (by simp)) (c := cc) (v := .ref C) (by rfl) ⟨_, hk₁ _ _ (KX _ _ hcell), rfl⟩ ?_
  subst ev
  obtain ⟨u0, ur, rfl, ru, rur⟩ : ∃ u0 ur, us = u0 :: ur ∧ RelV (.ref a) u0 ∧ Vals ws ur := by
    cases r with
    | cons ra rr => exact ⟨_, _, rfl, ra, rr⟩
  obtain rfl : u0 = Value.ref a := ru
  obtain ⟨psr, hps'⟩ := head_split hps
  have hself : (ps.zip (Value.ref a :: ur)).reverse.lookup ar.arg = some (.ref a) := zip_look (i := 0) nodeNd (by rw [hps']; rfl) rfl
  refine wpAny_loadName_local S.kind (S.par ar.arg (by rw [hps']; simp)) hns hself ?_
  obtain ⟨t1, hoe⟩ := exo_at I.hok ea
  have hoe : h₁.get? a = some ({ cls := .ref C, dict := none, data := .fields #[.ref t1, .none, .none, .none, .bool false, .none] } : Obj) := hoe
  have XK : K.In h₁ := KX.keeps hk₁
  have hCg := XK _ _ hCl
  have naC : a ≠ C := fun z => by
    rw [z, hCg] at hoe
    cases hoe
  refine ks_wpAny_isType_cls hCg rfl ⟨rfl, ?_⟩
  refine ks_wpAny_call_super hCg rfl hoe rfl (fun c z => by cases z) (PySem.W.looks_mroIn XK Z.self) (fun h2 hso k2 => ?_)
  have I2 := I.kept (t' := s.toks + (ps.zip (Value.ref a :: ur)).length) (h' := h2) k2
  have XK2 : K.In h2 := XK.keeps k2
  have hI : PySem.W.Looks (model P w) h2 (isInstance (.ref a) (.type "ValueError")) true := (show PySem.W.InstAt h2 a _ C none from ⟨k2 _ _ hoe, rfl, rfl, trivial⟩).type.andThen (PySem.W.looks_subIn XK2 Z.ve)
  refine PySem.W.kxs_getMethod PySem.W.kxs_ValueError hso (PySem.W.looks_opaque XK2 Z.opq) (l₀ := .ref C :: bm) ((PySem.W.looks_clsIn XK2 hcl).andThen .now) (ESX.drop_own C bm) XK2 hal hI naC (by decide) ?_
  have I3 := I2.kept (t' := s.toks + (ps.zip (Value.ref a :: ur)).length + 1) (h' := h2.push (PySem.W.kxs_mw "ValueError.__init__" a)) (fun b o e => Heap.get?_push_of_some _ e)
  have hmw : (h2.push (PySem.W.kxs_mw "ValueError.__init__" a)).get? h2.objs.size = some (PySem.W.kxs_mw "ValueError.__init__" a) := Heap.get?_push_at rfl rfl
  have nmw : H h2.objs.size = none := I2.hok.fresh (Nat.le_refl _)
  have lt2 : ∀ {b : Addr} {o : Obj}, h2.get? b = some o → b ≠ h2.objs.size := fun {b o} e => Nat.ne_of_lt (Heap.lt_size e)
  have I4 := I3.pins_of (pins' := [(h2.objs.size, PySem.W.kxs_mw "ValueError.__init__" a)]) fun p hp => by
    obtain rfl := List.mem_singleton.mp hp
    refine ⟨hmw, nmw, fun z => ?_, fun z => ?_, fun v z => by cases z⟩
    · obtain ⟨m, ⟨oL, _, _, hoL, _⟩, _⟩ := I2.loc
      exact lt2 hoL z.symm
    · obtain ⟨_, oL, hoL, _⟩ := I.ok.funs.mem z
      have e1 := hk₁ _ _ hoL
      exact lt2 (k2 _ _ e1) rfl
  refine PySem.W.kxs_callWith (i := "ValueError.__init__") (x := a) rfl ?_
  refine PySem.Calls.evalArgs_plain ?_
  refine thn ((pa_cons (pe_str (x := txt) (j := kd) (pos := pc)) pa_nil).run p3 _ _ _ H (fun vs H1 => H1 = H ∧ vs = [.str txt]) I4 ⟨rfl, rfl⟩) fun us1 s5 ⟨vs5, H5, I5, r5, hH, hvs5⟩ => ?_
  subst hH hvs5
  obtain ⟨hmw5, _⟩ := I5.pin (h2.objs.size, PySem.W.kxs_mw "ValueError.__init__" a) (List.mem_append_right _ (List.mem_singleton.mpr rfl))
  refine ⟨hmw5, ?_⟩
  have hlen : us1.length ≤ sizeLine := by
    rw [← Paired.length r5, sizeLine_eq]
    show 1 ≤ _
    omega
  obtain ⟨t5, hoe5⟩ := exo_at I5.hok ea
  have I5' := I5
  obtain ⟨hp5, g5, d5, tk5, os5⟩ := s5
  refine call_mwV (I5.kIn _ _ hCl) hoe5 hmw5 hlen fun h6 t6 k6 hx6 => ?_
  have J := I5'.pins_of (pins' := []) (fun p hp => by cases hp) |>.write (t' := tk5) (x := a) (e := a) (o := exo a C none) (by rw [ea]; exact True.intro) (.inl rfl) k6 ⟨_, hx6⟩ (exo_ok hx6)
  have eu : upd H5 a (exo a C none) = H5 := by
    funext b
    by_cases hb : b = a
    · rw [hb, upd_same, ea]
    · rw [upd_ne hb]
  rw [eu] at J
  refine wpAt_of_wpAny ?_
  refine wpAny_mono (ht.run [] _ _ H5 _ J hq) (fun fl s' hs' => ?_) fun e s' hs' => hs'
  have fin : ∀ {σ' : L2.St} {H' : Hp} {v : V} {u : Value}, Inv (ncx CX P w K mg base N ⟨name, qual, params, .Expr (.Call (.Attribute (.Call (.Name "super" p0) [] [] p1) "__init__" p2) [.Constant (.str txt) kd pc] [] p3) p4 :: rest, scope, [("__class__", cc)], cda⟩ f A outer s H5 E) [] σ' H' s' → RelV v u → Q v H' → CE outer P w H5 s Q u s' :=
    fun {σ' H' v u} J rv q => ⟨v, H', J.os, J.bare, J.base, J.hok, rv, q⟩
  cases fl with
  | ret u =>
    obtain ⟨v, σ', H', J, rv, q⟩ := hs'
    exact fin J rv q
  | next =>
    obtain ⟨σ', H', J, q⟩ := hs'
    exact fin (v := V.non) (u := Value.none) J rfl q
  | brk =>
    obtain ⟨_, _, _, q⟩ := hs'
    exact False.elim q
  | cont =>
    obtain ⟨_, _, _, q⟩ := hs'
    exact False.elim q
/-- the promise of an own error's __init__ with one or two fields -/
def spX1 (K : PySem.W.Frag) (C : Addr) (f1 : Str) : Sp := fun vs H Q _ => ∃ (a : Addr) (y : V), vs = [.ref a, y] ∧ H a = some (exo a C none) ∧
  ∀ dx, H dx = none → dx ≠ a → Q .non (upd (upd H dx (exd dx [(f1, y)])) a (exo a C (some dx)))
def spX2 (K : PySem.W.Frag) (C : Addr) (f1 f2 : Str) : Sp := fun vs H Q _ => ∃ (a : Addr) (y z : V), vs = [.ref a, y, z] ∧ H a = some (exo a C none) ∧
  ∀ dx, H dx = none → dx ≠ a → Q .non (upd (upd (upd H dx (exd dx [(f1, y)])) a (exo a C (some dx))) dx (exd dx [(f2, z), (f1, y)]))
/-- C(e): an own error with one field -/
def tMkX1 (C : Addr) (f1 : Str) (ta : TA) : L2.St → Hp → XK → Prop := fun σ H Q => ta σ H fun vs H1 => ∃ y, vs = [y] ∧ ∀ d, H1 d = none → Q (.ref C) (some d) (upd H1 d (.xd [(f1, y)]))
def tMkX2 (C : Addr) (f1 f2 : Str) (ta : TA) : L2.St → Hp → XK → Prop := fun σ H Q => ta σ H fun vs H1 => ∃ y z, vs = [y, z] ∧ ∀ d, H1 d = none → Q (.ref C) (some d) (upd H1 d (.xd [(f2, z), (f1, y)]))
def taM (ta : TA) : TA := fun σ H Q => ∃ Q', ta σ H Q' ∧ ∀ vs H1, Q' vs H1 → Q vs H1
theorem pa_mono {X : Cx} {es : List Expr} {ta : TA} (h : PA X es ta) : PA X es (taM ta) :=
  ⟨fun pos pins s σ H Q I ⟨Q', h1, h2⟩ => thn (h.run pos pins s σ H Q' I h1) fun us s' ⟨vs, H', I', r, q⟩ => ⟨vs, H', I', r, h2 _ _ q⟩⟩
theorem mk1_of {C : Addr} {f1 : Str} {ta : TA} {K : PySem.W.Frag} {σ : L2.St} {H : Hp} {Q : XK} (h : tMkX1 C f1 ta σ H Q) : tMkO C (spX1 K C f1) [] (taM ta) σ H Q := by
  refine ⟨_, h, fun vs H1 => ?_⟩
  rintro ⟨y, rfl, q⟩
  refine ⟨by show 1 ≤ 1000; decide, fun a ha => ⟨a, y, rfl, upd_same, fun dx hdx hne => ⟨rfl, dx, [(f1, y)], upd_same, by rw [upd_ne hne, upd_same], by rw [upd_ne hne] at hdx; exact hdx, ?_⟩⟩⟩
  have e : upd (del (upd (upd (upd H1 a (exo a C none)) dx (exd dx [(f1, y)])) a (exo a C (some dx))) a) dx (.xd [(f1, y)]) = upd H1 dx (.xd [(f1, y)]) := by
    funext b
    by_cases hb : b = dx
    · rw [hb, upd_same, upd_same]
    · rw [upd_ne hb, upd_ne hb]
      by_cases hba : b = a
      · rw [hba, del_same, ha]
      · rw [del_ne hba, upd_ne hba, upd_ne hb, upd_ne hba]
  rw [e]
  exact q dx (by rw [upd_ne hne] at hdx; exact hdx)
theorem mk2_of {C : Addr} {f1 f2 : Str} {ta : TA} {K : PySem.W.Frag} {σ : L2.St} {H : Hp} {Q : XK} (h : tMkX2 C f1 f2 ta σ H Q) : tMkO C (spX2 K C f1 f2) [] (taM ta) σ H Q := by
  refine ⟨_, h, fun vs H1 => ?_⟩
  rintro ⟨y, z, rfl, q⟩
  refine ⟨by show 2 ≤ 1000; decide, fun a ha => ⟨a, y, z, rfl, upd_same, fun dx hdx hne => ⟨rfl, dx, [(f2, z), (f1, y)], by rw [upd_ne hne.symm, upd_same], upd_same, by rw [upd_ne hne] at hdx; exact hdx, ?_⟩⟩⟩
  have e : upd (del (upd (upd (upd (upd H1 a (exo a C none)) dx (exd dx [(f1, y)])) a (exo a C (some dx))) dx (exd dx [(f2, z), (f1, y)])) a) dx (.xd [(f2, z), (f1, y)]) = upd H1 dx (.xd [(f2, z), (f1, y)]) := by
    funext b
    by_cases hb : b = dx
    · rw [hb, upd_same, upd_same]
    · rw [upd_ne hb, upd_ne hb]
      by_cases hba : b = a
      · rw [hba, del_same, ha]
      · rw [del_ne hba, upd_ne hb, upd_ne hba, upd_ne hb, upd_ne hba]
  rw [e]
  exact q dx (by rw [upd_ne hne] at hdx; exact hdx)
/-- an own error's class that is called by the name x: one field f1 -/
structure Xcl1 (P : Program) (w : World) (K : PySem.W.Frag) (mg : Str → Option Value) (base : Heap) (k : Nat) (x : Str) (C : Addr) (f1 : Str) : Prop where
  ex : ∃ (fI : Addr) (fd : FuncData) (ps : List Str), FnOk P w K mg base CX0 k fI fd ps (spX1 K C f1) ∧ PySem.W.findIn K (.ref C) "__init__" = some (some (.ref fI)) ∧ PySem.W.typeIn K (.ref fI) = some (.type "function") ∧ Binds K fd ps []
  T : OexC K C
  gl : mg x = some (.ref C)
structure Xcl2 (P : Program) (w : World) (K : PySem.W.Frag) (mg : Str → Option Value) (base : Heap) (k : Nat) (x : Str) (C : Addr) (f1 f2 : Str) : Prop where
  ex : ∃ (fI : Addr) (fd : FuncData) (ps : List Str), FnOk P w K mg base CX0 k fI fd ps (spX2 K C f1 f2) ∧ PySem.W.findIn K (.ref C) "__init__" = some (some (.ref fI)) ∧ PySem.W.typeIn K (.ref fI) = some (.type "function") ∧ Binds K fd ps []
  T : OexC K C
  gl : mg x = some (.ref C)
section
variable {X : Cx} {x : Str} {C : Addr} {f1 f2 : Str} {k j : Nat} {e : Expr} {es : List Expr} {ta : TA} {p pos : Pos}
theorem pmk_x1 (c : Xcl1 X.prog X.w X.K X.mg X.base k x C f1) (hr : Room j X.A) (hk : k + 1 ≤ j) (hg : Gl X x) (ha : PA X (e :: es) ta) (hdb : (x == ("__debug__" : Str)) = false := by decide) (he : starEach (e :: es) X.env = (false, eval e X.env) :: starEach es X.env := by rfl)
    (hpl : (backTo pos (starEach es X.env)).any (·.1) = false := by rfl) : PMk X (.Call (.Name x p) (e :: es) [] pos) (tMkX1 C f1 ta) := by
  obtain ⟨fI, fd, ps, F, iC, tI, b⟩ := c.ex
  intro pins s σ H Q I h
  exact pmk_oex c.T iC tI F (hr.mono hk) b .nil (fun _ _ _ _ _ _ _ h => False.elim h) hg c.gl (pa_mono ha) hdb he hpl pins s σ H Q I (mk1_of h)
theorem pmk_x2 (c : Xcl2 X.prog X.w X.K X.mg X.base k x C f1 f2) (hr : Room j X.A) (hk : k + 1 ≤ j) (hg : Gl X x) (ha : PA X (e :: es) ta) (hdb : (x == ("__debug__" : Str)) = false := by decide) (he : starEach (e :: es) X.env = (false, eval e X.env) :: starEach es X.env := by rfl)
    (hpl : (backTo pos (starEach es X.env)).any (·.1) = false := by rfl) : PMk X (.Call (.Name x p) (e :: es) [] pos) (tMkX2 C f1 f2 ta) := by
  obtain ⟨fI, fd, ps, F, iC, tI, b⟩ := c.ex
  intro pins s σ H Q I h
  exact pmk_oex c.T iC tI F (hr.mono hk) b .nil (fun _ _ _ _ _ _ _ h => False.elim h) hg c.gl (pa_mono ha) hdb he hpl pins s σ H Q I (mk2_of h)
end
/-- the facts of an own error's __init__ of one field, as the written part says them -/
theorem fn_x1 {P : Program} {w : World} {K : PySem.W.Frag} {mg : Str → Option Value} {base : Heap} {f : Addr} {name qual fld arg1 : Str} {params : Arguments} {scope : Scope} {dV kV doc pm ct oc : Value} {an od : Option Addr} {cc cda C : Addr}
    {osl : Array (Option Value)} {p0 p1 p2 p3 p4 pc q1 q2 q3 q4 : Pos} {txt : Str} {kd : Nat} {ar : Arg}
    (lk : K.lookup f = some ⟨oc, od, .func (PySem.W.fnX name qual params [.Expr (.Call (.Attribute (.Call (.Name "super" p0) [] [] p1) "__init__" p2) [.Constant (.str txt) kd pc] [] p3) p4, .Assign [.Attribute (.Name "self" q1) fld q2] (.Name arg1 q3) q4] scope [("__class__", cc)] dV kV doc pm an (.ref cda) ct), osl⟩)
    (hcd : PySem.W.codeIn K (.ref cda) qual = true) (S : NScope ["self", arg1, "__class__"] ["self", arg1] ["__class__"] scope) (Z : InT P K C cc cda) (hsup : mg "super" = none) (hno : PySem.W.findIn K (.ref C) fld = some none)
    (hks : scope.names.lookup ("super" : Str) = some .globalImplicit) (hp : (params.posonlyargs ++ params.args).head? = some ar) (hps : ar.arg = "self") (hpos : (p2.endLine == p3.line) = true) (hdb : (arg1 == ("__debug__" : Str)) = false) (hcdb : (arg1 == ("__classdict__" : Str)) = false) :
    FnOk P w K mg base CX0 1 f (PySem.W.fnX name qual params [.Expr (.Call (.Attribute (.Call (.Name "super" p0) [] [] p1) "__init__" p2) [.Constant (.str txt) kd pc] [] p3) p4, .Assign [.Attribute (.Name "self" q1) fld q2] (.Name arg1 q3) q4] scope [("__class__", cc)] dV kV doc pm an (.ref cda) ct) ["self", arg1] (spX1 K C fld) := by
  refine fn_exc lk hcd S Z hsup hks hp (by rw [hps]; rfl) hpos (fun vs H Q E h => ?_) (fun vs H Q E h => ?_) (fun A outer s H vs Q E h => ?_)
  · obtain ⟨a, y, rfl, _⟩ := h
    rfl
  · obtain ⟨a, y, rfl, ea, _⟩ := h
    exact ⟨a, [y], rfl, ea⟩
  · obtain ⟨a, y, rfl, ea, q⟩ := h
    refine ⟨_, pss_one (ps_ost (pe_var (i := 0) rfl (Or.inl (S.par "self" (by simp)))) (pe_var (i := 1) rfl (Or.inl (S.par arg1 (by simp))) hdb hcdb) rfl), ?_⟩
    refine ⟨y, rfl, .ref a, rfl, a, C, rfl, Z.T, hno, .inl ⟨ea, fun dx hd hn => ?_⟩⟩
    exact q dx hd hn
theorem fn_x2 {P : Program} {w : World} {K : PySem.W.Frag} {mg : Str → Option Value} {base : Heap} {f : Addr} {name qual fld fld2 arg1 arg2 : Str} {params : Arguments} {scope : Scope} {dV kV doc pm ct oc : Value} {an od : Option Addr} {cc cda C : Addr}
    {osl : Array (Option Value)} {p0 p1 p2 p3 p4 pc q1 q2 q3 q4 r1 r2 r3 r4 : Pos} {txt : Str} {kd : Nat} {ar : Arg}
    (lk : K.lookup f = some ⟨oc, od, .func (PySem.W.fnX name qual params [.Expr (.Call (.Attribute (.Call (.Name "super" p0) [] [] p1) "__init__" p2) [.Constant (.str txt) kd pc] [] p3) p4, .Assign [.Attribute (.Name "self" q1) fld q2] (.Name arg1 q3) q4, .Assign [.Attribute (.Name "self" r1) fld2 r2] (.Name arg2 r3) r4] scope [("__class__", cc)] dV kV doc pm an (.ref cda) ct), osl⟩)
    (hcd : PySem.W.codeIn K (.ref cda) qual = true) (S : NScope ["self", arg1, arg2, "__class__"] ["self", arg1, arg2] ["__class__"] scope) (Z : InT P K C cc cda) (hsup : mg "super" = none) (hno : PySem.W.findIn K (.ref C) fld = some none) (hno2 : PySem.W.findIn K (.ref C) fld2 = some none)
    (hks : scope.names.lookup ("super" : Str) = some .globalImplicit) (hp : (params.posonlyargs ++ params.args).head? = some ar) (hps : ar.arg = "self") (hpos : (p2.endLine == p3.line) = true) (hdb : (arg1 == ("__debug__" : Str)) = false) (hcdb : (arg1 == ("__classdict__" : Str)) = false) (hdb2 : (arg2 == ("__debug__" : Str)) = false) (hcdb2 : (arg2 == ("__classdict__" : Str)) = false) :
    FnOk P w K mg base CX0 1 f (PySem.W.fnX name qual params [.Expr (.Call (.Attribute (.Call (.Name "super" p0) [] [] p1) "__init__" p2) [.Constant (.str txt) kd pc] [] p3) p4, .Assign [.Attribute (.Name "self" q1) fld q2] (.Name arg1 q3) q4, .Assign [.Attribute (.Name "self" r1) fld2 r2] (.Name arg2 r3) r4] scope [("__class__", cc)] dV kV doc pm an (.ref cda) ct) ["self", arg1, arg2] (spX2 K C fld fld2) := by
  refine fn_exc lk hcd S Z hsup hks hp (by rw [hps]; rfl) hpos (fun vs H Q E h => ?_) (fun vs H Q E h => ?_) (fun A outer s H vs Q E h => ?_)
  · obtain ⟨a, y, z, rfl, _⟩ := h
    rfl
  · obtain ⟨a, y, z, rfl, ea, _⟩ := h
    exact ⟨a, [y, z], rfl, ea⟩
  · obtain ⟨a, y, z, rfl, ea, q⟩ := h
    refine ⟨_, pss_cons (ps_ost (pe_var (i := 0) rfl (Or.inl (S.par "self" (by simp)))) (pe_var (i := 1) rfl (Or.inl (S.par arg1 (by simp))) hdb hcdb) rfl) (pss_one (ps_ost (pe_var (i := 0) rfl (Or.inl (S.par "self" (by simp)))) (pe_var (i := 2) rfl (Or.inl (S.par arg2 (by simp))) hdb2 hcdb2) rfl)), ?_⟩
    refine ⟨y, rfl, .ref a, rfl, a, C, rfl, Z.T, hno, .inl ⟨ea, fun dx hd hn => ?_⟩⟩
    exact ⟨z, rfl, .ref a, rfl, a, C, rfl, Z.T, hno2, .inr ⟨dx, _, upd_same, by rw [upd_ne hn, upd_same], by show 1 ≤ 900; decide, q dx hd hn⟩⟩
/-! ### isinstance of a caught own error that has a dict -/
structure IsT (K : PySem.W.Frag) (D : Addr) : Prop where
  cl : (PySem.W.clsIn K D).isSome = true
  hg : PySem.W.findIn K (.ref D) "__getattribute__" = some (some (.builtin "BaseException.__getattribute__"))
  hk : PySem.W.findIn K (.ref D) "__getattr__" = some none
  hs : PySem.W.subIn K (.ref D) (.type "BaseException") = some true
  ha : PySem.W.findIn K (.ref D) "__class__" = some (some (.builtin "object.__class__"))
  hn : PySem.W.specialIn K (.builtin "object.__class__") "__get__" = some (some (.builtin "getset_descriptor.__get__"))
  ht : PySem.W.takesIn K (.builtin "object.__class__") = some true
  hm : PySem.W.mroIn K D (.type "object") = some true
/-- isinstance(e, c) -/
def rIsX (K : PySem.W.Frag) (D a d : Addr) : List V → Hp → VK → Prop := fun xs H Q => ∃ (c : V) (cv : Value) (b : Bool) (fs : List (Str × V)), xs = [.ref a, c] ∧ H d = some (.xd fs) ∧ (∀ u, RelV c u → u = cv) ∧ PySem.W.kitOne K (.ref D) cv = some b ∧ Q (.bl b) H
/-- isinstance(e, (c1, ..)) -/
def rIsXT (K : PySem.W.Frag) (D a d : Addr) : List V → Hp → VK → Prop := fun xs H Q => ∃ (tp : Addr) (cs : List V) (ws : List Value) (b : Bool) (fs : List (Str × V)), xs = [.ref a, .ref tp] ∧ H tp = some (.tup cs) ∧ H d = some (.xd fs) ∧ (∀ us, Vals cs us → us = ws) ∧ PySem.W.kitAny K (.ref D) ws = some b ∧ Q (.bl b) H
section
variable {X : Cx} {a D d : Addr} {oe : Obj} {pn : List (Addr × Obj)}
theorem inst_of {pins : List (Addr × Obj)} {σ : L2.St} {H : Hp} {s : Shared} {fs : List (Str × V)} (hz : Zc (.ref D) (some d) oe) (hf : ∃ vs, oe.data = .fields vs) (I : Inv (X.suite a ((a, oe) :: pn)) pins σ H s) (hd : H d = some (.xd fs)) : ∃ od, PySem.W.InstAt s.heap a oe D (some od) := by
  obtain ⟨hget, _⟩ := I.pin (a, oe) (List.mem_append.mpr (.inl List.mem_cons_self))
  obtain ⟨vs, hv⟩ := hf
  have hx : ObjOk X.prog X.w H s.heap d (.xd fs) := I.hok d _ hd
  obtain ⟨mA, ⟨od, es, ep, hod, hr⟩, _⟩ := hx
  refine ⟨od, ?_⟩
  obtain ⟨oc, odd, oda, osl⟩ := oe
  obtain ⟨h1, h2⟩ := hz
  dsimp only at h1 h2 hv
  subst h1 h2 hv
  exact ⟨hget, rfl, rfl, hod⟩
theorem call_isX (C : IsT X.K D) (hz : Zc (.ref D) (some d) oe) (hf : ∃ vs, oe.data = .fields vs) : CallR (X.suite a ((a, oe) :: pn)) (.builtin "isinstance") (rIsX X.K D a d) := by
  intro pins s σ H xs us Q I r h
  obtain ⟨c, cv, b, fs, rfl, hd, hcv, e, q⟩ := h
  obtain ⟨od, J⟩ := inst_of hz hf I hd
  cases r with
  | cons rx rr =>
    cases rr with
    | cons rt rr =>
      cases rr
      cases rx
      have ec := hcv _ rt
      subst ec
      exact PySem.W.kia_one (PySem.W.kitx_exc C.cl C.hg C.hk C.hs C.ha C.hn C.ht C.hm) I.kIn J e (fun z => nomatch z) fun tk => ⟨.bl b, H, I.kept (t' := tk) fun _ _ z => z, rfl, q⟩
theorem call_isXT (C : IsT X.K D) (hz : Zc (.ref D) (some d) oe) (hf : ∃ vs, oe.data = .fields vs) : CallR (X.suite a ((a, oe) :: pn)) (.builtin "isinstance") (rIsXT X.K D a d) := by
  intro pins s σ H xs us Q I r h
  obtain ⟨tp, cs, ws, b, fs, rfl, hT, hd, hcv, e, q⟩ := h
  obtain ⟨od, J⟩ := inst_of hz hf I hd
  cases r with
  | cons rx rr =>
    cases rr with
    | cons rt rr =>
      cases rr
      cases rx
      cases rt
      obtain ⟨_, its, rv, o, h1, h2, n, h3⟩ := (show ObjOk X.prog X.w H s.heap tp (.tup cs) from I.hok tp _ hT)
      have e3 := hcv _ rv
      subst e3
      obtain ⟨oc, od', dt, sl⟩ := o
      simp only at h2 h3
      subst h2 h3
      exact PySem.W.kia_tup (PySem.W.kitx_exc C.cl C.hg C.hk C.hs C.ha C.hn C.ht C.hm) I.kIn J h1 e (fun z => nomatch z) fun tk => ⟨.bl b, H, I.kept (t' := tk) fun _ _ z => z, rfl, q⟩
end
end EX2

/-! ### defs that may raise, try, the suite of an except -/
namespace Jp
open PySem PySem.Spec PyProof.Rows L2
structure Clx (P : Program) (w : World) (K : PySem.W.Frag) (mg : Str → Option Value) (base : Heap) (k : Nat) (x : Str) (sp : Sp) : Prop where
  ex : ∃ (f : Addr) (fd : FuncData) (ps : List Str), FnOk P w K mg base (L2.CX P w) k f fd ps sp ∧ mg x = some (.ref f) ∧ PySem.W.keepIn K (.ref f) = true ∧ Binds K fd ps []
structure Mtx (P : Program) (w : World) (K : PySem.W.Frag) (mg : Str → Option Value) (base : Heap) (k : Nat) (C : Addr) (m : Str) (sp : Sp) : Prop where
  ex : ∃ (f : Addr) (fd : FuncData) (ps : List Str), FnOk P w K mg base (L2.CX P w) k f fd ps sp ∧ Meth K C m f ∧ Binds K fd ps []
section
variable {P : Program} {w : World} {K : PySem.W.Frag} {mg : Str → Option Value} {base : Heap}
theorem Df.okX {x : Str} {st : Stmt} {f : Addr} {fd : FuncData} {ps N : List Str} {k : Nat} {sp : Sp} (F : Df K mg x st f fd ps) (S : FnScope N ps (defScope st)) (len : ∀ vs H Q E, sp vs H Q E → vs.length = ps.length)
    (hbody : ∀ (cdv : Value) (A : Around) (outer : List Env) (s : Shared) (H : Hp) (vs : List V) (Q : VK) (E : XK), Room k (A.deeper (envOfC x (defScope st) s.heap.objs.size f cdv)) → sp vs H Q E →
      ∃ t, PSs (cxOf (L2.CX P w) P w K mg base N x (defScope st) f cdv A outer s H E) (defBody st) t ∧ t { nx := fun _ H' => Q .non H', rt := Q } (start N vs) H) : FnOk P w K mg base (L2.CX P w) (k + 1) f fd ps sp :=
  F.fn.okX S len hbody
theorem Dm.okX {C : Addr} {x q : Str} {st : Stmt} {f : Addr} {fd : FuncData} {ps N : List Str} {k : Nat} {sp : Sp} (F : Dm K C x q st f fd ps) (S : FnScope N ps (defScope st)) (len : ∀ vs H Q E, sp vs H Q E → vs.length = ps.length)
    (hbody : ∀ (cdv : Value) (A : Around) (outer : List Env) (s : Shared) (H : Hp) (vs : List V) (Q : VK) (E : XK), Room k (A.deeper (envOfC q (defScope st) s.heap.objs.size f cdv)) → sp vs H Q E →
      ∃ t, PSs (cxOf (L2.CX P w) P w K mg base N q (defScope st) f cdv A outer s H E) (defBody st) t ∧ t { nx := fun _ H' => Q .non H', rt := Q } (start N vs) H) : FnOk P w K mg base (L2.CX P w) (k + 1) f fd ps sp :=
  F.fn.okX S len hbody
theorem Df.clx {x : Str} {st : Stmt} {f : Addr} {fd : FuncData} {ps : List Str} {k : Nat} {sp : Sp} (F : Df K mg x st f fd ps) (o : FnOk P w K mg base (L2.CX P w) k f fd ps sp) : Clx P w K mg base k x sp :=
  ⟨f, fd, ps, o, F.mgf, F.fn.kp, F.bi⟩
variable {X : Cx}
theorem pe_clx {x : Str} {sp : Sp} {j k : Nat} {e : Expr} {es : List Expr} {t : TA} {p pos : Pos} (c : Clx X.prog X.w X.K X.mg X.base k x sp) (hr : Room j X.A) (hk : k ≤ j) (hg : Gl X x) (ha : PA X (e :: es) t)
    (hdb : (x == ("__debug__" : Str)) = false := by decide) (he : starEach (e :: es) X.env = (false, eval e X.env) :: starEach es X.env := by rfl) (hpl : (backTo pos (starEach es X.env)).any (·.1) = false := by rfl) :
    PE X (.Call (.Name x p) (e :: es) [] pos) (tCall sp [] E0 t) := by
  obtain ⟨f, fd, ps, F, hm, kp, b⟩ := c.ex
  exact pe_call F (hr.mono hk) hg hm kp b .nil passL ha hdb he hpl
/-- in a try's body -/
theorem pe_clxS {W : WX} {x : Str} {sp : Sp} {j k : Nat} {e : Expr} {es : List Expr} {t : TA} {p pos : Pos} (c : Clx X.prog X.w X.K X.mg X.base k x sp) (tk : Takes X W) (hr : Room j X.A) (hk : k ≤ j) (hg : Gl X x) (ha : PA X (e :: es) t)
    (hdb : (x == ("__debug__" : Str)) = false := by decide) (he : starEach (e :: es) X.env = (false, eval e X.env) :: starEach es X.env := by rfl) (hpl : (backTo pos (starEach es X.env)).any (·.1) = false := by rfl) :
    PE X (.Call (.Name x p) (e :: es) [] pos) (tCallS sp (WE W) t) := by
  obtain ⟨f, fd, ps, F, hm, kp, b⟩ := c.ex
  exact pe_callS F (hr.mono hk) hg hm kp b (fun σ => passAt tk σ) ha hdb he hpl
/-- o.m(..) in a try's body -/
def tMethS (C : Addr) (m : Str) (sp : Sp) (E : L2.St → XK) (ta : TE) (t : TA) : TE := fun σ H Q => ta σ H fun x H1 => ∃ a dx fs, x = .ref a ∧ H1 a = some (.ins C dx fs) ∧ fs.lookup m = none ∧ t σ H1 fun vs H2 => sp (x :: vs) H2 Q (E σ)
theorem pe_mtx {pl : Sem Bool} {C : Addr} {m : Str} {sp : Sp} {j k : Nat} {o e : Expr} {es : List Expr} {ta : TE} {t : TA} {apos pos : Pos} (c : Mtx X.prog X.w X.K X.mg X.base k C m sp) (cl : Cls X.K C) (hr : Room j X.A) (hk : k ≤ j) (he : PE X o ta) (ha : PA X (e :: es) t)
    (hst : starEach (e :: es) X.env = (false, eval e X.env) :: starEach es X.env := by rfl) (hpl : (backTo pos (starEach es X.env)).any (·.1) = false := by rfl)
    (ht : eval (.Call (.Attribute o m apos) (e :: es) [] pos) X.env = (do
      let ov ← eval o X.env
      standAt apos.atName
      let (f, first) ← holding [ov] (getMethod ov m pl)
      callWith pos f first (backTo pos (starEach (e :: es) X.env)) (backToKw pos (keywordEach [] X.env))) := by rfl) : PE X (.Call (.Attribute o m apos) (e :: es) [] pos) (tMeth C m sp [] E0 ta t) := by
  obtain ⟨f, fd, ps, F, hm, b⟩ := c.ex
  exact pe_meth he cl hm F (hr.mono hk) b .nil passL ha hst hpl ht
theorem pe_mtxS {W : WX} {pl : Sem Bool} {C : Addr} {m : Str} {sp : Sp} {j k : Nat} {o e : Expr} {es : List Expr} {ta : TE} {t : TA} {apos pos : Pos} (c : Mtx X.prog X.w X.K X.mg X.base k C m sp) (cl : Cls X.K C) (tk : Takes X W) (hr : Room j X.A) (hk : k ≤ j) (he : PE X o ta) (ha : PA X (e :: es) t)
    (hst : starEach (e :: es) X.env = (false, eval e X.env) :: starEach es X.env := by rfl) (hpl : (backTo pos (starEach es X.env)).any (·.1) = false := by rfl)
    (ht : eval (.Call (.Attribute o m apos) (e :: es) [] pos) X.env = (do
      let ov ← eval o X.env
      standAt apos.atName
      let (f, first) ← holding [ov] (getMethod ov m pl)
      callWith pos f first (backTo pos (starEach (e :: es) X.env)) (backToKw pos (keywordEach [] X.env))) := by rfl) : PE X (.Call (.Attribute o m apos) (e :: es) [] pos) (tMethS C m sp (WE W) ta t) := by
  obtain ⟨f, fd, ps, F, hm, b⟩ := c.ex
  refine ⟨fun pins s σ H Q I h => ?_⟩
  refine PySem.W.methodCall_KW (pl := pl) (thn (he.run pins s σ H _ I h) fun u s1 ⟨x, H1, I1, rx, a, dx, fs, ex, ea, l, q⟩ => ?_) ht
  subst ex
  obtain rfl : u = Value.ref a := rx
  refine getmeth_ok I1 ea cl hm l ?_
  refine PySem.W.callWith_K (first := [.ref a]) (h₀ := X.base) I.ok.mod.kin hm.kp (thn (ha.run pos pins s1 σ H1 _ I1 q) fun us s2 ⟨vs, H2, I2, r, q2⟩ => ⟨I2.kIn, ?_⟩) hst hpl
  exact run_fnS (us := .ref a :: us) (vs := .ref a :: vs) F (hr.mono hk) b (fun pins H s e s' I c => passAt tk σ pins H s e s' I c) I2 (.cons rfl r) q2
theorem ps_nox {st : Stmt} {t : TS} (h : PS X.nox st t) : PS X st t := ⟨fun pins s σ H D I hw =>
  wpAny_mono (h.run pins s σ H D (I.wish _) hw) (fun _ _ q => q.unwish) fun _ _ z => False.elim z⟩
/-- raise C(..) -/
def tRaiseJ (t : L2.St → Hp → XK → Prop) (W : WX) : TS := fun _ σ H => t σ H fun cls d H' => W cls d σ H'
theorem ps_raiseJ {W : WX} {e : Expr} {t : L2.St → Hp → XK → Prop} {pos : Pos} (hc : X.calm = true) (tk : Takes X W) (he : PMk X e t) : PS X (.Raise (some e) none pos) (tRaiseJ t W) := ps_raise hc tk he
/-- try: .. except x as n: .. -/
def tTryJ (K : PySem.W.Frag) (c : Value) (i : Nat) (tb : WX → TS) (ts : Addr → Value → Option Addr → TS) : TS := fun D σ H => tb (wAs K c i ts (fun _ _ _ _ => False) D) D σ H
theorem ps_tryJ {x n : Str} {c : Value} {i : Nat} {body suite : List Stmt} {b₀ : Stmt} {np pos pos' : Pos} {tb : WX → TS} {ts : Addr → Value → Option Addr → TS} (hs : X.stack = X.env :: X.outer) (hf : X.env.frame = some X.env.locals) (hN : X.N.Nodup) (hi : X.N[i]? = some n) (hln : X.env.kindOf n = some .local) (hc : Names X x c)
    (hb : ∀ (W : WX) (pn : List (Addr × Obj)) (xe : Value → Shared → Prop), Takes (X.tr pn xe) W → PassesOwn (model X.prog X.w) X.A X.env xe → PSs (X.tr pn xe) body (tb W))
    (hsu : ∀ (a : Addr) (oe : Obj) (cls : Value) (d : Option Addr) (pn : List (Addr × Obj)), Zc cls d oe → (∃ vs, oe.data = .fields vs) → PSs (X.suite a ((a, oe) :: pn)) (b₀ :: suite) (ts a cls d)) :
    PS X (.Try body [.ExceptHandler (some (.Name x np)) (some n) (b₀ :: suite) pos'] [] [] pos) (tTryJ X.K c i tb ts) := ps_try_as hs hf hN hi hln hc takes0 hb hsu
section
variable {σ : L2.St} {H : Hp} {Q : VK}
theorem i_try {c : Value} {i : Nat} {tb : WX → TS} {ts : Addr → Value → Option Addr → TS} {D : Ends} (h : tb (wAs K c i ts (fun _ _ _ _ => False) D) D σ H) : tTryJ K c i tb ts D σ H := h
theorem i_callS {sp : Sp} {E : L2.St → XK} {t : TA} (h : t σ H fun vs H1 => sp vs H1 Q (E σ)) : tCallS sp E t σ H Q := h
theorem i_methS {C : Addr} {m : Str} {sp : Sp} {E : L2.St → XK} {ta : TE} {t : TA} (h : ta σ H fun x H1 => ∃ a dx fs, x = .ref a ∧ H1 a = some (.ins C dx fs) ∧ fs.lookup m = none ∧ t σ H1 fun vs H2 => sp (x :: vs) H2 Q (E σ)) : tMethS C m sp E ta t σ H Q := h
theorem i_raise {t : L2.St → Hp → XK → Prop} {W : WX} {D : Ends} (h : t σ H fun cls d H' => W cls d σ H') : tRaiseJ t W D σ H := h
theorem i_mkX1 {C : Addr} {f1 : Str} {ta : TA} {Q : XK} (h : ta σ H fun vs H1 => ∃ y, vs = [y] ∧ ∀ d, H1 d = none → Q (.ref C) (some d) (upd H1 d (.xd [(f1, y)]))) : EX2.tMkX1 C f1 ta σ H Q := h
theorem i_mkX2 {C : Addr} {f1 f2 : Str} {ta : TA} {Q : XK} (h : ta σ H fun vs H1 => ∃ y z, vs = [y, z] ∧ ∀ d, H1 d = none → Q (.ref C) (some d) (upd H1 d (.xd [(f2, z), (f1, y)]))) : EX2.tMkX2 C f1 f2 ta σ H Q := h
/-- the clause takes it -/
theorem caught {c : Value} {i : Nat} {ts : Addr → Value → Option Addr → TS} {D : Ends} {cls : Value} {d : Option Addr} {Wo : WX} (hm : PySem.W.exmOne K cls c = some true)
    (h : ∀ a, H a = none → ts a cls d { nx := fun σ' H' => D.nx (σ'.set i none) H', rt := D.rt, bk := fun σ' H' => D.bk (σ'.set i none) H', ct := fun σ' H' => D.ct (σ'.set i none) H' } (σ.set i (some (.ref a))) H) : WE (wAs K c i ts Wo D) σ cls d H :=
  ⟨true, hm, fun _ => h, fun z => Bool.noConfusion z⟩
/-- what is known of a class whose errors are caught -/
structure XcT (K : PySem.W.Frag) (D PE : Addr) : Prop where
  is : EX2.IsT K D
  hd : PySem.W.hasDictIn K D = true
  exm : PySem.W.exmOne K (.ref D) (.ref PE) = some true
theorem XcT.xf {D PE : Addr} (t : XcT K D PE) : XfC K D := ⟨t.is.hg, t.is.hk, t.is.hs, t.hd⟩
/-- isinstance in the suite, whatever the caught class -/
def rIsJ (K : PySem.W.Frag) (a : Addr) (cls : Value) (d : Option Addr) : List V → Hp → VK → Prop := fun xs H Q => ∃ D dd, cls = .ref D ∧ d = some dd ∧ EX2.IsT K D ∧ EX2.rIsX K D a dd xs H Q
def rIsTJ (K : PySem.W.Frag) (a : Addr) (cls : Value) (d : Option Addr) : List V → Hp → VK → Prop := fun xs H Q => ∃ D dd, cls = .ref D ∧ d = some dd ∧ EX2.IsT K D ∧ EX2.rIsXT K D a dd xs H Q
theorem call_isJ {a : Addr} {oe : Obj} {cls : Value} {d : Option Addr} {pn : List (Addr × Obj)} (hz : Zc cls d oe) (hf : ∃ vs, oe.data = .fields vs) : CallR (X.suite a ((a, oe) :: pn)) (.builtin "isinstance") (rIsJ X.K a cls d) := by
  intro pins s σ H xs us Q I r h
  obtain ⟨D, dd, rfl, rfl, C, h⟩ := h
  exact EX2.call_isX C hz hf pins s σ H xs us Q I r h
theorem call_isTJ {a : Addr} {oe : Obj} {cls : Value} {d : Option Addr} {pn : List (Addr × Obj)} (hz : Zc cls d oe) (hf : ∃ vs, oe.data = .fields vs) : CallR (X.suite a ((a, oe) :: pn)) (.builtin "isinstance") (rIsTJ X.K a cls d) := by
  intro pins s σ H xs us Q I r h
  obtain ⟨D, dd, rfl, rfl, C, h⟩ := h
  exact EX2.call_isXT C hz hf pins s σ H xs us Q I r h
/-- e.f in the suite -/
def tXfJ (K : PySem.W.Frag) (a : Addr) (cls : Value) (d : Option Addr) (f : Str) (te : TE) : TE := fun σ H Q => ∃ D, XfC K D ∧ PySem.W.findIn K (.ref D) f = some none ∧ tXf a cls d D f te σ H Q
theorem pe_xfJ {a : Addr} {oe : Obj} {cls : Value} {d : Option Addr} {pn : List (Addr × Obj)} {e : Expr} {te : TE} {pos : Pos} {n : Str} (hz : Zc cls d oe) (hf : ∃ vs, oe.data = .fields vs) (he : PE (X.suite a ((a, oe) :: pn)) e te) (hb : attributeBase e n X.env (eval e X.env) = eval e X.env := by rfl) :
    PE (X.suite a ((a, oe) :: pn)) (.Attribute e n pos) (tXfJ X.K a cls d n te) :=
  ⟨fun pins s σ H Q I ⟨D, T, hno, h⟩ => (pe_xf (X := X) (C := D) T hno hz hf he hb).run pins s σ H Q I h⟩
theorem i_xf {a D : Addr} {cls : Value} {d : Option Addr} {f : Str} {te : TE} (T : XfC K D) (hno : PySem.W.findIn K (.ref D) f = some none) (h : te σ H fun x H1 => x = .ref a ∧ cls = .ref D ∧ ∃ (dd : Addr) (fs : List (Str × V)) (v : V), d = some dd ∧ H1 dd = some (.xd fs) ∧ fs.lookup f = some v ∧ Q v H1) : tXfJ K a cls d f te σ H Q := ⟨D, T, hno, h⟩
/-- isinstance(e, C) is told by the kit's table -/
theorem i_isJ {D dd a C : Addr} {fs : List (Str × V)} {b : Bool} (I : EX2.IsT K D) (hd : H dd = some (.xd fs)) (k : PySem.W.kitOne K (.ref D) (.ref C) = some b) (q : Q (.bl b) H) : rIsJ K a (.ref D) (some dd) [.ref a, .ref C] H Q :=
  ⟨D, dd, rfl, rfl, I, .ref C, .ref C, b, fs, rfl, hd, fun u h => h, k, q⟩
theorem i_isJt {D dd a : Addr} {T : String} {fs : List (Str × V)} {b : Bool} (I : EX2.IsT K D) (hd : H dd = some (.xd fs)) (k : PySem.W.kitOne K (.ref D) (.type T) = some b) (q : Q (.bl b) H) : rIsJ K a (.ref D) (some dd) [.ref a, .ty T] H Q :=
  ⟨D, dd, rfl, rfl, I, .ty T, .type T, b, fs, rfl, hd, fun u h => h, k, q⟩
theorem vals_refs : ∀ {cs : List Addr} {us : List Value}, Vals (cs.map V.ref) us → us = cs.map Value.ref
  | [], _, .nil => rfl
  | c :: cs, _, .cons h r => by rw [vals_refs r]; exact congrArg (· :: _) h
theorem i_isTJ {D dd a tp : Addr} {cs : List Addr} {fs : List (Str × V)} {b : Bool} (I : EX2.IsT K D) (ht : H tp = some (.tup (cs.map V.ref))) (hd : H dd = some (.xd fs)) (k : PySem.W.kitAny K (.ref D) (cs.map Value.ref) = some b) (q : Q (.bl b) H) : rIsTJ K a (.ref D) (some dd) [.ref a, .ref tp] H Q :=
  ⟨D, dd, rfl, rfl, I, tp, cs.map V.ref, cs.map Value.ref, b, fs, rfl, ht, hd, fun us h => vals_refs h, k, q⟩
end
end
end Jp

/-! ### a def that is called within an except suite and raises nothing -/
namespace Jp
open PySem PySem.Spec PyProof.Rows L2 L2H
def cxHot (CX : CXT) (P : Program) (w : World) (K : PySem.W.Frag) (mg : Str → Option Value) (base : Heap) (N : List Str) (qual : Str) (scope : Scope) (f : Addr) (cd : Value) (A : Around) (outer : List Env) (s : Shared) (H : Hp) (E : XK) : Cx :=
  { cxOf CX P w K mg base N qual scope f cd A outer s H E with calm := false }
structure FnH0 (P : Program) (w : World) (K : PySem.W.Frag) (mg : Str → Option Value) (base : Heap) (k : Nat) (f : Addr) (fd : FuncData) (ps : List Str) (sp : Sp) : Prop where
  len : ∀ vs H Q E, sp vs H Q E → vs.length = ps.length
  run : ∀ (A : Around) (outer : List Env) (s : Shared) (H : Hp) (args : Args) (us : List Value) (vs : List V) (Q : VK) (E : XK), RoomH k A → Env0 P w K mg base A outer s H → BindsTo s fd args (ps.zip us) → Vals vs us → sp vs H Q E →
    codeAny (model P w) A (.call (.ref f) args) (CR CX0 outer P w H s Q E) s
theorem inv_calm {X Y : Cx} {pins : List (Addr × Obj)} {σ : L2.St} {H : Hp} {s : Shared} (I : Inv X pins σ H s) {A' : Around} {xe' : Value → Shared → Prop} (e : Y = { X with A := A', calm := false, xe := xe' }) (hf : A'.frames = some X.stack) : Inv Y pins σ H s := by
  subst e
  exact ⟨⟨I.ok.mod, I.ok.kind, I.ok.glob, I.ok.blt, I.ok.above, I.ok.inj, I.ok.has, I.ok.cab, (fun z => absurd (show false = true from z) Bool.false_ne_true), hf, I.ok.stk, I.ok.exf, I.ok.bs, I.ok.bsz, I.ok.noex, I.ok.exfs, I.ok.funs, I.ok.frf⟩,
    I.os, I.bare, I.base, I.loc, I.cell, I.free, I.freeC, I.pin, I.hok, I.len⟩
theorem fn_hot {P : Program} {w : World} {K : PySem.W.Frag} {mg : Str → Option Value} {base : Heap} {k : Nat} {f : Addr} {name qual : Str} {params : Arguments} {body : List Stmt} {scope : Scope} {dV kV doc pm cdv ct oc : Value} {an od : Option Addr}
    {osl : Array (Option Value)} {N ps : List Str} {sp : Sp} (lk : K.lookup f = some ⟨oc, od, .func (PySem.W.fnOf name qual params body scope dV kV doc pm an cdv ct), osl⟩) (hcd : PySem.W.codeIn K cdv qual = true) (S : FnScope N ps scope)
    (len : ∀ vs H Q E, sp vs H Q E → vs.length = ps.length)
    (hbody : ∀ (A : Around) (outer : List Env) (s : Shared) (H : Hp) (vs : List V) (Q : VK) (E : XK), RoomH k (A.deeper (envOfC qual scope s.heap.objs.size f cdv)) → sp vs H Q E →
      ∃ t, PSs (cxHot CX0 P w K mg base N qual scope f cdv A outer s H E).nox body t ∧ t { nx := fun _ H' => Q .non H', rt := Q } (start N vs) H) :
    FnH0 P w K mg base (k + 1) f (PySem.W.fnOf name qual params body scope dV kV doc pm an cdv ct) ps sp := by
  refine ⟨len, fun A outer s H args us vs Q E hr e0 hb r hsp => ?_⟩
  have hl := len _ _ _ _ hsp
  have KX : K.In s.heap := e0.mod.kin.keeps fun b o e => (e0.bs b o e).1
  have lim : s.heap.NoLimit := e0.mod.nolimit.keeps fun b o e => (e0.bs b o e).1
  have hkind : ∀ y ∈ ps.zip us, scope.names.lookup y.1 = some .local ∨ (scope.names.lookup y.1 = some .cell ∧ ((cellsFrom (s.heap.objs.size + 1) scope.names []).lookup y.1).isSome = true) := fun ⟨n, v⟩ hy => by
    rcases S.par n (List.of_mem_zip hy).1 with q | q
    · exact .inl q
    · exact .inr ⟨q, PySem.W.cellsFrom_some _ _ _ (.inl q)⟩
  refine codeAny_call_function hr.depth (KX _ _ lk) rfl S.co S.gen rfl (PySem.W.codeRec_of KX hcd) (hb _ _ _ _ ?_)
  refine wpAny_newFunctionEnv_cells S.kind hkind fun env he s1 x => ?_
  subst he
  refine ⟨lim.keeps x.toInCall.keep, codeAny_func ?_⟩
  obtain ⟨t, ht, hq⟩ := hbody A outer s H vs Q E (hr.deeper _) hsp
  have e1 : Env0 P w K mg base ({ A with handled := none } : Around) outer s H := ⟨e0.frames, e0.mod, e0.bs, e0.bsz, e0.funs, e0.frf, e0.hok, e0.bare⟩
  have I0 : Inv (cxOf CX0 P w K mg base N qual scope f cdv ({ A with handled := none } : Around) outer s H E) [] (start N vs) H s1 := inv_start S rfl e1 hl r x
  have I : Inv (cxHot CX0 P w K mg base N qual scope f cdv A outer s H E) [] (start N vs) H s1 := inv_calm I0 (A' := A.deeper (envOfC qual scope s.heap.objs.size f cdv)) rfl (Around.frames_deeper e0.frames)
  refine wpAny_mono (ht.nox.run [] s1 (start N vs) H _ I hq) (fun fl s' hs => ?_) fun e s' hs => hs
  have fin : ∀ {σ' : L2.St} {H' : Hp} {v : V} {u : Value}, Inv (cxHot CX0 P w K mg base N qual scope f cdv A outer s H E) [] σ' H' s' → RelV v u → Q v H' → CE outer P w H s Q u s' :=
    fun {σ' H' v u} J rv q => ⟨v, H', J.os, J.bare, J.base, J.hok, rv, q⟩
  cases fl with
  | ret u =>
    obtain ⟨v, σ', H', J, rv, q⟩ := hs
    exact fin J rv q
  | next =>
    obtain ⟨σ', H', J, q⟩ := hs
    exact fin (v := V.non) (u := Value.none) J rfl q
  | brk =>
    obtain ⟨_, _, _, q⟩ := hs
    exact False.elim q
  | cont =>
    obtain ⟨_, _, _, q⟩ := hs
    exact False.elim q
theorem roomH_mark {k : Nat} {A : Around} {h : Option Value} (r : RoomH k A) : RoomH k (A.mark h) := ⟨r.dp, r.un⟩
structure ClH (P : Program) (w : World) (K : PySem.W.Frag) (mg : Str → Option Value) (base : Heap) (k : Nat) (x : Str) (sp : Sp) : Prop where
  ex : ∃ (f : Addr) (fd : FuncData) (ps : List Str), FnH0 P w K mg base k f fd ps sp ∧ mg x = some (.ref f) ∧ PySem.W.keepIn K (.ref f) = true ∧ Binds K fd ps []
structure MtH (P : Program) (w : World) (K : PySem.W.Frag) (mg : Str → Option Value) (base : Heap) (k : Nat) (C : Addr) (m : Str) (sp : Sp) : Prop where
  ex : ∃ (f : Addr) (fd : FuncData) (ps : List Str), FnH0 P w K mg base k f fd ps sp ∧ Meth K C m f ∧ Binds K fd ps []
section
variable {P : Program} {w : World} {K : PySem.W.Frag} {mg : Str → Option Value} {base : Heap}
theorem Df.okH {x : Str} {st : Stmt} {f : Addr} {fd : FuncData} {ps N : List Str} {k : Nat} {sp : Sp} (F : Df K mg x st f fd ps) (S : FnScope N ps (defScope st)) (len : ∀ vs H Q E, sp vs H Q E → vs.length = ps.length)
    (hbody : ∀ (cdv : Value) (A : Around) (outer : List Env) (s : Shared) (H : Hp) (vs : List V) (Q : VK) (E : XK), RoomH k (A.deeper (envOfC x (defScope st) s.heap.objs.size f cdv)) → sp vs H Q E →
      ∃ t, PSs (cxHot CX0 P w K mg base N x (defScope st) f cdv A outer s H E).nox (defBody st) t ∧ t { nx := fun _ H' => Q .non H', rt := Q } (start N vs) H) : FnH0 P w K mg base (k + 1) f fd ps sp := by
  obtain ⟨oc, od, kV, doc, pm, an, cdv, ct, osl, rfl, lk, hcd⟩ := F.fn.ex
  exact fn_hot lk hcd S len fun A outer s H vs Q E hr hsp => hbody cdv A outer s H vs Q E hr hsp
theorem Dm.okH {C : Addr} {x q : Str} {st : Stmt} {f : Addr} {fd : FuncData} {ps N : List Str} {k : Nat} {sp : Sp} (F : Dm K C x q st f fd ps) (S : FnScope N ps (defScope st)) (len : ∀ vs H Q E, sp vs H Q E → vs.length = ps.length)
    (hbody : ∀ (cdv : Value) (A : Around) (outer : List Env) (s : Shared) (H : Hp) (vs : List V) (Q : VK) (E : XK), RoomH k (A.deeper (envOfC q (defScope st) s.heap.objs.size f cdv)) → sp vs H Q E →
      ∃ t, PSs (cxHot CX0 P w K mg base N q (defScope st) f cdv A outer s H E).nox (defBody st) t ∧ t { nx := fun _ H' => Q .non H', rt := Q } (start N vs) H) : FnH0 P w K mg base (k + 1) f fd ps sp := by
  obtain ⟨oc, od, kV, doc, pm, an, cdv, ct, osl, rfl, lk, hcd⟩ := F.fn.ex
  exact fn_hot lk hcd S len fun A outer s H vs Q E hr hsp => hbody cdv A outer s H vs Q E hr hsp
theorem Df.clh {x : Str} {st : Stmt} {f : Addr} {fd : FuncData} {ps : List Str} {k : Nat} {sp : Sp} (F : Df K mg x st f fd ps) (o : FnH0 P w K mg base k f fd ps sp) : ClH P w K mg base k x sp :=
  ⟨f, fd, ps, o, F.mgf, F.fn.kp, F.bi⟩
variable {X : Cx}
theorem run_hot {k : Nat} {f : Addr} {fd : FuncData} {ps : List Str} {sp : Sp} {pins : List (Addr × Obj)} {σ : L2.St} {H : Hp} {s : Shared} {Q : VK} {us : List Value} {vs : List V} (F : FnH0 X.prog X.w X.K X.mg X.base k f fd ps sp) (hr : RoomH k X.A) (hb : Binds X.K fd ps [])
    (I : Inv X pins σ H s) (r : Vals vs us) (h : sp vs H Q E0) : wpAny (model X.prog X.w) X.A (call (.ref f) us) (EP X pins σ Q) X.xe s := by
  have hl : us.length = ps.length := by rw [← r.length]; exact F.len _ _ _ _ h
  have b := hb s us I.kIn (by rw [List.append_nil]; exact hl)
  rw [List.append_nil] at b
  refine wpAny_call (codeAny_mono (F.run X.A X.stack s H ⟨us, []⟩ us vs Q E0 hr I.env0 b r h) fun r s' hq => ?_)
  cases r with
  | error e => exact False.elim hq
  | ok fl =>
    cases fl with
    | ret u => exact I.after hq
    | next => exact False.elim hq
    | brk => exact False.elim hq
    | cont => exact False.elim hq
theorem pe_clh {x : Str} {sp : Sp} {j k : Nat} {e : Expr} {es : List Expr} {t : TA} {p pos : Pos} (c : ClH X.prog X.w X.K X.mg X.base k x sp) (hr : RoomH j X.A) (hk : k ≤ j) (hg : Gl X x) (ha : PA X (e :: es) t)
    (hdb : (x == ("__debug__" : Str)) = false := by decide) (he : starEach (e :: es) X.env = (false, eval e X.env) :: starEach es X.env := by rfl) (hpl : (backTo pos (starEach es X.env)).any (·.1) = false := by rfl) :
    PE X (.Call (.Name x p) (e :: es) [] pos) (tCallS sp (fun _ => E0) t) := by
  obtain ⟨f, fd, ps, F, hm, kp, b⟩ := c.ex
  refine ⟨fun pins s σ H Q I h => ?_⟩
  refine wpAny_Call_Name_kw (ld_glob I hg hm ?_ hdb)
  refine PySem.W.callWith_K (h₀ := X.base) I.ok.mod.kin kp (thn (ha.run pos pins s σ H _ I h) fun us s1 ⟨vs, H1, I1, r, q⟩ => ⟨I1.kIn, ?_⟩) he hpl
  exact run_hot F (hr.mono hk) b I1 r q
theorem pe_mth {pl : Sem Bool} {C : Addr} {m : Str} {sp : Sp} {j k : Nat} {o e : Expr} {es : List Expr} {ta : TE} {t : TA} {apos pos : Pos} (c : MtH X.prog X.w X.K X.mg X.base k C m sp) (cl : Cls X.K C) (hr : RoomH j X.A) (hk : k ≤ j) (he : PE X o ta) (ha : PA X (e :: es) t)
    (hst : starEach (e :: es) X.env = (false, eval e X.env) :: starEach es X.env := by rfl) (hpl : (backTo pos (starEach es X.env)).any (·.1) = false := by rfl)
    (ht : eval (.Call (.Attribute o m apos) (e :: es) [] pos) X.env = (do
      let ov ← eval o X.env
      standAt apos.atName
      let (f, first) ← holding [ov] (getMethod ov m pl)
      callWith pos f first (backTo pos (starEach (e :: es) X.env)) (backToKw pos (keywordEach [] X.env))) := by rfl) : PE X (.Call (.Attribute o m apos) (e :: es) [] pos) (tMethS C m sp (fun _ => E0) ta t) := by
  obtain ⟨f, fd, ps, F, hm, b⟩ := c.ex
  refine ⟨fun pins s σ H Q I h => ?_⟩
  refine PySem.W.methodCall_KW (pl := pl) (thn (he.run pins s σ H _ I h) fun u s1 ⟨x, H1, I1, rx, a, dx, fs, ex, ea, l, q⟩ => ?_) ht
  subst ex
  obtain rfl : u = Value.ref a := rx
  refine getmeth_ok I1 ea cl hm l ?_
  refine PySem.W.callWith_K (first := [.ref a]) (h₀ := X.base) I.ok.mod.kin hm.kp (thn (ha.run pos pins s1 σ H1 _ I1 q) fun us s2 ⟨vs, H2, I2, r, q2⟩ => ⟨I2.kIn, ?_⟩) hst hpl
  exact run_hot (us := .ref a :: us) (vs := .ref a :: vs) F (hr.mono hk) b I2 (.cons rfl r) q2
end
end Jp

/-! ### x is True, x is False -/
namespace Jp
open PySem PySem.Spec PyProof.Rows L2
def rIsBl : R2 := fun x y H Q => ∃ a b, x = .bl a ∧ y = .bl b ∧ Q (.bl (decide (a = b))) H
def rNotBl : R2 := fun x y H Q => ∃ a b, x = .bl a ∧ y = .bl b ∧ Q (.bl (!decide (a = b))) H
theorem o_isB {X : Cx} : OpR X (compareOp .Is) rIsBl := op_is_bl
theorem o_notB {X : Cx} : OpR X (compareOp .IsNot) rNotBl := op_isnot_bl
theorem i_isBl {H : Hp} {Q : VK} {a b : Bool} (q : Q (.bl (decide (a = b))) H) : rIsBl (.bl a) (.bl b) H Q := ⟨a, b, rfl, rfl, q⟩
theorem i_notBl {H : Hp} {Q : VK} {a b : Bool} (q : Q (.bl (!decide (a = b))) H) : rNotBl (.bl a) (.bl b) H Q := ⟨a, b, rfl, rfl, q⟩
end Jp

namespace Law
open PySem PySem.Spec PyProof.Rows L2 Jp
/-! ### the walk's small steps -/
local macro_rules | `(tactic| wtm_at "jset") => `(tactic| (first | (simp only [wipe, List.map_cons, List.map_nil, List.set_cons_zero, List.set_cons_succ]; done) | (simp only [wipe, List.map_cons, List.map_nil, List.set_cons_zero, List.set_cons_succ]; exact rfl) | exact rfl))
local macro_rules | `(tactic| wtm_at "jw1") => `(tactic| first
  | ((with_reducible refine' i_var ?h ?_); (case h => exact rfl))
  | with_reducible refine' i_c ?_ | with_reducible refine' i_op ?_ | with_reducible refine' i_seq ?_ | with_reducible refine' i_asg ?_
  | ((with_reducible refine' i_gNameE ?e ?_); (case e => wtm_at "jset"))
  | with_reducible refine' i_ret ?_ | with_reducible refine' i_test ?_ | with_reducible refine' i_isb ?_
  | with_reducible refine' i_cons ?_ | with_reducible refine' i_nil ?_ | with_reducible refine' i_call ?_ | with_reducible refine' i_cb ?_
  | with_reducible refine' i_rI0 ?_ | ((with_reducible refine' i_rI ?c ?_); (case c => wtm_at "jside")) | with_reducible refine' i_rU ?_
  | with_reducible refine' i_eqI ?_ | with_reducible refine' i_neI ?_ | with_reducible refine' i_eqB ?_ | with_reducible refine' i_neB ?_ | with_reducible refine' i_eqS ?_ | with_reducible refine' i_neS ?_
  | with_reducible refine' i_isN ?_ | with_reducible refine' i_notN ?_
  | with_reducible refine' i_un ?_ | with_reducible refine' i_drop ?_ | with_reducible refine' i_retN ?_ | with_reducible refine' i_next ?_
  | ((with_reducible refine' i_ixL ?h ?e ?_); (case h => wtm_at "jsq"); (case e => wtm_at "jat"))
  | ((with_reducible refine' i_ixT ?h ?e ?_); (case h => wtm_at "jsq"); (case e => wtm_at "jat"))
  | ((with_reducible refine' i_ix1 (i_ixL ?h ?e ?_)); (case h => wtm_at "jsq"); (case e => wtm_at "jat"))
  | ((with_reducible refine' i_ix2 (i_ixT ?h ?e ?_)); (case h => wtm_at "jsq"); (case e => wtm_at "jat"))
  | with_reducible refine' i_gSub ?_
  | ((with_reducible refine' i_setL ?h ?e ?_); (case h => wtm_at "jhp"); (case e => wtm_at "jixn"))
  | ((with_reducible refine' i_gTup ?h ?e ?_); (case h => wtm_at "jsq"); (case e => rfl)) | with_reducible refine' i_gCons ?_ | with_reducible refine' i_gNil ?_
  | with_reducible refine' i_int ?_ | with_reducible refine' i_intB ?_ | with_reducible refine' i_abs ?_ | with_reducible refine' i_max2 ?_ | with_reducible refine' i_min2 ?_
  | ((with_reducible refine' i_lenL ?h ?_); (case h => wtm_at "jsq")) | ((with_reducible refine' i_lenT ?h ?_); (case h => wtm_at "jsq"))
  | ((with_reducible refine' i_tupL ?h ?_); (case h => wtm_at "jsq")) | ((with_reducible refine' i_lstL ?h ?_); (case h => wtm_at "jsq")) | ((with_reducible refine' i_lstT ?h ?_); (case h => wtm_at "jsq")) | ((with_reducible refine' i_tupT ?h ?_); (case h => wtm_at "jsq"))
  | ((with_reducible refine' i_new ?h ?_); (case h => wtm_at "jlen"))
  | with_reducible refine' i_tup ?_ | with_reducible refine' i_lst ?_ | with_reducible refine' i_if ?_ | with_reducible refine' i_andV ?_ | with_reducible refine' i_orV ?_ | with_reducible refine' i_notV ?_ | with_reducible refine' i_B ?_
  | with_reducible refine' i_and ?_ | with_reducible refine' i_or ?_ | with_reducible refine' i_not ?_ | with_reducible refine' i_break ?_ | with_reducible refine' i_cont ?_
  | ((with_reducible refine' i_augE ?h ?_); (case h => exact rfl)) | with_reducible refine' i_augS ?_ | with_reducible refine' i_ipI ?_
  | with_reducible refine' i_for ?_ | with_reducible refine' i_iList ?_ | with_reducible refine' i_iTup ?_ | ((with_reducible refine' i_isL ?h ?_); (case h => wtm_at "jsq")) | ((with_reducible refine' i_isT ?h ?_); (case h => wtm_at "jsq"))
  | with_reducible refine' i_rng1 ?_ | with_reducible refine' i_rng2 ?_
  | ((with_reducible refine' i_isR1 ?h1 ?h2 ?_); (case h1 => wtm_at "jside"); (case h2 => wtm_at "jside"))
  | ((with_reducible refine' i_isR2 ?h1 ?h2 ?h3 ?h4 ?_); (case h1 => wtm_at "jside"); (case h2 => wtm_at "jside"); (case h3 => wtm_at "jside"); (case h4 => wtm_at "jside"))
  | ((with_reducible refine' i_lc ?e ?_); (case e => wtm_at "jset"))
  | with_reducible refine' i_yes ?_ | with_reducible refine' i_sl ?_ | with_reducible refine' i_par ?_ | with_reducible refine' i_two ?_ | with_reducible refine' i_noPart ?_ | with_reducible refine' i_part ?_ | with_reducible refine' i_isI ?_
  | with_reducible refine' i_bm ?_ | with_reducible refine' i_bm0 ?_ | ((with_reducible refine' i_tyL ?h ?_); (case h => wtm_at "jsq"))
  | ((with_reducible refine' i_app ?h ?e ?_); (case h => wtm_at "jhp"); (case e => wtm_at "jsmall"))
  | with_reducible refine' i_chain ?_ | ((with_reducible refine' i_cat ?h1 ?h2 ?e ?_); (case h1 => wtm_at "jhp"); (case h2 => wtm_at "jhp"); (case e => wtm_at "jlen"))
  | with_reducible refine iteT ?_ | with_reducible refine iteF ?_ | with_reducible refine' c_nt ?_ | with_reducible refine' c_nf ?_)
local macro_rules | `(tactic| wtm_at "js") => `(tactic| repeat (wtm_at "jw1"))
local macro_rules | `(tactic| wtm_at "jw") => `(tactic| repeat (first | wtm_at "jw1" | with_reducible refine' i_ifS ?_))
local macro_rules | `(tactic| wtm_at "jlen") => `(tactic| first | decide | (simp [sizeLine]; done) | omega)
/- a condition of an operation -/
local macro_rules | `(tactic| wtm_at "jside") => `(tactic| first | with_reducible assumption | omega | decide | (simp only [List.length_map]; omega) | (refine Or.inl ?_; decide) | (refine Or.inr ?_; decide) | (refine ⟨?_, ?_⟩ <;> omega) | (refine Or.inl ?_; constructor <;> omega) | (refine Or.inr ?_; constructor <;> omega) | (refine ⟨by decide, by decide, by decide⟩) | (with_reducible refine wide_div ?_ (b := 64) ?_ ?_ ?_ <;> first | omega | decide))
/- H p = some o -/
local macro_rules | `(tactic| wtm_at "jhp") => `(tactic| first | assumption | with_reducible exact upd_same | ((with_reducible refine' Eq.trans (upd_ne ?hne) ?hgo); (case hne => wtm_at "jne"); (case hgo => wtm_at "jhp")))
local macro_rules | `(tactic| wtm_at "jne") => `(tactic| first | assumption | (refine Ne.symm ?_; assumption) | (refine ne_of_none (by assumption) (by assumption)) | (refine (ne_of_none (by assumption) (by assumption)).symm))
local macro_rules | `(tactic| wtm_at "jsq") => `(tactic| first | assumption | ((with_reducible refine' SqL.of ?hh); (case hh => wtm_at "jhp")) | ((with_reducible refine' SqT.of ?hh); (case hh => wtm_at "jhp")) | ((with_reducible refine' Same.seq (same_new ?hn) ?hh); (case hn => assumption); (case hh => wtm_at "jsq")) | ((with_reducible refine' Same.tup (same_new ?hn) ?hh); (case hn => assumption); (case hh => wtm_at "jsq")))
/- the item at a place -/
local macro_rules | `(tactic| wtm_at "jat") => `(tactic| first | exact rfl | assumption)
local macro_rules | `(tactic| wtm_at "jixn") => `(tactic| first | exact rfl | assumption)
local macro_rules | `(tactic| wtm_at "jsmall") => `(tactic| first | assumption | exact small1000 (by first | assumption | omega | (simp; done) | (simp; omega)))

local macro_rules | `(tactic| wtm_at "jw1") => `(tactic| first | with_reducible refine' i_isBl ?_ | with_reducible refine' i_notBl ?_)
def top (i : Nat) : Stmt := PySem.Challenge.pw_judgedplay_k34_whole_store_reads_back.main.body.getD i (.Pass ⟨0, 0, 0, 0⟩)
abbrev s__law_begin : Stmt := top 11
abbrev N__law_begin : List Str := ["script", "cell"]
theorem sc__law_begin : FnScope N__law_begin ["script"] (defScope s__law_begin) := ⟨rfl, rfl, rfl, by decide +kernel, rfl, by decide +kernel, by decide +kernel⟩
abbrev s__law_draw : Stmt := top 12
abbrev N__law_draw : List Str := ["d", "many", "found", "size", "cell"]
theorem sc__law_draw : FnScope N__law_draw ["d", "many"] (defScope s__law_draw) := ⟨rfl, rfl, rfl, by decide +kernel, rfl, by decide +kernel, by decide +kernel⟩
abbrev s__law_rare : Stmt := top 14
abbrev N__law_rare : List Str := ["d", "many"]
theorem sc__law_rare : FnScope N__law_rare ["d", "many"] (defScope s__law_rare) := ⟨rfl, rfl, rfl, by decide +kernel, rfl, by decide +kernel, by decide +kernel⟩
abbrev s__law_pick : Stmt := top 13
abbrev N__law_pick : List Str := ["d", "row"]
theorem sc__law_pick : FnScope N__law_pick ["d", "row"] (defScope s__law_pick) := ⟨rfl, rfl, rfl, by decide +kernel, rfl, by decide +kernel, by decide +kernel⟩
abbrev s__law_layout : Stmt := top 18
abbrev N__law_layout : List Str := ["d", "kinds", "k"]
theorem sc__law_layout : FnScope N__law_layout ["d"] (defScope s__law_layout) := ⟨rfl, rfl, rfl, by decide +kernel, rfl, by decide +kernel, by decide +kernel⟩
abbrev s_Store___init__ : Stmt := inClass (top 9) 0
abbrev N_Store___init__ : List Str := ["self"]
theorem sc_Store___init__ : FnScope N_Store___init__ ["self"] (defScope s_Store___init__) := ⟨rfl, rfl, rfl, by decide +kernel, rfl, by decide +kernel, by decide +kernel⟩
abbrev s_Store_number_of : Stmt := inClass (top 9) 1
abbrev N_Store_number_of : List Str := ["self", "tick", "k"]
theorem sc_Store_number_of : FnScope N_Store_number_of ["self", "tick"] (defScope s_Store_number_of) := ⟨rfl, rfl, rfl, by decide +kernel, rfl, by decide +kernel, by decide +kernel⟩
abbrev s_Store_drop_from : Stmt := inClass (top 9) 4
abbrev N_Store_drop_from : List Str := ["self", "tick", "many"]
theorem sc_Store_drop_from : FnScope N_Store_drop_from ["self", "tick"] (defScope s_Store_drop_from) := ⟨rfl, rfl, rfl, by decide +kernel, rfl, by decide +kernel, by decide +kernel⟩
abbrev s_difference : Stmt := top 1
abbrev N_difference : List Str := ["old", "new", "k"]
theorem sc_difference : FnScope N_difference ["old", "new"] (defScope s_difference) := ⟨rfl, rfl, rfl, by decide +kernel, rfl, by decide +kernel, by decide +kernel⟩
abbrev s_changed : Stmt := top 2
abbrev N_changed : List Str := ["old", "rows", "values", "place", "value"]
theorem sc_changed : FnScope N_changed ["old", "rows"] (defScope s_changed) := ⟨rfl, rfl, rfl, by decide +kernel, rfl, by decide +kernel, by decide +kernel⟩
abbrev s_Store_last_state : Stmt := inClass (top 9) 3
abbrev N_Store_last_state : List Str := ["self", "state", "rows"]
theorem sc_Store_last_state : FnScope N_Store_last_state ["self"] (defScope s_Store_last_state) := ⟨rfl, rfl, rfl, by decide +kernel, rfl, by decide +kernel, by decide +kernel⟩
abbrev s_Store_keep : Stmt := inClass (top 9) 2
abbrev N_Store_keep : List Str := ["self", "tick", "state"]
theorem sc_Store_keep : FnScope N_Store_keep ["self", "tick", "state"] (defScope s_Store_keep) := ⟨rfl, rfl, rfl, by decide +kernel, rfl, by decide +kernel, by decide +kernel⟩
abbrev s__law_some_tick : Stmt := top 23
abbrev N__law_some_tick : List Str := ["d", "kept"]
theorem sc__law_some_tick : FnScope N__law_some_tick ["d", "kept"] (defScope s__law_some_tick) := ⟨rfl, rfl, rfl, by decide +kernel, rfl, by decide +kernel, by decide +kernel⟩
abbrev s_Store_has : Stmt := inClass (top 9) 6
abbrev N_Store_has : List Str := ["self", "tick"]
theorem sc_Store_has : FnScope N_Store_has ["self", "tick"] (defScope s_Store_has) := ⟨rfl, rfl, rfl, by decide +kernel, rfl, by decide +kernel, by decide +kernel⟩
abbrev s_Store_state_at : Stmt := inClass (top 9) 7
abbrev N_Store_state_at : List Str := ["self", "tick", "state", "k"]
theorem sc_Store_state_at : FnScope N_Store_state_at ["self", "tick"] (defScope s_Store_state_at) := ⟨rfl, rfl, rfl, by decide +kernel, rfl, by decide +kernel, by decide +kernel⟩
abbrev s_composed : Stmt := top 3
abbrev N_composed : List Str := ["first", "second", "found", "place", "value"]
theorem sc_composed : FnScope N_composed ["first", "second"] (defScope s_composed) := ⟨rfl, rfl, rfl, by decide +kernel, rfl, by decide +kernel, by decide +kernel⟩
abbrev s_thinned : Stmt := top 4
abbrev N_thinned : List Str := ["old", "rows", "row"]
theorem sc_thinned : FnScope N_thinned ["old", "rows"] (defScope s_thinned) := ⟨rfl, rfl, rfl, by decide +kernel, rfl, by decide +kernel, by decide +kernel⟩
abbrev s_Store_drop : Stmt := inClass (top 9) 5
abbrev N_Store_drop : List Str := ["self", "tick", "number", "before", "rows"]
theorem sc_Store_drop : FnScope N_Store_drop ["self", "tick"] (defScope s_Store_drop) := ⟨rfl, rfl, rfl, by decide +kernel, rfl, by decide +kernel, by decide +kernel⟩
abbrev s__law_next_tick : Stmt := top 24
abbrev N__law_next_tick : List Str := ["d", "kept"]
theorem sc__law_next_tick : FnScope N__law_next_tick ["d", "kept"] (defScope s__law_next_tick) := ⟨rfl, rfl, rfl, by decide +kernel, rfl, by decide +kernel, by decide +kernel⟩
abbrev s__law_entry : Stmt := top 19
abbrev N__law_entry : List Str := ["d", "kind"]
theorem sc__law_entry : FnScope N__law_entry ["d", "kind"] (defScope s__law_entry) := ⟨rfl, rfl, rfl, by decide +kernel, rfl, by decide +kernel, by decide +kernel⟩
abbrev s__law_any : Stmt := top 20
abbrev N__law_any : List Str := ["d", "kinds", "kind"]
theorem sc__law_any : FnScope N__law_any ["d", "kinds"] (defScope s__law_any) := ⟨rfl, rfl, rfl, by decide +kernel, rfl, by decide +kernel, by decide +kernel⟩
abbrev s__law_mixed : Stmt := top 21
abbrev N__law_mixed : List Str := ["d", "one", "other", "share", "k"]
theorem sc__law_mixed : FnScope N__law_mixed ["d", "one", "other"] (defScope s__law_mixed) := ⟨rfl, rfl, rfl, by decide +kernel, rfl, by decide +kernel, by decide +kernel⟩
abbrev s__law_next_state : Stmt := top 22
abbrev N__law_next_state : List Str := ["d", "kinds", "kept", "last", "way", "found", "k", "place"]
theorem sc__law_next_state : FnScope N__law_next_state ["d", "kinds", "kept"] (defScope s__law_next_state) := ⟨rfl, rfl, rfl, by decide +kernel, rfl, by decide +kernel, by decide +kernel⟩
abbrev s__law_with : Stmt := top 25
abbrev N__law_with : List Str := ["kept", "tick", "state", "pair"]
theorem sc__law_with : FnScope N__law_with ["kept", "tick", "state"] (defScope s__law_with) := ⟨rfl, rfl, rfl, by decide +kernel, rfl, by decide +kernel, by decide +kernel⟩
abbrev s__law_done : Stmt := top 26
abbrev N__law_done : List Str := ["d", "store", "kinds", "kept", "way", "tick", "state", "pair"]
theorem sc__law_done : FnScope N__law_done ["d", "store", "kinds", "kept"] (defScope s__law_done) := ⟨rfl, rfl, rfl, by decide +kernel, rfl, by decide +kernel, by decide +kernel⟩
abbrev s_Store_ticks : Stmt := inClass (top 9) 8
abbrev N_Store_ticks : List Str := ["self"]
theorem sc_Store_ticks : FnScope N_Store_ticks ["self"] (defScope s_Store_ticks) := ⟨rfl, rfl, rfl, by decide +kernel, rfl, by decide +kernel, by decide +kernel⟩
abbrev s_Store_size : Stmt := inClass (top 9) 9
abbrev N_Store_size : List Str := ["self", "rows"]
theorem sc_Store_size : FnScope N_Store_size ["self"] (defScope s_Store_size) := ⟨rfl, rfl, rfl, by decide +kernel, rfl, by decide +kernel, by decide +kernel⟩
abbrev s__law_is_int : Stmt := top 16
abbrev N__law_is_int : List Str := ["thing"]
theorem sc__law_is_int : FnScope N__law_is_int ["thing"] (defScope s__law_is_int) := ⟨rfl, rfl, rfl, by decide +kernel, rfl, by decide +kernel, by decide +kernel⟩
abbrev s__law_is_ints : Stmt := top 17
abbrev N__law_is_ints : List Str := ["row", "part"]
theorem sc__law_is_ints : FnScope N__law_is_ints ["row"] (defScope s__law_is_ints) := ⟨rfl, rfl, rfl, by decide +kernel, rfl, by decide +kernel, by decide +kernel⟩
abbrev s__law_size : Stmt := top 27
abbrev N__law_size : List Str := ["kept", "found", "k", "state", "place"]
theorem sc__law_size : FnScope N__law_size ["kept"] (defScope s__law_size) := ⟨rfl, rfl, rfl, by decide +kernel, rfl, by decide +kernel, by decide +kernel⟩
abbrev s__law_is_missing : Stmt := top 28
abbrev N__law_is_missing : List Str := ["store", "tick", "e"]
theorem sc__law_is_missing : FnScope N__law_is_missing ["store", "tick"] (defScope s__law_is_missing) := ⟨rfl, rfl, rfl, by decide +kernel, rfl, by decide +kernel, by decide +kernel⟩
abbrev s__law_is_all : Stmt := top 29
abbrev N__law_is_all : List Str := ["store", "kept", "ticks", "pair", "size", "tick", "state", "told"]
theorem sc__law_is_all : FnScope N__law_is_all ["store", "kept"] (defScope s__law_is_all) := ⟨rfl, rfl, rfl, by decide +kernel, rfl, by decide +kernel, by decide +kernel⟩
abbrev s__law_filled : Stmt := top 30
abbrev N__law_filled : List Str := ["kept", "store", "tick", "state"]
theorem sc__law_filled : FnScope N__law_filled ["kept"] (defScope s__law_filled) := ⟨rfl, rfl, rfl, by decide +kernel, rfl, by decide +kernel, by decide +kernel⟩
abbrev s__law_shuffled : Stmt := top 15
abbrev N__law_shuffled : List Str := ["d", "row", "left", "found", "k"]
theorem sc__law_shuffled : FnScope N__law_shuffled ["d", "row"] (defScope s__law_shuffled) := ⟨rfl, rfl, rfl, by decide +kernel, rfl, by decide +kernel, by decide +kernel⟩
abbrev s__law_are_twins : Stmt := top 31
abbrev N__law_are_twins : List Str := ["d", "kept", "gone", "pair", "left", "one", "other", "tick"]
theorem sc__law_are_twins : FnScope N__law_are_twins ["d", "kept"] (defScope s__law_are_twins) := ⟨rfl, rfl, rfl, by decide +kernel, rfl, by decide +kernel, by decide +kernel⟩
abbrev s_law : Stmt := top 32
abbrev N_law : List Str := ["script", "d", "kinds", "stores", "kept", "many", "turn", "at"]
theorem sc_law : FnScope N_law ["script"] (defScope s_law) := ⟨rfl, rfl, rfl, by decide +kernel, rfl, by decide +kernel, by decide +kernel⟩
abbrev s_NoState___init__ : Stmt := inClass (top 7) 0
/-- what the text's top has: built-ins that are still so, constants -/
structure Txt (K : PySem.W.Frag) (mg : Str → Option Value) (C_Store : Addr) (C_NoState : Addr) : Prop where
  mg_NoState : mg "NoState" = some (.ref C_NoState)
  xc_NoState : XcT K C_NoState C_NoState
  nf_NoState_tick : PySem.W.findIn K (.ref C_NoState) "tick" = some none
  cl_Store : Cls K C_Store
  mg_Store : mg "Store" = some (.ref C_Store)
  na_Store_places : NoAttr K C_Store "places"
  na_Store_whole : NoAttr K C_Store "whole"
  na_Store_steps : NoAttr K C_Store "steps"
  b_int : mg "int" = none
  b_len : mg "len" = none
  b_abs : mg "abs" = none
  b_range : mg "range" = none
  b_max : mg "max" = none
  b_tuple : mg "tuple" = none
  b_list : mg "list" = none
  b_sorted : mg "sorted" = none
  b_min : mg "min" = none
  b_sum : mg "sum" = none
  b_isinstance : mg "isinstance" = none
  b_bool : mg "bool" = none
  b_all : mg "all" = none
/-! ### the draws -/
/-- a row of draws stands at p, its cells at a -/
def DrawAt (H : Hp) (p a : Addr) : Prop := ∃ (ns : List Int) (pos pend seed : Int), H p = some (.lst [.ref a, .int pos, .int pend, .int seed]) ∧ H a = some (.lst (ns.map V.int)) ∧ a ≠ p ∧ 0 ≤ pos
theorem DrawAt.same {H H' : Hp} {p a : Addr} (d : DrawAt H p a) (s : Same H H') : DrawAt H' p a := by
  obtain ⟨ns, pos, pend, seed, h1, h2, h3, h4⟩ := d
  exact ⟨ns, pos, pend, seed, s _ _ h1, s _ _ h2, h3, h4⟩
/-- behind draws: the row stands, all else is as it was -/
structure Drew (p a : Addr) (H H' : Hp) : Prop where
  at_ : DrawAt H' p a
  kp : Kp p H H'
theorem Drew.trans {p a : Addr} {H H1 H2 : Hp} (x : Drew p a H H1) (y : Drew p a H1 H2) : Drew p a H H2 := ⟨y.at_, x.kp.trans y.kp⟩
theorem Drew.new {p a q : Addr} {H H1 : Hp} {o : HO} (x : Drew p a H H1) (h : H1 q = none) : Drew p a H (upd H1 q o) := ⟨x.at_.same (same_new h), x.kp.trans (.of (same_new h))⟩
theorem Drew.same {p a : Addr} {H H1 H2 : Hp} (x : Drew p a H H1) (s : Same H1 H2) : Drew p a H H2 := ⟨x.at_.same s, x.kp.trans (.of s)⟩
theorem DrawAt.drew {p a : Addr} {H : Hp} (d : DrawAt H p a) : Drew p a H H := ⟨d, Kp.refl⟩
theorem DrawAt.some {H : Hp} {p a : Addr} (d : DrawAt H p a) : ∃ xs, H p = some (.lst xs) := by
  obtain ⟨ns, pos, pend, seed, h1, _⟩ := d
  exact ⟨_, h1⟩
theorem DrawAt.ne_none {H : Hp} {p a q : Addr} (d : DrawAt H p a) (h : H q = none) : q ≠ p := by
  obtain ⟨xs, e⟩ := d.some
  exact (ne_of_none e h).symm
theorem DrawAt.ne_noneA {H : Hp} {p a q : Addr} (d : DrawAt H p a) (h : H q = none) : q ≠ a := by
  obtain ⟨ns, pos, pend, seed, _, h1, _⟩ := d
  exact (ne_of_none h1 h).symm
theorem Drew.free {p a q : Addr} {H H' : Hp} (w : Drew p a H H') (h : H' q = none) : H q = none := by
  cases e : H q with
  | none => rfl
  | some o =>
    by_cases hq : q = p
    · obtain ⟨xs, e'⟩ := w.at_.some
      rw [hq, e'] at h; cases h
    · rw [w.kp _ _ e hq] at h; cases h
/-- a thing of our own, made behind H, is written -/
theorem Drew.put {p a q : Addr} {H H1 : Hp} {o : HO} (x : Drew p a H H1) (d : DrawAt H p a) (h : H q = none) : Drew p a H (upd H1 q o) := by
  have n1 := d.ne_none h
  have n2 := d.ne_noneA h
  obtain ⟨ns, pos, pend, seed, h1, h2, h3, h4⟩ := x.at_
  refine ⟨⟨ns, pos, pend, seed, by rw [upd_ne n1.symm]; exact h1, by rw [upd_ne n2.symm]; exact h2, h3, h4⟩, fun b u hb hne => ?_⟩
  rw [upd_ne (ne_of_none hb h)]
  exact x.kp _ _ hb hne
theorem Drew.tps {p a : Addr} {H H' : Hp} (w : Drew p a H H') (d : DrawAt H p a) : Tps H H' := by
  obtain ⟨xs, e⟩ := d.some
  exact w.kp.tps e
def sp__law_begin (K : PySem.W.Frag) : Sp := fun vs H Q _ => ∃ (a : Addr) (ns : List Int), vs = [.ref a] ∧ SqL K H a (ns.map V.int) ∧ ns.length ≤ 63 ∧
  ∀ (p c : Addr) (H' : Hp), Same H H' → H p = none → H c = none → DrawAt H' p c → Q (.ref p) H'
theorem ok__law_begin {P : Program} {w : World} {K : PySem.W.Frag} {mg : Str → Option Value} {base : Heap} {C_Store : Addr} {C_NoState : Addr} {f : Addr} {fd : FuncData} (F : Df K mg "_law_begin" s__law_begin f fd ["script"]) (T : Txt K mg C_Store C_NoState) : FnOk P w K mg base CX0 1 f fd ["script"] (sp__law_begin K) := by
  refine F.ok sc__law_begin (fun vs H Q E h => ?_) (fun cdv A outer s H vs Q E hr h => ?_)
  · obtain ⟨a, ns, rfl, _⟩ := h
    rfl
  · obtain ⟨a, ns, rfl, hS, hl, k⟩ := h
    refine ⟨_, (pss_one (ps_ret (pe_lst (pa_cons (pe_lc (own := [("cell", 1)]) (g := gName 1) (tt := tYes) rfl sc__law_begin.nd (pi_list (pv 0)) (blkOk_by (own := [("cell", 1)]) (N := N__law_begin) (sc := defScope s__law_begin) (by decide +kernel)) (fun _ _ _ _ _ => (pg_name (i := 1) sc__law_begin.nd rfl (Or.inl rfl))) (fun _ _ _ _ _ => pts_nil) (fun _ _ _ _ _ => (pe_callTy (T := "int") c_int (by rfl) T.b_int (by decide +kernel) (pa_cons (pv 1) pa_nil)))) (pa_cons pe_int (pa_cons pe_int (pa_cons pe_int pa_nil))))))), ?_⟩
    try dsimp only [cxOf, Cx.nox, Cx.wish]
    refine st_of (σ' := [some _, none]) rfl ?_
    wtm_at "jw"
    intro D hD
    refine l_list (xs := ns.map V.int) (fun i H1 => Same H H1 ∧ H1 D = some (.lst ((ns.take i).map V.int))) ⟨same_new hD, upd_same⟩ (fun i H1 _ h => h.1.seq hS) (fun i x H1 hi h => ?_) (fun H1 h => ?_)
    · obtain ⟨s1, h1⟩ := h
      rw [List.getElem?_map] at hi
      cases e : ns[i]? with
      | none => rw [e] at hi; cases hi
      | some z =>
        rw [e] at hi
        cases hi
        have hlt : i < ns.length := (List.getElem?_eq_some_iff.mp e).1
        wtm_at "jw"
        refine ⟨rfl, ?_⟩
        wtm_at "jw"
        refine ⟨_, h1, small1000 (by rw [List.length_map, List.length_take]; omega), ?_, ?_⟩
        · intro b o hb
          have hne : b ≠ D := ne_of_none hb hD
          rw [upd_ne hne]
          exact s1 _ _ hb
        · rw [upd_same, List.take_add_one, e, List.map_append]
          rfl
    · obtain ⟨s1, h1⟩ := h
      rw [List.length_map, List.take_length] at h1
      wtm_at "jw"
      intro p hp
      have hne : D ≠ p := ne_of_none h1 hp
      refine k p D _ (fun b o hb => ?_) (s1.free hp) hD ⟨ns, 0, 0, 11, upd_same, by rw [upd_ne hne]; exact h1, hne, by decide⟩
      rw [upd_ne (ne_of_none (s1 _ _ hb) hp)]
      exact s1 _ _ hb
def sp__law_draw (K : PySem.W.Frag) : Sp := fun vs H Q _ => ∃ (p a : Addr) (many : Int), vs = [.ref p, .int many] ∧ DrawAt H p a ∧ 0 < many ∧ many < 18446744073709551616 ∧
  ∀ (r : Int) (H' : Hp), 0 ≤ r → r < many → Drew p a H H' → Q (.int r) H'
theorem ok__law_draw {P : Program} {w : World} {K : PySem.W.Frag} {mg : Str → Option Value} {base : Heap} {C_Store : Addr} {C_NoState : Addr} {f : Addr} {fd : FuncData} (F : Df K mg "_law_draw" s__law_draw f fd ["d", "many"]) (T : Txt K mg C_Store C_NoState) : FnOk P w K mg base CX0 1 f fd ["d", "many"] (sp__law_draw K) := by
  refine F.ok sc__law_draw (fun vs H Q E h => ?_) (fun cdv A outer s H vs Q E hr h => ?_)
  · obtain ⟨p, a, m, rfl, _⟩ := h
    rfl
  · obtain ⟨p, a, m, rfl, ⟨ns, pos, pend, seed, hp, ha, nap, h0⟩, hm0, hm1, k⟩ := h
    have fin : ∀ (z : Int) (pos' pend' seed' : Int) (H' : Hp), 0 ≤ pos' → H' p = some (.lst [.ref a, .int pos', .int pend', .int seed']) → Kp p H H' → Q (.int (z % m)) H' := fun z pos' pend' seed' H' hp' h1 h2 =>
      k _ _ (Int.emod_nonneg _ (by omega)) (Int.emod_lt_of_pos _ hm0) ⟨⟨ns, pos', pend', seed', h1, h2 _ _ ha nap, nap, hp'⟩, h2⟩
    refine ⟨_, (pss_cons (ps_if (pt_cmpR op_gt (pe_ix (r := rIxL K) ix_list (pv 0) pe_int (fun _ _ => rfl)) pe_int (nomark _)) (pss_cons (ps_set (i := 2) sc__law_draw.nd rfl (Or.inl rfl) (pe_ix (r := rIxL K) ix_list (pv 0) pe_int (fun _ _ => rfl)))
      (pss_cons (ps_asg (pe_op op_fdivW (pv 2) (pv 1)) (pg_sub (pv 0) pe_int set_list))
      (pss_one (ps_ret (pe_op op_mod (pe_callTy (T := "int") c_int (by rfl) T.b_int (by decide +kernel) (pa_cons (pv 2) pa_nil)) (pv 1)))))) pss_nil)
      (pss_cons (ps_set (i := 3) sc__law_draw.nd rfl (Or.inl rfl) pe_int)
      (pss_cons (ps_if (pt_cmpR op_lt (pe_ix (r := rIxL K) ix_list (pv 0) pe_int (fun _ _ => rfl)) (pe_callB (id := "len") (r := qLen K) c_len (by rfl) T.b_len (by decide +kernel) (pa_cons (pe_ix (r := rIxL K) ix_list (pv 0) pe_int (fun _ _ => rfl)) pa_nil)) (nomark _)) (pss_cons (ps_set (i := 4) sc__law_draw.nd rfl (Or.inl rfl) (pe_ix (r := rIx K) ix_seq (pe_ix (r := rIxL K) ix_list (pv 0) pe_int (fun _ _ => rfl)) (pe_ix (r := rIxL K) ix_list (pv 0) pe_int (fun _ _ => rfl)) (fun _ _ => rfl)))
      (pss_one (ps_set (i := 3) sc__law_draw.nd rfl (Or.inl rfl) (pe_op op_add (pe_op op_mul pe_int (pe_callB (id := "abs") c_abs (by rfl) T.b_abs (by decide +kernel) (pa_cons (pv 4) pa_nil))) (pe_callTy (T := "int") c_int (by rfl) T.b_int (by decide +kernel) (pa_cons (pe_cmpR op_lt (pv 4) pe_int (nomark _)) pa_nil)))))) pss_nil)
      (pss_cons (ps_augS (pv 0) pe_int get_list pe_int iop_add set_list)
      (pss_cons (ps_if (pt_cmpR op_ge (pv 3) (pe_op op_mul pe_int (pe_op op_pow pe_int pe_int)) (nomark _)) (pss_cons (ps_set (i := 2) sc__law_draw.nd rfl (Or.inl rfl) (pe_op op_mod (pe_callTy (T := "int") c_int (by rfl) T.b_int (by decide +kernel) (pa_cons (pe_op op_fdiv (pv 3) pe_int) pa_nil)) (pe_op op_shl pe_int pe_int)))
      (pss_cons (ps_asg (pe_op op_fdivW (pv 2) (pv 1)) (pg_sub (pv 0) pe_int set_list))
      (pss_one (ps_ret (pe_op op_mod (pe_callTy (T := "int") c_int (by rfl) T.b_int (by decide +kernel) (pa_cons (pv 2) pa_nil)) (pv 1)))))) pss_nil)
      (pss_cons (ps_asg (pe_op op_mod (pe_callTy (T := "int") c_int (by rfl) T.b_int (by decide +kernel) (pa_cons (pe_op op_add (pe_op op_add (pe_op op_add (pe_op op_mul (pe_ix (r := rIxL K) ix_list (pv 0) pe_int (fun _ _ => rfl)) pe_int) (pe_op op_mul (pe_op op_mod (pe_callTy (T := "int") c_int (by rfl) T.b_int (by decide +kernel) (pa_cons (pv 3) pa_nil)) pe_int) pe_int)) (pe_op op_mul (pe_ix (r := rIxL K) ix_list (pv 0) pe_int (fun _ _ => rfl)) pe_int)) pe_int) pa_nil)) pe_int) (pg_sub (pv 0) pe_int set_list))
      (pss_one (ps_ret (pe_op op_mod (pe_callTy (T := "int") c_int (by rfl) T.b_int (by decide +kernel) (pa_cons (pe_op op_fdiv (pe_ix (r := rIxL K) ix_list (pv 0) pe_int (fun _ _ => rfl)) pe_int) pa_nil)) (pv 1)))))))))), ?_⟩
    try dsimp only [cxOf, Cx.nox, Cx.wish]
    refine st_of (σ' := [some _, some _, none, none, none]) rfl ?_
    wtm_at "jw"
    refine c_dec (fun h => ?_) (fun h => ?_)
    · wtm_at "jw"
      exact fin _ _ _ _ _ h0 upd_same Kp.upd
    · wtm_at "jw"
      refine c_dec (fun h1 => ?_) (fun h1 => ?_)
      · obtain ⟨c, hc⟩ : ∃ c : Int, atI (ns.map V.int) pos = some (.int c) := by
          obtain ⟨v, e, hv, _⟩ := at_lt (xs := ns.map V.int) h0 h1
          obtain ⟨z, _, rfl⟩ := List.mem_map.mp hv
          exact ⟨z, e⟩
        wtm_at "jw"
        refine c_dec (fun h2 => ?_) (fun h2 => ?_)
        · wtm_at "jw"
          exact fin _ (pos + 1) _ _ _ (by omega) upd_same (Kp.upd.trans Kp.upd)
        · wtm_at "jw"
          exact fin _ (pos + 1) _ _ _ (by omega) upd_same (Kp.upd.trans Kp.upd)
      · wtm_at "jw"
        refine c_dec (fun h2 => ?_) (fun h2 => ?_)
        · wtm_at "jw"
          exact fin _ (pos + 1) _ _ _ (by omega) upd_same (Kp.upd.trans Kp.upd)
        · wtm_at "jw"
          exact fin _ (pos + 1) _ _ _ (by omega) upd_same (Kp.upd.trans Kp.upd)

def sp__law_pick (K : PySem.W.Frag) : Sp := fun vs H Q _ => ∃ (p a b : Addr) (xs : List V), vs = [.ref p, .ref b] ∧ DrawAt H p a ∧ ((b ≠ p ∧ SqL K H b xs) ∨ SqT K H b xs) ∧ 0 < xs.length ∧ xs.length < 1073741824 ∧
  ∀ (x : V) (H' : Hp), x ∈ xs → Drew p a H H' → Q x H'
theorem ok__law_pick {P : Program} {w : World} {K : PySem.W.Frag} {mg : Str → Option Value} {base : Heap} {C_Store : Addr} {C_NoState : Addr} {f : Addr} {fd : FuncData} (F : Df K mg "_law_pick" s__law_pick f fd ["d", "row"]) (T : Txt K mg C_Store C_NoState)
    (c__law_draw : Cl P w K mg base 1 "_law_draw" (sp__law_draw K)) : FnOk P w K mg base CX0 2 f fd ["d", "row"] (sp__law_pick K) := by
  refine F.ok sc__law_pick (fun vs H Q E h => ?_) (fun cdv A outer s H vs Q E hr h => ?_)
  · obtain ⟨p, a, b, xs, rfl, _⟩ := h
    rfl
  · obtain ⟨p, a, b, xs, rfl, hd, hb, hl0, hl1, k⟩ := h
    refine ⟨_, (pss_one (ps_ret (pe_ix (r := rIx K) ix_seq (pv 1) (pe_cl c__law_draw hr (by decide) rfl (pa_cons (pv 0) (pa_cons (pe_callB (id := "len") (r := qLen K) c_len (by rfl) T.b_len (by decide +kernel) (pa_cons (pv 1) pa_nil)) pa_nil))) (fun _ _ => rfl)))), ?_⟩
    try dsimp only [cxOf, Cx.nox, Cx.wish]
    refine st_of (σ' := [some _, some _]) rfl ?_
    rcases hb with ⟨nb, hb⟩ | hb
    all_goals
      wtm_at "jw"
      refine ⟨p, a, _, rfl, hd, by omega, by omega, fun r H' hr0 hr1 w => ?_⟩
      obtain ⟨v, e, hv, _⟩ := at_lt hr0 hr1
    · have hb' := w.kp.seq hb nb
      wtm_at "jw"
      exact k _ _ hv w
    · have hb' := (w.tps hd).sq hb
      wtm_at "jw"
      exact k _ _ hv w

/-! ### pairs of ints, tuples of them -/
/-- the pairs of rows stand at rs -/
def Prw (H : Hp) (rs : List Addr) (rows : List (Int × Int)) : Prop := rs.length = rows.length ∧ ∀ (i : Nat) (r : Addr) (p : Int × Int), rs[i]? = some r → rows[i]? = some p → H r = some (.tup [.int p.1, .int p.2])
/-- a tuple of pairs -/
def Prs (H : Hp) (a : Addr) (rows : List (Int × Int)) : Prop := ∃ rs : List Addr, H a = some (.tup (rs.map V.ref)) ∧ Prw H rs rows
/-- a list of pairs -/
def LPr (H : Hp) (a : Addr) (rows : List (Int × Int)) : Prop := ∃ rs : List Addr, H a = some (.lst (rs.map V.ref)) ∧ Prw H rs rows
theorem Prw.nil {H : Hp} : Prw H [] [] := ⟨rfl, fun i r p h => by simp at h⟩
theorem Prw.tps {H H' : Hp} {rs : List Addr} {rows : List (Int × Int)} (w : Prw H rs rows) (t : Tps H H') : Prw H' rs rows := ⟨w.1, fun i r p h1 h2 => (t r).1 _ (w.2 i r p h1 h2)⟩
theorem Prw.same {H H' : Hp} {rs : List Addr} {rows : List (Int × Int)} (w : Prw H rs rows) (s : Same H H') : Prw H' rs rows := w.tps (Tps.of s)
theorem Prw.snoc {H : Hp} {rs : List Addr} {rows : List (Int × Int)} {q : Addr} {x y : Int} (w : Prw H rs rows) (h : H q = some (.tup [.int x, .int y])) : Prw H (rs ++ [q]) (rows ++ [(x, y)]) := by
  refine ⟨by simp [w.1], fun i r p h1 h2 => ?_⟩
  have hl := w.1
  by_cases hi : i < rs.length
  · rw [List.getElem?_append_left hi] at h1
    rw [List.getElem?_append_left (by omega)] at h2
    exact w.2 i r p h1 h2
  · rw [List.getElem?_append_right (by omega)] at h1
    rw [List.getElem?_append_right (by omega)] at h2
    rw [hl] at h1
    cases e : i - rows.length with
    | zero =>
      rw [e] at h1 h2
      cases h1
      cases h2
      exact h
    | succ n =>
      rw [e] at h1
      cases h1
theorem Prs.tps {H H' : Hp} {a : Addr} {rows : List (Int × Int)} (h : Prs H a rows) (t : Tps H H') : Prs H' a rows := by
  obtain ⟨rs, ha, w⟩ := h
  exact ⟨rs, (t a).1 _ ha, w.tps t⟩
theorem Prs.same {H H' : Hp} {a : Addr} {rows : List (Int × Int)} (h : Prs H a rows) (s : Same H H') : Prs H' a rows := h.tps (Tps.of s)
theorem LPr.same {H H' : Hp} {a : Addr} {rows : List (Int × Int)} (h : LPr H a rows) (s : Same H H') : LPr H' a rows := by
  obtain ⟨rs, ha, w⟩ := h
  exact ⟨rs, s _ _ ha, w.same s⟩
theorem LPr.kp {H H' : Hp} {p a : Addr} {xs : List V} {rows : List (Int × Int)} (h : LPr H a rows) (k : Kp p H H') (hp : H p = some (.lst xs)) (n : a ≠ p) : LPr H' a rows := by
  obtain ⟨rs, ha, w⟩ := h
  exact ⟨rs, k _ _ ha n, w.tps (k.tps hp)⟩
theorem Prw.put {H : Hp} {D : Addr} {rs : List Addr} {xs ys : List V} {rows : List (Int × Int)} (w : Prw H rs rows) (h : H D = some (.lst xs)) : Prw (upd H D (.lst ys)) rs rows := by
  refine ⟨w.1, fun i r p h1 h2 => ?_⟩
  have hr := w.2 i r p h1 h2
  rw [upd_ne (ne_of hr h (by intro z; cases z))]
  exact hr
/-- a new pair behind the others -/
theorem LPr.add {H : Hp} {D q : Addr} {rs : List Addr} {rows : List (Int × Int)} {x y : Int} (h : H D = some (.lst (rs.map V.ref))) (w : Prw H rs rows) (hq : H q = none) :
    LPr (upd (upd H q (.tup [.int x, .int y])) D (.lst (rs.map V.ref ++ [.ref q]))) D (rows ++ [(x, y)]) := by
  have hD : upd H q (.tup [.int x, .int y]) D = some (.lst (rs.map V.ref)) := by rw [upd_ne (ne_of_none h hq)]; exact h
  refine ⟨rs ++ [q], by rw [upd_same, List.map_append]; rfl, Prw.put (xs := rs.map V.ref) ((w.same (same_new hq)).snoc upd_same) hD⟩
/-- a pair that stands already -/
theorem LPr.add' {H : Hp} {D q : Addr} {rs : List Addr} {rows : List (Int × Int)} {x y : Int} (h : H D = some (.lst (rs.map V.ref))) (w : Prw H rs rows) (hq : H q = some (.tup [.int x, .int y])) :
    LPr (upd H D (.lst (rs.map V.ref ++ [.ref q]))) D (rows ++ [(x, y)]) :=
  ⟨rs ++ [q], by rw [upd_same, List.map_append]; rfl, (w.snoc hq).put h⟩
theorem Prw.at {H : Hp} {rs : List Addr} {rows : List (Int × Int)} {i : Nat} {v : V} (w : Prw H rs rows) (h : (rs.map V.ref)[i]? = some v) : ∃ r p, v = .ref r ∧ rs[i]? = some r ∧ rows[i]? = some p ∧ H r = some (.tup [.int p.1, .int p.2]) ∧ rows.take (i + 1) = rows.take i ++ [p] ∧ i < rows.length := by
  rw [List.getElem?_map] at h
  cases e : rs[i]? with
  | none => rw [e] at h; cases h
  | some r =>
    rw [e] at h
    have hi := (List.getElem?_eq_some_iff.mp e).1
    have hl := w.1
    have e2 : rows[i]? = some (rows[i]'(by omega)) := List.getElem?_eq_getElem (by omega)
    exact ⟨r, _, (Option.some.inj h).symm, rfl, e2, w.2 i r _ e e2, by rw [List.take_add_one, e2]; rfl, by omega⟩
def prD (p : Int × Int) : PyData := .tuple [.int p.1, .int p.2]
theorem dp_prs {K : PySem.W.Frag} {H : Hp} {a : Addr} {rows : List (Int × Int)} (h : Prs H a rows) : Dp K H (.ref a) (.tuple (rows.map prD)) := by
  obtain ⟨rs, ha, w⟩ := h
  refine .tup (SqT.of ha) (dpAll_of (by simp [w.1]) fun i x d h1 h2 => ?_)
  obtain ⟨r, p, rfl, e1, e2, hr, _⟩ := w.at h1
  rw [List.getElem?_map, e2] at h2
  cases h2
  exact dp_ints (ns := [p.1, p.2]) (SqT.of hr)
theorem shp_prs (rows : List (Int × Int)) : Shp 2 (.tuple (rows.map prD)) :=
  Shp.tup fun d hd => by
    obtain ⟨p, _, rfl⟩ := List.mem_map.mp hd
    exact Shp.tup fun e he => by
      rcases List.mem_cons.mp he with rfl | he
      · exact (Shp.int _)
      · rcases List.mem_cons.mp he with rfl | he
        · exact (Shp.int _)
        · cases he
theorem shp_ints (ns : List Int) : Shp 1 (.tuple (ns.map PyData.int)) :=
  Shp.tup fun d hd => by
    obtain ⟨p, _, rfl⟩ := List.mem_map.mp hd
    exact Shp.int _
theorem put_same {H H' : Hp} {D : Addr} {o : HO} (s : Same H H') (h : H D = none) : Same H (upd H' D o) := fun b u hb => by
  rw [upd_ne (ne_of_none hb h)]
  exact s _ _ hb
theorem tps_put {H : Hp} {D : Addr} {xs ys : List V} (h : H D = some (.lst xs)) : Tps H (upd H D (.lst ys)) := (Kp.upd (p := D)).tps h

/-! ### dicts with int keys -/
section
variable {K : PySem.W.Frag} {σ : L2.St} {H : Hp} {Q : VK}
theorem i_dget {td ty : TE} (h : td σ H fun x H1 => ty σ H1 fun y H2 => ∃ a v, x = .ref a ∧ DGet H2 a y (some v) ∧ Q v H2) : tDGet td ty σ H Q := h
theorem i_dgetI {p : Addr} {i : Int} {v : V} {kvs : List (L2.Key × V)} {R : V → Prop} (h : Rd H p (.dK kvs)) (e : valV kvs (.inl i) = some v) (q : R v) : ∃ a v', V.ref p = .ref a ∧ DGet H a (.int i) (some v') ∧ R v' :=
  ⟨p, v, rfl, .inl ⟨kvs, .inl i, h, rfl, e.symm⟩, q⟩
theorem i_din {td ty : TE} (h : ty σ H fun y H1 => td σ H1 fun x H2 => ∃ a o, x = .ref a ∧ DGet H2 a y o ∧ Q (.bl o.isSome) H2) : tDIn ty td σ H Q := h
theorem i_dinI {p : Addr} {i : Int} {kvs : List (L2.Key × V)} {R : Option V → Prop} (h : Rd H p (.dK kvs)) (q : R (valV kvs (.inl i))) : ∃ a o, V.ref p = .ref a ∧ DGet H a (.int i) o ∧ R o :=
  ⟨p, _, rfl, .inl ⟨kvs, .inl i, h, rfl, rfl⟩, q⟩
theorem i_dput {td ty tv : TE} {nx : L2.St → Hp → Prop} {rt : VK} {bk ct : L2.St → Hp → Prop} (h : tv σ H fun v H1 => td σ H1 fun x H2 => ty σ H2 fun y H3 => ∃ a H4, x = .ref a ∧ DPut H3 a y v H4 ∧ nx σ H4) : sDPut td ty tv ⟨nx, rt, bk, ct⟩ σ H := h
theorem i_dputI {p : Addr} {i : Int} {v : V} {kvs : List (L2.Key × V)} {R : Hp → Prop} (h : H p = some (.dK kvs)) (hl : kvs.length ≤ 10000) (q : R (upd H p (.dK (putK kvs (.inl i) v)))) : ∃ a H4, V.ref p = .ref a ∧ DPut H a (.int i) v H4 ∧ R H4 :=
  ⟨p, _, rfl, .inl ⟨kvs, .inl i, h, rfl, by rw [sizeLine_eq]; omega, rfl⟩, q⟩
theorem i_dnew (q : ∀ p, H p = none → Q (.ref p) (upd H p (.dK []))) : tDNewK σ H Q := q
def rSortDI : List V → Hp → VK → Prop := fun xs H Q => ∃ (a : Addr) (kvs : List (L2.Key × V)) (ks : List Int), xs = [.ref a] ∧ Rd H a (.dK kvs) ∧ kvs.map (·.1) = ks.map Sum.inl ∧ ks.length < 64 ∧ ∀ (ys : List Int) (p : Addr), ys.Perm ks → ys.Pairwise (· ≤ ·) → H p = none → Q (.ref p) (upd H p (.lst (ys.map V.int)))
theorem c_sortDI {X : Cx} (hc : X.calm = true) : CallR X (.builtin "sorted") rSortDI := call_sortedDI hc
end
/-- the dict's entries are the map m of ints -/
def DI (kvs : List (L2.Key × V)) (m : Int → Option Int) : Prop := (∀ i : Int, valV kvs (.inl i) = (m i).map V.int) ∧ ∃ ks : List Int, kvs.map (·.1) = ks.map Sum.inl ∧ ks.Nodup
theorem DI.nil : DI [] fun _ => none := ⟨fun _ => rfl, [], rfl, List.nodup_nil⟩
theorem putK_keys {kvs : List (L2.Key × V)} {k : L2.Key} {v : V} : (putK kvs k v).map (·.1) = if (valV kvs k).isSome = true then kvs.map (·.1) else kvs.map (·.1) ++ [k] := by
  unfold putK
  rw [valV_any]
  by_cases h : (valV kvs k).isSome = true
  · rw [if_pos h, if_pos h, List.map_map]
    refine List.map_congr_left fun p _ => ?_
    show (if p.1 = k then (p.1, v) else p).1 = p.1
    split <;> rfl
  · rw [if_neg h, if_neg h, List.map_append]
    rfl
theorem DI.put {kvs : List (L2.Key × V)} {m : Int → Option Int} {i v : Int} (d : DI kvs m) : DI (putK kvs (.inl i) (.int v)) (fun j => if j = i then some v else m j) := by
  obtain ⟨h, ks, hk, hn⟩ := d
  refine ⟨fun j => ?_, ?_⟩
  · rw [valV_put]
    show _ = Option.map V.int (if j = i then some v else m j)
    by_cases e : j = i
    · subst e
      rw [if_pos rfl, if_pos rfl]
      rfl
    · rw [if_neg (by intro z; exact e (Sum.inl.inj z)), if_neg e]
      exact h j
  · rw [putK_keys]
    by_cases e : (valV kvs (.inl i)).isSome = true
    · rw [if_pos e]
      exact ⟨ks, hk, hn⟩
    · rw [if_neg e, hk]
      refine ⟨ks ++ [i], by rw [List.map_append]; rfl, ?_⟩
      have hni : ¬ i ∈ ks := fun hi => by
        have e1 : valV kvs (.inl i) = none := by
          cases q : valV kvs (.inl i) with
          | none => rfl
          | some z => rw [q] at e; exact absurd rfl e
        refine valV_not e1 ?_
        rw [hk]
        exact List.mem_map.mpr ⟨i, hi, rfl⟩
      exact nd_snoc hn hni
theorem DI.mem {kvs : List (L2.Key × V)} {m : Int → Option Int} {ks : List Int} (d : DI kvs m) (hk : kvs.map (·.1) = ks.map Sum.inl) (i : Int) : i ∈ ks ↔ (m i).isSome = true := by
  have h := d.1 i
  constructor
  · intro hi
    cases e : m i with
    | some z => rfl
    | none =>
      rw [e] at h
      refine absurd ?_ (valV_not h)
      rw [hk]
      exact List.mem_map.mpr ⟨i, hi, rfl⟩
  · intro hi
    obtain ⟨z, hz⟩ := Option.isSome_iff_exists.mp hi
    rw [hz] at h
    have := valV_in h
    rw [hk] at this
    obtain ⟨j, hj, e⟩ := List.mem_map.mp this
    exact Sum.inl.inj e ▸ hj
/-- distinct ints of 0 .. n - 1 are at most n -/
theorem nodup_len : ∀ (n : Nat) (l : List Int), l.Nodup → (∀ x ∈ l, 0 ≤ x ∧ x < n) → l.length ≤ n
  | 0, l, _, h => by
    cases l with
    | nil => exact Nat.le_refl _
    | cons x r => have := h x List.mem_cons_self; omega
  | n + 1, l, hn, h => by
    by_cases hm : (n : Int) ∈ l
    · have e := List.length_erase_of_mem hm
      have := nodup_len n (l.erase (n : Int)) (hn.erase _) fun x hx => by
        have h1 := (List.Nodup.mem_erase_iff hn).mp hx
        have h2 := h x h1.2
        have : x ≠ (n : Int) := h1.1
        omega
      omega
    · have := nodup_len n l hn fun x hx => by
        have h2 := h x hx
        have : x ≠ (n : Int) := fun e => hm (e ▸ hx)
        omega
      omega
theorem DI.len {kvs : List (L2.Key × V)} {m : Int → Option Int} {n : Nat} (d : DI kvs m) (h : ∀ i, (m i).isSome = true → 0 ≤ i ∧ i < n) : kvs.length ≤ n := by
  obtain ⟨ks, hk, hn⟩ := d.2
  have e : kvs.length = ks.length := by
    have := congrArg List.length hk
    rw [List.length_map, List.length_map] at this
    exact this
  rw [e]
  exact nodup_len n ks hn fun x hx => h x ((d.mem hk x).mp hx)
/-- ints in order, all of them distinct -/
theorem lt_of_le_nodup : ∀ {l : List Int}, l.Pairwise (· ≤ ·) → l.Nodup → l.Pairwise (· < ·)
  | [], _, _ => .nil
  | a :: r, h, n => by
    rw [List.pairwise_cons] at h
    rw [List.nodup_cons] at n
    refine List.pairwise_cons.mpr ⟨fun x hx => ?_, lt_of_le_nodup h.2 n.2⟩
    have h1 := h.1 x hx
    have h2 : x ≠ a := fun e => n.1 (e ▸ hx)
    omega
theorem sorted_ext : ∀ {l1 l2 : List Int}, l1.Pairwise (· < ·) → l2.Pairwise (· < ·) → (∀ x, x ∈ l1 ↔ x ∈ l2) → l1 = l2
  | [], [], _, _, _ => rfl
  | [], b :: r, _, _, h => by have := (h b).mpr List.mem_cons_self; cases this
  | a :: r, [], _, _, h => by have := (h a).mp List.mem_cons_self; cases this
  | a :: r, b :: t, h1, h2, h => by
    rw [List.pairwise_cons] at h1 h2
    have ha := (h a).mp List.mem_cons_self
    have hb := (h b).mpr List.mem_cons_self
    have e : a = b := by
      rcases List.mem_cons.mp ha with e | ha
      · exact e
      · rcases List.mem_cons.mp hb with e | hb
        · exact e.symm
        · have := h2.1 a ha
          have := h1.1 b hb
          omega
    subst e
    rw [sorted_ext h1.2 h2.2 fun x => ⟨fun hx => ?_, fun hx => ?_⟩]
    · rcases List.mem_cons.mp ((h x).mp (List.mem_cons_of_mem _ hx)) with e | q
      · have := h1.1 x hx
        omega
      · exact q
    · rcases List.mem_cons.mp ((h x).mpr (List.mem_cons_of_mem _ hx)) with e | q
      · have := h2.1 x hx
        omega
      · exact q
theorem putK_le {kvs : List (L2.Key × V)} {k : L2.Key} {v : V} : (putK kvs k v).length ≤ kvs.length + 1 := by
  have h := congrArg List.length (putK_keys (kvs := kvs) (k := k) (v := v))
  rw [List.length_map] at h
  rw [h]
  split
  · rw [List.length_map]; omega
  · rw [List.length_append, List.length_map]; simp

theorem inV_ints (z : Int) (ns : List Int) : inV (.int z) (ns.map V.int) = decide (z ∈ ns) := by
  unfold inV
  rw [List.any_map, Bool.eq_iff_iff, List.any_eq_true, decide_eq_true_eq]
  constructor
  · rintro ⟨y, hy, e⟩
    have : y = z := by simpa [eqV] using e
    exact this ▸ hy
  · intro h
    exact ⟨z, h, by simp [eqV]⟩
theorem flat_ints (ns : List Int) : (ns.map V.int).all flatV = true := by
  rw [List.all_map, List.all_eq_true]
  intro x _
  rfl
section
variable {K : PySem.W.Frag} {H : Hp} {Q : VK} {p : Addr} {z : Int} {ns : List Int}
theorem i_inT (h : SqT K H p (ns.map V.int)) (q : Q (.bl (decide (z ∈ ns))) H) : rIn K false (.int z) (.ref p) H Q := ⟨p, _, rfl, .inr h, rfl, flat_ints ns, by rw [inV_ints]; exact q⟩
theorem i_inL (h : SqL K H p (ns.map V.int)) (q : Q (.bl (decide (z ∈ ns))) H) : rIn K false (.int z) (.ref p) H Q := ⟨p, _, rfl, .inl h, rfl, flat_ints ns, by rw [inV_ints]; exact q⟩
theorem i_ninT (h : SqT K H p (ns.map V.int)) (q : Q (.bl (!decide (z ∈ ns))) H) : rIn K true (.int z) (.ref p) H Q := ⟨p, _, rfl, .inr h, rfl, flat_ints ns, by rw [inV_ints]; exact q⟩
theorem i_ninL (h : SqL K H p (ns.map V.int)) (q : Q (.bl (!decide (z ∈ ns))) H) : rIn K true (.int z) (.ref p) H Q := ⟨p, _, rfl, .inl h, rfl, flat_ints ns, by rw [inV_ints]; exact q⟩
end

/-! ### the rows, plainly -/
def rowsN (c : Nat → Option Int) : Nat → List (Int × Int)
  | 0 => []
  | k + 1 => rowsN c k ++ (match c k with | some v => [((k : Int), v)] | none => [])
def dfc (os ns : List Int) (k : Nat) : Option Int := if os[k]? = ns[k]? then none else ns[k]?
def df (os ns : List Int) : List (Int × Int) := rowsN (dfc os ns) ns.length
def ap (os : List Int) (rows : List (Int × Int)) : List Int := rows.foldl (fun l p => l.set p.1.toNat p.2) os
def thB (os : List Int) (p : Int × Int) : Bool := !decide (os[p.1.toNat]? = some p.2)
def th (os : List Int) (rows : List (Int × Int)) : List (Int × Int) := rows.filter (thB os)
theorem rowsN_congr {c c' : Nat → Option Int} : ∀ {n : Nat}, (∀ k, k < n → c k = c' k) → rowsN c n = rowsN c' n
  | 0, _ => rfl
  | n + 1, h => by
    rw [rowsN, rowsN, rowsN_congr (n := n) fun k hk => h k (by omega), h n (by omega)]
theorem rowsN_none : ∀ n : Nat, rowsN (fun _ => none) n = []
  | 0 => rfl
  | n + 1 => by rw [rowsN, rowsN_none n]; rfl
theorem rowsN_len (c : Nat → Option Int) : ∀ n : Nat, (rowsN c n).length ≤ n
  | 0 => Nat.le_refl _
  | n + 1 => by
    have := rowsN_len c n
    rw [rowsN, List.length_append]
    cases c n <;> simp <;> omega
theorem rowsN_in {c : Nat → Option Int} {p : Int × Int} : ∀ {n : Nat}, p ∈ rowsN c n → 0 ≤ p.1 ∧ p.1 < n
  | 0, h => by cases h
  | n + 1, h => by
    rw [rowsN, List.mem_append] at h
    rcases h with h | h
    · have := rowsN_in h
      omega
    · cases e : c n with
      | none => rw [e] at h; cases h
      | some v =>
        rw [e] at h
        rcases List.mem_cons.mp h with rfl | h
        · show (0 : Int) ≤ (n : Int) ∧ (n : Int) < ((n + 1 : Nat) : Int)
          omega
        · cases h
theorem ap_len (rows : List (Int × Int)) : ∀ os : List Int, (ap os rows).length = os.length := by
  unfold ap
  induction rows with
  | nil => intro os; rfl
  | cons p r ih => intro os; rw [List.foldl_cons, ih, List.length_set]
theorem ap_snoc (os : List Int) (rows : List (Int × Int)) (p : Int × Int) : ap os (rows ++ [p]) = (ap os rows).set p.1.toNat p.2 := by
  unfold ap
  rw [List.foldl_append]
  rfl
theorem ap_at (os : List Int) (c : Nat → Option Int) : ∀ (n j : Nat), n ≤ os.length → (ap os (rowsN c n))[j]? = if j < n then some ((c j).getD (os[j]?.getD 0)) else os[j]?
  | 0, j, _ => by rw [if_neg (Nat.not_lt_zero j)]; rfl
  | n + 1, j, h => by
    have ih := ap_at os c n j (by omega)
    rw [rowsN]
    cases e : c n with
    | none =>
      rw [List.append_nil, ih]
      by_cases h1 : j < n
      · rw [if_pos h1, if_pos (by omega)]
      · rw [if_neg h1]
        by_cases h2 : j = n
        · subst h2
          rw [if_pos (by omega), e, List.getElem?_eq_getElem (by omega)]
          rfl
        · rw [if_neg (by omega)]
    | some v =>
      rw [ap_snoc]
      show ((ap os (rowsN c n)).set n v)[j]? = _
      by_cases h2 : n = j
      · subst h2
        rw [List.getElem?_set_self (by rw [ap_len]; omega), if_pos (by omega), e]
        rfl
      · rw [List.getElem?_set_ne h2, ih]
        by_cases h1 : j < n
        · rw [if_pos h1, if_pos (by omega)]
        · rw [if_neg h1, if_neg (by omega)]
theorem th_rows (os : List Int) (c : Nat → Option Int) : ∀ n : Nat, th os (rowsN c n) = rowsN (fun j => if os[j]? = c j then none else c j) n
  | 0 => rfl
  | n + 1 => by
    have ih := th_rows os c n
    unfold th at ih ⊢
    rw [rowsN, rowsN, List.filter_append, ih]
    congr 1
    cases e : c n with
    | none => by_cases h : os[n]? = none <;> simp [h]
    | some v => by_cases h : os[n]? = some v <;> simp [h, thB]
theorem ap_df {os ns : List Int} (h : os.length = ns.length) : ap os (df os ns) = ns := by
  apply List.ext_getElem?
  intro j
  unfold df
  rw [ap_at _ _ _ _ (by omega)]
  by_cases hj : j < ns.length
  · rw [if_pos hj]
    have e1 : ns[j]? = some ns[j] := List.getElem?_eq_getElem hj
    have e2 : os[j]? = some (os[j]'(by omega)) := List.getElem?_eq_getElem (by omega)
    unfold dfc
    by_cases e : os[j]? = ns[j]?
    · rw [if_pos e, e, e1]; rfl
    · rw [if_neg e, e1]; rfl
  · rw [if_neg hj, List.getElem?_eq_none (by omega), List.getElem?_eq_none (by omega)]
theorem th_df (os ns : List Int) : th os (df os ns) = df os ns := by
  unfold df
  rw [th_rows]
  refine rowsN_congr fun j hj => ?_
  unfold dfc
  by_cases e : os[j]? = ns[j]?
  · rw [if_pos e]; simp
  · rw [if_neg e, if_neg e]
theorem th_df0 (os ns : List Int) : th ns (df os ns) = [] := by
  unfold df
  rw [th_rows]
  rw [← rowsN_none ns.length]
  refine rowsN_congr fun j hj => ?_
  unfold dfc
  by_cases e : os[j]? = ns[j]?
  · rw [if_pos e]; simp
  · rw [if_neg e]; simp
def evr (ns : List Int) : List (Int × Int) := rowsN (fun k => ns[k]?) ns.length
theorem ap_evr {os ns : List Int} (h : os.length = ns.length) : ap os (evr ns) = ns := by
  apply List.ext_getElem?
  intro j
  unfold evr
  rw [ap_at _ _ _ _ (by omega)]
  by_cases hj : j < ns.length
  · rw [if_pos hj, List.getElem?_eq_getElem hj]; rfl
  · rw [if_neg hj, List.getElem?_eq_none (by omega), List.getElem?_eq_none (by omega)]
theorem th_evr (os ns : List Int) : th os (evr ns) = df os ns := by
  unfold evr df
  rw [th_rows]
  rfl
theorem th_ap (os : List Int) (c : Nat → Option Int) : th os (rowsN c os.length) = df os (ap os (rowsN c os.length)) := by
  unfold df
  rw [th_rows, ap_len]
  refine rowsN_congr fun j hj => ?_
  unfold dfc
  rw [ap_at _ _ _ _ (Nat.le_refl _), if_pos hj]
  have e2 : os[j]? = some (os[j]'(by omega)) := List.getElem?_eq_getElem (by omega)
  rw [e2]
  cases e : c j with
  | none => simp
  | some v => simp
theorem rowsN_dfn {os ns : List Int} {i : Nat} (h : os[i]? = ns[i]?) : rowsN (dfc os ns) (i + 1) = rowsN (dfc os ns) i := by
  rw [rowsN]
  unfold dfc
  rw [if_pos h, List.append_nil]
theorem rowsN_dfs {os ns : List Int} {i : Nat} {v : Int} (h : ¬ os[i]? = ns[i]?) (hv : ns[i]? = some v) : rowsN (dfc os ns) (i + 1) = rowsN (dfc os ns) i ++ [((i : Int), v)] := by
  rw [rowsN]
  have e : dfc os ns i = some v := by
    unfold dfc
    rw [if_neg h, hv]
  rw [e]
/-- the int at a place of a row of ints -/
theorem int_at {ns : List Int} {i : Nat} (h : i < ns.length) : ∃ z : Int, ns[i]? = some z ∧ atI (ns.map V.int) ((0 : Int) + (i : Int)) = some (.int z) := by
  obtain ⟨v, e, hv, e2⟩ := at_lt (xs := ns.map V.int) (i := (0 : Int) + (i : Int)) (by omega) (by rw [List.length_map]; omega)
  have hi : ((0 : Int) + (i : Int)).toNat = i := by omega
  rw [hi] at e2
  obtain ⟨z, rfl, hz, _⟩ := ints_at e2
  exact ⟨z, hz, e⟩
/-! ### the walk -/
def sp_difference (K : PySem.W.Frag) : Sp := fun vs H Q _ => ∃ (a b : Addr) (os ns : List Int), vs = [.ref a, .ref b] ∧ SqT K H a (os.map V.int) ∧ SqT K H b (ns.map V.int) ∧ os.length = ns.length ∧ ns.length ≤ 1000 ∧
  ∀ (r : Addr) (H' : Hp), Same H H' → Prs H' r (df os ns) → Q (.ref r) H'
theorem ok_difference {P : Program} {w : World} {K : PySem.W.Frag} {mg : Str → Option Value} {base : Heap} {C_Store : Addr} {C_NoState : Addr} {f : Addr} {fd : FuncData} (F : Df K mg "difference" s_difference f fd ["old", "new"]) (T : Txt K mg C_Store C_NoState) : FnOk P w K mg base CX0 1 f fd ["old", "new"] (sp_difference K) := by
  refine F.ok sc_difference (fun vs H Q E h => ?_) (fun cdv A outer s H vs Q E hr h => ?_)
  · obtain ⟨a, b, os, ns, rfl, _⟩ := h
    rfl
  · obtain ⟨a, b, os, ns, rfl, ha, hb, hl, h1, q⟩ := h
    refine ⟨_, (pss_one (ps_ret (pe_callTy (T := "tuple") (r := rTupOf K) c_tup (by rfl) T.b_tuple (by decide +kernel) (pa_cons (pe_lc (own := [("k", 2)]) (g := gName 2) rfl sc_difference.nd (pi_range1 rfl T.b_range (pa_cons (pe_callB (id := "len") (r := qLen K) c_len (by rfl) T.b_len (by decide +kernel) (pa_cons (pv 1) pa_nil)) pa_nil)) (blkOk_by (own := [("k", 2)]) (N := N_difference) (sc := defScope s_difference) (by decide +kernel)) (fun _ _ _ _ _ => (pg_name (i := 2) sc_difference.nd rfl (Or.inl rfl))) (fun _ _ _ _ _ => pts_one (pt_cmpR op_ne (pe_ix (r := rIxT K) ix_tup (pv 0) (pv 2) (fun _ _ => rfl)) (pe_ix (r := rIxT K) ix_tup (pv 1) (pv 2) (fun _ _ => rfl)) (nomark _))) (fun _ _ _ _ _ => (pe_tup (pa_cons (pv 2) (pa_cons (pe_ix (r := rIxT K) ix_tup (pv 1) (pv 2) (fun _ _ => rfl)) pa_nil))))) pa_nil)))), ?_⟩
    try dsimp only [cxOf, Cx.nox, Cx.wish]
    refine st_of (σ' := [some _, some _, none]) rfl ?_
    wtm_at "jw"
    intro D hD
    refine l_range (fun i H' => Same H H' ∧ LPr H' D (rowsN (dfc os ns) i)) ⟨same_new hD, [], upd_same, Prw.nil⟩ (fun i H' hi h => ?_) (fun H' h => ?_)
    · obtain ⟨s, rs, hD', w⟩ := h
      rw [List.length_map] at hi
      have hi' : i < ns.length := by omega
      have ha' := Same.tup s ha
      have hb' := Same.tup s hb
      obtain ⟨x, ex, ex2⟩ := int_at (ns := os) (i := i) (by omega)
      obtain ⟨y, ey, ey2⟩ := int_at (ns := ns) (i := i) (by omega)
      have hrl : rs.length ≤ i := by rw [w.1]; exact rowsN_len _ _
      wtm_at "jw"
      refine ⟨rfl, ?_⟩
      wtm_at "jw"
      refine c_decN (fun hne => ?_) (fun he => ?_)
      · wtm_at "jw"
        intro q hq
        have hb2 := Same.tup (same_new (o := .tup [V.int (0 + (i : Int)), V.int y]) hq) hb'
        wtm_at "jw"
        have hD2 : upd H' q (.tup [V.int (0 + (i : Int)), V.int y]) D = some (.lst (rs.map V.ref)) := same_new hq _ _ hD'
        refine ⟨_, hD2, small1000 (by rw [List.length_map]; omega), fun b o hbo => ?_, ?_⟩
        · rw [upd_ne (ne_of_none hbo hD)]
          exact same_new hq _ _ (s _ _ hbo)
        · rw [rowsN_dfs (by rw [ex, ey]; intro h; exact hne (Option.some.inj h)) ey]
          have e0 := LPr.add (x := 0 + (i : Int)) (y := y) hD' w hq
          rw [Int.zero_add] at e0 ⊢
          exact e0
      · refine ⟨s, rs, hD', ?_⟩
        rw [rowsN_dfn (by rw [ex, ey, he])]
        exact w
    · obtain ⟨s, rs, hD', w⟩ := h
      wtm_at "jw"
      intro q1 hq
      refine q q1 _ (s.trans (same_new hq)) ⟨rs, upd_same, ?_⟩
      rw [List.length_map] at w
      exact w.same (same_new hq)
def sp_changed (K : PySem.W.Frag) : Sp := fun vs H Q _ => ∃ (a b : Addr) (os : List Int) (rows : List (Int × Int)), vs = [.ref a, .ref b] ∧ SqT K H a (os.map V.int) ∧ Prs H b rows ∧ os.length ≤ 1000 ∧ (∀ p ∈ rows, 0 ≤ p.1 ∧ p.1 < os.length) ∧
  ∀ (r : Addr) (H' : Hp), Same H H' → H' r = some (.tup ((ap os rows).map V.int)) → Q (.ref r) H'
theorem ok_changed {P : Program} {w : World} {K : PySem.W.Frag} {mg : Str → Option Value} {base : Heap} {C_Store : Addr} {C_NoState : Addr} {f : Addr} {fd : FuncData} (F : Df K mg "changed" s_changed f fd ["old", "rows"]) (T : Txt K mg C_Store C_NoState) : FnOk P w K mg base CX0 1 f fd ["old", "rows"] (sp_changed K) := by
  refine F.ok sc_changed (fun vs H Q E h => ?_) (fun cdv A outer s H vs Q E hr h => ?_)
  · obtain ⟨a, b, os, rows, rfl, _⟩ := h
    rfl
  · obtain ⟨a, b, os, rows, rfl, ha, ⟨rs, hb, w⟩, hl, hin, q⟩ := h
    refine ⟨_, (pss_cons (ps_set (i := 2) sc_changed.nd rfl (Or.inl rfl) (pe_callTy (T := "list") (r := rLstOf K) c_lst (by rfl) T.b_list (by decide +kernel) (pa_cons (pv 0) pa_nil)))
      (pss_cons (ps_for PassesOwn.never rfl (pi_tup (pv 1)) (pg_tupK (K := K) rfl rfl (pgs_cons (pg_name (i := 3) sc_changed.nd rfl (Or.inl rfl)) (pgs_cons (pg_name (i := 4) sc_changed.nd rfl (Or.inl rfl)) pgs_nil))) (pss_one (ps_asg (pv 4) (pg_sub (pv 2) (pv 3) set_list))))
      (pss_one (ps_ret (pe_callTy (T := "tuple") (r := rTupOf K) c_tup (by rfl) T.b_tuple (by decide +kernel) (pa_cons (pv 2) pa_nil)))))), ?_⟩
    try dsimp only [cxOf, Cx.nox, Cx.wish]
    refine st_of (σ' := [some _, some _, none, none, none]) rfl ?_
    wtm_at "jw"
    intro L hL
    have hbL : upd H L (.lst (os.map V.int)) b = some (.tup (rs.map V.ref)) := same_new hL _ _ hb
    wtm_at "jw"
    refine f_tup (xs := rs.map V.ref) (fun i σ H' => Same H H' ∧ H' L = some (.lst ((ap os (rows.take i)).map V.int)) ∧ ∃ v1 v2, σ = [some (.ref a), some (.ref b), some (.ref L), v1, v2]) ⟨same_new hL, upd_same, none, none, rfl⟩ (fun i σ H' _ h => SqT.of (h.1 _ _ hb)) (fun i x σ H' hi h => ?_) (fun σ H' h => ?_)
    · obtain ⟨s, hL', v1, v2, rfl⟩ := h
      obtain ⟨r, p, rfl, e1, e2, hr', e3, hlt⟩ := (w.same s).at hi
      obtain ⟨p0, p1⟩ := hin p (List.mem_of_getElem? e2)
      have ej := ixN_of (n := ((ap os (rows.take i)).map V.int).length) p0 (by rw [List.length_map, ap_len]; exact p1)
      wtm_at "jw"
      refine ⟨fun b o hbo => ?_, ?_, _, _, rfl⟩
      · rw [upd_ne (ne_of_none hbo hL)]
        exact s _ _ hbo
      · rw [upd_same, e3, ap_snoc, List.map_set]
    · obtain ⟨s, hL', v1, v2, rfl⟩ := h
      rw [List.length_map, w.1, List.take_length] at hL'
      wtm_at "jw"
      intro q1 hq
      exact q q1 _ (s.trans (same_new hq)) upd_same
theorem th_yes {os : List Int} {l r : List (Int × Int)} {p : Int × Int} (e : r = l ++ [p]) (h : ¬ os[p.1.toNat]? = some p.2) : th os r = th os l ++ [p] := by
  subst e
  unfold th
  rw [List.filter_append]
  simp [thB, h]
theorem th_no {os : List Int} {l r : List (Int × Int)} {p : Int × Int} (e : r = l ++ [p]) (h : os[p.1.toNat]? = some p.2) : th os r = th os l := by
  subst e
  unfold th
  rw [List.filter_append]
  simp [thB, h]
theorem th_len (os : List Int) (l : List (Int × Int)) : (th os l).length ≤ l.length := List.length_filter_le _ _
def sp_thinned (K : PySem.W.Frag) : Sp := fun vs H Q _ => ∃ (a b : Addr) (os : List Int) (rows : List (Int × Int)), vs = [.ref a, .ref b] ∧ SqT K H a (os.map V.int) ∧ Prs H b rows ∧ os.length ≤ 1000 ∧ rows.length ≤ 1000 ∧ (∀ p ∈ rows, 0 ≤ p.1 ∧ p.1 < os.length) ∧
  ∀ (r : Addr) (H' : Hp), Same H H' → Prs H' r (th os rows) → Q (.ref r) H'
theorem ok_thinned {P : Program} {w : World} {K : PySem.W.Frag} {mg : Str → Option Value} {base : Heap} {C_Store : Addr} {C_NoState : Addr} {f : Addr} {fd : FuncData} (F : Df K mg "thinned" s_thinned f fd ["old", "rows"]) (T : Txt K mg C_Store C_NoState) : FnOk P w K mg base CX0 1 f fd ["old", "rows"] (sp_thinned K) := by
  refine F.ok sc_thinned (fun vs H Q E h => ?_) (fun cdv A outer s H vs Q E hr h => ?_)
  · obtain ⟨a, b, os, rows, rfl, _⟩ := h
    rfl
  · obtain ⟨a, b, os, rows, rfl, ha, ⟨rs, hb, w⟩, hl, hl2, hin, q⟩ := h
    refine ⟨_, (pss_one (ps_ret (pe_callTy (T := "tuple") (r := rTupOf K) c_tup (by rfl) T.b_tuple (by decide +kernel) (pa_cons (pe_lc (own := [("row", 2)]) (g := gName 2) rfl sc_thinned.nd (pi_tup (pv 1)) (blkOk_by (own := [("row", 2)]) (N := N_thinned) (sc := defScope s_thinned) (by decide +kernel)) (fun _ _ _ _ _ => (pg_name (i := 2) sc_thinned.nd rfl (Or.inl rfl))) (fun _ _ _ _ _ => pts_one (pt_cmpR op_ne (pe_ix (r := rIxT K) ix_tup (pv 0) (pe_ix (r := rIxT K) ix_tup (pv 2) pe_int (fun _ _ => rfl)) (fun _ _ => rfl)) (pe_ix (r := rIxT K) ix_tup (pv 2) pe_int (fun _ _ => rfl)) (nomark _))) (fun _ _ _ _ _ => (pv 2))) pa_nil)))), ?_⟩
    try dsimp only [cxOf, Cx.nox, Cx.wish]
    refine st_of (σ' := [some _, some _, none]) rfl ?_
    wtm_at "jw"
    intro D hD
    refine l_tup (xs := rs.map V.ref) (fun i H' => Same H H' ∧ LPr H' D (th os (rows.take i))) ⟨same_new hD, [], upd_same, Prw.nil⟩ (fun i H' _ h => SqT.of (h.1 _ _ hb)) (fun i x H' hi h => ?_) (fun H' h => ?_)
    · obtain ⟨s, ts, hD', w'⟩ := h
      have ha' := Same.tup s ha
      obtain ⟨r, p, rfl, e1, e2, hr', e3, hlt⟩ := (w.same s).at hi
      obtain ⟨p0, p1⟩ := hin p (List.mem_of_getElem? e2)
      have hrl : ts.length ≤ 1000 := by
        have h1 := th_len os (rows.take i)
        have h2 := List.length_take_le i rows
        have h3 := w'.1
        rw [List.length_take] at h1
        omega
      obtain ⟨v, ev, hv, ev2⟩ := at_lt (xs := os.map V.int) p0 (by rw [List.length_map]; exact p1)
      obtain ⟨x, rfl, ex, _⟩ := ints_at ev2
      wtm_at "jw"
      refine ⟨rfl, ?_⟩
      wtm_at "jw"
      refine c_decN (fun hne => ?_) (fun he => ?_)
      · wtm_at "jw"
        refine ⟨_, hD', small1000 (by rw [List.length_map]; omega), fun b o hbo => ?_, ?_⟩
        · rw [upd_ne (ne_of_none hbo hD)]
          exact s _ _ hbo
        · rw [th_yes e3 (by rw [ex]; intro h; exact hne (Option.some.inj h))]
          exact LPr.add' hD' w' hr'
      · refine ⟨s, ts, hD', ?_⟩
        rw [th_no e3 (by rw [ex, he])]
        exact w'
    · obtain ⟨s, ts, hD', w'⟩ := h
      wtm_at "jw"
      intro q1 hq
      refine q q1 _ (s.trans (same_new hq)) ⟨ts, upd_same, ?_⟩
      rw [List.length_map, w.1, List.take_length] at w'
      exact w'.same (same_new hq)
theorem df_in {os ns : List Int} (h : os.length = ns.length) : ∀ p ∈ df os ns, 0 ≤ p.1 ∧ p.1 < os.length := fun p hp => by
  have := rowsN_in hp
  omega
theorem df_len (os ns : List Int) : (df os ns).length ≤ ns.length := rowsN_len _ _

def mp (m : Int → Option Int) (rows : List (Int × Int)) : Int → Option Int := rows.foldl (fun m p => fun j => if j = p.1 then some p.2 else m j) m
theorem mp_snoc (m : Int → Option Int) (rows : List (Int × Int)) (p : Int × Int) : mp m (rows ++ [p]) = fun j => if j = p.1 then some p.2 else mp m rows j := by
  unfold mp
  rw [List.foldl_append]
  rfl
theorem mp_rows (m : Int → Option Int) (c : Nat → Option Int) (j : Int) : ∀ n : Nat, mp m (rowsN c n) j = if 0 ≤ j ∧ j < n then (c j.toNat).or (m j) else m j
  | 0 => by rw [if_neg (by omega)]; rfl
  | n + 1 => by
    have ih := mp_rows m c j n
    rw [rowsN]
    cases e : c n with
    | none =>
      rw [List.append_nil, ih]
      by_cases h : 0 ≤ j ∧ j < n
      · rw [if_pos h, if_pos (by omega)]
      · rw [if_neg h]
        by_cases h2 : j = n
        · subst h2
          rw [if_pos (by omega)]
          have : ((n : Int)).toNat = n := by omega
          rw [this, e]
          rfl
        · rw [if_neg (by omega)]
    | some v =>
      rw [mp_snoc]
      show (if j = (n : Int) then some v else mp m (rowsN c n) j) = _
      by_cases h2 : j = n
      · subst h2
        rw [if_pos rfl, if_pos (by omega)]
        have : ((n : Int)).toNat = n := by omega
        rw [this, e]
        rfl
      · rw [if_neg h2, ih]
        by_cases h : 0 ≤ j ∧ j < n
        · rw [if_pos h, if_pos (by omega)]
        · rw [if_neg h, if_neg (by omega)]
def cm (c c' : Nat → Option Int) : Nat → Option Int := fun k => (c' k).or (c k)
theorem rowsN_fst {c : Nat → Option Int} : ∀ {n : Nat}, ((rowsN c n).map (·.1)).Pairwise (· < ·)
  | 0 => .nil
  | n + 1 => by
    rw [rowsN, List.map_append]
    refine List.pairwise_append.mpr ⟨rowsN_fst, ?_, fun x hx y hy => ?_⟩
    · cases c n with
      | none => exact .nil
      | some v => exact List.pairwise_cons.mpr ⟨fun _ h => (nomatch h), .nil⟩
    · obtain ⟨p, hp, rfl⟩ := List.mem_map.mp hx
      have := rowsN_in hp
      cases e : c n with
      | none => rw [e] at hy; cases hy
      | some v =>
        rw [e] at hy
        rcases List.mem_cons.mp hy with rfl | hy
        · exact this.2
        · cases hy
theorem rowsN_mem {c : Nat → Option Int} {p : Int × Int} : ∀ {n : Nat}, p ∈ rowsN c n ↔ 0 ≤ p.1 ∧ p.1 < n ∧ c p.1.toNat = some p.2
  | 0 => ⟨fun h => (nomatch h), fun h => by omega⟩
  | n + 1 => by
    have ih := rowsN_mem (c := c) (p := p) (n := n)
    rw [rowsN, List.mem_append, ih]
    constructor
    · rintro (h | h)
      · exact ⟨h.1, by omega, h.2.2⟩
      · cases e : c n with
        | none => rw [e] at h; cases h
        | some v =>
          rw [e] at h
          rcases List.mem_cons.mp h with rfl | h
          · exact ⟨by show (0 : Int) ≤ (n : Int); omega, by show (n : Int) < _; omega, by show c (n : Int).toNat = _; rw [Int.toNat_natCast]; exact e⟩
          · cases h
    · rintro ⟨h1, h2, h3⟩
      by_cases hh : p.1 < n
      · exact .inl ⟨h1, hh, h3⟩
      · have e : p.1 = (n : Int) := by omega
        have e2 : p.1.toNat = n := by omega
        rw [e2] at h3
        rw [h3]
        refine .inr (List.mem_cons.mpr (.inl ?_))
        exact Prod.ext e rfl
theorem rows_of_keys {c : Nat → Option Int} {n : Nat} {ys : List Int} (hs : ys.Pairwise (· < ·)) (hm : ∀ y, y ∈ ys ↔ 0 ≤ y ∧ y < n ∧ (c y.toNat).isSome = true) : ys.map (fun y => (y, (c y.toNat).getD 0)) = rowsN c n := by
  have e : ys = (rowsN c n).map (·.1) := sorted_ext hs rowsN_fst fun y => by
    rw [hm, List.mem_map]
    constructor
    · rintro ⟨h1, h2, h3⟩
      obtain ⟨v, hv⟩ := Option.isSome_iff_exists.mp h3
      exact ⟨(y, v), rowsN_mem.mpr ⟨h1, h2, hv⟩, rfl⟩
    · rintro ⟨p, hp, rfl⟩
      obtain ⟨h1, h2, h3⟩ := rowsN_mem.mp hp
      exact ⟨h1, h2, by rw [h3]; rfl⟩
  rw [e, List.map_map]
  have : ∀ p ∈ rowsN c n, ((fun y => (y, (c y.toNat).getD 0)) ∘ fun (x : Int × Int) => x.1) p = p := fun p hp => by
    obtain ⟨h1, h2, h3⟩ := rowsN_mem.mp hp
    show (p.1, (c p.1.toNat).getD 0) = p
    rw [h3]
    rfl
  rw [List.map_congr_left this, List.map_id']
def mm (n : Nat) (c c' : Nat → Option Int) : Int → Option Int := fun j => if 0 ≤ j ∧ j < n then cm c c' j.toNat else none
theorem mp_two (n : Nat) (c c' : Nat → Option Int) : mp (mp (fun _ => none) (rowsN c n)) (rowsN c' n) = mm n c c' := by
  funext j
  rw [mp_rows, mp_rows]
  unfold mm cm
  by_cases h : 0 ≤ j ∧ j < n
  · rw [if_pos h, if_pos h, if_pos h]; simp
  · rw [if_neg h, if_neg h, if_neg h]
def sp_composed (K : PySem.W.Frag) : Sp := fun vs H Q _ => ∃ (a b : Addr) (n : Nat) (c c' : Nat → Option Int), vs = [.ref a, .ref b] ∧ Prs H a (rowsN c n) ∧ Prs H b (rowsN c' n) ∧ n ≤ 60 ∧
  ∀ (r : Addr) (H' : Hp), Same H H' → Prs H' r (rowsN (cm c c') n) → Q (.ref r) H'
theorem ok_composed {P : Program} {w : World} {K : PySem.W.Frag} {mg : Str → Option Value} {base : Heap} {C_Store : Addr} {C_NoState : Addr} {f : Addr} {fd : FuncData} (F : Df K mg "composed" s_composed f fd ["first", "second"]) (T : Txt K mg C_Store C_NoState) : FnOk P w K mg base CX0 1 f fd ["first", "second"] (sp_composed K) := by
  refine F.ok sc_composed (fun vs H Q E h => ?_) (fun cdv A outer s H vs Q E hr h => ?_)
  · obtain ⟨a, b, n, c, c', rfl, _⟩ := h
    rfl
  · obtain ⟨a, b, n, c, c', rfl, ⟨rs1, ha, w1⟩, ⟨rs2, hb, w2⟩, hn, q⟩ := h
    have l1 := rowsN_len c n
    have l2 := rowsN_len c' n
    have hu := hu_of hr
    refine ⟨_, (pss_cons (ps_set (i := 2) sc_composed.nd rfl (Or.inr rfl) pe_dnewK)
      (pss_cons (ps_for PassesOwn.never rfl (pi_tup (pv 0)) (pg_tupK (K := K) rfl rfl (pgs_cons (pg_name (i := 3) sc_composed.nd rfl (Or.inl rfl)) (pgs_cons (pg_name (i := 4) sc_composed.nd rfl (Or.inl rfl)) pgs_nil))) (pss_one (ps_dput hu (pv 2) (pv 3) (pv 4) rfl)))
      (pss_cons (ps_for PassesOwn.never rfl (pi_tup (pv 1)) (pg_tupK (K := K) rfl rfl (pgs_cons (pg_name (i := 3) sc_composed.nd rfl (Or.inl rfl)) (pgs_cons (pg_name (i := 4) sc_composed.nd rfl (Or.inl rfl)) pgs_nil))) (pss_one (ps_dput hu (pv 2) (pv 3) (pv 4) rfl)))
      (pss_one (ps_ret (pe_callTy (T := "tuple") (r := rTupOf K) c_tup (by rfl) T.b_tuple (by decide +kernel) (pa_cons (pe_lc (own := [("place", 3)]) (g := gName 3) (tt := tYes) rfl sc_composed.nd (pi_list (pe_callB (id := "sorted") (c_sortDI rfl) (by rfl) T.b_sorted (by decide +kernel) (pa_cons (pv 2) pa_nil))) (blkOk_by (own := [("place", 3)]) (N := N_composed) (sc := defScope s_composed) (by decide +kernel)) (fun _ _ _ _ _ => (pg_name (i := 3) sc_composed.nd rfl (Or.inl rfl))) (fun _ _ _ _ _ => pts_nil) (fun _ _ _ _ _ => (pe_tup (pa_cons (pv 3) (pa_cons (pe_dget hu (pv 2) (pv 3) (fun _ _ => rfl)) pa_nil))))) pa_nil))))))), ?_⟩
    try dsimp only [cxOf, Cx.nox, Cx.wish]
    refine st_of (σ' := [some _, some _, none, none, none]) rfl ?_
    wtm_at "jw"
    refine i_dnew fun D hD => ?_
    have s0 := same_new (o := .dK []) hD
    have ha0 := s0 _ _ ha
    wtm_at "jw"
    refine f_tup (xs := rs1.map V.ref) (fun i σ H' => Same H H' ∧ ∃ kvs v1 v2, σ = [some (.ref a), some (.ref b), some (.ref D), v1, v2] ∧ H' D = some (.dK kvs) ∧ DI kvs (mp (fun _ => none) ((rowsN c n).take i)) ∧ kvs.length ≤ i) ⟨s0, [], none, none, rfl, upd_same, DI.nil, Nat.le_refl _⟩ (fun i σ H' _ h => SqT.of (h.1 _ _ ha)) (fun i x σ H' hi h => ?_) (fun σ H' h => ?_)
    · obtain ⟨s, kvs, v1, v2, rfl, hD', di, hl⟩ := h
      obtain ⟨r, p, rfl, e1, e2, hr', e3, hlt⟩ := (w1.same s).at hi
      wtm_at "jw"
      refine i_dput ?_
      wtm_at "jw"
      refine i_dputI hD' (by omega) ?_
      have := putK_le (kvs := kvs) (k := .inl p.1) (v := .int p.2)
      refine ⟨put_same s hD, _, _, _, rfl, upd_same, ?_, by omega⟩
      rw [e3, mp_snoc]
      exact di.put
    · obtain ⟨s, kvs, v1, v2, rfl, hD', di, hl⟩ := h
      rw [List.length_map, w1.1] at hl
      rw [List.length_map, w1.1, List.take_length] at di
      have hb' := s _ _ hb
      wtm_at "jw"
      refine f_tup (xs := rs2.map V.ref) (fun i σ H' => Same H H' ∧ ∃ kvs v1 v2, σ = [some (.ref a), some (.ref b), some (.ref D), v1, v2] ∧ H' D = some (.dK kvs) ∧ DI kvs (mp (mp (fun _ => none) (rowsN c n)) ((rowsN c' n).take i)) ∧ kvs.length ≤ 60 + i) ⟨s, kvs, v1, v2, rfl, hD', di, by omega⟩ (fun i σ H' _ h => SqT.of (h.1 _ _ hb)) (fun i x σ H' hi h => ?_) (fun σ H' h => ?_)
      · obtain ⟨s, kvs, v1, v2, rfl, hD', di, hl⟩ := h
        obtain ⟨r, p, rfl, e1, e2, hr', e3, hlt⟩ := (w2.same s).at hi
        wtm_at "jw"
        refine i_dput ?_
        wtm_at "jw"
        refine i_dputI hD' (by omega) ?_
        have := putK_le (kvs := kvs) (k := .inl p.1) (v := .int p.2)
        refine ⟨put_same s hD, _, _, _, rfl, upd_same, ?_, by omega⟩
        rw [e3, mp_snoc]
        exact di.put
      · obtain ⟨s, kvs, v1, v2, rfl, hD', di, hl⟩ := h
        rw [List.length_map, w2.1, List.take_length, mp_two] at di
        obtain ⟨ks, hk, hnd⟩ := di.2
        have hlen : kvs.length ≤ n := di.len fun i hi => by
          unfold mm at hi
          by_cases h : 0 ≤ i ∧ i < n
          · exact h
          · rw [if_neg h] at hi; cases hi
        have hkl : ks.length ≤ n := by
          have := congrArg List.length hk
          rw [List.length_map, List.length_map] at this
          omega
        wtm_at "jw"
        refine ⟨D, kvs, ks, rfl, .inl hD', hk, by omega, fun ys L hp hs hL => ?_⟩
        have hys : ys.map (fun y => (y, (cm c c' y.toNat).getD 0)) = rowsN (cm c c') n := rows_of_keys (lt_of_le_nodup hs (hp.nodup_iff.mpr hnd)) fun y => by
          rw [hp.mem_iff, di.mem hk]
          unfold mm
          by_cases h : 0 ≤ y ∧ y < n
          · rw [if_pos h]
            exact ⟨fun z => ⟨h.1, h.2, z⟩, fun z => z.2.2⟩
          · rw [if_neg h]
            exact ⟨fun z => (nomatch z), fun z => (h ⟨z.1, z.2.1⟩).elim⟩
        have hyl : ys.length ≤ n := by rw [hp.length_eq]; exact hkl
        have hD2 := same_new (o := .lst (ys.map V.int)) hL _ _ hD'
        have s2 := s.trans (same_new (o := .lst (ys.map V.int)) hL)
        have hL2 : upd H' L (.lst (ys.map V.int)) L = some (.lst (ys.map V.int)) := upd_same
        generalize upd H' L (.lst (ys.map V.int)) = H2 at hD2 s2 hL2 ⊢
        wtm_at "jw"
        intro E hE
        refine l_list (xs := ys.map V.int) (fun i H' => Same H2 H' ∧ LPr H' E ((ys.take i).map fun y => (y, (cm c c' y.toNat).getD 0))) ⟨same_new hE, [], upd_same, Prw.nil⟩ (fun i H' _ h => SqL.of (h.1 _ _ hL2)) (fun i x H' hi h => ?_) (fun H' h => ?_)
        · obtain ⟨s3, ts, hE', w3⟩ := h
          obtain ⟨y, rfl, ey, etk, hlt⟩ := ints_at hi
          have hy : y ∈ ks := hp.mem_iff.mp (List.mem_of_getElem? ey)
          have hsm := (di.mem hk y).mp hy
          have hmy : mm n c c' y = some ((cm c c' y.toNat).getD 0) := by
            unfold mm at hsm ⊢
            by_cases h : 0 ≤ y ∧ y < n
            · rw [if_pos h] at hsm ⊢
              obtain ⟨z, hz⟩ := Option.isSome_iff_exists.mp hsm
              rw [hz]
              rfl
            · rw [if_neg h] at hsm; cases hsm
          have hv : valV kvs (.inl y) = some (.int ((cm c c' y.toNat).getD 0)) := by rw [di.1, hmy]; rfl
          have hD3 := s3 _ _ hD2
          have hrl : ts.length ≤ 60 := by
            have h1 := w3.1
            rw [List.length_map, List.length_take] at h1
            omega
          wtm_at "jw"
          refine ⟨rfl, ?_⟩
          wtm_at "jw"
          refine i_dget ?_
          wtm_at "jw"
          refine i_dgetI (.inl hD3) hv ?_
          wtm_at "jw"
          intro u hu
          refine ⟨_, same_new hu _ _ hE', small1000 (by rw [List.length_map]; omega), put_same (s3.trans (same_new hu)) hE, ?_⟩
          rw [etk, List.map_append]
          exact LPr.add hE' w3 hu
        · obtain ⟨s3, ts, hE', w3⟩ := h
          rw [List.length_map, List.take_length, hys] at w3
          wtm_at "jw"
          intro r hr'
          exact q r _ ((s2.trans s3).trans (same_new hr')) ⟨ts, upd_same, w3.same (same_new hr')⟩
theorem ap_cm {v : List Int} {n : Nat} {c c' : Nat → Option Int} (h : v.length = n) : ap (ap v (rowsN c n)) (rowsN c' n) = ap v (rowsN (cm c c') n) := by
  apply List.ext_getElem?
  intro j
  rw [ap_at _ _ _ _ (by rw [ap_len]; omega), ap_at _ _ _ _ (by omega), ap_at _ _ _ _ (by omega)]
  by_cases hj : j < n
  · rw [if_pos hj, if_pos hj, if_pos hj]
    unfold cm
    cases c' j with
    | some z => rfl
    | none => rfl
  · rw [if_neg hj, if_neg hj, if_neg hj]

/-! ### the store -/
local macro_rules | `(tactic| wtm_at "jw1") => `(tactic| first
  | with_reducible refine' i_fld ?_ | with_reducible refine' i_sfld ?_ | with_reducible refine' i_meth ?_ | with_reducible refine' i_make ?_)
local macro_rules | `(tactic| wtm_at "jw1") => `(tactic| first
  | with_reducible refine' i_try ?_ | with_reducible refine' i_callS ?_ | with_reducible refine' i_methS ?_ | with_reducible refine' i_raise ?_ | with_reducible refine' i_mkX1 ?_ | with_reducible refine' i_mkX2 ?_)
abbrev KS := List (Int × List Int)
def sfs (P w S : Addr) : List (Str × V) := [("places", .ref P), ("whole", .ref w), ("steps", .ref S)]
theorem lk_places (P w S : Addr) : (sfs P w S).lookup ("places" : Str) = some (.ref P) := by
  unfold sfs
  rw [List.lookup_cons, show (("places" : Str) == ("places" : Str)) = true from by decide +kernel]
theorem lk_whole (P w S : Addr) : (sfs P w S).lookup ("whole" : Str) = some (.ref w) := by
  unfold sfs
  rw [List.lookup_cons, show (("whole" : Str) == ("places" : Str)) = false from by decide +kernel]
  dsimp only
  rw [List.lookup_cons, show (("whole" : Str) == ("whole" : Str)) = true from by decide +kernel]
theorem lk_steps (P w S : Addr) : (sfs P w S).lookup ("steps" : Str) = some (.ref S) := by
  unfold sfs
  rw [List.lookup_cons, show (("steps" : Str) == ("places" : Str)) = false from by decide +kernel]
  dsimp only
  rw [List.lookup_cons, show (("steps" : Str) == ("whole" : Str)) = false from by decide +kernel]
  dsimp only
  rw [List.lookup_cons, show (("steps" : Str) == ("steps" : Str)) = true from by decide +kernel]
theorem lk_no {P w S : Addr} {m : Str} (h1 : (m == ("places" : Str)) = false) (h2 : (m == ("whole" : Str)) = false) (h3 : (m == ("steps" : Str)) = false) : (sfs P w S).lookup m = none := by
  unfold sfs
  rw [List.lookup_cons, h1]
  dsimp only
  rw [List.lookup_cons, h2]
  dsimp only
  rw [List.lookup_cons, h3]
  rfl
theorem put_places (P P' w S : Addr) : putF "places" (.ref P') (sfs P w S) = sfs P' w S := by
  unfold sfs putF
  rw [if_pos rfl]
theorem put_whole (P w w' S : Addr) : putF "whole" (.ref w') (sfs P w S) = sfs P w' S := by
  unfold sfs putF
  rw [if_neg (by decide +kernel)]
  unfold putF
  rw [if_pos rfl]
theorem put_steps (P w S S' : Addr) : putF "steps" (.ref S') (sfs P w S) = sfs P w S' := by
  unfold sfs putF
  rw [if_neg (by decide +kernel)]
  unfold putF
  rw [if_neg (by decide +kernel)]
  unfold putF
  rw [if_pos rfl]
theorem put_new (P w S : Addr) : putF "steps" (.ref S) (putF "whole" (.ref w) (putF "places" (.ref P) [])) = sfs P w S := by
  have e1 : putF "places" (.ref P) [] = [(("places" : Str), V.ref P)] := rfl
  have e2 : putF "whole" (.ref w) [(("places" : Str), V.ref P)] = [(("places" : Str), V.ref P), ("whole", .ref w)] := by
    unfold putF
    rw [if_neg (by decide +kernel)]
    rfl
  have e3 : putF "steps" (.ref S) [(("places" : Str), V.ref P), ("whole", .ref w)] = sfs P w S := by
    unfold putF
    rw [if_neg (by decide +kernel)]
    unfold putF
    rw [if_neg (by decide +kernel)]
    rfl
  rw [e1, e2, e3]
theorem sfs_len (P w S : Addr) : (sfs P w S).length < 1000 := by show 3 < 1000; decide
def wholeK : KS → List Int
  | [] => []
  | p :: _ => p.2
def tks (kept : KS) : List Int := kept.map (·.1)
structure KeptOk (n : Nat) (kept : KS) : Prop where
  srt : (tks kept).Pairwise (· < ·)
  len : ∀ p ∈ kept, p.2.length = n
  tk : ∀ p ∈ kept, 0 ≤ p.1 ∧ p.1 ≤ 24
  nn : n ≤ 60
theorem same_free {H H' : Hp} (s : Same H H') {b : Addr} (h : H' b = none) : H b = none := by
  cases e : H b with
  | none => rfl
  | some o => rw [s _ _ e] at h; cases h
structure StoreAt (K : PySem.W.Frag) (C : Addr) (H : Hp) (s dx P w S : Addr) (rs : List Addr) (kept : KS) : Prop where
  ob : H s = some (.ins C dx (sfs P w S))
  pl : H P = some (.lst ((tks kept).map V.int))
  wh : SqT K H w ((wholeK kept).map V.int)
  st : H S = some (.lst (rs.map V.ref))
  rl : rs.length = kept.length - 1
  rw : ∀ (i : Nat) (r : Addr) (a b : Int × List Int), rs[i]? = some r → kept[i]? = some a → kept[i + 1]? = some b → Prs H r (df a.2 b.2)
  ps : P ≠ S
section
variable {K : PySem.W.Frag} {C : Addr} {H H' : Hp} {s dx P w S : Addr} {rs : List Addr} {kept : KS}
theorem StoreAt.move (h : StoreAt K C H s dx P w S rs kept) (t : Tps H H') (k : ∀ b o, H b = some o → b = s ∨ b = P ∨ b = S → H' b = some o) : StoreAt K C H' s dx P w S rs kept :=
  ⟨k _ _ h.ob (.inl rfl), k _ _ h.pl (.inr (.inl rfl)), t.sq h.wh, k _ _ h.st (.inr (.inr rfl)), h.rl, fun i r a b h1 h2 h3 => (h.rw i r a b h1 h2 h3).tps t, h.ps⟩
theorem StoreAt.same (h : StoreAt K C H s dx P w S rs kept) (t : Same H H') : StoreAt K C H' s dx P w S rs kept := h.move (Tps.of t) fun b o e _ => t _ _ e
theorem StoreAt.nP (h : StoreAt K C H s dx P w S rs kept) : s ≠ P := fun z => by
  have a := h.ob
  rw [z, h.pl] at a
  cases a
theorem StoreAt.nS (h : StoreAt K C H s dx P w S rs kept) : s ≠ S := fun z => by
  have a := h.ob
  rw [z, h.st] at a
  cases a
/-- all but the store's own stands -/
def Mv (s P S : Addr) (H H' : Hp) : Prop := ∀ b o, H b = some o → b ≠ s → b ≠ P → b ≠ S → H' b = some o
theorem StoreAt.tps (h : StoreAt K C H s dx P w S rs kept) (m : Mv s P S H H') : Tps H H' := fun a => ⟨fun xs e => m _ _ e (fun z => by rw [z, h.ob] at e; cases e) (fun z => by rw [z, h.pl] at e; cases e) (fun z => by rw [z, h.st] at e; cases e),
  fun o xs e => m _ _ e (fun z => by rw [z, h.ob] at e; cases e) (fun z => by rw [z, h.pl] at e; cases e) (fun z => by rw [z, h.st] at e; cases e)⟩
structure StepTo (K : PySem.W.Frag) (C : Addr) (H H' : Hp) (s dx P S : Addr) (kept' : KS) : Prop where
  mv : Mv s P S H H'
  al : ∀ b, H' b = none → H b = none
  to : ∃ P' w' S' rs', StoreAt K C H' s dx P' w' S' rs' kept' ∧ (P' = P ∨ H P' = none) ∧ (S' = S ∨ H S' = none)
end
def cntL : List Int → Int → Nat
  | [], _ => 0
  | a :: r, t => if a < t then cntL r t + 1 else 0
def cnt (kept : KS) (t : Int) : Nat := cntL (tks kept) t
theorem cntL_le : ∀ (l : List Int) (t : Int), cntL l t ≤ l.length
  | [], _ => Nat.le_refl _
  | a :: r, t => by
    have := cntL_le r t
    unfold cntL
    split
    · rw [List.length_cons]; omega
    · omega
theorem tks_len (kept : KS) : (tks kept).length = kept.length := by unfold tks; rw [List.length_map]
theorem cnt_le (kept : KS) (t : Int) : cnt kept t ≤ kept.length := by
  have := cntL_le (tks kept) t
  rw [tks_len] at this
  exact this
theorem tw_stop : ∀ {l : List Int} {t x : Int} {k : Nat}, (∀ j y, j < k → l[j]? = some y → y < t) → l[k]? = some x → ¬ x < t → cntL l t = k
  | [], _, _, _, _, h2, _ => by simp at h2
  | a :: r, t, x, 0, _, h2, h3 => by
    simp at h2
    subst h2
    unfold cntL
    rw [if_neg h3]
  | a :: r, t, x, k + 1, h1, h2, h3 => by
    unfold cntL
    rw [if_pos (h1 0 a (by omega) rfl), tw_stop (l := r) (k := k) (fun j y hj e => h1 (j + 1) y (by omega) (by simpa using e)) (by simpa using h2) h3]
theorem tw_all : ∀ {l : List Int} {t : Int}, (∀ j y, j < l.length → l[j]? = some y → y < t) → cntL l t = l.length
  | [], _, _ => rfl
  | a :: r, t, h => by
    unfold cntL
    rw [if_pos (h 0 a (by simp) rfl), tw_all (l := r) fun j y hj e => h (j + 1) y (by simpa using hj) (by simpa using e)]
    rfl
def sp_Store___init__ (K : PySem.W.Frag) (C_Store : Addr) : Sp := fun vs H Q _ => ∃ (s dx : Addr), vs = [.ref s] ∧ H s = some (.ins C_Store dx []) ∧ ∀ P w S H', StoreAt K C_Store H' s dx P w S [] [] → (∀ b o, H b = some o → b ≠ s → H' b = some o) → H P = none → H S = none → Q .non H'
theorem ok_Store___init__ {P : Program} {w : World} {K : PySem.W.Frag} {mg : Str → Option Value} {base : Heap} {C_Store : Addr} {C_NoState : Addr} {f : Addr} {fd : FuncData} (F : Dm K C_Store "__init__" "Store.__init__" s_Store___init__ f fd ["self"]) (T : Txt K mg C_Store C_NoState) : FnOk P w K mg base CX0 1 f fd ["self"] (sp_Store___init__ K C_Store) := by
  refine F.ok sc_Store___init__ (fun vs H Q E h => ?_) (fun cdv A outer s H vs Q E hr h => ?_)
  · obtain ⟨s, dx, rfl, _⟩ := h
    rfl
  · obtain ⟨s, dx, rfl, hs, q⟩ := h
    refine ⟨_, (pss_cons (ps_fld (pv 0) (pe_lst pa_nil) rfl)
      (pss_cons (ps_fld (pv 0) (pe_tup pa_nil) rfl)
      (pss_one (ps_fld (pv 0) (pe_lst pa_nil) rfl)))), ?_⟩
    try dsimp only [cxOf, Cx.nox, Cx.wish]
    refine st_of (σ' := [some _]) rfl ?_
    wtm_at "jw"
    intro P hP
    have nP : s ≠ P := fun z => by rw [z, hP] at hs; cases hs
    wtm_at "jw"
    refine i_insS (by rw [upd_ne nP]; exact hs) T.cl_Store T.na_Store_places (by decide) ?_
    wtm_at "jw"
    intro w hw
    have nw : s ≠ w := fun z => by rw [z, upd_same] at hw; cases hw
    have hw1 : upd H P (.lst []) w = none := by rw [upd_ne nw.symm] at hw; exact hw
    have nPw : P ≠ w := fun z => by rw [z, upd_same] at hw1; cases hw1
    wtm_at "jw"
    refine i_insS (by rw [upd_ne nw]; exact upd_same) T.cl_Store T.na_Store_whole (by show 1 < 1000; decide) ?_
    wtm_at "jw"
    intro S hS
    have nS : s ≠ S := fun z => by rw [z, upd_same] at hS; cases hS
    have hS1 : upd (upd (upd H P (.lst [])) s (.ins C_Store dx (putF "places" (.ref P) []))) w (.tup []) S = none := by rw [upd_ne nS.symm] at hS; exact hS
    have nwS : w ≠ S := fun z => by rw [z, upd_same] at hS1; cases hS1
    have hS2 : upd H P (.lst []) S = none := by rw [upd_ne nwS.symm, upd_ne nS.symm] at hS1; exact hS1
    have nPS : P ≠ S := fun z => by rw [z, upd_same] at hS2; cases hS2
    have hw2 : H w = none := by rw [upd_ne nPw.symm] at hw1; exact hw1
    have hS3 : H S = none := by rw [upd_ne nPS.symm] at hS2; exact hS2
    wtm_at "jw"
    refine i_insS (by rw [upd_ne nS]; exact upd_same) T.cl_Store T.na_Store_steps (by show 2 < 1000; decide) ?_
    wtm_at "jw"
    rw [put_new]
    refine q P w S _ ⟨upd_same, ?_, ?_, ?_, rfl, fun i r a b h => by simp at h, nPS⟩ (fun b o hb hn => ?_) hP hS3
    · rw [upd_ne nP.symm, upd_ne nPS, upd_ne nP.symm, upd_ne nPw, upd_ne nP.symm, upd_same]
      rfl
    · refine SqT.of ?_
      rw [upd_ne nw.symm, upd_ne nwS, upd_ne nw.symm, upd_same]
      rfl
    · rw [upd_ne nS.symm, upd_same]
      rfl
    · rw [upd_ne hn, upd_ne (ne_of_none hb hS3), upd_ne hn, upd_ne (ne_of_none hb hw2), upd_ne hn, upd_ne (ne_of_none hb hP)]
      exact hb
def sp_Store_number_of (K : PySem.W.Frag) (C_Store : Addr) : Sp := fun vs H Q _ => ∃ (s dx P w S : Addr) (rs : List Addr) (kept : KS) (t : Int), vs = [.ref s, .int t] ∧ StoreAt K C_Store H s dx P w S rs kept ∧ kept.length ≤ 1000 ∧ Q (.int (cnt kept t : Int)) H
theorem ok_Store_number_of {P : Program} {w : World} {K : PySem.W.Frag} {mg : Str → Option Value} {base : Heap} {C_Store : Addr} {C_NoState : Addr} {f : Addr} {fd : FuncData} (F : Dm K C_Store "number_of" "Store.number_of" s_Store_number_of f fd ["self", "tick"]) (T : Txt K mg C_Store C_NoState) : FnOk P w K mg base CX0 1 f fd ["self", "tick"] (sp_Store_number_of K C_Store) := by
  refine F.ok sc_Store_number_of (fun vs H Q E h => ?_) (fun cdv A outer s H vs Q E hr h => ?_)
  · obtain ⟨s, dx, P, w, S, rs, kept, t, rfl, _⟩ := h
    rfl
  · obtain ⟨s, dx, P, w, S, rs, kept, t, rfl, hst, hl, q⟩ := h
    have hpl := hst.pl
    have lp : (tks kept).length = kept.length := by unfold tks; rw [List.length_map]
    refine ⟨_, (pss_cons (ps_for PassesOwn.never rfl (pi_range1 rfl T.b_range (pa_cons (pe_callB (id := "len") (r := qLen K) c_len (by rfl) T.b_len (by decide +kernel) (pa_cons (pe_fldK (K := K) rfl (pv 0) rfl) pa_nil)) pa_nil)) (pg_name (i := 2) sc_Store_number_of.nd rfl (Or.inl rfl)) (pss_one (ps_if (pt_cmpR op_ge (pe_ix (r := rIxL K) ix_list (pe_fldK (K := K) rfl (pv 0) rfl) (pv 2) (fun _ _ => rfl)) (pv 1) (nomark _)) (pss_one (ps_ret (pv 2))) pss_nil)))
      (pss_one (ps_ret (pe_callB (id := "len") (r := qLen K) c_len (by rfl) T.b_len (by decide +kernel) (pa_cons (pe_fldK (K := K) rfl (pv 0) rfl) pa_nil))))), ?_⟩
    try dsimp only [cxOf, Cx.nox, Cx.wish]
    refine st_of (σ' := [some _, some _, none]) rfl ?_
    wtm_at "jw"
    refine i_ins hst.ob T.cl_Store T.na_Store_places (lk_places P w S) ?_
    wtm_at "jw"
    refine f_range (fun k σ H' => H' = H ∧ (∀ j y, j < k → (tks kept)[j]? = some y → y < t) ∧ ∃ w2, σ = [some (.ref s), some (.int t), w2]) ⟨rfl, fun j y h => absurd h (Nat.not_lt_zero j), none, rfl⟩ (fun k σ H' hk h => ?_) (fun σ H' h => ?_)
    · obtain ⟨rfl, hb, w2, rfl⟩ := h
      rw [List.length_map] at hk
      have hk2 : k < (tks kept).length := by omega
      obtain ⟨z, hz, ez⟩ := int_at hk2
      wtm_at "jw"
      refine i_ins hst.ob T.cl_Store T.na_Store_places (lk_places P w S) ?_
      wtm_at "jw"
      refine c_dec (fun hge => ?_) (fun hlt => ?_)
      · wtm_at "jw"
        have e := tw_stop hb hz (by omega)
        unfold cnt at q
        rw [e] at q
        rw [Int.zero_add]
        exact q
      · wtm_at "jw"
        refine ⟨rfl, fun j y hj hy => ?_, _, rfl⟩
        by_cases hjk : j = k
        · subst hjk
          rw [hz] at hy
          cases hy
          omega
        · exact hb j y (by omega) hy
    · obtain ⟨rfl, hb, w2, rfl⟩ := h
      rw [List.length_map] at hb
      wtm_at "jw"
      refine i_ins hst.ob T.cl_Store T.na_Store_places (lk_places P w S) ?_
      wtm_at "jw"
      rw [List.length_map]
      have e := tw_all (l := tks kept) (t := t) fun j y hj hy => hb j y hj hy
      unfold cnt at q
      rw [e] at q
      exact q
theorem cntL_filter : ∀ {l : List Int} {t : Int}, l.Pairwise (· < ·) → l.take (cntL l t) = l.filter (fun x => decide (x < t))
  | [], _, _ => rfl
  | a :: r, t, h => by
    have ⟨h1, h2⟩ := List.pairwise_cons.mp h
    unfold cntL
    by_cases hat : a < t
    · rw [if_pos hat, List.take_succ_cons, cntL_filter h2, List.filter_cons_of_pos (by simpa using hat)]
    · rw [if_neg hat, List.take_zero, List.filter_cons_of_neg (by simpa using hat)]
      symm
      rw [List.filter_eq_nil_iff]
      intro x hx
      have := h1 x hx
      simp
      omega
theorem wholeK_take {kept : KS} {n : Nat} : wholeK (kept.take n) = if n = 0 then [] else wholeK kept := by
  cases n with
  | zero => rfl
  | succ n => cases kept <;> rfl
theorem StoreAt.sub {K : PySem.W.Frag} {C : Addr} {H H' : Hp} {s dx P w S P2 w2 S2 : Addr} {rs : List Addr} {kept : KS} (h : StoreAt K C H s dx P w S rs kept) (t : Tps H H') (c : Nat) (hc : c ≤ kept.length) (ob : H' s = some (.ins C dx (sfs P2 w2 S2))) (pl : H' P2 = some (.lst (((tks kept).take c).map V.int)))
    (wh : SqT K H' w2 ((wholeK (kept.take c)).map V.int)) (st : H' S2 = some (.lst ((rs.take (c - 1)).map V.ref))) (n : P2 ≠ S2) : StoreAt K C H' s dx P2 w2 S2 (rs.take (c - 1)) (kept.take c) := by
  have hrl := h.rl
  refine ⟨ob, ?_, wh, st, by rw [List.length_take, List.length_take]; omega, fun i r a b h1 h2 h3 => ?_, n⟩
  · rw [pl]
    unfold tks
    simp only [List.map_take]
  · have i1 := (List.getElem?_eq_some_iff.mp h1).1
    have i2 := (List.getElem?_eq_some_iff.mp h2).1
    have i3 := (List.getElem?_eq_some_iff.mp h3).1
    rw [List.length_take] at i1 i2 i3
    rw [List.getElem?_take_of_lt (by omega)] at h1 h2 h3
    exact (h.rw i r a b h1 h2 h3).tps t
def sp_Store_drop_from (K : PySem.W.Frag) (C_Store : Addr) : Sp := fun vs H Q _ => ∃ (s dx P w S : Addr) (rs : List Addr) (kept : KS) (t : Int), vs = [.ref s, .int t] ∧ StoreAt K C_Store H s dx P w S rs kept ∧ kept.length ≤ 1000 ∧ ∀ H', StepTo K C_Store H H' s dx P S (kept.take (cnt kept t)) → Q .non H'
theorem ok_Store_drop_from {P : Program} {w : World} {K : PySem.W.Frag} {mg : Str → Option Value} {base : Heap} {C_Store : Addr} {C_NoState : Addr} {f : Addr} {fd : FuncData} (F : Dm K C_Store "drop_from" "Store.drop_from" s_Store_drop_from f fd ["self", "tick"]) (T : Txt K mg C_Store C_NoState)
    (c_Store_number_of : Mt P w K mg base 1 C_Store "number_of" (sp_Store_number_of K C_Store)) : FnOk P w K mg base CX0 2 f fd ["self", "tick"] (sp_Store_drop_from K C_Store) := by
  refine F.ok sc_Store_drop_from (fun vs H Q E h => ?_) (fun cdv A outer s H vs Q E hr h => ?_)
  · obtain ⟨s, dx, P, w, S, rs, kept, t, rfl, _⟩ := h
    rfl
  · obtain ⟨s, dx, P, w, S, rs, kept, t, rfl, hst, hl, q⟩ := h
    have hob := hst.ob
    have hc := cnt_le kept t
    refine ⟨_, (pss_cons (ps_set (i := 2) sc_Store_drop_from.nd rfl (Or.inl rfl) (pe_mtc c_Store_number_of T.cl_Store hr (by decide) (pv 0) (pa_cons (pv 1) pa_nil)))
      (pss_cons (ps_fld (pv 0) (pe_slice (r := rSlL K) sl_list (pe_fldK (K := K) rfl (pv 0) rfl) po_none (po_some (pv 2))) rfl)
      (pss_cons (ps_fld (pv 0) (pe_slice (r := rSlL K) sl_list (pe_fldK (K := K) rfl (pv 0) rfl) po_none (po_some (pe_callB (id := "max") (c_max2 rfl) (by rfl) T.b_max (by decide +kernel) (pa_cons pe_int (pa_cons (pe_op op_sub (pv 2) pe_int) pa_nil))))) rfl)
      (pss_one (ps_if (pt_cmpR op_eq (pv 2) pe_int (nomark _)) (pss_one (ps_fld (pv 0) (pe_tup pa_nil) rfl)) pss_nil))))), ?_⟩
    try dsimp only [cxOf, Cx.nox, Cx.wish]
    refine st_of (σ' := [some _, some _, none]) rfl ?_
    wtm_at "jw"
    refine ⟨s, dx, _, rfl, hob, lk_no (by decide +kernel) (by decide +kernel) (by decide +kernel), ?_⟩
    wtm_at "jw"
    refine ⟨s, dx, P, w, S, rs, kept, t, rfl, hst, hl, ?_⟩
    wtm_at "jw"
    refine i_ins hob T.cl_Store T.na_Store_places (lk_places P w S) ?_
    wtm_at "jw"
    refine i_slL (SqL.of hst.pl) fun P2 H1 s1 n1 h1 => ?_
    have hst1 := hst.same s1
    have al1 : ∀ b, H1 b = none → H b = none := fun b hb => by
      cases e : H b with
      | none => rfl
      | some o => rw [s1 _ _ e] at hb; cases hb
    wtm_at "jw"
    refine i_insS hst1.ob T.cl_Store T.na_Store_places (sfs_len _ _ _) ?_
    rw [put_places]
    have nsP2 : s ≠ P2 := ne_of_none hst.ob n1
    have hob2 : upd H1 s (.ins C_Store dx (sfs P2 w S)) s = some (.ins C_Store dx (sfs P2 w S)) := upd_same
    wtm_at "jw"
    refine i_ins hob2 T.cl_Store T.na_Store_steps (lk_steps P2 w S) ?_
    wtm_at "jw"
    have hS2 : upd H1 s (.ins C_Store dx (sfs P2 w S)) S = some (.lst (rs.map V.ref)) := by rw [upd_ne hst.nS.symm]; exact hst1.st
    refine i_slL (SqL.of hS2) fun S2 H3 s3 n3 h3 => ?_
    wtm_at "jw"
    refine i_insS (s3 _ _ hob2) T.cl_Store T.na_Store_steps (sfs_len _ _ _) ?_
    rw [put_steps]
    have n3' : H1 S2 = none := by
      have nsS2 : S2 ≠ s := fun z => by rw [z, hob2] at n3; cases n3
      rw [upd_ne nsS2] at n3
      exact n3
    have nsS2 : s ≠ S2 := ne_of_none hst1.ob n3'
    have nPS2 : P2 ≠ S2 := ne_of_none h1 n3'
    have hP2 : upd H3 s (.ins C_Store dx (sfs P2 w S2)) P2 = some (.lst (((tks kept).take (cnt kept t)).map V.int)) := by
      rw [upd_ne nsP2.symm]
      refine s3 _ _ ?_
      rw [upd_ne nsP2.symm, h1]
      congr 2
      unfold cutV
      rw [HT.sIx_nat, HT.sIx_none, Nat.sub_zero, List.drop_zero, List.length_map, tks_len, Nat.min_eq_left hc, List.map_take]
    have e4 : (if (cnt kept t : Int) - 1 > 0 then (cnt kept t : Int) - 1 else 0) = ((cnt kept t - 1 : Nat) : Int) := by split <;> omega
    have hrl := hst.rl
    have hS3 : upd H3 s (.ins C_Store dx (sfs P2 w S2)) S2 = some (.lst ((rs.take (cnt kept t - 1)).map V.ref)) := by
      rw [upd_ne nsS2.symm, h3, e4]
      congr 2
      unfold cutV
      rw [HT.sIx_nat, HT.sIx_none, Nat.sub_zero, List.drop_zero, List.length_map, Nat.min_eq_left (by omega), List.map_take]
    have mv4 : ∀ b o, H b = some o → b ≠ s → upd H3 s (.ins C_Store dx (sfs P2 w S2)) b = some o := fun b o hb hn => by
      rw [upd_ne hn]
      refine s3 _ _ ?_
      rw [upd_ne hn]
      exact s1 _ _ hb
    have hw4 : SqT K (upd H3 s (.ins C_Store dx (sfs P2 w S2))) w ((wholeK kept).map V.int) := (hst.tps fun b o hb hn _ _ => mv4 b o hb hn).sq hst.wh
    have al4 : ∀ b, upd H3 s (.ins C_Store dx (sfs P2 w S2)) b = none → H b = none := fun b hb => by
      cases e : H b with
      | none => rfl
      | some o =>
        by_cases hbs : b = s
        · rw [hbs, upd_same] at hb; cases hb
        · rw [mv4 b o e hbs] at hb; cases hb
    have n3H : H S2 = none := al1 _ n3'
    have hob4 : upd H3 s (.ins C_Store dx (sfs P2 w S2)) s = some (.ins C_Store dx (sfs P2 w S2)) := upd_same
    generalize upd H3 s (.ins C_Store dx (sfs P2 w S2)) = H4 at hP2 hS3 mv4 hw4 al4 hob4 ⊢
    have t4 : Tps H H4 := hst.tps fun b o hb hn _ _ => mv4 b o hb hn
    wtm_at "jw"
    refine c_dec (fun h0 => ?_) (fun h0 => ?_)
    · have e0 : cnt kept t = 0 := by omega
      wtm_at "jw"
      intro w2 hw2
      have s5 := same_new (o := .tup ([] : List V)) hw2
      have nw : s ≠ w2 := ne_of_none hob4 hw2
      wtm_at "jw"
      refine i_insS (s5 _ _ hob4) T.cl_Store T.na_Store_whole (sfs_len _ _ _) ?_
      rw [put_whole]
      wtm_at "jw"
      refine q _ ⟨fun b o hb h1 _ _ => ?_, fun b hb => ?_, P2, w2, S2, _, hst.sub (t4.trans ((Tps.of s5).trans fun b => ?_)) _ hc upd_same ?_ ?_ ?_ nPS2, .inr n1, .inr n3H⟩
      · rw [upd_ne h1]
        exact s5 _ _ (mv4 _ _ hb h1)
      · by_cases hbs : b = s
        · rw [hbs, upd_same] at hb; cases hb
        · rw [upd_ne hbs] at hb
          exact al4 _ ((same_free s5) hb)
      · exact ⟨fun xs e => by rw [upd_ne (ne_of e (s5 _ _ hob4) (by intro z; cases z))]; exact e, fun o xs e => by rw [upd_ne (ne_of e (s5 _ _ hob4) (by intro z; cases z))]; exact e⟩
      · rw [upd_ne nsP2.symm]
        exact s5 _ _ hP2
      · rw [e0]
        refine SqT.of ?_
        rw [upd_ne nw.symm]
        exact upd_same
      · rw [upd_ne nsS2.symm]
        exact s5 _ _ hS3
    · have hw : SqT K H4 w ((wholeK (kept.take (cnt kept t))).map V.int) := by
        rw [wholeK_take, if_neg (by omega)]
        exact hw4
      wtm_at "jw"
      exact q _ ⟨fun b o hb h1 _ _ => mv4 _ _ hb h1, al4, P2, w, S2, _, hst.sub t4 _ hc hob4 hP2 hw hS3 nPS2, .inr n1, .inr n3H⟩
/-- the state behind k steps -/
theorem step_at {K : PySem.W.Frag} {C : Addr} {H : Hp} {s dx P w S : Addr} {rs : List Addr} {kept : KS} {n : Nat} (h : StoreAt K C H s dx P w S rs kept) (ko : KeptOk n kept) {k : Nat} {r : Addr} (hr : rs[k]? = some r) :
    ∃ a b, kept[k]? = some a ∧ kept[k + 1]? = some b ∧ Prs H r (df a.2 b.2) ∧ ap a.2 (df a.2 b.2) = b.2 ∧ a.2.length = n ∧ b.2.length = n ∧ (∀ p ∈ df a.2 b.2, 0 ≤ p.1 ∧ p.1 < a.2.length) := by
  have i1 := (List.getElem?_eq_some_iff.mp hr).1
  have hrl := h.rl
  have ha : kept[k]? = some (kept[k]'(by omega)) := List.getElem?_eq_getElem (by omega)
  have hb : kept[k + 1]? = some (kept[k + 1]'(by omega)) := List.getElem?_eq_getElem (by omega)
  have la := ko.len _ (List.mem_of_getElem? ha)
  have lb := ko.len _ (List.mem_of_getElem? hb)
  exact ⟨_, _, ha, hb, h.rw k r _ _ hr ha hb, ap_df (la.trans lb.symm), la, lb, df_in (la.trans lb.symm)⟩
def stateK (kept : KS) (k : Nat) : List Int := ((kept[k]?).map (·.2)).getD []
theorem stateK_at {kept : KS} {k : Nat} {a : Int × List Int} (h : kept[k]? = some a) : stateK kept k = a.2 := by unfold stateK; rw [h]; rfl
theorem stateK_zero (kept : KS) : stateK kept 0 = wholeK kept := by cases kept <;> rfl
theorem stateK_len {kept : KS} {n : Nat} (ko : KeptOk n kept) (k : Nat) : (stateK kept k).length ≤ 60 := by
  unfold stateK
  cases e : kept[k]? with
  | none => simp
  | some a =>
    have := ko.len a (List.mem_of_getElem? e)
    have := ko.nn
    simp
    omega
theorem sorted_len : ∀ {l : List Int} {lo hi : Int}, l.Pairwise (· < ·) → (∀ x ∈ l, lo ≤ x ∧ x ≤ hi) → lo ≤ hi + 1 → (l.length : Int) ≤ hi + 1 - lo
  | [], lo, hi, _, _, h => by simp; omega
  | a :: r, lo, hi, p, b, _ => by
    have ⟨p1, p2⟩ := List.pairwise_cons.mp p
    have hb := b a List.mem_cons_self
    have := sorted_len (l := r) (lo := a + 1) (hi := hi) p2 (fun x hx => ⟨by have := p1 x hx; omega, (b x (List.mem_cons_of_mem _ hx)).2⟩) (by omega)
    rw [List.length_cons]
    omega
theorem keptLen25 {n : Nat} {kept : KS} (ko : KeptOk n kept) : kept.length ≤ 25 := by
  have h := sorted_len (l := tks kept) (lo := 0) (hi := 24) ko.srt (fun x hx => by
    obtain ⟨p, hp, rfl⟩ := List.mem_map.mp hx
    exact ko.tk p hp) (by decide)
  rw [tks_len] at h
  omega
theorem keptLen {n : Nat} {kept : KS} (ko : KeptOk n kept) : kept.length ≤ 1000 := by have := keptLen25 ko; omega
def sp_Store_last_state (K : PySem.W.Frag) (C_Store : Addr) : Sp := fun vs H Q _ => ∃ (s dx P w S : Addr) (rs : List Addr) (kept : KS) (n : Nat), vs = [.ref s] ∧ StoreAt K C_Store H s dx P w S rs kept ∧ KeptOk n kept ∧ ∀ r H', Same H H' → SqT K H' r ((stateK kept (kept.length - 1)).map V.int) → Q (.ref r) H'
theorem ok_Store_last_state {P : Program} {w : World} {K : PySem.W.Frag} {mg : Str → Option Value} {base : Heap} {C_Store : Addr} {C_NoState : Addr} {f : Addr} {fd : FuncData} (F : Dm K C_Store "last_state" "Store.last_state" s_Store_last_state f fd ["self"]) (T : Txt K mg C_Store C_NoState)
    (c_changed : Cl P w K mg base 1 "changed" (sp_changed K)) : FnOk P w K mg base CX0 2 f fd ["self"] (sp_Store_last_state K C_Store) := by
  refine F.ok sc_Store_last_state (fun vs H Q E h => ?_) (fun cdv A outer s H vs Q E hr h => ?_)
  · obtain ⟨s, dx, P, w, S, rs, kept, n, rfl, _⟩ := h
    rfl
  · obtain ⟨s, dx, P, w, S, rs, kept, n, rfl, hst, ko, q⟩ := h
    refine ⟨_, (pss_cons (ps_set (i := 1) sc_Store_last_state.nd rfl (Or.inl rfl) (pe_fldK (K := K) rfl (pv 0) rfl))
      (pss_cons (ps_for PassesOwn.never rfl (pi_list (pe_fldK (K := K) rfl (pv 0) rfl)) (pg_name (i := 2) sc_Store_last_state.nd rfl (Or.inl rfl)) (pss_one (ps_set (i := 1) sc_Store_last_state.nd rfl (Or.inl rfl) (pe_cl c_changed hr (by decide) rfl (pa_cons (pv 1) (pa_cons (pv 2) pa_nil))))))
      (pss_one (ps_ret (pv 1))))), ?_⟩
    try dsimp only [cxOf, Cx.nox, Cx.wish]
    refine st_of (σ' := [some _, none, none]) rfl ?_
    wtm_at "jw"
    refine i_ins hst.ob T.cl_Store T.na_Store_whole (lk_whole P w S) ?_
    wtm_at "jw"
    refine i_ins hst.ob T.cl_Store T.na_Store_steps (lk_steps P w S) ?_
    refine i_isL (SqL.of hst.st) ?_
    refine f_list (xs := rs.map V.ref) (fun k σ H' => Same H H' ∧ ∃ r w2, σ = [some (.ref s), some (.ref r), w2] ∧ SqT K H' r ((stateK kept k).map V.int)) ⟨fun _ _ h => h, w, none, rfl, by rw [stateK_zero]; exact hst.wh⟩ (fun k σ H' _ h => h.1.seq (SqL.of hst.st)) (fun k y σ H' hy h => ?_) (fun σ H' h => ?_)
    · obtain ⟨s1, r, w2, rfl, hr'⟩ := h
      rw [List.getElem?_map] at hy
      obtain ⟨rr, hrr, rfl⟩ := Option.map_eq_some_iff.mp hy
      obtain ⟨a, b, ha, hb, hp, hap, la, lb, hin⟩ := step_at hst ko hrr
      rw [stateK_at ha] at hr'
      have hnn := ko.nn
      wtm_at "jw"
      refine ⟨r, rr, a.2, _, rfl, hr', hp.same s1, by omega, hin, fun r2 H2 s2 h2 => ?_⟩
      wtm_at "jw"
      refine ⟨fun b o hb => s2 _ _ (s1 _ _ hb), r2, _, rfl, ?_⟩
      rw [stateK_at hb, ← hap]
      exact SqT.of h2
    · obtain ⟨s1, r, w2, rfl, hr'⟩ := h
      rw [List.length_map, hst.rl] at hr'
      wtm_at "jw"
      exact q _ _ s1 hr'
def sp_Store_has (K : PySem.W.Frag) (C_Store : Addr) : Sp := fun vs H Q _ => ∃ (s dx P w S : Addr) (rs : List Addr) (kept : KS) (t : Int), vs = [.ref s, .int t] ∧ StoreAt K C_Store H s dx P w S rs kept ∧ Q (.bl (decide (t ∈ tks kept))) H
theorem ok_Store_has {P : Program} {w : World} {K : PySem.W.Frag} {mg : Str → Option Value} {base : Heap} {C_Store : Addr} {C_NoState : Addr} {f : Addr} {fd : FuncData} (F : Dm K C_Store "has" "Store.has" s_Store_has f fd ["self", "tick"]) (T : Txt K mg C_Store C_NoState) : FnOk P w K mg base CX0 1 f fd ["self", "tick"] (sp_Store_has K C_Store) := by
  refine F.ok sc_Store_has (fun vs H Q E h => ?_) (fun cdv A outer s H vs Q E hr h => ?_)
  · obtain ⟨s, dx, P, w, S, rs, kept, t, rfl, _⟩ := h
    rfl
  · obtain ⟨s, dx, P, w, S, rs, kept, t, rfl, hst, q⟩ := h
    refine ⟨_, (pss_one (ps_ret (pe_cmpR (r := rIn K false) op_in_seq (pv 1) (pe_fldK (K := K) rfl (pv 0) rfl) rfl))), ?_⟩
    try dsimp only [cxOf, Cx.nox, Cx.wish]
    refine st_of (σ' := [some _, some _]) rfl ?_
    wtm_at "jw"
    refine i_ins hst.ob T.cl_Store T.na_Store_places (lk_places P w S) ?_
    exact i_inL (SqL.of hst.pl) q
def sp_Store_ticks (K : PySem.W.Frag) (C_Store : Addr) : Sp := fun vs H Q _ => ∃ (s dx P w S : Addr) (rs : List Addr) (kept : KS), vs = [.ref s] ∧ StoreAt K C_Store H s dx P w S rs kept ∧ ∀ r H', Same H H' → H r = none → H' r = some (.tup ((tks kept).map V.int)) → Q (.ref r) H'
theorem ok_Store_ticks {P : Program} {w : World} {K : PySem.W.Frag} {mg : Str → Option Value} {base : Heap} {C_Store : Addr} {C_NoState : Addr} {f : Addr} {fd : FuncData} (F : Dm K C_Store "ticks" "Store.ticks" s_Store_ticks f fd ["self"]) (T : Txt K mg C_Store C_NoState) : FnOk P w K mg base CX0 1 f fd ["self"] (sp_Store_ticks K C_Store) := by
  refine F.ok sc_Store_ticks (fun vs H Q E h => ?_) (fun cdv A outer s H vs Q E hr h => ?_)
  · obtain ⟨s, dx, P, w, S, rs, kept, rfl, _⟩ := h
    rfl
  · obtain ⟨s, dx, P, w, S, rs, kept, rfl, hst, q⟩ := h
    refine ⟨_, (pss_one (ps_ret (pe_callTy (T := "tuple") (r := rTupOf K) c_tup (by rfl) T.b_tuple (by decide +kernel) (pa_cons (pe_fldK (K := K) rfl (pv 0) rfl) pa_nil)))), ?_⟩
    try dsimp only [cxOf, Cx.nox, Cx.wish]
    refine st_of (σ' := [some _]) rfl ?_
    wtm_at "jw"
    refine i_ins hst.ob T.cl_Store T.na_Store_places (lk_places P w S) ?_
    refine i_tupL (SqL.of hst.pl) fun r hr' => ?_
    exact q r _ (same_new hr') hr' upd_same
def sumK : KS → Int
  | [] => 0
  | [_] => 0
  | a :: b :: r => ((df a.2 b.2).length : Int) + sumK (b :: r)
def sizeK (kept : KS) : Int := ((wholeK kept).length : Int) + sumK kept
theorem srows_of {K : PySem.W.Frag} {C : Addr} {H : Hp} {s dx P w S : Addr} {rs : List Addr} {kept : KS} (h : StoreAt K C H s dx P w S rs kept) : ∃ ls : List Int, ls.length = rs.length ∧ ls.sum = sumK kept ∧ ∀ (k : Nat) (r : Addr) (l : Int), rs[k]? = some r → ls[k]? = some l → ∃ rows, Prs H r rows ∧ l = (rows.length : Int) := by
  have key : ∀ (kp : KS) (qs : List Addr), qs.length = kp.length - 1 → (∀ (i : Nat) (r : Addr) (a b : Int × List Int), qs[i]? = some r → kp[i]? = some a → kp[i + 1]? = some b → Prs H r (df a.2 b.2)) → ∃ ls : List Int, ls.length = qs.length ∧ ls.sum = sumK kp ∧ ∀ (k : Nat) (r : Addr) (l : Int), qs[k]? = some r → ls[k]? = some l → ∃ rows, Prs H r rows ∧ l = (rows.length : Int) := by
    intro kp
    induction kp with
    | nil =>
      intro qs hl _
      exact ⟨[], by simpa using hl.symm, rfl, fun k r l _ h2 => by simp at h2⟩
    | cons a kp ih =>
      intro qs hl hrw
      cases kp with
      | nil => exact ⟨[], by simpa using hl.symm, rfl, fun k r l _ h2 => by simp at h2⟩
      | cons b kp =>
        match qs, hl with
        | q0 :: qs, hl =>
          obtain ⟨ls, l1, l2, l3⟩ := ih qs (by simpa using hl) fun i r x y h1 h2 h3 => hrw (i + 1) r x y (by simpa using h1) (by simpa using h2) (by simpa using h3)
          refine ⟨((df a.2 b.2).length : Int) :: ls, by simp [l1], by rw [List.sum_cons, l2]; rfl, fun k r l h1 h2 => ?_⟩
          cases k with
          | zero =>
            simp at h1 h2
            subst h1 h2
            exact ⟨_, hrw 0 _ a b rfl rfl rfl, rfl⟩
          | succ k => exact l3 k r l (by simpa using h1) (by simpa using h2)
  exact key kept rs h.rl h.rw
def sp_Store_size (K : PySem.W.Frag) (C_Store : Addr) : Sp := fun vs H Q _ => ∃ (s dx P w S : Addr) (rs : List Addr) (kept : KS), vs = [.ref s] ∧ StoreAt K C_Store H s dx P w S rs kept ∧ kept.length ≤ 1000 ∧ ∀ H', Same H H' → Q (.int (sizeK kept)) H'
theorem ok_Store_size {P : Program} {w : World} {K : PySem.W.Frag} {mg : Str → Option Value} {base : Heap} {C_Store : Addr} {C_NoState : Addr} {f : Addr} {fd : FuncData} (F : Dm K C_Store "size" "Store.size" s_Store_size f fd ["self"]) (T : Txt K mg C_Store C_NoState) : FnOk P w K mg base CX0 1 f fd ["self"] (sp_Store_size K C_Store) := by
  refine F.ok sc_Store_size (fun vs H Q E h => ?_) (fun cdv A outer s H vs Q E hr h => ?_)
  · obtain ⟨s, dx, P, w, S, rs, kept, rfl, _⟩ := h
    rfl
  · obtain ⟨s, dx, P, w, S, rs, kept, rfl, hst, hl, q⟩ := h
    obtain ⟨ls, l1, l2, l3⟩ := srows_of hst
    have hrl := hst.rl
    refine ⟨_, (pss_one (ps_ret (pe_op op_add (pe_callB (id := "len") (r := qLen K) c_len (by rfl) T.b_len (by decide +kernel) (pa_cons (pe_fldK (K := K) rfl (pv 0) rfl) pa_nil)) (pe_callB (id := "sum") (r := rSum K) (cr_sum rfl) (by rfl) T.b_sum (by decide +kernel) (pa_cons (pe_lc (own := [("rows", 1)]) (g := gName 1) (tt := tYes) rfl sc_Store_size.nd (pi_list (pe_fldK (K := K) rfl (pv 0) rfl)) (blkOk_by (own := [("rows", 1)]) (N := N_Store_size) (sc := defScope s_Store_size) (by decide +kernel)) (fun _ _ _ _ _ => (pg_name (i := 1) sc_Store_size.nd rfl (Or.inl rfl))) (fun _ _ _ _ _ => pts_nil) (fun _ _ _ _ _ => (pe_callB (id := "len") (r := qLen K) c_len (by rfl) T.b_len (by decide +kernel) (pa_cons (pv 1) pa_nil)))) pa_nil))))), ?_⟩
    try dsimp only [cxOf, Cx.nox, Cx.wish]
    refine st_of (σ' := [some _, none]) rfl ?_
    wtm_at "jw"
    refine i_ins hst.ob T.cl_Store T.na_Store_whole (lk_whole P w S) ?_
    have hwh := hst.wh
    wtm_at "jw"
    refine i_ins hst.ob T.cl_Store T.na_Store_steps (lk_steps P w S) ?_
    refine i_isL (SqL.of hst.st) ?_
    intro D hD
    refine l_listP (xs := rs.map V.ref) (fun i => .int ((ls[i]?).getD 0)) hD (by rw [List.length_map]; omega) (SqL.of hst.st) (fun i x H2 R hi s2 hR => ?_) (fun H2 s2 hD2 => ?_)
    · rw [List.getElem?_map] at hi
      obtain ⟨r, hr', rfl⟩ := Option.map_eq_some_iff.mp hi
      have hlt := (List.getElem?_eq_some_iff.mp hr').1
      have el : ls[i]? = some (ls[i]'(by omega)) := List.getElem?_eq_getElem (by omega)
      obtain ⟨rows, ⟨qs, hq, hw⟩, e⟩ := l3 i r _ hr' el
      rw [el] at hR
      wtm_at "jw"
      refine ⟨rfl, ?_⟩
      wtm_at "jw"
      refine i_lenT (SqT.of (s2 _ _ hq)) ?_
      rw [List.length_map, hw.1, ← e]
      exact hR
    · have eD : (List.range (rs.map V.ref).length).map (fun i => V.int ((ls[i]?).getD 0)) = ls.map V.int := by
        rw [List.length_map, ← l1]
        apply List.ext_getElem?
        intro i
        simp only [List.getElem?_map]
        by_cases h : i < ls.length
        · rw [List.getElem?_range h, List.getElem?_eq_getElem h]
          simp only [Option.map_some]
          rw [List.getElem?_eq_getElem h]
          rfl
        · rw [List.getElem?_eq_none (by simpa using h), List.getElem?_eq_none (by simpa using h)]
          rfl
      rw [eD] at hD2
      wtm_at "jw"
      refine ⟨D, ls, rfl, SqL.of hD2, ?_⟩
      wtm_at "jw"
      rw [List.length_map, l2]
      exact q _ s2
def sp_Store_state_at (K : PySem.W.Frag) (C_Store : Addr) (C_NoState : Addr) : Sp := fun vs H Q E => ∃ (s dx P w S : Addr) (rs : List Addr) (kept : KS) (n : Nat) (t : Int), vs = [.ref s, .int t] ∧ StoreAt K C_Store H s dx P w S rs kept ∧ KeptOk n kept ∧
  ((∃ (k : Nat) (a : Int × List Int), kept[k]? = some a ∧ a.1 = t ∧ ∀ r H', Same H H' → SqT K H' r (a.2.map V.int) → Q (.ref r) H') ∨ (t ∉ tks kept ∧ ∀ dd H', Same H H' → H' dd = some (.xd [("tick", .int t)]) → E (.ref C_NoState) (some dd) H'))
theorem sorted_ix {l : List Int} (h : l.Pairwise (· < ·)) {k m : Nat} {x y : Int} (hk : l[k]? = some x) (hm : l[m]? = some y) (hlt : m < k) : y < x := by
  obtain ⟨i1, e1⟩ := List.getElem?_eq_some_iff.mp hk
  obtain ⟨i2, e2⟩ := List.getElem?_eq_some_iff.mp hm
  have := List.pairwise_iff_getElem.mp h m k i2 i1 hlt
  rw [e1, e2] at this
  exact this
theorem ok_Store_state_at {P : Program} {w : World} {K : PySem.W.Frag} {mg : Str → Option Value} {base : Heap} {C_Store : Addr} {C_NoState : Addr} {f : Addr} {fd : FuncData} (F : Dm K C_Store "state_at" "Store.state_at" s_Store_state_at f fd ["self", "tick"]) (T : Txt K mg C_Store C_NoState)
    (c_changed : Cl P w K mg base 1 "changed" (sp_changed K))
    (x_NoState : EX2.Xcl1 P w K mg base 1 "NoState" C_NoState "tick") : FnOk P w K mg base (L2.CX P w) 3 f fd ["self", "tick"] (sp_Store_state_at K C_Store C_NoState) := by
  refine F.okX sc_Store_state_at (fun vs H Q E h => ?_) (fun cdv A outer s H vs Q E hr h => ?_)
  · obtain ⟨s, dx, P, w, S, rs, kept, n, t, rfl, _⟩ := h
    rfl
  · obtain ⟨s, dx, P, w, S, rs, kept, n, t, rfl, hst, ko, q⟩ := h
    refine ⟨_, (pss_cons (ps_if (pt_cmpR (r := rIn K true) op_notIn_seq (pv 1) (pe_fldK (K := K) rfl (pv 0) rfl) rfl) (pss_one (ps_raiseJ rfl (takes_of rfl rfl rfl rfl) (EX2.pmk_x1 x_NoState hr (by decide) rfl (pa_cons (pv 1) pa_nil)))) pss_nil)
      (pss_cons (ps_nox (ps_set (i := 2) sc_Store_state_at.nd rfl (Or.inl rfl) (pe_fldK (K := K) rfl (pv 0) rfl)))
      (pss_cons (ps_nox (ps_for PassesOwn.never rfl (pi_range1 rfl T.b_range (pa_cons (pe_bmK (K := K) rfl PySem.F.plainAttrs_list PySem.F.slot_list_index PySem.F.type_list_index mt_index (pe_fldK (K := K) rfl (pv 0) rfl) (pa_cons (pv 1) pa_nil)) pa_nil)) (pg_name (i := 3) sc_Store_state_at.nd rfl (Or.inl rfl)) (pss_one (ps_nox (ps_set (i := 2) sc_Store_state_at.nd rfl (Or.inl rfl) (pe_cl c_changed hr (by decide) rfl (pa_cons (pv 2) (pa_cons (pe_ix (r := rIxL K) ix_list (pe_fldK (K := K) rfl (pv 0) rfl) (pv 3) (fun _ _ => rfl)) pa_nil))))))))
      (pss_one (ps_nox (ps_ret (pv 2))))))), ?_⟩
    try dsimp only [cxOf, Cx.nox, Cx.wish]
    refine st_of (σ' := [some _, some _, none, none]) rfl ?_
    wtm_at "jw"
    refine i_ins hst.ob T.cl_Store T.na_Store_places (lk_places P w S) ?_
    refine i_ninL (SqL.of hst.pl) ?_
    wtm_at "jw"
    refine c_decN (fun hno => ?_) (fun hin => ?_)
    · wtm_at "jw"
      refine ⟨_, rfl, fun d hd => ?_⟩
      rcases q with ⟨k, a, ha, e, _⟩ | ⟨_, q⟩
      · exact absurd (by rw [← e]; exact List.mem_map_of_mem (List.mem_of_getElem? ha)) hno
      · exact q d _ (same_new hd) upd_same
    · obtain ⟨k, a, ha, e, q⟩ : ∃ (k : Nat) (a : Int × List Int), kept[k]? = some a ∧ a.1 = t ∧ ∀ r H', Same H H' → SqT K H' r (a.2.map V.int) → Q (.ref r) H' := by
        rcases q with q | ⟨hno, _⟩
        · exact q
        · exact absurd hin hno
      wtm_at "jw"
      refine i_ins hst.ob T.cl_Store T.na_Store_whole (lk_whole P w S) ?_
      wtm_at "jw"
      refine i_ins hst.ob T.cl_Store T.na_Store_places (lk_places P w S) ?_
      refine i_tyL (SqL.of hst.pl) ?_
      wtm_at "jw"
      have htk : (tks kept)[k]? = some t := by unfold tks; rw [List.getElem?_map, ha]; exact congrArg some e
      have hkl := (List.getElem?_eq_some_iff.mp ha).1
      refine ⟨P, (tks kept).map V.int, .int t, k, .int t, rfl, rfl, SqL.of hst.pl, rfl, flat_ints _, by rw [List.getElem?_map, htk]; rfl, by simp [eqV], fun m z hm hz => ?_, ?_⟩
      · rw [List.getElem?_map] at hz
        obtain ⟨y, hy, rfl⟩ := Option.map_eq_some_iff.mp hz
        have := sorted_ix ko.srt htk hy hm
        simp [eqV]
        omega
      have k24 : kept.length ≤ 1000 := keptLen ko
      wtm_at "jw"
      refine f_range (fun j σ H' => Same H H' ∧ ∃ r w3, σ = [some (.ref s), some (.int t), some (.ref r), w3] ∧ SqT K H' r ((stateK kept j).map V.int)) ⟨fun _ _ h => h, w, none, rfl, by rw [stateK_zero]; exact hst.wh⟩ (fun j σ H' hj h => ?_) (fun σ H' h => ?_)
      · obtain ⟨s1, r, w3, rfl, hr'⟩ := h
        have hjk : j < k := by simpa using hj
        have hrl := hst.rl
        have hjr : j < rs.length := by omega
        obtain ⟨x, y, hx, hy, hp, hap, la, lb, hin⟩ := step_at hst ko (List.getElem?_eq_getElem hjr)
        rw [stateK_at hx] at hr'
        have hnn := ko.nn
        have hst1 := hst.same s1
        have hS1 := hst1.st
        have aj : atI (rs.map V.ref) ((0 : Int) + (j : Int)) = some (.ref rs[j]) := by
          rw [Int.zero_add]
          exact atI_nat (by rw [List.getElem?_map, List.getElem?_eq_getElem hjr]; rfl)
        wtm_at "jw"
        refine i_ins hst1.ob T.cl_Store T.na_Store_steps (lk_steps P w S) ?_
        wtm_at "jw"
        refine ⟨r, rs[j], x.2, _, rfl, hr', hp.same s1, by omega, hin, fun r2 H2 s2 h2 => ?_⟩
        wtm_at "jw"
        refine ⟨fun b o hb => s2 _ _ (s1 _ _ hb), r2, _, rfl, ?_⟩
        rw [stateK_at hy, ← hap]
        exact SqT.of h2
      · obtain ⟨s1, r, w3, rfl, hr'⟩ := h
        rw [show (((k : Nat) : Int)).toNat = k from Int.toNat_natCast k, stateK_at ha] at hr'
        wtm_at "jw"
        exact q _ _ s1 hr'
theorem StepTo.refl {K : PySem.W.Frag} {C : Addr} {H : Hp} {s dx P w S : Addr} {rs : List Addr} {kept : KS} (h : StoreAt K C H s dx P w S rs kept) : StepTo K C H H s dx P S kept := ⟨fun _ _ e _ _ _ => e, fun _ e => e, P, w, S, rs, h, .inl rfl, .inl rfl⟩
/-- one deed behind another one -/
theorem StepTo.then {K : PySem.W.Frag} {C : Addr} {H H1 H2 : Hp} {s dx P w S P1 w1 S1 : Addr} {rs rs1 : List Addr} {kept k1 k2 : KS} (h0 : StoreAt K C H s dx P w S rs kept) (h1 : StoreAt K C H1 s dx P1 w1 S1 rs1 k1) (mv : Mv s P S H H1) (al : ∀ b, H1 b = none → H b = none)
    (eP : P1 = P ∨ H P1 = none) (eS : S1 = S ∨ H S1 = none) (st : StepTo K C H1 H2 s dx P1 S1 k2) : StepTo K C H H2 s dx P S k2 := by
  obtain ⟨P2, w2, S2, rs2, h2, e2, f2⟩ := st.to
  refine ⟨fun b o hb n1 n2 n3 => st.mv b o (mv b o hb n1 n2 n3) n1 (fun z => ?_) (fun z => ?_), fun b hb => al _ (st.al _ hb), P2, w2, S2, rs2, h2, ?_, ?_⟩
  · rcases eP with e | e
    · exact n2 (z.trans e)
    · rw [z, e] at hb; cases hb
  · rcases eS with e | e
    · exact n3 (z.trans e)
    · rw [z, e] at hb; cases hb
  · rcases e2 with e | e
    · subst e
      exact eP
    · exact .inr (al _ e)
  · rcases f2 with e | e
    · subst e
      exact eS
    · exact .inr (al _ e)
/-- a state behind the others -/
theorem StoreAt.snoc {K : PySem.W.Frag} {C : Addr} {H H' : Hp} {s dx P w S w2 r : Addr} {rs : List Addr} {kept : KS} {t : Int} {st : List Int} (h : StoreAt K C H s dx P w S rs kept) (tp : Tps H H') (ob : H' s = some (.ins C dx (sfs P w2 S))) (pl : H' P = some (.lst ((tks kept).map V.int ++ [.int t])))
    (wh : SqT K H' w2 ((wholeK (kept ++ [(t, st)])).map V.int)) (rs' : List Addr) (hs : H' S = some (.lst (rs'.map V.ref))) (hrs : (kept = [] ∧ rs' = rs) ∨ (∃ a, kept[kept.length - 1]? = some a ∧ rs' = rs ++ [r] ∧ Prs H' r (df a.2 st))) : StoreAt K C H' s dx P w2 S rs' (kept ++ [(t, st)]) := by
  have hrl := h.rl
  refine ⟨ob, by rw [pl]; unfold tks; rw [List.map_append, List.map_append]; rfl, wh, hs, ?_, fun i q a b h1 h2 h3 => ?_, h.ps⟩
  · rcases hrs with ⟨rfl, rfl⟩ | ⟨a, ha, rfl, _⟩
    · exact hrl
    · have := (List.getElem?_eq_some_iff.mp ha).1
      rw [List.length_append, List.length_append, hrl]
      show kept.length - 1 + 1 = kept.length + 1 - 1
      omega
  · rcases hrs with ⟨rfl, rfl⟩ | ⟨x, hx, rfl, hp⟩
    · have hz : rs' = [] := List.eq_nil_of_length_eq_zero (by rw [hrl]; rfl)
      rw [hz] at h1
      simp at h1
    · have hk := (List.getElem?_eq_some_iff.mp hx).1
      by_cases hi : i < rs.length
      · rw [List.getElem?_append_left hi] at h1
        rw [List.getElem?_append_left (by omega)] at h2 h3
        exact (h.rw i q a b h1 h2 h3).tps tp
      · have hi2 := (List.getElem?_eq_some_iff.mp h1).1
        rw [List.length_append] at hi2
        have hi3 : i = kept.length - 1 := by
          have : i < rs.length + 1 := hi2
          omega
        subst hi3
        rw [List.getElem?_append_right (by omega), show kept.length - 1 - rs.length = 0 from by omega] at h1
        rw [List.getElem?_append_left (by omega), hx] at h2
        rw [show kept.length - 1 + 1 = kept.length from by omega, List.getElem?_append_right (Nat.le_refl _), Nat.sub_self] at h3
        cases h1
        cases h2
        cases h3
        exact hp
def sp_Store_keep (K : PySem.W.Frag) (C_Store : Addr) : Sp := fun vs H Q _ => ∃ (s dx P w S : Addr) (rs : List Addr) (kept : KS) (n : Nat) (t : Int) (sr : Addr) (st : List Int), vs = [.ref s, .int t, .ref sr] ∧ StoreAt K C_Store H s dx P w S rs kept ∧ KeptOk n kept ∧ SqT K H sr (st.map V.int) ∧ st.length = n ∧
  ∀ H', StepTo K C_Store H H' s dx P S (kept.take (cnt kept t) ++ [(t, st)]) → Q .non H'
theorem KeptOk.take {n : Nat} {kept : KS} (ko : KeptOk n kept) (c : Nat) : KeptOk n (kept.take c) :=
  ⟨by unfold tks; rw [List.map_take]; exact ko.srt.sublist (List.take_sublist _ _), fun p hp => ko.len p (List.mem_of_mem_take hp), fun p hp => ko.tk p (List.mem_of_mem_take hp), ko.nn⟩
theorem ok_Store_keep {P : Program} {w : World} {K : PySem.W.Frag} {mg : Str → Option Value} {base : Heap} {C_Store : Addr} {C_NoState : Addr} {f : Addr} {fd : FuncData} (F : Dm K C_Store "keep" "Store.keep" s_Store_keep f fd ["self", "tick", "state"]) (T : Txt K mg C_Store C_NoState)
    (c_Store_drop_from : Mt P w K mg base 2 C_Store "drop_from" (sp_Store_drop_from K C_Store))
    (c_difference : Cl P w K mg base 1 "difference" (sp_difference K))
    (c_Store_last_state : Mt P w K mg base 2 C_Store "last_state" (sp_Store_last_state K C_Store)) : FnOk P w K mg base CX0 3 f fd ["self", "tick", "state"] (sp_Store_keep K C_Store) := by
  refine F.ok sc_Store_keep (fun vs H Q E h => ?_) (fun cdv A outer s H vs Q E hr h => ?_)
  · obtain ⟨s, dx, P, w, S, rs, kept, n, t, sr, st, rfl, _⟩ := h
    rfl
  · obtain ⟨s, dx, P, w, S, rs, kept, n, t, sr, st, rfl, hst, ko, hsr, hsl, q⟩ := h
    refine ⟨_, (pss_cons (ps_expr (pe_mtc c_Store_drop_from T.cl_Store hr (by decide) (pv 0) (pa_cons (pv 1) pa_nil)))
      (pss_cons (ps_if (pt_cmpR op_eq (pe_callB (id := "len") (r := qLen K) c_len (by rfl) T.b_len (by decide +kernel) (pa_cons (pe_fldK (K := K) rfl (pv 0) rfl) pa_nil)) pe_int (nomark _)) (pss_one (ps_fld (pv 0) (pv 2) rfl)) (pss_one (ps_expr (pe_bmK (K := K) rfl PySem.F.plainAttrs_list PySem.F.slot_list_append PySem.F.type_list_append mt_append (pe_fldK (K := K) rfl (pv 0) rfl) (pa_cons (pe_cl c_difference hr (by decide) rfl (pa_cons (pe_mtc0 c_Store_last_state T.cl_Store hr (by decide) (pv 0)) (pa_cons (pv 2) pa_nil))) pa_nil)))))
      (pss_one (ps_expr (pe_bmK (K := K) rfl PySem.F.plainAttrs_list PySem.F.slot_list_append PySem.F.type_list_append mt_append (pe_fldK (K := K) rfl (pv 0) rfl) (pa_cons (pv 1) pa_nil)))))), ?_⟩
    try dsimp only [cxOf, Cx.nox, Cx.wish]
    refine st_of (σ' := [some _, some _, some _]) rfl ?_
    wtm_at "jw"
    refine ⟨s, dx, _, rfl, hst.ob, lk_no (by decide +kernel) (by decide +kernel) (by decide +kernel), ?_⟩
    wtm_at "jw"
    refine ⟨s, dx, P, w, S, rs, kept, t, rfl, hst, keptLen ko, fun H1 sa => ?_⟩
    obtain ⟨P1, w1, S1, rs1, hst1, eP, eS⟩ := sa.to
    have tp1 := hst.tps sa.mv
    have hsr1 := tp1.sq hsr
    have ko1 := ko.take (cnt kept t)
    have fin : ∀ H', StepTo K C_Store H1 H' s dx P1 S1 (kept.take (cnt kept t) ++ [(t, st)]) → Q .non H' := fun H' h' => q H' (StepTo.then hst hst1 sa.mv sa.al eP eS h')
    generalize kept.take (cnt kept t) = k1 at hst1 ko1 fin
    have hnn := ko.nn
    wtm_at "jw"
    refine i_ins hst1.ob T.cl_Store T.na_Store_places (lk_places P1 w1 S1) ?_
    have hpl1 := hst1.pl
    wtm_at "jw"
    rw [List.length_map, tks_len]
    have lk1 := keptLen ko1
    have ltk : ((tks k1).map V.int).length ≤ 1000 := by rw [List.length_map, tks_len]; exact lk1
    refine c_dec (fun h0 => ?_) (fun h0 => ?_)
    · have ek : k1 = [] := List.eq_nil_of_length_eq_zero (by omega)
      subst ek
      wtm_at "jw"
      refine i_insS hst1.ob T.cl_Store T.na_Store_whole (sfs_len _ _ _) ?_
      rw [put_whole]
      have hob2 : upd H1 s (.ins C_Store dx (sfs P1 sr S1)) s = some (.ins C_Store dx (sfs P1 sr S1)) := upd_same
      have hpl2 : upd H1 s (.ins C_Store dx (sfs P1 sr S1)) P1 = some (.lst ((tks ([] : KS)).map V.int)) := by rw [upd_ne hst1.nP.symm]; exact hpl1
      wtm_at "jw"
      refine i_ins hob2 T.cl_Store T.na_Store_places (lk_places P1 sr S1) ?_
      wtm_at "jw"
      have tp2 : Tps H1 (upd (upd H1 s (.ins C_Store dx (sfs P1 sr S1))) P1 (.lst ((tks ([] : KS)).map V.int ++ [.int t]))) := hst1.tps fun b o hb n1 n2 n3 => by rw [upd_ne n2, upd_ne n1]; exact hb
      refine fin _ ⟨fun b o hb n1 n2 n3 => by rw [upd_ne n2, upd_ne n1]; exact hb, fun b hb => ?_, P1, sr, S1, rs1, hst1.snoc (r := s) tp2 (by rw [upd_ne hst1.nP]; exact upd_same) upd_same (tp2.sq hsr1) rs1 (by rw [upd_ne hst1.ps.symm, upd_ne hst1.nS.symm]; exact hst1.st) (.inl ⟨rfl, rfl⟩), .inl rfl, .inl rfl⟩
      by_cases e1 : b = P1
      · rw [e1, upd_same] at hb; cases hb
      · rw [upd_ne e1] at hb
        by_cases e2 : b = s
        · rw [e2, upd_same] at hb; cases hb
        · rw [upd_ne e2] at hb; exact hb
    · obtain ⟨a, ha⟩ : ∃ a, k1[k1.length - 1]? = some a := ⟨_, List.getElem?_eq_getElem (by omega)⟩
      have la := ko1.len a (List.mem_of_getElem? ha)
      wtm_at "jw"
      refine i_ins hst1.ob T.cl_Store T.na_Store_steps (lk_steps P1 w1 S1) ?_
      refine i_tyL (SqL.of hst1.st) ?_
      wtm_at "jw"
      refine ⟨s, dx, _, rfl, hst1.ob, lk_no (by decide +kernel) (by decide +kernel) (by decide +kernel), ?_⟩
      wtm_at "jw"
      refine ⟨s, dx, P1, w1, S1, rs1, k1, n, rfl, hst1, ko1, fun r2 H2 s2 h2 => ?_⟩
      rw [stateK_at ha] at h2
      have hsr2 := Same.tup s2 hsr1
      wtm_at "jw"
      refine ⟨r2, sr, a.2, st, rfl, h2, hsr2, by omega, by omega, fun r3 H3 s3 h3 => ?_⟩
      have hst3 := (hst1.same s2).same s3
      have hS3 := hst3.st
      have hrl := hst1.rl
      have lrs : (rs1.map V.ref).length ≤ 1000 := by rw [List.length_map]; omega
      wtm_at "jw"
      have hob4 : upd H3 S1 (.lst (rs1.map V.ref ++ [.ref r3])) s = some (.ins C_Store dx (sfs P1 w1 S1)) := by rw [upd_ne hst3.nS]; exact hst3.ob
      have hpl4 : upd H3 S1 (.lst (rs1.map V.ref ++ [.ref r3])) P1 = some (.lst ((tks k1).map V.int)) := by rw [upd_ne hst3.ps]; exact hst3.pl
      refine i_ins hob4 T.cl_Store T.na_Store_places (lk_places P1 w1 S1) ?_
      wtm_at "jw"
      have s13 : Same H1 H3 := fun b o hb => s3 _ _ (s2 _ _ hb)
      have mv5 : Mv s P1 S1 H1 (upd (upd H3 S1 (.lst (rs1.map V.ref ++ [.ref r3]))) P1 (.lst ((tks k1).map V.int ++ [.int t]))) := fun b o hb n1 n2 n3 => by rw [upd_ne n2, upd_ne n3]; exact s13 _ _ hb
      have tp5 := hst1.tps mv5
      have tp35 : Tps H3 (upd (upd H3 S1 (.lst (rs1.map V.ref ++ [.ref r3]))) P1 (.lst ((tks k1).map V.int ++ [.int t]))) := hst3.tps fun b o hb n1 n2 n3 => by rw [upd_ne n2, upd_ne n3]; exact hb
      have hw5 : SqT K (upd (upd H3 S1 (.lst (rs1.map V.ref ++ [.ref r3]))) P1 (.lst ((tks k1).map V.int ++ [.int t]))) w1 ((wholeK (k1 ++ [(t, st)])).map V.int) := by
        have e : wholeK (k1 ++ [(t, st)]) = wholeK k1 := by
          cases k1 with
          | nil => simp at ha
          | cons x r => rfl
        rw [e]
        exact tp5.sq hst1.wh
      refine fin _ ⟨mv5, fun b hb => ?_, P1, w1, S1, rs1 ++ [r3], hst1.snoc (r := r3) tp5 (by rw [upd_ne hst3.nP]; exact hob4) upd_same hw5 (rs1 ++ [r3]) (by rw [upd_ne hst3.ps.symm, upd_same, List.map_append]; rfl) (.inr ⟨a, ha, rfl, h3.tps tp35⟩), .inl rfl, .inl rfl⟩
      by_cases e1 : b = P1
      · rw [e1, upd_same] at hb; cases hb
      · rw [upd_ne e1] at hb
        by_cases e2 : b = S1
        · rw [e2, upd_same] at hb; cases hb
        · rw [upd_ne e2] at hb; exact same_free s13 hb
/-- all but the state at a tick -/
def without (kept : KS) (t : Int) : KS := kept.filter fun p => decide (p.1 ≠ t)
theorem without_no {kept : KS} {t : Int} (h : t ∉ tks kept) : without kept t = kept := by
  unfold without
  rw [List.filter_eq_self]
  intro p hp
  have : p.1 ≠ t := fun e => h (by rw [← e]; exact List.mem_map_of_mem hp)
  simpa using this
theorem without_at {kept : KS} {t : Int} {k : Nat} {a : Int × List Int} (h : (tks kept).Pairwise (· < ·)) (ha : kept[k]? = some a) (e : a.1 = t) : without kept t = kept.take k ++ kept.drop (k + 1) := by
  have hk := (List.getElem?_eq_some_iff.mp ha).1
  have hs : kept = kept.take k ++ a :: kept.drop (k + 1) := by
    conv => lhs; rw [← List.take_append_drop k kept]
    rw [List.drop_eq_getElem_cons hk, (List.getElem?_eq_some_iff.mp ha).2]
  have htk : (tks kept)[k]? = some t := by unfold tks; rw [List.getElem?_map, ha]; exact congrArg some e
  have f1 : ∀ p ∈ kept.take k, p.1 ≠ t := fun p hp => by
    obtain ⟨j, hj, ej⟩ := List.getElem_of_mem hp
    rw [List.length_take] at hj
    have h1 : (tks kept)[j]? = some p.1 := by
      unfold tks
      rw [List.getElem?_map, List.getElem?_eq_getElem (by omega), ← ej, List.getElem_take]
      rfl
    have := sorted_ix h htk h1 (by omega)
    omega
  have f2 : ∀ p ∈ kept.drop (k + 1), p.1 ≠ t := fun p hp => by
    obtain ⟨j, hj, ej⟩ := List.getElem_of_mem hp
    rw [List.length_drop] at hj
    have h1 : (tks kept)[k + 1 + j]? = some p.1 := by
      unfold tks
      rw [List.getElem?_map, List.getElem?_eq_getElem (by omega), ← ej, List.getElem_drop]
      rfl
    have := sorted_ix h h1 htk (by omega)
    omega
  unfold without
  conv => lhs; rw [hs]
  rw [List.filter_append, List.filter_cons_of_neg (by simpa using e), List.filter_eq_self.mpr fun p hp => by simpa using f1 p hp, List.filter_eq_self.mpr fun p hp => by simpa using f2 p hp]
theorem cnt_at {kept : KS} {t : Int} {k : Nat} {a : Int × List Int} (h : (tks kept).Pairwise (· < ·)) (ha : kept[k]? = some a) (e : a.1 = t) : cnt kept t = k := by
  have htk : (tks kept)[k]? = some t := by unfold tks; rw [List.getElem?_map, ha]; exact congrArg some e
  exact tw_stop (fun j y hj hy => sorted_ix h htk hy hj) htk (by omega)
theorem cutV_to {xs : List V} {k : Nat} (h : k ≤ xs.length) : cutV xs none (some (k : Int)) = xs.take k := by
  unfold cutV
  rw [HT.sIx_nat, HT.sIx_none, Nat.sub_zero, List.drop_zero, Nat.min_eq_left h]
theorem cutV_from {xs : List V} {k : Nat} (h : k ≤ xs.length) : cutV xs (some (k : Int)) none = xs.drop k := by
  unfold cutV
  rw [HT.sIx_nat, HT.sIx_none, Nat.min_eq_left h, List.take_of_length_le (by rw [List.length_drop]; omega)]
theorem df_two {a b c : List Int} {n : Nat} (la : a.length = n) (lb : b.length = n) (lc : c.length = n) : th a (rowsN (cm (dfc a b) (dfc b c)) n) = df a c := by
  have e1 : ap a (rowsN (cm (dfc a b) (dfc b c)) n) = c := by
    rw [← ap_cm la]
    have h1 := ap_df (os := a) (ns := b) (by omega)
    have h2 := ap_df (os := b) (ns := c) (by omega)
    unfold df at h1 h2
    rw [lb] at h1
    rw [lc] at h2
    rw [h1, h2]
  have e2 := th_ap a (cm (dfc a b) (dfc b c))
  rw [la, e1] at e2
  exact e2
def sp_Store_drop (K : PySem.W.Frag) (C_Store : Addr) : Sp := fun vs H Q _ => ∃ (s dx P w S : Addr) (rs : List Addr) (kept : KS) (n : Nat) (t : Int), vs = [.ref s, .int t] ∧ StoreAt K C_Store H s dx P w S rs kept ∧ KeptOk n kept ∧
  ∀ H', StepTo K C_Store H H' s dx P S (without kept t) → Q .non H'
theorem tks_ix {kept : KS} {t : Int} (h : t ∈ tks kept) : ∃ (k : Nat) (a : Int × List Int), kept[k]? = some a ∧ a.1 = t := by
  obtain ⟨p, hp, e⟩ := List.mem_map.mp h
  obtain ⟨k, hk, ek⟩ := List.getElem_of_mem hp
  exact ⟨k, p, by rw [List.getElem?_eq_getElem hk, ek], e⟩
theorem ok_Store_drop {P : Program} {w : World} {K : PySem.W.Frag} {mg : Str → Option Value} {base : Heap} {C_Store : Addr} {C_NoState : Addr} {f : Addr} {fd : FuncData} (F : Dm K C_Store "drop" "Store.drop" s_Store_drop f fd ["self", "tick"]) (T : Txt K mg C_Store C_NoState)
    (c_Store_has : Mt P w K mg base 1 C_Store "has" (sp_Store_has K C_Store))
    (c_Store_drop_from : Mt P w K mg base 2 C_Store "drop_from" (sp_Store_drop_from K C_Store))
    (c_Store_state_at : Mtx P w K mg base 3 C_Store "state_at" (sp_Store_state_at K C_Store C_NoState))
    (c_changed : Cl P w K mg base 1 "changed" (sp_changed K))
    (c_composed : Cl P w K mg base 1 "composed" (sp_composed K))
    (c_thinned : Cl P w K mg base 1 "thinned" (sp_thinned K)) : FnOk P w K mg base CX0 4 f fd ["self", "tick"] (sp_Store_drop K C_Store) := by
  refine F.ok sc_Store_drop (fun vs H Q E h => ?_) (fun cdv A outer s H vs Q E hr h => ?_)
  · obtain ⟨s, dx, P, w, S, rs, kept, n, t, rfl, _⟩ := h
    rfl
  · obtain ⟨s, dx, P, w, S, rs, kept, n, t, rfl, hst, ko, q⟩ := h
    have hob := hst.ob
    have k25 := keptLen25 ko
    have hrl := hst.rl
    have hnn := ko.nn
    refine ⟨_, (pss_cons (ps_if (pt_not (pt_val (pe_mtc c_Store_has T.cl_Store hr (by decide) (pv 0) (pa_cons (pv 1) pa_nil)))) (pss_one ps_retN) pss_nil)
      (pss_cons (ps_set (i := 2) sc_Store_drop.nd rfl (Or.inl rfl) (pe_bmK (K := K) rfl PySem.F.plainAttrs_list PySem.F.slot_list_index PySem.F.type_list_index mt_index (pe_fldK (K := K) rfl (pv 0) rfl) (pa_cons (pv 1) pa_nil)))
      (pss_cons (ps_if (pt_cmpR op_eq (pv 2) (pe_op op_sub (pe_callB (id := "len") (r := qLen K) c_len (by rfl) T.b_len (by decide +kernel) (pa_cons (pe_fldK (K := K) rfl (pv 0) rfl) pa_nil)) pe_int) (nomark _)) (pss_cons (ps_expr (pe_mtc c_Store_drop_from T.cl_Store hr (by decide) (pv 0) (pa_cons (pv 1) pa_nil)))
      (pss_one ps_retN)) pss_nil)
      (pss_cons (ps_if (pt_cmpR op_eq (pv 2) pe_int (nomark _)) (pss_cons (ps_fld (pv 0) (pe_cl c_changed hr (by decide) rfl (pa_cons (pe_fldK (K := K) rfl (pv 0) rfl) (pa_cons (pe_ix (r := rIxL K) ix_list (pe_fldK (K := K) rfl (pv 0) rfl) pe_int (fun _ _ => rfl)) pa_nil))) rfl)
      (pss_one (ps_fld (pv 0) (pe_slice (r := rSlL K) sl_list (pe_fldK (K := K) rfl (pv 0) rfl) (po_some pe_int) po_none) rfl))) (pss_cons (ps_set (i := 3) sc_Store_drop.nd rfl (Or.inl rfl) (pe_mtx c_Store_state_at T.cl_Store hr (by decide) (pv 0) (pa_cons (pe_ix (r := rIxL K) ix_list (pe_fldK (K := K) rfl (pv 0) rfl) (pe_op op_sub (pv 2) pe_int) (fun _ _ => rfl)) pa_nil)))
      (pss_cons (ps_set (i := 4) sc_Store_drop.nd rfl (Or.inl rfl) (pe_cl c_composed hr (by decide) rfl (pa_cons (pe_ix (r := rIxL K) ix_list (pe_fldK (K := K) rfl (pv 0) rfl) (pe_op op_sub (pv 2) pe_int) (fun _ _ => rfl)) (pa_cons (pe_ix (r := rIxL K) ix_list (pe_fldK (K := K) rfl (pv 0) rfl) (pv 2) (fun _ _ => rfl)) pa_nil))))
      (pss_one (ps_fld (pv 0) (pe_op op_cat (pe_op op_cat (pe_slice (r := rSlL K) sl_list (pe_fldK (K := K) rfl (pv 0) rfl) po_none (po_some (pe_op op_sub (pv 2) pe_int))) (pe_lst (pa_cons (pe_cl c_thinned hr (by decide) rfl (pa_cons (pv 3) (pa_cons (pv 4) pa_nil))) pa_nil))) (pe_slice (r := rSlL K) sl_list (pe_fldK (K := K) rfl (pv 0) rfl) (po_some (pe_op op_add (pv 2) pe_int)) po_none)) rfl)))))
      (pss_one (ps_fld (pv 0) (pe_op op_cat (pe_slice (r := rSlL K) sl_list (pe_fldK (K := K) rfl (pv 0) rfl) po_none (po_some (pv 2))) (pe_slice (r := rSlL K) sl_list (pe_fldK (K := K) rfl (pv 0) rfl) (po_some (pe_op op_add (pv 2) pe_int)) po_none)) rfl)))))), ?_⟩
    try dsimp only [cxOf, Cx.nox, Cx.wish]
    refine st_of (σ' := [some _, some _, none, none, none]) rfl ?_
    wtm_at "jw"
    refine ⟨s, dx, _, rfl, hob, lk_no (by decide +kernel) (by decide +kernel) (by decide +kernel), ?_⟩
    wtm_at "jw"
    refine ⟨s, dx, P, w, S, rs, kept, t, rfl, hst, ?_⟩
    wtm_at "jw"
    refine c_decN (fun hno => ?_) (fun hin => ?_)
    · wtm_at "jw"
      refine q _ ?_
      rw [without_no hno]
      exact StepTo.refl hst
    · obtain ⟨k, a, ha, e⟩ := tks_ix hin
      have hk := (List.getElem?_eq_some_iff.mp ha).1
      have htk : (tks kept)[k]? = some t := by unfold tks; rw [List.getElem?_map, ha]; exact congrArg some e
      rw [without_at ko.srt ha e] at q
      wtm_at "jw"
      refine i_ins hob T.cl_Store T.na_Store_places (lk_places P w S) ?_
      refine i_tyL (SqL.of hst.pl) ?_
      wtm_at "jw"
      refine ⟨P, (tks kept).map V.int, .int t, k, .int t, rfl, rfl, SqL.of hst.pl, rfl, flat_ints _, by rw [List.getElem?_map, htk]; rfl, by simp [eqV], fun m z hm hz => ?_, ?_⟩
      · rw [List.getElem?_map] at hz
        obtain ⟨y, hy, rfl⟩ := Option.map_eq_some_iff.mp hz
        have := sorted_ix ko.srt htk hy hm
        simp [eqV]
        omega
      wtm_at "jw"
      refine i_ins hob T.cl_Store T.na_Store_places (lk_places P w S) ?_
      have hpl := hst.pl
      wtm_at "jw"
      rw [List.length_map, tks_len]
      refine c_dec (fun hlast => ?_) (fun hmid => ?_)
      · wtm_at "jw"
        refine ⟨s, dx, _, rfl, hob, lk_no (by decide +kernel) (by decide +kernel) (by decide +kernel), ?_⟩
        wtm_at "jw"
        refine ⟨s, dx, P, w, S, rs, kept, t, rfl, hst, keptLen ko, fun H1 sa => ?_⟩
        rw [cnt_at ko.srt ha e] at sa
        rw [List.drop_of_length_le (by omega), List.append_nil] at q
        wtm_at "jw"
        exact q _ sa
      · have hk2 : k + 1 < kept.length := by omega
        obtain ⟨b, hb⟩ : ∃ b, kept[k + 1]? = some b := ⟨_, List.getElem?_eq_getElem hk2⟩
        have lpk : ((tks kept).map V.int).length = kept.length := by rw [List.length_map, tks_len]
        have lrk : (rs.map V.ref).length = kept.length - 1 := by rw [List.length_map, hrl]
        wtm_at "js"
        refine i_ifC (fun σ' H5 => (∃ v3 v4, σ' = [some (.ref s), some (.int t), some (.int (k : Int)), v3, v4]) ∧ ∃ (w2 S2 : Addr) (rs2 : List Addr), H5 s = some (.ins C_Store dx (sfs P w2 S2)) ∧ H5 P = some (.lst ((tks kept).map V.int)) ∧ SqT K H5 w2 ((wholeK (kept.take k ++ kept.drop (k + 1))).map V.int) ∧ H5 S2 = some (.lst (rs2.map V.ref)) ∧
            rs2.length = kept.length - 2 ∧ (∀ (i : Nat) (r : Addr) (x y : Int × List Int), rs2[i]? = some r → (kept.take k ++ kept.drop (k + 1))[i]? = some x → (kept.take k ++ kept.drop (k + 1))[i + 1]? = some y → Prs H5 r (df x.2 y.2)) ∧ P ≠ S2 ∧ H S2 = none ∧ (∀ b o, H b = some o → b ≠ s → H5 b = some o)) (fun σ' H5 h => ?_) (fun N hN => ?_)
        · obtain ⟨⟨v3, v4, rfl⟩, w2, S2, rs2, g1, g2, g3, g4, g5, g6, g7, g8, g9⟩ := h
          wtm_at "jw"
          refine i_ins g1 T.cl_Store T.na_Store_places (lk_places P w2 S2) ?_
          wtm_at "jw"
          refine i_slL (SqL.of g2) fun L1 H6 s6 n6 h6 => ?_
          rw [cutV_to (by omega)] at h6
          wtm_at "jw"
          refine i_ins (s6 _ _ g1) T.cl_Store T.na_Store_places (lk_places P w2 S2) ?_
          wtm_at "jw"
          refine i_slL (SqL.of (s6 _ _ g2)) fun L2 H7 s7 n7 h7 => ?_
          rw [show (k : Int) + 1 = ((k + 1 : Nat) : Int) from rfl, cutV_from (by omega)] at h7
          wtm_at "jw"
          refine i_cat' (s7 _ _ h6) h7 (by rw [List.length_take, List.length_drop]; omega) fun L3 H8 s8 n8 h8 => ?_
          have s58 : Same H5 H8 := fun b o hb => s8 _ _ (s7 _ _ (s6 _ _ hb))
          have nL : H5 L3 = none := same_free (fun b o hb => s7 _ _ (s6 _ _ hb) : Same H5 H7) n8
          have nHs : s ≠ L3 := ne_of_none g1 nL
          have nHL : H L3 = none := by
            cases eL : H L3 with
            | none => rfl
            | some o => rw [g9 _ _ eL nHs.symm] at nL; cases nL
          wtm_at "jw"
          refine i_insS (s58 _ _ g1) T.cl_Store T.na_Store_places (sfs_len _ _ _) ?_
          rw [put_places]
          wtm_at "jw"
          have mv9 : ∀ b o, H b = some o → b ≠ s → upd H8 s (.ins C_Store dx (sfs L3 w2 S2)) b = some o := fun b o hb h1 => by
            rw [upd_ne h1]
            exact s58 _ _ (g9 _ _ hb h1)
          have tp9 : Tps H5 (upd H8 s (.ins C_Store dx (sfs L3 w2 S2))) := fun b => ⟨fun xs eb => by rw [upd_ne (ne_of eb g1 (by intro z; cases z))]; exact s58 _ _ eb, fun o xs eb => by rw [upd_ne (ne_of eb g1 (by intro z; cases z))]; exact s58 _ _ eb⟩
          have nsS2 : s ≠ S2 := ne_of_none hob g8
          have nL3S2 : L3 ≠ S2 := (ne_of_none g4 nL).symm
          refine q _ ⟨fun b o hb h1 _ _ => mv9 b o hb h1, fun b hb => ?_, L3, w2, S2, rs2, ⟨upd_same, ?_, tp9.sq g3, by rw [upd_ne nsS2.symm]; exact s58 _ _ g4, ?_, fun i r x y h1 h2 h3 => (g6 i r x y h1 h2 h3).tps tp9, nL3S2⟩, .inr nHL, .inr g8⟩
          · by_cases hbs : b = s
            · rw [hbs, upd_same] at hb; cases hb
            · cases eb : H b with
              | none => rfl
              | some o => rw [mv9 b o eb hbs] at hb; cases hb
          · rw [upd_ne nHs.symm, h8]
            unfold tks
            rw [List.map_append, List.map_append]
            simp only [List.map_take, List.map_drop]
          · rw [g5, List.length_append, List.length_take, List.length_drop]
            omega
        wtm_at "jw"
        refine c_dec (fun h0 => ?_) (fun h0 => ?_)
        · obtain rfl : k = 0 := by omega
          have hr0 : rs[0]? = some (rs[0]'(by omega)) := List.getElem?_eq_getElem (by omega)
          obtain ⟨x, y, hx, hy, hp, hap, lx, ly, hin2⟩ := step_at hst ko hr0
          rw [ha] at hx
          cases hx
          rw [hb] at hy
          cases hy
          have hw0 : SqT K H w (a.2.map V.int) := by
            have z := hst.wh
            rw [← stateK_zero, stateK_at ha] at z
            exact z
          wtm_at "jw"
          refine i_ins hob T.cl_Store T.na_Store_whole (lk_whole P w S) ?_
          wtm_at "jw"
          refine i_ins hob T.cl_Store T.na_Store_steps (lk_steps P w S) ?_
          have a0 : atI (rs.map V.ref) 0 = some (.ref (rs[0]'(by omega))) := atI_nat (j := 0) (by rw [List.getElem?_map, hr0]; rfl)
          have hS0 := hst.st
          wtm_at "jw"
          refine ⟨w, _, a.2, _, rfl, hw0, hp, by omega, hin2, fun w2 H2 s2 h2 => ?_⟩
          rw [hap] at h2
          have hst2 := hst.same s2
          wtm_at "jw"
          refine i_insS hst2.ob T.cl_Store T.na_Store_whole (sfs_len _ _ _) ?_
          rw [put_whole]
          have hob3 : upd H2 s (.ins C_Store dx (sfs P w2 S)) s = some (.ins C_Store dx (sfs P w2 S)) := upd_same
          wtm_at "jw"
          refine i_ins hob3 T.cl_Store T.na_Store_steps (lk_steps P w2 S) ?_
          wtm_at "jw"
          have hS3 : upd H2 s (.ins C_Store dx (sfs P w2 S)) S = some (.lst (rs.map V.ref)) := by rw [upd_ne hst.nS.symm]; exact hst2.st
          refine i_slL (SqL.of hS3) fun S2 H4 s4 n4 h4 => ?_
          rw [show (1 : Int) = ((1 : Nat) : Int) from rfl, cutV_from (by omega)] at h4
          wtm_at "jw"
          refine i_insS (s4 _ _ hob3) T.cl_Store T.na_Store_steps (sfs_len _ _ _) ?_
          rw [put_steps]
          have nsS2 : s ≠ S2 := ne_of_none hob3 n4
          have n4b : H2 S2 = none := by rw [upd_ne nsS2.symm] at n4; exact n4
          have n4c : H S2 = none := same_free s2 n4b
          have nPS2 : P ≠ S2 := ne_of_none hst.pl n4c
          have mv5 : ∀ b o, H b = some o → b ≠ s → upd H4 s (.ins C_Store dx (sfs P w2 S2)) b = some o := fun b o hb h1 => by
            rw [upd_ne h1]
            refine s4 _ _ ?_
            rw [upd_ne h1]
            exact s2 _ _ hb
          have tp5 := hst.tps fun b o hb h1 _ _ => mv5 b o hb h1
          have nw2 : w2 ≠ s := fun z => by rw [z, hst2.ob] at h2; cases h2
          wtm_at "jw"
          refine hN _ _ ⟨⟨_, _, rfl⟩, w2, S2, rs.drop 1, upd_same, mv5 _ _ hst.pl hst.nP.symm, ?_, ?_, by rw [List.length_drop]; omega, fun i r x y h1 h2 h3 => ?_, nPS2, n4c, mv5⟩
          · have ew : wholeK (kept.take 0 ++ kept.drop (0 + 1)) = b.2 := by
              rw [List.take_zero, List.nil_append, ← stateK_zero]
              unfold stateK
              rw [List.getElem?_drop]
              show (Option.map (·.2) kept[1]?).getD [] = b.2
              rw [hb]
              rfl
            rw [ew]
            refine SqT.of ?_
            rw [upd_ne nw2]
            refine s4 _ _ ?_
            rw [upd_ne nw2]
            exact h2
          · rw [upd_ne nsS2.symm, h4, List.map_drop]
          · rw [List.take_zero, List.nil_append, List.getElem?_drop] at h2 h3
            rw [List.getElem?_drop] at h1
            exact (hst.rw (1 + i) r x y h1 (by rw [Nat.zero_add] at h2; exact h2) (by rw [Nat.zero_add] at h3; rw [← Nat.add_assoc] at h3; exact h3)).tps tp5
        · have hk0 : 0 < k := by omega
          obtain ⟨x, hx⟩ : ∃ x, kept[k - 1]? = some x := ⟨_, List.getElem?_eq_getElem (by omega)⟩
          have lx := ko.len x (List.mem_of_getElem? hx)
          have la := ko.len a (List.mem_of_getElem? ha)
          have lb := ko.len b (List.mem_of_getElem? hb)
          have htx : (tks kept)[k - 1]? = some x.1 := by unfold tks; rw [List.getElem?_map, hx]; rfl
          have hr1 : rs[k - 1]? = some (rs[k - 1]'(by omega)) := List.getElem?_eq_getElem (by omega)
          have hr2 : rs[k]? = some (rs[k]'(by omega)) := List.getElem?_eq_getElem (by omega)
          have pr1 := hst.rw (k - 1) _ x a hr1 hx (by rw [show k - 1 + 1 = k from by omega]; exact ha)
          have pr2 := hst.rw k _ a b hr2 ha hb
          have ax : atI ((tks kept).map V.int) ((k : Int) - 1) = some (.int x.1) := by
            rw [show (k : Int) - 1 = ((k - 1 : Nat) : Int) from by omega]
            exact atI_nat (by rw [List.getElem?_map, htx]; rfl)
          wtm_at "jw"
          refine ⟨s, dx, _, rfl, hob, lk_no (by decide +kernel) (by decide +kernel) (by decide +kernel), ?_⟩
          wtm_at "jw"
          refine i_ins hob T.cl_Store T.na_Store_places (lk_places P w S) ?_
          wtm_at "jw"
          refine ⟨s, dx, P, w, S, rs, kept, n, x.1, rfl, hst, ko, .inl ⟨k - 1, x, hx, rfl, fun rb H1 s1 hb1 => ?_⟩⟩
          have hst1 := hst.same s1
          have b1 : atI (rs.map V.ref) ((k : Int) - 1) = some (.ref (rs[k - 1]'(by omega))) := by
            rw [show (k : Int) - 1 = ((k - 1 : Nat) : Int) from by omega]
            exact atI_nat (by rw [List.getElem?_map, hr1]; rfl)
          have b2 : atI (rs.map V.ref) (k : Int) = some (.ref (rs[k]'(by omega))) := atI_nat (by rw [List.getElem?_map, hr2]; rfl)
          have hS1 := hst1.st
          wtm_at "jw"
          refine i_ins hst1.ob T.cl_Store T.na_Store_steps (lk_steps P w S) ?_
          wtm_at "jw"
          refine i_ins hst1.ob T.cl_Store T.na_Store_steps (lk_steps P w S) ?_
          wtm_at "jw"
          refine ⟨_, _, n, dfc x.2 a.2, dfc a.2 b.2, rfl, by unfold df at pr1; rw [la] at pr1; exact pr1.same s1, by unfold df at pr2; rw [lb] at pr2; exact pr2.same s1, hnn, fun r2 H2 s2 hp2 => ?_⟩
          have hb2 := Same.tup s2 hb1
          have hst2 := hst1.same s2
          have lrw := rowsN_len (cm (dfc x.2 a.2) (dfc a.2 b.2)) n
          wtm_at "jw"
          refine i_ins hst2.ob T.cl_Store T.na_Store_steps (lk_steps P w S) ?_
          wtm_at "jw"
          refine i_slL (SqL.of hst2.st) fun L1 H3 s3 n3 h3 => ?_
          rw [show (k : Int) - 1 = ((k - 1 : Nat) : Int) from by omega, cutV_to (by omega)] at h3
          have hb3 := Same.tup s3 hb2
          wtm_at "jw"
          refine ⟨rb, r2, x.2, _, rfl, hb3, hp2.same s3, by omega, by omega, fun pp hpp => by have := rowsN_in hpp; omega, fun r4 H4 s4 hp4 => ?_⟩
          rw [df_two lx la lb] at hp4
          wtm_at "jw"
          intro L2 hL2
          have s5 := same_new (o := .lst [V.ref r4]) hL2
          have h5 : upd H4 L2 (.lst [V.ref r4]) L2 = some (.lst [V.ref r4]) := upd_same
          have s15 : Same H (upd H4 L2 (.lst [V.ref r4])) := fun b o hb => s5 _ _ (s4 _ _ (s3 _ _ (s2 _ _ (s1 _ _ hb))))
          have hp5 := hp4.same s5
          have h35 := s5 _ _ (s4 _ _ h3)
          generalize upd H4 L2 (.lst [V.ref r4]) = H5 at h5 s15 hp5 h35 ⊢
          refine i_cat' h35 h5 (by rw [List.length_take]; show _ + 1 ≤ _; omega) fun L3 H6 s6 n6 h6 => ?_
          have s16 : Same H H6 := fun b o hb => s6 _ _ (s15 _ _ hb)
          have hst6 := hst.same s16
          wtm_at "jw"
          refine i_ins hst6.ob T.cl_Store T.na_Store_steps (lk_steps P w S) ?_
          wtm_at "jw"
          refine i_slL (SqL.of hst6.st) fun L4 H7 s7 n7 h7 => ?_
          rw [show (k : Int) + 1 = ((k + 1 : Nat) : Int) from rfl, cutV_from (by omega)] at h7
          wtm_at "jw"
          refine i_cat' (s7 _ _ h6) h7 (by rw [List.length_append, List.length_take, List.length_drop]; show _ + 1 + _ ≤ _; omega) fun S2 H8 s8 n8 h8 => ?_
          have s18 : Same H H8 := fun b o hb => s8 _ _ (s7 _ _ (s16 _ _ hb))
          have hst8 := hst.same s18
          have hp8 := hp5.same (fun b o hb => s8 _ _ (s7 _ _ (s6 _ _ hb)) : Same H5 H8)
          wtm_at "jw"
          refine i_insS hst8.ob T.cl_Store T.na_Store_steps (sfs_len _ _ _) ?_
          rw [put_steps]
          have n8c : H S2 = none := same_free (fun b o hb => s7 _ _ (s16 _ _ hb) : Same H H7) n8
          have nsS2 : s ≠ S2 := ne_of_none hob n8c
          have nPS2 : P ≠ S2 := ne_of_none hst.pl n8c
          have mv9 : ∀ b o, H b = some o → b ≠ s → upd H8 s (.ins C_Store dx (sfs P w S2)) b = some o := fun b o hb h1 => by
            rw [upd_ne h1]
            exact s18 _ _ hb
          have tp9 := hst.tps fun b o hb h1 _ _ => mv9 b o hb h1
          have tp89 : Tps H8 (upd H8 s (.ins C_Store dx (sfs P w S2))) := fun b => ⟨fun xs eb => by rw [upd_ne (ne_of eb hst8.ob (by intro z; cases z))]; exact eb, fun o xs eb => by rw [upd_ne (ne_of eb hst8.ob (by intro z; cases z))]; exact eb⟩
          have htl : (kept.take k).length = k := by rw [List.length_take]; omega
          wtm_at "jw"
          refine hN _ _ ⟨⟨_, _, rfl⟩, w, S2, rs.take (k - 1) ++ [r4] ++ rs.drop (k + 1), upd_same, mv9 _ _ hst.pl hst.nP.symm, ?_, ?_, ?_, fun i r y z h1 h2 h3 => ?_, nPS2, n8c, mv9⟩
          · have ew : wholeK (kept.take k ++ kept.drop (k + 1)) = wholeK kept := by
              cases kept with
              | nil => simp at ha
              | cons y r =>
                cases k with
                | zero => omega
                | succ k => rfl
            rw [ew]
            exact tp9.sq hst.wh
          · rw [upd_ne nsS2.symm, h8, List.map_append, List.map_append, List.map_take, List.map_drop]
            rfl
          · rw [List.length_append, List.length_append, List.length_take, List.length_drop]
            show min (k - 1) rs.length + 1 + _ = _
            omega
          · have lt1 : (rs.take (k - 1) ++ [r4]).length = k := by rw [List.length_append, List.length_take]; show min (k - 1) rs.length + 1 = k; omega
            by_cases hi : i < k
            · rw [List.getElem?_append_left (by omega)] at h1
              rw [List.getElem?_append_left (by omega), List.getElem?_take_of_lt hi] at h2
              by_cases hi2 : i < k - 1
              · rw [List.getElem?_append_left (by rw [List.length_take]; omega), List.getElem?_take_of_lt hi2] at h1
                rw [List.getElem?_append_left (by omega), List.getElem?_take_of_lt (by omega)] at h3
                exact (hst.rw i r y z h1 h2 h3).tps tp9
              · obtain rfl : i = k - 1 := by omega
                rw [List.getElem?_append_right (by rw [List.length_take]; omega), List.length_take, show k - 1 - min (k - 1) rs.length = 0 from by omega] at h1
                rw [List.getElem?_append_right (by omega), htl, List.getElem?_drop, show k + 1 + (k - 1 + 1 - k) = k + 1 from by omega] at h3
                rw [hx] at h2
                rw [hb] at h3
                cases h1
                cases h2
                cases h3
                exact hp8.tps tp89
            · rw [List.getElem?_append_right (by omega), lt1, List.getElem?_drop] at h1
              rw [List.getElem?_append_right (by omega), htl, List.getElem?_drop] at h2 h3
              exact (hst.rw (k + 1 + (i - k)) r y z h1 h2 (by rw [show k + 1 + (i - k) + 1 = k + 1 + (i + 1 - k) from by omega]; exact h3)).tps tp9

theorem okh_Store_has {P : Program} {w : World} {K : PySem.W.Frag} {mg : Str → Option Value} {base : Heap} {C_Store : Addr} {C_NoState : Addr} {f : Addr} {fd : FuncData} (F : Dm K C_Store "has" "Store.has" s_Store_has f fd ["self", "tick"]) (T : Txt K mg C_Store C_NoState) : FnH0 P w K mg base 1 f fd ["self", "tick"] (sp_Store_has K C_Store) := by
  refine F.okH sc_Store_has (fun vs H Q E h => ?_) (fun cdv A outer s H vs Q E hr h => ?_)
  · obtain ⟨s, dx, P, w, S, rs, kept, t, rfl, _⟩ := h
    rfl
  · obtain ⟨s, dx, P, w, S, rs, kept, t, rfl, hst, q⟩ := h
    refine ⟨_, (pss_one (ps_ret (pe_cmpR (r := rIn K false) op_in_seq (pv 1) (pe_fldK (K := K) rfl (pv 0) rfl) rfl))), ?_⟩
    try dsimp only [cxOf, Cx.nox, Cx.wish]
    refine st_of (σ' := [some _, some _]) rfl ?_
    wtm_at "jw"
    refine i_ins hst.ob T.cl_Store T.na_Store_places (lk_places P w S) ?_
    exact i_inL (SqL.of hst.pl) q
def sp__law_shuffled (K : PySem.W.Frag) : Sp := fun vs H Q _ => ∃ (p a b : Addr) (xs : List V), vs = [.ref p, .ref b] ∧ DrawAt H p a ∧ (SqL K H b xs ∨ SqT K H b xs) ∧ xs.length ≤ 1000 ∧
  ∀ (q : Addr) (ys : List V) (H' : Hp), Drew p a H H' → H q = none → H' q = some (.lst ys) → ys.Perm xs → Q (.ref q) H'
theorem ok__law_shuffled {P : Program} {w : World} {K : PySem.W.Frag} {mg : Str → Option Value} {base : Heap} {C_Store : Addr} {C_NoState : Addr} {f : Addr} {fd : FuncData} (F : Df K mg "_law_shuffled" s__law_shuffled f fd ["d", "row"]) (T : Txt K mg C_Store C_NoState)
    (c__law_draw : Cl P w K mg base 1 "_law_draw" (sp__law_draw K)) : FnOk P w K mg base CX0 2 f fd ["d", "row"] (sp__law_shuffled K) := by
  refine F.ok sc__law_shuffled (fun vs H Q E h => ?_) (fun cdv A outer s H vs Q E hr h => ?_)
  · obtain ⟨p, a, b, xs, rfl, _⟩ := h
    rfl
  · obtain ⟨p, a, b, xs, rfl, hd, hb, hl, k⟩ := h
    refine ⟨_, (pss_cons (ps_set (i := 2) sc__law_shuffled.nd rfl (Or.inl rfl) (pe_callTy (T := "list") (r := rLstOf K) c_lst (by rfl) T.b_list (by decide +kernel) (pa_cons (pv 1) pa_nil)))
      (pss_cons (ps_set (i := 3) sc__law_shuffled.nd rfl (Or.inl rfl) (pe_lst pa_nil))
      (pss_cons (ps_for PassesOwn.never rfl (pi_range1 rfl T.b_range (pa_cons (pe_callB (id := "len") (r := qLen K) c_len (by rfl) T.b_len (by decide +kernel) (pa_cons (pv 2) pa_nil)) pa_nil)) (pg_name (i := 4) sc__law_shuffled.nd rfl (Or.inl rfl)) (pss_one (ps_expr (pe_bmK (K := K) rfl PySem.F.plainAttrs_list PySem.F.slot_list_append PySem.F.type_list_append mt_append (pv 3) (pa_cons (pe_bmK (K := K) rfl PySem.F.plainAttrs_list PySem.F.slot_list_pop PySem.F.type_list_pop mt_popAt (pv 2) (pa_cons (pe_cl c__law_draw hr (by decide) rfl (pa_cons (pv 0) (pa_cons (pe_callB (id := "len") (r := qLen K) c_len (by rfl) T.b_len (by decide +kernel) (pa_cons (pv 2) pa_nil)) pa_nil))) pa_nil)) pa_nil)))))
      (pss_one (ps_ret (pv 3)))))), ?_⟩
    try dsimp only [cxOf, Cx.nox, Cx.wish]
    refine st_of (σ' := [some _, some _, none, none, none]) rfl ?_
    wtm_at "js"
    refine ⟨b, xs, rfl, hb, fun L hL => ?_⟩
    wtm_at "js"
    intro D hD
    have nLD : L ≠ D := by
      intro e
      rw [e, upd_same] at hD
      cases hD
    have hD0 : H D = none := by rw [upd_ne nLD.symm] at hD; exact hD
    wtm_at "js"
    have d0 : Drew p a H (upd (upd H L (.lst xs)) D (.lst [])) := (hd.drew.new hL).put hd hD0
    refine f_range (fun i σ H' => ∃ (v : Option V) (us ws : List V), σ = [some (.ref p), some (.ref b), some (.ref L), some (.ref D), v] ∧ Drew p a H H' ∧ H' L = some (.lst us) ∧ H' D = some (.lst ws) ∧ (ws ++ us).Perm xs ∧ ws.length = i) ⟨none, xs, [], rfl, d0, by rw [upd_ne nLD]; exact upd_same, upd_same, List.Perm.refl _, rfl⟩ (fun i σ H' hi h => ?_) (fun σ H' h => ?_)
    · obtain ⟨v, us, ws, rfl, d1, hL1, hD1, hp, hw⟩ := h
      have hlen : ws.length + us.length = xs.length := by
        have := hp.length_eq
        rw [List.length_append] at this
        exact this
      have hi' : i < xs.length := by omega
      wtm_at "js"
      refine ⟨p, a, _, rfl, d1.at_, by omega, by omega, fun r H2 r0 r1 d2 => ?_⟩
      have nLp : L ≠ p := hd.ne_none hL
      have nDp : D ≠ p := hd.ne_none hD0
      have hL2 := d2.kp _ _ hL1 nLp
      have hD2 := d2.kp _ _ hD1 nDp
      have hrl : r.toNat < us.length := by omega
      wtm_at "js"
      refine i_popAt hL2 r0 r1 (by omega) (List.getElem?_eq_getElem hrl) ?_
      have d3 := (d1.trans d2).put (o := .lst (us.eraseIdx r.toNat)) hd hL
      have hD3 : (upd H2 L (.lst (us.eraseIdx r.toNat))) D = some (.lst ws) := by rw [upd_ne nLD.symm]; exact hD2
      have hws : ws.length < sizeLine := small1000 (by omega)
      wtm_at "js"
      refine ⟨_, us.eraseIdx r.toNat, ws ++ [us[r.toNat]], rfl, d3.put hd hD0, by rw [upd_ne nLD, upd_same], upd_same, ?_, by simp [hw]⟩
      have e : (us[r.toNat] :: us.eraseIdx r.toNat).Perm us := perm_erase us _ hrl
      rw [List.append_assoc]
      exact ((List.Perm.refl ws).append e).trans hp
    · obtain ⟨v, us, ws, rfl, d1, hL1, hD1, hp, hw⟩ := h
      have hlen := hp.length_eq
      rw [List.length_append] at hlen
      have hus : us = [] := List.eq_nil_of_length_eq_zero (by omega)
      rw [hus, List.append_nil] at hp
      wtm_at "js"
      exact k D ws _ d1 hD0 hD1 hp

def sp__law_is_int (K : PySem.W.Frag) : Sp := fun vs H Q _ => ∃ (i : Int), vs = [.int i] ∧ Q (.bl true) H
theorem ok__law_is_int {P : Program} {w : World} {K : PySem.W.Frag} {mg : Str → Option Value} {base : Heap} {C_Store : Addr} {C_NoState : Addr} {f : Addr} {fd : FuncData} (F : Df K mg "_law_is_int" s__law_is_int f fd ["thing"]) (T : Txt K mg C_Store C_NoState) : FnOk P w K mg base CX0 1 f fd ["thing"] (sp__law_is_int K) := by
  refine F.ok sc__law_is_int (fun vs H Q E h => ?_) (fun cdv A outer s H vs Q E hr h => ?_)
  · obtain ⟨i, rfl, _⟩ := h
    rfl
  · obtain ⟨i, rfl, k⟩ := h
    refine ⟨_, (pss_one (ps_ret (pe_and (pe_callB (id := "isinstance") (r := rIsi K) call_isi (by rfl) T.b_isinstance (by decide +kernel) (pa_cons (pv 0) (pa_cons (pe_bltn (v := .ty "int") (u := Value.type "int") (by rfl) T.b_int (by decide +kernel) rfl) pa_nil))) (pe_one (pe_not (pe_callB (id := "isinstance") (r := rIsi K) call_isi (by rfl) T.b_isinstance (by decide +kernel) (pa_cons (pv 0) (pa_cons (pe_bltn (v := .ty "bool") (u := Value.type "bool") (by rfl) T.b_bool (by decide +kernel) rfl) pa_nil)))))))), ?_⟩
    try dsimp only [cxOf, Cx.nox, Cx.wish]
    refine st_of (σ' := [some _]) rfl ?_
    wtm_at "jw"
    refine i_isi (.base (.int i)) rfl ?_
    wtm_at "jw"
    refine i_isi (.base (.int i)) rfl ?_
    wtm_at "jw"
    exact k

/-! ### immutable data: None, bools, ints, texts, tuples of them -/
mutual
inductive TD (K : PySem.W.Frag) (H : Hp) : V → PyData → Prop
  | non : TD K H .non .none
  | bl (b : Bool) : TD K H (.bl b) (.bool b)
  | int (i : Int) : TD K H (.int i) (.int i)
  | str (x : Str) : TD K H (.str x) (.str x)
  | tup {a : Addr} {xs : List V} {ds : List PyData} : SqT K H a xs → TDs K H xs ds → TD K H (.ref a) (.tuple ds)
inductive TDs (K : PySem.W.Frag) (H : Hp) : List V → List PyData → Prop
  | nil : TDs K H [] []
  | cons {v : V} {vs : List V} {d : PyData} {ds : List PyData} : TD K H v d → TDs K H vs ds → TDs K H (v :: vs) (d :: ds)
end
def oD : Option Int → PyData
  | none => .none
  | some z => .int z
def ovO : Option Int → V
  | none => .non
  | some z => .int z
def pD (p : Int × Int) : PyData := .tuple [.int p.1, .int p.2]
section
variable {K : PySem.W.Frag} {H H' : Hp}
theorem TD.tps (t : Tps H H') {v : V} {d : PyData} (h : TD K H v d) : TD K H' v d :=
  TD.rec (motive_1 := fun v d _ => TD K H' v d) (motive_2 := fun vs ds _ => TDs K H' vs ds) .non (fun b => .bl b) (fun i => .int i) (fun x => .str x) (fun h _ q => .tup (t.sq h) q) .nil (fun _ _ h1 h2 => .cons h1 h2) h
theorem TDs.tps (t : Tps H H') {vs : List V} {ds : List PyData} (h : TDs K H vs ds) : TDs K H' vs ds :=
  TDs.rec (motive_1 := fun v d _ => TD K H' v d) (motive_2 := fun vs ds _ => TDs K H' vs ds) .non (fun b => .bl b) (fun i => .int i) (fun x => .str x) (fun h _ q => .tup (t.sq h) q) .nil (fun _ _ h1 h2 => .cons h1 h2) h
theorem TD.dp {v : V} {d : PyData} (h : TD K H v d) : Dp K H v d :=
  TD.rec (motive_1 := fun v d _ => Dp K H v d) (motive_2 := fun vs ds _ => DpAll K H vs ds) .non (fun b => .bl b) (fun i => .int i) (fun x => .str x) (fun h _ q => .tup h q) .nil (fun _ _ h1 h2 => .cons h1 h2) h
theorem TDs.dp {vs : List V} {ds : List PyData} (h : TDs K H vs ds) : DpAll K H vs ds :=
  TDs.rec (motive_1 := fun v d _ => Dp K H v d) (motive_2 := fun vs ds _ => DpAll K H vs ds) .non (fun b => .bl b) (fun i => .int i) (fun x => .str x) (fun h _ q => .tup h q) .nil (fun _ _ h1 h2 => .cons h1 h2) h
theorem TD.same (s : Same H H') {v : V} {d : PyData} (h : TD K H v d) : TD K H' v d := h.tps (Tps.of s)
theorem TDs.same (s : Same H H') {vs : List V} {ds : List PyData} (h : TDs K H vs ds) : TDs K H' vs ds := h.tps (Tps.of s)
theorem TDs.len : ∀ {vs : List V} {ds : List PyData}, TDs K H vs ds → vs.length = ds.length
  | [], _, .nil => rfl
  | v :: vs, _, .cons h t => by rw [List.length_cons, List.length_cons, TDs.len t]
theorem TDs.get : ∀ {vs : List V} {ds : List PyData} {i : Nat} {d : PyData}, TDs K H vs ds → ds[i]? = some d → ∃ v, vs[i]? = some v ∧ TD K H v d
  | _, _, _, _, .nil, e => by simp at e
  | _, _, 0, _, .cons (v := v) h t, e => by
    cases e
    exact ⟨v, rfl, h⟩
  | _, _, i + 1, _, .cons h t, e => by
    obtain ⟨v, e2, q⟩ := TDs.get (i := i) t (by simpa using e)
    exact ⟨v, by simpa using e2, q⟩
theorem TDs.at {vs : List V} {ds : List PyData} {i : Nat} {v : V} (h : TDs K H vs ds) (e : vs[i]? = some v) : ∃ d, ds[i]? = some d ∧ TD K H v d ∧ ds.take (i + 1) = ds.take i ++ [d] ∧ i < ds.length := by
  have hi := (List.getElem?_eq_some_iff.mp e).1
  have hl := h.len
  have e2 : ds[i]? = some (ds[i]'(by omega)) := List.getElem?_eq_getElem (by omega)
  obtain ⟨v', e3, q⟩ := h.get e2
  rw [e] at e3
  cases e3
  exact ⟨_, e2, q, by rw [List.take_add_one, e2]; rfl, by omega⟩
theorem TDs.mem {vs : List V} {ds : List PyData} {v : V} (h : TDs K H vs ds) (hv : v ∈ vs) : ∃ d, d ∈ ds ∧ TD K H v d := by
  obtain ⟨i, hi⟩ := List.getElem?_of_mem hv
  obtain ⟨d, e, q, _⟩ := h.at hi
  exact ⟨d, List.mem_of_getElem? e, q⟩
theorem TDs.of : ∀ {vs : List V} {ds : List PyData}, vs.length = ds.length → (∀ (i : Nat) v d, vs[i]? = some v → ds[i]? = some d → TD K H v d) → TDs K H vs ds
  | [], [], _, _ => .nil
  | v :: vs, d :: ds, hl, h => .cons (h 0 v d rfl rfl) (TDs.of (by simpa using hl) fun i y e h1 h2 => h (i + 1) y e (by simpa using h1) (by simpa using h2))
theorem TDs.app : ∀ {vs us : List V} {ds es : List PyData}, TDs K H vs ds → TDs K H us es → TDs K H (vs ++ us) (ds ++ es)
  | _, _, _, _, .nil, h => h
  | _, _, _, _, .cons h t, q => .cons h (TDs.app t q)
theorem TDs.snoc {vs : List V} {ds : List PyData} {v : V} {d : PyData} (h : TDs K H vs ds) (q : TD K H v d) : TDs K H (vs ++ [v]) (ds ++ [d]) := h.app (.cons q .nil)
theorem TDs.map {α : Type} {f : α → V} {g : α → PyData} : ∀ {l : List α}, (∀ x ∈ l, TD K H (f x) (g x)) → TDs K H (l.map f) (l.map g)
  | [], _ => .nil
  | x :: r, h => .cons (h x List.mem_cons_self) (TDs.map fun y hy => h y (List.mem_cons_of_mem _ hy))
theorem TDs.ints (ns : List Int) : TDs K H (ns.map V.int) (ns.map PyData.int) := TDs.map fun x _ => .int x
theorem TD.ovO (o : Option Int) : TD K H (ovO o) (oD o) := by cases o <;> constructor
theorem TDs.ovs (os : List (Option Int)) : TDs K H (os.map Law.ovO) (os.map oD) := TDs.map fun x _ => TD.ovO x
theorem TD.tup_inv {v : V} {ds : List PyData} (h : TD K H v (.tuple ds)) : ∃ a xs, v = .ref a ∧ SqT K H a xs ∧ TDs K H xs ds := by
  cases h with
  | tup a b => exact ⟨_, _, rfl, a, b⟩
theorem TD.int_inv {v : V} {i : Int} (h : TD K H v (.int i)) : v = .int i := by cases h; rfl
theorem TD.non_inv {v : V} (h : TD K H v .none) : v = .non := by cases h; rfl
theorem TD.str_inv {v : V} {i : Str} (h : TD K H v (.str i)) : v = .str i := by cases h; rfl
theorem TD.bl_inv {v : V} {i : Bool} (h : TD K H v (.bool i)) : v = .bl i := by cases h; rfl
theorem TD.ov_inv {v : V} {o : Option Int} (h : TD K H v (oD o)) : v = Law.ovO o := by
  cases o with
  | none => exact h.non_inv
  | some z => exact h.int_inv
theorem TDs.ints_inv : ∀ {ns : List Int} {vs : List V}, TDs K H vs (ns.map PyData.int) → vs = ns.map V.int
  | [], _, h => by cases h; rfl
  | n :: ns, _, h => by
    cases h with
    | cons a b => rw [a.int_inv, TDs.ints_inv b]; rfl
theorem TDs.ovs_inv : ∀ {os : List (Option Int)} {vs : List V}, TDs K H vs (os.map oD) → vs = os.map Law.ovO
  | [], _, h => by cases h; rfl
  | n :: ns, _, h => by
    cases h with
    | cons a b => rw [a.ov_inv, TDs.ovs_inv b]; rfl
theorem TD.pair_inv {v : V} {p : Int × Int} (h : TD K H v (pD p)) : ∃ a, v = .ref a ∧ SqT K H a [.int p.1, .int p.2] := by
  obtain ⟨a, xs, e, s, q⟩ := h.tup_inv
  rw [TDs.ints_inv (ns := [p.1, p.2]) q] at s
  exact ⟨a, e, s⟩
theorem TD.of {a : Addr} {xs : List V} {ds : List PyData} (h : H a = some (.tup xs)) (q : TDs K H xs ds) : TD K H (.ref a) (.tuple ds) := .tup (SqT.of h) q
/-- a new tuple of data -/
theorem TD.new {a : Addr} {xs : List V} {ds : List PyData} (h : H a = none) (q : TDs K H xs ds) : TD K (upd H a (.tup xs)) (.ref a) (.tuple ds) := .of upd_same (q.same (same_new h))
/-- a list of data -/
def LD (K : PySem.W.Frag) (H : Hp) (a : Addr) (ds : List PyData) : Prop := ∃ vs, H a = some (.lst vs) ∧ TDs K H vs ds
theorem LD.same (s : Same H H') {a : Addr} {ds : List PyData} (h : LD K H a ds) : LD K H' a ds := by
  obtain ⟨vs, e, q⟩ := h
  exact ⟨vs, s _ _ e, q.same s⟩
theorem LD.kp {p a : Addr} {xs : List V} {ds : List PyData} (h : LD K H a ds) (k : Kp p H H') (hp : H p = some (.lst xs)) (n : a ≠ p) : LD K H' a ds := by
  obtain ⟨vs, e, q⟩ := h
  exact ⟨vs, k _ _ e n, q.tps (k.tps hp)⟩
theorem LD.put {a : Addr} {xs vs : List V} {ds : List PyData} (h : H a = some (.lst xs)) (q : TDs K H vs ds) : LD K (upd H a (.lst vs)) a ds := ⟨vs, upd_same, q.tps (tps_put h)⟩
theorem LD.new {a : Addr} {vs : List V} {ds : List PyData} (h : H a = none) (q : TDs K H vs ds) : LD K (upd H a (.lst vs)) a ds := ⟨vs, upd_same, q.same (same_new h)⟩
theorem LD.snoc {a : Addr} {vs : List V} {v : V} {d : PyData} {ds : List PyData} (h : H a = some (.lst vs)) (q : TDs K H vs ds) (x : TD K H v d) : LD K (upd H a (.lst (vs ++ [v]))) a (ds ++ [d]) := .put h (q.snoc x)
variable {σ : L2.St} {Q : VK}
theorem i_tyLD {p : Addr} {ds : List PyData} {R : Prop} (s : LD K H p ds) (q : R) : tyV K "list" (.ref p) H ∧ R := by
  obtain ⟨vs, e, _⟩ := s
  exact i_tyL (SqL.of e) q
theorem i_lenLD {p : Addr} {ds : List PyData} (s : LD K H p ds) (q : Q (.int ds.length) H) : qLen K [.ref p] H Q := by
  obtain ⟨vs, e, t⟩ := s
  rw [← t.len] at q
  exact i_lenL (SqL.of e) q
theorem i_ixD {p : V} {ds : List PyData} {i : Int} {d : PyData} (h : TD K H p (.tuple ds)) (h0 : 0 ≤ i) (e : ds[i.toNat]? = some d) (q : ∀ y, TD K H y d → Q y H) : rIxT K p (.int i) H Q := by
  obtain ⟨a, xs, rfl, s, t⟩ := h.tup_inv
  obtain ⟨y, ey, hy⟩ := t.get e
  refine ⟨a, xs, i, y, rfl, rfl, s, ?_, q y hy⟩
  have := atI_nat (xs := xs) (j := i.toNat) (v := y) ey
  rw [Int.toNat_of_nonneg h0] at this
  exact this
theorem i_ixDI {p : V} {ds : List PyData} {i j : Int} (h : TD K H p (.tuple ds)) (h0 : 0 ≤ i) (e : ds[i.toNat]? = some (.int j)) (q : Q (.int j) H) : rIxT K p (.int i) H Q :=
  i_ixD h h0 e fun y hy => by rw [hy.int_inv]; exact q
theorem i_ixDO {p : V} {ds : List PyData} {i : Int} {o : Option Int} (h : TD K H p (.tuple ds)) (h0 : 0 ≤ i) (e : ds[i.toNat]? = some (oD o)) (q : Q (ovO o) H) : rIxT K p (.int i) H Q :=
  i_ixD h h0 e fun y hy => by rw [hy.ov_inv]; exact q
theorem i_ixDS {p : V} {ds : List PyData} {i : Int} {j : Str} (h : TD K H p (.tuple ds)) (h0 : 0 ≤ i) (e : ds[i.toNat]? = some (.str j)) (q : Q (.str j) H) : rIxT K p (.int i) H Q :=
  i_ixD h h0 e fun y hy => by rw [hy.str_inv]; exact q
theorem i_lenDt {p : V} {ds : List PyData} (h : TD K H p (.tuple ds)) (q : Q (.int ds.length) H) : qLen K [p] H Q := by
  obtain ⟨a, xs, rfl, s, t⟩ := h.tup_inv
  rw [← t.len] at q
  exact i_lenT s q
theorem i_gTupD {n : Nat} {t : TGs} {v : V} {ds : List PyData} {R : L2.St → Hp → Prop} (h : TD K H v (.tuple ds)) (e : ds.length = n) (q : ∀ xs, TDs K H xs ds → t xs σ H R) : gTup K n t v σ H R := by
  obtain ⟨a, xs, rfl, s, u⟩ := h.tup_inv
  exact i_gTup s (by rw [u.len, e]) (q xs u)
theorem i_gPair {n : Nat} {t : TGs} {v : V} {p : Int × Int} {R : L2.St → Hp → Prop} (h : TD K H v (pD p)) (e : 2 = n) (q : t [.int p.1, .int p.2] σ H R) : gTup K n t v σ H R := by
  obtain ⟨a, rfl, s⟩ := h.pair_inv
  exact i_gTup s e q
theorem i_isTD {v : V} {ds : List PyData} {R : Addr → Prop} (h : TD K H v (.tuple ds)) (q : ∀ a xs, v = .ref a → SqT K H a xs → TDs K H xs ds → R a) : ∃ a', v = .ref a' ∧ (∃ xs, SqT K H a' xs) ∧ R a' := by
  obtain ⟨a, xs, e, s, t⟩ := h.tup_inv
  exact ⟨a, e, ⟨xs, s⟩, q a xs e s t⟩
theorem i_lstTD {v : V} {ds : List PyData} (h : TD K H v (.tuple ds)) (q : ∀ xs l, TDs K H xs ds → H l = none → Q (.ref l) (upd H l (.lst xs))) : rLstOf K [v] H Q := by
  obtain ⟨a, xs, rfl, s, t⟩ := h.tup_inv
  exact i_lstT s fun l hl => q xs l t hl
theorem i_tupTD {v : V} {ds : List PyData} (h : TD K H v (.tuple ds)) (q : Q v H) : rTupOf K [v] H Q := by
  obtain ⟨a, xs, rfl, s, t⟩ := h.tup_inv
  exact i_tupT s q
theorem TDs.pair_at {vs : List V} {ps : List (Int × Int)} {i : Nat} {v : V} (h : TDs K H vs (ps.map pD)) (e : vs[i]? = some v) : ∃ p, ps[i]? = some p ∧ TD K H v (pD p) ∧ ps.take (i + 1) = ps.take i ++ [p] ∧ i < ps.length := by
  obtain ⟨d, e1, t, _, hl⟩ := h.at e
  rw [List.getElem?_map] at e1
  cases e2 : ps[i]? with
  | none => rw [e2] at e1; cases e1
  | some p =>
    rw [e2] at e1
    cases e1
    exact ⟨p, rfl, t, by rw [List.take_add_one, e2]; rfl, (List.getElem?_eq_some_iff.mp e2).1⟩
theorem i_eqNI {j : Int} (q : Q (.bl false) H) : rEq .non (.int j) H Q := ⟨rfl, by
  have e : decide (V.non = V.int j) = false := by simp
  rw [e]; exact q⟩
/-! shapes -/
theorem Shp.str {x : Str} (h : PyData.canLay0 (.str x) = true) : Shp 0 (.str x) := ⟨h, by simp [PyData.depth]⟩
theorem Shp.oD (o : Option Int) : Shp 0 (oD o) := by
  cases o with
  | none => exact Shp.non
  | some z => exact Shp.int z
theorem Shp.ovs (os : List (Option Int)) : Shp 1 (.tuple (os.map Law.oD)) := Shp.tup fun d hd => by
  obtain ⟨x, _, rfl⟩ := List.mem_map.mp hd
  exact Shp.oD x
theorem Shp.pD (p : Int × Int) : Shp 1 (pD p) := Shp.tup fun d hd => by
  rcases List.mem_cons.mp hd with rfl | hd
  · exact Shp.int _
  · rcases List.mem_cons.mp hd with rfl | hd
    · exact Shp.int _
    · cases hd
theorem Shp.prs (ps : List (Int × Int)) : Shp 2 (.tuple (ps.map Law.pD)) := Shp.tup fun d hd => by
  obtain ⟨x, _, rfl⟩ := List.mem_map.mp hd
  exact Shp.pD x
/-! dicts with text keys -/
theorem i_disp {trs : List (TE × TE)} (h : ∀ p, H p = none → tPairs trs σ (upd H p (.dK [])) fun ps H2 => H2 p = some (.dK []) ∧ ∃ kvs : List (L2.Key × V), ps = kvs.map (fun kv => (kV kv.1, kv.2)) ∧ kvs.length ≤ 15 ∧ Q (.ref p) (upd H2 p (.dK (mergeK [] kvs)))) : tDisp trs σ H Q := h
theorem i_pNil {R : List (V × V) → Hp → Prop} (h : R [] H) : tPairs [] σ H R := h
theorem i_pCons {tk tv : TE} {r : List (TE × TE)} {R : List (V × V) → Hp → Prop} (h : tk σ H fun x H1 => tv σ H1 fun y H2 => tPairs r σ H2 fun ps H3 => R ((x, y) :: ps) H3) : tPairs ((tk, tv) :: r) σ H R := h
theorem i_dgetS {p : Addr} {i : Str} {v : V} {kvs : List (L2.Key × V)} {R : V → Prop} (h : Rd H p (.dK kvs)) (e : valV kvs (.inr i) = some v) (q : R v) : ∃ a v', V.ref p = .ref a ∧ DGet H a (.str i) (some v') ∧ R v' :=
  ⟨p, v, rfl, .inl ⟨kvs, .inr i, h, rfl, e.symm⟩, q⟩
end
/- data at the heap of the goal -/
local macro_rules | `(tactic| wtm_at "jtd") => `(tactic| first | assumption | ((with_reducible refine' TD.same (same_new ?hn) ?hh); (case hn => assumption); (case hh => wtm_at "jtd")))
local macro_rules | `(tactic| wtm_at "jw1") => `(tactic| first
  | ((with_reducible refine' i_ixDI ?h ?h0 ?e ?_); (case h => wtm_at "jtd"); (case h0 => wtm_at "jside"); (case e => wtm_at "jat"))
  | ((with_reducible refine' i_ixDO ?h ?h0 ?e ?_); (case h => wtm_at "jtd"); (case h0 => wtm_at "jside"); (case e => wtm_at "jat"))
  | ((with_reducible refine' i_ixDS ?h ?h0 ?e ?_); (case h => wtm_at "jtd"); (case h0 => wtm_at "jside"); (case e => wtm_at "jat"))
  | ((with_reducible refine' i_ix2 (i_ixDI ?h ?h0 ?e ?_)); (case h => wtm_at "jtd"); (case h0 => wtm_at "jside"); (case e => wtm_at "jat"))
  | ((with_reducible refine' i_ix2 (i_ixDO ?h ?h0 ?e ?_)); (case h => wtm_at "jtd"); (case h0 => wtm_at "jside"); (case e => wtm_at "jat"))
  | ((with_reducible refine' i_ixD ?h ?h0 ?e ?_); (case h => wtm_at "jtd"); (case h0 => wtm_at "jside"); (case e => wtm_at "jat"); intro _ _)
  | ((with_reducible refine' i_ix2 (i_ixD ?h ?h0 ?e ?_)); (case h => wtm_at "jtd"); (case h0 => wtm_at "jside"); (case e => wtm_at "jat"); intro _ _)
  | ((with_reducible refine' i_lenDt ?h ?_); (case h => wtm_at "jtd"))
  | with_reducible refine' i_eqNI ?_
  | ((with_reducible refine' i_tyLD ?h ?_); (case h => assumption))
  | ((with_reducible refine' i_lenLD ?h ?_); (case h => assumption))
  | ((with_reducible refine' i_gPair ?h ?e ?_); (case h => wtm_at "jtd"); (case e => rfl))
  | with_reducible refine' i_pNil ?_ | with_reducible refine' i_pCons ?_)

/-! ### draws and picks, said shortly -/
section
variable {K : PySem.W.Frag} {p a B : Addr} {H0 H : Hp} {Q : VK} {E : XK}
theorem drawL {m : Int} (w : Drew p a H0 H) (h0 : 0 < m) (h1 : m < 18446744073709551616) (q : ∀ z H', 0 ≤ z → z < m → Drew p a H H' → Drew p a H0 H' → Q (.int z) H') : sp__law_draw K [.ref p, .int m] H Q E :=
  ⟨p, a, m, rfl, w.at_, h0, h1, fun z H' z0 z1 e => q z H' z0 z1 e (w.trans e)⟩
theorem pickL {xs : List V} (P : Int → Prop) (ns : List Int) (w : Drew p a H0 H) (hB : H B = none) (e : xs = ns.map V.int) (h0 : 0 < ns.length) (h1 : ns.length < 1000) (hP : ∀ z ∈ ns, P z)
    (q : ∀ z H', P z → Drew p a H H' → Drew p a H0 H' → Q (.int z) H') : sp__law_pick K [.ref p, .ref B] (upd H B (.lst xs)) Q E := by
  subst e
  refine ⟨p, a, B, ns.map V.int, rfl, w.at_.same (same_new hB), .inl ⟨w.at_.ne_none hB, SqL.of upd_same⟩, by rw [List.length_map]; exact h0, by rw [List.length_map]; omega, fun x H' hx e => ?_⟩
  obtain ⟨z, hz, rfl⟩ := List.mem_map.mp hx
  have e1 := (w.at_.drew.new (o := .lst (ns.map V.int)) hB).trans e
  exact q z H' (hP z hz) e1 (w.trans e1)
theorem pickV {xs : List V} (w : Drew p a H0 H) (hB : H B = none) (h0 : 0 < xs.length) (h1 : xs.length < 1000) (q : ∀ x H', x ∈ xs → Drew p a H H' → Drew p a H0 H' → Q x H') : sp__law_pick K [.ref p, .ref B] (upd H B (.lst xs)) Q E := by
  refine ⟨p, a, B, xs, rfl, w.at_.same (same_new hB), .inl ⟨w.at_.ne_none hB, SqL.of upd_same⟩, h0, by omega, fun x H' hx e => ?_⟩
  have e1 := (w.at_.drew.new (o := .lst xs) hB).trans e
  exact q x H' hx e1 (w.trans e1)
/-- a pick out of a list that stands -/
theorem pickS {xs : List V} (w : Drew p a H0 H) (hB : H B = some (.lst xs)) (n : B ≠ p) (h0 : 0 < xs.length) (h1 : xs.length < 1000000) (q : ∀ x H', x ∈ xs → Drew p a H H' → Drew p a H0 H' → Q x H') : sp__law_pick K [.ref p, .ref B] H Q E :=
  ⟨p, a, B, xs, rfl, w.at_, .inl ⟨n, SqL.of hB⟩, h0, by omega, fun x H' hx e => q x H' hx e (w.trans e)⟩
theorem pickT {xs : List V} (w : Drew p a H0 H) (hB : SqT K H B xs) (h0 : 0 < xs.length) (h1 : xs.length < 1000000) (q : ∀ x H', x ∈ xs → Drew p a H H' → Drew p a H0 H' → Q x H') : sp__law_pick K [.ref p, .ref B] H Q E :=
  ⟨p, a, B, xs, rfl, w.at_, .inr hB, h0, by omega, fun x H' hx e => q x H' hx e (w.trans e)⟩
end
theorem LD.drew {K : PySem.W.Frag} {p a f : Addr} {H H' : Hp} {ds : List PyData} (h : LD K H f ds) (d : DrawAt H p a) (e : Drew p a H H') (n : f ≠ p) : LD K H' f ds := by
  obtain ⟨xs, hp⟩ := d.some
  exact h.kp e.kp hp n
theorem LPr.drew {p a f : Addr} {H H' : Hp} {fo : List (Int × Int)} (h : LPr H f fo) (d : DrawAt H p a) (e : Drew p a H H') (n : f ≠ p) : LPr H' f fo := by
  obtain ⟨xs, hp⟩ := d.some
  exact h.kp e.kp hp n
/-- a pure choice of two -/
theorem i_ifP {σ : L2.St} {H : Hp} {Q : VK} {c : TT} {ta tb : TE} (P : V → Prop) (hc : ∀ R : Bool → Hp → Prop, (∀ b, R b H) → c σ H R) (ha : ∀ R : VK, (∀ v, P v → R v H) → ta σ H R) (hb : ∀ R : VK, (∀ v, P v → R v H) → tb σ H R) (q : ∀ v, P v → Q v H) : tIf c ta tb σ H Q :=
  hc _ fun b => by
    cases b
    · exact hb _ q
    · exact ha _ q
theorem all_two {P : Int → Prop} {x y : Int} (h1 : P x) (h2 : P y) : ∀ z ∈ [x, y], P z := by simp; exact ⟨h1, h2⟩

theorem i_andTJ {t u : TT} {σ : L2.St} {H : Hp} {Q : Bool → Hp → Prop} (J : Bool → Hp → Prop) (h1 : ∀ b H', J b H' → Q b H') (h2 : ∀ R : Bool → Hp → Prop, (∀ b H', J b H' → R b H') → tAnd t u σ H R) : tAnd t u σ H Q := h2 _ h1
/-- what is wanted of each place -/
def AllI {α : Type} (P : Nat → α → Prop) (l : List α) : Prop := ∀ i x, l[i]? = some x → P i x
/-- an if-expression that draws, told once behind it -/
theorem i_ifJ {σ : L2.St} {H : Hp} {Q : VK} {c : TT} {ta tb : TE} (J : V → Hp → Prop) (h1 : ∀ v H', J v H' → Q v H') (h2 : ∀ R : VK, (∀ v H', J v H' → R v H') → tIf c ta tb σ H R) : tIf c ta tb σ H Q := h2 _ h1
local macro_rules | `(tactic| wtm_at "jif") => `(tactic| repeat ((fail_if_success (with_reducible refine' i_if ?_)); wtm_at "jw1"))
theorem AllI.nil {α : Type} {P : Nat → α → Prop} : AllI P ([] : List α) := fun i x h => by simp at h
theorem AllI.snoc {α : Type} {P : Nat → α → Prop} {l : List α} {x : α} (h : AllI P l) (hx : P l.length x) : AllI P (l ++ [x]) := fun i y hy => by
  by_cases hi : i < l.length
  · rw [List.getElem?_append_left hi] at hy
    exact h i y hy
  · rw [List.getElem?_append_right (by omega)] at hy
    cases e : i - l.length with
    | zero =>
      rw [e] at hy
      cases hy
      obtain rfl : i = l.length := by omega
      exact hx
    | succ n =>
      rw [e] at hy
      cases hy

theorem sqT_ty {K : PySem.W.Frag} {H : Hp} {a : Addr} {xs : List V} (h : SqT K H a xs) : TyX K H (.ref a) (.type "tuple") := by
  rcases h with (h | ⟨o, h⟩) | ⟨o, vs, c, e, h1, _⟩
  · exact .base (.tup h)
  · exact .fTuple h
  · exact .kTuple e h1
theorem TD.ty {K : PySem.W.Frag} {H : Hp} {v : V} {ds : List PyData} (h : TD K H v (.tuple ds)) : TyX K H v (.type "tuple") := by
  obtain ⟨a, xs, rfl, s, _⟩ := h.tup_inv
  exact sqT_ty s
theorem i_isiT {K : PySem.W.Frag} {H : Hp} {Q : VK} {v : V} {ds : List PyData} {n : String} {b : Bool} (h : TD K H v (.tuple ds)) (e : PySem.W.kitOne K (.type "tuple") (.type n) = some b) (q : Q (.bl b) H) : rIsi K [v, .ty n] H Q := i_isi h.ty e q
theorem all_id_true (n : Nat) : (List.replicate n true).all id = true := by
  rw [List.all_replicate]; simp
def sp__law_is_ints (K : PySem.W.Frag) : Sp := fun vs H Q _ => ∃ (x : V) (ns : List Int), vs = [x] ∧ TD K H x (.tuple (ns.map PyData.int)) ∧ ns.length ≤ 1000000 ∧ ∀ H', Same H H' → Q (.bl true) H'
theorem ok__law_is_ints {P : Program} {w : World} {K : PySem.W.Frag} {mg : Str → Option Value} {base : Heap} {C_Store : Addr} {C_NoState : Addr} {f : Addr} {fd : FuncData} (F : Df K mg "_law_is_ints" s__law_is_ints f fd ["row"]) (T : Txt K mg C_Store C_NoState)
    (c__law_is_int : Cl P w K mg base 1 "_law_is_int" (sp__law_is_int K)) : FnOk P w K mg base CX0 2 f fd ["row"] (sp__law_is_ints K) := by
  refine F.ok sc__law_is_ints (fun vs H Q E h => ?_) (fun cdv A outer s H vs Q E hr h => ?_)
  · obtain ⟨x, ns, rfl, _⟩ := h
    rfl
  · obtain ⟨x, ns, rfl, hx, hl, k⟩ := h
    refine ⟨_, (pss_one (ps_ret (pe_and (pe_callB (id := "isinstance") (r := rIsi K) call_isi (by rfl) T.b_isinstance (by decide +kernel) (pa_cons (pv 0) (pa_cons (pe_bltn (v := .ty "tuple") (u := Value.type "tuple") (by rfl) T.b_tuple (by decide +kernel) rfl) pa_nil))) (pe_one (pe_callB (id := "all") (r := rAll K) (cr_all rfl) (by rfl) T.b_all (by decide +kernel) (pa_cons (pe_lc (own := [("part", 1)]) (g := gName 1) (tt := tYes) rfl sc__law_is_ints.nd (pi_tup (pv 0)) (blkOk_by (own := [("part", 1)]) (N := N__law_is_ints) (sc := defScope s__law_is_ints) (by decide +kernel)) (fun _ _ _ _ _ => (pg_name (i := 1) sc__law_is_ints.nd rfl (Or.inl rfl))) (fun _ _ _ _ _ => pts_nil) (fun _ _ _ _ _ => (pe_cl c__law_is_int hr (by decide) rfl (pa_cons (pv 1) pa_nil)))) pa_nil)))))), ?_⟩
    try dsimp only [cxOf, Cx.nox, Cx.wish]
    refine st_of (σ' := [some _, none]) rfl ?_
    wtm_at "jw"
    refine i_isiT hx rfl ?_
    obtain ⟨a, xs, rfl, hS, hT⟩ := hx.tup_inv
    rw [hT.ints_inv] at hS
    wtm_at "jw"
    intro D hD
    refine l_tupP (xs := ns.map V.int) (fun _ => V.bl true) hD (by rw [List.length_map]; exact hl) hS (fun i x H' R hi s hR => ?_) (fun H' s hD' => ?_)
    · obtain ⟨z, rfl, _⟩ := ints_at hi
      wtm_at "jw"
      refine ⟨rfl, ?_⟩
      wtm_at "jw"
      refine ⟨z, rfl, ?_⟩
      exact hR
    · wtm_at "jw"
      refine ⟨D, List.replicate (ns.map V.int).length true, rfl, SqL.of ?_, ?_⟩
      · rw [hD', List.map_replicate, List.map_const', List.length_range]
      · rw [all_id_true]
        exact k _ s

def Strs (ks : List V) : Prop := ∀ x ∈ ks, ∃ s : Str, x = V.str s
def sp__law_layout (K : PySem.W.Frag) : Sp := fun vs H Q _ => ∃ (p a : Addr), vs = [.ref p] ∧ DrawAt H p a ∧
  ∀ (q : Addr) (ks : List V) (H' : Hp), Drew p a H H' → H q = none → H' q = some (.lst ks) → Strs ks → 0 < ks.length → ks.length ≤ 60 → Q (.ref q) H'
theorem ok__law_layout {P : Program} {w : World} {K : PySem.W.Frag} {mg : Str → Option Value} {base : Heap} {C_Store : Addr} {C_NoState : Addr} {f : Addr} {fd : FuncData} (F : Df K mg "_law_layout" s__law_layout f fd ["d"]) (T : Txt K mg C_Store C_NoState)
    (c__law_pick : Cl P w K mg base 2 "_law_pick" (sp__law_pick K)) : FnOk P w K mg base CX0 3 f fd ["d"] (sp__law_layout K) := by
  refine F.ok sc__law_layout (fun vs H Q E h => ?_) (fun cdv A outer s H vs Q E hr h => ?_)
  · obtain ⟨p, a, rfl, _⟩ := h
    rfl
  · obtain ⟨p, a, rfl, hd, q⟩ := h
    refine ⟨_, (pss_cons (ps_set (i := 1) sc__law_layout.nd rfl (Or.inl rfl) (pe_lst (pa_cons pe_str (pa_cons pe_str pa_nil))))
      (pss_cons (ps_for PassesOwn.never rfl (pi_range1 rfl T.b_range (pa_cons (pe_cl c__law_pick hr (by decide) rfl (pa_cons (pv 0) (pa_cons (pe_lst (pa_cons pe_int (pa_cons pe_int (pa_cons pe_int (pa_cons pe_int (pa_cons pe_int (pa_cons pe_int pa_nil))))))) pa_nil))) pa_nil)) (pg_name (i := 2) sc__law_layout.nd rfl (Or.inl rfl)) (pss_one (ps_expr (pe_bmK (K := K) rfl PySem.F.plainAttrs_list PySem.F.slot_list_append PySem.F.type_list_append mt_append (pv 1) (pa_cons (pe_cl c__law_pick hr (by decide) rfl (pa_cons (pv 0) (pa_cons (pe_lst (pa_cons pe_str (pa_cons pe_str (pa_cons pe_str pa_nil)))) pa_nil))) pa_nil)))))
      (pss_cons (ps_for PassesOwn.never rfl (pi_range1 rfl T.b_range (pa_cons (pe_cl c__law_pick hr (by decide) rfl (pa_cons (pv 0) (pa_cons (pe_lst (pa_cons pe_int (pa_cons pe_int (pa_cons pe_int (pa_cons pe_int (pa_cons pe_int (pa_cons pe_int pa_nil))))))) pa_nil))) pa_nil)) (pg_name (i := 2) sc__law_layout.nd rfl (Or.inl rfl)) (pss_one (ps_set (i := 1) sc__law_layout.nd rfl (Or.inl rfl) (pe_op op_cat (pv 1) (pe_lst (pa_cons pe_str (pa_cons pe_str (pa_cons pe_str (pa_cons pe_str (pa_cons pe_str pa_nil))))))))))
      (pss_one (ps_ret (pv 1)))))), ?_⟩
    try dsimp only [cxOf, Cx.nox, Cx.wish]
    refine st_of (σ' := [some _, none, none]) rfl ?_
    wtm_at "jw"
    intro L hL
    have d0 := hd.drew.new (o := .lst [V.str "draw", V.str "end"]) hL
    wtm_at "jw"
    intro B hB
    have d1 := d0.new (o := .lst [V.int 1, V.int 2, V.int 3, V.int 0, V.int 5, V.int 12]) hB
    have hL1 := (same_new (o := .lst [V.int 1, V.int 2, V.int 3, V.int 0, V.int 5, V.int 12]) hB) _ _ (upd_same (H := H) (a := L) (o := .lst [V.str "draw", V.str "end"]))
    have nL := hd.ne_none hL
    wtm_at "jw"
    refine ⟨p, a, B, _, rfl, d1.at_, .inl ⟨d0.at_.ne_none hB, SqL.of upd_same⟩, by simp, by simp, fun x H2 hx d2 => ?_⟩
    obtain ⟨z, rfl, z0, z1⟩ : ∃ z : Int, x = V.int z ∧ 0 ≤ z ∧ z ≤ 12 := by
      simp only [List.mem_cons, List.not_mem_nil, or_false] at hx
      rcases hx with h | h | h | h | h | h <;> exact ⟨_, h, by omega, by omega⟩
    have hL2 := d2.kp _ _ hL1 nL
    wtm_at "jw"
    refine f_range (fun i σ H' => Drew p a H H' ∧ ∃ v ks, σ = [some (.ref p), some (.ref L), v] ∧ H' L = some (.lst ks) ∧ Strs ks ∧ ks.length = 2 + i) ⟨d1.trans d2, none, _, rfl, hL2, by intro x hx; simp only [List.mem_cons, List.not_mem_nil, or_false] at hx; rcases hx with h | h <;> exact ⟨_, h⟩, rfl⟩ (fun i σ H' hi h => ?_) (fun σ H' h => ?_)
    · obtain ⟨d3, v, ks, rfl, hL3, hk, hlen⟩ := h
      wtm_at "jw"
      intro B2 hB2
      have d4 := d3.new (o := .lst [V.str "count", V.str "fixed", V.str "flag"]) hB2
      have hL4 := (same_new (o := .lst [V.str "count", V.str "fixed", V.str "flag"]) hB2) _ _ hL3
      wtm_at "jw"
      refine ⟨p, a, B2, _, rfl, d4.at_, .inl ⟨d3.at_.ne_none hB2, SqL.of upd_same⟩, by simp, by simp, fun x H3 hx d5 => ?_⟩
      have hL5 := d5.kp _ _ hL4 nL
      have hsm : ks.length < sizeLine := small1000 (by omega)
      wtm_at "jw"
      refine ⟨(d4.trans d5).put hd hL, _, _, rfl, upd_same, ?_, by simp [hlen]; omega⟩
      intro y hy
      rcases List.mem_append.mp hy with hy | hy
      · exact hk y hy
      · simp only [List.mem_cons, List.not_mem_nil, or_false] at hx hy
        subst hy
        rcases hx with h | h | h <;> exact ⟨_, h⟩
    · obtain ⟨d3, v, ks, rfl, hL3, hk, hlen⟩ := h
      wtm_at "jw"
      intro B2 hB2
      have d4 := d3.new (o := .lst [V.int 0, V.int 0, V.int 1, V.int 0, V.int 2, V.int 6]) hB2
      have hL4 := (same_new (o := .lst [V.int 0, V.int 0, V.int 1, V.int 0, V.int 2, V.int 6]) hB2) _ _ hL3
      wtm_at "jw"
      refine ⟨p, a, B2, _, rfl, d4.at_, .inl ⟨d3.at_.ne_none hB2, SqL.of upd_same⟩, by simp, by simp, fun x H3 hx d5 => ?_⟩
      obtain ⟨y, rfl, y0, y1⟩ : ∃ z : Int, x = V.int z ∧ 0 ≤ z ∧ z ≤ 6 := by
        simp only [List.mem_cons, List.not_mem_nil, or_false] at hx
        rcases hx with h | h | h | h | h | h <;> exact ⟨_, h, by omega, by omega⟩
      have hL5 := d5.kp _ _ hL4 nL
      wtm_at "jw"
      refine f_range (fun i σ H' => Drew p a H H' ∧ ∃ v M ks, σ = [some (.ref p), some (.ref M), v] ∧ H M = none ∧ H' M = some (.lst ks) ∧ Strs ks ∧ 0 < ks.length ∧ ks.length ≤ 20 + 5 * i) ⟨d4.trans d5, _, L, ks, rfl, hL, hL5, hk, by omega, by omega⟩ (fun i σ H' hi h => ?_) (fun σ H' h => ?_)
      · obtain ⟨d6, v, M, js, rfl, hM, hM6, hj, j0, j1⟩ := h
        wtm_at "jw"
        intro C hC
        have hM7 := (same_new (o := .lst [V.str "fixed", V.str "fixed", V.str "fixed", V.str "fixed", V.str "flag"]) hC) _ _ hM6
        have hsz : js.length + [V.str "fixed", V.str "fixed", V.str "fixed", V.str "fixed", V.str "flag"].length ≤ sizeLine := by
          rw [sizeLine_eq]
          simp
          omega
        have d7 := d6.new (o := .lst [V.str "fixed", V.str "fixed", V.str "fixed", V.str "fixed", V.str "flag"]) hC
        wtm_at "jw"
        intro R hR
        wtm_at "jw"
        refine ⟨d7.new hR, _, R, _, rfl, d7.free hR, upd_same, ?_, by simp, by simp; omega⟩
        intro y hy
        rcases List.mem_append.mp hy with hy | hy
        · exact hj y hy
        · simp only [List.mem_cons, List.not_mem_nil, or_false] at hy
          rcases hy with h | h | h | h | h <;> exact ⟨_, h⟩
      · obtain ⟨d6, v, M, js, rfl, hM, hM6, hj, j0, j1⟩ := h
        wtm_at "jw"
        exact q M js _ d6 hM hM6 hj j0 (by omega)
def sp__law_entry (K : PySem.W.Frag) : Sp := fun vs H Q _ => ∃ (p a : Addr) (s : Str), vs = [.ref p, .str s] ∧ DrawAt H p a ∧ ∀ (z : Int) (H' : Hp), Drew p a H H' → Q (.int z) H'
theorem ok__law_entry {P : Program} {w : World} {K : PySem.W.Frag} {mg : Str → Option Value} {base : Heap} {C_Store : Addr} {C_NoState : Addr} {f : Addr} {fd : FuncData} (F : Df K mg "_law_entry" s__law_entry f fd ["d", "kind"]) (T : Txt K mg C_Store C_NoState)
    (c__law_pick : Cl P w K mg base 2 "_law_pick" (sp__law_pick K))
    (c__law_draw : Cl P w K mg base 1 "_law_draw" (sp__law_draw K)) : FnOk P w K mg base CX0 3 f fd ["d", "kind"] (sp__law_entry K) := by
  refine F.ok sc__law_entry (fun vs H Q E h => ?_) (fun cdv A outer s H vs Q E hr h => ?_)
  · obtain ⟨p, a, s, rfl, _⟩ := h
    rfl
  · obtain ⟨p, a, s, rfl, hd, k⟩ := h
    have fin : ∀ (n : Nat) (xs : List V) (x : V) (H1 H2 : Hp), (∀ y ∈ xs, ∃ z : Int, y = V.int z) → x ∈ xs → Drew p a H H1 → Drew p a H1 H2 → Q x H2 := fun n xs x H1 H2 hi hx d1 d2 => by
      obtain ⟨z, rfl⟩ := hi x hx
      exact k z _ (d1.trans d2)
    refine ⟨_, (pss_cons (ps_if (pt_cmpR op_eq (pv 1) pe_str (nomark _)) (pss_one (ps_ret (pe_cl c__law_pick hr (by decide) rfl (pa_cons (pv 0) (pa_cons (pe_lst (pa_cons pe_int (pa_cons pe_int (pa_cons (pe_cl c__law_draw hr (by decide) rfl (pa_cons (pv 0) (pa_cons pe_int pa_nil))) pa_nil)))) pa_nil))))) pss_nil)
      (pss_cons (ps_if (pt_cmpR op_eq (pv 1) pe_str (nomark _)) (pss_one (ps_ret (pe_cl c__law_draw hr (by decide) rfl (pa_cons (pv 0) (pa_cons pe_int pa_nil))))) pss_nil)
      (pss_cons (ps_if (pt_cmpR op_eq (pv 1) pe_str (nomark _)) (pss_one (ps_ret (pe_cl c__law_draw hr (by decide) rfl (pa_cons (pv 0) (pa_cons pe_int pa_nil))))) pss_nil)
      (pss_cons (ps_if (pt_cmpR op_eq (pv 1) pe_str (nomark _)) (pss_one (ps_ret (pe_cl c__law_pick hr (by decide) rfl (pa_cons (pv 0) (pa_cons (pe_lst (pa_cons pe_int (pa_cons pe_int (pa_cons pe_int (pa_cons (pe_cl c__law_draw hr (by decide) rfl (pa_cons (pv 0) (pa_cons pe_int pa_nil))) pa_nil))))) pa_nil))))) pss_nil)
      (pss_one (ps_ret (pe_cl c__law_pick hr (by decide) rfl (pa_cons (pv 0) (pa_cons (pe_lst (pa_cons pe_int (pa_cons pe_int (pa_cons (pe_un un_neg pe_int) (pa_cons pe_int (pa_cons (pe_op op_sub (pe_cl c__law_draw hr (by decide) rfl (pa_cons (pv 0) (pa_cons pe_int pa_nil))) pe_int) pa_nil)))))) pa_nil))))))))), ?_⟩
    try dsimp only [cxOf, Cx.nox, Cx.wish]
    refine st_of (σ' := [some _, some _]) rfl ?_
    wtm_at "jw"
    refine c_dec (fun h => ?_) (fun h => ?_)
    · wtm_at "jw"
      refine ⟨p, a, _, rfl, hd, by decide, by decide, fun z H1 z0 z1 d1 => ?_⟩
      wtm_at "jw"
      intro B hB
      have d2 := d1.new (o := .lst [V.int 0, V.int 32748, V.int z]) hB
      wtm_at "jw"
      refine ⟨p, a, B, _, rfl, d2.at_, .inl ⟨d1.at_.ne_none hB, SqL.of upd_same⟩, by simp, by simp, fun x H3 hx d3 => ?_⟩
      refine fin 0 _ x _ _ (fun y hy => ?_) hx d2 d3
      simp only [List.mem_cons, List.not_mem_nil, or_false] at hy
      rcases hy with h | h | h <;> exact ⟨_, h⟩
    · wtm_at "jw"
      refine c_dec (fun h => ?_) (fun h => ?_)
      · wtm_at "jw"
        refine ⟨p, a, _, rfl, hd, by decide, by decide, fun z H1 z0 z1 d1 => ?_⟩
        exact k z _ d1
      · wtm_at "jw"
        refine c_dec (fun h => ?_) (fun h => ?_)
        · wtm_at "jw"
          refine ⟨p, a, _, rfl, hd, by decide, by decide, fun z H1 z0 z1 d1 => ?_⟩
          exact k z _ d1
        · wtm_at "jw"
          refine c_dec (fun h => ?_) (fun h => ?_)
          · wtm_at "jw"
            refine ⟨p, a, _, rfl, hd, by decide, by decide, fun z H1 z0 z1 d1 => ?_⟩
            wtm_at "jw"
            intro B hB
            have d2 := d1.new (o := .lst [V.int 0, V.int 255, V.int 1, V.int z]) hB
            wtm_at "jw"
            refine ⟨p, a, B, _, rfl, d2.at_, .inl ⟨d1.at_.ne_none hB, SqL.of upd_same⟩, by simp, by simp, fun x H3 hx d3 => ?_⟩
            refine fin 0 _ x _ _ (fun y hy => ?_) hx d2 d3
            simp only [List.mem_cons, List.not_mem_nil, or_false] at hy
            rcases hy with h | h | h | h <;> exact ⟨_, h⟩
          · wtm_at "jw"
            refine ⟨p, a, _, rfl, hd, by decide, by decide, fun z H1 z0 z1 d1 => ?_⟩
            wtm_at "jw"
            intro B hB
            have d2 := d1.new (o := .lst [V.int 0, V.int 32767, V.int (-32768), V.int 16, V.int (z - 32768)]) hB
            wtm_at "jw"
            refine ⟨p, a, B, _, rfl, d2.at_, .inl ⟨d1.at_.ne_none hB, SqL.of upd_same⟩, by simp, by simp, fun x H3 hx d3 => ?_⟩
            refine fin 0 _ x _ _ (fun y hy => ?_) hx d2 d3
            simp only [List.mem_cons, List.not_mem_nil, or_false] at hy
            rcases hy with h | h | h | h | h <;> exact ⟨_, h⟩
def sp__law_any (K : PySem.W.Frag) : Sp := fun vs H Q _ => ∃ (p a k : Addr) (ks : List V), vs = [.ref p, .ref k] ∧ DrawAt H p a ∧ H k = some (.lst ks) ∧ k ≠ p ∧ Strs ks ∧ ks.length ≤ 1000 ∧
  ∀ (r : Addr) (ns : List Int) (H' : Hp), Drew p a H H' → H' r = some (.tup (ns.map V.int)) → ns.length = ks.length → Q (.ref r) H'
theorem ok__law_any {P : Program} {w : World} {K : PySem.W.Frag} {mg : Str → Option Value} {base : Heap} {C_Store : Addr} {C_NoState : Addr} {f : Addr} {fd : FuncData} (F : Df K mg "_law_any" s__law_any f fd ["d", "kinds"]) (T : Txt K mg C_Store C_NoState)
    (c__law_entry : Cl P w K mg base 3 "_law_entry" (sp__law_entry K)) : FnOk P w K mg base CX0 4 f fd ["d", "kinds"] (sp__law_any K) := by
  refine F.ok sc__law_any (fun vs H Q E h => ?_) (fun cdv A outer s H vs Q E hr h => ?_)
  · obtain ⟨p, a, k, ks, rfl, _⟩ := h
    rfl
  · obtain ⟨p, a, k, ks, rfl, hd, hk, nk, hs, hl, q⟩ := h
    refine ⟨_, (pss_one (ps_ret (pe_callTy (T := "tuple") (r := rTupOf K) c_tup (by rfl) T.b_tuple (by decide +kernel) (pa_cons (pe_lc (own := [("kind", 2)]) (g := gName 2) (tt := tYes) rfl sc__law_any.nd (pi_list (pv 1)) (blkOk_by (own := [("kind", 2)]) (N := N__law_any) (sc := defScope s__law_any) (by decide +kernel)) (fun _ _ _ _ _ => (pg_name (i := 2) sc__law_any.nd rfl (Or.inl rfl))) (fun _ _ _ _ _ => pts_nil) (fun _ _ _ _ _ => (pe_cl c__law_entry hr (by decide) rfl (pa_cons (pv 0) (pa_cons (pv 2) pa_nil))))) pa_nil)))), ?_⟩
    try dsimp only [cxOf, Cx.nox, Cx.wish]
    refine st_of (σ' := [some _, some _, none]) rfl ?_
    wtm_at "jw"
    intro D hD
    have nD := hd.ne_none hD
    refine l_list (xs := ks) (fun i H' => Drew p a H H' ∧ ∃ ns : List Int, H' D = some (.lst (ns.map V.int)) ∧ ns.length = i) ⟨hd.drew.new hD, [], upd_same, rfl⟩ (fun i H' _ h => SqL.of (h.1.kp _ _ hk nk)) (fun i x H' hi h => ?_) (fun H' h => ?_)
    · obtain ⟨d1, ns, h1, hn⟩ := h
      obtain ⟨s, rfl⟩ := hs x (List.mem_of_getElem? hi)
      have hlt := (List.getElem?_eq_some_iff.mp hi).1
      wtm_at "jw"
      refine ⟨rfl, ?_⟩
      wtm_at "jw"
      refine ⟨p, a, s, rfl, d1.at_, fun z H2 d2 => ?_⟩
      refine ⟨_, d2.kp _ _ h1 nD, small1000 (by rw [List.length_map]; omega), (d1.trans d2).put hd hD, ns ++ [z], by rw [upd_same, List.map_append]; rfl, by simp [hn]⟩
    · obtain ⟨d1, ns, h1, hn⟩ := h
      wtm_at "jw"
      intro r hr'
      exact q r ns _ (d1.new hr') upd_same hn

/-! ### rows in another order -/
theorem perm_map {α β : Type} {f : α → β} : ∀ {ys xs : List β}, ys.Perm xs → ∀ {l : List α}, xs = l.map f → ∃ l' : List α, ys = l'.map f ∧ l'.Perm l := by
  intro ys xs h
  induction h with
  | nil => intro l e; exact ⟨[], rfl, by rw [List.map_eq_nil_iff.mp e.symm]⟩
  | @cons x l1 l2 _ ih =>
    intro l e
    match l, e with
    | a :: r, e =>
      obtain ⟨e1, e2⟩ := List.cons.inj e
      obtain ⟨l', h1, h2⟩ := ih e2
      exact ⟨a :: l', by rw [List.map_cons, e1, h1], h2.cons a⟩
  | @swap x y l0 =>
    intro l e
    match l, e with
    | a :: b :: r, e =>
      obtain ⟨e1, e2⟩ := List.cons.inj e
      obtain ⟨e2, e3⟩ := List.cons.inj e2
      exact ⟨b :: a :: r, by rw [List.map_cons, List.map_cons, e1, e2, e3], .swap ..⟩
  | trans _ _ ih1 ih2 =>
    intro l e
    obtain ⟨l1, h1, h2⟩ := ih2 e
    obtain ⟨l2, h3, h4⟩ := ih1 h1
    exact ⟨l2, h3, h4.trans h2⟩
theorem TDs.perm {K : PySem.W.Frag} {H : Hp} : ∀ {ys xs : List V}, ys.Perm xs → ∀ {ds : List PyData}, TDs K H xs ds → ∃ ds', ds'.Perm ds ∧ TDs K H ys ds' := by
  intro ys xs h
  induction h with
  | nil => intro ds t; exact ⟨ds, .refl _, t⟩
  | cons x _ ih =>
    intro ds t
    cases t with
    | cons a r =>
      obtain ⟨ds', h1, h2⟩ := ih r
      exact ⟨_, h1.cons _, .cons a h2⟩
  | swap x y l =>
    intro ds t
    cases t with
    | cons a r =>
      cases r with
      | cons b r => exact ⟨_, .swap .., .cons b (.cons a r)⟩
  | trans _ _ ih1 ih2 =>
    intro ds t
    obtain ⟨d1, h1, t1⟩ := ih2 t
    obtain ⟨d2, h2, t2⟩ := ih1 t1
    exact ⟨d2, h2.trans h1, t2⟩

/-! ### a store and a kept list, as the laws see them -/
def kD (p : Int × List Int) : PyData := .tuple [.int p.1, .tuple (p.2.map PyData.int)]
structure StL (K : PySem.W.Frag) (C : Addr) (H : Hp) (s : Addr) (kept : KS) (av : List Addr) : Prop where
  ex : ∃ dx P w S rs, StoreAt K C H s dx P w S rs kept ∧ ∀ x ∈ av, x ≠ s ∧ x ≠ P ∧ x ≠ S
/-- from one state of a law to a later one: the things of av stand, but for the draws at p -/
structure Go (av : List Addr) (p a : Addr) (H H' : Hp) : Prop where
  d : DrawAt H' p a
  t : Tps H H'
  fr : ∀ b, b ∈ av → ∀ o, H b = some o → b ≠ p → H' b = some o
  al : ∀ b, H' b = none → H b = none
theorem Go.refl {av : List Addr} {p a : Addr} {H : Hp} (d : DrawAt H p a) : Go av p a H H := ⟨d, Tps.refl, fun _ _ _ e _ => e, fun _ e => e⟩
theorem Go.trans {av : List Addr} {p a : Addr} {H H1 H2 : Hp} (x : Go av p a H H1) (y : Go av p a H1 H2) : Go av p a H H2 := ⟨y.d, x.t.trans y.t, fun b hb o e n => y.fr b hb o (x.fr b hb o e n) n, fun b e => x.al _ (y.al _ e)⟩
theorem Go.weak {av av' : List Addr} {p a : Addr} {H H' : Hp} (x : Go av p a H H') (h : ∀ b ∈ av', b ∈ av) : Go av' p a H H' := ⟨x.d, x.t, fun b hb => x.fr b (h b hb), x.al⟩
theorem Drew.al {p a : Addr} {H H' : Hp} (w : Drew p a H H') : ∀ b, H' b = none → H b = none := fun b hb => w.free hb
theorem Drew.go {av : List Addr} {p a : Addr} {H H' : Hp} (w : Drew p a H H') (d : DrawAt H p a) : Go av p a H H' := ⟨w.at_, w.tps d, fun b _ o e n => w.kp b o e n, w.al⟩
theorem same_go {av : List Addr} {p a : Addr} {H H' : Hp} (s : Same H H') (d : DrawAt H p a) : Go av p a H H' := ⟨d.same s, Tps.of s, fun b _ o e _ => s b o e, fun _ => same_free s⟩
section
variable {K : PySem.W.Frag} {C : Addr} {H H' : Hp} {s p a : Addr} {kept kept' : KS} {av : List Addr}
theorem StL.same (h : StL K C H s kept av) (t : Same H H') : StL K C H' s kept av := by
  obtain ⟨dx, P, w, S, rs, h1, h2⟩ := h.ex
  exact ⟨dx, P, w, S, rs, h1.same t, h2⟩
theorem StL.drew (h : StL K C H s kept av) (d : DrawAt H p a) (w : Drew p a H H') : StL K C H' s kept av := by
  obtain ⟨dx, P, w', S, rs, h1, h2⟩ := h.ex
  obtain ⟨ns, pos, pend, seed, e1, _⟩ := d
  refine ⟨dx, P, w', S, rs, h1.move (w.tps ⟨ns, pos, pend, seed, e1, by assumption⟩) fun b o hb hc => w.kp b o hb fun z => ?_, h2⟩
  subst z
  rcases hc with z | z | z
  · subst z
    rw [h1.ob] at e1
    cases e1
  · subst z
    rw [h1.pl] at e1
    cases ek : tks kept with
    | nil => rw [ek] at e1; cases e1
    | cons x r => rw [ek] at e1; cases e1
  · subst z
    rw [h1.st] at e1
    match rs, e1 with
    | [], e1 => cases e1
    | [_], e1 => cases e1
    | _ :: _ :: _, e1 => cases e1
/-- a thing made behind the store -/
theorem StL.add {b : Addr} (h : StL K C H s kept av) (hb : H b = none) : StL K C H s kept (b :: av) := by
  obtain ⟨dx, P, w, S, rs, h1, h2⟩ := h.ex
  refine ⟨dx, P, w, S, rs, h1, fun x hx => ?_⟩
  rcases List.mem_cons.mp hx with rfl | hx
  · exact ⟨(ne_of_none h1.ob hb).symm, (ne_of_none h1.pl hb).symm, (ne_of_none h1.st hb).symm⟩
  · exact h2 x hx
theorem StL.weak {av' : List Addr} (h : StL K C H s kept av) (hh : ∀ b ∈ av', b ∈ av) : StL K C H s kept av' := by
  obtain ⟨dx, P, w, S, rs, h1, h2⟩ := h.ex
  exact ⟨dx, P, w, S, rs, h1, fun x hx => h2 x (hh x hx)⟩
/-- behind a deed of the store -/
theorem StL.step {dx P w S : Addr} {rs : List Addr} (h1 : StoreAt K C H s dx P w S rs kept) (h2 : ∀ x ∈ av, x ≠ s ∧ x ≠ P ∧ x ≠ S) (d : DrawAt H p a) (ha : a ∈ av) (ex : ∀ x ∈ av, ∃ o, H x = some o) (st : StepTo K C H H' s dx P S kept') : StL K C H' s kept' av ∧ Go av p a H H' := by
  have tp := h1.tps st.mv
  have hd : DrawAt H' p a := by
    obtain ⟨ns, pos, pend, seed, e1, e2, e3, e4⟩ := d
    have na := h2 a ha
    have np : p ≠ s ∧ p ≠ P ∧ p ≠ S := by
      refine ⟨fun z => ?_, fun z => ?_, fun z => ?_⟩
      · subst z
        rw [h1.ob] at e1
        cases e1
      · subst z
        rw [h1.pl] at e1
        cases ek : tks kept with
        | nil => rw [ek] at e1; cases e1
        | cons x r => rw [ek] at e1; cases e1
      · subst z
        rw [h1.st] at e1
        match rs, e1 with
        | [], e1 => cases e1
        | [_], e1 => cases e1
        | _ :: _ :: _, e1 => cases e1
    exact ⟨ns, pos, pend, seed, st.mv _ _ e1 np.1 np.2.1 np.2.2, st.mv _ _ e2 na.1 na.2.1 na.2.2, e3, e4⟩
  refine ⟨?_, hd, tp, fun b hb o e _ => st.mv b o e (h2 b hb).1 (h2 b hb).2.1 (h2 b hb).2.2, st.al⟩
  obtain ⟨P', w', S', rs', h3, e4, e5⟩ := st.to
  refine ⟨dx, P', w', S', rs', h3, fun x hx => ⟨(h2 x hx).1, fun z => ?_, fun z => ?_⟩⟩
  · rcases e4 with e | e
    · exact (h2 x hx).2.1 (z.trans e)
    · obtain ⟨o, eo⟩ := ex x hx
      rw [z, e] at eo; cases eo
  · rcases e5 with e | e
    · exact (h2 x hx).2.2 (z.trans e)
    · obtain ⟨o, eo⟩ := ex x hx
      rw [z, e] at eo; cases eo
theorem LD.go {L : Addr} {ds : List PyData} (h : LD K H L ds) (g : Go av p a H H') (hL : L ∈ av) (n : L ≠ p) : LD K H' L ds := by
  obtain ⟨vs, h1, h2⟩ := h
  exact ⟨vs, g.fr L hL _ h1 n, h2.tps g.t⟩
theorem StL.len {n : Nat} (_ : StL K C H s kept av) (ko : KeptOk n kept) : kept.length ≤ 25 := keptLen25 ko
end
theorem TD.k_inv {K : PySem.W.Frag} {H : Hp} {v : V} {p : Int × List Int} (h : TD K H v (Law.kD p)) : ∃ a b, v = .ref a ∧ SqT K H a [.int p.1, .ref b] ∧ SqT K H b (p.2.map V.int) := by
  obtain ⟨a, xs, rfl, hS, hT⟩ := h.tup_inv
  cases hT with
  | cons h1 hr =>
    cases hr with
    | cons h2 hr =>
      cases hr
      have e1 := h1.int_inv
      obtain ⟨b, ys, rfl, hb, hbs⟩ := h2.tup_inv
      subst e1
      rw [hbs.ints_inv] at hb
      exact ⟨a, b, rfl, hS, hb⟩
theorem last_at {us : List V} {v : V} {k : Nat} (h : us[k]? = some v) (hl : us.length = k + 1) : atI us (-1) = some v := by
  have e : us = us.take k ++ [v] := by
    have h1 := List.take_add_one (l := us) (i := k)
    rw [h, ← hl, List.take_length] at h1
    exact h1
  rw [e]
  exact atI_last _ _
def sp__law_some_tick (K : PySem.W.Frag) : Sp := fun vs H Q _ => ∃ (p a L : Addr) (kept : KS) (n : Nat), vs = [.ref p, .ref L] ∧ DrawAt H p a ∧ L ≠ p ∧ LD K H L (kept.map kD) ∧ KeptOk n kept ∧ ∀ t H', Drew p a H H' → 0 ≤ t → t ≤ 24 → Q (.int t) H'
theorem ok__law_some_tick {P : Program} {w : World} {K : PySem.W.Frag} {mg : Str → Option Value} {base : Heap} {C_Store : Addr} {C_NoState : Addr} {f : Addr} {fd : FuncData} (F : Df K mg "_law_some_tick" s__law_some_tick f fd ["d", "kept"]) (T : Txt K mg C_Store C_NoState)
    (c__law_draw : Cl P w K mg base 1 "_law_draw" (sp__law_draw K))
    (c__law_pick : Cl P w K mg base 2 "_law_pick" (sp__law_pick K)) : FnOk P w K mg base CX0 3 f fd ["d", "kept"] (sp__law_some_tick K) := by
  refine F.ok sc__law_some_tick (fun vs H Q E h => ?_) (fun cdv A outer s H vs Q E hr h => ?_)
  · obtain ⟨p, a, L, kept, n, rfl, _⟩ := h
    rfl
  · obtain ⟨p, a, L, kept, n, rfl, d0, nL, ⟨us, hL, hT⟩, ko, q⟩ := h
    have lus : us.length = kept.length := by rw [hT.len, List.length_map]
    have k25 := keptLen25 ko
    refine ⟨_, (pss_cons (ps_if (PW.pt (pw_and (pt_cmpR op_gt (pe_callB (id := "len") (r := qLen K) c_len (by rfl) T.b_len (by decide +kernel) (pa_cons (pv 1) pa_nil)) pe_int (nomark _)) (pw_and1 (pt_cmpR op_gt (pe_cl c__law_draw hr (by decide) rfl (pa_cons (pv 0) (pa_cons pe_int pa_nil))) pe_int (nomark _))))) (pss_one (ps_ret (pe_ix (r := rIx K) ix_seq (pe_cl c__law_pick hr (by decide) rfl (pa_cons (pv 0) (pa_cons (pv 1) pa_nil))) pe_int (fun _ _ => rfl)))) pss_nil)
      (pss_one (ps_ret (pe_cl c__law_draw hr (by decide) rfl (pa_cons (pv 0) (pa_cons pe_int pa_nil)))))), ?_⟩
    try dsimp only [cxOf, Cx.nox, Cx.wish]
    refine st_of (σ' := [some _, some _]) rfl ?_
    have rest : ∀ w : Drew p a H H, True := fun _ => trivial
    have pick : ∀ (H1 : Hp) (R : VK), Drew p a H H1 → 0 < kept.length → (∀ v H2, Drew p a H H2 → (∃ x y t, v = .ref x ∧ SqT K H2 x [.int t, .ref y] ∧ 0 ≤ t ∧ t ≤ 24) → R v H2) → sp__law_pick K [.ref p, .ref L] H1 R E0 := fun H1 R w1 h0 hR => by
      refine pickS (E := E0) w1 (w1.kp _ _ hL nL) nL (by omega) (by omega) fun v H2 hv e2 w2 => ?_
      obtain ⟨dd, hd, hv2⟩ := (hT.tps (w2.tps d0)).mem hv
      obtain ⟨z, hz, rfl⟩ := List.mem_map.mp hd
      obtain ⟨x, y, rfl, hx, _⟩ := TD.k_inv hv2
      exact hR _ _ w2 ⟨x, y, z.1, rfl, hx, (ko.tk z hz).1, (ko.tk z hz).2⟩
    wtm_at "jw"
    refine c_dec (fun h0 => ?_) (fun h0 => ?_)
    · wtm_at "jw"
      refine drawL d0.drew (by omega) (by omega) fun z H1 z0 z1 e1 w1 => ?_
      wtm_at "jw"
      refine c_dec (fun h1 => ?_) (fun h1 => ?_)
      · wtm_at "jw"
        refine pick _ _ w1 (by omega) fun v H2 w2 hv => ?_
        obtain ⟨x, y, t, rfl, hx, t0, t1⟩ := hv
        wtm_at "jw"
        exact q t _ w2 t0 t1
      · wtm_at "jw"
        refine drawL w1 (by omega) (by omega) fun z H1 z0 z1 e1 w1 => ?_
        exact q z _ w1 z0 (by omega)
    · wtm_at "jw"
      refine drawL d0.drew (by omega) (by omega) fun z H1 z0 z1 e1 w1 => ?_
      exact q z _ w1 z0 (by omega)
def sp__law_next_tick (K : PySem.W.Frag) : Sp := sp__law_some_tick K
theorem ok__law_next_tick {P : Program} {w : World} {K : PySem.W.Frag} {mg : Str → Option Value} {base : Heap} {C_Store : Addr} {C_NoState : Addr} {f : Addr} {fd : FuncData} (F : Df K mg "_law_next_tick" s__law_next_tick f fd ["d", "kept"]) (T : Txt K mg C_Store C_NoState)
    (c__law_some_tick : Cl P w K mg base 3 "_law_some_tick" (sp__law_some_tick K))
    (c__law_draw : Cl P w K mg base 1 "_law_draw" (sp__law_draw K)) : FnOk P w K mg base CX0 4 f fd ["d", "kept"] (sp__law_next_tick K) := by
  refine F.ok sc__law_next_tick (fun vs H Q E h => ?_) (fun cdv A outer s H vs Q E hr h => ?_)
  · obtain ⟨p, a, L, kept, n, rfl, _⟩ := h
    rfl
  · obtain ⟨p, a, L, kept, n, rfl, d0, nL, hLD, ko, q⟩ := h
    obtain ⟨us, hL, hT⟩ := id hLD
    have lus : us.length = kept.length := by rw [hT.len, List.length_map]
    have k25 := keptLen25 ko
    refine ⟨_, (pss_cons (ps_if (PW.pt (pw_and (pt_cmpR op_gt (pe_callB (id := "len") (r := qLen K) c_len (by rfl) T.b_len (by decide +kernel) (pa_cons (pv 1) pa_nil)) pe_int (nomark _)) (pw_and (pt_cmpR op_lt (pe_ix (r := rIxT K) ix_tup (pe_ix (r := rIxL K) ix_list (pv 1) (pe_un un_neg pe_int) (fun _ _ => rfl)) pe_int (fun _ _ => rfl)) pe_int (nomark _)) (pw_and1 (pt_cmpR op_gt (pe_cl c__law_draw hr (by decide) rfl (pa_cons (pv 0) (pa_cons pe_int pa_nil))) pe_int (nomark _)))))) (pss_one (ps_ret (pe_callB (id := "min") (c_min2 rfl) (by rfl) T.b_min (by decide +kernel) (pa_cons pe_int (pa_cons (pe_op op_add (pe_op op_add (pe_ix (r := rIxT K) ix_tup (pe_ix (r := rIxL K) ix_list (pv 1) (pe_un un_neg pe_int) (fun _ _ => rfl)) pe_int (fun _ _ => rfl)) pe_int) (pe_cl c__law_draw hr (by decide) rfl (pa_cons (pv 0) (pa_cons pe_int pa_nil)))) pa_nil))))) pss_nil)
      (pss_one (ps_ret (pe_cl c__law_some_tick hr (by decide) rfl (pa_cons (pv 0) (pa_cons (pv 1) pa_nil)))))), ?_⟩
    try dsimp only [cxOf, Cx.nox, Cx.wish]
    refine st_of (σ' := [some _, some _]) rfl ?_
    have sm : ∀ (H1 : Hp), Drew p a H H1 → sp__law_some_tick K [.ref p, .ref L] H1 Q E0 := fun H1 w1 =>
      ⟨p, a, L, kept, n, rfl, w1.at_, nL, hLD.drew d0 w1 nL, ko, fun t H2 w2 t0 t1 => q t _ (w1.trans w2) t0 t1⟩
    wtm_at "jw"
    refine c_dec (fun h0 => ?_) (fun h0 => ?_)
    · rw [List.length_map] at h0
      have hlt : kept.length - 1 < us.length := by omega
      obtain ⟨dd, hd, hv2, _, _⟩ := hT.at (List.getElem?_eq_getElem hlt)
      rw [List.getElem?_map] at hd
      obtain ⟨z, hz, rfl⟩ := Option.map_eq_some_iff.mp hd
      have hzt := ko.tk z (List.mem_of_getElem? hz)
      obtain ⟨x, y, ex, hx, _⟩ := TD.k_inv hv2
      have al : atI us (-1) = some (.ref x) := by
        rw [← ex]
        exact last_at (k := kept.length - 1) (List.getElem?_eq_getElem hlt) (by omega)
      wtm_at "jw"
      refine c_dec (fun h1 => ?_) (fun h1 => ?_)
      · wtm_at "jw"
        refine drawL d0.drew (by omega) (by omega) fun y1 H1 z0 z1 e1 w1 => ?_
        wtm_at "jw"
        refine c_dec (fun h2 => ?_) (fun h2 => ?_)
        · have hL1 := w1.kp _ _ hL nL
          have hx1 := (w1.tps d0).sq hx
          wtm_at "jw"
          refine drawL w1 (by omega) (by omega) fun y2 H2 z2 z3 e2 w2 => ?_
          wtm_at "jw"
          refine q _ _ w2 ?_ ?_
          · split <;> omega
          · split <;> omega
        · wtm_at "jw"
          exact sm _ w1
      · wtm_at "jw"
        exact sm _ d0.drew
    · wtm_at "jw"
      exact sm _ d0.drew

theorem KeptOk.filter {n : Nat} {kept : KS} (ko : KeptOk n kept) (f : Int × List Int → Bool) : KeptOk n (kept.filter f) :=
  ⟨by unfold tks; exact ko.srt.sublist (List.Sublist.map _ (List.filter_sublist)), fun p hp => ko.len p (List.mem_filter.mp hp).1, fun p hp => ko.tk p (List.mem_filter.mp hp).1, ko.nn⟩
theorem KeptOk.snoc {n : Nat} {kept : KS} (ko : KeptOk n kept) {t : Int} {st : List Int} (ht : 0 ≤ t ∧ t ≤ 24) (hl : st.length = n) : KeptOk n (kept.filter (fun p => decide (p.1 < t)) ++ [(t, st)]) := by
  have k1 := ko.filter (fun p => decide (p.1 < t))
  refine ⟨?_, fun p hp => ?_, fun p hp => ?_, ko.nn⟩
  · unfold tks
    rw [List.map_append]
    refine List.pairwise_append.mpr ⟨k1.srt, List.pairwise_singleton _ _, fun x hx y hy => ?_⟩
    obtain ⟨p, hp, rfl⟩ := List.mem_map.mp hx
    rw [List.mem_singleton.mp hy]
    have := (List.mem_filter.mp hp).2
    simpa using this
  · rcases List.mem_append.mp hp with hp | hp
    · exact k1.len p hp
    · rw [List.mem_singleton.mp hp]; exact hl
  · rcases List.mem_append.mp hp with hp | hp
    · exact k1.tk p hp
    · rw [List.mem_singleton.mp hp]; exact ht
theorem take_cnt {n : Nat} {kept : KS} (ko : KeptOk n kept) (t : Int) : kept.take (cnt kept t) = kept.filter (fun p => decide (p.1 < t)) := by
  have key : ∀ (l : KS), (l.map (·.1)).Pairwise (· < ·) → l.take (cntL (l.map (·.1)) t) = l.filter (fun p => decide (p.1 < t)) := by
    intro l
    induction l with
    | nil => intro _; rfl
    | cons p r ih =>
      intro h
      have ⟨h1, h2⟩ := List.pairwise_cons.mp h
      rw [List.map_cons, cntL]
      by_cases hp : p.1 < t
      · rw [if_pos hp, List.take_succ_cons, ih h2, List.filter_cons_of_pos (by simpa using hp)]
      · rw [if_neg hp, List.take_zero, List.filter_cons_of_neg (by simpa using hp)]
        symm
        rw [List.filter_eq_nil_iff]
        intro x hx
        have h3 : p.1 < x.1 := h1 x.1 (List.mem_map_of_mem hx)
        simp
        omega
  exact key kept ko.srt

theorem kept_at {K : PySem.W.Frag} {H : Hp} {us : List V} {kept : KS} (hT : TDs K H us (kept.map kD)) {k : Nat} (hk : k < kept.length) : ∃ x y z, kept[k]? = some z ∧ atI us (k : Int) = some (.ref x) ∧ us[k]? = some (.ref x) ∧ SqT K H x [.int z.1, .ref y] ∧ SqT K H y (z.2.map V.int) := by
  have lus : us.length = kept.length := by rw [hT.len, List.length_map]
  have hu : us[k]? = some (us[k]'(by omega)) := List.getElem?_eq_getElem (by omega)
  obtain ⟨dd, hd, ty, _, _⟩ := hT.at hu
  rw [List.getElem?_map] at hd
  obtain ⟨z, hz, rfl⟩ := Option.map_eq_some_iff.mp hd
  obtain ⟨x, y, ex, hx, hy⟩ := TD.k_inv ty
  rw [ex] at hu
  exact ⟨x, y, z, hz, atI_nat hu, hu, hx, hy⟩
theorem sumK_snoc : ∀ {kept : KS} {k : Nat} {a b : Int × List Int}, kept[k]? = some a → kept[k + 1]? = some b → sumK (kept.take (k + 2)) = sumK (kept.take (k + 1)) + ((df a.2 b.2).length : Int)
  | [], _, _, _, h, _ => by simp at h
  | [_], k, _, _, _, h => by simp at h
  | x :: y :: r, 0, a, b, ha, hb => by
    simp at ha hb
    subst ha hb
    simp [sumK]
  | x :: y :: r, k + 1, a, b, ha, hb => by
    have := sumK_snoc (kept := y :: r) (k := k) (a := a) (b := b) (by simpa using ha) (by simpa using hb)
    show ((df x.2 y.2).length : Int) + sumK ((y :: r).take (k + 2)) = ((df x.2 y.2).length : Int) + sumK ((y :: r).take (k + 1)) + _
    omega
theorem sizeK_one {kept : KS} {a : Int × List Int} (h : kept[0]? = some a) : sizeK (kept.take 1) = (a.2.length : Int) := by
  match kept, h with
  | x :: r, h =>
    simp at h
    subst h
    simp [sizeK, sumK, wholeK]
theorem sizeK_snoc {kept : KS} {k : Nat} {a b : Int × List Int} (ha : kept[k]? = some a) (hb : kept[k + 1]? = some b) : sizeK (kept.take (k + 2)) = sizeK (kept.take (k + 1)) + ((df a.2 b.2).length : Int) := by
  unfold sizeK
  rw [sumK_snoc ha hb, wholeK_take, wholeK_take, if_neg (by omega), if_neg (by omega)]
  omega
def sp__law_size (K : PySem.W.Frag) : Sp := fun vs H Q _ => ∃ (L : Addr) (kept : KS) (n : Nat), vs = [.ref L] ∧ LD K H L (kept.map kD) ∧ KeptOk n kept ∧ ∀ H', Same H H' → Q (.int (sizeK kept)) H'
theorem ok__law_size {P : Program} {w : World} {K : PySem.W.Frag} {mg : Str → Option Value} {base : Heap} {C_Store : Addr} {C_NoState : Addr} {f : Addr} {fd : FuncData} (F : Df K mg "_law_size" s__law_size f fd ["kept"]) (T : Txt K mg C_Store C_NoState) : FnOk P w K mg base CX0 1 f fd ["kept"] (sp__law_size K) := by
  refine F.ok sc__law_size (fun vs H Q E h => ?_) (fun cdv A outer s H vs Q E hr h => ?_)
  · obtain ⟨L, kept, n, rfl, _⟩ := h
    rfl
  · obtain ⟨L, kept, n, rfl, ⟨us, hL, hT⟩, ko, q⟩ := h
    have lus : us.length = kept.length := by rw [hT.len, List.length_map]
    have k25 := keptLen25 ko
    have hnn := ko.nn
    refine ⟨_, (pss_cons (ps_set (i := 1) sc__law_size.nd rfl (Or.inl rfl) pe_int)
      (pss_cons (ps_for PassesOwn.never rfl (pi_range1 rfl T.b_range (pa_cons (pe_callB (id := "len") (r := qLen K) c_len (by rfl) T.b_len (by decide +kernel) (pa_cons (pv 0) pa_nil)) pa_nil)) (pg_name (i := 2) sc__law_size.nd rfl (Or.inr rfl)) (pss_cons (ps_set (i := 3) sc__law_size.nd rfl (Or.inr rfl) (pe_ix (r := rIxT K) ix_tup (pe_ix (r := rIxL K) ix_list (pv 0) (pv 2) (fun _ _ => rfl)) pe_int (fun _ _ => rfl)))
      (pss_one (ps_if (pt_cmpR op_eq (pv 2) pe_int (nomark _)) (pss_one (ps_set (i := 1) sc__law_size.nd rfl (Or.inl rfl) (pe_callB (id := "len") (r := qLen K) c_len (by rfl) T.b_len (by decide +kernel) (pa_cons (pv 3) pa_nil)))) (pss_one (ps_set (i := 1) sc__law_size.nd rfl (Or.inl rfl) (pe_op op_add (pv 1) (pe_callB (id := "len") (r := qLen K) c_len (by rfl) T.b_len (by decide +kernel) (pa_cons (pe_lc (own := [("place", 4)]) (g := gName 4) rfl sc__law_size.nd (pi_range1 rfl T.b_range (pa_cons (pe_callB (id := "len") (r := qLen K) c_len (by rfl) T.b_len (by decide +kernel) (pa_cons (pv 3) pa_nil)) pa_nil)) (blkOk_by (own := [("place", 4)]) (N := N__law_size) (sc := defScope s__law_size) (by decide +kernel)) (fun _ _ _ _ _ => (pg_name (i := 4) sc__law_size.nd rfl (Or.inl rfl))) (fun _ _ _ _ _ => pts_one (pt_cmpR op_ne (pe_ix (r := rIxT K) ix_tup (pe_ix (r := rIxT K) ix_tup (pe_ix (r := rIxL K) ix_list (pv 0) (pe_op op_sub (pv 2) pe_int) (fun _ _ => rfl)) pe_int (fun _ _ => rfl)) (pv 4) (fun _ _ => rfl)) (pe_ix (r := rIxT K) ix_tup (pv 3) (pv 4) (fun _ _ => rfl)) (nomark _))) (fun _ _ _ _ _ => (pv 4))) pa_nil)))))))))
      (pss_one (ps_ret (pv 1))))), ?_⟩
    try dsimp only [cxOf, Cx.nox, Cx.wish]
    refine st_of (σ' := [some _, none, none, none, none]) rfl ?_
    wtm_at "jw"
    refine f_range (fun k σ H' => Same H H' ∧ ∃ w2 w3, σ = [some (.ref L), some (.int (sizeK (kept.take k))), w2, w3, none]) ⟨fun _ _ h => h, none, none, rfl⟩ (fun k σ H' hk h => ?_) (fun σ H' h => ?_)
    · obtain ⟨s1, w2, w3, rfl⟩ := h
      have hL1 := s1 _ _ hL
      have hT1 := hT.same s1
      obtain ⟨x, y, z, hz, ax, _, hx, hy⟩ := kept_at hT1 (k := k) (by omega)
      have ax2 : atI us ((0 : Int) + (k : Int)) = some (.ref x) := by rw [Int.zero_add]; exact ax
      have lz := ko.len z (List.mem_of_getElem? hz)
      have prev : ∀ m, k = m + 1 → ∃ x' y' z', kept[m]? = some z' ∧ atI us ((0 : Int) + (k : Int) - 1) = some (.ref x') ∧ SqT K H' x' [.int z'.1, .ref y'] ∧ SqT K H' y' (z'.2.map V.int) := fun m e => by
        obtain ⟨x', y', z', hz', ax', _, hx', hy'⟩ := kept_at hT1 (k := m) (by omega)
        exact ⟨x', y', z', hz', by rw [show (0 : Int) + (k : Int) - 1 = (m : Int) from by omega]; exact ax', hx', hy'⟩
      clear hT hT1
      wtm_at "jw"
      refine c_dec (fun h0 => ?_) (fun h0 => ?_)
      · have e0 : k = 0 := by omega
        subst e0
        wtm_at "jw"
        rw [List.length_map, ← sizeK_one hz]
        exact ⟨s1, _, _, rfl⟩
      · obtain ⟨m, rfl⟩ : ∃ m, k = m + 1 := ⟨k - 1, by omega⟩
        obtain ⟨x', y', z', hz', ax', hx', hy'⟩ := prev m rfl
        have lz' := ko.len z' (List.mem_of_getElem? hz')
        wtm_at "jw"
        intro D hD
        refine l_range (fun i H2 => Same H' H2 ∧ ∃ vs : List V, H2 D = some (.lst vs) ∧ vs.length = (rowsN (dfc z'.2 z.2) i).length) ⟨same_new hD, [], upd_same, rfl⟩ (fun i H2 hi h => ?_) (fun H2 h => ?_)
        · obtain ⟨s2, vs, hD2, lv⟩ := h
          rw [List.length_map] at hi
          have hi1 : i < z.2.length := by omega
          have hi2 : i < z'.2.length := by omega
          obtain ⟨w1, hw1, ew1⟩ := int_at (ns := z.2) hi1
          obtain ⟨w2, hw2, ew2⟩ := int_at (ns := z'.2) hi2
          have rl := rowsN_len (dfc z'.2 z.2) i
          have hL2 := s2 _ _ hL1
          have hx2 := Same.tup s2 hx'
          have hy2 := Same.tup s2 hy'
          have hz2 := Same.tup s2 hy
          have lv1 : vs.length < sizeLine := small1000 (by omega)
          have nx : rowsN (dfc z'.2 z.2) (i + 1) = rowsN (dfc z'.2 z.2) i ++ (match dfc z'.2 z.2 i with | some v => [((i : Int), v)] | none => []) := rfl
          wtm_at "jw"
          refine ⟨rfl, ?_⟩
          wtm_at "jw"
          refine c_decN (fun hc => ?_) (fun hc => ?_)
          · wtm_at "jw"
            refine ⟨vs, hD2, lv1, put_same s2 hD, _, upd_same, ?_⟩
            rw [nx, List.length_append, List.length_append, lv]
            unfold dfc
            rw [hw1, hw2, if_neg (by intro e; cases e; exact hc rfl)]
            rfl
          · refine ⟨s2, vs, hD2, ?_⟩
            rw [nx, List.length_append, lv]
            unfold dfc
            rw [hw1, hw2, if_pos (by rw [hc])]
            rfl
        · obtain ⟨s2, vs, hD2, lv⟩ := h
          wtm_at "jw"
          have e : sizeK (kept.take (m + 1 + 1)) = sizeK (kept.take (m + 1)) + (vs.length : Int) := by
            rw [lv, Int.toNat_natCast, List.length_map]
            exact (sizeK_snoc hz' hz).trans (by unfold df; rfl)
          rw [e]
          exact ⟨fun b o hb => s2 _ _ (s1 _ _ hb), _, _, rfl⟩
    · obtain ⟨s1, w2, w3, rfl⟩ := h
      wtm_at "jw"
      have e := q _ s1
      rw [lus, Int.toNat_natCast, List.take_length]
      exact e

theorem StL.m {K : PySem.W.Frag} {C : Addr} {H : Hp} {s : Addr} {kept : KS} {av : List Addr} {R : Prop} {m : Str} (h : StL K C H s kept av) (q : R) (h1 : (m == ("places" : Str)) = false := by decide +kernel) (h2 : (m == ("whole" : Str)) = false := by decide +kernel) (h3 : (m == ("steps" : Str)) = false := by decide +kernel) :
    ∃ a dx fs, V.ref s = .ref a ∧ H a = some (.ins C dx fs) ∧ fs.lookup m = none ∧ R := by
  obtain ⟨dx, P, w, S, rs, sA, _⟩ := h.ex
  exact ⟨s, dx, _, rfl, sA.ob, lk_no h1 h2 h3, q⟩
theorem StL.has {K : PySem.W.Frag} {C : Addr} {H : Hp} {s : Addr} {kept : KS} {av : List Addr} {t : Int} {Q : VK} {E : XK} (h : StL K C H s kept av) (q : Q (.bl (decide (t ∈ tks kept))) H) : sp_Store_has K C [.ref s, .int t] H Q E := by
  obtain ⟨dx, P, w, S, rs, sA, _⟩ := h.ex
  exact ⟨s, dx, P, w, S, rs, kept, t, rfl, sA, q⟩
theorem StL.at_ {K : PySem.W.Frag} {C N : Addr} {H : Hp} {s : Addr} {kept : KS} {av : List Addr} {n : Nat} {p : Int × List Int} {Q : VK} {E : XK} (h : StL K C H s kept av) (ko : KeptOk n kept) (hp : p ∈ kept) (q : ∀ r H', Same H H' → SqT K H' r (p.2.map V.int) → Q (.ref r) H') : sp_Store_state_at K C N [.ref s, .int p.1] H Q E := by
  obtain ⟨dx, P, w, S, rs, sA, _⟩ := h.ex
  obtain ⟨k, hk⟩ := List.getElem?_of_mem hp
  exact ⟨s, dx, P, w, S, rs, kept, n, p.1, rfl, sA, ko, .inl ⟨k, p, hk, rfl, q⟩⟩
def stD (p : Int × List Int) : PyData := .tuple (p.2.map PyData.int)

def sp__law_mixed (K : PySem.W.Frag) : Sp := fun vs H Q _ => ∃ (p a x y : Addr) (us ws : List Int), vs = [.ref p, .ref x, .ref y] ∧ DrawAt H p a ∧ SqT K H x (us.map V.int) ∧ SqT K H y (ws.map V.int) ∧ us.length ≤ 60 ∧ ws.length = us.length ∧ ∀ (r : Addr) (ns : List Int) H', Drew p a H H' → SqT K H' r (ns.map V.int) → ns.length = us.length → Q (.ref r) H'
theorem ok__law_mixed {P : Program} {w : World} {K : PySem.W.Frag} {mg : Str → Option Value} {base : Heap} {C_Store : Addr} {C_NoState : Addr} {f : Addr} {fd : FuncData} (F : Df K mg "_law_mixed" s__law_mixed f fd ["d", "one", "other"]) (T : Txt K mg C_Store C_NoState)
    (c__law_draw : Cl P w K mg base 1 "_law_draw" (sp__law_draw K)) : FnOk P w K mg base CX0 2 f fd ["d", "one", "other"] (sp__law_mixed K) := by
  refine F.ok sc__law_mixed (fun vs H Q E h => ?_) (fun cdv A outer s H vs Q E hr h => ?_)
  · obtain ⟨p, a, x, y, us, ws, rfl, _⟩ := h
    rfl
  · obtain ⟨p, a, x, y, us, ws, rfl, d0, hx, hy, l60, lws, q⟩ := h
    refine ⟨_, (pss_cons (ps_set (i := 3) sc__law_mixed.nd rfl (Or.inr rfl) (pe_op op_add pe_int (pe_cl c__law_draw hr (by decide) rfl (pa_cons (pv 0) (pa_cons pe_int pa_nil)))))
      (pss_one (ps_ret (pe_callTy (T := "tuple") (r := rTupOf K) c_tup (by rfl) T.b_tuple (by decide +kernel) (pa_cons (pe_lc (own := [("k", 4)]) (g := gName 4) (tt := tYes) rfl sc__law_mixed.nd (pi_range1 rfl T.b_range (pa_cons (pe_callB (id := "len") (r := qLen K) c_len (by rfl) T.b_len (by decide +kernel) (pa_cons (pv 1) pa_nil)) pa_nil)) (blkOk_by (own := [("k", 4)]) (N := N__law_mixed) (sc := defScope s__law_mixed) (by decide +kernel)) (fun _ _ _ _ _ => (pg_name (i := 4) sc__law_mixed.nd rfl (Or.inl rfl))) (fun _ _ _ _ _ => pts_nil) (fun _ _ _ _ _ => (pe_ifExp (pt_cmpR op_eq (pe_cl c__law_draw hr (by decide) rfl (pa_cons (pv 0) (pa_cons (pv 3) pa_nil))) pe_int (nomark _)) (pe_ix (r := rIxT K) ix_tup (pv 1) (pv 4) (fun _ _ => rfl)) (pe_ix (r := rIxT K) ix_tup (pv 2) (pv 4) (fun _ _ => rfl))))) pa_nil))))), ?_⟩
    try dsimp only [cxOf, Cx.nox, Cx.wish]
    refine st_of (σ' := [some _, some _, some _, none, none]) rfl ?_
    wtm_at "jw"
    refine drawL d0.drew (by omega) (by omega) fun z H1 z0 z1 e1 w1 => ?_
    have hx1 := (w1.tps d0).sq hx
    have hy1 := (w1.tps d0).sq hy
    wtm_at "jw"
    intro D hD
    have hD0 := w1.al _ hD
    have nD := w1.at_.ne_none hD
    refine l_range (fun i H2 => Drew p a H H2 ∧ ∃ ns : List Int, H2 D = some (.lst (ns.map V.int)) ∧ ns.length = i) ⟨w1.new hD, [], upd_same, rfl⟩ (fun i H2 hi h => ?_) (fun H2 h => ?_)
    · obtain ⟨w2, ns, hD2, lns⟩ := h
      have hx2 := (w2.tps d0).sq hx
      have hy2 := (w2.tps d0).sq hy
      rw [List.length_map] at hi
      have hi1 : i < us.length := by omega
      have hi2 : i < ws.length := by omega
      obtain ⟨u1, hu1, eu1⟩ := int_at (ns := us) hi1
      obtain ⟨u2, hu2, eu2⟩ := int_at (ns := ws) hi2
      wtm_at "jw"
      refine ⟨rfl, ?_⟩
      wtm_at "jif"
      refine i_ifJ (fun v H' => Drew p a H2 H' ∧ ∃ g : Int, v = .int g) (fun v H3 h => ?_) (fun R hR => ?_)
      · obtain ⟨w3, g, rfl⟩ := h
        have hD3 := w3.kp _ _ hD2 nD
        refine ⟨_, hD3, small1000 (by rw [List.length_map]; omega), (w2.trans w3).put d0 hD0, ns ++ [g], by rw [upd_same, List.map_append]; rfl, by rw [List.length_append, lns]; rfl⟩
      · wtm_at "jw"
        refine drawL w2.at_.drew (by omega) (by omega) fun c H3 c0 c1 e3 w3 => ?_
        have hx3 := (w3.tps w2.at_).sq hx2
        have hy3 := (w3.tps w2.at_).sq hy2
        wtm_at "jw"
        refine c_dec (fun hc => ?_) (fun hc => ?_)
        · wtm_at "jw"
          exact hR _ _ ⟨w3, _, rfl⟩
        · wtm_at "jw"
          exact hR _ _ ⟨w3, _, rfl⟩
    · obtain ⟨w2, ns, hD2, lns⟩ := h
      wtm_at "jw"
      intro r hr'
      refine q r ns _ (w2.new hr') (SqT.of upd_same) ?_
      rw [lns, Int.toNat_natCast, List.length_map]
def sp__law_next_state (K : PySem.W.Frag) : Sp := fun vs H Q _ => ∃ (p a k L : Addr) (ks : List V) (kept : KS) (n : Nat), vs = [.ref p, .ref k, .ref L] ∧ DrawAt H p a ∧ H k = some (.lst ks) ∧ k ≠ p ∧ Strs ks ∧ ks.length = n ∧ 0 < n ∧ L ≠ p ∧ LD K H L (kept.map kD) ∧ KeptOk n kept ∧
  ∀ (r : Addr) (ns : List Int) H', Drew p a H H' → SqT K H' r (ns.map V.int) → ns.length = n → Q (.ref r) H'
theorem ok__law_next_state {P : Program} {w : World} {K : PySem.W.Frag} {mg : Str → Option Value} {base : Heap} {C_Store : Addr} {C_NoState : Addr} {f : Addr} {fd : FuncData} (F : Df K mg "_law_next_state" s__law_next_state f fd ["d", "kinds", "kept"]) (T : Txt K mg C_Store C_NoState)
    (c__law_draw : Cl P w K mg base 1 "_law_draw" (sp__law_draw K))
    (c__law_any : Cl P w K mg base 4 "_law_any" (sp__law_any K))
    (c__law_mixed : Cl P w K mg base 2 "_law_mixed" (sp__law_mixed K))
    (c__law_pick : Cl P w K mg base 2 "_law_pick" (sp__law_pick K))
    (c__law_entry : Cl P w K mg base 3 "_law_entry" (sp__law_entry K)) : FnOk P w K mg base CX0 5 f fd ["d", "kinds", "kept"] (sp__law_next_state K) := by
  refine F.ok sc__law_next_state (fun vs H Q E h => ?_) (fun cdv A outer s H vs Q E hr h => ?_)
  · obtain ⟨p, a, k, L, ks, kept, n, rfl, _⟩ := h
    rfl
  · obtain ⟨p, a, k, L, ks, kept, n, rfl, d0, hk, nk, hs, lks, n0, nL, ⟨us, hL, hT⟩, ko, q⟩ := h
    have lus : us.length = kept.length := by rw [hT.len, List.length_map]
    have k25 := keptLen25 ko
    have hnn := ko.nn
    refine ⟨_, (pss_cons (ps_if (pt_cmpR op_eq (pe_callB (id := "len") (r := qLen K) c_len (by rfl) T.b_len (by decide +kernel) (pa_cons (pv 2) pa_nil)) pe_int (nomark _)) (pss_one (ps_ret (pe_cl c__law_any hr (by decide) rfl (pa_cons (pv 0) (pa_cons (pv 1) pa_nil))))) pss_nil)
      (pss_cons (ps_set (i := 3) sc__law_next_state.nd rfl (Or.inl rfl) (pe_ix (r := rIxT K) ix_tup (pe_ix (r := rIxL K) ix_list (pv 2) (pe_un un_neg pe_int) (fun _ _ => rfl)) pe_int (fun _ _ => rfl)))
      (pss_cons (ps_set (i := 4) sc__law_next_state.nd rfl (Or.inl rfl) (pe_cl c__law_draw hr (by decide) rfl (pa_cons (pv 0) (pa_cons pe_int pa_nil))))
      (pss_cons (ps_if (pt_cmpR op_eq (pv 4) pe_int (nomark _)) (pss_one (ps_ret (pe_cl c__law_any hr (by decide) rfl (pa_cons (pv 0) (pa_cons (pv 1) pa_nil))))) pss_nil)
      (pss_cons (ps_if (pt_cmpR op_eq (pv 4) pe_int (nomark _)) (pss_one (ps_ret (pe_cl c__law_mixed hr (by decide) rfl (pa_cons (pv 0) (pa_cons (pv 3) (pa_cons (pe_ix (r := rIx K) ix_seq (pe_cl c__law_pick hr (by decide) rfl (pa_cons (pv 0) (pa_cons (pv 2) pa_nil))) pe_int (fun _ _ => rfl)) pa_nil)))))) pss_nil)
      (pss_cons (ps_set (i := 5) sc__law_next_state.nd rfl (Or.inl rfl) (pe_callTy (T := "list") (r := rLstOf K) c_lst (by rfl) T.b_list (by decide +kernel) (pa_cons (pv 3) pa_nil)))
      (pss_cons (ps_for PassesOwn.never rfl (pi_range1 rfl T.b_range (pa_cons (pe_cl c__law_pick hr (by decide) rfl (pa_cons (pv 0) (pa_cons (pe_lst (pa_cons pe_int (pa_cons pe_int (pa_cons pe_int (pa_cons pe_int (pa_cons pe_int pa_nil)))))) pa_nil))) pa_nil)) (pg_name (i := 6) sc__law_next_state.nd rfl (Or.inl rfl)) (pss_cons (ps_set (i := 7) sc__law_next_state.nd rfl (Or.inl rfl) (pe_cl c__law_draw hr (by decide) rfl (pa_cons (pv 0) (pa_cons (pe_callB (id := "len") (r := qLen K) c_len (by rfl) T.b_len (by decide +kernel) (pa_cons (pv 1) pa_nil)) pa_nil))))
      (pss_one (ps_asg (pe_cl c__law_entry hr (by decide) rfl (pa_cons (pv 0) (pa_cons (pe_ix (r := rIxL K) ix_list (pv 1) (pv 7) (fun _ _ => rfl)) pa_nil))) (pg_sub (pv 5) (pv 7) set_list)))))
      (pss_one (ps_ret (pe_callTy (T := "tuple") (r := rTupOf K) c_tup (by rfl) T.b_tuple (by decide +kernel) (pa_cons (pv 5) pa_nil))))))))))), ?_⟩
    try dsimp only [cxOf, Cx.nox, Cx.wish]
    refine st_of (σ' := [some _, some _, some _, none, none, none, none, none]) rfl ?_
    wtm_at "jw"
    refine c_dec (fun h0 => ?_) (fun h0 => ?_)
    · wtm_at "jw"
      exact ⟨p, a, k, ks, rfl, d0, hk, nk, hs, by omega, fun r ns H2 w2 h2 e2 => q r ns _ w2 (SqT.of h2) (by omega)⟩
    · obtain ⟨x, y, z, hz, _, hux, hx, hy⟩ := kept_at hT (k := kept.length - 1) (by omega)
      have al : atI us (-1) = some (.ref x) := last_at (k := kept.length - 1) hux (by omega)
      have lz := ko.len z (List.mem_of_getElem? hz)
      have pick : ∀ (H1 : Hp) (R : VK), Drew p a H H1 → (∀ v H2, Drew p a H1 H2 → Drew p a H H2 → (∃ x y w, v = .ref x ∧ w ∈ kept ∧ SqT K H2 x [.int w.1, .ref y] ∧ SqT K H2 y (w.2.map V.int)) → R v H2) → sp__law_pick K [.ref p, .ref L] H1 R E0 := fun H1 R w1 hR => by
        refine pickS (E := E0) w1 (w1.kp _ _ hL nL) nL (by omega) (by omega) fun v H2 hv e2 w2 => ?_
        obtain ⟨dd, hd, hv2⟩ := (hT.tps (w2.tps d0)).mem hv
        obtain ⟨w, hw, rfl⟩ := List.mem_map.mp hd
        obtain ⟨x, y, rfl, hx, hy⟩ := TD.k_inv hv2
        exact hR _ _ e2 w2 ⟨x, y, w, rfl, hw, hx, hy⟩
      clear hT
      wtm_at "jw"
      refine drawL d0.drew (by omega) (by omega) fun w H1 z0 z1 e1 w1 => ?_
      have hk1 := w1.kp _ _ hk nk
      have hL1 := w1.kp _ _ hL nL
      have hx1 := (w1.tps d0).sq hx
      have hy1 := (w1.tps d0).sq hy
      wtm_at "jw"
      refine c_dec (fun h0 => ?_) (fun h0 => ?_)
      · wtm_at "jw"
        exact ⟨p, a, k, ks, rfl, w1.at_, hk1, nk, hs, by omega, fun r ns H2 w2 h2 e2 => q r ns _ (w1.trans w2) (SqT.of h2) (by omega)⟩
      · wtm_at "jw"
        refine c_dec (fun h1 => ?_) (fun h1 => ?_)
        · wtm_at "jw"
          refine pick _ _ w1 fun v H2 e2 w2 hv => ?_
          obtain ⟨x2, y2, u, rfl, hu, hx2, hy2⟩ := hv
          have lu := ko.len u hu
          wtm_at "jw"
          refine ⟨p, a, y, y2, z.2, u.2, rfl, w2.at_, (e2.tps w1.at_).sq hy1, hy2, by omega, by omega, fun r ns H3 w3 h3 l3 => ?_⟩
          exact q r ns _ (w2.trans w3) h3 (by omega)
        · wtm_at "jw"
          intro F0 hF0
          have nF := w1.at_.ne_none hF0
          have w2 := w1.new (o := .lst (z.2.map V.int)) hF0
          have hF1 : upd H1 F0 (.lst (z.2.map V.int)) F0 = some (.lst (z.2.map V.int)) := upd_same
          have hk2 := same_new (o := .lst (z.2.map V.int)) hF0 _ _ hk1
          have hF00 := w1.al _ hF0
          generalize upd H1 F0 (.lst (z.2.map V.int)) = H3 at w2 hF1 hk2 ⊢
          wtm_at "jw"
          intro B hB
          refine pickL (E := E0) (fun z => 0 ≤ z ∧ z ≤ 5) [1, 2, 0, 1, 5] w2 hB rfl (by simp) (by simp) (by simp) fun m H4 hm e4 w4 => ?_
          have hF4 := e4.kp _ _ hF1 nF
          wtm_at "jw"
          refine f_range (fun i σ H5 => Drew p a H H5 ∧ (∃ ns : List Int, H5 F0 = some (.lst (ns.map V.int)) ∧ ns.length = n) ∧ ∃ v6 v7, σ = [some (.ref p), some (.ref k), some (.ref L), some (.ref y), some (.int w), some (.ref F0), v6, v7]) ⟨w4, ⟨z.2, hF4, lz⟩, none, none, rfl⟩ (fun i σ H5 hi h => ?_) (fun σ H5 h => ?_)
          · obtain ⟨w5, ⟨ns, hF5, lns⟩, _, _, rfl⟩ := h
            have hk5 := w5.kp _ _ hk nk
            wtm_at "jw"
            refine drawL w5 (by omega) (by omega) fun y H6 y0 y1 e6 w6 => ?_
            have hk6 := w6.kp _ _ hk nk
            have hF6 := e6.kp _ _ hF5 nF
            obtain ⟨v, ev, hv, _⟩ := at_lt (xs := ks) y0 (by omega)
            obtain ⟨sx, rfl⟩ := hs v hv
            wtm_at "jw"
            refine ⟨p, a, sx, rfl, w6.at_, fun x H7 w7 => ?_⟩
            have hF7 := w7.kp _ _ hF6 nF
            have ix : ixN (ns.map V.int).length y = some y.toNat := ixN_of y0 (by rw [List.length_map]; omega)
            wtm_at "jw"
            exact ⟨(w6.trans w7).put d0 hF00, ⟨ns.set y.toNat x, by rw [upd_same, List.map_set], by rw [List.length_set]; exact lns⟩, _, _, rfl⟩
          · obtain ⟨w5, ⟨ns, hF5, lns⟩, _, _, rfl⟩ := h
            wtm_at "jw"
            intro r hr'
            exact q r ns _ (w5.new hr') (SqT.of upd_same) lns

theorem StL.keep {K : PySem.W.Frag} {C : Addr} {H : Hp} {s p a sr : Addr} {kept : KS} {av : List Addr} {n : Nat} {t : Int} {st : List Int} {Q : VK} {E : XK} (h : StL K C H s kept av) (ko : KeptOk n kept) (hsr : SqT K H sr (st.map V.int)) (l : st.length = n) (d : DrawAt H p a) (ha : a ∈ av) (ex : ∀ x ∈ av, ∃ o, H x = some o)
    (q : ∀ H', Go av p a H H' → StL K C H' s (kept.filter (fun p => decide (p.1 < t)) ++ [(t, st)]) av → Q .non H') : sp_Store_keep K C [.ref s, .int t, .ref sr] H Q E := by
  obtain ⟨dx, P, w, S, rs, sA, hav⟩ := h.ex
  refine ⟨s, dx, P, w, S, rs, kept, n, t, sr, st, rfl, sA, ko, hsr, l, fun H1 sto => ?_⟩
  rw [take_cnt ko] at sto
  obtain ⟨hst1, g1⟩ := StL.step sA hav d ha ex sto
  exact q _ g1 hst1
theorem StL.drop {K : PySem.W.Frag} {C : Addr} {H : Hp} {s p a : Addr} {kept : KS} {av : List Addr} {n : Nat} {t : Int} {Q : VK} {E : XK} (h : StL K C H s kept av) (ko : KeptOk n kept) (d : DrawAt H p a) (ha : a ∈ av) (ex : ∀ x ∈ av, ∃ o, H x = some o)
    (q : ∀ H', Go av p a H H' → StL K C H' s (kept.filter (fun p => decide (p.1 ≠ t))) av → Q .non H') : sp_Store_drop K C [.ref s, .int t] H Q E := by
  obtain ⟨dx, P, w, S, rs, sA, hav⟩ := h.ex
  refine ⟨s, dx, P, w, S, rs, kept, n, t, rfl, sA, ko, fun H1 sto => ?_⟩
  unfold without at sto
  obtain ⟨hst1, g1⟩ := StL.step sA hav d ha ex sto
  exact q _ g1 hst1
theorem StL.drop_from {K : PySem.W.Frag} {C : Addr} {H : Hp} {s p a : Addr} {kept : KS} {av : List Addr} {n : Nat} {t : Int} {Q : VK} {E : XK} (h : StL K C H s kept av) (ko : KeptOk n kept) (d : DrawAt H p a) (ha : a ∈ av) (ex : ∀ x ∈ av, ∃ o, H x = some o)
    (q : ∀ H', Go av p a H H' → StL K C H' s (kept.filter (fun p => decide (p.1 < t))) av → Q .non H') : sp_Store_drop_from K C [.ref s, .int t] H Q E := by
  obtain ⟨dx, P, w, S, rs, sA, hav⟩ := h.ex
  refine ⟨s, dx, P, w, S, rs, kept, t, rfl, sA, keptLen ko, fun H1 sto => ?_⟩
  rw [take_cnt ko] at sto
  obtain ⟨hst1, g1⟩ := StL.step sA hav d ha ex sto
  exact q _ g1 hst1
theorem hex_of {av : List Addr} {H H' : Hp} (al : ∀ b, H' b = none → H b = none) (h : ∀ x ∈ av, ∃ o, H x = some o) : ∀ x ∈ av, ∃ o, H' x = some o := fun x hx => by
  cases e : H' x with
  | some o => exact ⟨o, rfl⟩
  | none =>
    obtain ⟨o, ho⟩ := h x hx
    rw [al x e] at ho; cases ho
def sp__law_with (K : PySem.W.Frag) : Sp := fun vs H Q _ => ∃ (L sr : Addr) (kept : KS) (n : Nat) (t : Int) (st : List Int), vs = [.ref L, .int t, .ref sr] ∧ LD K H L (kept.map kD) ∧ KeptOk n kept ∧ SqT K H sr (st.map V.int) ∧ ∀ L' H', Same H H' → H L' = none → LD K H' L' ((kept.filter (fun p => decide (p.1 < t)) ++ [(t, st)]).map kD) → Q (.ref L') H'
theorem ok__law_with {P : Program} {w : World} {K : PySem.W.Frag} {mg : Str → Option Value} {base : Heap} {C_Store : Addr} {C_NoState : Addr} {f : Addr} {fd : FuncData} (F : Df K mg "_law_with" s__law_with f fd ["kept", "tick", "state"]) (T : Txt K mg C_Store C_NoState) : FnOk P w K mg base CX0 1 f fd ["kept", "tick", "state"] (sp__law_with K) := by
  refine F.ok sc__law_with (fun vs H Q E h => ?_) (fun cdv A outer s H vs Q E hr h => ?_)
  · obtain ⟨L, sr, kept, n, t, st, rfl, _⟩ := h
    rfl
  · obtain ⟨L, sr, kept, n, t, st, rfl, ⟨us, hL1, hT1⟩, ko, hsr, q⟩ := h
    have lus : us.length = kept.length := by rw [hT1.len, List.length_map]
    have k25 := keptLen25 ko
    refine ⟨_, (pss_one (ps_ret (pe_op op_cat (pe_lc (own := [("pair", 3)]) (g := gName 3) rfl sc__law_with.nd (pi_list (pv 0)) (blkOk_by (own := [("pair", 3)]) (N := N__law_with) (sc := defScope s__law_with) (by decide +kernel)) (fun _ _ _ _ _ => (pg_name (i := 3) sc__law_with.nd rfl (Or.inl rfl))) (fun _ _ _ _ _ => pts_one (pt_cmpR op_lt (pe_ix (r := rIxT K) ix_tup (pv 3) pe_int (fun _ _ => rfl)) (pv 1) (nomark _))) (fun _ _ _ _ _ => (pv 3))) (pe_lst (pa_cons (pe_tup (pa_cons (pv 1) (pa_cons (pv 2) pa_nil))) pa_nil))))), ?_⟩
    try dsimp only [cxOf, Cx.nox, Cx.wish]
    refine st_of (σ' := [some _, some _, some _, none]) rfl ?_
    wtm_at "jw"
    intro D hD
    refine l_list (xs := us) (fun i H2 => Same H H2 ∧ ∃ us', H2 D = some (.lst us') ∧ TDs K H2 us' (((kept.take i).filter (fun p => decide (p.1 < t))).map kD)) ⟨same_new hD, [], upd_same, .nil⟩ (fun i H2 _ h => h.1.seq (SqL.of hL1)) (fun i y H2 hi h => ?_) (fun H2 h => ?_)
    · obtain ⟨s2, us', hD2, hT2⟩ := h
      obtain ⟨dd, hd, ty, htk, hlt⟩ := (hT1.same s2).at hi
      rw [List.getElem?_map] at hd
      obtain ⟨z, hz, rfl⟩ := Option.map_eq_some_iff.mp hd
      have hzk := List.take_add_one (l := kept) (i := i)
      rw [hz] at hzk
      obtain ⟨ya, yb, rfl, yS, yT⟩ := TD.k_inv ty
      have lus' : us'.length ≤ 25 := by
        have h1 := hT2.len
        rw [List.length_map] at h1
        have h2 := List.length_filter_le (fun p => decide (p.1 < t)) (kept.take i)
        rw [List.length_take] at h2
        omega
      wtm_at "jw"
      refine ⟨rfl, ?_⟩
      wtm_at "jw"
      refine c_dec (fun hc => ?_) (fun hc => ?_)
      · wtm_at "jw"
        refine ⟨us', hD2, small1000 (by omega), put_same s2 hD, us' ++ [.ref ya], upd_same, ?_⟩
        rw [hzk, List.filter_append, List.map_append]
        have e : [z].filter (fun p => decide (p.1 < t)) = [z] := by simp [hc]
        rw [show (some z).toList = [z] from rfl, e]
        exact (hT2.snoc ty).tps (tps_put hD2)
      · refine ⟨s2, us', hD2, ?_⟩
        rw [hzk, List.filter_append]
        have e : [z].filter (fun p => decide (p.1 < t)) = [] := by simp [hc]
        rw [show (some z).toList = [z] from rfl, e, List.append_nil]
        exact hT2
    · obtain ⟨s2, us', hD2, hT2⟩ := h
      rw [hT1.len, List.length_map, List.take_length] at hT2
      wtm_at "jw"
      intro T0 hT0
      have s3 := same_new (o := .tup [V.int t, .ref sr]) hT0
      have tT : TD K (upd H2 T0 (.tup [V.int t, .ref sr])) (.ref T0) (kD (t, st)) := .of upd_same (.cons (.int _) (.cons (.tup (Same.tup s3 (Same.tup s2 hsr)) (TDs.ints _)) .nil))
      have hT3 := hT2.same s3
      have hD3 := s3 _ _ hD2
      have s13 : Same H (upd H2 T0 (.tup [V.int t, .ref sr])) := fun b o hb => s3 _ _ (s2 _ _ hb)
      generalize upd H2 T0 (.tup [V.int t, .ref sr]) = H3 at s13 tT hT3 hD3 ⊢
      wtm_at "jw"
      intro L2 hL2
      have s4 := same_new (o := .lst [V.ref T0]) hL2
      have h4 : upd H3 L2 (.lst [V.ref T0]) L2 = some (.lst [V.ref T0]) := upd_same
      have hD4 := s4 _ _ hD3
      have hT4 := hT3.same s4
      have tT4 := tT.same s4
      have s14 : Same H (upd H3 L2 (.lst [V.ref T0])) := fun b o hb => s4 _ _ (s13 _ _ hb)
      generalize upd H3 L2 (.lst [V.ref T0]) = H4 at h4 hD4 hT4 tT4 s14 ⊢
      have lus' : us'.length ≤ 25 := by
        have h1 := hT4.len
        rw [List.length_map] at h1
        have h2 := List.length_filter_le (fun p : Int × List Int => decide (p.1 < t)) kept
        omega
      refine i_cat' hD4 h4 (by show us'.length + 1 ≤ _; omega) fun L3 H5 s5 n5 h5 => ?_
      have s15 : Same H H5 := fun b o hb => s5 _ _ (s14 _ _ hb)
      exact q L3 H5 s15 (same_free s14 n5) ⟨_, h5, by rw [List.map_append]; exact (hT4.same s5).app (.cons (tT4.same s5) .nil)⟩
def sp__law_done (K : PySem.W.Frag) (C_Store : Addr) : Sp := fun vs H Q _ => ∃ (p a s k L : Addr) (ks : List V) (kept : KS) (n : Nat) (av : List Addr), vs = [.ref p, .ref s, .ref k, .ref L] ∧ DrawAt H p a ∧ StL K C_Store H s kept av ∧ a ∈ av ∧ k ∈ av ∧ L ∈ av ∧ k ≠ p ∧ L ≠ p ∧ (∀ x ∈ av, ∃ o, H x = some o) ∧
  H k = some (.lst ks) ∧ Strs ks ∧ ks.length = n ∧ 0 < n ∧ LD K H L (kept.map kD) ∧ KeptOk n kept ∧ ∀ (L' : Addr) (kept' : KS) H', Go av p a H H' → H L' = none → LD K H' L' (kept'.map kD) → KeptOk n kept' → StL K C_Store H' s kept' (L' :: av) → Q (.ref L') H'
theorem ok__law_done {P : Program} {w : World} {K : PySem.W.Frag} {mg : Str → Option Value} {base : Heap} {C_Store : Addr} {C_NoState : Addr} {f : Addr} {fd : FuncData} (F : Df K mg "_law_done" s__law_done f fd ["d", "store", "kinds", "kept"]) (T : Txt K mg C_Store C_NoState)
    (c_Store_drop_from : Mt P w K mg base 2 C_Store "drop_from" (sp_Store_drop_from K C_Store))
    (c__law_draw : Cl P w K mg base 1 "_law_draw" (sp__law_draw K))
    (c_Store_keep : Mt P w K mg base 3 C_Store "keep" (sp_Store_keep K C_Store))
    (c__law_some_tick : Cl P w K mg base 3 "_law_some_tick" (sp__law_some_tick K))
    (c_Store_drop : Mt P w K mg base 4 C_Store "drop" (sp_Store_drop K C_Store))
    (c__law_next_tick : Cl P w K mg base 4 "_law_next_tick" (sp__law_next_tick K))
    (c__law_next_state : Cl P w K mg base 5 "_law_next_state" (sp__law_next_state K))
    (c__law_with : Cl P w K mg base 1 "_law_with" (sp__law_with K))
    (c__law_pick : Cl P w K mg base 2 "_law_pick" (sp__law_pick K))
    (c_Store_state_at : Mtx P w K mg base 3 C_Store "state_at" (sp_Store_state_at K C_Store C_NoState)) : FnOk P w K mg base CX0 6 f fd ["d", "store", "kinds", "kept"] (sp__law_done K C_Store) := by
  refine F.ok sc__law_done (fun vs H Q E h => ?_) (fun cdv A outer s H vs Q E hr h => ?_)
  · obtain ⟨p, a, s, k, L, ks, kept, n, av, rfl, _⟩ := h
    rfl
  · obtain ⟨p, a, s, k, L, ks, kept, n, av, rfl, d0, hst, ha, hka, hLa, nk, nL, hex, hk, sk, lks, n0, hLD, ko, q⟩ := h
    have k25 := keptLen25 ko
    refine ⟨_, (pss_cons (ps_set (i := 4) sc__law_done.nd rfl (Or.inl rfl) (pe_cl c__law_draw hr (by decide) rfl (pa_cons (pv 0) (pa_cons pe_int pa_nil))))
      (pss_cons (ps_if (pt_cmpR op_lt (pv 4) pe_int (nomark _)) (pss_cons (ps_set (i := 5) sc__law_done.nd rfl (Or.inr rfl) (pe_cl c__law_next_tick hr (by decide) rfl (pa_cons (pv 0) (pa_cons (pv 3) pa_nil))))
      (pss_cons (ps_set (i := 6) sc__law_done.nd rfl (Or.inl rfl) (pe_cl c__law_next_state hr (by decide) rfl (pa_cons (pv 0) (pa_cons (pv 2) (pa_cons (pv 3) pa_nil)))))
      (pss_cons (ps_expr (pe_mtc c_Store_keep T.cl_Store hr (by decide) (pv 1) (pa_cons (pv 5) (pa_cons (pv 6) pa_nil))))
      (pss_one (ps_ret (pe_cl c__law_with hr (by decide) rfl (pa_cons (pv 3) (pa_cons (pv 5) (pa_cons (pv 6) pa_nil))))))))) pss_nil)
      (pss_cons (ps_if (PW.pt (pw_and (pt_cmpR op_eq (pv 4) pe_int (nomark _)) (pw_and1 (pt_cmpR op_gt (pe_callB (id := "len") (r := qLen K) c_len (by rfl) T.b_len (by decide +kernel) (pa_cons (pv 3) pa_nil)) pe_int (nomark _))))) (pss_cons (ps_set (i := 5) sc__law_done.nd rfl (Or.inr rfl) (pe_cl c__law_next_tick hr (by decide) rfl (pa_cons (pv 0) (pa_cons (pv 3) pa_nil))))
      (pss_cons (ps_set (i := 7) sc__law_done.nd rfl (Or.inl rfl) (pe_cl c__law_pick hr (by decide) rfl (pa_cons (pv 0) (pa_cons (pv 3) pa_nil))))
      (pss_cons (ps_expr (pe_mtc c_Store_keep T.cl_Store hr (by decide) (pv 1) (pa_cons (pv 5) (pa_cons (pe_mtx c_Store_state_at T.cl_Store hr (by decide) (pv 1) (pa_cons (pe_ix (r := rIxT K) ix_tup (pv 7) pe_int (fun _ _ => rfl)) pa_nil)) pa_nil))))
      (pss_one (ps_ret (pe_cl c__law_with hr (by decide) rfl (pa_cons (pv 3) (pa_cons (pv 5) (pa_cons (pe_ix (r := rIxT K) ix_tup (pv 7) pe_int (fun _ _ => rfl)) pa_nil))))))))) pss_nil)
      (pss_cons (ps_set (i := 5) sc__law_done.nd rfl (Or.inr rfl) (pe_cl c__law_some_tick hr (by decide) rfl (pa_cons (pv 0) (pa_cons (pv 3) pa_nil))))
      (pss_cons (ps_if (pt_cmpR op_lt (pv 4) pe_int (nomark _)) (pss_cons (ps_expr (pe_mtc c_Store_drop T.cl_Store hr (by decide) (pv 1) (pa_cons (pv 5) pa_nil)))
      (pss_one (ps_ret (pe_lc (own := [("pair", 7)]) (g := gName 7) rfl sc__law_done.nd (pi_list (pv 3)) (blkOk_by (own := [("pair", 7)]) (N := N__law_done) (sc := defScope s__law_done) (by decide +kernel)) (fun _ _ _ _ _ => (pg_name (i := 7) sc__law_done.nd rfl (Or.inl rfl))) (fun _ _ _ _ _ => pts_one (pt_cmpR op_ne (pe_ix (r := rIxT K) ix_tup (pv 7) pe_int (fun _ _ => rfl)) (pv 5) (nomark _))) (fun _ _ _ _ _ => (pv 7)))))) pss_nil)
      (pss_cons (ps_expr (pe_mtc c_Store_drop_from T.cl_Store hr (by decide) (pv 1) (pa_cons (pv 5) pa_nil)))
      (pss_one (ps_ret (pe_lc (own := [("pair", 7)]) (g := gName 7) rfl sc__law_done.nd (pi_list (pv 3)) (blkOk_by (own := [("pair", 7)]) (N := N__law_done) (sc := defScope s__law_done) (by decide +kernel)) (fun _ _ _ _ _ => (pg_name (i := 7) sc__law_done.nd rfl (Or.inl rfl))) (fun _ _ _ _ _ => pts_one (pt_cmpR op_lt (pe_ix (r := rIxT K) ix_tup (pv 7) pe_int (fun _ _ => rfl)) (pv 5) (nomark _))) (fun _ _ _ _ _ => (pv 7))))))))))), ?_⟩
    try dsimp only [cxOf, Cx.nox, Cx.wish]
    refine st_of (σ' := [some _, some _, some _, some _, none, none, none, none]) rfl ?_
    have fin : ∀ (H1 H2 : Hp) (kept2 : KS) (L2 : Addr), Go av p a H H1 → StL K C_Store H1 s kept2 av → KeptOk n kept2 → Same H1 H2 → H1 L2 = none → LD K H2 L2 (kept2.map kD) → Q (.ref L2) H2 := fun H1 H2 kept2 L2 g1 hst1 ok s1 n1 l1 =>
      q L2 kept2 H2 (g1.trans (same_go s1 g1.d)) (g1.al _ n1) l1 ok ((hst1.add n1).same s1)
    wtm_at "jw"
    refine drawL d0.drew (by omega) (by omega) fun z H0 z0 z1 e0 w0 => ?_
    have hst0 := hst.drew d0 w0
    have hLD0 := hLD.drew d0 w0 nL
    have hk0 := w0.kp _ _ hk nk
    have hex0 := hex_of w0.al hex
    have g0 : Go av p a H H0 := w0.go d0
    wtm_at "jw"
    refine c_dec (fun hw => ?_) (fun hw => ?_)
    · wtm_at "jw"
      refine ⟨p, a, L, kept, n, rfl, w0.at_, nL, hLD0, ko, fun t H1 w1 t0 t1 => ?_⟩
      have hLD1 := hLD0.drew w0.at_ w1 nL
      wtm_at "jw"
      refine ⟨p, a, k, L, ks, kept, n, rfl, w1.at_, w1.kp _ _ hk0 nk, nk, sk, lks, n0, nL, hLD1, ko, fun sr st H2 w2 h2 l2 => ?_⟩
      have w02 := w1.trans w2
      have hst2 := hst0.drew w0.at_ w02
      have g2 := g0.trans (w02.go w0.at_)
      wtm_at "jw"
      refine hst2.m ?_
      wtm_at "jw"
      refine hst2.keep ko h2 l2 w2.at_ ha (hex_of w02.al hex0) fun H3 g3 hst3 => ?_
      have h3 := g3.t.sq h2
      have hLD3 := (hLD1.drew w1.at_ w2 nL).go g3 hLa nL
      wtm_at "jw"
      exact ⟨L, sr, kept, n, t, st, rfl, hLD3, ko, h3, fun L' H4 s4 n4 l4 => fin _ _ _ _ (g2.trans g3) hst3 (ko.snoc ⟨t0, t1⟩ l2) s4 n4 l4⟩
    · wtm_at "js"
      refine i_ifC (fun σ' H2 => H2 = H0 ∧ σ' = [some (.ref p), some (.ref s), some (.ref k), some (.ref L), some (.int z), none, none, none]) (fun σ' H2 h => ?_) (fun N hN => ?_)
      · obtain ⟨rfl, rfl⟩ := h
        wtm_at "jw"
        refine ⟨p, a, L, kept, n, rfl, w0.at_, nL, hLD0, ko, fun t H1 w1 t0 t1 => ?_⟩
        have hLDa := hLD0.drew w0.at_ w1 nL
        obtain ⟨us, hL1, hT1⟩ := id hLDa
        have hst1 := hst0.drew w0.at_ w1
        have g1 := g0.trans (w1.go w0.at_)
        have hex1 := hex_of w1.al hex0
        have lus : us.length = kept.length := by rw [hT1.len, List.length_map]
        wtm_at "jw"
        refine c_dec (fun hw2 => ?_) (fun hw2 => ?_)
        · wtm_at "jw"
          refine hst1.m ?_
          wtm_at "jw"
          refine hst1.drop ko w1.at_ ha hex1 fun H3 g3 hst3 => ?_
          obtain ⟨us, hL1, hT1⟩ := hLDa.go g3 hLa nL
          have lus : us.length = kept.length := by rw [hT1.len, List.length_map]
          wtm_at "jw"
          intro D hD
          refine l_list (xs := us) (fun i H2 => Same H3 H2 ∧ ∃ us', H2 D = some (.lst us') ∧ TDs K H2 us' (((kept.take i).filter (fun p => decide (p.1 ≠ t))).map kD)) ⟨same_new hD, [], upd_same, .nil⟩ (fun i H2 _ h => h.1.seq (SqL.of hL1)) (fun i y H2 hi h => ?_) (fun H2 h => ?_)
          · obtain ⟨s2, us', hD2, hT2⟩ := h
            obtain ⟨dd, hd, ty, htk, hlt⟩ := (hT1.same s2).at hi
            rw [List.getElem?_map] at hd
            obtain ⟨z, hz, rfl⟩ := Option.map_eq_some_iff.mp hd
            have hzk := List.take_add_one (l := kept) (i := i)
            rw [hz] at hzk
            obtain ⟨ya, yb, rfl, yS, yT⟩ := TD.k_inv ty
            have lus' : us'.length ≤ 25 := by
              have h1 := hT2.len
              rw [List.length_map] at h1
              have h2 := List.length_filter_le (fun p => decide (p.1 ≠ t)) (kept.take i)
              rw [List.length_take] at h2
              omega
            wtm_at "jw"
            refine ⟨rfl, ?_⟩
            wtm_at "jw"
            refine c_decN (fun hc => ?_) (fun hc => ?_)
            · wtm_at "jw"
              refine ⟨us', hD2, small1000 (by omega), put_same s2 hD, us' ++ [.ref ya], upd_same, ?_⟩
              rw [hzk, List.filter_append, List.map_append]
              have e : [z].filter (fun p => decide (p.1 ≠ t)) = [z] := by simp [hc]
              rw [show (some z).toList = [z] from rfl, e]
              exact (hT2.snoc ty).tps (tps_put hD2)
            · refine ⟨s2, us', hD2, ?_⟩
              rw [hzk, List.filter_append]
              have e : [z].filter (fun p => decide (p.1 ≠ t)) = [] := by simp [hc]
              rw [show (some z).toList = [z] from rfl, e, List.append_nil]
              exact hT2
          · obtain ⟨s2, us', hD2, hT2⟩ := h
            rw [hT1.len, List.length_map, List.take_length] at hT2
            wtm_at "jw"
            exact fin _ _ _ _ (g1.trans g3) hst3 (ko.filter _) s2 hD ⟨us', hD2, hT2⟩
          
        · wtm_at "jw"
          refine hst1.m ?_
          wtm_at "jw"
          refine hst1.drop_from ko w1.at_ ha hex1 fun H3 g3 hst3 => ?_
          obtain ⟨us, hL1, hT1⟩ := hLDa.go g3 hLa nL
          have lus : us.length = kept.length := by rw [hT1.len, List.length_map]
          wtm_at "jw"
          intro D hD
          refine l_list (xs := us) (fun i H2 => Same H3 H2 ∧ ∃ us', H2 D = some (.lst us') ∧ TDs K H2 us' (((kept.take i).filter (fun p => decide (p.1 < t))).map kD)) ⟨same_new hD, [], upd_same, .nil⟩ (fun i H2 _ h => h.1.seq (SqL.of hL1)) (fun i y H2 hi h => ?_) (fun H2 h => ?_)
          · obtain ⟨s2, us', hD2, hT2⟩ := h
            obtain ⟨dd, hd, ty, htk, hlt⟩ := (hT1.same s2).at hi
            rw [List.getElem?_map] at hd
            obtain ⟨z, hz, rfl⟩ := Option.map_eq_some_iff.mp hd
            have hzk := List.take_add_one (l := kept) (i := i)
            rw [hz] at hzk
            obtain ⟨ya, yb, rfl, yS, yT⟩ := TD.k_inv ty
            have lus' : us'.length ≤ 25 := by
              have h1 := hT2.len
              rw [List.length_map] at h1
              have h2 := List.length_filter_le (fun p => decide (p.1 < t)) (kept.take i)
              rw [List.length_take] at h2
              omega
            wtm_at "jw"
            refine ⟨rfl, ?_⟩
            wtm_at "jw"
            refine c_dec (fun hc => ?_) (fun hc => ?_)
            · wtm_at "jw"
              refine ⟨us', hD2, small1000 (by omega), put_same s2 hD, us' ++ [.ref ya], upd_same, ?_⟩
              rw [hzk, List.filter_append, List.map_append]
              have e : [z].filter (fun p => decide (p.1 < t)) = [z] := by simp [hc]
              rw [show (some z).toList = [z] from rfl, e]
              exact (hT2.snoc ty).tps (tps_put hD2)
            · refine ⟨s2, us', hD2, ?_⟩
              rw [hzk, List.filter_append]
              have e : [z].filter (fun p => decide (p.1 < t)) = [] := by simp [hc]
              rw [show (some z).toList = [z] from rfl, e, List.append_nil]
              exact hT2
          · obtain ⟨s2, us', hD2, hT2⟩ := h
            rw [hT1.len, List.length_map, List.take_length] at hT2
            wtm_at "jw"
            exact fin _ _ _ _ (g1.trans g3) hst3 (ko.filter _) s2 hD ⟨us', hD2, hT2⟩
          
      · wtm_at "jw"
        refine c_dec (fun h1 => ?_) (fun h1 => ?_)
        · wtm_at "jw"
          refine c_dec (fun h2 => ?_) (fun h2 => ?_)
          · rw [List.length_map] at h2
            wtm_at "jw"
            refine ⟨p, a, L, kept, n, rfl, w0.at_, nL, hLD0, ko, fun t H1 w1 t0 t1 => ?_⟩
            have hLDa := hLD0.drew w0.at_ w1 nL
            obtain ⟨us, hL1, hT1⟩ := id hLDa
            have lus : us.length = kept.length := by rw [hT1.len, List.length_map]
            wtm_at "jw"
            refine pickS (E := E0) w1.at_.drew hL1 nL (by omega) (by omega) fun v H2 hv _ w2 => ?_
            obtain ⟨dd, hd, hv2⟩ := (hT1.tps (w2.tps w1.at_)).mem hv
            obtain ⟨u, hu, rfl⟩ := List.mem_map.mp hd
            obtain ⟨x, y, rfl, hx, hy⟩ := TD.k_inv hv2
            have lu := ko.len u hu
            have hLD2 : LD K H2 L (kept.map kD) := hLDa.drew w1.at_ w2 nL
            clear hv2 hT1
            have w02 := w1.trans w2
            have hst2 := hst0.drew w0.at_ w02
            have g2 := g0.trans (w02.go w0.at_)
            wtm_at "jw"
            refine hst2.m ?_
            wtm_at "jw"
            refine hst2.m ?_
            wtm_at "jw"
            refine hst2.at_ ko hu fun sr H3 s3 h3 => ?_
            have d3 := w2.at_.same s3
            wtm_at "jw"
            refine (hst2.same s3).keep ko h3 lu d3 ha (hex_of (fun b => same_free s3) (hex_of w02.al hex0)) fun H4 g4 hst4 => ?_
            have hx4 := g4.t.sq (Same.tup s3 hx)
            have hy4 := g4.t.sq (Same.tup s3 hy)
            have hLD4 := (hLD2.same s3).go g4 hLa nL
            wtm_at "jw"
            exact ⟨L, y, kept, n, t, u.2, rfl, hLD4, ko, hy4, fun L' H5 s5 n5 l5 => fin _ _ _ _ ((g2.trans (same_go s3 w2.at_)).trans g4) hst4 (ko.snoc ⟨t0, t1⟩ lu) s5 n5 l5⟩
          · wtm_at "jw"
            exact hN _ _ ⟨rfl, rfl⟩
        · wtm_at "jw"
          exact hN _ _ ⟨rfl, rfl⟩


def sp__law_is_missing (K : PySem.W.Frag) (C_Store : Addr) : Sp := fun vs H Q _ => ∃ (s : Addr) (kept : KS) (av : List Addr) (n : Nat) (t : Int), vs = [.ref s, .int t] ∧ StL K C_Store H s kept av ∧ KeptOk n kept ∧ t ∉ tks kept ∧ ∀ H', Same H H' → Q (.bl true) H'
theorem ok__law_is_missing {P : Program} {w : World} {K : PySem.W.Frag} {mg : Str → Option Value} {base : Heap} {C_Store : Addr} {C_NoState : Addr} {f : Addr} {fd : FuncData} (F : Df K mg "_law_is_missing" s__law_is_missing f fd ["store", "tick"]) (T : Txt K mg C_Store C_NoState)
    (c_Store_state_at : Mtx P w K mg base 3 C_Store "state_at" (sp_Store_state_at K C_Store C_NoState))
    (c_Store_has : Mt P w K mg base 1 C_Store "has" (sp_Store_has K C_Store))
    (h_Store_has : MtH P w K mg base 1 C_Store "has" (sp_Store_has K C_Store)) : FnOk P w K mg base CX0 4 f fd ["store", "tick"] (sp__law_is_missing K C_Store) := by
  refine F.ok sc__law_is_missing (fun vs H Q E h => ?_) (fun cdv A outer s H vs Q E hr h => ?_)
  · obtain ⟨s, kept, av, n, t, rfl, _⟩ := h
    rfl
  · obtain ⟨s, kept, av, n, t, rfl, hst, ko, hno, q⟩ := h
    refine ⟨_, (pss_cons (ps_tryJ (i := 2) rfl rfl sc__law_is_missing.nd rfl rfl ⟨rfl, by decide, .inl T.mg_NoState⟩ (fun W pn xe tk _ => (pss_one (ps_expr (pe_mtxS c_Store_state_at T.cl_Store tk hr (by decide) (pv 0) (pa_cons (pv 1) pa_nil))))) (fun a oe cls d pn hz hf => (pss_one (ps_ret (pe_and (pe_cmpR op_eq (pe_xfJ hz hf (pv 2)) (pv 1) (nomark _)) (pe_one (pe_cmpR o_isB (pe_mth h_Store_has T.cl_Store (roomH_mark (L2H.roomH_of hr)) (by decide) (pv 0) (pa_cons (pv 1) pa_nil)) pe_bl (nomark _))))))))
      (pss_one (ps_ret pe_bl))), ?_⟩
    try dsimp only [cxOf, Cx.nox, Cx.wish]
    refine st_of (σ' := [some _, some _, none]) rfl ?_
    wtm_at "jw"
    refine hst.m ?_
    obtain ⟨dx, P, w, S, rs, sA, hav⟩ := hst.ex
    wtm_at "jw"
    refine ⟨s, dx, P, w, S, rs, kept, n, t, rfl, sA, ko, .inr ⟨hno, fun dd H1 s1 hd => ?_⟩⟩
    refine caught T.xc_NoState.exm fun a ha => ?_
    dsimp only
    wtm_at "jw"
    refine i_xf T.xc_NoState.xf T.nf_NoState_tick ?_
    wtm_at "jw"
    refine ⟨rfl, rfl, dd, _, _, rfl, hd, rfl, ?_⟩
    wtm_at "jw"
    refine c_yes rfl ?_
    wtm_at "jw"
    refine (hst.same s1).m ?_
    wtm_at "jw"
    refine (hst.same s1).has ?_
    rw [decide_eq_false hno]
    wtm_at "jw"
    rw [decide_eq_true (rfl : false = false)]
    exact q _ s1
def sp__law_is_all (K : PySem.W.Frag) (C_Store : Addr) : Sp := fun vs H Q _ => ∃ (s L : Addr) (kept : KS) (av : List Addr) (n : Nat), vs = [.ref s, .ref L] ∧ StL K C_Store H s kept av ∧ LD K H L (kept.map kD) ∧ KeptOk n kept ∧ ∀ H', Same H H' → Q (.bl true) H'
theorem ok__law_is_all {P : Program} {w : World} {K : PySem.W.Frag} {mg : Str → Option Value} {base : Heap} {C_Store : Addr} {C_NoState : Addr} {f : Addr} {fd : FuncData} (F : Df K mg "_law_is_all" s__law_is_all f fd ["store", "kept"]) (T : Txt K mg C_Store C_NoState)
    (c_Store_ticks : Mt P w K mg base 1 C_Store "ticks" (sp_Store_ticks K C_Store))
    (c_Store_size : Mt P w K mg base 1 C_Store "size" (sp_Store_size K C_Store))
    (c_Store_state_at : Mtx P w K mg base 3 C_Store "state_at" (sp_Store_state_at K C_Store C_NoState))
    (c__law_is_ints : Cl P w K mg base 2 "_law_is_ints" (sp__law_is_ints K))
    (c__law_is_int : Cl P w K mg base 1 "_law_is_int" (sp__law_is_int K))
    (c__law_size : Cl P w K mg base 1 "_law_size" (sp__law_size K))
    (c_Store_has : Mt P w K mg base 1 C_Store "has" (sp_Store_has K C_Store))
    (c__law_is_missing : Cl P w K mg base 4 "_law_is_missing" (sp__law_is_missing K C_Store)) : FnOk P w K mg base CX0 5 f fd ["store", "kept"] (sp__law_is_all K C_Store) := by
  refine F.ok sc__law_is_all (fun vs H Q E h => ?_) (fun cdv A outer s H vs Q E hr h => ?_)
  · obtain ⟨s, L, kept, av, n, rfl, _⟩ := h
    rfl
  · obtain ⟨s, L, kept, av, n, rfl, hst, hLD, ko, q⟩ := h
    have k25 := keptLen25 ko
    refine ⟨_, (pss_cons (ps_set (i := 2) sc__law_is_all.nd rfl (Or.inl rfl) (pe_mtc0 c_Store_ticks T.cl_Store hr (by decide) (pv 0)))
      (pss_cons (ps_if (PW.pt (pw_or (pt_not (pt_val (pe_cl c__law_is_ints hr (by decide) rfl (pa_cons (pv 2) pa_nil)))) (pw_or1 (pt_cmpR (r := rNeD K) (op_neD hr.units) (pv 2) (pe_callTy (T := "tuple") (r := rTupOf K) c_tup (by rfl) T.b_tuple (by decide +kernel) (pa_cons (pe_lc (own := [("pair", 3)]) (g := gName 3) (tt := tYes) rfl sc__law_is_all.nd (pi_list (pv 1)) (blkOk_by (own := [("pair", 3)]) (N := N__law_is_all) (sc := defScope s__law_is_all) (by decide +kernel)) (fun _ _ _ _ _ => (pg_name (i := 3) sc__law_is_all.nd rfl (Or.inl rfl))) (fun _ _ _ _ _ => pts_nil) (fun _ _ _ _ _ => (pe_ix (r := rIxT K) ix_tup (pv 3) pe_int (fun _ _ => rfl)))) pa_nil)) (nomark _))))) (pss_one (ps_ret pe_bl)) pss_nil)
      (pss_cons (ps_set (i := 4) sc__law_is_all.nd rfl (Or.inl rfl) (pe_mtc0 c_Store_size T.cl_Store hr (by decide) (pv 0)))
      (pss_cons (ps_if (PW.pt (pw_or (pt_not (pt_val (pe_cl c__law_is_int hr (by decide) rfl (pa_cons (pv 4) pa_nil)))) (pw_or1 (pt_cmpR op_ne (pv 4) (pe_cl c__law_size hr (by decide) rfl (pa_cons (pv 1) pa_nil)) (nomark _))))) (pss_one (ps_ret pe_bl)) pss_nil)
      (pss_cons (ps_for PassesOwn.never rfl (pi_list (pv 1)) (pg_tupK (K := K) rfl rfl (pgs_cons (pg_name (i := 5) sc__law_is_all.nd rfl (Or.inl rfl)) (pgs_cons (pg_name (i := 6) sc__law_is_all.nd rfl (Or.inl rfl)) pgs_nil))) (pss_cons (ps_set (i := 7) sc__law_is_all.nd rfl (Or.inl rfl) (pe_mtx c_Store_state_at T.cl_Store hr (by decide) (pv 0) (pa_cons (pv 5) pa_nil)))
      (pss_one (ps_if (PW.pt (pw_or (pt_not (pt_val (pe_cl c__law_is_ints hr (by decide) rfl (pa_cons (pv 7) pa_nil)))) (pw_or (pt_cmpR (r := rNeD K) (op_neD hr.units) (pv 7) (pv 6) (nomark _)) (pw_or1 (pt_cmpR o_notB (pe_mtc c_Store_has T.cl_Store hr (by decide) (pv 0) (pa_cons (pv 5) pa_nil)) pe_bl (nomark _)))))) (pss_one (ps_ret pe_bl)) pss_nil))))
      (pss_cons (ps_for PassesOwn.never rfl (pi_range1 rfl T.b_range (pa_cons pe_int pa_nil)) (pg_name (i := 5) sc__law_is_all.nd rfl (Or.inl rfl)) (pss_one (ps_if (PW.pt (pw_and (pt_cmpR (r := rIn K true) op_notIn_seq (pv 5) (pv 2) rfl) (pw_and1 (pt_not (pt_val (pe_cl c__law_is_missing hr (by decide) rfl (pa_cons (pv 0) (pa_cons (pv 5) pa_nil)))))))) (pss_one (ps_ret pe_bl)) pss_nil)))
      (pss_one (ps_ret pe_bl)))))))), ?_⟩
    try dsimp only [cxOf, Cx.nox, Cx.wish]
    refine st_of (σ' := [some _, some _, none, none, none, none, none, none]) rfl ?_
    wtm_at "jw"
    refine hst.m ?_
    wtm_at "jw"
    obtain ⟨dx, P, w, S, rs, sA, _⟩ := hst.ex
    refine ⟨s, dx, P, w, S, rs, kept, rfl, sA, fun r H1 s1 n1 h1 => ?_⟩
    have lt : (tks kept).length = kept.length := tks_len kept
    have t1 : TD K H1 (.ref r) (.tuple ((tks kept).map PyData.int)) := .tup (SqT.of h1) (TDs.ints _)
    wtm_at "jw"
    refine ⟨_, tks kept, rfl, t1, by omega, fun H2 s2 => ?_⟩
    have s02 : Same H H2 := fun b o hb => s2 _ _ (s1 _ _ hb)
    obtain ⟨us, hL2, hT2⟩ := hLD.same s02
    have lus : us.length = kept.length := by rw [hT2.len, List.length_map]
    wtm_at "jw"
    intro D hD
    refine l_listP (xs := us) (fun i => .int (((tks kept)[i]?).getD 0)) hD (by omega) (SqL.of hL2) (fun i x H3 R hi s3 hR => ?_) (fun H3 s3 hD3 => ?_)
    · obtain ⟨dd, hd, ty, htk, hlt⟩ := (hT2.same s3).at hi
      rw [List.getElem?_map] at hd
      obtain ⟨z, hz, rfl⟩ := Option.map_eq_some_iff.mp hd
      obtain ⟨ya, yb, rfl, yS, yT⟩ := TD.k_inv ty
      rw [show (tks kept)[i]? = some z.1 from by unfold tks; rw [List.getElem?_map, hz]; rfl] at hR
      clear ty
      wtm_at "jw"
      refine ⟨rfl, ?_⟩
      wtm_at "jw"
      exact hR
    · have eD : (List.range us.length).map (fun i => V.int (((tks kept)[i]?).getD 0)) = (tks kept).map V.int := by
        rw [lus, ← lt]
        apply List.ext_getElem?
        intro i
        simp only [List.getElem?_map]
        by_cases h : i < (tks kept).length
        · rw [List.getElem?_range h, List.getElem?_eq_getElem h]
          simp only [Option.map_some]
          rw [List.getElem?_eq_getElem h]
          rfl
        · rw [List.getElem?_eq_none (by simpa using h), List.getElem?_eq_none (by simpa using h)]
          rfl
      rw [eD] at hD3
      have t3 := (t1.same s2).same s3
      wtm_at "jw"
      intro r2 hr2
      have s4 := same_new (o := .tup ((tks kept).map V.int)) hr2
      have t4 : TD K (upd H3 r2 (.tup ((tks kept).map V.int))) (.ref r2) (.tuple ((tks kept).map PyData.int)) := .tup (SqT.of upd_same) (TDs.ints _)
      refine i_neS' (t3.same s4).dp t4.dp (shp_ints _) (by decide) ?_
      have s04 : Same H (upd H3 r2 (.tup ((tks kept).map V.int))) := fun b o hb => s4 _ _ (s3 _ _ (s02 _ _ hb))
      have t5 : TD K (upd H3 r2 (.tup ((tks kept).map V.int))) (.ref r) (.tuple ((tks kept).map PyData.int)) := t3.same s4
      generalize upd H3 r2 (.tup ((tks kept).map V.int)) = H4 at s04 t5 ⊢
      wtm_at "jw"
      refine (hst.same s04).m ?_
      wtm_at "jw"
      obtain ⟨dx, P, w, S, rs, sA, _⟩ := (hst.same s04).ex
      refine ⟨s, dx, P, w, S, rs, kept, rfl, sA, by omega, fun H5 s5 => ?_⟩
      have s05 : Same H H5 := fun b o hb => s5 _ _ (s04 _ _ hb)
      wtm_at "jw"
      refine ⟨_, rfl, ?_⟩
      wtm_at "jw"
      refine ⟨L, kept, n, rfl, hLD.same s05, ko, fun H6 s6 => ?_⟩
      have s06 : Same H H6 := fun b o hb => s6 _ _ (s05 _ _ hb)
      have t6 := (t5.same s5).same s6
      wtm_at "jw"
      refine c_noN rfl ?_
      obtain ⟨ls, hLs, hLT⟩ := hLD.same s06
      wtm_at "jw"
      refine f_list (xs := ls) (fun i σ H7 => Same H6 H7 ∧ ∃ w5 w6 w7, σ = [some (.ref s), some (.ref L), some (.ref r), none, some (.int (sizeK kept)), w5, w6, w7]) ⟨fun _ _ h => h, none, none, none, rfl⟩ (fun i σ H7 _ h => h.1.seq (SqL.of hLs)) (fun i y σ H7 hi h => ?_) (fun σ H7 h => ?_)
      · obtain ⟨s7, _, _, _, rfl⟩ := h
        obtain ⟨dd, hd, ty, _, _⟩ := (hLT.same s7).at hi
        rw [List.getElem?_map] at hd
        obtain ⟨z, hz, rfl⟩ := Option.map_eq_some_iff.mp hd
        have hzm := List.mem_of_getElem? hz
        have lz := ko.len z hzm
        have hin : z.1 ∈ tks kept := List.mem_map_of_mem hzm
        have hnn := ko.nn
        obtain ⟨ya, yb, rfl, yS, yT⟩ := TD.k_inv ty
        clear ty
        have s07 : Same H H7 := fun b o hb => s7 _ _ (s06 _ _ hb)
        have hst7 := hst.same s07
        have ty7 : TD K H7 (.ref yb) (stD z) := .tup yT (TDs.ints _)
        wtm_at "jw"
        refine hst7.m ?_
        wtm_at "jw"
        refine hst7.at_ ko hzm fun q8 H8 s8 h8 => ?_
        have t8 : TD K H8 (.ref q8) (stD z) := .tup h8 (TDs.ints _)
        have ty8 := ty7.same s8
        wtm_at "jw"
        refine ⟨_, z.2, rfl, t8, by omega, fun H9 s9 => ?_⟩
        wtm_at "jw"
        refine i_neS' (t8.same s9).dp (ty8.same s9).dp (shp_ints _) (by decide) ?_
        have s79 : Same H7 H9 := fun b o hb => s9 _ _ (s8 _ _ hb)
        wtm_at "jw"
        refine (hst7.same s79).m ?_
        wtm_at "jw"
        refine (hst7.same s79).has ?_
        rw [decide_eq_true hin]
        wtm_at "jw"
        refine c_noN rfl ?_
        wtm_at "jw"
        exact ⟨fun b o hb => s79 _ _ (s7 _ _ hb), _, _, _, rfl⟩
      · obtain ⟨s7, _, _, _, rfl⟩ := h
        have s07 : Same H H7 := fun b o hb => s7 _ _ (s06 _ _ hb)
        have hst7 := hst.same s07
        have t7 := t6.same s7
        obtain ⟨ra, us7, er, hr7, hu7⟩ := t7.tup_inv
        cases er
        rw [hu7.ints_inv] at hr7
        wtm_at "jw"
        refine f_range (fun i σ H8 => Same H7 H8 ∧ ∃ w5 w6 w7, σ = [some (.ref s), some (.ref L), some (.ref r), none, some (.int (sizeK kept)), w5, w6, w7]) ⟨fun _ _ h => h, _, _, _, rfl⟩ (fun i σ H8 hi h => ?_) (fun σ H8 h => ?_)
        · obtain ⟨s8, _, _, _, rfl⟩ := h
          have hr8 := Same.tup s8 hr7
          wtm_at "jw"
          refine i_ninT hr8 ?_
          refine ⟨_, rfl, ?_⟩
          refine c_decN (fun hno => ?_) (fun hin => ?_)
          · wtm_at "jw"
            refine ⟨s, kept, av, n, _, rfl, hst7.same s8, ko, hno, fun H9 s9 => ?_⟩
            wtm_at "jw"
            exact ⟨fun b o hb => s9 _ _ (s8 _ _ hb), _, _, _, rfl⟩
          · wtm_at "jw"
            exact ⟨s8, _, _, _, rfl⟩
        · obtain ⟨s8, _, _, _, rfl⟩ := h
          wtm_at "jw"
          exact q _ (fun b o hb => s8 _ _ (s07 _ _ hb))

/-- what is left behind the ticks of ts -/
def outK (kept : KS) (ts : List Int) : KS := kept.filter fun p => !ts.contains p.1
theorem outK_nil (kept : KS) : outK kept [] = kept := by
  unfold outK
  rw [List.filter_eq_self]
  intro p _
  simp
theorem outK_snoc (kept : KS) (ts : List Int) (t : Int) : (outK kept ts).filter (fun p => decide (p.1 ≠ t)) = outK kept (ts ++ [t]) := by
  unfold outK
  rw [List.filter_filter]
  congr 1
  funext p
  by_cases h : p.1 = t
  · subst h
    simp
  · simp [h]
theorem outK_all {kept : KS} {ts : List Int} (h : ∀ p ∈ kept, p.1 ∈ ts) : outK kept ts = [] := by
  unfold outK
  rw [List.filter_eq_nil_iff]
  intro p hp
  simp [h p hp]
theorem outK_ok {n : Nat} {kept : KS} (ko : KeptOk n kept) (ts : List Int) : KeptOk n (outK kept ts) := ko.filter _
theorem nilOk {n : Nat} {kept : KS} (ko : KeptOk n kept) : KeptOk n [] := ⟨List.Pairwise.nil, fun _ h => absurd h List.not_mem_nil, fun _ h => absurd h List.not_mem_nil, ko.nn⟩

theorem StoreAt.np {K : PySem.W.Frag} {C : Addr} {H : Hp} {s dx P w S p a : Addr} {rs : List Addr} {kept : KS} (h1 : StoreAt K C H s dx P w S rs kept) (d : DrawAt H p a) : p ≠ s ∧ p ≠ P ∧ p ≠ S := by
  obtain ⟨ns, pos, pend, seed, e1, e2, e3, e4⟩ := d
  refine ⟨fun z => ?_, fun z => ?_, fun z => ?_⟩
  · subst z
    rw [h1.ob] at e1
    cases e1
  · subst z
    rw [h1.pl] at e1
    cases ek : tks kept with
    | nil => rw [ek] at e1; cases e1
    | cons x r => rw [ek] at e1; cases e1
  · subst z
    rw [h1.st] at e1
    match rs, e1 with
    | [], e1 => cases e1
    | [_], e1 => cases e1
    | _ :: _ :: _, e1 => cases e1
/-- two stores that share nothing -/
structure Tw (K : PySem.W.Frag) (C : Addr) (H : Hp) (s1 s2 : Addr) (k1 k2 : KS) (av : List Addr) : Prop where
  ex : ∃ (dx1 P1 w1 S1 : Addr) (rs1 : List Addr) (dx2 P2 w2 S2 : Addr) (rs2 : List Addr), StoreAt K C H s1 dx1 P1 w1 S1 rs1 k1 ∧ StoreAt K C H s2 dx2 P2 w2 S2 rs2 k2 ∧ (∀ x ∈ [s2, P2, S2], x ≠ s1 ∧ x ≠ P1 ∧ x ≠ S1) ∧ ∀ x ∈ av, (x ≠ s1 ∧ x ≠ P1 ∧ x ≠ S1) ∧ (x ≠ s2 ∧ x ≠ P2 ∧ x ≠ S2)
section
variable {K : PySem.W.Frag} {C : Addr} {H H' : Hp} {s1 s2 p a : Addr} {k1 k2 : KS} {av : List Addr}
theorem Tw.swap (h : Tw K C H s1 s2 k1 k2 av) : Tw K C H s2 s1 k2 k1 av := by
  obtain ⟨dx1, P1, w1, S1, rs1, dx2, P2, w2, S2, rs2, h1, h2, d, f⟩ := h.ex
  refine ⟨dx2, P2, w2, S2, rs2, dx1, P1, w1, S1, rs1, h2, h1, fun x hx => ?_, fun x hx => ⟨(f x hx).2, (f x hx).1⟩⟩
  have a1 := d s2 (by simp)
  have a2 := d P2 (by simp)
  have a3 := d S2 (by simp)
  simp only [List.mem_cons, List.not_mem_nil, or_false] at hx
  rcases hx with rfl | rfl | rfl
  · exact ⟨a1.1.symm, a2.1.symm, a3.1.symm⟩
  · exact ⟨a1.2.1.symm, a2.2.1.symm, a3.2.1.symm⟩
  · exact ⟨a1.2.2.symm, a2.2.2.symm, a3.2.2.symm⟩
theorem Tw.one (h : Tw K C H s1 s2 k1 k2 av) : StL K C H s1 k1 av := by
  obtain ⟨dx1, P1, w1, S1, rs1, dx2, P2, w2, S2, rs2, h1, h2, d, f⟩ := h.ex
  exact ⟨dx1, P1, w1, S1, rs1, h1, fun x hx => (f x hx).1⟩
theorem Tw.weak {av' : List Addr} (h : Tw K C H s1 s2 k1 k2 av) (hh : ∀ b ∈ av', b ∈ av) : Tw K C H s1 s2 k1 k2 av' := by
  obtain ⟨dx1, P1, w1, S1, rs1, dx2, P2, w2, S2, rs2, h1, h2, d, f⟩ := h.ex
  exact ⟨dx1, P1, w1, S1, rs1, dx2, P2, w2, S2, rs2, h1, h2, d, fun x hx => f x (hh x hx)⟩
theorem Tw.same (h : Tw K C H s1 s2 k1 k2 av) (t : Same H H') : Tw K C H' s1 s2 k1 k2 av := by
  obtain ⟨dx1, P1, w1, S1, rs1, dx2, P2, w2, S2, rs2, h1, h2, d, f⟩ := h.ex
  exact ⟨dx1, P1, w1, S1, rs1, dx2, P2, w2, S2, rs2, h1.same t, h2.same t, d, f⟩
theorem Tw.drew (h : Tw K C H s1 s2 k1 k2 av) (d0 : DrawAt H p a) (w : Drew p a H H') : Tw K C H' s1 s2 k1 k2 av := by
  obtain ⟨dx1, P1, w1, S1, rs1, dx2, P2, w2, S2, rs2, h1, h2, d, f⟩ := h.ex
  have n1 := h1.np d0
  have n2 := h2.np d0
  refine ⟨dx1, P1, w1, S1, rs1, dx2, P2, w2, S2, rs2, h1.move (w.tps d0) fun b o hb hc => w.kp b o hb fun z => ?_, h2.move (w.tps d0) fun b o hb hc => w.kp b o hb fun z => ?_, d, f⟩
  · subst z
    rcases hc with z | z | z
    · exact n1.1 z
    · exact n1.2.1 z
    · exact n1.2.2 z
  · subst z
    rcases hc with z | z | z
    · exact n2.1 z
    · exact n2.2.1 z
    · exact n2.2.2 z
theorem Tw.add {b : Addr} (h : Tw K C H s1 s2 k1 k2 av) (hb : H b = none) : Tw K C H s1 s2 k1 k2 (b :: av) := by
  obtain ⟨dx1, P1, w1, S1, rs1, dx2, P2, w2, S2, rs2, h1, h2, d, f⟩ := h.ex
  refine ⟨dx1, P1, w1, S1, rs1, dx2, P2, w2, S2, rs2, h1, h2, d, fun x hx => ?_⟩
  rcases List.mem_cons.mp hx with rfl | hx
  · exact ⟨⟨(ne_of_none h1.ob hb).symm, (ne_of_none h1.pl hb).symm, (ne_of_none h1.st hb).symm⟩, ⟨(ne_of_none h2.ob hb).symm, (ne_of_none h2.pl hb).symm, (ne_of_none h2.st hb).symm⟩⟩
  · exact f x hx
/-- a deed of the first store, in the sight of the second -/
theorem Tw.deed (h : Tw K C H s1 s2 k1 k2 av) (d0 : DrawAt H p a) : ∃ x1 x2 x3 : Addr, StL K C H s1 k1 (x1 :: x2 :: x3 :: av) ∧ (∃ o, H x1 = some o) ∧ (∃ o, H x2 = some o) ∧ (∃ o, H x3 = some o) ∧
    ∀ (H' : Hp) (k1' : KS), Go (x1 :: x2 :: x3 :: av) p a H H' → StL K C H' s1 k1' (x1 :: x2 :: x3 :: av) → Tw K C H' s1 s2 k1' k2 av := by
  obtain ⟨dx1, P1, w1, S1, rs1, dx2, P2, w2, S2, rs2, h1, h2, d, f⟩ := h.ex
  have n2 := h2.np d0
  refine ⟨s2, P2, S2, ⟨dx1, P1, w1, S1, rs1, h1, fun x hx => ?_⟩, ⟨_, h2.ob⟩, ⟨_, h2.pl⟩, ⟨_, h2.st⟩, fun H' k1' g st => ?_⟩
  · simp only [List.mem_cons] at hx
    rcases hx with rfl | rfl | rfl | hx
    · exact d x (by simp)
    · exact d x (by simp)
    · exact d x (by simp)
    · exact (f x hx).1
  · obtain ⟨dx, P, w, S, rs, h3, h4⟩ := st.ex
    refine ⟨dx, P, w, S, rs, dx2, P2, w2, S2, rs2, h3, h2.move g.t fun b o hb hc => ?_, fun x hx => h4 x ?_, fun x hx => ⟨h4 x (by simp [hx]), (f x hx).2⟩⟩
    · rcases hc with z | z | z
      · subst z; exact g.fr _ (by simp) _ hb n2.1.symm
      · subst z; exact g.fr _ (by simp) _ hb n2.2.1.symm
      · subst z; exact g.fr _ (by simp) _ hb n2.2.2.symm
    · simp only [List.mem_cons, List.not_mem_nil, or_false] at hx
      rcases hx with rfl | rfl | rfl <;> simp
end
def sp__law_filled (K : PySem.W.Frag) (C_Store : Addr) : Sp := fun vs H Q _ => ∃ (L : Addr) (kept : KS) (n : Nat), vs = [.ref L] ∧ LD K H L (kept.map kD) ∧ KeptOk n kept ∧ ∀ s dx P w S rs H', Same H H' → H s = none → H P = none → H S = none → StoreAt K C_Store H' s dx P w S rs kept → Q (.ref s) H'
theorem ok__law_filled {P : Program} {w : World} {K : PySem.W.Frag} {mg : Str → Option Value} {base : Heap} {C_Store : Addr} {C_NoState : Addr} {f : Addr} {fd : FuncData} (F : Df K mg "_law_filled" s__law_filled f fd ["kept"]) (T : Txt K mg C_Store C_NoState)
    (c_Store___init__ : Mkc P w K mg base 1 C_Store (sp_Store___init__ K C_Store))
    (c_Store_keep : Mt P w K mg base 3 C_Store "keep" (sp_Store_keep K C_Store)) : FnOk P w K mg base CX0 4 f fd ["kept"] (sp__law_filled K C_Store) := by
  refine F.ok sc__law_filled (fun vs H Q E h => ?_) (fun cdv A outer s H vs Q E hr h => ?_)
  · obtain ⟨L, kept, n, rfl, _⟩ := h
    rfl
  · obtain ⟨L, kept, n, rfl, ⟨us, hL, hT⟩, ko, q⟩ := h
    have k25 := keptLen25 ko
    have lus : us.length = kept.length := by rw [hT.len, List.length_map]
    refine ⟨_, (pss_cons (ps_set (i := 1) sc__law_filled.nd rfl (Or.inl rfl) (pe_mkc0 c_Store___init__ hr (by decide) rfl T.mg_Store))
      (pss_cons (ps_for PassesOwn.never rfl (pi_list (pv 0)) (pg_tupK (K := K) rfl rfl (pgs_cons (pg_name (i := 2) sc__law_filled.nd rfl (Or.inl rfl)) (pgs_cons (pg_name (i := 3) sc__law_filled.nd rfl (Or.inl rfl)) pgs_nil))) (pss_one (ps_expr (pe_mtc c_Store_keep T.cl_Store hr (by decide) (pv 1) (pa_cons (pv 2) (pa_cons (pv 3) pa_nil))))))
      (pss_one (ps_ret (pv 1))))), ?_⟩
    try dsimp only [cxOf, Cx.nox, Cx.wish]
    refine st_of (σ' := [some _, none, none, none]) rfl ?_
    wtm_at "jw"
    intro st dx hst hdx ndx
    refine ⟨st, dx, rfl, upd_same, fun P w S H2 sA fr nP nS => ⟨rfl, ?_⟩⟩
    have s12 : Same H H2 := fun b o hb => fr b o (by rw [upd_ne (ne_of_none hb hst), upd_ne (ne_of_none hb hdx)]; exact hb) (ne_of_none hb hst)
    have fre : ∀ b, upd (upd H dx (.own st)) st (.ins C_Store dx []) b = none → H b = none := fun b hb => by
      cases e : H b with
      | none => rfl
      | some o => rw [upd_ne (ne_of_none e hst), upd_ne (ne_of_none e hdx), e] at hb; cases hb
    have hL2 := s12 _ _ hL
    wtm_at "jw"
    refine f_list (xs := us) (fun i σ H5 => Same H H5 ∧ ∃ P w S rs v3 v4, σ = [some (.ref L), some (.ref st), v3, v4] ∧ StoreAt K C_Store H5 st dx P w S rs (kept.take i) ∧ H P = none ∧ H S = none)
      ⟨s12, P, w, S, [], none, none, rfl, by rw [List.take_zero]; exact sA, fre _ nP, fre _ nS⟩ (fun i σ H5 _ h => h.1.seq (SqL.of hL)) (fun i y σ H5 hi h => ?_) (fun σ H5 h => ?_)
    · obtain ⟨s5, P, w, S, rs, v3, v4, rfl, sA, nP, nS⟩ := h
      obtain ⟨dd, hd, ty, _, _⟩ := (hT.same s5).at hi
      rw [List.getElem?_map] at hd
      obtain ⟨z, hz, rfl⟩ := Option.map_eq_some_iff.mp hd
      have hzk := List.take_add_one (l := kept) (i := i)
      rw [hz] at hzk
      have lz := ko.len z (List.mem_of_getElem? hz)
      obtain ⟨ya, yb, rfl, yS, yT⟩ := TD.k_inv ty
      clear ty
      wtm_at "jw"
      refine ⟨st, dx, _, rfl, sA.ob, lk_no (by decide +kernel) (by decide +kernel) (by decide +kernel), ?_⟩
      wtm_at "jw"
      refine ⟨st, dx, P, w, S, rs, kept.take i, n, z.1, yb, z.2, rfl, sA, ko.take i, yT, lz, fun H6 sto => ?_⟩
      have e : (kept.take i).take (cnt (kept.take i) z.1) ++ [(z.1, z.2)] = kept.take (i + 1) := by
        rw [take_cnt (ko.take i), hzk]
        congr 1
        rw [List.filter_eq_self]
        intro x hx
        obtain ⟨j, hj⟩ := List.getElem?_of_mem hx
        have hji := (List.getElem?_eq_some_iff.mp hj).1
        rw [List.length_take] at hji
        rw [List.getElem?_take_of_lt (by omega)] at hj
        have e1 : (tks kept)[j]? = some x.1 := by unfold tks; rw [List.getElem?_map, hj]; rfl
        have e2 : (tks kept)[i]? = some z.1 := by unfold tks; rw [List.getElem?_map, hz]; rfl
        have := sorted_ix ko.srt e2 e1 (by omega)
        simpa using this
      rw [e] at sto
      obtain ⟨mv, al, P', w', S', rs', sA', eP, eS⟩ := sto
      wtm_at "jw"
      refine ⟨fun b o hb => mv b o (s5 _ _ hb) (ne_of_none hb hst) (ne_of_none hb nP) (ne_of_none hb nS), P', w', S', rs', _, _, rfl, sA', ?_, ?_⟩
      · rcases eP with rfl | eP
        · exact nP
        · exact same_free s5 eP
      · rcases eS with rfl | eS
        · exact nS
        · exact same_free s5 eS
    · obtain ⟨s5, P, w, S, rs, v3, v4, rfl, sA, nP, nS⟩ := h
      rw [lus, List.take_length] at sA
      wtm_at "jw"
      exact q _ _ _ _ _ _ _ s5 hst nP nS sA

theorem outK_perm {kept : KS} {ts gs : List Int} (h : ts.Perm gs) : outK kept ts = outK kept gs := by
  unfold outK
  congr 1
  funext p
  have : ts.contains p.1 = gs.contains p.1 := by
    rw [Bool.eq_iff_iff, List.contains_iff_mem, List.contains_iff_mem]
    exact h.mem_iff
  rw [this]
def sp__law_are_twins (K : PySem.W.Frag) (C_Store : Addr) : Sp := fun vs H Q _ => ∃ (p a L : Addr) (kept : KS) (n : Nat) (av : List Addr), vs = [.ref p, .ref L] ∧ DrawAt H p a ∧ a ∈ av ∧ L ∈ av ∧ L ≠ p ∧ (∀ x ∈ av, ∃ o, H x = some o) ∧ LD K H L (kept.map kD) ∧ KeptOk n kept ∧ ∀ H', Go av p a H H' → Q (.bl true) H'
theorem ok__law_are_twins {P : Program} {w : World} {K : PySem.W.Frag} {mg : Str → Option Value} {base : Heap} {C_Store : Addr} {C_NoState : Addr} {f : Addr} {fd : FuncData} (F : Df K mg "_law_are_twins" s__law_are_twins f fd ["d", "kept"]) (T : Txt K mg C_Store C_NoState)
    (c__law_filled : Cl P w K mg base 4 "_law_filled" (sp__law_filled K C_Store))
    (c__law_shuffled : Cl P w K mg base 2 "_law_shuffled" (sp__law_shuffled K))
    (c_Store_drop : Mt P w K mg base 4 C_Store "drop" (sp_Store_drop K C_Store))
    (c__law_is_all : Cl P w K mg base 5 "_law_is_all" (sp__law_is_all K C_Store))
    (c__law_draw : Cl P w K mg base 1 "_law_draw" (sp__law_draw K)) : FnOk P w K mg base CX0 6 f fd ["d", "kept"] (sp__law_are_twins K C_Store) := by
  refine F.ok sc__law_are_twins (fun vs H Q E h => ?_) (fun cdv A outer s H vs Q E hr h => ?_)
  · obtain ⟨p, a, L, kept, n, av, rfl, _⟩ := h
    rfl
  · obtain ⟨p, a, L, kept, n, av, rfl, d0, ha, hLa, nL, hex, hLD, ko, q⟩ := h
    obtain ⟨us, hL, hT⟩ := id hLD
    have k25 := keptLen25 ko
    have lus : us.length = kept.length := by rw [hT.len, List.length_map]
    refine ⟨_, (pss_cons (ps_set (i := 2) sc__law_are_twins.nd rfl (Or.inr rfl) (pe_lc (own := [("pair", 3)]) (g := gName 3) rfl sc__law_are_twins.nd (pi_list (pv 1)) (blkOk_by (own := [("pair", 3)]) (N := N__law_are_twins) (sc := defScope s__law_are_twins) (by decide +kernel)) (fun _ _ _ _ _ => (pg_name (i := 3) sc__law_are_twins.nd rfl (Or.inl rfl))) (fun _ _ _ _ _ => pts_one (pt_cmpR op_eq (pe_cl c__law_draw hr (by decide) rfl (pa_cons (pv 0) (pa_cons pe_int pa_nil))) pe_int (nomark _))) (fun _ _ _ _ _ => (pe_ix (r := rIxT K) ix_tup (pv 3) pe_int (fun _ _ => rfl)))))
      (pss_cons (ps_setLc (i := 4) (own := [("pair", 3)]) (g := gName 3) rfl sc__law_are_twins.nd rfl rfl (sw_true rfl rfl rfl (by decide +kernel)) (pi_list (pv 1)) (blkOk_by (own := [("pair", 3)]) (N := N__law_are_twins) (sc := defScope s__law_are_twins) (by decide +kernel)) (fun _ _ _ _ _ => (pg_name (i := 3) sc__law_are_twins.nd rfl (Or.inl rfl))) (fun _ _ _ _ _ => pts_one (pt_cmpR (r := rIn K true) op_notIn_seq (pe_ix (r := rIxT K) ix_tup (pv 3) pe_int (fun _ _ => rfl)) (pv 2) rfl)) (fun _ _ _ _ _ => (pv 3)))
      (pss_cons (ps_set (i := 5) sc__law_are_twins.nd rfl (Or.inl rfl) (pe_cl c__law_filled hr (by decide) rfl (pa_cons (pv 1) pa_nil)))
      (pss_cons (ps_set (i := 6) sc__law_are_twins.nd rfl (Or.inl rfl) (pe_cl c__law_filled hr (by decide) rfl (pa_cons (pv 1) pa_nil)))
      (pss_cons (ps_for PassesOwn.never rfl (pi_list (pe_cl c__law_shuffled hr (by decide) rfl (pa_cons (pv 0) (pa_cons (pv 2) pa_nil)))) (pg_name (i := 7) sc__law_are_twins.nd rfl (Or.inl rfl)) (pss_one (ps_expr (pe_mtc c_Store_drop T.cl_Store hr (by decide) (pv 5) (pa_cons (pv 7) pa_nil)))))
      (pss_cons (ps_for PassesOwn.never rfl (pi_list (pe_cl c__law_shuffled hr (by decide) rfl (pa_cons (pv 0) (pa_cons (pv 2) pa_nil)))) (pg_name (i := 7) sc__law_are_twins.nd rfl (Or.inl rfl)) (pss_one (ps_expr (pe_mtc c_Store_drop T.cl_Store hr (by decide) (pv 6) (pa_cons (pv 7) pa_nil)))))
      (pss_one (ps_ret (pe_and (pe_cl c__law_is_all hr (by decide) rfl (pa_cons (pv 5) (pa_cons (pv 4) pa_nil))) (pe_and (pe_cl c__law_is_all hr (by decide) rfl (pa_cons (pv 6) (pa_cons (pv 4) pa_nil))) (pe_one (pe_cl c__law_is_all hr (by decide) rfl (pa_cons (pe_cl c__law_filled hr (by decide) rfl (pa_cons (pv 4) pa_nil)) (pa_cons (pv 4) pa_nil)))))))))))))), ?_⟩
    try dsimp only [cxOf, Cx.nox, Cx.wish]
    refine st_of (σ' := [some _, some _, none, none, none, none, none, none]) rfl ?_
    wtm_at "jw"
    intro D1 hD1
    have nD1 := d0.ne_none hD1
    refine l_list (xs := us) (fun i H2 => Drew p a H H2 ∧ ∃ gs : List Int, H2 D1 = some (.lst (gs.map V.int)) ∧ gs.length ≤ i) ⟨d0.drew.new hD1, [], upd_same, Nat.zero_le _⟩ (fun i H2 _ h => SqL.of (h.1.kp _ _ hL nL)) (fun i y H2 hi h => ?_) (fun H2 h => ?_)
    · obtain ⟨w2, gs, hG2, lgs⟩ := h
      have hi' := (List.getElem?_eq_some_iff.mp hi).1
      obtain ⟨dd, hd, ty, htk, hlt⟩ := (hT.tps (w2.tps d0)).at hi
      rw [List.getElem?_map] at hd
      obtain ⟨z, hz, rfl⟩ := Option.map_eq_some_iff.mp hd
      obtain ⟨ya, yb, rfl, yS, yT⟩ := TD.k_inv ty
      clear ty
      wtm_at "jw"
      refine ⟨rfl, ?_⟩
      wtm_at "jw"
      refine drawL w2.at_.drew (by omega) (by omega) fun c H3 c0 c1 e3 w3 => ?_
      have hG3 := w3.kp _ _ hG2 nD1
      have yS3 := (w3.tps w2.at_).sq yS
      wtm_at "jw"
      refine c_dec (fun hc => ?_) (fun hc => ?_)
      · wtm_at "jw"
        exact ⟨_, hG3, small1000 (by rw [List.length_map]; omega), (w2.trans w3).put d0 hD1, gs ++ [z.1], by rw [upd_same, List.map_append]; rfl, by rw [List.length_append]; show gs.length + 1 ≤ i + 1; omega⟩
      · exact ⟨w2.trans w3, gs, hG3, by omega⟩
    · obtain ⟨w2, gs, hG2, lgs⟩ := h
      rw [lus] at lgs
      have hL2 := w2.kp _ _ hL nL
      have hT2 := hT.tps (w2.tps d0)
      wtm_at "jw"
      intro D2 hD2
      refine l_list (xs := us) (fun i H3 => Same H2 H3 ∧ ∃ us', H3 D2 = some (.lst us') ∧ TDs K H3 us' ((outK (kept.take i) gs).map kD)) ⟨same_new hD2, [], upd_same, .nil⟩ (fun i H3 _ h => h.1.seq (SqL.of hL2)) (fun i y H3 hi h => ?_) (fun H3 h => ?_)
      · obtain ⟨s3, us', hU3, hT3⟩ := h
        obtain ⟨dd, hd, ty, htk, hlt⟩ := (hT2.same s3).at hi
        rw [List.getElem?_map] at hd
        obtain ⟨z, hz, rfl⟩ := Option.map_eq_some_iff.mp hd
        have hzk := List.take_add_one (l := kept) (i := i)
        rw [hz] at hzk
        obtain ⟨ya, yb, rfl, yS, yT⟩ := TD.k_inv ty
        have lus' : us'.length ≤ 25 := by
          have h1 := hT3.len
          rw [List.length_map] at h1
          have h2 := List.length_filter_le (fun p : Int × List Int => !gs.contains p.1) (kept.take i)
          unfold outK at h1
          rw [List.length_take] at h2
          omega
        have hG3 := s3 _ _ hG2
        wtm_at "jw"
        refine ⟨rfl, ?_⟩
        wtm_at "jw"
        refine i_ninL (SqL.of hG3) ?_
        wtm_at "jw"
        unfold outK at hT3 ⊢
        refine c_decN (fun hc => ?_) (fun hc => ?_)
        · wtm_at "jw"
          refine ⟨us', hU3, small1000 (by omega), put_same s3 hD2, us' ++ [.ref ya], upd_same, ?_⟩
          rw [hzk, List.filter_append, List.map_append]
          have e : [z].filter (fun p => !gs.contains p.1) = [z] := by simp [hc]
          rw [show (some z).toList = [z] from rfl, e]
          exact (hT3.snoc ty).tps (tps_put hU3)
        · refine ⟨s3, us', hU3, ?_⟩
          rw [hzk, List.filter_append]
          have e : [z].filter (fun p => !gs.contains p.1) = [] := by simp [hc]
          rw [show (some z).toList = [z] from rfl, e, List.append_nil]
          exact hT3
      · obtain ⟨s3, us', hU3, hT3⟩ := h
        rw [lus, List.take_length] at hT3
        have g3 : Go av p a H H3 := (w2.go d0).trans (same_go s3 w2.at_)
        have hLD3 : LD K H3 L (kept.map kD) := (hLD.drew d0 w2 nL).same s3
        have hle3 : LD K H3 D2 ((outK kept gs).map kD) := ⟨us', hU3, hT3⟩
        have hG3 := s3 _ _ hG2
        have nD2 : D2 ≠ p := w2.at_.ne_none hD2
        have okl := outK_ok ko gs
        have hex3 := hex_of g3.al hex
        clear hT3 hT2 hT
        wtm_at "jw"
        refine ⟨L, kept, n, rfl, hLD3, ko, fun o1 dx1 P1 w1 S1 rs1 H4 s4 no1 nP1 nS1 sA1 => ?_⟩
        have hLD4 := hLD3.same s4
        wtm_at "jw"
        refine ⟨L, kept, n, rfl, hLD4, ko, fun o2 dx2 P2 w2' S2 rs2 H5 s5 no2 nP2 nS2 sA2 => ?_⟩
        have s35 : Same H3 H5 := fun b o hb => s5 _ _ (s4 _ _ hb)
        have hex4 : ∀ x ∈ D1 :: D2 :: av, ∃ o, H3 x = some o := fun x hx => by
          simp only [List.mem_cons] at hx
          rcases hx with rfl | rfl | hx
          · exact ⟨_, hG3⟩
          · exact ⟨_, hU3⟩
          · exact hex3 x hx
        have tw5 : Tw K C_Store H5 o1 o2 kept kept (D1 :: D2 :: av) := by
          refine ⟨dx1, P1, w1, S1, rs1, dx2, P2, w2', S2, rs2, sA1.same s5, sA2, fun x hx => ?_, fun x hx => ?_⟩
          · simp only [List.mem_cons, List.not_mem_nil, or_false] at hx
            rcases hx with rfl | rfl | rfl
            · exact ⟨(ne_of_none sA1.ob no2).symm, (ne_of_none sA1.pl no2).symm, (ne_of_none sA1.st no2).symm⟩
            · exact ⟨(ne_of_none sA1.ob nP2).symm, (ne_of_none sA1.pl nP2).symm, (ne_of_none sA1.st nP2).symm⟩
            · exact ⟨(ne_of_none sA1.ob nS2).symm, (ne_of_none sA1.pl nS2).symm, (ne_of_none sA1.st nS2).symm⟩
          · obtain ⟨o, ho⟩ := hex4 x hx
            exact ⟨⟨ne_of_none ho no1, ne_of_none ho nP1, ne_of_none ho nS1⟩, ne_of_none (s4 _ _ ho) no2, ne_of_none (s4 _ _ ho) nP2, ne_of_none (s4 _ _ ho) nS2⟩
        have g5 : Go (D1 :: D2 :: av) p a H3 H5 := same_go s35 g3.d
        have hG5 := s35 _ _ hG3
        have hle5 := hle3.same s35
        have hex5 := hex_of g5.al hex4
        have lD1 : (gs.map V.int).length ≤ 1000 := by rw [List.length_map]; omega
        wtm_at "jw"
        refine ⟨p, a, D1, gs.map V.int, rfl, g5.d, .inl (SqL.of hG5), lD1, fun q0a ysa H6a w6a nqa hqa hperma => ?_⟩
        obtain ⟨zsa, rfl, hza⟩ := perm_map hperma rfl
        have tw6a := (tw5.add nqa).drew g5.d w6a
        have g6a : Go (D1 :: D2 :: av) p a H3 H6a := g5.trans (w6a.go g5.d)
        have nq0a : q0a ≠ p := g5.d.ne_none nqa
        have hex6a : ∀ x ∈ q0a :: D1 :: D2 :: av, ∃ o, H6a x = some o := fun x hx => by
          rcases List.mem_cons.mp hx with rfl | hx
          · exact ⟨_, hqa⟩
          · exact hex_of g6a.al hex4 x hx
        wtm_at "jw"
        refine f_list (xs := zsa.map V.int) (fun i σ H7 => Tw K C_Store H7 o1 o2 (outK kept (zsa.take i)) kept (q0a :: D1 :: D2 :: av) ∧ Go (q0a :: D1 :: D2 :: av) p a H6a H7 ∧ ∃ v7, σ = [some (.ref p), some (.ref L), some (.ref D1), none, some (.ref D2), some (.ref o1), some (.ref o2), v7])
          ⟨by rw [List.take_zero, outK_nil]; exact tw6a, Go.refl w6a.at_, _, rfl⟩ (fun i σ H7 _ h => SqL.of (h.2.1.fr q0a (by simp) _ hqa nq0a)) (fun i y σ H7 hi h => ?_) (fun σ H7 h => ?_)
        · obtain ⟨tw7, g7, _, rfl⟩ := h
          obtain ⟨z, rfl, hz, htk, hlt⟩ := ints_at hi
          have ok7 := outK_ok ko (zsa.take i)
          have enx : (outK kept (zsa.take i)).filter (fun p => decide (p.1 ≠ z)) = outK kept (zsa.take (i + 1)) := by
            rw [outK_snoc, htk]
          obtain ⟨x1, x2, x3, st7, e1, e2, e3, back⟩ := tw7.deed g7.d
          wtm_at "jw"
          refine st7.m ?_
          wtm_at "jw"
          refine st7.drop ok7 g7.d (by simp [ha]) (fun x hx => ?_) fun H8 g8 st8 => ?_
          · simp only [List.mem_cons] at hx
            rcases hx with rfl | rfl | rfl | hx
            · exact e1
            · exact e2
            · exact e3
            · exact hex_of g7.al hex6a x (by simpa using hx)
          · rw [enx] at st8
            wtm_at "jw"
            exact ⟨back _ _ g8 st8, g7.trans (g8.weak (fun b hb => by simp only [List.mem_cons] at hb ⊢; rcases hb with h | h | h | h <;> simp [h])), _, rfl⟩
        · obtain ⟨tw7a, g7a, _, rfl⟩ := h
          rw [List.length_map, List.take_length, outK_perm hza] at tw7a
          have g8a : Go (D1 :: D2 :: av) p a H3 H7 := g6a.trans (g7a.weak (fun b hb => List.mem_cons_of_mem _ hb))
          have hG8 := g8a.fr D1 (by simp) _ hG3 nD1
          have tw8 := (tw7a.weak (av' := D1 :: D2 :: av) (fun b hb => List.mem_cons_of_mem _ hb)).swap
          have hle8 := hle3.go g8a (by simp) nD2
          have e8 : Same H7 H7 := fun _ _ h => h
          generalize H7 = H7a at tw8 g8a hG8 hle8 e8 ⊢
          wtm_at "jw"
          refine ⟨p, a, D1, gs.map V.int, rfl, g8a.d, .inl (SqL.of hG8), lD1, fun q0b ysb H6b w6b nqb hqb hpermb => ?_⟩
          obtain ⟨zsb, rfl, hzb⟩ := perm_map hpermb rfl
          have tw6b := (tw8.add nqb).drew g8a.d w6b
          have g6b : Go (D1 :: D2 :: av) p a H3 H6b := g8a.trans (w6b.go g8a.d)
          have nq0b : q0b ≠ p := g8a.d.ne_none nqb
          have hex6b : ∀ x ∈ q0b :: D1 :: D2 :: av, ∃ o, H6b x = some o := fun x hx => by
            rcases List.mem_cons.mp hx with rfl | hx
            · exact ⟨_, hqb⟩
            · exact hex_of g6b.al hex4 x hx
          wtm_at "jw"
          refine f_list (xs := zsb.map V.int) (fun i σ H7 => Tw K C_Store H7 o2 o1 (outK kept (zsb.take i)) (outK kept gs) (q0b :: D1 :: D2 :: av) ∧ Go (q0b :: D1 :: D2 :: av) p a H6b H7 ∧ ∃ v7, σ = [some (.ref p), some (.ref L), some (.ref D1), none, some (.ref D2), some (.ref o1), some (.ref o2), v7])
            ⟨by rw [List.take_zero, outK_nil]; exact tw6b, Go.refl w6b.at_, _, rfl⟩ (fun i σ H7 _ h => SqL.of (h.2.1.fr q0b (by simp) _ hqb nq0b)) (fun i y σ H7 hi h => ?_) (fun σ H7 h => ?_)
          · obtain ⟨tw7, g7, _, rfl⟩ := h
            obtain ⟨z, rfl, hz, htk, hlt⟩ := ints_at hi
            have ok7 := outK_ok ko (zsb.take i)
            have enx : (outK kept (zsb.take i)).filter (fun p => decide (p.1 ≠ z)) = outK kept (zsb.take (i + 1)) := by
              rw [outK_snoc, htk]
            obtain ⟨x1, x2, x3, st7, e1, e2, e3, back⟩ := tw7.deed g7.d
            wtm_at "jw"
            refine st7.m ?_
            wtm_at "jw"
            refine st7.drop ok7 g7.d (by simp [ha]) (fun x hx => ?_) fun H8 g8 st8 => ?_
            · simp only [List.mem_cons] at hx
              rcases hx with rfl | rfl | rfl | hx
              · exact e1
              · exact e2
              · exact e3
              · exact hex_of g7.al hex6b x (by simpa using hx)
            · rw [enx] at st8
              wtm_at "jw"
              exact ⟨back _ _ g8 st8, g7.trans (g8.weak (fun b hb => by simp only [List.mem_cons] at hb ⊢; rcases hb with h | h | h | h <;> simp [h])), _, rfl⟩
          · obtain ⟨tw7b, g7b, _, rfl⟩ := h
            rw [List.length_map, List.take_length, outK_perm hzb] at tw7b
            have g8b : Go (D1 :: D2 :: av) p a H3 H7 := g6b.trans (g7b.weak (fun b hb => List.mem_cons_of_mem _ hb))
            have hle9 := hle3.go g8b (by simp) nD2
            have st9 := tw7b.swap.one
            have st9' := tw7b.one
            wtm_at "jw"
            refine ⟨o1, D2, _, _, n, rfl, st9, hle9, okl, fun H8 s8 => ?_⟩
            wtm_at "jw"
            refine ⟨o2, D2, _, _, n, rfl, st9'.same s8, hle9.same s8, okl, fun H9 s9 => ?_⟩
            wtm_at "jw"
            have hle10 := (hle9.same s8).same s9
            refine ⟨D2, _, n, rfl, hle10, okl, fun o3 dx3 P3 w3 S3 rs3 H10 s10 no3 nP3 nS3 sA3 => ?_⟩
            wtm_at "jw"
            refine ⟨o3, D2, _, [], n, rfl, ⟨dx3, P3, w3, S3, rs3, sA3, fun x hx => absurd hx List.not_mem_nil⟩, hle10.same s10, okl, fun H11 s11 => ?_⟩
            have s711 : Same H7 H11 := fun b o hb => s11 _ _ (s10 _ _ (s9 _ _ (s8 _ _ hb)))
            exact q _ (g3.trans (Go.weak (g8b.trans (same_go s711 g8b.d)) fun b hb => List.mem_cons_of_mem _ (List.mem_cons_of_mem _ hb)))


def sp__law_rare (K : PySem.W.Frag) : Sp := fun vs H Q _ => ∃ (p a : Addr) (m : Int), vs = [.ref p, .int m] ∧ DrawAt H p a ∧ 0 < m ∧ m < 1000 ∧ ∀ b H', Drew p a H H' → Q (.bl b) H'
theorem ok__law_rare {P : Program} {w : World} {K : PySem.W.Frag} {mg : Str → Option Value} {base : Heap} {C_Store : Addr} {C_NoState : Addr} {f : Addr} {fd : FuncData} (F : Df K mg "_law_rare" s__law_rare f fd ["d", "many"]) (T : Txt K mg C_Store C_NoState)
    (c__law_draw : Cl P w K mg base 1 "_law_draw" (sp__law_draw K)) : FnOk P w K mg base CX0 2 f fd ["d", "many"] (sp__law_rare K) := by
  refine F.ok sc__law_rare (fun vs H Q E h => ?_) (fun cdv A outer s H vs Q E hr h => ?_)
  · obtain ⟨p, a, m, rfl, _⟩ := h
    rfl
  · obtain ⟨p, a, m, rfl, d0, h0, h1, q⟩ := h
    refine ⟨_, (pss_one (ps_ret (pe_cmpR op_eq (pe_cl c__law_draw hr (by decide) rfl (pa_cons (pv 0) (pa_cons (pv 1) pa_nil))) (pe_op op_fdiv (pv 1) pe_int) (nomark _)))), ?_⟩
    try dsimp only [cxOf, Cx.nox, Cx.wish]
    refine st_of (σ' := [some _, some _]) rfl ?_
    wtm_at "jw"
    refine drawL d0.drew (by omega) (by omega) fun z H' _ _ e w => ?_
    wtm_at "jw"
    exact q _ _ w

section
variable {K : PySem.W.Frag} {C : Addr} {H H' : Hp} {s1 s2 p a : Addr} {k1 k2 : KS} {av : List Addr}
/-- a deed that gives a new thing of the law's -/
theorem Tw.deedL (h : Tw K C H s1 s2 k1 k2 av) (d0 : DrawAt H p a) : ∃ x1 x2 x3 : Addr, StL K C H s1 k1 (x1 :: x2 :: x3 :: av) ∧ (∃ o, H x1 = some o) ∧ (∃ o, H x2 = some o) ∧ (∃ o, H x3 = some o) ∧
    ∀ (H' : Hp) (k1' : KS) (b : Addr), H b = none → Go (x1 :: x2 :: x3 :: av) p a H H' → StL K C H' s1 k1' (b :: x1 :: x2 :: x3 :: av) → Tw K C H' s1 s2 k1' k2 (b :: av) := by
  obtain ⟨dx1, P1, w1, S1, rs1, dx2, P2, w2, S2, rs2, h1, h2, d, f⟩ := h.ex
  have n2 := h2.np d0
  refine ⟨s2, P2, S2, ⟨dx1, P1, w1, S1, rs1, h1, fun x hx => ?_⟩, ⟨_, h2.ob⟩, ⟨_, h2.pl⟩, ⟨_, h2.st⟩, fun H' k1' b hb g st => ?_⟩
  · simp only [List.mem_cons] at hx
    rcases hx with rfl | rfl | rfl | hx
    · exact d x (by simp)
    · exact d x (by simp)
    · exact d x (by simp)
    · exact (f x hx).1
  · obtain ⟨dx, P, w, S, rs, h3, h4⟩ := st.ex
    refine ⟨dx, P, w, S, rs, dx2, P2, w2, S2, rs2, h3, h2.move g.t fun b o hb hc => ?_, fun x hx => h4 x ?_, fun x hx => ⟨h4 x ?_, ?_⟩⟩
    · rcases hc with z | z | z
      · subst z; exact g.fr _ (by simp) _ hb n2.1.symm
      · subst z; exact g.fr _ (by simp) _ hb n2.2.1.symm
      · subst z; exact g.fr _ (by simp) _ hb n2.2.2.symm
    · simp only [List.mem_cons, List.not_mem_nil, or_false] at hx
      rcases hx with rfl | rfl | rfl <;> simp
    · rcases List.mem_cons.mp hx with rfl | hx
      · simp
      · simp [hx]
    · rcases List.mem_cons.mp hx with rfl | hx
      · exact ⟨(ne_of_none h2.ob hb).symm, (ne_of_none h2.pl hb).symm, (ne_of_none h2.st hb).symm⟩
      · exact (f x hx).2
theorem Tw.ext (h : Tw K C H s1 s2 k1 k2 av) (d0 : DrawAt H p a) : ∃ xs : List Addr, (∀ x ∈ xs, ∃ o, H x = some o) ∧ ∀ H', Go (xs ++ av) p a H H' → Tw K C H' s1 s2 k1 k2 av := by
  obtain ⟨dx1, P1, w1, S1, rs1, dx2, P2, w2, S2, rs2, h1, h2, d, f⟩ := h.ex
  have n1 := h1.np d0
  have n2 := h2.np d0
  refine ⟨[s1, P1, S1, s2, P2, S2], fun x hx => ?_, fun H' g => ⟨dx1, P1, w1, S1, rs1, dx2, P2, w2, S2, rs2, h1.move g.t fun b o hb hc => ?_, h2.move g.t fun b o hb hc => ?_, d, f⟩⟩
  · simp only [List.mem_cons, List.not_mem_nil, or_false] at hx
    rcases hx with rfl | rfl | rfl | rfl | rfl | rfl
    · exact ⟨_, h1.ob⟩
    · exact ⟨_, h1.pl⟩
    · exact ⟨_, h1.st⟩
    · exact ⟨_, h2.ob⟩
    · exact ⟨_, h2.pl⟩
    · exact ⟨_, h2.st⟩
  · rcases hc with z | z | z
    · subst z; exact g.fr _ (by simp) _ hb n1.1.symm
    · subst z; exact g.fr _ (by simp) _ hb n1.2.1.symm
    · subst z; exact g.fr _ (by simp) _ hb n1.2.2.symm
  · rcases hc with z | z | z
    · subst z; exact g.fr _ (by simp) _ hb n2.1.symm
    · subst z; exact g.fr _ (by simp) _ hb n2.2.1.symm
    · subst z; exact g.fr _ (by simp) _ hb n2.2.2.symm
theorem Tw.put {E : Addr} {xs ys : List V} (h : Tw K C H s1 s2 k1 k2 av) (hE : E ∈ av) (e : H E = some (.lst xs)) : Tw K C (upd H E (.lst ys)) s1 s2 k1 k2 av := by
  obtain ⟨dx1, P1, w1, S1, rs1, dx2, P2, w2, S2, rs2, h1, h2, d, f⟩ := h.ex
  have n := f E hE
  refine ⟨dx1, P1, w1, S1, rs1, dx2, P2, w2, S2, rs2, h1.move (tps_put e) fun b o hb hc => ?_, h2.move (tps_put e) fun b o hb hc => ?_, d, f⟩
  · rw [upd_ne (fun z => by
      subst z
      rcases hc with z | z | z
      · exact n.1.1 z
      · exact n.1.2.1 z
      · exact n.1.2.2 z)]
    exact hb
  · rw [upd_ne (fun z => by
      subst z
      rcases hc with z | z | z
      · exact n.2.1 z
      · exact n.2.2.1 z
      · exact n.2.2.2 z)]
    exact hb
theorem draw_put {E : Addr} {o : HO} (d : DrawAt H p a) (np : E ≠ p) (na : E ≠ a) : DrawAt (upd H E o) p a := by
  obtain ⟨ns, pos, pend, seed, e1, e2, e3, e4⟩ := d
  exact ⟨ns, pos, pend, seed, by rw [upd_ne np.symm]; exact e1, by rw [upd_ne na.symm]; exact e2, e3, e4⟩
end
/-- the law's fixed addresses -/
structure F34 where
  (p a KD ST KE k0 k1 s0 s1 : Addr)
  (ks0 ks1 : List V)
  (n0 n1 : Nat)
structure F34.Ok (f : F34) : Prop where
  (nKD : f.KD ≠ f.p) (nST : f.ST ≠ f.p) (nKE : f.KE ≠ f.p) (nk0 : f.k0 ≠ f.p) (nk1 : f.k1 ≠ f.p)
  (eKD : f.KD ≠ f.KE) (eST : f.ST ≠ f.KE) (ek0 : f.k0 ≠ f.KE) (ek1 : f.k1 ≠ f.KE) (ea : f.a ≠ f.KE)
  (sk0 : Strs f.ks0) (sk1 : Strs f.ks1) (l0 : f.ks0.length = f.n0) (l1 : f.ks1.length = f.n1) (p0 : 0 < f.n0) (p1 : 0 < f.n1)
def F34.av (f : F34) : List Addr := [f.a, f.KD, f.ST, f.KE, f.k0, f.k1]
structure L34 (K : PySem.W.Frag) (C : Addr) (f : F34) (H : Hp) (L0 L1 : Addr) (c0 c1 : KS) : Prop where
  d : DrawAt H f.p f.a
  hKD : H f.KD = some (.lst [.ref f.k0, .ref f.k1])
  hST : H f.ST = some (.lst [.ref f.s0, .ref f.s1])
  hKE : H f.KE = some (.lst [.ref L0, .ref L1])
  h0 : H f.k0 = some (.lst f.ks0)
  h1 : H f.k1 = some (.lst f.ks1)
  tw : Tw K C H f.s0 f.s1 c0 c1 (L0 :: L1 :: f.av)
  l0 : LD K H L0 (c0.map kD)
  l1 : LD K H L1 (c1.map kD)
  o0 : KeptOk f.n0 c0
  o1 : KeptOk f.n1 c1
  n0 : L0 ≠ f.p ∧ L0 ≠ f.KE
  n1 : L1 ≠ f.p ∧ L1 ≠ f.KE
theorem L34.same {K : PySem.W.Frag} {C : Addr} {f : F34} {H H' : Hp} {L0 L1 : Addr} {c0 c1 : KS} (h : L34 K C f H L0 L1 c0 c1) (s : Same H H') : L34 K C f H' L0 L1 c0 c1 :=
  ⟨h.d.same s, s _ _ h.hKD, s _ _ h.hST, s _ _ h.hKE, s _ _ h.h0, s _ _ h.h1, h.tw.same s, h.l0.same s, h.l1.same s, h.o0, h.o1, h.n0, h.n1⟩
theorem L34.drew {K : PySem.W.Frag} {C : Addr} {f : F34} {H H' : Hp} {L0 L1 : Addr} {c0 c1 : KS} (ok : f.Ok) (h : L34 K C f H L0 L1 c0 c1) (w : Drew f.p f.a H H') : L34 K C f H' L0 L1 c0 c1 :=
  ⟨w.at_, w.kp _ _ h.hKD ok.nKD, w.kp _ _ h.hST ok.nST, w.kp _ _ h.hKE ok.nKE, w.kp _ _ h.h0 ok.nk0, w.kp _ _ h.h1 ok.nk1, h.tw.drew h.d w, h.l0.drew h.d w h.n0.1, h.l1.drew h.d w h.n1.1, h.o0, h.o1, h.n0, h.n1⟩
theorem L34.ex {K : PySem.W.Frag} {C : Addr} {f : F34} {H : Hp} {L0 L1 : Addr} {c0 c1 : KS} (h : L34 K C f H L0 L1 c0 c1) : ∀ x ∈ L0 :: L1 :: f.av, ∃ o, H x = some o := fun x hx => by
  unfold F34.av at hx
  simp only [List.mem_cons, List.not_mem_nil, or_false] at hx
  rcases hx with rfl | rfl | rfl | rfl | rfl | rfl | rfl | rfl
  · obtain ⟨u, hu, _⟩ := h.l0
    exact ⟨_, hu⟩
  · obtain ⟨u, hu, _⟩ := h.l1
    exact ⟨_, hu⟩
  · obtain ⟨ns, pos, pend, seed, e1, e2, _⟩ := h.d
    exact ⟨_, e2⟩
  · exact ⟨_, h.hKD⟩
  · exact ⟨_, h.hST⟩
  · exact ⟨_, h.hKE⟩
  · exact ⟨_, h.h0⟩
  · exact ⟨_, h.h1⟩
/-- behind a thing that leaves all of the law's -/
theorem L34.go {K : PySem.W.Frag} {C : Addr} {f : F34} {H H' : Hp} {L0 L1 : Addr} {c0 c1 : KS} (ok : f.Ok) (h : L34 K C f H L0 L1 c0 c1) {av : List Addr} (g : Go av f.p f.a H H') (ha : ∀ x ∈ L0 :: L1 :: f.av, x ∈ av) (tw : Tw K C H' f.s0 f.s1 c0 c1 (L0 :: L1 :: f.av)) : L34 K C f H' L0 L1 c0 c1 :=
  ⟨g.d, g.fr _ (ha _ (by simp [F34.av])) _ h.hKD ok.nKD, g.fr _ (ha _ (by simp [F34.av])) _ h.hST ok.nST, g.fr _ (ha _ (by simp [F34.av])) _ h.hKE ok.nKE, g.fr _ (ha _ (by simp [F34.av])) _ h.h0 ok.nk0, g.fr _ (ha _ (by simp [F34.av])) _ h.h1 ok.nk1, tw,
    h.l0.go g (ha _ (by simp)) h.n0.1, h.l1.go g (ha _ (by simp)) h.n1.1, h.o0, h.o1, h.n0, h.n1⟩
theorem L34.done0 {K : PySem.W.Frag} {C : Addr} {f : F34} {H : Hp} {L0 L1 : Addr} {c0 c1 : KS} {Q : VK} {E : XK} (ok : f.Ok) (h : L34 K C f H L0 L1 c0 c1)
    (q : ∀ (L' : Addr) (c' : KS) H', H' f.KE = some (.lst [.ref L0, .ref L1]) → L34 K C f (upd H' f.KE (.lst [.ref L', .ref L1])) L' L1 c' c1 → Q (.ref L') H') : sp__law_done K C [.ref f.p, .ref f.s0, .ref f.k0, .ref L0] H Q E := by
  obtain ⟨x1, x2, x3, st, e1, e2, e3, back⟩ := h.tw.deedL h.d
  have hex : ∀ x ∈ x1 :: x2 :: x3 :: L0 :: L1 :: f.av, ∃ o, H x = some o := fun x hx => by
    rcases List.mem_cons.mp hx with rfl | hx
    · exact e1
    rcases List.mem_cons.mp hx with rfl | hx
    · exact e2
    rcases List.mem_cons.mp hx with rfl | hx
    · exact e3
    · exact h.ex x hx
  refine ⟨f.p, f.a, f.s0, f.k0, L0, f.ks0, c0, f.n0, _, rfl, h.d, st, by simp [F34.av], by simp [F34.av], by simp, ok.nk0, h.n0.1, hex, h.h0, ok.sk0, ok.l0, ok.p0, h.l0, h.o0, fun L' c' H' g hL' hl' ko' st' => ?_⟩
  have mem : ∀ x ∈ L0 :: L1 :: f.av, x ∈ x1 :: x2 :: x3 :: L0 :: L1 :: f.av := fun x hx => by simp [hx]
  have tw := (back H' c' L' hL' g st')
  have hKE := g.fr _ (mem _ (by simp [F34.av])) _ h.hKE ok.nKE
  have nLp : L' ≠ f.p := h.d.ne_none hL'
  have nLE : L' ≠ f.KE := (ne_of_none h.hKE hL').symm
  have fr : ∀ b o, b ∈ L0 :: L1 :: f.av → H b = some o → b ≠ f.p → b ≠ f.KE → upd H' f.KE (.lst [.ref L', .ref L1]) b = some o := fun b o hb hh n1 n2 => by
    rw [upd_ne n2]
    exact g.fr b (mem b hb) o hh n1
  have lput : ∀ (L : Addr) (c : KS), L ≠ f.KE → LD K H' L (c.map kD) → LD K (upd H' f.KE (.lst [.ref L', .ref L1])) L (c.map kD) := fun L c n hl => by
    obtain ⟨us, u1, u2⟩ := hl
    exact ⟨us, by rw [upd_ne n]; exact u1, u2.tps (tps_put hKE)⟩
  refine q L' c' H' hKE ⟨draw_put g.d ok.nKE ok.ea.symm, fr _ _ (by simp [F34.av]) h.hKD ok.nKD ok.eKD, fr _ _ (by simp [F34.av]) h.hST ok.nST ok.eST, upd_same, fr _ _ (by simp [F34.av]) h.h0 ok.nk0 ok.ek0, fr _ _ (by simp [F34.av]) h.h1 ok.nk1 ok.ek1, ?_, lput _ _ nLE hl', lput _ _ h.n1.2 (h.l1.go g (by simp) h.n1.1), ko', h.o1, ⟨nLp, nLE⟩, h.n1⟩
  exact (tw.weak (av' := L' :: L1 :: f.av) (fun b hb => by simp only [List.mem_cons] at hb ⊢; rcases hb with h | h | h <;> simp [h])).put (by simp [F34.av]) hKE
theorem L34.done1 {K : PySem.W.Frag} {C : Addr} {f : F34} {H : Hp} {L0 L1 : Addr} {c0 c1 : KS} {Q : VK} {E : XK} (ok : f.Ok) (h : L34 K C f H L0 L1 c0 c1)
    (q : ∀ (L' : Addr) (c' : KS) H', H' f.KE = some (.lst [.ref L0, .ref L1]) → L34 K C f (upd H' f.KE (.lst [.ref L0, .ref L'])) L0 L' c0 c' → Q (.ref L') H') : sp__law_done K C [.ref f.p, .ref f.s1, .ref f.k1, .ref L1] H Q E := by
  obtain ⟨x1, x2, x3, st, e1, e2, e3, back⟩ := h.tw.swap.deedL h.d
  have hex : ∀ x ∈ x1 :: x2 :: x3 :: L0 :: L1 :: f.av, ∃ o, H x = some o := fun x hx => by
    rcases List.mem_cons.mp hx with rfl | hx
    · exact e1
    rcases List.mem_cons.mp hx with rfl | hx
    · exact e2
    rcases List.mem_cons.mp hx with rfl | hx
    · exact e3
    · exact h.ex x hx
  refine ⟨f.p, f.a, f.s1, f.k1, L1, f.ks1, c1, f.n1, _, rfl, h.d, st, by simp [F34.av], by simp [F34.av], by simp, ok.nk1, h.n1.1, hex, h.h1, ok.sk1, ok.l1, ok.p1, h.l1, h.o1, fun L' c' H' g hL' hl' ko' st' => ?_⟩
  have mem : ∀ x ∈ L0 :: L1 :: f.av, x ∈ x1 :: x2 :: x3 :: L0 :: L1 :: f.av := fun x hx => by simp [hx]
  have tw := (back H' c' L' hL' g st').swap
  have hKE := g.fr _ (mem _ (by simp [F34.av])) _ h.hKE ok.nKE
  have nLp : L' ≠ f.p := h.d.ne_none hL'
  have nLE : L' ≠ f.KE := (ne_of_none h.hKE hL').symm
  have fr : ∀ b o, b ∈ L0 :: L1 :: f.av → H b = some o → b ≠ f.p → b ≠ f.KE → upd H' f.KE (.lst [.ref L0, .ref L']) b = some o := fun b o hb hh n1 n2 => by
    rw [upd_ne n2]
    exact g.fr b (mem b hb) o hh n1
  have lput : ∀ (L : Addr) (c : KS), L ≠ f.KE → LD K H' L (c.map kD) → LD K (upd H' f.KE (.lst [.ref L0, .ref L'])) L (c.map kD) := fun L c n hl => by
    obtain ⟨us, u1, u2⟩ := hl
    exact ⟨us, by rw [upd_ne n]; exact u1, u2.tps (tps_put hKE)⟩
  refine q L' c' H' hKE ⟨draw_put g.d ok.nKE ok.ea.symm, fr _ _ (by simp [F34.av]) h.hKD ok.nKD ok.eKD, fr _ _ (by simp [F34.av]) h.hST ok.nST ok.eST, upd_same, fr _ _ (by simp [F34.av]) h.h0 ok.nk0 ok.ek0, fr _ _ (by simp [F34.av]) h.h1 ok.nk1 ok.ek1, ?_, lput _ _ h.n0.2 (h.l0.go g (by simp) h.n0.1), lput _ _ nLE hl', h.o0, ko', h.n0, ⟨nLp, nLE⟩⟩
  exact (tw.weak (av' := L0 :: L' :: f.av) (fun b hb => by simp only [List.mem_cons] at hb ⊢; rcases hb with h | h | h <;> simp [h])).put (by simp [F34.av]) hKE


def sp_law (K : PySem.W.Frag) : Sp := fun vs H Q _ => ∃ (a : Addr) (ns : List Int), vs = [.ref a] ∧ SqL K H a (ns.map V.int) ∧ ns.length ≤ 63 ∧ ∀ H', Q (.bl true) H'
theorem ok_law {P : Program} {w : World} {K : PySem.W.Frag} {mg : Str → Option Value} {base : Heap} {C_Store : Addr} {C_NoState : Addr} {f : Addr} {fd : FuncData} (F : Df K mg "law" s_law f fd ["script"]) (T : Txt K mg C_Store C_NoState)
    (c__law_begin : Cl P w K mg base 1 "_law_begin" (sp__law_begin K))
    (c__law_rare : Cl P w K mg base 2 "_law_rare" (sp__law_rare K))
    (c__law_layout : Cl P w K mg base 3 "_law_layout" (sp__law_layout K))
    (c_Store___init__ : Mkc P w K mg base 1 C_Store (sp_Store___init__ K C_Store))
    (c__law_draw : Cl P w K mg base 1 "_law_draw" (sp__law_draw K))
    (c__law_done : Cl P w K mg base 6 "_law_done" (sp__law_done K C_Store))
    (c__law_is_all : Cl P w K mg base 5 "_law_is_all" (sp__law_is_all K C_Store))
    (c__law_are_twins : Cl P w K mg base 6 "_law_are_twins" (sp__law_are_twins K C_Store)) : FnOk P w K mg base CX0 7 f fd ["script"] (sp_law K) := by
  refine F.ok sc_law (fun vs H Q E h => ?_) (fun cdv A outer s H vs Q E hr h => ?_)
  · obtain ⟨a, ns, rfl, _⟩ := h
    rfl
  · obtain ⟨a0, ns, rfl, hS, hl, q⟩ := h
    refine ⟨_, (pss_cons (ps_set (i := 1) sc_law.nd rfl (Or.inl rfl) (pe_cl c__law_begin hr (by decide) rfl (pa_cons (pv 0) pa_nil)))
      (pss_cons (ps_set (i := 2) sc_law.nd rfl (Or.inl rfl) (pe_lst (pa_cons (pe_cl c__law_layout hr (by decide) rfl (pa_cons (pv 1) pa_nil)) (pa_cons (pe_cl c__law_layout hr (by decide) rfl (pa_cons (pv 1) pa_nil)) pa_nil))))
      (pss_cons (ps_set (i := 3) sc_law.nd rfl (Or.inl rfl) (pe_lst (pa_cons (pe_mkc0 c_Store___init__ hr (by decide) rfl T.mg_Store) (pa_cons (pe_mkc0 c_Store___init__ hr (by decide) rfl T.mg_Store) pa_nil))))
      (pss_cons (ps_set (i := 4) sc_law.nd rfl (Or.inl rfl) (pe_lst (pa_cons (pe_lst pa_nil) (pa_cons (pe_lst pa_nil) pa_nil))))
      (pss_cons (ps_set (i := 5) sc_law.nd rfl (Or.inl rfl) (pe_op op_add pe_int (pe_cl c__law_draw hr (by decide) rfl (pa_cons (pv 1) (pa_cons pe_int pa_nil)))))
      (pss_cons (ps_if (pt_val (pe_cl c__law_rare hr (by decide) rfl (pa_cons (pv 1) (pa_cons pe_int pa_nil)))) (pss_one (ps_set (i := 5) sc_law.nd rfl (Or.inl rfl) pe_int)) pss_nil)
      (pss_cons (ps_for PassesOwn.never rfl (pi_range1 rfl T.b_range (pa_cons (pv 5) pa_nil)) (pg_name (i := 6) sc_law.nd rfl (Or.inl rfl)) (pss_cons (ps_set (i := 7) sc_law.nd rfl (Or.inl rfl) (pe_op op_mod (pe_callTy (T := "int") c_int (by rfl) T.b_int (by decide +kernel) (pa_cons (pe_op op_add (pe_cl c__law_draw hr (by decide) rfl (pa_cons (pv 1) (pa_cons pe_int pa_nil))) (pv 6)) pa_nil)) pe_int))
      (pss_cons (ps_asg (pe_cl c__law_done hr (by decide) rfl (pa_cons (pv 1) (pa_cons (pe_ix (r := rIxL K) ix_list (pv 3) (pv 7) (fun _ _ => rfl)) (pa_cons (pe_ix (r := rIxL K) ix_list (pv 2) (pv 7) (fun _ _ => rfl)) (pa_cons (pe_ix (r := rIxL K) ix_list (pv 4) (pv 7) (fun _ _ => rfl)) pa_nil))))) (pg_sub (pv 4) (pv 7) set_list))
      (pss_one (ps_if (PW.pt (pw_or (pt_not (pt_val (pe_cl c__law_is_all hr (by decide) rfl (pa_cons (pe_ix (r := rIxL K) ix_list (pv 3) pe_int (fun _ _ => rfl)) (pa_cons (pe_ix (r := rIxL K) ix_list (pv 4) pe_int (fun _ _ => rfl)) pa_nil))))) (pw_or1 (pt_not (pt_val (pe_cl c__law_is_all hr (by decide) rfl (pa_cons (pe_ix (r := rIxL K) ix_list (pv 3) pe_int (fun _ _ => rfl)) (pa_cons (pe_ix (r := rIxL K) ix_list (pv 4) pe_int (fun _ _ => rfl)) pa_nil)))))))) (pss_one (ps_ret pe_bl)) pss_nil)))))
      (pss_cons (ps_for PassesOwn.never rfl (pi_range1 rfl T.b_range (pa_cons pe_int pa_nil)) (pg_name (i := 7) sc_law.nd rfl (Or.inl rfl)) (pss_one (ps_if (PW.pt (pw_or (pt_not (pt_val (pe_cl c__law_are_twins hr (by decide) rfl (pa_cons (pv 1) (pa_cons (pe_ix (r := rIxL K) ix_list (pv 4) (pv 7) (fun _ _ => rfl)) pa_nil))))) (pw_or1 (pt_not (pt_val (pe_cl c__law_is_all hr (by decide) rfl (pa_cons (pe_ix (r := rIxL K) ix_list (pv 3) (pv 7) (fun _ _ => rfl)) (pa_cons (pe_ix (r := rIxL K) ix_list (pv 4) (pv 7) (fun _ _ => rfl)) pa_nil)))))))) (pss_one (ps_ret pe_bl)) pss_nil)))
      (pss_one (ps_ret pe_bl)))))))))), ?_⟩
    try dsimp only [cxOf, Cx.nox, Cx.wish]
    refine st_of (σ' := [some _, none, none, none, none, none, none, none]) rfl ?_
    wtm_at "jw"
    refine ⟨a0, ns, rfl, hS, hl, fun p a H0 s0' hp ha d0 => ?_⟩
    wtm_at "jw"
    refine ⟨p, a, rfl, d0, fun k0 ks0 H1 w1 fk0 hk0 sk0 p0 q0 => ?_⟩
    have nk0 := d0.ne_none fk0
    wtm_at "jw"
    refine ⟨p, a, rfl, w1.at_, fun k1 ks1 H2 w2 fk1 hk1 sk1 p1 q1 => ?_⟩
    have nk1 := w1.at_.ne_none fk1
    have hk02 := w2.kp _ _ hk0 nk0
    wtm_at "jw"
    intro KD hKD
    have nKD := w2.at_.ne_none hKD
    have s3 := same_new (o := .lst [V.ref k0, .ref k1]) hKD
    have hKD3 : upd H2 KD (.lst [V.ref k0, .ref k1]) KD = some (.lst [.ref k0, .ref k1]) := upd_same
    have d3 := w2.at_.same s3
    have hk03 := s3 _ _ hk02
    have hk13 := s3 _ _ hk1
    generalize upd H2 KD (.lst [V.ref k0, .ref k1]) = H3 at s3 hKD3 d3 hk03 hk13 ⊢
    wtm_at "jw"
    intro st0 dx0 hst0 hdx0 ndx0
    refine ⟨st0, dx0, rfl, upd_same, fun P0 w0 S0 H4 sA0 fr0 nP0 nS0 => ⟨rfl, ?_⟩⟩
    have s34 : Same H3 H4 := fun b o hb => fr0 b o (by rw [upd_ne (ne_of_none hb hst0), upd_ne (ne_of_none hb hdx0)]; exact hb) (ne_of_none hb hst0)
    wtm_at "jw"
    intro st1 dx1 hst1 hdx1 ndx1
    refine ⟨st1, dx1, rfl, upd_same, fun P1 w1' S1 H5 sA1 fr1 nP1 nS1 => ⟨rfl, ?_⟩⟩
    have s45 : Same H4 H5 := fun b o hb => fr1 b o (by rw [upd_ne (ne_of_none hb hst1), upd_ne (ne_of_none hb hdx1)]; exact hb) (ne_of_none hb hst1)
    have fre0 : ∀ b, upd (upd H3 dx0 (.own st0)) st0 (.ins C_Store dx0 []) b = none → H3 b = none := fun b hb => by
      cases e : H3 b with
      | none => rfl
      | some o => rw [upd_ne (ne_of_none e hst0), upd_ne (ne_of_none e hdx0), e] at hb; cases hb
    have fre1 : ∀ b, upd (upd H4 dx1 (.own st1)) st1 (.ins C_Store dx1 []) b = none → H4 b = none := fun b hb => by
      cases e : H4 b with
      | none => rfl
      | some o => rw [upd_ne (ne_of_none e hst1), upd_ne (ne_of_none e hdx1), e] at hb; cases hb
    have hex3 : ∀ x ∈ [a, KD, k0, k1], ∃ o, H3 x = some o := fun x hx => by
      simp only [List.mem_cons, List.not_mem_nil, or_false] at hx
      rcases hx with rfl | rfl | rfl | rfl
      · obtain ⟨ns, pos, pend, seed, e1, e2, _⟩ := d3
        exact ⟨_, e2⟩
      · exact ⟨_, hKD3⟩
      · exact ⟨_, hk03⟩
      · exact ⟨_, hk13⟩
    have tw5 : Tw K C_Store H5 st0 st1 [] [] [a, KD, k0, k1] := by
      have nP1' := fre1 _ nP1
      have nS1' := fre1 _ nS1
      have nP0' := fre0 _ nP0
      have nS0' := fre0 _ nS0
      refine ⟨dx0, P0, w0, S0, [], dx1, P1, w1', S1, [], sA0.same s45, sA1, fun x hx => ?_, fun x hx => ?_⟩
      · simp only [List.mem_cons, List.not_mem_nil, or_false] at hx
        rcases hx with rfl | rfl | rfl
        · exact ⟨(ne_of_none sA0.ob hst1).symm, (ne_of_none sA0.pl hst1).symm, (ne_of_none sA0.st hst1).symm⟩
        · exact ⟨(ne_of_none sA0.ob nP1').symm, (ne_of_none sA0.pl nP1').symm, (ne_of_none sA0.st nP1').symm⟩
        · exact ⟨(ne_of_none sA0.ob nS1').symm, (ne_of_none sA0.pl nS1').symm, (ne_of_none sA0.st nS1').symm⟩
      · obtain ⟨o, ho⟩ := hex3 x hx
        exact ⟨⟨ne_of_none ho hst0, ne_of_none ho nP0', ne_of_none ho nS0'⟩, ne_of_none (s34 _ _ ho) hst1, ne_of_none (s34 _ _ ho) nP1', ne_of_none (s34 _ _ ho) nS1'⟩
    have s35 : Same H3 H5 := fun b o hb => s45 _ _ (s34 _ _ hb)
    have d5 := d3.same s35
    have hKD5 := s35 _ _ hKD3
    have hk05 := s35 _ _ hk03
    have hk15 := s35 _ _ hk13
    clear sA0 sA1 fr0 fr1 fre0 fre1
    wtm_at "jw"
    intro ST hST
    have nST := d5.ne_none hST
    have s6 := same_new (o := .lst [V.ref st0, .ref st1]) hST
    have hST6 : upd H5 ST (.lst [V.ref st0, .ref st1]) ST = some (.lst [.ref st0, .ref st1]) := upd_same
    have tw6 := (tw5.add hST).same s6
    generalize upd H5 ST (.lst [V.ref st0, .ref st1]) = H6 at s6 hST6 tw6 ⊢
    wtm_at "jw"
    intro L0 hL0
    have d6 := d5.same s6
    have nL0 := d6.ne_none hL0
    have s7 := same_new (o := .lst []) hL0
    have hL07 : upd H6 L0 (.lst []) L0 = some (.lst []) := upd_same
    have tw7 := (tw6.add hL0).same s7
    generalize upd H6 L0 (.lst []) = H7 at s7 hL07 tw7 ⊢
    wtm_at "jw"
    intro L1 hL1
    have d7 := d6.same s7
    have nL1 := d7.ne_none hL1
    have s8 := same_new (o := .lst []) hL1
    have hL18 : upd H7 L1 (.lst []) L1 = some (.lst []) := upd_same
    have tw8 := (tw7.add hL1).same s8
    have hL08 := s8 _ _ hL07
    generalize upd H7 L1 (.lst []) = H8 at s8 hL18 hL08 tw8 ⊢
    wtm_at "jw"
    intro KE hKE
    have d8 := d7.same s8
    have nKE := d8.ne_none hKE
    have s9 := same_new (o := .lst [V.ref L0, .ref L1]) hKE
    have hKE9 : upd H8 KE (.lst [V.ref L0, .ref L1]) KE = some (.lst [.ref L0, .ref L1]) := upd_same
    have tw9 := (tw8.add hKE).same s9
    have s58 : Same H5 H8 := fun b o hb => s8 _ _ (s7 _ _ (s6 _ _ hb))
    generalize ef : (⟨p, a, KD, ST, KE, k0, k1, st0, st1, ks0, ks1, ks0.length, ks1.length⟩ : F34) = f
    have ok : f.Ok := by
      subst ef
      refine ⟨nKD, nST, nKE, nk0, nk1, ne_of_none (s58 _ _ hKD5) hKE, ne_of_none (s8 _ _ (s7 _ _ hST6)) hKE, ne_of_none (s58 _ _ hk05) hKE, ne_of_none (s58 _ _ hk15) hKE, ?_, sk0, sk1, rfl, rfl, p0, p1⟩
      obtain ⟨ns, pos, pend, seed, e1, e2, _⟩ := d8
      exact ne_of_none e2 hKE
    have nok : ∀ m, m ≤ 60 → KeptOk m [] := fun m hm => ⟨List.Pairwise.nil, fun _ h => absurd h List.not_mem_nil, fun _ h => absurd h List.not_mem_nil, hm⟩
    have st9 : L34 K C_Store f (upd H8 KE (.lst [V.ref L0, .ref L1])) L0 L1 [] [] := by
      subst ef
      refine ⟨d8.same s9, s9 _ _ (s58 _ _ hKD5), s9 _ _ (s8 _ _ (s7 _ _ hST6)), hKE9, s9 _ _ (s58 _ _ hk05), s9 _ _ (s58 _ _ hk15), tw9.weak (by simp [F34.av]), ⟨[], s9 _ _ hL08, .nil⟩, ⟨[], s9 _ _ hL18, .nil⟩, nok _ q0, nok _ q1, ⟨nL0, ne_of_none hL08 hKE⟩, nL1, ne_of_none hL18 hKE⟩
    generalize upd H8 KE (.lst [V.ref L0, .ref L1]) = H9 at st9 ⊢
    have ep : f.p = p := by subst ef; rfl
    have ea : f.a = a := by subst ef; rfl
    have eKD : f.KD = KD := by subst ef; rfl
    have eST : f.ST = ST := by subst ef; rfl
    have eKE : f.KE = KE := by subst ef; rfl
    have es0 : f.s0 = st0 := by subst ef; rfl
    have es1 : f.s1 = st1 := by subst ef; rfl
    have ek0 : f.k0 = k0 := by subst ef; rfl
    have ek1 : f.k1 = k1 := by subst ef; rfl
    clear ef tw5 tw6 tw7 tw8 tw9 hL07 hL08 hL18 hKE9 hST6 hKD5 hk05 hk15 hKD3 hk03 hk13 hk02 hk0 hk1 nKD nST nKE nk0 nk1 sk0 sk1
    subst ep ea eKD eST eKE es0 es1 ek0 ek1
    wtm_at "jw"
    refine drawL st9.d.drew (by omega) (by omega) fun z H10 z0 z1 e10 w10 => ?_
    have st10 := st9.drew ok w10
    obtain ⟨zn, rfl⟩ : ∃ m : Nat, z = (m : Int) := ⟨z.toNat, by omega⟩
    wtm_at "js"
    refine i_ifC (fun σ' H' => L34 K C_Store f H' L0 L1 [] [] ∧ ∃ m : Nat, m ≤ 100 ∧ σ' = [some (.ref a0), some (.ref f.p), some (.ref f.KD), some (.ref f.ST), some (.ref f.KE), some (.int (m : Int)), none, none]) (fun σ' H' h => ?_) (fun N hN => ?_)
    · obtain ⟨st11, m, hm, rfl⟩ := h
      wtm_at "jw"
      refine f_range (fun i σ H' => ∃ L0 L1 c0 c1 v6 v7, L34 K C_Store f H' L0 L1 c0 c1 ∧ σ = [some (.ref a0), some (.ref f.p), some (.ref f.KD), some (.ref f.ST), some (.ref f.KE), some (.int (m : Int)), v6, v7]) ⟨L0, L1, [], [], none, none, st11, rfl⟩ (fun i σ H' hi h => ?_) (fun σ H' h => ?_)
      · obtain ⟨L0, L1, c0, c1, v6, v7, st, rfl⟩ := h
        wtm_at "jw"
        refine drawL st.d.drew (by omega) (by omega) fun g H2 g0 g1 e2 w2 => ?_
        have st2 := st.drew ok w2
        have hST2 := st2.hST
        have hKD2 := st2.hKD
        have hKE2 := st2.hKE
        wtm_at "jw"
        rcases (show (g + ((0 : Int) + (i : Int))) % 2 = 0 ∨ (g + ((0 : Int) + (i : Int))) % 2 = 1 from by omega) with ev | ev
        · rw [ev]
          wtm_at "jw"
          refine L34.done0 ok st2 fun L' c' H3 hKE3 st3 => ?_
          have st3' : L34 K C_Store f (upd H3 f.KE (.lst ([V.ref L0, .ref L1].set (Int.toNat 0) (.ref L')))) L' L1 c' c1 := st3
          wtm_at "jw"
          generalize upd H3 f.KE (.lst ([V.ref L0, .ref L1].set (Int.toNat 0) (.ref L'))) = H4 at st3' ⊢
          have hST4 := st3'.hST
          have hKE4 := st3'.hKE
          wtm_at "jw"
          refine ⟨_, _, _, _, f.n0, rfl, st3'.tw.one, st3'.l0, st3'.o0, fun H5 s5 => ?_⟩
          have st5 := st3'.same s5
          have hST5 := st5.hST
          have hKE5 := st5.hKE
          wtm_at "jw"
          refine ⟨_, _, _, _, f.n1, rfl, st5.tw.swap.one, st5.l1, st5.o1, fun H6 s6 => ?_⟩
          wtm_at "jw"
          exact ⟨_, _, _, _, _, _, st5.same s6, rfl⟩
        · rw [ev]
          wtm_at "jw"
          refine L34.done1 ok st2 fun L' c' H3 hKE3 st3 => ?_
          have st3' : L34 K C_Store f (upd H3 f.KE (.lst ([V.ref L0, .ref L1].set (Int.toNat 1) (.ref L')))) L0 L' c0 c' := st3
          wtm_at "jw"
          generalize upd H3 f.KE (.lst ([V.ref L0, .ref L1].set (Int.toNat 1) (.ref L'))) = H4 at st3' ⊢
          have hST4 := st3'.hST
          have hKE4 := st3'.hKE
          wtm_at "jw"
          refine ⟨_, _, _, _, f.n0, rfl, st3'.tw.one, st3'.l0, st3'.o0, fun H5 s5 => ?_⟩
          have st5 := st3'.same s5
          have hST5 := st5.hST
          have hKE5 := st5.hKE
          wtm_at "jw"
          refine ⟨_, _, _, _, f.n1, rfl, st5.tw.swap.one, st5.l1, st5.o1, fun H6 s6 => ?_⟩
          wtm_at "jw"
          exact ⟨_, _, _, _, _, _, st5.same s6, rfl⟩
      · obtain ⟨L0, L1, c0, c1, v6, v7, st, rfl⟩ := h
        wtm_at "jw"
        refine f_range (fun i σ H' => ∃ w7, L34 K C_Store f H' L0 L1 c0 c1 ∧ σ = [some (.ref a0), some (.ref f.p), some (.ref f.KD), some (.ref f.ST), some (.ref f.KE), some (.int (m : Int)), v6, w7]) ⟨_, st, rfl⟩ (fun i σ H2 hi h => ?_) (fun σ H2 h => ?_)
        · obtain ⟨w7, st2, rfl⟩ := h
          have hST2 := st2.hST
          have hKE2 := st2.hKE
          rcases (show i = 0 ∨ i = 1 from by omega) with rfl | rfl
          · wtm_at "jw"
            obtain ⟨xs, hxs, back⟩ := st2.tw.ext st2.d
            refine ⟨f.p, f.a, L0, c0, f.n0, xs ++ (L0 :: L1 :: f.av), rfl, st2.d, by simp [F34.av], by simp, st2.n0.1, fun x hx => ?_, st2.l0, st2.o0, fun H3 g3 => ?_⟩
            · rcases List.mem_append.mp hx with hx | hx
              · exact hxs x hx
              · exact st2.ex x hx
            have st3 := st2.go ok g3 (fun x hx => List.mem_append.mpr (.inr hx)) (back _ g3)
            have hST3 := st3.hST
            have hKE3 := st3.hKE
            wtm_at "jw"
            refine ⟨_, _, _, _, f.n0, rfl, st3.tw.one, st3.l0, st3.o0, fun H4 s4 => ?_⟩
            wtm_at "jw"
            exact ⟨_, st3.same s4, rfl⟩
          · wtm_at "jw"
            obtain ⟨xs, hxs, back⟩ := st2.tw.ext st2.d
            refine ⟨f.p, f.a, L1, c1, f.n1, xs ++ (L0 :: L1 :: f.av), rfl, st2.d, by simp [F34.av], by simp, st2.n1.1, fun x hx => ?_, st2.l1, st2.o1, fun H3 g3 => ?_⟩
            · rcases List.mem_append.mp hx with hx | hx
              · exact hxs x hx
              · exact st2.ex x hx
            have st3 := st2.go ok g3 (fun x hx => List.mem_append.mpr (.inr hx)) (back _ g3)
            have hST3 := st3.hST
            have hKE3 := st3.hKE
            wtm_at "jw"
            refine ⟨_, _, _, _, f.n1, rfl, st3.tw.swap.one, st3.l1, st3.o1, fun H4 s4 => ?_⟩
            wtm_at "jw"
            exact ⟨_, st3.same s4, rfl⟩
        · wtm_at "jw"
          exact q _
    · wtm_at "jw"
      refine ⟨f.p, f.a, 23, rfl, st10.d, by decide, by decide, fun b H11 w11 => ?_⟩
      have st11 := st10.drew ok w11
      wtm_at "jw"
      refine c_bool (fun e => ?_) (fun e => ?_)
      · wtm_at "jw"
        exact hN _ _ ⟨st11, 60, by decide, rfl⟩
      · wtm_at "jw"
        exact hN _ _ ⟨st11, 3 + zn, by omega, rfl⟩

theorem law_hands {K : PySem.W.Frag} {H : Hp} (a : Addr) (ns : List Int) (hl : ns.length ≤ 63) (hb : ∀ z ∈ ns, Builtin.Int.intBits z ≤ 1048576) (h : SqL K H a (ns.map V.int)) :
    sp_law K [.ref a] H (fun v _ => v = .bl true) fun _ _ _ => False := ⟨a, ns, rfl, h, hl, fun _ => rfl⟩
theorem all_mk {l : PySem.W.OpenLaw} {w : World} {K : PySem.W.Frag} {h : Heap} {mg : Str → Option Value} {fa : Addr} (X : K.In h) (G : h.Ns mainGlobals mg) (hfa : mg "law" = some (.ref fa))
    {C_Store : Addr} (a_Store : PySem.W.nsIn K mainGlobals "Store" = some (some (.ref C_Store)))
    (pg_Store : PySem.W.plainGet K C_Store Str.empty = true) (hd_Store : PySem.W.hasDictIn K C_Store = true) (po_Store : PySem.W.plainOver K C_Store = true) (sa_Store : PySem.W.findIn K (.ref C_Store) "__setattr__" = some (some (.builtin "object.__setattr__"))) (mk_Store : PySem.W.makesIn K C_Store = true) (kc_Store : PySem.W.keepIn K (.ref C_Store) = true)
    (n_Store_places : PySem.W.findIn K (.ref C_Store) "places" = some none)
    (n_Store_whole : PySem.W.findIn K (.ref C_Store) "whole" = some none)
    (n_Store_steps : PySem.W.findIn K (.ref C_Store) "steps" = some none)
    {C_NoState : Addr} (a_NoState : PySem.W.nsIn K mainGlobals "NoState" = some (some (.ref C_NoState)))
    (hx_PE : PySem.W.subIn K (.ref C_NoState) (.type "BaseException") = some true) (hd_PE : PySem.W.hasDictIn K C_NoState = true) (ty_PE : PySem.W.typeIn K (.ref C_NoState) = some (.type "type"))
    (sup_PE : PySem.W.nsIn K mainGlobals "super" = some none) (opq_PE : PySem.W.nsIn K cStatics "thirdparty.any" = some none) (top_PE : (l.prog.main.scope.names.lookup ("super" : Str)).isSome = false)
    (hn_PE : PySem.W.specialIn K (.builtin "object.__class__") "__get__" = some (some (.builtin "getset_descriptor.__get__"))) (ht_PE : PySem.W.takesIn K (.builtin "object.__class__") = some true)
    {nm_NoState q_NoState : Str} {N_NoState : Addr} {bs_NoState bm_NoState : List Value} {sn_NoState : List Str} {sub_NoState : List Value} {ab_NoState : Bool} {col_NoState : Option Bool} {dd_NoState : Option Addr} {k0_NoState k1_NoState k2_NoState k3_NoState k5_NoState : Option Value}
    (xl_NoState : K.lookup C_NoState = some (excClassObj nm_NoState q_NoState C_NoState N_NoState bs_NoState bm_NoState true sn_NoState sub_NoState ab_NoState col_NoState dd_NoState k0_NoState k1_NoState k2_NoState k3_NoState k5_NoState "ValueError.__new__")) (rv_NoState : PySem.HandSPX.refsVE bm_NoState = true)
    (sa_NoState : PySem.W.findIn K (.ref C_NoState) "__setattr__" = some (some (.builtin "object.__setattr__"))) (ex_NoState : PySem.W.subIn K (.ref C_NoState) (.type "BaseException") = some true) (ty_NoState : PySem.W.typeIn K (.ref C_NoState) = some (.type "type")) (kc_NoState : PySem.W.keepIn K (.ref C_NoState) = true)
    {fi_NoState cc_NoState cda_NoState : Addr} {fo_NoState kV_NoState dc_NoState pm_NoState ct_NoState : Value} {fod_NoState fan_NoState : Option Addr} {fsl_NoState : Array (Option Value)} (ii_NoState : PySem.W.findIn K (.ref C_NoState) "__init__" = some (some (.ref fi_NoState))) (it_NoState : PySem.W.typeIn K (.ref fi_NoState) = some (.type "function"))
    (li_NoState : K.lookup fi_NoState = some ⟨fo_NoState, fod_NoState, .func (PySem.W.fnX "__init__" "NoState.__init__" (defArgs s_NoState___init__) (defBody s_NoState___init__) (defScope s_NoState___init__) [("__class__", cc_NoState)] .none kV_NoState dc_NoState pm_NoState fan_NoState (.ref cda_NoState) ct_NoState), fsl_NoState⟩) (ci_NoState : PySem.W.codeIn K (.ref cda_NoState) "NoState.__init__" = true)
    {ce1_NoState : Value} {ce2_NoState : Option Addr} {ce3_NoState : Array (Option Value)} (ce_NoState : K.lookup cc_NoState = some ⟨ce1_NoState, ce2_NoState, .cell (some (.ref C_NoState)), ce3_NoState⟩) {co1_NoState : Value} {co2_NoState : Option Addr} {co3_NoState : Array Value} {co4_NoState : Array (Option Value)} {cf_NoState : Str} {ctf_NoState : Tok} (co_NoState : K.lookup cda_NoState = some ⟨co1_NoState, co2_NoState, .fields co3_NoState, co4_NoState⟩) (cv_NoState : co3_NoState[2]? = some (.str cf_NoState ctf_NoState)) (cm_NoState : ((l.prog.main.file : Str) == cf_NoState) = true)
    (mr_NoState : PySem.W.mroIn K C_NoState (.ref C_NoState) = some true) (up_NoState : PySem.W.ks_superIn K C_NoState C_NoState "__init__" = some (some (.builtin "ValueError.__init__"))) (ve_NoState : PySem.W.subIn K (.ref C_NoState) (.type "ValueError") = some true)
    (ga_NoState : PySem.W.findIn K (.ref C_NoState) "__getattribute__" = some (some (.builtin "BaseException.__getattribute__"))) (gg_NoState : PySem.W.findIn K (.ref C_NoState) "__getattr__" = some none) (ha_NoState : PySem.W.findIn K (.ref C_NoState) "__class__" = some (some (.builtin "object.__class__"))) (hm_NoState : PySem.W.mroIn K C_NoState (.type "object") = some true) (hd_NoState : PySem.W.hasDictIn K C_NoState = true) (ic_NoState : PySem.W.isClsIn K C_NoState = true) (pe_NoState : PySem.W.subIn K (.ref C_NoState) (.ref C_NoState) = some true)
    (nf_NoState_tick : PySem.W.findIn K (.ref C_NoState) "tick" = some none)
    {f__law_begin : Addr} {od__law_begin an__law_begin : Option Addr} {sl__law_begin : Array (Option Value)} {oc__law_begin kV__law_begin dc__law_begin pm__law_begin cd__law_begin ct__law_begin : Value}
    {f__law_draw : Addr} {od__law_draw an__law_draw : Option Addr} {sl__law_draw : Array (Option Value)} {oc__law_draw kV__law_draw dc__law_draw pm__law_draw cd__law_draw ct__law_draw : Value}
    {f__law_rare : Addr} {od__law_rare an__law_rare : Option Addr} {sl__law_rare : Array (Option Value)} {oc__law_rare kV__law_rare dc__law_rare pm__law_rare cd__law_rare ct__law_rare : Value}
    {f__law_pick : Addr} {od__law_pick an__law_pick : Option Addr} {sl__law_pick : Array (Option Value)} {oc__law_pick kV__law_pick dc__law_pick pm__law_pick cd__law_pick ct__law_pick : Value}
    {f__law_layout : Addr} {od__law_layout an__law_layout : Option Addr} {sl__law_layout : Array (Option Value)} {oc__law_layout kV__law_layout dc__law_layout pm__law_layout cd__law_layout ct__law_layout : Value}
    {f_Store___init__ : Addr} {od_Store___init__ an_Store___init__ : Option Addr} {sl_Store___init__ : Array (Option Value)} {oc_Store___init__ kV_Store___init__ dc_Store___init__ pm_Store___init__ cd_Store___init__ ct_Store___init__ : Value}
    {f_Store_number_of : Addr} {od_Store_number_of an_Store_number_of : Option Addr} {sl_Store_number_of : Array (Option Value)} {oc_Store_number_of kV_Store_number_of dc_Store_number_of pm_Store_number_of cd_Store_number_of ct_Store_number_of : Value}
    {f_Store_drop_from : Addr} {od_Store_drop_from an_Store_drop_from : Option Addr} {sl_Store_drop_from : Array (Option Value)} {oc_Store_drop_from kV_Store_drop_from dc_Store_drop_from pm_Store_drop_from cd_Store_drop_from ct_Store_drop_from : Value}
    {f_difference : Addr} {od_difference an_difference : Option Addr} {sl_difference : Array (Option Value)} {oc_difference kV_difference dc_difference pm_difference cd_difference ct_difference : Value}
    {f_changed : Addr} {od_changed an_changed : Option Addr} {sl_changed : Array (Option Value)} {oc_changed kV_changed dc_changed pm_changed cd_changed ct_changed : Value}
    {f_Store_last_state : Addr} {od_Store_last_state an_Store_last_state : Option Addr} {sl_Store_last_state : Array (Option Value)} {oc_Store_last_state kV_Store_last_state dc_Store_last_state pm_Store_last_state cd_Store_last_state ct_Store_last_state : Value}
    {f_Store_keep : Addr} {od_Store_keep an_Store_keep : Option Addr} {sl_Store_keep : Array (Option Value)} {oc_Store_keep kV_Store_keep dc_Store_keep pm_Store_keep cd_Store_keep ct_Store_keep : Value}
    {f__law_some_tick : Addr} {od__law_some_tick an__law_some_tick : Option Addr} {sl__law_some_tick : Array (Option Value)} {oc__law_some_tick kV__law_some_tick dc__law_some_tick pm__law_some_tick cd__law_some_tick ct__law_some_tick : Value}
    {f_Store_has : Addr} {od_Store_has an_Store_has : Option Addr} {sl_Store_has : Array (Option Value)} {oc_Store_has kV_Store_has dc_Store_has pm_Store_has cd_Store_has ct_Store_has : Value}
    {f_Store_state_at : Addr} {od_Store_state_at an_Store_state_at : Option Addr} {sl_Store_state_at : Array (Option Value)} {oc_Store_state_at kV_Store_state_at dc_Store_state_at pm_Store_state_at cd_Store_state_at ct_Store_state_at : Value}
    {f_composed : Addr} {od_composed an_composed : Option Addr} {sl_composed : Array (Option Value)} {oc_composed kV_composed dc_composed pm_composed cd_composed ct_composed : Value}
    {f_thinned : Addr} {od_thinned an_thinned : Option Addr} {sl_thinned : Array (Option Value)} {oc_thinned kV_thinned dc_thinned pm_thinned cd_thinned ct_thinned : Value}
    {f_Store_drop : Addr} {od_Store_drop an_Store_drop : Option Addr} {sl_Store_drop : Array (Option Value)} {oc_Store_drop kV_Store_drop dc_Store_drop pm_Store_drop cd_Store_drop ct_Store_drop : Value}
    {f__law_next_tick : Addr} {od__law_next_tick an__law_next_tick : Option Addr} {sl__law_next_tick : Array (Option Value)} {oc__law_next_tick kV__law_next_tick dc__law_next_tick pm__law_next_tick cd__law_next_tick ct__law_next_tick : Value}
    {f__law_entry : Addr} {od__law_entry an__law_entry : Option Addr} {sl__law_entry : Array (Option Value)} {oc__law_entry kV__law_entry dc__law_entry pm__law_entry cd__law_entry ct__law_entry : Value}
    {f__law_any : Addr} {od__law_any an__law_any : Option Addr} {sl__law_any : Array (Option Value)} {oc__law_any kV__law_any dc__law_any pm__law_any cd__law_any ct__law_any : Value}
    {f__law_mixed : Addr} {od__law_mixed an__law_mixed : Option Addr} {sl__law_mixed : Array (Option Value)} {oc__law_mixed kV__law_mixed dc__law_mixed pm__law_mixed cd__law_mixed ct__law_mixed : Value}
    {f__law_next_state : Addr} {od__law_next_state an__law_next_state : Option Addr} {sl__law_next_state : Array (Option Value)} {oc__law_next_state kV__law_next_state dc__law_next_state pm__law_next_state cd__law_next_state ct__law_next_state : Value}
    {f__law_with : Addr} {od__law_with an__law_with : Option Addr} {sl__law_with : Array (Option Value)} {oc__law_with kV__law_with dc__law_with pm__law_with cd__law_with ct__law_with : Value}
    {f__law_done : Addr} {od__law_done an__law_done : Option Addr} {sl__law_done : Array (Option Value)} {oc__law_done kV__law_done dc__law_done pm__law_done cd__law_done ct__law_done : Value}
    {f_Store_ticks : Addr} {od_Store_ticks an_Store_ticks : Option Addr} {sl_Store_ticks : Array (Option Value)} {oc_Store_ticks kV_Store_ticks dc_Store_ticks pm_Store_ticks cd_Store_ticks ct_Store_ticks : Value}
    {f_Store_size : Addr} {od_Store_size an_Store_size : Option Addr} {sl_Store_size : Array (Option Value)} {oc_Store_size kV_Store_size dc_Store_size pm_Store_size cd_Store_size ct_Store_size : Value}
    {f__law_is_int : Addr} {od__law_is_int an__law_is_int : Option Addr} {sl__law_is_int : Array (Option Value)} {oc__law_is_int kV__law_is_int dc__law_is_int pm__law_is_int cd__law_is_int ct__law_is_int : Value}
    {f__law_is_ints : Addr} {od__law_is_ints an__law_is_ints : Option Addr} {sl__law_is_ints : Array (Option Value)} {oc__law_is_ints kV__law_is_ints dc__law_is_ints pm__law_is_ints cd__law_is_ints ct__law_is_ints : Value}
    {f__law_size : Addr} {od__law_size an__law_size : Option Addr} {sl__law_size : Array (Option Value)} {oc__law_size kV__law_size dc__law_size pm__law_size cd__law_size ct__law_size : Value}
    {f__law_is_missing : Addr} {od__law_is_missing an__law_is_missing : Option Addr} {sl__law_is_missing : Array (Option Value)} {oc__law_is_missing kV__law_is_missing dc__law_is_missing pm__law_is_missing cd__law_is_missing ct__law_is_missing : Value}
    {f__law_is_all : Addr} {od__law_is_all an__law_is_all : Option Addr} {sl__law_is_all : Array (Option Value)} {oc__law_is_all kV__law_is_all dc__law_is_all pm__law_is_all cd__law_is_all ct__law_is_all : Value}
    {f__law_filled : Addr} {od__law_filled an__law_filled : Option Addr} {sl__law_filled : Array (Option Value)} {oc__law_filled kV__law_filled dc__law_filled pm__law_filled cd__law_filled ct__law_filled : Value}
    {f__law_shuffled : Addr} {od__law_shuffled an__law_shuffled : Option Addr} {sl__law_shuffled : Array (Option Value)} {oc__law_shuffled kV__law_shuffled dc__law_shuffled pm__law_shuffled cd__law_shuffled ct__law_shuffled : Value}
    {f__law_are_twins : Addr} {od__law_are_twins an__law_are_twins : Option Addr} {sl__law_are_twins : Array (Option Value)} {oc__law_are_twins kV__law_are_twins dc__law_are_twins pm__law_are_twins cd__law_are_twins ct__law_are_twins : Value}
    {f_law : Addr} {od_law an_law : Option Addr} {sl_law : Array (Option Value)} {oc_law kV_law dc_law pm_law cd_law ct_law : Value}
    (a__law_begin : PySem.W.nsIn K mainGlobals "_law_begin" = some (some (.ref f__law_begin))) (l__law_begin : K.lookup f__law_begin = some ⟨oc__law_begin, od__law_begin, .func (PySem.W.fnOf "_law_begin" "_law_begin" (defArgs s__law_begin) (defBody s__law_begin) (defScope s__law_begin) .none kV__law_begin dc__law_begin pm__law_begin an__law_begin cd__law_begin ct__law_begin), sl__law_begin⟩) (c__law_begin : PySem.W.codeIn K cd__law_begin "_law_begin" = true) (k__law_begin : PySem.W.keepIn K (.ref f__law_begin) = true)
    (a__law_draw : PySem.W.nsIn K mainGlobals "_law_draw" = some (some (.ref f__law_draw))) (l__law_draw : K.lookup f__law_draw = some ⟨oc__law_draw, od__law_draw, .func (PySem.W.fnOf "_law_draw" "_law_draw" (defArgs s__law_draw) (defBody s__law_draw) (defScope s__law_draw) .none kV__law_draw dc__law_draw pm__law_draw an__law_draw cd__law_draw ct__law_draw), sl__law_draw⟩) (c__law_draw : PySem.W.codeIn K cd__law_draw "_law_draw" = true) (k__law_draw : PySem.W.keepIn K (.ref f__law_draw) = true)
    (a__law_rare : PySem.W.nsIn K mainGlobals "_law_rare" = some (some (.ref f__law_rare))) (l__law_rare : K.lookup f__law_rare = some ⟨oc__law_rare, od__law_rare, .func (PySem.W.fnOf "_law_rare" "_law_rare" (defArgs s__law_rare) (defBody s__law_rare) (defScope s__law_rare) .none kV__law_rare dc__law_rare pm__law_rare an__law_rare cd__law_rare ct__law_rare), sl__law_rare⟩) (c__law_rare : PySem.W.codeIn K cd__law_rare "_law_rare" = true) (k__law_rare : PySem.W.keepIn K (.ref f__law_rare) = true)
    (a__law_pick : PySem.W.nsIn K mainGlobals "_law_pick" = some (some (.ref f__law_pick))) (l__law_pick : K.lookup f__law_pick = some ⟨oc__law_pick, od__law_pick, .func (PySem.W.fnOf "_law_pick" "_law_pick" (defArgs s__law_pick) (defBody s__law_pick) (defScope s__law_pick) .none kV__law_pick dc__law_pick pm__law_pick an__law_pick cd__law_pick ct__law_pick), sl__law_pick⟩) (c__law_pick : PySem.W.codeIn K cd__law_pick "_law_pick" = true) (k__law_pick : PySem.W.keepIn K (.ref f__law_pick) = true)
    (a__law_layout : PySem.W.nsIn K mainGlobals "_law_layout" = some (some (.ref f__law_layout))) (l__law_layout : K.lookup f__law_layout = some ⟨oc__law_layout, od__law_layout, .func (PySem.W.fnOf "_law_layout" "_law_layout" (defArgs s__law_layout) (defBody s__law_layout) (defScope s__law_layout) .none kV__law_layout dc__law_layout pm__law_layout an__law_layout cd__law_layout ct__law_layout), sl__law_layout⟩) (c__law_layout : PySem.W.codeIn K cd__law_layout "_law_layout" = true) (k__law_layout : PySem.W.keepIn K (.ref f__law_layout) = true)
    (a_Store___init__ : PySem.W.findIn K (.ref C_Store) "__init__" = some (some (.ref f_Store___init__))) (i_Store___init__ : PySem.W.isFn K (.ref f_Store___init__) = true) (l_Store___init__ : K.lookup f_Store___init__ = some ⟨oc_Store___init__, od_Store___init__, .func (PySem.W.fnOf "__init__" "Store.__init__" (defArgs s_Store___init__) (defBody s_Store___init__) (defScope s_Store___init__) .none kV_Store___init__ dc_Store___init__ pm_Store___init__ an_Store___init__ cd_Store___init__ ct_Store___init__), sl_Store___init__⟩) (c_Store___init__ : PySem.W.codeIn K cd_Store___init__ "Store.__init__" = true) (k_Store___init__ : PySem.W.keepIn K (.ref f_Store___init__) = true)
    (a_Store_number_of : PySem.W.findIn K (.ref C_Store) "number_of" = some (some (.ref f_Store_number_of))) (i_Store_number_of : PySem.W.isFn K (.ref f_Store_number_of) = true) (l_Store_number_of : K.lookup f_Store_number_of = some ⟨oc_Store_number_of, od_Store_number_of, .func (PySem.W.fnOf "number_of" "Store.number_of" (defArgs s_Store_number_of) (defBody s_Store_number_of) (defScope s_Store_number_of) .none kV_Store_number_of dc_Store_number_of pm_Store_number_of an_Store_number_of cd_Store_number_of ct_Store_number_of), sl_Store_number_of⟩) (c_Store_number_of : PySem.W.codeIn K cd_Store_number_of "Store.number_of" = true) (k_Store_number_of : PySem.W.keepIn K (.ref f_Store_number_of) = true)
    (a_Store_drop_from : PySem.W.findIn K (.ref C_Store) "drop_from" = some (some (.ref f_Store_drop_from))) (i_Store_drop_from : PySem.W.isFn K (.ref f_Store_drop_from) = true) (l_Store_drop_from : K.lookup f_Store_drop_from = some ⟨oc_Store_drop_from, od_Store_drop_from, .func (PySem.W.fnOf "drop_from" "Store.drop_from" (defArgs s_Store_drop_from) (defBody s_Store_drop_from) (defScope s_Store_drop_from) .none kV_Store_drop_from dc_Store_drop_from pm_Store_drop_from an_Store_drop_from cd_Store_drop_from ct_Store_drop_from), sl_Store_drop_from⟩) (c_Store_drop_from : PySem.W.codeIn K cd_Store_drop_from "Store.drop_from" = true) (k_Store_drop_from : PySem.W.keepIn K (.ref f_Store_drop_from) = true)
    (a_difference : PySem.W.nsIn K mainGlobals "difference" = some (some (.ref f_difference))) (l_difference : K.lookup f_difference = some ⟨oc_difference, od_difference, .func (PySem.W.fnOf "difference" "difference" (defArgs s_difference) (defBody s_difference) (defScope s_difference) .none kV_difference dc_difference pm_difference an_difference cd_difference ct_difference), sl_difference⟩) (c_difference : PySem.W.codeIn K cd_difference "difference" = true) (k_difference : PySem.W.keepIn K (.ref f_difference) = true)
    (a_changed : PySem.W.nsIn K mainGlobals "changed" = some (some (.ref f_changed))) (l_changed : K.lookup f_changed = some ⟨oc_changed, od_changed, .func (PySem.W.fnOf "changed" "changed" (defArgs s_changed) (defBody s_changed) (defScope s_changed) .none kV_changed dc_changed pm_changed an_changed cd_changed ct_changed), sl_changed⟩) (c_changed : PySem.W.codeIn K cd_changed "changed" = true) (k_changed : PySem.W.keepIn K (.ref f_changed) = true)
    (a_Store_last_state : PySem.W.findIn K (.ref C_Store) "last_state" = some (some (.ref f_Store_last_state))) (i_Store_last_state : PySem.W.isFn K (.ref f_Store_last_state) = true) (l_Store_last_state : K.lookup f_Store_last_state = some ⟨oc_Store_last_state, od_Store_last_state, .func (PySem.W.fnOf "last_state" "Store.last_state" (defArgs s_Store_last_state) (defBody s_Store_last_state) (defScope s_Store_last_state) .none kV_Store_last_state dc_Store_last_state pm_Store_last_state an_Store_last_state cd_Store_last_state ct_Store_last_state), sl_Store_last_state⟩) (c_Store_last_state : PySem.W.codeIn K cd_Store_last_state "Store.last_state" = true) (k_Store_last_state : PySem.W.keepIn K (.ref f_Store_last_state) = true)
    (a_Store_keep : PySem.W.findIn K (.ref C_Store) "keep" = some (some (.ref f_Store_keep))) (i_Store_keep : PySem.W.isFn K (.ref f_Store_keep) = true) (l_Store_keep : K.lookup f_Store_keep = some ⟨oc_Store_keep, od_Store_keep, .func (PySem.W.fnOf "keep" "Store.keep" (defArgs s_Store_keep) (defBody s_Store_keep) (defScope s_Store_keep) .none kV_Store_keep dc_Store_keep pm_Store_keep an_Store_keep cd_Store_keep ct_Store_keep), sl_Store_keep⟩) (c_Store_keep : PySem.W.codeIn K cd_Store_keep "Store.keep" = true) (k_Store_keep : PySem.W.keepIn K (.ref f_Store_keep) = true)
    (a__law_some_tick : PySem.W.nsIn K mainGlobals "_law_some_tick" = some (some (.ref f__law_some_tick))) (l__law_some_tick : K.lookup f__law_some_tick = some ⟨oc__law_some_tick, od__law_some_tick, .func (PySem.W.fnOf "_law_some_tick" "_law_some_tick" (defArgs s__law_some_tick) (defBody s__law_some_tick) (defScope s__law_some_tick) .none kV__law_some_tick dc__law_some_tick pm__law_some_tick an__law_some_tick cd__law_some_tick ct__law_some_tick), sl__law_some_tick⟩) (c__law_some_tick : PySem.W.codeIn K cd__law_some_tick "_law_some_tick" = true) (k__law_some_tick : PySem.W.keepIn K (.ref f__law_some_tick) = true)
    (a_Store_has : PySem.W.findIn K (.ref C_Store) "has" = some (some (.ref f_Store_has))) (i_Store_has : PySem.W.isFn K (.ref f_Store_has) = true) (l_Store_has : K.lookup f_Store_has = some ⟨oc_Store_has, od_Store_has, .func (PySem.W.fnOf "has" "Store.has" (defArgs s_Store_has) (defBody s_Store_has) (defScope s_Store_has) .none kV_Store_has dc_Store_has pm_Store_has an_Store_has cd_Store_has ct_Store_has), sl_Store_has⟩) (c_Store_has : PySem.W.codeIn K cd_Store_has "Store.has" = true) (k_Store_has : PySem.W.keepIn K (.ref f_Store_has) = true)
    (a_Store_state_at : PySem.W.findIn K (.ref C_Store) "state_at" = some (some (.ref f_Store_state_at))) (i_Store_state_at : PySem.W.isFn K (.ref f_Store_state_at) = true) (l_Store_state_at : K.lookup f_Store_state_at = some ⟨oc_Store_state_at, od_Store_state_at, .func (PySem.W.fnOf "state_at" "Store.state_at" (defArgs s_Store_state_at) (defBody s_Store_state_at) (defScope s_Store_state_at) .none kV_Store_state_at dc_Store_state_at pm_Store_state_at an_Store_state_at cd_Store_state_at ct_Store_state_at), sl_Store_state_at⟩) (c_Store_state_at : PySem.W.codeIn K cd_Store_state_at "Store.state_at" = true) (k_Store_state_at : PySem.W.keepIn K (.ref f_Store_state_at) = true)
    (a_composed : PySem.W.nsIn K mainGlobals "composed" = some (some (.ref f_composed))) (l_composed : K.lookup f_composed = some ⟨oc_composed, od_composed, .func (PySem.W.fnOf "composed" "composed" (defArgs s_composed) (defBody s_composed) (defScope s_composed) .none kV_composed dc_composed pm_composed an_composed cd_composed ct_composed), sl_composed⟩) (c_composed : PySem.W.codeIn K cd_composed "composed" = true) (k_composed : PySem.W.keepIn K (.ref f_composed) = true)
    (a_thinned : PySem.W.nsIn K mainGlobals "thinned" = some (some (.ref f_thinned))) (l_thinned : K.lookup f_thinned = some ⟨oc_thinned, od_thinned, .func (PySem.W.fnOf "thinned" "thinned" (defArgs s_thinned) (defBody s_thinned) (defScope s_thinned) .none kV_thinned dc_thinned pm_thinned an_thinned cd_thinned ct_thinned), sl_thinned⟩) (c_thinned : PySem.W.codeIn K cd_thinned "thinned" = true) (k_thinned : PySem.W.keepIn K (.ref f_thinned) = true)
    (a_Store_drop : PySem.W.findIn K (.ref C_Store) "drop" = some (some (.ref f_Store_drop))) (i_Store_drop : PySem.W.isFn K (.ref f_Store_drop) = true) (l_Store_drop : K.lookup f_Store_drop = some ⟨oc_Store_drop, od_Store_drop, .func (PySem.W.fnOf "drop" "Store.drop" (defArgs s_Store_drop) (defBody s_Store_drop) (defScope s_Store_drop) .none kV_Store_drop dc_Store_drop pm_Store_drop an_Store_drop cd_Store_drop ct_Store_drop), sl_Store_drop⟩) (c_Store_drop : PySem.W.codeIn K cd_Store_drop "Store.drop" = true) (k_Store_drop : PySem.W.keepIn K (.ref f_Store_drop) = true)
    (a__law_next_tick : PySem.W.nsIn K mainGlobals "_law_next_tick" = some (some (.ref f__law_next_tick))) (l__law_next_tick : K.lookup f__law_next_tick = some ⟨oc__law_next_tick, od__law_next_tick, .func (PySem.W.fnOf "_law_next_tick" "_law_next_tick" (defArgs s__law_next_tick) (defBody s__law_next_tick) (defScope s__law_next_tick) .none kV__law_next_tick dc__law_next_tick pm__law_next_tick an__law_next_tick cd__law_next_tick ct__law_next_tick), sl__law_next_tick⟩) (c__law_next_tick : PySem.W.codeIn K cd__law_next_tick "_law_next_tick" = true) (k__law_next_tick : PySem.W.keepIn K (.ref f__law_next_tick) = true)
    (a__law_entry : PySem.W.nsIn K mainGlobals "_law_entry" = some (some (.ref f__law_entry))) (l__law_entry : K.lookup f__law_entry = some ⟨oc__law_entry, od__law_entry, .func (PySem.W.fnOf "_law_entry" "_law_entry" (defArgs s__law_entry) (defBody s__law_entry) (defScope s__law_entry) .none kV__law_entry dc__law_entry pm__law_entry an__law_entry cd__law_entry ct__law_entry), sl__law_entry⟩) (c__law_entry : PySem.W.codeIn K cd__law_entry "_law_entry" = true) (k__law_entry : PySem.W.keepIn K (.ref f__law_entry) = true)
    (a__law_any : PySem.W.nsIn K mainGlobals "_law_any" = some (some (.ref f__law_any))) (l__law_any : K.lookup f__law_any = some ⟨oc__law_any, od__law_any, .func (PySem.W.fnOf "_law_any" "_law_any" (defArgs s__law_any) (defBody s__law_any) (defScope s__law_any) .none kV__law_any dc__law_any pm__law_any an__law_any cd__law_any ct__law_any), sl__law_any⟩) (c__law_any : PySem.W.codeIn K cd__law_any "_law_any" = true) (k__law_any : PySem.W.keepIn K (.ref f__law_any) = true)
    (a__law_mixed : PySem.W.nsIn K mainGlobals "_law_mixed" = some (some (.ref f__law_mixed))) (l__law_mixed : K.lookup f__law_mixed = some ⟨oc__law_mixed, od__law_mixed, .func (PySem.W.fnOf "_law_mixed" "_law_mixed" (defArgs s__law_mixed) (defBody s__law_mixed) (defScope s__law_mixed) .none kV__law_mixed dc__law_mixed pm__law_mixed an__law_mixed cd__law_mixed ct__law_mixed), sl__law_mixed⟩) (c__law_mixed : PySem.W.codeIn K cd__law_mixed "_law_mixed" = true) (k__law_mixed : PySem.W.keepIn K (.ref f__law_mixed) = true)
    (a__law_next_state : PySem.W.nsIn K mainGlobals "_law_next_state" = some (some (.ref f__law_next_state))) (l__law_next_state : K.lookup f__law_next_state = some ⟨oc__law_next_state, od__law_next_state, .func (PySem.W.fnOf "_law_next_state" "_law_next_state" (defArgs s__law_next_state) (defBody s__law_next_state) (defScope s__law_next_state) .none kV__law_next_state dc__law_next_state pm__law_next_state an__law_next_state cd__law_next_state ct__law_next_state), sl__law_next_state⟩) (c__law_next_state : PySem.W.codeIn K cd__law_next_state "_law_next_state" = true) (k__law_next_state : PySem.W.keepIn K (.ref f__law_next_state) = true)
    (a__law_with : PySem.W.nsIn K mainGlobals "_law_with" = some (some (.ref f__law_with))) (l__law_with : K.lookup f__law_with = some ⟨oc__law_with, od__law_with, .func (PySem.W.fnOf "_law_with" "_law_with" (defArgs s__law_with) (defBody s__law_with) (defScope s__law_with) .none kV__law_with dc__law_with pm__law_with an__law_with cd__law_with ct__law_with), sl__law_with⟩) (c__law_with : PySem.W.codeIn K cd__law_with "_law_with" = true) (k__law_with : PySem.W.keepIn K (.ref f__law_with) = true)
    (a__law_done : PySem.W.nsIn K mainGlobals "_law_done" = some (some (.ref f__law_done))) (l__law_done : K.lookup f__law_done = some ⟨oc__law_done, od__law_done, .func (PySem.W.fnOf "_law_done" "_law_done" (defArgs s__law_done) (defBody s__law_done) (defScope s__law_done) .none kV__law_done dc__law_done pm__law_done an__law_done cd__law_done ct__law_done), sl__law_done⟩) (c__law_done : PySem.W.codeIn K cd__law_done "_law_done" = true) (k__law_done : PySem.W.keepIn K (.ref f__law_done) = true)
    (a_Store_ticks : PySem.W.findIn K (.ref C_Store) "ticks" = some (some (.ref f_Store_ticks))) (i_Store_ticks : PySem.W.isFn K (.ref f_Store_ticks) = true) (l_Store_ticks : K.lookup f_Store_ticks = some ⟨oc_Store_ticks, od_Store_ticks, .func (PySem.W.fnOf "ticks" "Store.ticks" (defArgs s_Store_ticks) (defBody s_Store_ticks) (defScope s_Store_ticks) .none kV_Store_ticks dc_Store_ticks pm_Store_ticks an_Store_ticks cd_Store_ticks ct_Store_ticks), sl_Store_ticks⟩) (c_Store_ticks : PySem.W.codeIn K cd_Store_ticks "Store.ticks" = true) (k_Store_ticks : PySem.W.keepIn K (.ref f_Store_ticks) = true)
    (a_Store_size : PySem.W.findIn K (.ref C_Store) "size" = some (some (.ref f_Store_size))) (i_Store_size : PySem.W.isFn K (.ref f_Store_size) = true) (l_Store_size : K.lookup f_Store_size = some ⟨oc_Store_size, od_Store_size, .func (PySem.W.fnOf "size" "Store.size" (defArgs s_Store_size) (defBody s_Store_size) (defScope s_Store_size) .none kV_Store_size dc_Store_size pm_Store_size an_Store_size cd_Store_size ct_Store_size), sl_Store_size⟩) (c_Store_size : PySem.W.codeIn K cd_Store_size "Store.size" = true) (k_Store_size : PySem.W.keepIn K (.ref f_Store_size) = true)
    (a__law_is_int : PySem.W.nsIn K mainGlobals "_law_is_int" = some (some (.ref f__law_is_int))) (l__law_is_int : K.lookup f__law_is_int = some ⟨oc__law_is_int, od__law_is_int, .func (PySem.W.fnOf "_law_is_int" "_law_is_int" (defArgs s__law_is_int) (defBody s__law_is_int) (defScope s__law_is_int) .none kV__law_is_int dc__law_is_int pm__law_is_int an__law_is_int cd__law_is_int ct__law_is_int), sl__law_is_int⟩) (c__law_is_int : PySem.W.codeIn K cd__law_is_int "_law_is_int" = true) (k__law_is_int : PySem.W.keepIn K (.ref f__law_is_int) = true)
    (a__law_is_ints : PySem.W.nsIn K mainGlobals "_law_is_ints" = some (some (.ref f__law_is_ints))) (l__law_is_ints : K.lookup f__law_is_ints = some ⟨oc__law_is_ints, od__law_is_ints, .func (PySem.W.fnOf "_law_is_ints" "_law_is_ints" (defArgs s__law_is_ints) (defBody s__law_is_ints) (defScope s__law_is_ints) .none kV__law_is_ints dc__law_is_ints pm__law_is_ints an__law_is_ints cd__law_is_ints ct__law_is_ints), sl__law_is_ints⟩) (c__law_is_ints : PySem.W.codeIn K cd__law_is_ints "_law_is_ints" = true) (k__law_is_ints : PySem.W.keepIn K (.ref f__law_is_ints) = true)
    (a__law_size : PySem.W.nsIn K mainGlobals "_law_size" = some (some (.ref f__law_size))) (l__law_size : K.lookup f__law_size = some ⟨oc__law_size, od__law_size, .func (PySem.W.fnOf "_law_size" "_law_size" (defArgs s__law_size) (defBody s__law_size) (defScope s__law_size) .none kV__law_size dc__law_size pm__law_size an__law_size cd__law_size ct__law_size), sl__law_size⟩) (c__law_size : PySem.W.codeIn K cd__law_size "_law_size" = true) (k__law_size : PySem.W.keepIn K (.ref f__law_size) = true)
    (a__law_is_missing : PySem.W.nsIn K mainGlobals "_law_is_missing" = some (some (.ref f__law_is_missing))) (l__law_is_missing : K.lookup f__law_is_missing = some ⟨oc__law_is_missing, od__law_is_missing, .func (PySem.W.fnOf "_law_is_missing" "_law_is_missing" (defArgs s__law_is_missing) (defBody s__law_is_missing) (defScope s__law_is_missing) .none kV__law_is_missing dc__law_is_missing pm__law_is_missing an__law_is_missing cd__law_is_missing ct__law_is_missing), sl__law_is_missing⟩) (c__law_is_missing : PySem.W.codeIn K cd__law_is_missing "_law_is_missing" = true) (k__law_is_missing : PySem.W.keepIn K (.ref f__law_is_missing) = true)
    (a__law_is_all : PySem.W.nsIn K mainGlobals "_law_is_all" = some (some (.ref f__law_is_all))) (l__law_is_all : K.lookup f__law_is_all = some ⟨oc__law_is_all, od__law_is_all, .func (PySem.W.fnOf "_law_is_all" "_law_is_all" (defArgs s__law_is_all) (defBody s__law_is_all) (defScope s__law_is_all) .none kV__law_is_all dc__law_is_all pm__law_is_all an__law_is_all cd__law_is_all ct__law_is_all), sl__law_is_all⟩) (c__law_is_all : PySem.W.codeIn K cd__law_is_all "_law_is_all" = true) (k__law_is_all : PySem.W.keepIn K (.ref f__law_is_all) = true)
    (a__law_filled : PySem.W.nsIn K mainGlobals "_law_filled" = some (some (.ref f__law_filled))) (l__law_filled : K.lookup f__law_filled = some ⟨oc__law_filled, od__law_filled, .func (PySem.W.fnOf "_law_filled" "_law_filled" (defArgs s__law_filled) (defBody s__law_filled) (defScope s__law_filled) .none kV__law_filled dc__law_filled pm__law_filled an__law_filled cd__law_filled ct__law_filled), sl__law_filled⟩) (c__law_filled : PySem.W.codeIn K cd__law_filled "_law_filled" = true) (k__law_filled : PySem.W.keepIn K (.ref f__law_filled) = true)
    (a__law_shuffled : PySem.W.nsIn K mainGlobals "_law_shuffled" = some (some (.ref f__law_shuffled))) (l__law_shuffled : K.lookup f__law_shuffled = some ⟨oc__law_shuffled, od__law_shuffled, .func (PySem.W.fnOf "_law_shuffled" "_law_shuffled" (defArgs s__law_shuffled) (defBody s__law_shuffled) (defScope s__law_shuffled) .none kV__law_shuffled dc__law_shuffled pm__law_shuffled an__law_shuffled cd__law_shuffled ct__law_shuffled), sl__law_shuffled⟩) (c__law_shuffled : PySem.W.codeIn K cd__law_shuffled "_law_shuffled" = true) (k__law_shuffled : PySem.W.keepIn K (.ref f__law_shuffled) = true)
    (a__law_are_twins : PySem.W.nsIn K mainGlobals "_law_are_twins" = some (some (.ref f__law_are_twins))) (l__law_are_twins : K.lookup f__law_are_twins = some ⟨oc__law_are_twins, od__law_are_twins, .func (PySem.W.fnOf "_law_are_twins" "_law_are_twins" (defArgs s__law_are_twins) (defBody s__law_are_twins) (defScope s__law_are_twins) .none kV__law_are_twins dc__law_are_twins pm__law_are_twins an__law_are_twins cd__law_are_twins ct__law_are_twins), sl__law_are_twins⟩) (c__law_are_twins : PySem.W.codeIn K cd__law_are_twins "_law_are_twins" = true) (k__law_are_twins : PySem.W.keepIn K (.ref f__law_are_twins) = true)
    (a_law : PySem.W.nsIn K mainGlobals "law" = some (some (.ref f_law))) (l_law : K.lookup f_law = some ⟨oc_law, od_law, .func (PySem.W.fnOf "law" "law" (defArgs s_law) (defBody s_law) (defScope s_law) .none kV_law dc_law pm_law an_law cd_law ct_law), sl_law⟩) (c_law : PySem.W.codeIn K cd_law "law" = true) (k_law : PySem.W.keepIn K (.ref f_law) = true)
    (z_int : PySem.W.nsIn K mainGlobals "int" = some none)
    (z_len : PySem.W.nsIn K mainGlobals "len" = some none)
    (z_abs : PySem.W.nsIn K mainGlobals "abs" = some none)
    (z_range : PySem.W.nsIn K mainGlobals "range" = some none)
    (z_max : PySem.W.nsIn K mainGlobals "max" = some none)
    (z_tuple : PySem.W.nsIn K mainGlobals "tuple" = some none)
    (z_list : PySem.W.nsIn K mainGlobals "list" = some none)
    (z_sorted : PySem.W.nsIn K mainGlobals "sorted" = some none)
    (z_min : PySem.W.nsIn K mainGlobals "min" = some none)
    (z_sum : PySem.W.nsIn K mainGlobals "sum" = some none)
    (z_isinstance : PySem.W.nsIn K mainGlobals "isinstance" = some none)
    (z_bool : PySem.W.nsIn K mainGlobals "bool" = some none)
    (z_all : PySem.W.nsIn K mainGlobals "all" = some none)
    : ∃ fd : FuncData, (∀ (s : Shared) (v : Value), BindsTo s fd ⟨[v], []⟩ [("script", v)]) ∧ ∀ base : Heap, K.In base → base.Ns mainGlobals mg → FnOk l.prog w K mg base CX0 7 fa fd ["script"] (sp_law K) := by
  have e := hfa.symm.trans (PySem.W.mg_of X G a_law)
  cases e
  have T : Txt K mg C_Store C_NoState := ⟨PySem.W.mg_of X G a_NoState, ⟨⟨ic_NoState, ga_NoState, gg_NoState, ex_NoState, ha_NoState, hn_PE, ht_PE, hm_NoState⟩, hd_NoState, PySem.W.exm_ref hx_PE hd_PE ty_PE pe_NoState⟩, nf_NoState_tick, ⟨pg_Store, hd_Store, po_Store, sa_Store⟩, PySem.W.mg_of X G a_Store, n_Store_places, n_Store_whole, n_Store_steps, PySem.W.mg_none_of X G z_int, PySem.W.mg_none_of X G z_len, PySem.W.mg_none_of X G z_abs, PySem.W.mg_none_of X G z_range, PySem.W.mg_none_of X G z_max, PySem.W.mg_none_of X G z_tuple, PySem.W.mg_none_of X G z_list, PySem.W.mg_none_of X G z_sorted, PySem.W.mg_none_of X G z_min, PySem.W.mg_none_of X G z_sum, PySem.W.mg_none_of X G z_isinstance, PySem.W.mg_none_of X G z_bool, PySem.W.mg_none_of X G z_all⟩
  have F__law_begin := fun_mk (st := s__law_begin) l__law_begin c__law_begin k__law_begin
  have D__law_begin : Df K mg "_law_begin" s__law_begin f__law_begin _ ["script"] := ⟨F__law_begin, PySem.W.mg_of X G a__law_begin, F__law_begin.binds (ps := ["script"]) fun _ _ _ _ _ _ us hl => match us, hl with | [_], _ => rfl⟩
  have F__law_draw := fun_mk (st := s__law_draw) l__law_draw c__law_draw k__law_draw
  have D__law_draw : Df K mg "_law_draw" s__law_draw f__law_draw _ ["d", "many"] := ⟨F__law_draw, PySem.W.mg_of X G a__law_draw, F__law_draw.binds (ps := ["d", "many"]) fun _ _ _ _ _ _ us hl => match us, hl with | [_, _], _ => rfl⟩
  have F__law_rare := fun_mk (st := s__law_rare) l__law_rare c__law_rare k__law_rare
  have D__law_rare : Df K mg "_law_rare" s__law_rare f__law_rare _ ["d", "many"] := ⟨F__law_rare, PySem.W.mg_of X G a__law_rare, F__law_rare.binds (ps := ["d", "many"]) fun _ _ _ _ _ _ us hl => match us, hl with | [_, _], _ => rfl⟩
  have F__law_pick := fun_mk (st := s__law_pick) l__law_pick c__law_pick k__law_pick
  have D__law_pick : Df K mg "_law_pick" s__law_pick f__law_pick _ ["d", "row"] := ⟨F__law_pick, PySem.W.mg_of X G a__law_pick, F__law_pick.binds (ps := ["d", "row"]) fun _ _ _ _ _ _ us hl => match us, hl with | [_, _], _ => rfl⟩
  have F__law_layout := fun_mk (st := s__law_layout) l__law_layout c__law_layout k__law_layout
  have D__law_layout : Df K mg "_law_layout" s__law_layout f__law_layout _ ["d"] := ⟨F__law_layout, PySem.W.mg_of X G a__law_layout, F__law_layout.binds (ps := ["d"]) fun _ _ _ _ _ _ us hl => match us, hl with | [_], _ => rfl⟩
  have F_Store___init__ := fun_mk (st := s_Store___init__) l_Store___init__ c_Store___init__ k_Store___init__
  have D_Store___init__ : Dm K C_Store "__init__" "Store.__init__" s_Store___init__ f_Store___init__ _ ["self"] := ⟨F_Store___init__, ⟨a_Store___init__, i_Store___init__, k_Store___init__⟩, F_Store___init__.binds (ps := ["self"]) fun _ _ _ _ _ _ us hl => match us, hl with | [_], _ => rfl⟩
  have F_Store_number_of := fun_mk (st := s_Store_number_of) l_Store_number_of c_Store_number_of k_Store_number_of
  have D_Store_number_of : Dm K C_Store "number_of" "Store.number_of" s_Store_number_of f_Store_number_of _ ["self", "tick"] := ⟨F_Store_number_of, ⟨a_Store_number_of, i_Store_number_of, k_Store_number_of⟩, F_Store_number_of.binds (ps := ["self", "tick"]) fun _ _ _ _ _ _ us hl => match us, hl with | [_, _], _ => rfl⟩
  have F_Store_drop_from := fun_mk (st := s_Store_drop_from) l_Store_drop_from c_Store_drop_from k_Store_drop_from
  have D_Store_drop_from : Dm K C_Store "drop_from" "Store.drop_from" s_Store_drop_from f_Store_drop_from _ ["self", "tick"] := ⟨F_Store_drop_from, ⟨a_Store_drop_from, i_Store_drop_from, k_Store_drop_from⟩, F_Store_drop_from.binds (ps := ["self", "tick"]) fun _ _ _ _ _ _ us hl => match us, hl with | [_, _], _ => rfl⟩
  have F_difference := fun_mk (st := s_difference) l_difference c_difference k_difference
  have D_difference : Df K mg "difference" s_difference f_difference _ ["old", "new"] := ⟨F_difference, PySem.W.mg_of X G a_difference, F_difference.binds (ps := ["old", "new"]) fun _ _ _ _ _ _ us hl => match us, hl with | [_, _], _ => rfl⟩
  have F_changed := fun_mk (st := s_changed) l_changed c_changed k_changed
  have D_changed : Df K mg "changed" s_changed f_changed _ ["old", "rows"] := ⟨F_changed, PySem.W.mg_of X G a_changed, F_changed.binds (ps := ["old", "rows"]) fun _ _ _ _ _ _ us hl => match us, hl with | [_, _], _ => rfl⟩
  have F_Store_last_state := fun_mk (st := s_Store_last_state) l_Store_last_state c_Store_last_state k_Store_last_state
  have D_Store_last_state : Dm K C_Store "last_state" "Store.last_state" s_Store_last_state f_Store_last_state _ ["self"] := ⟨F_Store_last_state, ⟨a_Store_last_state, i_Store_last_state, k_Store_last_state⟩, F_Store_last_state.binds (ps := ["self"]) fun _ _ _ _ _ _ us hl => match us, hl with | [_], _ => rfl⟩
  have F_Store_keep := fun_mk (st := s_Store_keep) l_Store_keep c_Store_keep k_Store_keep
  have D_Store_keep : Dm K C_Store "keep" "Store.keep" s_Store_keep f_Store_keep _ ["self", "tick", "state"] := ⟨F_Store_keep, ⟨a_Store_keep, i_Store_keep, k_Store_keep⟩, F_Store_keep.binds (ps := ["self", "tick", "state"]) fun _ _ _ _ _ _ us hl => match us, hl with | [_, _, _], _ => rfl⟩
  have F__law_some_tick := fun_mk (st := s__law_some_tick) l__law_some_tick c__law_some_tick k__law_some_tick
  have D__law_some_tick : Df K mg "_law_some_tick" s__law_some_tick f__law_some_tick _ ["d", "kept"] := ⟨F__law_some_tick, PySem.W.mg_of X G a__law_some_tick, F__law_some_tick.binds (ps := ["d", "kept"]) fun _ _ _ _ _ _ us hl => match us, hl with | [_, _], _ => rfl⟩
  have F_Store_has := fun_mk (st := s_Store_has) l_Store_has c_Store_has k_Store_has
  have D_Store_has : Dm K C_Store "has" "Store.has" s_Store_has f_Store_has _ ["self", "tick"] := ⟨F_Store_has, ⟨a_Store_has, i_Store_has, k_Store_has⟩, F_Store_has.binds (ps := ["self", "tick"]) fun _ _ _ _ _ _ us hl => match us, hl with | [_, _], _ => rfl⟩
  have F_Store_state_at := fun_mk (st := s_Store_state_at) l_Store_state_at c_Store_state_at k_Store_state_at
  have D_Store_state_at : Dm K C_Store "state_at" "Store.state_at" s_Store_state_at f_Store_state_at _ ["self", "tick"] := ⟨F_Store_state_at, ⟨a_Store_state_at, i_Store_state_at, k_Store_state_at⟩, F_Store_state_at.binds (ps := ["self", "tick"]) fun _ _ _ _ _ _ us hl => match us, hl with | [_, _], _ => rfl⟩
  have F_composed := fun_mk (st := s_composed) l_composed c_composed k_composed
  have D_composed : Df K mg "composed" s_composed f_composed _ ["first", "second"] := ⟨F_composed, PySem.W.mg_of X G a_composed, F_composed.binds (ps := ["first", "second"]) fun _ _ _ _ _ _ us hl => match us, hl with | [_, _], _ => rfl⟩
  have F_thinned := fun_mk (st := s_thinned) l_thinned c_thinned k_thinned
  have D_thinned : Df K mg "thinned" s_thinned f_thinned _ ["old", "rows"] := ⟨F_thinned, PySem.W.mg_of X G a_thinned, F_thinned.binds (ps := ["old", "rows"]) fun _ _ _ _ _ _ us hl => match us, hl with | [_, _], _ => rfl⟩
  have F_Store_drop := fun_mk (st := s_Store_drop) l_Store_drop c_Store_drop k_Store_drop
  have D_Store_drop : Dm K C_Store "drop" "Store.drop" s_Store_drop f_Store_drop _ ["self", "tick"] := ⟨F_Store_drop, ⟨a_Store_drop, i_Store_drop, k_Store_drop⟩, F_Store_drop.binds (ps := ["self", "tick"]) fun _ _ _ _ _ _ us hl => match us, hl with | [_, _], _ => rfl⟩
  have F__law_next_tick := fun_mk (st := s__law_next_tick) l__law_next_tick c__law_next_tick k__law_next_tick
  have D__law_next_tick : Df K mg "_law_next_tick" s__law_next_tick f__law_next_tick _ ["d", "kept"] := ⟨F__law_next_tick, PySem.W.mg_of X G a__law_next_tick, F__law_next_tick.binds (ps := ["d", "kept"]) fun _ _ _ _ _ _ us hl => match us, hl with | [_, _], _ => rfl⟩
  have F__law_entry := fun_mk (st := s__law_entry) l__law_entry c__law_entry k__law_entry
  have D__law_entry : Df K mg "_law_entry" s__law_entry f__law_entry _ ["d", "kind"] := ⟨F__law_entry, PySem.W.mg_of X G a__law_entry, F__law_entry.binds (ps := ["d", "kind"]) fun _ _ _ _ _ _ us hl => match us, hl with | [_, _], _ => rfl⟩
  have F__law_any := fun_mk (st := s__law_any) l__law_any c__law_any k__law_any
  have D__law_any : Df K mg "_law_any" s__law_any f__law_any _ ["d", "kinds"] := ⟨F__law_any, PySem.W.mg_of X G a__law_any, F__law_any.binds (ps := ["d", "kinds"]) fun _ _ _ _ _ _ us hl => match us, hl with | [_, _], _ => rfl⟩
  have F__law_mixed := fun_mk (st := s__law_mixed) l__law_mixed c__law_mixed k__law_mixed
  have D__law_mixed : Df K mg "_law_mixed" s__law_mixed f__law_mixed _ ["d", "one", "other"] := ⟨F__law_mixed, PySem.W.mg_of X G a__law_mixed, F__law_mixed.binds (ps := ["d", "one", "other"]) fun _ _ _ _ _ _ us hl => match us, hl with | [_, _, _], _ => rfl⟩
  have F__law_next_state := fun_mk (st := s__law_next_state) l__law_next_state c__law_next_state k__law_next_state
  have D__law_next_state : Df K mg "_law_next_state" s__law_next_state f__law_next_state _ ["d", "kinds", "kept"] := ⟨F__law_next_state, PySem.W.mg_of X G a__law_next_state, F__law_next_state.binds (ps := ["d", "kinds", "kept"]) fun _ _ _ _ _ _ us hl => match us, hl with | [_, _, _], _ => rfl⟩
  have F__law_with := fun_mk (st := s__law_with) l__law_with c__law_with k__law_with
  have D__law_with : Df K mg "_law_with" s__law_with f__law_with _ ["kept", "tick", "state"] := ⟨F__law_with, PySem.W.mg_of X G a__law_with, F__law_with.binds (ps := ["kept", "tick", "state"]) fun _ _ _ _ _ _ us hl => match us, hl with | [_, _, _], _ => rfl⟩
  have F__law_done := fun_mk (st := s__law_done) l__law_done c__law_done k__law_done
  have D__law_done : Df K mg "_law_done" s__law_done f__law_done _ ["d", "store", "kinds", "kept"] := ⟨F__law_done, PySem.W.mg_of X G a__law_done, F__law_done.binds (ps := ["d", "store", "kinds", "kept"]) fun _ _ _ _ _ _ us hl => match us, hl with | [_, _, _, _], _ => rfl⟩
  have F_Store_ticks := fun_mk (st := s_Store_ticks) l_Store_ticks c_Store_ticks k_Store_ticks
  have D_Store_ticks : Dm K C_Store "ticks" "Store.ticks" s_Store_ticks f_Store_ticks _ ["self"] := ⟨F_Store_ticks, ⟨a_Store_ticks, i_Store_ticks, k_Store_ticks⟩, F_Store_ticks.binds (ps := ["self"]) fun _ _ _ _ _ _ us hl => match us, hl with | [_], _ => rfl⟩
  have F_Store_size := fun_mk (st := s_Store_size) l_Store_size c_Store_size k_Store_size
  have D_Store_size : Dm K C_Store "size" "Store.size" s_Store_size f_Store_size _ ["self"] := ⟨F_Store_size, ⟨a_Store_size, i_Store_size, k_Store_size⟩, F_Store_size.binds (ps := ["self"]) fun _ _ _ _ _ _ us hl => match us, hl with | [_], _ => rfl⟩
  have F__law_is_int := fun_mk (st := s__law_is_int) l__law_is_int c__law_is_int k__law_is_int
  have D__law_is_int : Df K mg "_law_is_int" s__law_is_int f__law_is_int _ ["thing"] := ⟨F__law_is_int, PySem.W.mg_of X G a__law_is_int, F__law_is_int.binds (ps := ["thing"]) fun _ _ _ _ _ _ us hl => match us, hl with | [_], _ => rfl⟩
  have F__law_is_ints := fun_mk (st := s__law_is_ints) l__law_is_ints c__law_is_ints k__law_is_ints
  have D__law_is_ints : Df K mg "_law_is_ints" s__law_is_ints f__law_is_ints _ ["row"] := ⟨F__law_is_ints, PySem.W.mg_of X G a__law_is_ints, F__law_is_ints.binds (ps := ["row"]) fun _ _ _ _ _ _ us hl => match us, hl with | [_], _ => rfl⟩
  have F__law_size := fun_mk (st := s__law_size) l__law_size c__law_size k__law_size
  have D__law_size : Df K mg "_law_size" s__law_size f__law_size _ ["kept"] := ⟨F__law_size, PySem.W.mg_of X G a__law_size, F__law_size.binds (ps := ["kept"]) fun _ _ _ _ _ _ us hl => match us, hl with | [_], _ => rfl⟩
  have F__law_is_missing := fun_mk (st := s__law_is_missing) l__law_is_missing c__law_is_missing k__law_is_missing
  have D__law_is_missing : Df K mg "_law_is_missing" s__law_is_missing f__law_is_missing _ ["store", "tick"] := ⟨F__law_is_missing, PySem.W.mg_of X G a__law_is_missing, F__law_is_missing.binds (ps := ["store", "tick"]) fun _ _ _ _ _ _ us hl => match us, hl with | [_, _], _ => rfl⟩
  have F__law_is_all := fun_mk (st := s__law_is_all) l__law_is_all c__law_is_all k__law_is_all
  have D__law_is_all : Df K mg "_law_is_all" s__law_is_all f__law_is_all _ ["store", "kept"] := ⟨F__law_is_all, PySem.W.mg_of X G a__law_is_all, F__law_is_all.binds (ps := ["store", "kept"]) fun _ _ _ _ _ _ us hl => match us, hl with | [_, _], _ => rfl⟩
  have F__law_filled := fun_mk (st := s__law_filled) l__law_filled c__law_filled k__law_filled
  have D__law_filled : Df K mg "_law_filled" s__law_filled f__law_filled _ ["kept"] := ⟨F__law_filled, PySem.W.mg_of X G a__law_filled, F__law_filled.binds (ps := ["kept"]) fun _ _ _ _ _ _ us hl => match us, hl with | [_], _ => rfl⟩
  have F__law_shuffled := fun_mk (st := s__law_shuffled) l__law_shuffled c__law_shuffled k__law_shuffled
  have D__law_shuffled : Df K mg "_law_shuffled" s__law_shuffled f__law_shuffled _ ["d", "row"] := ⟨F__law_shuffled, PySem.W.mg_of X G a__law_shuffled, F__law_shuffled.binds (ps := ["d", "row"]) fun _ _ _ _ _ _ us hl => match us, hl with | [_, _], _ => rfl⟩
  have F__law_are_twins := fun_mk (st := s__law_are_twins) l__law_are_twins c__law_are_twins k__law_are_twins
  have D__law_are_twins : Df K mg "_law_are_twins" s__law_are_twins f__law_are_twins _ ["d", "kept"] := ⟨F__law_are_twins, PySem.W.mg_of X G a__law_are_twins, F__law_are_twins.binds (ps := ["d", "kept"]) fun _ _ _ _ _ _ us hl => match us, hl with | [_, _], _ => rfl⟩
  have F_law := fun_mk (st := s_law) l_law c_law k_law
  have D_law : Df K mg "law" s_law _ _ ["script"] := ⟨F_law, PySem.W.mg_of X G a_law, F_law.binds (ps := ["script"]) fun _ _ _ _ _ _ us hl => match us, hl with | [_], _ => rfl⟩
  refine ⟨PySem.W.fnOf "law" "law" (defArgs s_law) (defBody s_law) (defScope s_law) .none kV_law dc_law pm_law an_law cd_law ct_law, fun s v => .of_eq rfl, fun base _ _ => ?_⟩
  have O_NoState : OexC K C_NoState := ⟨⟨_, _, _, _, _, _, _, _, _, _, _, _, _, _, _, xl_NoState, rv_NoState⟩, sa_NoState, ex_NoState, ty_NoState, kc_NoState⟩
  have Z_NoState : EX2.InT l.prog K C_NoState cc_NoState cda_NoState := ⟨O_NoState, ⟨_, _, _, ce_NoState⟩, ⟨_, _, _, _, _, _, co_NoState, cv_NoState, cm_NoState⟩, mr_NoState, top_PE, opq_PE, up_NoState, ve_NoState⟩
  have X_NoState : EX2.Xcl1 l.prog w K mg base 1 "NoState" C_NoState "tick" := ⟨⟨fi_NoState, _, _, EX2.fn_x1 li_NoState ci_NoState (NdefX.nscope_by (by decide +kernel)) Z_NoState (PySem.W.mg_none_of X G sup_PE) nf_NoState_tick (by rfl) rfl rfl (by rfl) (by decide) (by decide), ii_NoState, it_NoState, Binds.all fun us hl => match us, hl with | [_, _], _ => rfl⟩, O_NoState, PySem.W.mg_of X G a_NoState⟩
  have C__law_begin : Cl l.prog w K mg base 1 "_law_begin" (sp__law_begin K) := D__law_begin.cl (ok__law_begin D__law_begin T )
  have C__law_draw : Cl l.prog w K mg base 1 "_law_draw" (sp__law_draw K) := D__law_draw.cl (ok__law_draw D__law_draw T )
  have C__law_rare : Cl l.prog w K mg base 2 "_law_rare" (sp__law_rare K) := D__law_rare.cl (ok__law_rare D__law_rare T C__law_draw)
  have C__law_pick : Cl l.prog w K mg base 2 "_law_pick" (sp__law_pick K) := D__law_pick.cl (ok__law_pick D__law_pick T C__law_draw)
  have C__law_layout : Cl l.prog w K mg base 3 "_law_layout" (sp__law_layout K) := D__law_layout.cl (ok__law_layout D__law_layout T C__law_pick)
  have C_Store___init__ : Mkc l.prog w K mg base 1 C_Store (sp_Store___init__ K C_Store) := ⟨_, _, _, ok_Store___init__ D_Store___init__ T , ⟨mk_Store, a_Store___init__, i_Store___init__, kc_Store⟩, D_Store___init__.bi⟩
  have C_Store_number_of : Mt l.prog w K mg base 1 C_Store "number_of" (sp_Store_number_of K C_Store) := ⟨_, _, _, ok_Store_number_of D_Store_number_of T , D_Store_number_of.mt, D_Store_number_of.bi⟩
  have C_Store_drop_from : Mt l.prog w K mg base 2 C_Store "drop_from" (sp_Store_drop_from K C_Store) := ⟨_, _, _, ok_Store_drop_from D_Store_drop_from T C_Store_number_of, D_Store_drop_from.mt, D_Store_drop_from.bi⟩
  have C_difference : Cl l.prog w K mg base 1 "difference" (sp_difference K) := D_difference.cl (ok_difference D_difference T )
  have C_changed : Cl l.prog w K mg base 1 "changed" (sp_changed K) := D_changed.cl (ok_changed D_changed T )
  have C_Store_last_state : Mt l.prog w K mg base 2 C_Store "last_state" (sp_Store_last_state K C_Store) := ⟨_, _, _, ok_Store_last_state D_Store_last_state T C_changed, D_Store_last_state.mt, D_Store_last_state.bi⟩
  have C_Store_keep : Mt l.prog w K mg base 3 C_Store "keep" (sp_Store_keep K C_Store) := ⟨_, _, _, ok_Store_keep D_Store_keep T C_Store_drop_from C_difference C_Store_last_state, D_Store_keep.mt, D_Store_keep.bi⟩
  have C__law_some_tick : Cl l.prog w K mg base 3 "_law_some_tick" (sp__law_some_tick K) := D__law_some_tick.cl (ok__law_some_tick D__law_some_tick T C__law_draw C__law_pick)
  have H_Store_has : MtH l.prog w K mg base 1 C_Store "has" (sp_Store_has K C_Store) := ⟨_, _, _, okh_Store_has D_Store_has T, D_Store_has.mt, D_Store_has.bi⟩
  have C_Store_has : Mt l.prog w K mg base 1 C_Store "has" (sp_Store_has K C_Store) := ⟨_, _, _, ok_Store_has D_Store_has T , D_Store_has.mt, D_Store_has.bi⟩
  have C_Store_state_at : Mtx l.prog w K mg base 3 C_Store "state_at" (sp_Store_state_at K C_Store C_NoState) := ⟨_, _, _, ok_Store_state_at D_Store_state_at T C_changed X_NoState, D_Store_state_at.mt, D_Store_state_at.bi⟩
  have C_composed : Cl l.prog w K mg base 1 "composed" (sp_composed K) := D_composed.cl (ok_composed D_composed T )
  have C_thinned : Cl l.prog w K mg base 1 "thinned" (sp_thinned K) := D_thinned.cl (ok_thinned D_thinned T )
  have C_Store_drop : Mt l.prog w K mg base 4 C_Store "drop" (sp_Store_drop K C_Store) := ⟨_, _, _, ok_Store_drop D_Store_drop T C_Store_has C_Store_drop_from C_Store_state_at C_changed C_composed C_thinned, D_Store_drop.mt, D_Store_drop.bi⟩
  have C__law_next_tick : Cl l.prog w K mg base 4 "_law_next_tick" (sp__law_next_tick K) := D__law_next_tick.cl (ok__law_next_tick D__law_next_tick T C__law_some_tick C__law_draw)
  have C__law_entry : Cl l.prog w K mg base 3 "_law_entry" (sp__law_entry K) := D__law_entry.cl (ok__law_entry D__law_entry T C__law_pick C__law_draw)
  have C__law_any : Cl l.prog w K mg base 4 "_law_any" (sp__law_any K) := D__law_any.cl (ok__law_any D__law_any T C__law_entry)
  have C__law_mixed : Cl l.prog w K mg base 2 "_law_mixed" (sp__law_mixed K) := D__law_mixed.cl (ok__law_mixed D__law_mixed T C__law_draw)
  have C__law_next_state : Cl l.prog w K mg base 5 "_law_next_state" (sp__law_next_state K) := D__law_next_state.cl (ok__law_next_state D__law_next_state T C__law_draw C__law_any C__law_mixed C__law_pick C__law_entry)
  have C__law_with : Cl l.prog w K mg base 1 "_law_with" (sp__law_with K) := D__law_with.cl (ok__law_with D__law_with T )
  have C__law_done : Cl l.prog w K mg base 6 "_law_done" (sp__law_done K C_Store) := D__law_done.cl (ok__law_done D__law_done T C_Store_drop_from C__law_draw C_Store_keep C__law_some_tick C_Store_drop C__law_next_tick C__law_next_state C__law_with C__law_pick C_Store_state_at)
  have C_Store_ticks : Mt l.prog w K mg base 1 C_Store "ticks" (sp_Store_ticks K C_Store) := ⟨_, _, _, ok_Store_ticks D_Store_ticks T , D_Store_ticks.mt, D_Store_ticks.bi⟩
  have C_Store_size : Mt l.prog w K mg base 1 C_Store "size" (sp_Store_size K C_Store) := ⟨_, _, _, ok_Store_size D_Store_size T , D_Store_size.mt, D_Store_size.bi⟩
  have C__law_is_int : Cl l.prog w K mg base 1 "_law_is_int" (sp__law_is_int K) := D__law_is_int.cl (ok__law_is_int D__law_is_int T )
  have C__law_is_ints : Cl l.prog w K mg base 2 "_law_is_ints" (sp__law_is_ints K) := D__law_is_ints.cl (ok__law_is_ints D__law_is_ints T C__law_is_int)
  have C__law_size : Cl l.prog w K mg base 1 "_law_size" (sp__law_size K) := D__law_size.cl (ok__law_size D__law_size T )
  have C__law_is_missing : Cl l.prog w K mg base 4 "_law_is_missing" (sp__law_is_missing K C_Store) := D__law_is_missing.cl (ok__law_is_missing D__law_is_missing T C_Store_state_at C_Store_has H_Store_has)
  have C__law_is_all : Cl l.prog w K mg base 5 "_law_is_all" (sp__law_is_all K C_Store) := D__law_is_all.cl (ok__law_is_all D__law_is_all T C_Store_ticks C_Store_size C_Store_state_at C__law_is_ints C__law_is_int C__law_size C_Store_has C__law_is_missing)
  have C__law_filled : Cl l.prog w K mg base 4 "_law_filled" (sp__law_filled K C_Store) := D__law_filled.cl (ok__law_filled D__law_filled T C_Store___init__ C_Store_keep)
  have C__law_shuffled : Cl l.prog w K mg base 2 "_law_shuffled" (sp__law_shuffled K) := D__law_shuffled.cl (ok__law_shuffled D__law_shuffled T C__law_draw)
  have C__law_are_twins : Cl l.prog w K mg base 6 "_law_are_twins" (sp__law_are_twins K C_Store) := D__law_are_twins.cl (ok__law_are_twins D__law_are_twins T C__law_filled C__law_shuffled C_Store_drop C__law_is_all C__law_draw)
  exact ok_law D_law T C__law_begin C__law_rare C__law_layout C_Store___init__ C__law_draw C__law_done C__law_is_all C__law_are_twins
theorem walk {l : PySem.W.OpenLaw} {q : Program} {loose : List Str} {XP : (Str → Option Value) → Heap → Prop} {YP : World → Heap → Prop} {d : DefRec} {K : Params → PySem.W.Frag} (hn : l.most = some 63) (hdf : d.params.defaults = [])
    (hY : ∀ (w : World) (h : Heap), YP w h → (K w.params).In h)
    (F : ∀ (w : World) (mg : Str → Option Value) (fa : Addr) (h : Heap), (K w.params).In h → h.Ns mainGlobals mg → mg d.name = some (.ref fa) →
      ∃ fd : FuncData, (∀ (s : Shared) (u : Value), BindsTo s fd ⟨[u], []⟩ [("script", u)]) ∧ ∀ base : Heap, (K w.params).In base → base.Ns mainGlobals mg → FnOk l.prog w (K w.params) mg base CX0 7 fa fd ["script"] (sp_law (K w.params))) :
    PySem.W.WalkO q loose XP YP l.row.toRowW d [] (fun f vs => PySem.call f vs) :=
  L2.walk_ofB (n := 63) (k := 7) (x := "script") (CX := fun _ => CX0) (sp := fun w => sp_law (K w.params)) hn (by decide) hdf ⟨rfl, by decide, by decide⟩ hY F (fun _ _ a ns hl hb _ hS => law_hands a ns hl hb hS) fun _ _ _ _ _ z => z
end Law
open PySem PySem.W PyProof.Rows in
set_option maxRecDepth 100000 in
set_option maxHeartbeats 0 in
theorem PySem.Challenge.cw_judgedplay_k34_whole_store_reads_back_holds : PySem.Challenge.rw_judgedplay_k34_whole_store_reads_back.Holds := by
  w_on; o_law; k_head; (case hw => w_witness2)
  k_fill
  refine Law.walk (l := PySem.Challenge.rw_judgedplay_k34_whole_store_reads_back) rfl rfl (fun w h Y => PySem.W.kIn_of Y) ?F
  case F =>
    intro w mg fa h KX G hmg
    refine' Law.all_mk KX G hmg ?a_Store ?pg_Store ?hd_Store ?po_Store ?sa_Store ?mk_Store ?kc_Store ?n_Store_places ?n_Store_whole ?n_Store_steps ?a_NoState ?hx_PE ?hd_PE ?ty_PE ?sup_PE ?opq_PE ?top_PE ?hn_PE ?ht_PE ?xl_NoState ?rv_NoState ?sa_NoState ?ex_NoState ?ty_NoState ?kc_NoState ?ii_NoState ?it_NoState ?li_NoState ?ci_NoState ?ce_NoState ?co_NoState ?cv_NoState ?cm_NoState ?mr_NoState ?up_NoState ?ve_NoState ?ga_NoState ?gg_NoState ?ha_NoState ?hm_NoState ?hd_NoState ?ic_NoState ?pe_NoState ?nf_NoState_tick ?a__law_begin ?l__law_begin ?c__law_begin ?k__law_begin ?a__law_draw ?l__law_draw ?c__law_draw ?k__law_draw ?a__law_rare ?l__law_rare ?c__law_rare ?k__law_rare ?a__law_pick ?l__law_pick ?c__law_pick ?k__law_pick ?a__law_layout ?l__law_layout ?c__law_layout ?k__law_layout ?a_Store___init__ ?i_Store___init__ ?l_Store___init__ ?c_Store___init__ ?k_Store___init__ ?a_Store_number_of ?i_Store_number_of ?l_Store_number_of ?c_Store_number_of ?k_Store_number_of ?a_Store_drop_from ?i_Store_drop_from ?l_Store_drop_from ?c_Store_drop_from ?k_Store_drop_from ?a_difference ?l_difference ?c_difference ?k_difference ?a_changed ?l_changed ?c_changed ?k_changed ?a_Store_last_state ?i_Store_last_state ?l_Store_last_state ?c_Store_last_state ?k_Store_last_state ?a_Store_keep ?i_Store_keep ?l_Store_keep ?c_Store_keep ?k_Store_keep ?a__law_some_tick ?l__law_some_tick ?c__law_some_tick ?k__law_some_tick ?a_Store_has ?i_Store_has ?l_Store_has ?c_Store_has ?k_Store_has ?a_Store_state_at ?i_Store_state_at ?l_Store_state_at ?c_Store_state_at ?k_Store_state_at ?a_composed ?l_composed ?c_composed ?k_composed ?a_thinned ?l_thinned ?c_thinned ?k_thinned ?a_Store_drop ?i_Store_drop ?l_Store_drop ?c_Store_drop ?k_Store_drop ?a__law_next_tick ?l__law_next_tick ?c__law_next_tick ?k__law_next_tick ?a__law_entry ?l__law_entry ?c__law_entry ?k__law_entry ?a__law_any ?l__law_any ?c__law_any ?k__law_any ?a__law_mixed ?l__law_mixed ?c__law_mixed ?k__law_mixed ?a__law_next_state ?l__law_next_state ?c__law_next_state ?k__law_next_state ?a__law_with ?l__law_with ?c__law_with ?k__law_with ?a__law_done ?l__law_done ?c__law_done ?k__law_done ?a_Store_ticks ?i_Store_ticks ?l_Store_ticks ?c_Store_ticks ?k_Store_ticks ?a_Store_size ?i_Store_size ?l_Store_size ?c_Store_size ?k_Store_size ?a__law_is_int ?l__law_is_int ?c__law_is_int ?k__law_is_int ?a__law_is_ints ?l__law_is_ints ?c__law_is_ints ?k__law_is_ints ?a__law_size ?l__law_size ?c__law_size ?k__law_size ?a__law_is_missing ?l__law_is_missing ?c__law_is_missing ?k__law_is_missing ?a__law_is_all ?l__law_is_all ?c__law_is_all ?k__law_is_all ?a__law_filled ?l__law_filled ?c__law_filled ?k__law_filled ?a__law_shuffled ?l__law_shuffled ?c__law_shuffled ?k__law_shuffled ?a__law_are_twins ?l__law_are_twins ?c__law_are_twins ?k__law_are_twins ?a_law ?l_law ?c_law ?k_law ?z_int ?z_len ?z_abs ?z_range ?z_max ?z_tuple ?z_list ?z_sorted ?z_min ?z_sum ?z_isinstance ?z_bool ?z_all
    (case a_Store => k_is)
    (case pg_Store => k_is)
    (case hd_Store => k_is)
    (case po_Store => k_is)
    (case sa_Store => k_is)
    (case mk_Store => k_is)
    (case kc_Store => k_is)
    (case n_Store_places => k_is)
    (case n_Store_whole => k_is)
    (case n_Store_steps => k_is)
    (case a_NoState => k_is)
    (case hx_PE => k_is)
    (case hd_PE => k_is)
    (case ty_PE => k_is)
    (case sup_PE => k_is)
    (case opq_PE => k_is)
    (case top_PE => first | rfl | decide +kernel)
    (case hn_PE => k_is)
    (case ht_PE => k_is)
    (case xl_NoState => k_is)
    (case rv_NoState => first | rfl | decide +kernel)
    (case sa_NoState => k_is)
    (case ex_NoState => k_is)
    (case ty_NoState => k_is)
    (case kc_NoState => k_is)
    (case ii_NoState => k_is)
    (case it_NoState => k_is)
    (case li_NoState => k_is)
    (case ci_NoState => k_is)
    (case ce_NoState => k_is)
    (case co_NoState => k_is)
    (case cv_NoState => first | rfl | decide +kernel)
    (case cm_NoState => first | rfl | decide +kernel)
    (case mr_NoState => k_is)
    (case up_NoState => ks_is)
    (case ve_NoState => k_is)
    (case ga_NoState => k_is)
    (case gg_NoState => k_is)
    (case ha_NoState => k_is)
    (case hm_NoState => k_is)
    (case hd_NoState => k_is)
    (case ic_NoState => k_is)
    (case pe_NoState => k_is)
    (case nf_NoState_tick => k_is)
    (case a__law_begin => k_is)
    (case l__law_begin => k_is)
    (case c__law_begin => k_is)
    (case k__law_begin => k_is)
    (case a__law_draw => k_is)
    (case l__law_draw => k_is)
    (case c__law_draw => k_is)
    (case k__law_draw => k_is)
    (case a__law_rare => k_is)
    (case l__law_rare => k_is)
    (case c__law_rare => k_is)
    (case k__law_rare => k_is)
    (case a__law_pick => k_is)
    (case l__law_pick => k_is)
    (case c__law_pick => k_is)
    (case k__law_pick => k_is)
    (case a__law_layout => k_is)
    (case l__law_layout => k_is)
    (case c__law_layout => k_is)
    (case k__law_layout => k_is)
    (case a_Store___init__ => k_is)
    (case i_Store___init__ => k_is)
    (case l_Store___init__ => k_is)
    (case c_Store___init__ => k_is)
    (case k_Store___init__ => k_is)
    (case a_Store_number_of => k_is)
    (case i_Store_number_of => k_is)
    (case l_Store_number_of => k_is)
    (case c_Store_number_of => k_is)
    (case k_Store_number_of => k_is)
    (case a_Store_drop_from => k_is)
    (case i_Store_drop_from => k_is)
    (case l_Store_drop_from => k_is)
    (case c_Store_drop_from => k_is)
    (case k_Store_drop_from => k_is)
    (case a_difference => k_is)
    (case l_difference => k_is)
    (case c_difference => k_is)
    (case k_difference => k_is)
    (case a_changed => k_is)
    (case l_changed => k_is)
    (case c_changed => k_is)
    (case k_changed => k_is)
    (case a_Store_last_state => k_is)
    (case i_Store_last_state => k_is)
    (case l_Store_last_state => k_is)
    (case c_Store_last_state => k_is)
    (case k_Store_last_state => k_is)
    (case a_Store_keep => k_is)
    (case i_Store_keep => k_is)
    (case l_Store_keep => k_is)
    (case c_Store_keep => k_is)
    (case k_Store_keep => k_is)
    (case a__law_some_tick => k_is)
    (case l__law_some_tick => k_is)
    (case c__law_some_tick => k_is)
    (case k__law_some_tick => k_is)
    (case a_Store_has => k_is)
    (case i_Store_has => k_is)
    (case l_Store_has => k_is)
    (case c_Store_has => k_is)
    (case k_Store_has => k_is)
    (case a_Store_state_at => k_is)
    (case i_Store_state_at => k_is)
    (case l_Store_state_at => k_is)
    (case c_Store_state_at => k_is)
    (case k_Store_state_at => k_is)
    (case a_composed => k_is)
    (case l_composed => k_is)
    (case c_composed => k_is)
    (case k_composed => k_is)
    (case a_thinned => k_is)
    (case l_thinned => k_is)
    (case c_thinned => k_is)
    (case k_thinned => k_is)
    (case a_Store_drop => k_is)
    (case i_Store_drop => k_is)
    (case l_Store_drop => k_is)
    (case c_Store_drop => k_is)
    (case k_Store_drop => k_is)
    (case a__law_next_tick => k_is)
    (case l__law_next_tick => k_is)
    (case c__law_next_tick => k_is)
    (case k__law_next_tick => k_is)
    (case a__law_entry => k_is)
    (case l__law_entry => k_is)
    (case c__law_entry => k_is)
    (case k__law_entry => k_is)
    (case a__law_any => k_is)
    (case l__law_any => k_is)
    (case c__law_any => k_is)
    (case k__law_any => k_is)
    (case a__law_mixed => k_is)
    (case l__law_mixed => k_is)
    (case c__law_mixed => k_is)
    (case k__law_mixed => k_is)
    (case a__law_next_state => k_is)
    (case l__law_next_state => k_is)
    (case c__law_next_state => k_is)
    (case k__law_next_state => k_is)
    (case a__law_with => k_is)
    (case l__law_with => k_is)
    (case c__law_with => k_is)
    (case k__law_with => k_is)
    (case a__law_done => k_is)
    (case l__law_done => k_is)
    (case c__law_done => k_is)
    (case k__law_done => k_is)
    (case a_Store_ticks => k_is)
    (case i_Store_ticks => k_is)
    (case l_Store_ticks => k_is)
    (case c_Store_ticks => k_is)
    (case k_Store_ticks => k_is)
    (case a_Store_size => k_is)
    (case i_Store_size => k_is)
    (case l_Store_size => k_is)
    (case c_Store_size => k_is)
    (case k_Store_size => k_is)
    (case a__law_is_int => k_is)
    (case l__law_is_int => k_is)
    (case c__law_is_int => k_is)
    (case k__law_is_int => k_is)
    (case a__law_is_ints => k_is)
    (case l__law_is_ints => k_is)
    (case c__law_is_ints => k_is)
    (case k__law_is_ints => k_is)
    (case a__law_size => k_is)
    (case l__law_size => k_is)
    (case c__law_size => k_is)
    (case k__law_size => k_is)
    (case a__law_is_missing => k_is)
    (case l__law_is_missing => k_is)
    (case c__law_is_missing => k_is)
    (case k__law_is_missing => k_is)
    (case a__law_is_all => k_is)
    (case l__law_is_all => k_is)
    (case c__law_is_all => k_is)
    (case k__law_is_all => k_is)
    (case a__law_filled => k_is)
    (case l__law_filled => k_is)
    (case c__law_filled => k_is)
    (case k__law_filled => k_is)
    (case a__law_shuffled => k_is)
    (case l__law_shuffled => k_is)
    (case c__law_shuffled => k_is)
    (case k__law_shuffled => k_is)
    (case a__law_are_twins => k_is)
    (case l__law_are_twins => k_is)
    (case c__law_are_twins => k_is)
    (case k__law_are_twins => k_is)
    (case a_law => k_is)
    (case l_law => k_is)
    (case c_law => k_is)
    (case k_law => k_is)
    (case z_int => k_is)
    (case z_len => k_is)
    (case z_abs => k_is)
    (case z_range => k_is)
    (case z_max => k_is)
    (case z_tuple => k_is)
    (case z_list => k_is)
    (case z_sorted => k_is)
    (case z_min => k_is)
    (case z_sum => k_is)
    (case z_isinstance => k_is)
    (case z_bool => k_is)
    (case z_all => k_is)
#print axioms PySem.Challenge.cw_judgedplay_k34_whole_store_reads_back_holds
