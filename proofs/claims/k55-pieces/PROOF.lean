import PyProof.Rows.All
import Wide.All
import OpenK.AllK
import Wide.FinOn
import HandS.ForMost
import HandS.Wide
import HandS.WideBits
import HandS.IsInst
import HandS.TupAny
import HandS.Deep
import HandS.EndBits
import HandS.More
import HandS.Walk
import HandS.Conv
import HandS.ForExc
import HandS.ExcInit
import HandS.ExcSuper
import HandS.ExcField
import HandS.Nested
import KE.KExcSuper
import KE.KExcIs
import HandS.ExcIs
import PySem.Challenge.RW_judgedplay_k55_any_three_pieces
set_option Elab.async false
set_option linter.all false
set_option maxRecDepth 100000
set_option maxHeartbeats 4000000
/-! ### my own layer: introduction forms for the readings -/
namespace Jp
open PySem PySem.Spec PyProof.Rows L2
/-! rules by names -/
section
variable {X : Cx}
def rInt1 : List V → Hp → VK → Prop := fun xs H Q => (∃ i, xs = [.int i] ∧ Q (.int i) H) ∨ ∃ k, xs = [.bl k] ∧ Q (.int (if k then 1 else 0)) H
theorem c_int : CallR X (.type "int") rInt1 := call_int1
def rAbs : List V → Hp → VK → Prop := fun xs H Q => ∃ i, xs = [.int i] ∧ Q (.int (if i < 0 then -i else i)) H
theorem c_abs : CallR X (.builtin "abs") rAbs := call_abs
def rMax2 : List V → Hp → VK → Prop := fun xs H Q => ∃ i j, xs = [.int i, .int j] ∧ Q (.int (if j > i then j else i)) H
theorem c_max2 (hc : X.calm = true) : CallR X (.builtin "max") rMax2 := call_max2 hc
def rMin2 : List V → Hp → VK → Prop := fun xs H Q => ∃ i j, xs = [.int i, .int j] ∧ Q (.int (if j < i then j else i)) H
theorem c_min2 (hc : X.calm = true) : CallR X (.builtin "min") rMin2 := call_min2 hc
def qLen (K : PySem.W.Frag) : List V → Hp → VK → Prop := fun xs H Q => ∃ x n, xs = [x] ∧ LenV K x H n ∧ Q (.int (n : Nat)) H
theorem c_len : CallR X (.builtin "len") (qLen X.K) := call_len
def rLenD : List V → Hp → VK → Prop := fun xs H Q => ∃ a kvs, xs = [V.ref a] ∧ H a = some (.dK kvs) ∧ Q (.int kvs.length) H
theorem c_lenD : CallR X (.builtin "len") rLenD := call_lenD
def rTupOf (K : PySem.W.Frag) : List V → Hp → VK → Prop := fun xs H Q => ∃ p ys, xs = [.ref p] ∧ ((SqL K H p ys ∧ ∀ l, H l = none → Q (.ref l) (upd H l (.tup ys))) ∨ (SqT K H p ys ∧ Q (.ref p) H))
theorem c_tup : CallR X (.type "tuple") (rTupOf X.K) := call_tuple_of
def rLstOf (K : PySem.W.Frag) : List V → Hp → VK → Prop := fun xs H Q => ∃ p ys, xs = [.ref p] ∧ (SqL K H p ys ∨ SqT K H p ys) ∧ ∀ l, H l = none → Q (.ref l) (upd H l (.lst ys))
theorem c_lst : CallR X (.type "list") (rLstOf X.K) := call_list_of
def rBool1 : List V → Hp → VK → Prop := fun xs H Q => (∃ i, xs = [.int i] ∧ Q (.bl (i != 0)) H) ∨ ∃ k, xs = [.bl k] ∧ Q (.bl k) H
theorem c_bool1 : CallR X (.type "bool") rBool1 := call_bool1
def rIsNon : R2 := fun x y H Q => y = .non ∧ Q (.bl (decide (x = .non))) H
theorem o_isN : OpR X (compareOp .Is) rIsNon := op_isN
def rNotNon : R2 := fun x y H Q => y = .non ∧ Q (.bl (!decide (x = .non))) H
theorem o_notN : OpR X (compareOp .IsNot) rNotNon := op_notN
def rAddStr : R2 := fun x y H Q => ∃ i j, x = .str i ∧ y = .str j ∧ i.length + j.length ≤ sizeLine ∧ Q (.str (i ++ j)) H
theorem o_addS : OpR X (binaryOp .Add) rAddStr := op_add_str
theorem o_iaddS : OpR X (inplaceOp .Add) rAddStr := iop_add_str
end
section
variable {K : PySem.W.Frag} {σ : L2.St} {H : Hp} {Q : VK}
theorem i_isN {x : V} (q : Q (.bl (decide (x = .non))) H) : rIsNon x .non H Q := ⟨rfl, q⟩
theorem i_notN {x : V} (q : Q (.bl (!decide (x = .non))) H) : rNotNon x .non H Q := ⟨rfl, q⟩
theorem i_int {i : Int} (q : Q (.int i) H) : rInt1 [.int i] H Q := .inl ⟨i, rfl, q⟩
theorem i_intB {k : Bool} (q : Q (.int (if k then 1 else 0)) H) : rInt1 [.bl k] H Q := .inr ⟨k, rfl, q⟩
theorem i_abs {i : Int} (q : Q (.int (if i < 0 then -i else i)) H) : rAbs [.int i] H Q := ⟨i, rfl, q⟩
theorem i_max2 {i j : Int} (q : Q (.int (if j > i then j else i)) H) : rMax2 [.int i, .int j] H Q := ⟨i, j, rfl, q⟩
theorem i_min2 {i j : Int} (q : Q (.int (if j < i then j else i)) H) : rMin2 [.int i, .int j] H Q := ⟨i, j, rfl, q⟩
theorem i_lenL {p : Addr} {xs : List V} (h : SqL K H p xs) (q : Q (.int xs.length) H) : qLen K [.ref p] H Q := ⟨.ref p, xs.length, rfl, .inl ⟨xs, h, rfl⟩, q⟩
theorem i_lenT {p : Addr} {xs : List V} (h : SqT K H p xs) (q : Q (.int xs.length) H) : qLen K [.ref p] H Q := ⟨.ref p, xs.length, rfl, .inr ⟨xs, h, rfl⟩, q⟩
theorem i_lenS {x : Str} (h : x.length ≤ sizeLine) (q : Q (.int x.length) H) : qLen K [.str x] H Q := ⟨.str x, x.length, rfl, ⟨h, rfl⟩, q⟩
theorem i_lenD {p : Addr} {kvs : List (L2.Key × V)} (h : H p = some (.dK kvs)) (q : Q (.int kvs.length) H) : rLenD [.ref p] H Q := ⟨p, kvs, rfl, h, q⟩
theorem i_tupL {p : Addr} {ys : List V} (h : SqL K H p ys) (q : ∀ l, H l = none → Q (.ref l) (upd H l (.tup ys))) : rTupOf K [.ref p] H Q := ⟨p, ys, rfl, .inl ⟨h, q⟩⟩
theorem i_tupT {p : Addr} {ys : List V} (h : SqT K H p ys) (q : Q (.ref p) H) : rTupOf K [.ref p] H Q := ⟨p, ys, rfl, .inr ⟨h, q⟩⟩
theorem i_lstL {p : Addr} {ys : List V} (h : SqL K H p ys) (q : ∀ l, H l = none → Q (.ref l) (upd H l (.lst ys))) : rLstOf K [.ref p] H Q := ⟨p, ys, rfl, .inl h, q⟩
theorem i_lstT {p : Addr} {ys : List V} (h : SqT K H p ys) (q : ∀ l, H l = none → Q (.ref l) (upd H l (.lst ys))) : rLstOf K [.ref p] H Q := ⟨p, ys, rfl, .inr h, q⟩
theorem i_catA {p b : Addr} {xs ys : List V} (h1 : SqT K H p xs) (h2 : SqT K H b ys) (hl : xs.length + ys.length ≤ sizeLine) (q : ∀ (r : Addr) (H' : Hp), (∀ b o, H b = some o → H' b = some o) → SqT K H' r (xs ++ ys) → Q (.ref r) H') : rCatA K (.ref p) (.ref b) H Q := by
  refine ⟨p, b, xs, ys, rfl, rfl, h1, h2, hl, fun e => ?_, fun _ e => ?_, fun _ _ r hr => ?_⟩
  · subst e; exact q b H (fun _ _ h => h) h2
  · subst e; exact q p H (fun _ _ h => h) (by rw [List.append_nil]; exact h1)
  · exact q r _ (fun b o e => by rw [upd_ne (ne_of_none e hr)]; exact e) (.inl (.inl upd_same))
theorem i_catI {p b : Addr} {ns ms : List Int} (h1 : SqT K H p (ns.map V.int)) (h2 : SqT K H b (ms.map V.int)) (hl : ns.length + ms.length ≤ 10000) (q : ∀ (r : Addr) (H' : Hp), (∀ b o, H b = some o → H' b = some o) → SqT K H' r ((ns ++ ms).map V.int) → Q (.ref r) H') : rCatA K (.ref p) (.ref b) H Q :=
  i_catA h1 h2 (by rw [List.length_map, List.length_map]; exact Nat.le_trans hl (by decide)) fun r H' s t => q r H' s (by rw [List.map_append]; exact t)
/-- ns[lo:hi] -/
def cutI (ns : List Int) (lo hi : Option Int) : List Int := (ns.drop (HT.sIx ns.length 0 lo)).take (HT.sIx ns.length ns.length hi - HT.sIx ns.length 0 lo)
theorem cutI_len (ns : List Int) (lo hi : Option Int) : (cutI ns lo hi).length ≤ ns.length := by
  unfold cutI
  rw [List.length_take, List.length_drop]
  omega
theorem i_slI {p : Addr} {ns : List Int} {lo hi : Option Int} (h : SqT K H p (ns.map V.int)) (hw : ¬ (HT.sIx ns.length 0 lo = 0 ∧ HT.sIx ns.length ns.length hi = ns.length))
    (q : ∀ (r : Addr) (H' : Hp), (∀ b o, H b = some o → H' b = some o) → SqT K H' r ((cutI ns lo hi).map V.int) → Q (.ref r) H') : rSlT K (.ref p) lo hi H Q := by
  refine ⟨p, _, rfl, h, by rw [List.length_map]; exact hw, fun r hr => q r _ (fun b o e => by rw [upd_ne (ne_of_none e hr)]; exact e) (.inl (.inl ?_))⟩
  rw [upd_same]
  unfold cutV cutI
  rw [List.length_map, List.map_take, List.map_drop]
theorem i_sl {r : V → Option Int → Option Int → Hp → VK → Prop} {te : TE} {tl th : TO} (h : te σ H fun x H1 => tl σ H1 fun l H2 => th σ H2 fun u H3 => r x l u H3 Q) : tSl r te tl th σ H Q := h
theorem i_noPart {Q : Option Int → Hp → Prop} (q : Q none H) : tNoPart σ H Q := q
theorem i_part {t : TE} {Q : Option Int → Hp → Prop} (h : t σ H fun x H1 => ∃ i, x = .int i ∧ Q (some i) H1) : tPart t σ H Q := h
theorem i_cat {p b : Addr} {xs zs : List V} (h1 : H p = some (.lst xs)) (h2 : H b = some (.lst zs)) (hl : xs.length + zs.length ≤ sizeLine) (q : ∀ r, H r = none → Q (.ref r) (upd H r (.lst (xs ++ zs)))) : rCat (.ref p) (.ref b) H Q := ⟨p, b, xs, zs, rfl, rfl, h1, h2, hl, q⟩
theorem i_cat' {p b : Addr} {xs zs : List V} (e1 : H p = some (.lst xs)) (e2 : H b = some (.lst zs)) (hl : xs.length + zs.length ≤ 10000) (q : ∀ r H', (∀ b o, H b = some o → H' b = some o) → H r = none → H' r = some (.lst (xs ++ zs)) → Q (.ref r) H') : rCat (.ref p) (.ref b) H Q :=
  i_cat e1 e2 (by rw [sizeLine_eq]; omega) fun r hr => q r _ (fun b o e => by rw [upd_ne (ne_of_none e hr)]; exact e) hr upd_same
theorem i_slL {p : Addr} {xs : List V} {lo hi : Option Int} (h : SqL K H p xs) (q : ∀ r H', (∀ b o, H b = some o → H' b = some o) → H r = none → H' r = some (.lst (cutV xs lo hi)) → Q (.ref r) H') : rSlL K (.ref p) lo hi H Q :=
  ⟨p, xs, rfl, h, fun r hr => q r _ (fun b o e => by rw [upd_ne (ne_of_none e hr)]; exact e) hr upd_same⟩
theorem i_chain {r r' : R2} {ta tb tc : TE} (h : ta σ H fun x H1 => tb σ H1 fun y H2 => r x y H2 fun z H3 => ∃ k, z = .bl k ∧ (if k = true then tc σ H3 fun w' H4 => r' y w' H4 Q else Q (.bl false) H3)) : tChain r r' ta tb tc σ H Q := h
theorem i_popAt {p : Addr} {xs : List V} {i : Int} {y : V} (h : H p = some (.lst xs)) (h0 : 0 ≤ i) (h1 : i < xs.length) (h2 : xs.length ≤ 1000000) (e : xs[i.toNat]? = some y) (q : Q y (upd H p (.lst (xs.eraseIdx i.toNat)))) : rPopAt (.ref p) [.int i] H Q :=
  ⟨p, xs, i, i.toNat, y, rfl, rfl, h, by omega, by omega, seqIndex_of h0 h1, e, q⟩
theorem i_isI {i : Int} {Q : Int → Prop} (q : Q i) : ∃ i', V.int i = .int i' ∧ Q i' := ⟨i, rfl, q⟩
theorem i_bm {T : String} {r : V → List V → Hp → VK → Prop} {to : TE} {t : TA} (h : to σ H fun x H1 => tyV K T x H1 ∧ t σ H1 fun xs H2 => r x xs H2 Q) : tBM K T r to t σ H Q := h
theorem i_bm0 {T : String} {r : V → List V → Hp → VK → Prop} {to : TE} (h : to σ H fun x H1 => tyV K T x H1 ∧ r x [] H1 Q) : tBM0 K T r to σ H Q := h
theorem i_tyL {p : Addr} {xs : List V} {R : Prop} (s : SqL K H p xs) (q : R) : tyV K "list" (.ref p) H ∧ R := ⟨.inl ⟨rfl, xs, s⟩, q⟩
theorem i_app {p : Addr} {xs : List V} {y : V} (h : H p = some (.lst xs)) (hl : xs.length < sizeLine) (q : Q .non (upd H p (.lst (xs ++ [y])))) : rAppend (.ref p) [y] H Q := ⟨p, xs, y, rfl, rfl, h, hl, q⟩
theorem i_addS {x y : Str} (h : x.length + y.length ≤ sizeLine) (q : Q (.str (x ++ y)) H) : rAddStr (.str x) (.str y) H Q := ⟨x, y, rfl, rfl, h, q⟩
theorem i_isi {x : V} {n : String} {t : Value} {b : Bool} (ty : TyX K H x t) (e : PySem.W.kitOne K t (.type n) = some b) (q : Q (.bl b) H) : rIsi K [x, .ty n] H Q := ⟨x, .ty n, t, .type n, b, rfl, .ty n, ty, e, q⟩
theorem i_var {i : Nat} {v : V} (h : σ[i]? = some (some v)) (q : Q v H) : tVar i σ H Q := ⟨v, h, q⟩
theorem i_c {v : V} (q : Q v H) : tC v σ H Q := q
theorem i_op {r : R2} {ta tb : TE} (h : ta σ H fun x H1 => tb σ H1 fun y H2 => r x y H2 Q) : tOp r ta tb σ H Q := h
theorem i_un {r : V → Hp → VK → Prop} {ta : TE} (h : ta σ H fun x H1 => r x H1 Q) : tUn r ta σ H Q := h
theorem i_rI0 {g : Int → Int → V} {i j : Int} (q : Q (g i j) H) : rI0 g (.int i) (.int j) H Q := ⟨i, j, rfl, rfl, q⟩
theorem i_rI {C : Int → Int → Prop} {g : Int → Int → V} {i j : Int} (c : C i j) (q : Q (g i j) H) : rI C g (.int i) (.int j) H Q := ⟨i, j, rfl, rfl, c, q⟩
theorem i_rU {g : Int → V} {i : Int} (q : Q (g i) H) : rU g (.int i) H Q := ⟨i, rfl, q⟩
theorem i_eqI {i j : Int} (q : Q (.bl (decide (i = j))) H) : rEq (.int i) (.int j) H Q := ⟨rfl, by
  have e : decide (V.int i = V.int j) = decide (i = j) := by simp
  rw [e]; exact q⟩
theorem i_neI {i j : Int} (q : Q (.bl (!decide (i = j))) H) : rNe (.int i) (.int j) H Q := ⟨rfl, by
  have e : decide (V.int i = V.int j) = decide (i = j) := by simp
  rw [e]; exact q⟩
theorem i_eqB {i j : Bool} (q : Q (.bl (decide (i = j))) H) : rEq (.bl i) (.bl j) H Q := ⟨rfl, by
  have e : decide (V.bl i = V.bl j) = decide (i = j) := by simp
  rw [e]; exact q⟩
theorem i_neB {i j : Bool} (q : Q (.bl (!decide (i = j))) H) : rNe (.bl i) (.bl j) H Q := ⟨rfl, by
  have e : decide (V.bl i = V.bl j) = decide (i = j) := by simp
  rw [e]; exact q⟩
theorem i_eqS {i j : Str} (q : Q (.bl (decide (i = j))) H) : rEq (.str i) (.str j) H Q := ⟨rfl, by
  have e : decide (V.str i = V.str j) = decide (i = j) := by simp
  rw [e]; exact q⟩
theorem i_neS {i j : Str} (q : Q (.bl (!decide (i = j))) H) : rNe (.str i) (.str j) H Q := ⟨rfl, by
  have e : decide (V.str i = V.str j) = decide (i = j) := by simp
  rw [e]; exact q⟩
/-! index -/
theorem i_ixL {p : Addr} {xs : List V} {i : Int} {v : V} (h : SqL K H p xs) (e : atI xs i = some v) (q : Q v H) : rIxL K (.ref p) (.int i) H Q := ⟨p, xs, i, v, rfl, rfl, h, e, q⟩
theorem i_ixT {p : Addr} {xs : List V} {i : Int} {v : V} (h : SqT K H p xs) (e : atI xs i = some v) (q : Q v H) : rIxT K (.ref p) (.int i) H Q := ⟨p, xs, i, v, rfl, rfl, h, e, q⟩
theorem i_ix1 {x y : V} (h : rIxL K x y H Q) : rIx K x y H Q := .inl h
theorem i_ix2 {x y : V} (h : rIxT K x y H Q) : rIx K x y H Q := .inr (.inl h)
/-! arguments, calls, displays -/
theorem i_nil {Q : List V → Hp → Prop} (q : Q [] H) : tNil σ H Q := q
theorem i_cons {ta : TE} {tr : TA} {Q : List V → Hp → Prop} (h : ta σ H fun x H1 => tr σ H1 fun xs H2 => Q (x :: xs) H2) : tCons ta tr σ H Q := h
theorem i_call {sp : Sp} {E : XK} {t : TA} (h : t σ H fun vs H1 => sp (vs ++ []) H1 Q E) : tCall sp [] E t σ H Q := h
theorem i_cb {r : List V → Hp → VK → Prop} {t : TA} (h : t σ H fun vs H1 => r vs H1 Q) : tCB r t σ H Q := h
theorem i_tup {t : TA} (h : t σ H fun xs H1 => xs.length ≤ sizeLine ∧ ∀ p, H1 p = none → Q (.ref p) (upd H1 p (.tup xs))) : tTup t σ H Q := h
theorem i_lst {t : TA} (h : t σ H fun xs H1 => xs.length ≤ sizeLine ∧ ∀ p, H1 p = none → Q (.ref p) (upd H1 p (.lst xs))) : tLst t σ H Q := h
theorem i_new {n : Nat} {R : Addr → Prop} (h : n ≤ sizeLine) (q : ∀ p, H p = none → R p) : n ≤ sizeLine ∧ ∀ p, H p = none → R p := ⟨h, q⟩
theorem i_if {c : TT} {ta tb : TE} (h : c σ H fun b H1 => if b = true then ta σ H1 Q else tb σ H1 Q) : tIf c ta tb σ H Q := h
theorem i_andV {ta tb : TE} (h : ta σ H fun x H1 => ∃ c, x = .bl c ∧ if c = true then tb σ H1 Q else Q (.bl false) H1) : tAndV ta tb σ H Q := h
theorem i_orV {ta tb : TE} (h : ta σ H fun x H1 => ∃ c, x = .bl c ∧ if c = true then Q (.bl true) H1 else tb σ H1 Q) : tOrV ta tb σ H Q := h
theorem i_notV {ta : TE} (h : ta σ H fun x H1 => ∃ c, x = .bl c ∧ Q (.bl (!c)) H1) : tNotV ta σ H Q := h
/-! tests -/
theorem i_test {t : TE} {Q : Bool → Hp → Prop} (h : t σ H fun x H1 => ∃ k, x = .bl k ∧ Q k H1) : tTest t σ H Q := h
theorem i_B {t : TE} {Q : Bool → Hp → Prop} (h : t σ H fun x H1 => ∃ k, x = .bl k ∧ Q k H1) : tB t σ H Q := h
theorem i_isb {k : Bool} {Q : Bool → Prop} (q : Q k) : ∃ k', V.bl k = .bl k' ∧ Q k' := ⟨k, rfl, q⟩
theorem i_and {t u : TT} {Q : Bool → Hp → Prop} (h : t σ H fun c H1 => if c = true then u σ H1 Q else Q false H1) : tAnd t u σ H Q := h
theorem i_or {t u : TT} {Q : Bool → Hp → Prop} (h : t σ H fun c H1 => if c = true then Q true H1 else u σ H1 Q) : tOr t u σ H Q := h
theorem i_not {t : TT} {Q : Bool → Hp → Prop} (h : t σ H fun c H1 => Q (!c) H1) : tNot t σ H Q := h
/-! statements -/
section
variable {nx : L2.St → Hp → Prop} {rt : VK} {bk ct : L2.St → Hp → Prop}
theorem i_seq {t u : TS} (h : t ⟨u ⟨nx, rt, bk, ct⟩, rt, bk, ct⟩ σ H) : tSeq t u ⟨nx, rt, bk, ct⟩ σ H := h
theorem i_next (h : nx σ H) : tNext ⟨nx, rt, bk, ct⟩ σ H := h
theorem i_asg {te : TE} {g : TG} (h : te σ H fun x H1 => g x σ H1 nx) : tAsg te g ⟨nx, rt, bk, ct⟩ σ H := h
theorem i_drop {te : TE} (h : te σ H fun _ H1 => nx σ H1) : tDrop te ⟨nx, rt, bk, ct⟩ σ H := h
theorem i_ret {te : TE} (h : te σ H rt) : tRet te ⟨nx, rt, bk, ct⟩ σ H := h
theorem i_retN (h : rt .non H) : tRetN ⟨nx, rt, bk, ct⟩ σ H := h
theorem i_ifS {c : TT} {t u : TS} (h : c σ H fun b H1 => if b = true then t ⟨nx, rt, bk, ct⟩ σ H1 else u ⟨nx, rt, bk, ct⟩ σ H1) : tIfS c t u ⟨nx, rt, bk, ct⟩ σ H := h
theorem i_ifC {c : TT} {t u : TS} (J : L2.St → Hp → Prop) (h1 : ∀ σ' H', J σ' H' → nx σ' H') (h2 : ∀ N : L2.St → Hp → Prop, (∀ σ' H', J σ' H' → N σ' H') → tIfS c t u ⟨N, rt, bk, ct⟩ σ H) : tIfS c t u ⟨nx, rt, bk, ct⟩ σ H := h2 _ h1
theorem i_break (h : bk σ H) : tBreak ⟨nx, rt, bk, ct⟩ σ H := h
theorem i_cont (h : ct σ H) : tCont ⟨nx, rt, bk, ct⟩ σ H := h
theorem i_augE {i : Nat} {te : TE} {ti : TIp} {x : V} (e : σ[i]? = some (some x)) (h : te σ H fun y H1 => ti x y H1 fun z H2 => gName i z σ H2 nx) : tAug i te ti ⟨nx, rt, bk, ct⟩ σ H := ⟨x, e, h⟩
theorem i_augS {to ti te : TE} {tget : V → V → Hp → VK → Prop} {tip : TIp} {tset : TSet} (h : to σ H fun o H1 => ti σ H1 fun i H2 => tget o i H2 fun x H3 => te σ H3 fun y H4 => tip x y H4 fun z H5 => tset o i z H5 fun H6 => nx σ H6) : tAugS to ti te tget tip tset ⟨nx, rt, bk, ct⟩ σ H := h
theorem i_ipI {f : Int → Int → Int} {i j : Int} (q : Q (.int (f i j)) H) : ipI f (.int i) (.int j) H Q := ⟨i, j, rfl, rfl, q⟩
theorem i_for {wi : TI} {g : TG} {tb : TS} (h : wi σ H fun J H1 => ∃ W : Nat → Nat → L2.St → Hp → Prop, (∃ m, W 0 m σ H1) ∧ ∀ i m σ H, W i m σ H →
  (J.stop i H ∧ nx σ H) ∨ (J.go i H ∧ ∃ N : L2.St → Hp → Prop, (∀ σ' H', N σ' H' → ∃ m', m' < m ∧ W (i + 1) m' σ' H') ∧ ∀ x H', J.yld i H x H' → g x σ H' fun σ2 H2 => tb ⟨N, rt, nx, N⟩ σ2 H2)) : tFor wi g tb ⟨nx, rt, bk, ct⟩ σ H := h
theorem i_iList {tl : TE} {R : It → Hp → Prop} (h : tl σ H fun x H1 => ∃ a, x = .ref a ∧ (∃ xs, SqL K H1 a xs) ∧ R (Itl K a) H1) : iList K tl σ H R := h
theorem i_iTup {tl : TE} {R : It → Hp → Prop} (h : tl σ H fun x H1 => ∃ a, x = .ref a ∧ (∃ xs, SqT K H1 a xs) ∧ R (Itt K a) H1) : iTup K tl σ H R := h
theorem i_isL {a : Addr} {xs : List V} {R : Addr → Prop} (s : SqL K H a xs) (h : R a) : ∃ a', V.ref a = .ref a' ∧ (∃ xs, SqL K H a' xs) ∧ R a' := ⟨a, rfl, ⟨xs, s⟩, h⟩
theorem i_isT {a : Addr} {xs : List V} {R : Addr → Prop} (s : SqT K H a xs) (h : R a) : ∃ a', V.ref a = .ref a' ∧ (∃ xs, SqT K H a' xs) ∧ R a' := ⟨a, rfl, ⟨xs, s⟩, h⟩
theorem i_rng1 {ta : TA} {R : It → Hp → Prop} (h : ta σ H fun vs H1 => ∃ j : Int, vs = [.int j] ∧ -(2 ^ 62) ≤ j ∧ j < 2 ^ 62 ∧ R (Itr 0 j.toNat) H1) : iRng1 ta σ H R := h
theorem i_rng2 {ta : TA} {R : It → Hp → Prop} (h : ta σ H fun vs H1 => ∃ i j : Int, vs = [.int i, .int j] ∧ (-(2 ^ 62) ≤ i ∧ i < 2 ^ 62 ∧ -(2 ^ 62) ≤ j ∧ j < 2 ^ 62) ∧ R (Itr i (j - i).toNat) H1) : iRng2 ta σ H R := h
theorem i_isR1 {j : Int} {R : Int → Prop} (h1 : -(2 ^ 62) ≤ j) (h2 : j < 2 ^ 62) (h : R j) : ∃ j' : Int, [V.int j] = [.int j'] ∧ -(2 ^ 62) ≤ j' ∧ j' < 2 ^ 62 ∧ R j' := ⟨j, rfl, h1, h2, h⟩
theorem i_isR2 {i j : Int} {R : Int → Int → Prop} (h1 : -(2 ^ 62) ≤ i) (h2 : i < 2 ^ 62) (h3 : -(2 ^ 62) ≤ j) (h4 : j < 2 ^ 62) (h : R i j) : ∃ i' j' : Int, [V.int i, V.int j] = [.int i', .int j'] ∧ (-(2 ^ 62) ≤ i' ∧ i' < 2 ^ 62 ∧ -(2 ^ 62) ≤ j' ∧ j' < 2 ^ 62) ∧ R i' j' := ⟨i, j, rfl, ⟨h1, h2, h3, h4⟩, h⟩
end
/-! comprehensions -/
theorem i_lc {wi : TI} {g : TG} {tt : TT} {te : TE} {ws : List Nat} {σ' : L2.St} (e : wipe σ ws = σ') (h : wi σ H fun J H1 => ∀ D, H1 D = none → ∃ W : Nat → Nat → Hp → Prop, (∃ m, W 0 m (upd H1 D (.lst []))) ∧ ∀ i m H, W i m H →
  (J.stop i H ∧ Q (.ref D) H) ∨ (J.go i H ∧ ∃ Nx : Hp → Prop, (∀ H', Nx H' → ∃ m', m' < m ∧ W (i + 1) m' H') ∧ ∀ x H', J.yld i H x H' → g x σ' H' fun σ2 H2 => wipe σ2 ws = σ' ∧ tt σ2 H2 fun b H3 =>
    if b = true then te σ2 H3 fun y H4 => ∃ acc, H4 D = some (.lst acc) ∧ acc.length < sizeLine ∧ Nx (upd H4 D (.lst (acc ++ [y]))) else Nx H3)) : tLc wi g tt te ws σ H Q := by subst e; exact h
/-! targets -/
theorem i_gNameE {i : Nat} {v : V} {σ' : L2.St} {Q : L2.St → Hp → Prop} (e : σ.set i (some v) = σ') (q : Q σ' H) : gName i v σ H Q := by subst e; exact q
theorem st_of {t : TS} {D : Ends} {σ σ' : L2.St} {H : Hp} (e : σ = σ') (h : t D σ' H) : t D σ H := by subst e; exact h
theorem i_gName {i : Nat} {v : V} {Q : L2.St → Hp → Prop} (q : Q (σ.set i (some v)) H) : gName i v σ H Q := q
theorem i_gSub {to ti : TE} {t : TSet} {v : V} {Q : L2.St → Hp → Prop} (h : to σ H fun o H1 => ti σ H1 fun i H2 => t o i v H2 fun H3 => Q σ H3) : gSub to ti t v σ H Q := h
theorem i_setL {p : Addr} {xs : List V} {k : Int} {j : Nat} {v : V} {Q : Hp → Prop} (h : H p = some (.lst xs)) (e : ixN xs.length k = some j) (q : Q (upd H p (.lst (xs.set j v)))) : rSetL (.ref p) (.int k) v H Q := ⟨p, xs, k, j, rfl, rfl, h, e, q⟩
theorem i_gTup {n : Nat} {t : TGs} {a : Addr} {xs : List V} {Q : L2.St → Hp → Prop} (h : SqT K H a xs) (e : xs.length = n) (q : t xs σ H Q) : gTup K n t (.ref a) σ H Q := ⟨a, xs, rfl, h, e, q⟩
theorem i_gNil {Q : L2.St → Hp → Prop} (q : Q σ H) : gNil [] σ H Q := ⟨rfl, q⟩
theorem i_gCons {t : TG} {u : TGs} {v : V} {r : List V} {Q : L2.St → Hp → Prop} (q : t v σ H fun σ' H' => u r σ' H' Q) : gCons t u (v :: r) σ H Q := ⟨v, r, rfl, q⟩
/-! builtins' calls -/
end
/-! ### heaps -/
/-- all but p is as it was -/
def Kp (p : Addr) (H H' : Hp) : Prop := ∀ b o, H b = some o → b ≠ p → H' b = some o
theorem Kp.refl {p : Addr} {H : Hp} : Kp p H H := fun _ _ e _ => e
theorem Kp.of {p : Addr} {H H' : Hp} (s : Same H H') : Kp p H H' := fun b o e _ => s b o e
theorem Kp.trans {p : Addr} {H H1 H2 : Hp} (a : Kp p H H1) (b : Kp p H1 H2) : Kp p H H2 := fun c o e n => b c o (a c o e n) n
theorem Kp.upd {p : Addr} {H : Hp} {o : HO} : Kp p H (upd H p o) := fun b u e n => by rw [upd_ne n]; exact e
theorem same_new {H : Hp} {p : Addr} {o : HO} (h : H p = none) : Same H (upd H p o) := fun b x e => by
  rw [upd_ne (ne_of_none e h)]
  exact e
theorem Same.tup {K : PySem.W.Frag} {H H' : Hp} {a : Addr} {xs : List V} (e : Same H H') (h : SqT K H a xs) : SqT K H' a xs := by
  rcases h with (h | ⟨o, h⟩) | h
  · exact .inl (.inl (e _ _ h))
  · exact .inl (.inr ⟨o, e _ _ h⟩)
  · exact .inr h
/-- all tuples are as they were -/
def Tps (H H' : Hp) : Prop := ∀ a, (∀ xs, H a = some (.tup xs) → H' a = some (.tup xs)) ∧ ∀ o xs, H a = some (.frz o (.tup xs)) → H' a = some (.frz o (.tup xs))
theorem Tps.sq {K : PySem.W.Frag} {H H' : Hp} {a : Addr} {xs : List V} (e : Tps H H') (h : SqT K H a xs) : SqT K H' a xs := by
  rcases h with (h | ⟨o, h⟩) | h
  · exact .inl (.inl ((e a).1 _ h))
  · exact .inl (.inr ⟨o, (e a).2 _ _ h⟩)
  · exact .inr h
theorem Tps.refl {H : Hp} : Tps H H := fun _ => ⟨fun _ h => h, fun _ _ h => h⟩
theorem Tps.trans {H H1 H2 : Hp} (a : Tps H H1) (b : Tps H1 H2) : Tps H H2 := fun c => ⟨fun xs h => (b c).1 xs ((a c).1 xs h), fun o xs h => (b c).2 o xs ((a c).2 o xs h)⟩
theorem Tps.of {H H' : Hp} (s : Same H H') : Tps H H' := fun a => ⟨fun xs h => s _ _ h, fun o xs h => s _ _ h⟩
theorem Kp.tps {p : Addr} {H H' : Hp} (k : Kp p H H') {xs : List V} (h : H p = some (.lst xs)) : Tps H H' := fun a => ⟨fun ys e => k _ _ e (ne_of e h (by intro z; cases z)), fun o ys e => k _ _ e (ne_of e h (by intro z; cases z))⟩
theorem Kp.seq {K : PySem.W.Frag} {p b : Addr} {H H' : Hp} {xs : List V} (k : Kp p H H') (h : SqL K H b xs) (n : b ≠ p) : SqL K H' b xs := by
  rcases h with (h | ⟨o, h⟩) | h
  · exact .inl (.inl (k _ _ h n))
  · exact .inl (.inr ⟨o, k _ _ h n⟩)
  · exact .inr h
/-! ### data -/
def Shp (n : Nat) (d : PyData) : Prop := d.canLay0 = true ∧ d.depth ≤ n
theorem Shp.shaped {n : Nat} {d : PyData} (h : Shp n d) (hn : n ≤ 64) : SeqAt.shaped d = true := by
  unfold SeqAt.shaped
  rw [h.1, decide_eq_true (Nat.le_trans h.2 hn)]
  rfl
theorem Shp.eqv {n : Nat} {d : PyData} (h : Shp n d) : PyData.eqv d d = true := SeqAt.eqv_refl d h.1
theorem Shp.int (i : Int) : Shp 0 (.int i) := ⟨by simp [PyData.canLay0], by simp [PyData.depth]⟩
theorem Shp.non : Shp 0 .none := ⟨by simp [PyData.canLay0], by simp [PyData.depth]⟩
theorem Shp.bool (b : Bool) : Shp 0 (.bool b) := ⟨by simp [PyData.canLay0], by simp [PyData.depth]⟩
theorem Shp.mono {n m : Nat} {d : PyData} (h : Shp n d) (hm : n ≤ m) : Shp m d := ⟨h.1, Nat.le_trans h.2 hm⟩
theorem shpAll {n : Nat} : ∀ {ds : List PyData}, (∀ d ∈ ds, Shp n d) → PyData.canLayAll0 ds = true ∧ PyData.depthAll ds ≤ n
  | [], _ => ⟨by simp [PyData.canLayAll0], by simp [PyData.depthAll]⟩
  | d :: ds, h => by
    have h1 := h d List.mem_cons_self
    have h2 := shpAll (ds := ds) fun x hx => h x (List.mem_cons_of_mem _ hx)
    refine ⟨by rw [PyData.canLayAll0, h1.1, h2.1]; rfl, ?_⟩
    rw [PyData.depthAll]
    exact Nat.max_le.mpr ⟨h1.2, h2.2⟩
theorem Shp.tup {n : Nat} {ds : List PyData} (h : ∀ d ∈ ds, Shp n d) : Shp (n + 1) (.tuple ds) := by
  have := shpAll h
  exact ⟨by rw [PyData.canLay0]; exact this.1, by rw [PyData.depth]; omega⟩
theorem Shp.lst {n : Nat} {ds : List PyData} (h : ∀ d ∈ ds, Shp n d) : Shp (n + 1) (.list ds) := by
  have := shpAll h
  exact ⟨by rw [PyData.canLay0]; exact this.1, by rw [PyData.depth]; omega⟩
theorem dpAll_of {K : PySem.W.Frag} {H : Hp} : ∀ {xs : List V} {ds : List PyData}, xs.length = ds.length → (∀ (i : Nat) x d, xs[i]? = some x → ds[i]? = some d → Dp K H x d) → DpAll K H xs ds
  | [], [], _, _ => .nil
  | x :: xs, d :: ds, hl, h => .cons (h 0 x d rfl rfl) (dpAll_of (by simpa using hl) fun i y e h1 h2 => h (i + 1) y e (by simpa using h1) (by simpa using h2))
theorem dp_ints {K : PySem.W.Frag} {H : Hp} {a : Addr} {ns : List Int} (h : SqT K H a (ns.map V.int)) : Dp K H (.ref a) (.tuple (ns.map PyData.int)) := by
  refine .tup h (dpAll_of (by simp) fun i x d h1 h2 => ?_)
  rw [List.getElem?_map] at h1 h2
  cases e : ns[i]? with
  | none => rw [e] at h1; cases h1
  | some z =>
    rw [e] at h1 h2
    cases h1
    cases h2
    exact .int z
/-! ### slices of tuples -/
section
variable {prog : Program} {w : World} {A : Around} {E : Value → Shared → Prop} {s : Shared}
theorem tup_whole {t sl : Addr} {items : Array Value} {vl vu : Value} {lo hi : Option Int} {Q : Value → Shared → Prop} (ht : IsTup s.heap t items) (hs : s.heap.IsSliceOf sl vl vu .none) (pl : IsPart vl lo) (pu : IsPart vu hi)
    (h0 : HT.sIx items.size 0 lo = 0) (h1 : HT.sIx items.size items.size hi = items.size) (h : Q (.ref t) s) : wpAny (model prog w) A (getItem (.ref t) (.ref sl)) Q E s := by
  have hTs : s.TypeIs (.ref sl) "slice" := by
    obtain ⟨os, hos, hcs, _⟩ := id hs
    exact ⟨os, hos, hcs⟩
  unfold getItem
  try with_reducible refine wpAny_holding ?_
  first | refine wpAny_bind (wpAny_pure ?_) | skip
  refine wpAny_bind (wpAny_sequenceKey ht.typeIs (by decide) (wpAny_bind (wpAny_callSpecial?_slot (name := Str.ofString "__getitem__") ht.typeIs PyProof.Rows.slot_tuple_getitem (wpAny_call_entry PyProof.Rows.slot_tuple_getitem ht.typeIs entry_tuple_getitem ?_ (args_tuple_getitem _ _)))))
  show wpAny _ _ (Builtin.Tuple.tupleItemsOf (.ref t) >>= _) _ _ s
  refine wpAny_bind (tupleItemsOf_ ht (wpAny_bind (wpAny_typeOf hTs ?_)))
  rw [if_pos (by decide)]
  refine wpAny_bind (HT.sliceApplied_gen hs pl pu ?_)
  show wpAny _ _ (if (((HT.sIx items.size 0 lo : Nat) : Int) == 0 && (1 : Int) == 1 && (HT.sIx items.size items.size hi - HT.sIx items.size 0 lo) == items.size) = true then _ else _) _ _ s
  rw [h0, h1, if_pos (by simp)]
  unfold Builtin.Tuple.tupleIsExact
  refine wpAny_bind (wpAny_bind (wpAny_typeOf ht.typeIs (wpAny_pure ?_)))
  rw [if_pos (by decide)]
  first
    | exact wpAny_bind (wpAny_rule (wpAny_pure ⟨_, rfl, wpAny_pure h⟩))
    | exact wpAny_bind (wpAny_rule (wpAny_bind (wpAny_pure (wpAny_pure ⟨_, rfl, wpAny_pure h⟩))))
end
section
variable {X : Cx}
/-- t[lo:hi], the whole of it too (that is t itself) -/
def rSlQ (K : PySem.W.Frag) : V → Option Int → Option Int → Hp → VK → Prop := fun x lo hi H Q => ∃ a xs, x = .ref a ∧ SqT K H a xs ∧
  (cutV xs lo hi = xs → Q (.ref a) H) ∧ ∀ p, H p = none → Q (.ref p) (upd H p (.tup (cutV xs lo hi)))
theorem sl_tupQ : SlR X (rSlQ X.K) := by
  intro pins s σ H x v vl vu lo hi sl Q I rx hs pl pu h
  obtain ⟨a, xs, e, hx, q0, q1⟩ := h
  by_cases hw : HT.sIx xs.length 0 lo = 0 ∧ HT.sIx xs.length xs.length hi = xs.length
  · subst e
    cases rx
    obtain ⟨its, r, ht, hz⟩ := I.tuple hx
    have hlen : its.toArray.size = xs.length := by rw [List.size_toArray]; exact r.length.symm
    refine ⟨"tuple", _, PyProof.Rows.slot_tuple_getitem.lookup, ht.typeIs, ?_⟩
    refine tup_whole ht hs pl pu (by rw [hlen]; exact hw.1) (by rw [hlen]; exact hw.2) ⟨.ref a, H, I, rfl, q0 ?_⟩
    unfold cutV
    rw [hw.1, hw.2]
    simp
  · exact sl_tup pins s σ H x v vl vu lo hi sl Q I rx hs pl pu ⟨a, xs, e, hx, hw, q1⟩
end
/-! ### loops -/
section
variable {K : PySem.W.Frag} {a : Addr} {xs : List V} {g : TG} {tb : TS} {σ : L2.St} {H : Hp} {nx : L2.St → Hp → Prop} {rt : VK}
theorem f_list (Pv : Nat → L2.St → Hp → Prop) (h0 : Pv 0 σ H) (hl : ∀ i σ H, i ≤ xs.length → Pv i σ H → SqL K H a xs)
    (hs : ∀ i x σ H, xs[i]? = some x → Pv i σ H → g x σ H fun σ2 H2 => tb ⟨Pv (i + 1), rt, nx, Pv (i + 1)⟩ σ2 H2) (hd : ∀ σ H, Pv xs.length σ H → nx σ H) :
    ∃ W : Nat → Nat → L2.St → Hp → Prop, (∃ m, W 0 m σ H) ∧ ∀ i m σ H, W i m σ H →
      ((Itl K a).stop i H ∧ nx σ H) ∨ ((Itl K a).go i H ∧ ∃ N : L2.St → Hp → Prop, (∀ σ' H', N σ' H' → ∃ m', m' < m ∧ W (i + 1) m' σ' H') ∧ ∀ x H', (Itl K a).yld i H x H' → g x σ H' fun σ2 H2 => tb ⟨N, rt, nx, N⟩ σ2 H2) :=
  for_list (D := ⟨nx, rt, fun _ _ => False, fun _ _ => False⟩) Pv h0 hl hs hd
theorem f_tup (Pv : Nat → L2.St → Hp → Prop) (h0 : Pv 0 σ H) (hl : ∀ i σ H, i ≤ xs.length → Pv i σ H → SqT K H a xs)
    (hs : ∀ i x σ H, xs[i]? = some x → Pv i σ H → g x σ H fun σ2 H2 => tb ⟨Pv (i + 1), rt, nx, Pv (i + 1)⟩ σ2 H2) (hd : ∀ σ H, Pv xs.length σ H → nx σ H) :
    ∃ W : Nat → Nat → L2.St → Hp → Prop, (∃ m, W 0 m σ H) ∧ ∀ i m σ H, W i m σ H →
      ((Itt K a).stop i H ∧ nx σ H) ∨ ((Itt K a).go i H ∧ ∃ N : L2.St → Hp → Prop, (∀ σ' H', N σ' H' → ∃ m', m' < m ∧ W (i + 1) m' σ' H') ∧ ∀ x H', (Itt K a).yld i H x H' → g x σ H' fun σ2 H2 => tb ⟨N, rt, nx, N⟩ σ2 H2) :=
  for_tup (D := ⟨nx, rt, fun _ _ => False, fun _ _ => False⟩) Pv h0 hl hs hd
theorem f_range {lo : Int} {n : Nat} (Pv : Nat → L2.St → Hp → Prop) (h0 : Pv 0 σ H)
    (hs : ∀ i σ H, i < n → Pv i σ H → g (.int (lo + i)) σ H fun σ2 H2 => tb ⟨Pv (i + 1), rt, nx, Pv (i + 1)⟩ σ2 H2) (hd : ∀ σ H, Pv n σ H → nx σ H) :
    ∃ W : Nat → Nat → L2.St → Hp → Prop, (∃ m, W 0 m σ H) ∧ ∀ i m σ H, W i m σ H →
      ((Itr lo n).stop i H ∧ nx σ H) ∨ ((Itr lo n).go i H ∧ ∃ N : L2.St → Hp → Prop, (∀ σ' H', N σ' H' → ∃ m', m' < m ∧ W (i + 1) m' σ' H') ∧ ∀ x H', (Itr lo n).yld i H x H' → g x σ H' fun σ2 H2 => tb ⟨N, rt, nx, N⟩ σ2 H2) :=
  for_range (D := ⟨nx, rt, fun _ _ => False, fun _ _ => False⟩) Pv h0 hs hd
theorem f_rangeC {lo c : Int} {n : Nat} (Pv : Nat → L2.St → Hp → Prop) (h0 : Pv 0 σ H)
    (hs : ∀ i σ H, i < n → Pv i σ H → g (.int (lo + (i : Nat) * c)) σ H fun σ2 H2 => tb ⟨Pv (i + 1), rt, nx, Pv (i + 1)⟩ σ2 H2) (hd : ∀ σ H, Pv n σ H → nx σ H) :
    ∃ W : Nat → Nat → L2.St → Hp → Prop, (∃ m, W 0 m σ H) ∧ ∀ i m σ H, W i m σ H →
      ((Itc lo c n).stop i H ∧ nx σ H) ∨ ((Itc lo c n).go i H ∧ ∃ N : L2.St → Hp → Prop, (∀ σ' H', N σ' H' → ∃ m', m' < m ∧ W (i + 1) m' σ' H') ∧ ∀ x H', (Itc lo c n).yld i H x H' → g x σ H' fun σ2 H2 => tb ⟨N, rt, nx, N⟩ σ2 H2) :=
  for_rangeC (D := ⟨nx, rt, fun _ _ => False, fun _ _ => False⟩) Pv h0 hs hd
theorem i_rng3 {ta : TA} {R : It → Hp → Prop} (h : ta σ H fun vs H1 => ∃ (i j c : Int) (n : Nat), vs = [.int i, .int j, .int c] ∧ RgC i j c n ∧ R (Itc i c n) H1) : iRng3 ta σ H R := h
variable {tt : TT} {te : TE} {ws : List Nat} {D : Addr} {Qd : Hp → Prop} {σ' : L2.St}
theorem l_list (Pv : Nat → Hp → Prop) (h0 : Pv 0 (upd H D (.lst []))) (hl : ∀ i H, i ≤ xs.length → Pv i H → SqL K H a xs)
    (hs : ∀ i x H, xs[i]? = some x → Pv i H → g x σ' H fun σ2 H2 => wipe σ2 ws = σ' ∧ tt σ2 H2 fun b H3 =>
      if b = true then te σ2 H3 fun y H4 => ∃ acc, H4 D = some (.lst acc) ∧ acc.length < sizeLine ∧ Pv (i + 1) (upd H4 D (.lst (acc ++ [y]))) else Pv (i + 1) H3) (hd : ∀ H, Pv xs.length H → Qd H) (e : wipe σ' ws = σ' := by rfl) :
    ∃ W : Nat → Nat → Hp → Prop, (∃ m, W 0 m (upd H D (.lst []))) ∧ ∀ i m H, W i m H →
      ((Itl K a).stop i H ∧ Qd H) ∨ ((Itl K a).go i H ∧ ∃ Nx : Hp → Prop, (∀ H', Nx H' → ∃ m', m' < m ∧ W (i + 1) m' H') ∧ ∀ x H', (Itl K a).yld i H x H' → g x σ' H' fun σ2 H2 => wipe σ2 ws = σ' ∧ tt σ2 H2 fun b H3 =>
        if b = true then te σ2 H3 fun y H4 => ∃ acc, H4 D = some (.lst acc) ∧ acc.length < sizeLine ∧ Nx (upd H4 D (.lst (acc ++ [y]))) else Nx H3) := by
  have h := lc_list (K := K) (a := a) (xs := xs) (g := g) (tt := tt) (te := te) (vs := ws) (σ := σ') (H1 := H) (D := D) (Qd := Qd) Pv h0 hl (by rw [e]; exact hs) hd
  rw [e] at h
  exact h
theorem l_tup (Pv : Nat → Hp → Prop) (h0 : Pv 0 (upd H D (.lst []))) (hl : ∀ i H, i ≤ xs.length → Pv i H → SqT K H a xs)
    (hs : ∀ i x H, xs[i]? = some x → Pv i H → g x σ' H fun σ2 H2 => wipe σ2 ws = σ' ∧ tt σ2 H2 fun b H3 =>
      if b = true then te σ2 H3 fun y H4 => ∃ acc, H4 D = some (.lst acc) ∧ acc.length < sizeLine ∧ Pv (i + 1) (upd H4 D (.lst (acc ++ [y]))) else Pv (i + 1) H3) (hd : ∀ H, Pv xs.length H → Qd H) (e : wipe σ' ws = σ' := by rfl) :
    ∃ W : Nat → Nat → Hp → Prop, (∃ m, W 0 m (upd H D (.lst []))) ∧ ∀ i m H, W i m H →
      ((Itt K a).stop i H ∧ Qd H) ∨ ((Itt K a).go i H ∧ ∃ Nx : Hp → Prop, (∀ H', Nx H' → ∃ m', m' < m ∧ W (i + 1) m' H') ∧ ∀ x H', (Itt K a).yld i H x H' → g x σ' H' fun σ2 H2 => wipe σ2 ws = σ' ∧ tt σ2 H2 fun b H3 =>
        if b = true then te σ2 H3 fun y H4 => ∃ acc, H4 D = some (.lst acc) ∧ acc.length < sizeLine ∧ Nx (upd H4 D (.lst (acc ++ [y]))) else Nx H3) := by
  have h := lc_tup (K := K) (a := a) (xs := xs) (g := g) (tt := tt) (te := te) (vs := ws) (σ := σ') (H1 := H) (D := D) (Qd := Qd) Pv h0 hl (by rw [e]; exact hs) hd
  rw [e] at h
  exact h
theorem l_range {lo : Int} {n : Nat} (Pv : Nat → Hp → Prop) (h0 : Pv 0 (upd H D (.lst [])))
    (hs : ∀ i H, i < n → Pv i H → g (.int (lo + i)) σ' H fun σ2 H2 => wipe σ2 ws = σ' ∧ tt σ2 H2 fun b H3 =>
      if b = true then te σ2 H3 fun y H4 => ∃ acc, H4 D = some (.lst acc) ∧ acc.length < sizeLine ∧ Pv (i + 1) (upd H4 D (.lst (acc ++ [y]))) else Pv (i + 1) H3) (hd : ∀ H, Pv n H → Qd H) (e : wipe σ' ws = σ' := by rfl) :
    ∃ W : Nat → Nat → Hp → Prop, (∃ m, W 0 m (upd H D (.lst []))) ∧ ∀ i m H, W i m H →
      ((Itr lo n).stop i H ∧ Qd H) ∨ ((Itr lo n).go i H ∧ ∃ Nx : Hp → Prop, (∀ H', Nx H' → ∃ m', m' < m ∧ W (i + 1) m' H') ∧ ∀ x H', (Itr lo n).yld i H x H' → g x σ' H' fun σ2 H2 => wipe σ2 ws = σ' ∧ tt σ2 H2 fun b H3 =>
        if b = true then te σ2 H3 fun y H4 => ∃ acc, H4 D = some (.lst acc) ∧ acc.length < sizeLine ∧ Nx (upd H4 D (.lst (acc ++ [y]))) else Nx H3) := by
  have h := lc_range (lo := lo) (n := n) (g := g) (tt := tt) (te := te) (vs := ws) (σ := σ') (H1 := H) (D := D) (Qd := Qd) Pv h0 (by rw [e]; exact hs) hd
  rw [e] at h
  exact h
/-! a comprehension whose elements lay nothing -/
theorem l_rangeP {lo : Int} {n : Nat} (f : Nat → V) (hD : H D = none) (hn : n ≤ 1000000)
    (hs : ∀ i H' (R : VK), i < n → Same H H' → R (f i) H' → g (.int (lo + i)) σ' H' fun σ2 H2 => wipe σ2 ws = σ' ∧ tt σ2 H2 fun b H3 => if b = true then te σ2 H3 R else False)
    (hd : ∀ H', Same H H' → H' D = some (.lst ((List.range n).map f)) → Qd H') (e : wipe σ' ws = σ' := by rfl)
    (htt : ∀ (σ2 : L2.St) (H2 : Hp) (A : Hp → Prop) (B : Hp → Prop), (tt σ2 H2 fun b H3 => if b = true then A H3 else False) → tt σ2 H2 fun b H3 => if b = true then A H3 else B H3 := by intro _ _ _ _ h; exact h) (hg : ∀ x (σ2 : L2.St) (H2 : Hp) (A B : L2.St → Hp → Prop), (∀ s h, A s h → B s h) → g x σ2 H2 A → g x σ2 H2 B := by intro _ _ _ _ _ h q; exact h _ _ q) :
    ∃ W : Nat → Nat → Hp → Prop, (∃ m, W 0 m (upd H D (.lst []))) ∧ ∀ i m H, W i m H →
      ((Itr lo n).stop i H ∧ Qd H) ∨ ((Itr lo n).go i H ∧ ∃ Nx : Hp → Prop, (∀ H', Nx H' → ∃ m', m' < m ∧ W (i + 1) m' H') ∧ ∀ x H', (Itr lo n).yld i H x H' → g x σ' H' fun σ2 H2 => wipe σ2 ws = σ' ∧ tt σ2 H2 fun b H3 =>
        if b = true then te σ2 H3 fun y H4 => ∃ acc, H4 D = some (.lst acc) ∧ acc.length < sizeLine ∧ Nx (upd H4 D (.lst (acc ++ [y]))) else Nx H3) := by
  refine l_range (fun i H' => Same H H' ∧ H' D = some (.lst ((List.range i).map f))) ⟨same_new hD, upd_same⟩ (fun i H' hi h => ?_) (fun H' h => hd H' h.1 h.2) e
  obtain ⟨s, hD'⟩ := h
  refine hg _ _ _ _ _ (fun σ2 H2 q => ⟨q.1, htt _ _ _ _ q.2⟩) (hs i H' _ hi s ⟨_, hD', ?_, fun b o hb => ?_, ?_⟩)
  · rw [List.length_map, List.length_range, sizeLine_eq]; omega
  · rw [upd_ne (ne_of_none hb hD)]; exact s _ _ hb
  · rw [upd_same, List.range_succ, List.map_append] <;> rfl
theorem l_listP (f : Nat → V) (hD : H D = none) (hn : xs.length ≤ 1000000) (hx : SqL K H a xs)
    (hs : ∀ i x H' (R : VK), xs[i]? = some x → Same H H' → R (f i) H' → g x σ' H' fun σ2 H2 => wipe σ2 ws = σ' ∧ tt σ2 H2 fun b H3 => if b = true then te σ2 H3 R else False)
    (hd : ∀ H', Same H H' → H' D = some (.lst ((List.range xs.length).map f)) → Qd H') (e : wipe σ' ws = σ' := by rfl)
    (htt : ∀ (σ2 : L2.St) (H2 : Hp) (A : Hp → Prop) (B : Hp → Prop), (tt σ2 H2 fun b H3 => if b = true then A H3 else False) → tt σ2 H2 fun b H3 => if b = true then A H3 else B H3 := by intro _ _ _ _ h; exact h) (hg : ∀ x (σ2 : L2.St) (H2 : Hp) (A B : L2.St → Hp → Prop), (∀ s h, A s h → B s h) → g x σ2 H2 A → g x σ2 H2 B := by intro _ _ _ _ _ h q; exact h _ _ q) :
    ∃ W : Nat → Nat → Hp → Prop, (∃ m, W 0 m (upd H D (.lst []))) ∧ ∀ i m H, W i m H →
      ((Itl K a).stop i H ∧ Qd H) ∨ ((Itl K a).go i H ∧ ∃ Nx : Hp → Prop, (∀ H', Nx H' → ∃ m', m' < m ∧ W (i + 1) m' H') ∧ ∀ x H', (Itl K a).yld i H x H' → g x σ' H' fun σ2 H2 => wipe σ2 ws = σ' ∧ tt σ2 H2 fun b H3 =>
        if b = true then te σ2 H3 fun y H4 => ∃ acc, H4 D = some (.lst acc) ∧ acc.length < sizeLine ∧ Nx (upd H4 D (.lst (acc ++ [y]))) else Nx H3) := by
  refine l_list (xs := xs) (fun i H' => Same H H' ∧ H' D = some (.lst ((List.range i).map f))) ⟨same_new hD, upd_same⟩ (fun i H' _ h => Same.seq h.1 hx) (fun i x H' hi h => ?_) (fun H' h => hd H' h.1 h.2) e
  obtain ⟨s, hD'⟩ := h
  have hlt := (List.getElem?_eq_some_iff.mp hi).1
  refine hg _ _ _ _ _ (fun σ2 H2 q => ⟨q.1, htt _ _ _ _ q.2⟩) (hs i x H' _ hi s ⟨_, hD', ?_, fun b o hb => ?_, ?_⟩)
  · rw [List.length_map, List.length_range, sizeLine_eq]; omega
  · rw [upd_ne (ne_of_none hb hD)]; exact s _ _ hb
  · rw [upd_same, List.range_succ, List.map_append] <;> rfl
theorem l_tupP (f : Nat → V) (hD : H D = none) (hn : xs.length ≤ 1000000) (hx : SqT K H a xs)
    (hs : ∀ i x H' (R : VK), xs[i]? = some x → Same H H' → R (f i) H' → g x σ' H' fun σ2 H2 => wipe σ2 ws = σ' ∧ tt σ2 H2 fun b H3 => if b = true then te σ2 H3 R else False)
    (hd : ∀ H', Same H H' → H' D = some (.lst ((List.range xs.length).map f)) → Qd H') (e : wipe σ' ws = σ' := by rfl)
    (htt : ∀ (σ2 : L2.St) (H2 : Hp) (A : Hp → Prop) (B : Hp → Prop), (tt σ2 H2 fun b H3 => if b = true then A H3 else False) → tt σ2 H2 fun b H3 => if b = true then A H3 else B H3 := by intro _ _ _ _ h; exact h) (hg : ∀ x (σ2 : L2.St) (H2 : Hp) (A B : L2.St → Hp → Prop), (∀ s h, A s h → B s h) → g x σ2 H2 A → g x σ2 H2 B := by intro _ _ _ _ _ h q; exact h _ _ q) :
    ∃ W : Nat → Nat → Hp → Prop, (∃ m, W 0 m (upd H D (.lst []))) ∧ ∀ i m H, W i m H →
      ((Itt K a).stop i H ∧ Qd H) ∨ ((Itt K a).go i H ∧ ∃ Nx : Hp → Prop, (∀ H', Nx H' → ∃ m', m' < m ∧ W (i + 1) m' H') ∧ ∀ x H', (Itt K a).yld i H x H' → g x σ' H' fun σ2 H2 => wipe σ2 ws = σ' ∧ tt σ2 H2 fun b H3 =>
        if b = true then te σ2 H3 fun y H4 => ∃ acc, H4 D = some (.lst acc) ∧ acc.length < sizeLine ∧ Nx (upd H4 D (.lst (acc ++ [y]))) else Nx H3) := by
  refine l_tup (xs := xs) (fun i H' => Same H H' ∧ H' D = some (.lst ((List.range i).map f))) ⟨same_new hD, upd_same⟩ (fun i H' _ h => Same.tup h.1 hx) (fun i x H' hi h => ?_) (fun H' h => hd H' h.1 h.2) e
  obtain ⟨s, hD'⟩ := h
  have hlt := (List.getElem?_eq_some_iff.mp hi).1
  refine hg _ _ _ _ _ (fun σ2 H2 q => ⟨q.1, htt _ _ _ _ q.2⟩) (hs i x H' _ hi s ⟨_, hD', ?_, fun b o hb => ?_, ?_⟩)
  · rw [List.length_map, List.length_range, sizeLine_eq]; omega
  · rw [upd_ne (ne_of_none hb hD)]; exact s _ _ hb
  · rw [upd_same, List.range_succ, List.map_append] <;> rfl
end
theorem i_yes {σ : L2.St} {H : Hp} {Q : Bool → Hp → Prop} (q : Q true H) : tYes σ H Q := q
/-! ### ifs -/
theorem c_dec {P A B : Prop} [Decidable P] (h1 : P → A) (h2 : ¬ P → B) : if decide P = true then A else B := by
  by_cases h : P
  · rw [if_pos (decide_eq_true h)]; exact h1 h
  · rw [if_neg (by rw [decide_eq_false h]; exact Bool.false_ne_true)]; exact h2 h
theorem c_decN {P A B : Prop} [Decidable P] (h1 : ¬ P → A) (h2 : P → B) : if (!decide P) = true then A else B := by
  by_cases h : P
  · rw [if_neg (by rw [decide_eq_true h]; exact Bool.false_ne_true)]; exact h2 h
  · rw [if_pos (by rw [decide_eq_false h]; rfl)]; exact h1 h
theorem c_nt {A B : Prop} (h : B) : if (!true) = true then A else B := iteF h
theorem c_nf {A B : Prop} (h : A) : if (!false) = true then A else B := iteT h
theorem c_bool {b : Bool} {A B : Prop} (h1 : b = true → A) (h2 : b = false → B) : if b = true then A else B := by
  cases b
  · exact iteF (h2 rfl)
  · exact iteT (h1 rfl)
theorem c_yes {P A B : Prop} [Decidable P] (h : P) (h1 : A) : if decide P = true then A else B := by rw [if_pos (decide_eq_true h)]; exact h1
theorem c_no {P A B : Prop} [Decidable P] (h : ¬ P) (h1 : B) : if decide P = true then A else B := by rw [if_neg (by rw [decide_eq_false h]; exact Bool.false_ne_true)]; exact h1
theorem c_yesN {P A B : Prop} [Decidable P] (h : ¬ P) (h1 : A) : if (!decide P) = true then A else B := by rw [if_pos (by rw [decide_eq_false h]; rfl)]; exact h1
theorem c_noN {P A B : Prop} [Decidable P] (h : P) (h1 : B) : if (!decide P) = true then A else B := by rw [if_neg (by rw [decide_eq_true h]; exact Bool.false_ne_true)]; exact h1
section
variable {K : PySem.W.Frag} {σ : L2.St} {H : Hp} {Q : VK}
theorem i_slA {p : Addr} {xs : List V} {lo hi : Option Int} (h : SqT K H p xs) (q : ∀ (r : Addr) (H' : Hp), Same H H' → SqT K H' r (cutV xs lo hi) → Q (.ref r) H') : rSlQ K (.ref p) lo hi H Q :=
  ⟨p, xs, rfl, h, fun e => q p H (Same.refl H) (by rw [e]; exact h), fun r hr => q r _ (same_new hr) (SqT.of upd_same)⟩
theorem i_eqD {x y : V} {d e : PyData} {n m : Nat} (h1 : Dp K H x d) (h2 : Dp K H y e) (s1 : Shp n d) (s2 : Shp m e) (hn : n ≤ 64) (hm : m ≤ 64) (q : Q (.bl (PyData.eqv d e)) H) : rEqD K x y H Q := ⟨d, e, h1, h2, s1.shaped hn, s2.shaped hm, q⟩
theorem i_neD {x y : V} {d e : PyData} {n m : Nat} (h1 : Dp K H x d) (h2 : Dp K H y e) (s1 : Shp n d) (s2 : Shp m e) (hn : n ≤ 64) (hm : m ≤ 64) (q : Q (.bl (!PyData.eqv d e)) H) : rNeD K x y H Q := ⟨d, e, h1, h2, s1.shaped hn, s2.shaped hm, q⟩
/-- == and != of the same data -/
theorem i_eqS' {x y : V} {d : PyData} {n : Nat} (h1 : Dp K H x d) (h2 : Dp K H y d) (s1 : Shp n d) (hn : n ≤ 64) (q : Q (.bl true) H) : rEqD K x y H Q := i_eqD h1 h2 s1 s1 hn hn (by rw [s1.eqv]; exact q)
theorem i_neS' {x y : V} {d : PyData} {n : Nat} (h1 : Dp K H x d) (h2 : Dp K H y d) (s1 : Shp n d) (hn : n ≤ 64) (q : Q (.bl false) H) : rNeD K x y H Q := i_neD h1 h2 s1 s1 hn hn (by rw [s1.eqv]; exact q)
theorem i_while {c : TT} {tb : TS} {nx : L2.St → Hp → Prop} {rt : VK} {bk ct : L2.St → Hp → Prop} (W : Nat → L2.St → Hp → Prop) (h0 : ∃ m, W m σ H) (h : ∀ m σ H, W m σ H →
  c σ H fun b H1 => if b = true then ∃ N : L2.St → Hp → Prop, (∀ σ' H', N σ' H' → ∃ m', m' < m ∧ W m' σ' H') ∧ tb ⟨N, rt, nx, N⟩ σ H1 else nx σ H1) : tWhile c tb ⟨nx, rt, bk, ct⟩ σ H := ⟨W, h0, h⟩
theorem i_par {i j : Nat} {ta : TA} {nx : L2.St → Hp → Prop} {rt : VK} {bk ct : L2.St → Hp → Prop} (h : ta σ H fun vs H1 => ∃ v w, vs = [v, w] ∧ nx ((σ.set i (some v)).set j (some w)) H1) : tPar i j ta ⟨nx, rt, bk, ct⟩ σ H := h
theorem i_two {x y : V} {R : V → V → Prop} (q : R x y) : ∃ v w, [x, y] = [v, w] ∧ R v w := ⟨x, y, rfl, q⟩
theorem Dp.same {K : PySem.W.Frag} {H H' : Hp} (s : Same H H') : ∀ (d : PyData) (v : V), Dp K H v d → Dp K H' v d := by
  intro d v h
  exact Dp.rec (motive_1 := fun v d _ => Dp K H' v d) (motive_2 := fun vs ds _ => DpAll K H' vs ds) .non (fun b => .bl b) (fun i => .int i) (fun x => .str x) (fun h _ q => .lst (s.seq h) q) (fun h _ q => .tup (Same.tup s h) q) .nil (fun _ _ h1 h2 => .cons h1 h2) h
end
/-! ### a def that can be called -/
structure Df (K : PySem.W.Frag) (mg : Str → Option Value) (x : Str) (st : Stmt) (f : Addr) (fd : FuncData) (ps : List Str) : Prop where
  fn : Fun K x x st f fd
  mgf : mg x = some (.ref f)
  bi : Binds K fd ps []
/-- a def of the text by its promise: it lets no exception out -/
structure Cl (P : Program) (w : World) (K : PySem.W.Frag) (mg : Str → Option Value) (base : Heap) (k : Nat) (x : Str) (sp : Sp) : Prop where
  ex : ∃ (f : Addr) (fd : FuncData) (ps : List Str), FnOk P w K mg base CX0 k f fd ps sp ∧ mg x = some (.ref f) ∧ PySem.W.keepIn K (.ref f) = true ∧ Binds K fd ps []
section
variable {P : Program} {w : World} {K : PySem.W.Frag} {mg : Str → Option Value} {base : Heap}
theorem Df.ok {x : Str} {st : Stmt} {f : Addr} {fd : FuncData} {ps N : List Str} {k : Nat} {sp : Sp} (F : Df K mg x st f fd ps) (S : FnScope N ps (defScope st)) (len : ∀ vs H Q E, sp vs H Q E → vs.length = ps.length)
    (hbody : ∀ (cdv : Value) (A : Around) (outer : List Env) (s : Shared) (H : Hp) (vs : List V) (Q : VK) (E : XK), Room k (A.deeper (envOfC x (defScope st) s.heap.objs.size f cdv)) → sp vs H Q E →
      ∃ t, PSs (cxOf CX0 P w K mg base N x (defScope st) f cdv A outer s H E).nox (defBody st) t ∧ t { nx := fun _ H' => Q .non H', rt := Q } (start N vs) H) : FnOk P w K mg base CX0 (k + 1) f fd ps sp :=
  F.fn.ok S len hbody
theorem Df.cl {x : Str} {st : Stmt} {f : Addr} {fd : FuncData} {ps : List Str} {k : Nat} {sp : Sp} (F : Df K mg x st f fd ps) (o : FnOk P w K mg base CX0 k f fd ps sp) : Cl P w K mg base k x sp :=
  ⟨f, fd, ps, o, F.mgf, F.fn.kp, F.bi⟩
variable {X : Cx}
theorem pe_cl {x : Str} {sp : Sp} {j k : Nat} {e : Expr} {es : List Expr} {t : TA} {p pos : Pos} (c : Cl X.prog X.w X.K X.mg X.base k x sp) (hr : Room j X.A) (hk : k ≤ j) (hg : Gl X x) (ha : PA X (e :: es) t)
    (hdb : (x == ("__debug__" : Str)) = false := by decide) (he : starEach (e :: es) X.env = (false, eval e X.env) :: starEach es X.env := by rfl) (hpl : (backTo pos (starEach es X.env)).any (·.1) = false := by rfl) :
    PE X (.Call (.Name x p) (e :: es) [] pos) (tCall sp [] E0 t) := by
  obtain ⟨f, fd, ps, F, hm, kp, b⟩ := c.ex
  exact pe_call F (hr.mono hk) hg hm kp b .nil pass0 ha hdb he hpl
theorem pe_cl0 {x : Str} {sp : Sp} {j k : Nat} {p pos : Pos} (c : Cl X.prog X.w X.K X.mg X.base k x sp) (hr : Room j X.A) (hk : k ≤ j) (hg : Gl X x) (hdb : (x == ("__debug__" : Str)) = false := by decide) :
    PE X (.Call (.Name x p) [] [] pos) (tCall sp [] E0 tNil) := by
  obtain ⟨f, fd, ps, F, hm, kp, b⟩ := c.ex
  exact pe_call0 F (hr.mono hk) hg hm kp b .nil pass0 hdb
/-- a constant of the module's top -/
def Cn (mg : Str → Option Value) (x : Str) (v : V) : Prop := ∃ u, mg x = some u ∧ RelV v u
theorem pe_cn {x : Str} {v : V} {pos : Pos} (hg : Gl X x) (h : Cn X.mg x v) (hd : (x == ("__debug__" : Str)) = false := by decide) : PE X (.Name x pos) (tC v) := by
  obtain ⟨u, hm, r⟩ := h
  exact pe_glob hg hm r hd
section
variable {K : PySem.W.Frag} {T : String} {name : Str} {id : String} {r : V → List V → Hp → VK → Prop} {o e : Expr} {es : List Expr} {apos cpos pos : Pos} {to ta : TE} {t : TA}
theorem pe_bm0K (hK : X.K = K) (pa : PlainAttrs T) (slot : Slot T name id) (hty : typeOf (.builtin id) = pure (.type "method_descriptor")) (hm : MtR X id r) (ho : PE X o to)
    (hbase : attributeBase o name X.env (eval o X.env) = eval o X.env := by rfl) (hline : (apos.endLine == cpos.line) = true := by rfl) : PE X (.Call (.Attribute o name apos) [] [] cpos) (tBM0 K T r to) := by
  subst hK; exact pe_bm0 pa slot hty hm ho hbase hline
theorem pe_bmK (hK : X.K = K) (pa : PlainAttrs T) (slot : Slot T name id) (hty : typeOf (.builtin id) = pure (.type "method_descriptor")) (hm : MtR X id r) (ho : PE X o to) (ha : PA X (e :: es) t)
    (hbase : attributeBase o name X.env (eval o X.env) = eval o X.env := by rfl)
    (hfew : ((backTo cpos (starEach (e :: es) X.env)).all (fun x => !x.1) && (backToKw cpos (keywordEach [] X.env)).all (fun x => x.1.isSome)
      && decide ((e :: es).length + ([] : List Keyword).length + (if ([] : List Keyword).isEmpty then 0 else 1) < 30)) = true := by rfl)
    (hline : (apos.endLine == cpos.line) = true := by rfl) (hs : starEach (e :: es) X.env = (false, eval e X.env) :: starEach es X.env := by rfl) (hplain : (backTo cpos (starEach es X.env)).any (·.1) = false := by rfl) :
    PE X (.Call (.Attribute o name apos) (e :: es) [] cpos) (tBM K T r to t) := by
  subst hK; exact pe_bm pa slot hty hm ho ha hbase hfew hline hs hplain
theorem pe_fldK (hK : X.K = K) {f : Str} (he : PE X e ta) (hb : attributeBase e f X.env (eval e X.env) = eval e X.env) : PE X (.Attribute e f pos) (tFld K ta f) := by
  subst hK; exact pe_fld he hb
theorem pg_tupK (hK : X.K = K) {es : List Expr} {k : Nat} {t : TGs} {n : Nat} (hc : X.calm = true) (h : PGs X es t)
    (hn : (assignEach es X.env).length = n := by rfl) (hst : (assignEach es X.env).findIdx? (·.1) = none := by rfl) : PG X (.Tuple es k pos) (gTup K n t) := by
  subst hK; exact pg_tup hc h hn hst
end
theorem get_list : L2.PGet X (rIxL X.K) := by
  intro pins s σ H x y v u Q I rx ry h
  obtain ⟨p, xs, i, z, rfl, rfl, hq, he, q⟩ := h
  cases rx
  obtain ⟨t, rfl⟩ := ry
  obtain ⟨its, r, pl, hz⟩ := I.list hq
  obtain ⟨j, h1, h2, h3, h4, h5⟩ := atI_get he
  obtain ⟨w, ew, rw'⟩ := r.get h2
  have hl := r.length
  have hn := line63
  have fin : EP X pins σ Q w s := ⟨z, H, I, rw', q⟩
  by_cases h0 : 0 ≤ i
  · have hj : i.toNat = j := by
      rw [seqIndex_of h0 h5] at h1
      exact Option.some.inj h1
    exact wpAny_getItem_list pl.isList h0 (by omega) (by rw [hj]; simpa using ew) fin
  · have hj : (i + (its.toArray.size : Int)).toNat = j := by
      rw [seqIndex_neg (by omega) h4] at h1
      rw [List.size_toArray, ← hl]
      exact Option.some.inj h1
    exact wpAny_getItem_list_neg pl.isList (by omega) (by rw [List.size_toArray] <;> omega) (by omega) (by rw [hj]; simpa using ew) fin
end
theorem perm_erase {α : Type} : ∀ (l : List α) (i : Nat) (h : i < l.length), (l[i] :: l.eraseIdx i).Perm l
  | x :: r, 0, _ => List.Perm.refl _
  | x :: r, i + 1, h => (List.Perm.swap x (r[i]'(Nat.lt_of_succ_lt_succ h)) (r.eraseIdx i)).trans ((perm_erase r i (Nat.lt_of_succ_lt_succ h)).cons x)
theorem ints_at {ns : List Int} {i : Nat} {x : V} (h : (ns.map V.int)[i]? = some x) : ∃ z, x = .int z ∧ ns[i]? = some z ∧ ns.take (i + 1) = ns.take i ++ [z] ∧ i < ns.length := by
  rw [List.getElem?_map] at h
  cases e : ns[i]? with
  | none => rw [e] at h; cases h
  | some z =>
    rw [e] at h
    exact ⟨z, (Option.some.inj h).symm, rfl, by rw [List.take_add_one, e]; rfl, (List.getElem?_eq_some_iff.mp e).1⟩
theorem at_lt {α : Type} {xs : List α} {i : Int} (h0 : 0 ≤ i) (h : i < xs.length) : ∃ v, atI xs i = some v ∧ v ∈ xs ∧ xs[i.toNat]? = some v := by
  have hl : i.toNat < xs.length := by omega
  refine ⟨xs[i.toNat], ?_, List.getElem_mem hl, List.getElem?_eq_getElem hl⟩
  have := atI_nat (xs := xs) (j := i.toNat) (v := xs[i.toNat]) (List.getElem?_eq_getElem hl)
  rw [Int.toNat_of_nonneg h0] at this
  exact this
theorem ixN_of {n : Nat} {i : Int} (h0 : 0 ≤ i) (h : i < n) : ixN n i = some i.toNat := by
  unfold ixN
  rw [if_pos h0, if_pos h]
end Jp

/-! ### own classes: methods and instances -/
namespace Jp
open PySem PySem.Spec PyProof.Rows L2
/-- a method of the class C -/
structure Dm (K : PySem.W.Frag) (C : Addr) (x q : Str) (st : Stmt) (f : Addr) (fd : FuncData) (ps : List Str) : Prop where
  fn : Fun K x q st f fd
  mt : Meth K C x f
  bi : Binds K fd ps []
structure Mt (P : Program) (w : World) (K : PySem.W.Frag) (mg : Str → Option Value) (base : Heap) (k : Nat) (C : Addr) (m : Str) (sp : Sp) : Prop where
  ex : ∃ (f : Addr) (fd : FuncData) (ps : List Str), FnOk P w K mg base CX0 k f fd ps sp ∧ Meth K C m f ∧ Binds K fd ps []
structure Mkc (P : Program) (w : World) (K : PySem.W.Frag) (mg : Str → Option Value) (base : Heap) (k : Nat) (C : Addr) (sp : Sp) : Prop where
  ex : ∃ (f : Addr) (fd : FuncData) (ps : List Str), FnOk P w K mg base CX0 k f fd ps sp ∧ Mk K C f ∧ Binds K fd ps []
section
variable {P : Program} {w : World} {K : PySem.W.Frag} {mg : Str → Option Value} {base : Heap}
theorem Dm.ok {C : Addr} {x q : Str} {st : Stmt} {f : Addr} {fd : FuncData} {ps N : List Str} {k : Nat} {sp : Sp} (F : Dm K C x q st f fd ps) (S : FnScope N ps (defScope st)) (len : ∀ vs H Q E, sp vs H Q E → vs.length = ps.length)
    (hbody : ∀ (cdv : Value) (A : Around) (outer : List Env) (s : Shared) (H : Hp) (vs : List V) (Q : VK) (E : XK), Room k (A.deeper (envOfC q (defScope st) s.heap.objs.size f cdv)) → sp vs H Q E →
      ∃ t, PSs (cxOf CX0 P w K mg base N q (defScope st) f cdv A outer s H E).nox (defBody st) t ∧ t { nx := fun _ H' => Q .non H', rt := Q } (start N vs) H) : FnOk P w K mg base CX0 (k + 1) f fd ps sp :=
  F.fn.ok S len hbody
variable {X : Cx}
theorem pe_mtc {pl : Sem Bool} {C : Addr} {m : Str} {sp : Sp} {j k : Nat} {o e : Expr} {es : List Expr} {ta : TE} {t : TA} {apos pos : Pos} (c : Mt X.prog X.w X.K X.mg X.base k C m sp) (cl : Cls X.K C) (hr : Room j X.A) (hk : k ≤ j) (he : PE X o ta) (ha : PA X (e :: es) t)
    (hst : starEach (e :: es) X.env = (false, eval e X.env) :: starEach es X.env := by rfl) (hpl : (backTo pos (starEach es X.env)).any (·.1) = false := by rfl)
    (ht : eval (.Call (.Attribute o m apos) (e :: es) [] pos) X.env = (do
      let ov ← eval o X.env
      standAt apos.atName
      let (f, first) ← holding [ov] (getMethod ov m pl)
      callWith pos f first (backTo pos (starEach (e :: es) X.env)) (backToKw pos (keywordEach [] X.env))) := by rfl) : PE X (.Call (.Attribute o m apos) (e :: es) [] pos) (tMeth C m sp [] E0 ta t) := by
  obtain ⟨f, fd, ps, F, hm, b⟩ := c.ex
  exact pe_meth he cl hm F (hr.mono hk) b .nil pass0 ha hst hpl ht
theorem pe_mtc0 {pl : Sem Bool} {C : Addr} {m : Str} {sp : Sp} {j k : Nat} {o : Expr} {ta : TE} {apos pos : Pos} (c : Mt X.prog X.w X.K X.mg X.base k C m sp) (cl : Cls X.K C) (hr : Room j X.A) (hk : k ≤ j) (he : PE X o ta)
    (ht : eval (.Call (.Attribute o m apos) [] [] pos) X.env = (do
      let ov ← eval o X.env
      standAt apos.atName
      let (f, first) ← holding [ov] (getMethod ov m pl)
      callWith pos f first (backTo pos (starEach [] X.env)) (backToKw pos (keywordEach [] X.env))) := by rfl) : PE X (.Call (.Attribute o m apos) [] [] pos) (tMeth C m sp [] E0 ta tNil) := by
  obtain ⟨f, fd, ps, F, hm, b⟩ := c.ex
  exact pe_meth0 he cl hm F (hr.mono hk) b .nil pass0 ht
theorem pe_mkc {C : Addr} {x : Str} {sp : Sp} {j k : Nat} {e : Expr} {es : List Expr} {t : TA} {p pos : Pos} (c : Mkc X.prog X.w X.K X.mg X.base k C sp) (hr : Room j X.A) (hk : k + 1 ≤ j) (hg : Gl X x) (hm : X.mg x = some (.ref C)) (ha : PA X (e :: es) t)
    (hdb : (x == ("__debug__" : Str)) = false := by decide) (he : starEach (e :: es) X.env = (false, eval e X.env) :: starEach es X.env := by rfl) (hpl : (backTo pos (starEach es X.env)).any (·.1) = false := by rfl) : PE X (.Call (.Name x p) (e :: es) [] pos) (tMake C sp [] E0 t) := by
  obtain ⟨f, fd, ps, F, M, b⟩ := c.ex
  exact pe_make M F (hr.mono hk) hg hm b .nil pass0 ha hdb he hpl
section
variable {σ : L2.St} {H : Hp} {Q : VK}
theorem i_fld {ta : TE} {f : Str} (h : ta σ H fun x H1 => ∃ a C dx fs v, x = .ref a ∧ H1 a = some (.ins C dx fs) ∧ Cls K C ∧ NoAttr K C f ∧ fs.lookup f = some v ∧ Q v H1) : tFld K ta f σ H Q := h
theorem i_ins {a C dx : Addr} {f : Str} {fs : List (Str × V)} {v : V} {R : V → Prop} (h : H a = some (.ins C dx fs)) (c : Cls K C) (n : NoAttr K C f) (l : fs.lookup f = some v) (q : R v) : ∃ a' C' dx' fs' v', V.ref a = .ref a' ∧ H a' = some (.ins C' dx' fs') ∧ Cls K C' ∧ NoAttr K C' f ∧ fs'.lookup f = some v' ∧ R v' := ⟨a, C, dx, fs, v, rfl, h, c, n, l, q⟩
theorem i_insS {a C dx : Addr} {f : Str} {fs : List (Str × V)} {R : Addr → Addr → Addr → List (Str × V) → Prop} (h : H a = some (.ins C dx fs)) (c : Cls K C) (n : NoAttr K C f) (l : fs.length < 1000) (q : R a C dx fs) : ∃ a' C' dx' fs', V.ref a = .ref a' ∧ H a' = some (.ins C' dx' fs') ∧ Cls K C' ∧ NoAttr K C' f ∧ fs'.length < 1000 ∧ R a' C' dx' fs' := ⟨a, C, dx, fs, rfl, h, c, n, l, q⟩
theorem i_sfld {ta tv : TE} {f : Str} {nx : L2.St → Hp → Prop} {rt : VK} {bk ct : L2.St → Hp → Prop} (h : tv σ H fun y H1 => ta σ H1 fun x H2 => ∃ a C dx fs, x = .ref a ∧ H2 a = some (.ins C dx fs) ∧ Cls K C ∧ NoAttr K C f ∧ fs.length < 1000 ∧ nx σ (upd H2 a (.ins C dx (putF f y fs)))) : sFld K ta tv f ⟨nx, rt, bk, ct⟩ σ H := h
theorem i_meth {C : Addr} {m : Str} {sp : Sp} {E : XK} {ta : TE} {t : TA} (h : ta σ H fun x H1 => ∃ a dx fs, x = .ref a ∧ H1 a = some (.ins C dx fs) ∧ fs.lookup m = none ∧ t σ H1 fun vs H2 => sp (x :: (vs ++ [])) H2 Q E) : tMeth C m sp [] E ta t σ H Q := h
theorem i_make {C : Addr} {sp : Sp} {E : XK} {t : TA} (h : t σ H fun vs H1 => ∀ x dx, H1 x = none → H1 dx = none → dx ≠ x → sp (.ref x :: (vs ++ [])) (upd (upd H1 dx (.own x)) x (.ins C dx [])) (fun v H2 => v = .non ∧ Q (.ref x) H2) E) : tMake C sp [] E t σ H Q := h
end
end
end Jp

/-! ### own errors over ValueError whose __init__ says super().__init__("..") and then stores its fields -/
namespace EX2
open PySem PySem.Spec PyProof.Rows L2 NdefX
theorem head_split {α : Type} {l : List α} {x : α} (h : l.head? = some x) : ∃ r, l = x :: r := by
  cases l with
  | nil => cases h
  | cons y r => cases h; exact ⟨r, rfl⟩
/-- ValueError.__init__ bound to e, called -/
theorem call_mwV {prog : Program} {w : World} {A : Around} {E : Value → Shared → Prop} {h : Heap} {g : Array GenState} {d : Drawn} {t : Nat} {os : OsState}
    {nm q : Str} {C N : Addr} {bs bm : List Value} {hdct : Bool} {sn : List Str} {sub : List Value} {ab : Bool} {col : Option Bool} {dd : Option Addr} {k0 k1 k2 k3 k5 : Option Value}
    {u e t0 : Addr} {rest : List Value} {Q : Value → Shared → Prop}
    (hC : h.get? C = some (excClassObj nm q C N bs bm hdct sn sub ab col dd k0 k1 k2 k3 k5 "ValueError.__new__")) (he : h.get? e = some (HandSPX.excO C t0)) (hu : h.get? u = some (W.kxs_mw "ValueError.__init__" e)) (hrest : rest.length ≤ sizeLine)
    (hq : ∀ h' t1, (∀ b o, b ≠ e → h.get? b = some o → h'.get? b = some o) → h'.get? e = some (HandSPX.excO C t1) → Q .none ⟨h', g, d, t, os⟩) :
    wpAny (model prog w) A (call (.ref u) rest) Q E ⟨h, g, d, t, os⟩ := by
  refine wpAny_call (codeAny_of_tree ?_)
  show wpAny _ A.in1 (callAny (.ref u) ⟨rest, []⟩) _ _ _
  simp only [callAny]
  refine wpAny_bind (wpAny_load hu ?_)
  simp only [W.kxs_mw, show (Value.type "method-wrapper" == Value.type "method" || Value.type "method-wrapper" == Value.type "builtin_function_or_method" || Value.type "method-wrapper" == Value.type "method-wrapper") = true by decide, if_true]
  refine W.KFB.if_so (by decide) ?_
  refine wpAny_bind (ESX.check_bound F.excBase_ValueError hC he rfl ?_)
  refine wpAny_bind (wpAny_pure (wpAny_pure ?_))
  refine ⟨Code.quiet_builtin _ (by decide +kernel), codeAny_builtin F.excBase_ValueError.initEntry ?_⟩
  rw [Around.under_plainId F.excBase_ValueError.init.plain _]
  wp_walk
  refine hq _ h.objs.size (fun b o hb ho => ?_) ?_
  · rw [Heap.get?_update_other _ _ (Ne.symm hb)]
    exact Heap.get?_push_of_some _ ho
  · rw [Heap.get?_update_self _ (Heap.get?_push_of_some _ he) rfl]
    rfl
/-- what the written part says of the class at C and of its own __init__ (class cell cc, code object cda) -/
structure InT (P : Program) (K : PySem.W.Frag) (C cc cda : Addr) : Prop where
  T : OexC K C
  cell : ∃ (cl : Value) (cld : Option Addr) (csl : Array (Option Value)), K.lookup cc = some ⟨cl, cld, .cell (some (.ref C)), csl⟩
  code : ∃ (ccl : Value) (cdd : Option Addr) (vs : Array Value) (ccs : Array (Option Value)) (file : Str) (tf : Tok), K.lookup cda = some ⟨ccl, cdd, .fields vs, ccs⟩ ∧ vs[2]? = some (.str file tf) ∧ ((P.main.file : Str) == file) = true
  self : PySem.W.mroIn K C (.ref C) = some true
  top : (P.main.scope.names.lookup ("super" : Str)).isSome = false
  opq : PySem.W.nsIn K cStatics "thirdparty.any" = some none
  up : PySem.W.ks_superIn K C C "__init__" = some (some (.builtin "ValueError.__init__"))
  ve : PySem.W.subIn K (.ref C) (.type "ValueError") = some true
theorem mc_eq {o : Expr} {name : Str} {p2 p3 : Pos} {env : Env} {c : Const} {kd : Nat} {pc : Pos} (hpos : (p2.endLine == p3.line) = true) :
    eval (.Call (.Attribute o name p2) [.Constant c kd pc] [] p3) env = (do
      let ov ← attributeBase o name env (eval o env)
      standAt p2.atName
      let (f, first) ← holding [ov] (getMethod ov name (do return (← importBound o env).getD true))
      callWith p3 f first (backTo p3 (starEach [.Constant c kd pc] env)) []) := by
  rw [arm_eval_Call]
  congr 1
  funext ov
  congr 1
  funext _
  have h1 : methodCallForm ([Expr.Constant c kd pc].length + ([] : List Keyword).length) (backTo p3 (starEach [.Constant c kd pc] env)) (backToKw p3 (keywordEach [] env)) = true := by rfl
  have h2 : methodCallPos true o env p2 p3 = pure p3 := by
    unfold methodCallPos
    rw [hpos]
    rfl
  unfold methodCall
  rw [h1, h2]
  simp only [pure_bind]
  rfl
theorem fn_exc {CX : CXT} {P : Program} {w : World} {K : PySem.W.Frag} {mg : Str → Option Value} {base : Heap} {k : Nat} {f : Addr} {name qual : Str} {params : Arguments} {rest : List Stmt} {scope : Scope} {dV kV doc pm ct oc : Value} {an od : Option Addr} {cc cda C : Addr}
    {osl : Array (Option Value)} {N ps : List Str} {sp : Sp} {p0 p1 p2 p3 p4 pc : Pos} {txt : Str} {kd : Nat} {ar : Arg}
    (lk : K.lookup f = some ⟨oc, od, .func (PySem.W.fnX name qual params (.Expr (.Call (.Attribute (.Call (.Name "super" p0) [] [] p1) "__init__" p2) [.Constant (.str txt) kd pc] [] p3) p4 :: rest) scope [("__class__", cc)] dV kV doc pm an (.ref cda) ct), osl⟩)
    (hcd : PySem.W.codeIn K (.ref cda) qual = true) (S : NScope N ps ["__class__"] scope) (Z : InT P K C cc cda) (hsup : mg "super" = none)
    (hks : scope.names.lookup ("super" : Str) = some .globalImplicit) (hp : (params.posonlyargs ++ params.args).head? = some ar) (hps : ps.head? = some ar.arg) (hpos : (p2.endLine == p3.line) = true)
    (len : ∀ vs H Q E, sp vs H Q E → vs.length = ps.length)
    (hsp : ∀ vs H Q E, sp vs H Q E → ∃ a ws, vs = .ref a :: ws ∧ H a = some (exo a C none))
    (hbody : ∀ (A : Around) (outer : List Env) (s : Shared) (H : Hp) (vs : List V) (Q : VK) (E : XK), sp vs H Q E →
      ∃ t, PSs (ncx CX P w K mg base N ⟨name, qual, params, .Expr (.Call (.Attribute (.Call (.Name "super" p0) [] [] p1) "__init__" p2) [.Constant (.str txt) kd pc] [] p3) p4 :: rest, scope, [("__class__", cc)], cda⟩ f A outer s H E) rest t ∧ t { nx := fun _ H' => Q .non H', rt := Q } (startF N vs [none]) H) :
    FnOk P w K mg base CX (k + 1) f (PySem.W.fnX name qual params (.Expr (.Call (.Attribute (.Call (.Name "super" p0) [] [] p1) "__init__" p2) [.Constant (.str txt) kd pc] [] p3) p4 :: rest) scope [("__class__", cc)] dV kV doc pm an (.ref cda) ct) ps sp := by
  refine ⟨len, fun A outer s H args us vs Q E hr e0 hb r hs => ?_⟩
  have hl := len _ _ _ _ hs
  obtain ⟨a, ws, ev, ea⟩ := hsp _ _ _ _ hs
  have KX : K.In s.heap := e0.mod.kin.keeps fun b o e => (e0.bs b o e).1
  have lim : s.heap.NoLimit := e0.mod.nolimit.keeps fun b o e => (e0.bs b o e).1
  obtain ⟨cl, cld, csl, hcell⟩ := Z.cell
  obtain ⟨t, ht, hq⟩ := hbody A outer s H vs Q E hs
  have nodeNd : ps.Nodup := by
    have q := S.nd.sublist (List.take_sublist (ps.length + [("__class__" : Str)].length) N)
    rw [S.pre] at q
    exact (List.nodup_append.mp q).1
  refine ks_codeAny_call_defAt (binds := ps.zip us) hr.depth (KX _ _ lk) rfl lim (PySem.W.codeRec_of KX hcd) rfl hb (fun x hx => S.nocell x hx) (fun x hx => S.par _ (List.of_mem_zip (show (x.1, x.2) ∈ ps.zip us from hx)).1) (fun h₁ hns hk₁ => ?_) S.co S.gen S.kind
  have ccH : H cc = none := (e0.bs cc _ (e0.mod.kin _ _ hcell)).2
  have CA : CellsAt [("__class__", cc)] ["__class__"] [none] s.heap H := by
    have ccI : s.heap.IsCell cc (some (.ref C)) := ⟨_, KX _ _ hcell, rfl⟩
    have inv : ∀ (y : Str) (c : Addr), List.lookup y [(("__class__" : Str), cc)] = some c → y = ("__class__" : Str) ∧ c = cc := fun y c e => by
      rw [List.lookup_cons] at e
      cases hy : (y == ("__class__" : Str)) with
      | true => rw [hy] at e; cases e; exact ⟨by simpa using hy, rfl⟩
      | false => rw [hy] at e; cases e
    refine ⟨rfl, fun y c e => ?_, fun x y c e1 e2 => ?_, fun i y e => ?_⟩
    · obtain ⟨_, rfl⟩ := inv _ _ e
      exact ⟨ccH, _, ccI⟩
    · exact (inv _ _ e1).1.trans (inv _ _ e2).1.symm
    · cases i with
      | zero =>
        cases e
        refine ⟨cc, ?_, fun v hv => by cases hv⟩
        rw [List.lookup_cons, show (("__class__" : Str) == ("__class__" : Str)) = true from by decide +kernel]
      | succ i => simp at e
  have I := inv_startN (CX := CX) (E := E) (F := ⟨name, qual, params, .Expr (.Call (.Attribute (.Call (.Name "super" p0) [] [] p1) "__init__" p2) [.Constant (.str txt) kd pc] [] p3) p4 :: rest, scope, [("__class__", cc)], cda⟩) (f := f) (tk := s.toks + (ps.zip us).length) S hr.hd e0 hl r CA hns hk₁
  have hk : (envF ⟨name, qual, params, .Expr (.Call (.Attribute (.Call (.Name "super" p0) [] [] p1) "__init__" p2) [.Constant (.str txt) kd pc] [] p3) p4 :: rest, scope, [("__class__", cc)], cda⟩ f s.heap.objs.size).scope.kind = .function := S.kind
  obtain ⟨ccl, cdd, cvs, ccs, file, tf, hcode, hvs, hfile⟩ := Z.code
  obtain ⟨nm, q, N', bs, bm, sn, sub, ab, col, dd, k0, k1, k2, k3, k5, hCl, hbm⟩ := Z.T.cls
  have hcl : PySem.W.clsIn K C = some { name := nm, bases := bs, mro := .ref C :: bm, ns := N', qualname := q, hasDict := true, slotNames := sn, subclasses := sub, abstract := ab, collection := col, hasDel := false } := by unfold PySem.W.clsIn; rw [hCl] <;> rfl
  have hal : PySem.W.alongIn K "__init__" bm = some (some (.builtin "ValueError.__init__")) := by
    have z := Z.up
    unfold PySem.W.ks_superIn at z
    rw [hcl, Option.bind_some] at z
    dsimp only at z
    rw [ESX.drop_own] at z
    exact z
  have hint : interactive (envF ⟨name, qual, params, .Expr (.Call (.Attribute (.Call (.Name "super" p0) [] [] p1) "__init__" p2) [.Constant (.str txt) kd pc] [] p3) p4 :: rest, scope, [("__class__", cc)], cda⟩ f s.heap.objs.size) = false := by
    unfold interactive
    rw [hk]
    rfl
  refine PySem.ks_wpAt_execs_cons (PySem.ks_wpAt_Expr_any (PySem.ks_wpAt_MethodCall (pl := do return (← importBound (.Call (.Name "super" p0) [] [] p1) (envF ⟨name, qual, params, .Expr (.Call (.Attribute (.Call (.Name "super" p0) [] [] p1) "__init__" p2) [.Constant (.str txt) kd pc] [] p3) p4 :: rest, scope, [("__class__", cc)], cda⟩ f s.heap.objs.size)).getD true) ?_ (mc_eq hpos)) hint (by first | rfl | (unfold swapsWith; rfl)))
  refine PySem.ks_wpAt_super_base (fd := (PySem.W.fnX name qual params (.Expr (.Call (.Attribute (.Call (.Name "super" p0) [] [] p1) "__init__" p2) [.Constant (.str txt) kd pc] [] p3) p4 :: rest) scope [("__class__", cc)] dV kV doc pm an (.ref cda) ct)) hks (S.frk "__class__" (by simp)) (by decide) rfl (hk₁ _ _ (KX _ _ lk)) rfl hp rfl (hk₁ _ _ (KX _ _ hcode)) rfl hvs hfile Z.top ?_
  obtain ⟨mb, hb1, hb2⟩ := e0.mod.blt
  have bk : ∀ b o, base.get? b = some o → h₁.get? b = some o := fun b o e => hk₁ _ _ (e0.bs b o e).1
  refine PySem.W.ks_loadName_global S.kind hks (Calls.loadGlobal_builtin (e0.mod.glob.keeps bk) hsup (hb1.keeps bk) ((hb2 _ (by decide +kernel)).trans (by first | rfl | kernel_rfl | decide +kernel)) ⟨rfl, ?_⟩)
  refine wpAny_loadName_free S.kind (S.frk "__class__" (by simp)) (c := cc) (v := .ref C) (by rfl) ⟨_, hk₁ _ _ (KX _ _ hcell), rfl⟩ ?_
  subst ev
  obtain ⟨u0, ur, rfl, ru, rur⟩ : ∃ u0 ur, us = u0 :: ur ∧ RelV (.ref a) u0 ∧ Vals ws ur := by
    cases r with
    | cons ra rr => exact ⟨_, _, rfl, ra, rr⟩
  obtain rfl : u0 = Value.ref a := ru
  obtain ⟨psr, hps'⟩ := head_split hps
  have hself : (ps.zip (Value.ref a :: ur)).reverse.lookup ar.arg = some (.ref a) := zip_look (i := 0) nodeNd (by rw [hps']; rfl) rfl
  refine wpAny_loadName_local S.kind (S.par ar.arg (by rw [hps']; simp)) hns hself ?_
  obtain ⟨t1, hoe⟩ := exo_at I.hok ea
  have hoe : h₁.get? a = some ({ cls := .ref C, dict := none, data := .fields #[.ref t1, .none, .none, .none, .bool false, .none] } : Obj) := hoe
  have XK : K.In h₁ := KX.keeps hk₁
  have hCg := XK _ _ hCl
  have naC : a ≠ C := fun z => by
    rw [z, hCg] at hoe
    cases hoe
  refine ks_wpAny_isType_cls hCg rfl ⟨rfl, ?_⟩
  refine ks_wpAny_call_super hCg rfl hoe rfl (fun c z => by cases z) (PySem.W.looks_mroIn XK Z.self) (fun h2 hso k2 => ?_)
  have I2 := I.kept (t' := s.toks + (ps.zip (Value.ref a :: ur)).length) (h' := h2) k2
  have XK2 : K.In h2 := XK.keeps k2
  have hI : PySem.W.Looks (model P w) h2 (isInstance (.ref a) (.type "ValueError")) true := (show PySem.W.InstAt h2 a _ C none from ⟨k2 _ _ hoe, rfl, rfl, trivial⟩).type.andThen (PySem.W.looks_subIn XK2 Z.ve)
  refine PySem.W.kxs_getMethod PySem.W.kxs_ValueError hso (PySem.W.looks_opaque XK2 Z.opq) (l₀ := .ref C :: bm) ((PySem.W.looks_clsIn XK2 hcl).andThen .now) (ESX.drop_own C bm) XK2 hal hI naC (by decide) ?_
  have I3 := I2.kept (t' := s.toks + (ps.zip (Value.ref a :: ur)).length + 1) (h' := h2.push (PySem.W.kxs_mw "ValueError.__init__" a)) (fun b o e => Heap.get?_push_of_some _ e)
  have hmw : (h2.push (PySem.W.kxs_mw "ValueError.__init__" a)).get? h2.objs.size = some (PySem.W.kxs_mw "ValueError.__init__" a) := Heap.get?_push_at rfl rfl
  have nmw : H h2.objs.size = none := I2.hok.fresh (Nat.le_refl _)
  have lt2 : ∀ {b : Addr} {o : Obj}, h2.get? b = some o → b ≠ h2.objs.size := fun {b o} e => Nat.ne_of_lt (Heap.lt_size e)
  have I4 := I3.pins_of (pins' := [(h2.objs.size, PySem.W.kxs_mw "ValueError.__init__" a)]) fun p hp => by
    obtain rfl := List.mem_singleton.mp hp
    refine ⟨hmw, nmw, fun z => ?_, fun z => ?_, fun v z => by cases z⟩
    · obtain ⟨m, ⟨oL, _, _, hoL, _⟩, _⟩ := I2.loc
      exact lt2 hoL z.symm
    · obtain ⟨_, oL, hoL, _⟩ := I.ok.funs.mem z
      have e1 := hk₁ _ _ hoL
      exact lt2 (k2 _ _ e1) rfl
  refine PySem.W.kxs_callWith (i := "ValueError.__init__") (x := a) rfl ?_
  refine PySem.Calls.evalArgs_plain ?_
  refine thn ((pa_cons (pe_str (x := txt) (j := kd) (pos := pc)) pa_nil).run p3 _ _ _ H (fun vs H1 => H1 = H ∧ vs = [.str txt]) I4 ⟨rfl, rfl⟩) fun us1 s5 ⟨vs5, H5, I5, r5, hH, hvs5⟩ => ?_
  subst hH hvs5
  obtain ⟨hmw5, _⟩ := I5.pin (h2.objs.size, PySem.W.kxs_mw "ValueError.__init__" a) (List.mem_append_right _ (List.mem_singleton.mpr rfl))
  refine ⟨hmw5, ?_⟩
  have hlen : us1.length ≤ sizeLine := by
    rw [← Paired.length r5, sizeLine_eq]
    show 1 ≤ _
    omega
  obtain ⟨t5, hoe5⟩ := exo_at I5.hok ea
  have I5' := I5
  obtain ⟨hp5, g5, d5, tk5, os5⟩ := s5
  refine call_mwV (I5.kIn _ _ hCl) hoe5 hmw5 hlen fun h6 t6 k6 hx6 => ?_
  have J := I5'.pins_of (pins' := []) (fun p hp => by cases hp) |>.write (t' := tk5) (x := a) (e := a) (o := exo a C none) (by rw [ea]; exact True.intro) (.inl rfl) k6 ⟨_, hx6⟩ (exo_ok hx6)
  have eu : upd H5 a (exo a C none) = H5 := by
    funext b
    by_cases hb : b = a
    · rw [hb, upd_same, ea]
    · rw [upd_ne hb]
  rw [eu] at J
  refine wpAt_of_wpAny ?_
  refine wpAny_mono (ht.run [] _ _ H5 _ J hq) (fun fl s' hs' => ?_) fun e s' hs' => hs'
  have fin : ∀ {σ' : L2.St} {H' : Hp} {v : V} {u : Value}, Inv (ncx CX P w K mg base N ⟨name, qual, params, .Expr (.Call (.Attribute (.Call (.Name "super" p0) [] [] p1) "__init__" p2) [.Constant (.str txt) kd pc] [] p3) p4 :: rest, scope, [("__class__", cc)], cda⟩ f A outer s H5 E) [] σ' H' s' → RelV v u → Q v H' → CE outer P w H5 s Q u s' :=
    fun {σ' H' v u} J rv q => ⟨v, H', J.os, J.bare, J.base, J.hok, rv, q⟩
  cases fl with
  | ret u =>
    obtain ⟨v, σ', H', J, rv, q⟩ := hs'
    exact fin J rv q
  | next =>
    obtain ⟨σ', H', J, q⟩ := hs'
    exact fin (v := V.non) (u := Value.none) J rfl q
  | brk =>
    obtain ⟨_, _, _, q⟩ := hs'
    exact False.elim q
  | cont =>
    obtain ⟨_, _, _, q⟩ := hs'
    exact False.elim q
/-- the promise of an own error's __init__ with one or two fields -/
def spX1 (K : PySem.W.Frag) (C : Addr) (f1 : Str) : Sp := fun vs H Q _ => ∃ (a : Addr) (y : V), vs = [.ref a, y] ∧ H a = some (exo a C none) ∧
  ∀ dx, H dx = none → dx ≠ a → Q .non (upd (upd H dx (exd dx [(f1, y)])) a (exo a C (some dx)))
def spX2 (K : PySem.W.Frag) (C : Addr) (f1 f2 : Str) : Sp := fun vs H Q _ => ∃ (a : Addr) (y z : V), vs = [.ref a, y, z] ∧ H a = some (exo a C none) ∧
  ∀ dx, H dx = none → dx ≠ a → Q .non (upd (upd (upd H dx (exd dx [(f1, y)])) a (exo a C (some dx))) dx (exd dx [(f2, z), (f1, y)]))
/-- C(e): an own error with one field -/
def tMkX1 (C : Addr) (f1 : Str) (ta : TA) : L2.St → Hp → XK → Prop := fun σ H Q => ta σ H fun vs H1 => ∃ y, vs = [y] ∧ ∀ d, H1 d = none → Q (.ref C) (some d) (upd H1 d (.xd [(f1, y)]))
def tMkX2 (C : Addr) (f1 f2 : Str) (ta : TA) : L2.St → Hp → XK → Prop := fun σ H Q => ta σ H fun vs H1 => ∃ y z, vs = [y, z] ∧ ∀ d, H1 d = none → Q (.ref C) (some d) (upd H1 d (.xd [(f2, z), (f1, y)]))
def taM (ta : TA) : TA := fun σ H Q => ∃ Q', ta σ H Q' ∧ ∀ vs H1, Q' vs H1 → Q vs H1
theorem pa_mono {X : Cx} {es : List Expr} {ta : TA} (h : PA X es ta) : PA X es (taM ta) :=
  ⟨fun pos pins s σ H Q I ⟨Q', h1, h2⟩ => thn (h.run pos pins s σ H Q' I h1) fun us s' ⟨vs, H', I', r, q⟩ => ⟨vs, H', I', r, h2 _ _ q⟩⟩
theorem mk1_of {C : Addr} {f1 : Str} {ta : TA} {K : PySem.W.Frag} {σ : L2.St} {H : Hp} {Q : XK} (h : tMkX1 C f1 ta σ H Q) : tMkO C (spX1 K C f1) [] (taM ta) σ H Q := by
  refine ⟨_, h, fun vs H1 => ?_⟩
  rintro ⟨y, rfl, q⟩
  refine ⟨by show 1 ≤ 1000; decide, fun a ha => ⟨a, y, rfl, upd_same, fun dx hdx hne => ⟨rfl, dx, [(f1, y)], upd_same, by rw [upd_ne hne, upd_same], by rw [upd_ne hne] at hdx; exact hdx, ?_⟩⟩⟩
  have e : upd (del (upd (upd (upd H1 a (exo a C none)) dx (exd dx [(f1, y)])) a (exo a C (some dx))) a) dx (.xd [(f1, y)]) = upd H1 dx (.xd [(f1, y)]) := by
    funext b
    by_cases hb : b = dx
    · rw [hb, upd_same, upd_same]
    · rw [upd_ne hb, upd_ne hb]
      by_cases hba : b = a
      · rw [hba, del_same, ha]
      · rw [del_ne hba, upd_ne hba, upd_ne hb, upd_ne hba]
  rw [e]
  exact q dx (by rw [upd_ne hne] at hdx; exact hdx)
theorem mk2_of {C : Addr} {f1 f2 : Str} {ta : TA} {K : PySem.W.Frag} {σ : L2.St} {H : Hp} {Q : XK} (h : tMkX2 C f1 f2 ta σ H Q) : tMkO C (spX2 K C f1 f2) [] (taM ta) σ H Q := by
  refine ⟨_, h, fun vs H1 => ?_⟩
  rintro ⟨y, z, rfl, q⟩
  refine ⟨by show 2 ≤ 1000; decide, fun a ha => ⟨a, y, z, rfl, upd_same, fun dx hdx hne => ⟨rfl, dx, [(f2, z), (f1, y)], by rw [upd_ne hne.symm, upd_same], upd_same, by rw [upd_ne hne] at hdx; exact hdx, ?_⟩⟩⟩
  have e : upd (del (upd (upd (upd (upd H1 a (exo a C none)) dx (exd dx [(f1, y)])) a (exo a C (some dx))) dx (exd dx [(f2, z), (f1, y)])) a) dx (.xd [(f2, z), (f1, y)]) = upd H1 dx (.xd [(f2, z), (f1, y)]) := by
    funext b
    by_cases hb : b = dx
    · rw [hb, upd_same, upd_same]
    · rw [upd_ne hb, upd_ne hb]
      by_cases hba : b = a
      · rw [hba, del_same, ha]
      · rw [del_ne hba, upd_ne hb, upd_ne hba, upd_ne hb, upd_ne hba]
  rw [e]
  exact q dx (by rw [upd_ne hne] at hdx; exact hdx)
/-- an own error's class that is called by the name x: one field f1 -/
structure Xcl1 (P : Program) (w : World) (K : PySem.W.Frag) (mg : Str → Option Value) (base : Heap) (k : Nat) (x : Str) (C : Addr) (f1 : Str) : Prop where
  ex : ∃ (fI : Addr) (fd : FuncData) (ps : List Str), FnOk P w K mg base CX0 k fI fd ps (spX1 K C f1) ∧ PySem.W.findIn K (.ref C) "__init__" = some (some (.ref fI)) ∧ PySem.W.typeIn K (.ref fI) = some (.type "function") ∧ Binds K fd ps []
  T : OexC K C
  gl : mg x = some (.ref C)
structure Xcl2 (P : Program) (w : World) (K : PySem.W.Frag) (mg : Str → Option Value) (base : Heap) (k : Nat) (x : Str) (C : Addr) (f1 f2 : Str) : Prop where
  ex : ∃ (fI : Addr) (fd : FuncData) (ps : List Str), FnOk P w K mg base CX0 k fI fd ps (spX2 K C f1 f2) ∧ PySem.W.findIn K (.ref C) "__init__" = some (some (.ref fI)) ∧ PySem.W.typeIn K (.ref fI) = some (.type "function") ∧ Binds K fd ps []
  T : OexC K C
  gl : mg x = some (.ref C)
section
variable {X : Cx} {x : Str} {C : Addr} {f1 f2 : Str} {k j : Nat} {e : Expr} {es : List Expr} {ta : TA} {p pos : Pos}
theorem pmk_x1 (c : Xcl1 X.prog X.w X.K X.mg X.base k x C f1) (hr : Room j X.A) (hk : k + 1 ≤ j) (hg : Gl X x) (ha : PA X (e :: es) ta) (hdb : (x == ("__debug__" : Str)) = false := by decide) (he : starEach (e :: es) X.env = (false, eval e X.env) :: starEach es X.env := by rfl)
    (hpl : (backTo pos (starEach es X.env)).any (·.1) = false := by rfl) : PMk X (.Call (.Name x p) (e :: es) [] pos) (tMkX1 C f1 ta) := by
  obtain ⟨fI, fd, ps, F, iC, tI, b⟩ := c.ex
  intro pins s σ H Q I h
  exact pmk_oex c.T iC tI F (hr.mono hk) b .nil (fun _ _ _ _ _ _ _ h => False.elim h) hg c.gl (pa_mono ha) hdb he hpl pins s σ H Q I (mk1_of h)
theorem pmk_x2 (c : Xcl2 X.prog X.w X.K X.mg X.base k x C f1 f2) (hr : Room j X.A) (hk : k + 1 ≤ j) (hg : Gl X x) (ha : PA X (e :: es) ta) (hdb : (x == ("__debug__" : Str)) = false := by decide) (he : starEach (e :: es) X.env = (false, eval e X.env) :: starEach es X.env := by rfl)
    (hpl : (backTo pos (starEach es X.env)).any (·.1) = false := by rfl) : PMk X (.Call (.Name x p) (e :: es) [] pos) (tMkX2 C f1 f2 ta) := by
  obtain ⟨fI, fd, ps, F, iC, tI, b⟩ := c.ex
  intro pins s σ H Q I h
  exact pmk_oex c.T iC tI F (hr.mono hk) b .nil (fun _ _ _ _ _ _ _ h => False.elim h) hg c.gl (pa_mono ha) hdb he hpl pins s σ H Q I (mk2_of h)
end
/-- the facts of an own error's __init__ of one field, as the written part says them -/
theorem fn_x1 {P : Program} {w : World} {K : PySem.W.Frag} {mg : Str → Option Value} {base : Heap} {f : Addr} {name qual fld arg1 : Str} {params : Arguments} {scope : Scope} {dV kV doc pm ct oc : Value} {an od : Option Addr} {cc cda C : Addr}
    {osl : Array (Option Value)} {p0 p1 p2 p3 p4 pc q1 q2 q3 q4 : Pos} {txt : Str} {kd : Nat} {ar : Arg}
    (lk : K.lookup f = some ⟨oc, od, .func (PySem.W.fnX name qual params [.Expr (.Call (.Attribute (.Call (.Name "super" p0) [] [] p1) "__init__" p2) [.Constant (.str txt) kd pc] [] p3) p4, .Assign [.Attribute (.Name "self" q1) fld q2] (.Name arg1 q3) q4] scope [("__class__", cc)] dV kV doc pm an (.ref cda) ct), osl⟩)
    (hcd : PySem.W.codeIn K (.ref cda) qual = true) (S : NScope ["self", arg1, "__class__"] ["self", arg1] ["__class__"] scope) (Z : InT P K C cc cda) (hsup : mg "super" = none) (hno : PySem.W.findIn K (.ref C) fld = some none)
    (hks : scope.names.lookup ("super" : Str) = some .globalImplicit) (hp : (params.posonlyargs ++ params.args).head? = some ar) (hps : ar.arg = "self") (hpos : (p2.endLine == p3.line) = true) (hdb : (arg1 == ("__debug__" : Str)) = false) (hcdb : (arg1 == ("__classdict__" : Str)) = false) :
    FnOk P w K mg base CX0 1 f (PySem.W.fnX name qual params [.Expr (.Call (.Attribute (.Call (.Name "super" p0) [] [] p1) "__init__" p2) [.Constant (.str txt) kd pc] [] p3) p4, .Assign [.Attribute (.Name "self" q1) fld q2] (.Name arg1 q3) q4] scope [("__class__", cc)] dV kV doc pm an (.ref cda) ct) ["self", arg1] (spX1 K C fld) := by
  refine fn_exc lk hcd S Z hsup hks hp (by rw [hps]; rfl) hpos (fun vs H Q E h => ?_) (fun vs H Q E h => ?_) (fun A outer s H vs Q E h => ?_)
  · obtain ⟨a, y, rfl, _⟩ := h
    rfl
  · obtain ⟨a, y, rfl, ea, _⟩ := h
    exact ⟨a, [y], rfl, ea⟩
  · obtain ⟨a, y, rfl, ea, q⟩ := h
    refine ⟨_, pss_one (ps_ost (pe_var (i := 0) rfl (Or.inl (S.par "self" (by simp)))) (pe_var (i := 1) rfl (Or.inl (S.par arg1 (by simp))) hdb hcdb) rfl), ?_⟩
    refine ⟨y, rfl, .ref a, rfl, a, C, rfl, Z.T, hno, .inl ⟨ea, fun dx hd hn => ?_⟩⟩
    exact q dx hd hn
theorem fn_x2 {P : Program} {w : World} {K : PySem.W.Frag} {mg : Str → Option Value} {base : Heap} {f : Addr} {name qual fld fld2 arg1 arg2 : Str} {params : Arguments} {scope : Scope} {dV kV doc pm ct oc : Value} {an od : Option Addr} {cc cda C : Addr}
    {osl : Array (Option Value)} {p0 p1 p2 p3 p4 pc q1 q2 q3 q4 r1 r2 r3 r4 : Pos} {txt : Str} {kd : Nat} {ar : Arg}
    (lk : K.lookup f = some ⟨oc, od, .func (PySem.W.fnX name qual params [.Expr (.Call (.Attribute (.Call (.Name "super" p0) [] [] p1) "__init__" p2) [.Constant (.str txt) kd pc] [] p3) p4, .Assign [.Attribute (.Name "self" q1) fld q2] (.Name arg1 q3) q4, .Assign [.Attribute (.Name "self" r1) fld2 r2] (.Name arg2 r3) r4] scope [("__class__", cc)] dV kV doc pm an (.ref cda) ct), osl⟩)
    (hcd : PySem.W.codeIn K (.ref cda) qual = true) (S : NScope ["self", arg1, arg2, "__class__"] ["self", arg1, arg2] ["__class__"] scope) (Z : InT P K C cc cda) (hsup : mg "super" = none) (hno : PySem.W.findIn K (.ref C) fld = some none) (hno2 : PySem.W.findIn K (.ref C) fld2 = some none)
    (hks : scope.names.lookup ("super" : Str) = some .globalImplicit) (hp : (params.posonlyargs ++ params.args).head? = some ar) (hps : ar.arg = "self") (hpos : (p2.endLine == p3.line) = true) (hdb : (arg1 == ("__debug__" : Str)) = false) (hcdb : (arg1 == ("__classdict__" : Str)) = false) (hdb2 : (arg2 == ("__debug__" : Str)) = false) (hcdb2 : (arg2 == ("__classdict__" : Str)) = false) :
    FnOk P w K mg base CX0 1 f (PySem.W.fnX name qual params [.Expr (.Call (.Attribute (.Call (.Name "super" p0) [] [] p1) "__init__" p2) [.Constant (.str txt) kd pc] [] p3) p4, .Assign [.Attribute (.Name "self" q1) fld q2] (.Name arg1 q3) q4, .Assign [.Attribute (.Name "self" r1) fld2 r2] (.Name arg2 r3) r4] scope [("__class__", cc)] dV kV doc pm an (.ref cda) ct) ["self", arg1, arg2] (spX2 K C fld fld2) := by
  refine fn_exc lk hcd S Z hsup hks hp (by rw [hps]; rfl) hpos (fun vs H Q E h => ?_) (fun vs H Q E h => ?_) (fun A outer s H vs Q E h => ?_)
  · obtain ⟨a, y, z, rfl, _⟩ := h
    rfl
  · obtain ⟨a, y, z, rfl, ea, _⟩ := h
    exact ⟨a, [y, z], rfl, ea⟩
  · obtain ⟨a, y, z, rfl, ea, q⟩ := h
    refine ⟨_, pss_cons (ps_ost (pe_var (i := 0) rfl (Or.inl (S.par "self" (by simp)))) (pe_var (i := 1) rfl (Or.inl (S.par arg1 (by simp))) hdb hcdb) rfl) (pss_one (ps_ost (pe_var (i := 0) rfl (Or.inl (S.par "self" (by simp)))) (pe_var (i := 2) rfl (Or.inl (S.par arg2 (by simp))) hdb2 hcdb2) rfl)), ?_⟩
    refine ⟨y, rfl, .ref a, rfl, a, C, rfl, Z.T, hno, .inl ⟨ea, fun dx hd hn => ?_⟩⟩
    exact ⟨z, rfl, .ref a, rfl, a, C, rfl, Z.T, hno2, .inr ⟨dx, _, upd_same, by rw [upd_ne hn, upd_same], by show 1 ≤ 900; decide, q dx hd hn⟩⟩
/-! ### isinstance of a caught own error that has a dict -/
structure IsT (K : PySem.W.Frag) (D : Addr) : Prop where
  cl : (PySem.W.clsIn K D).isSome = true
  hg : PySem.W.findIn K (.ref D) "__getattribute__" = some (some (.builtin "BaseException.__getattribute__"))
  hk : PySem.W.findIn K (.ref D) "__getattr__" = some none
  hs : PySem.W.subIn K (.ref D) (.type "BaseException") = some true
  ha : PySem.W.findIn K (.ref D) "__class__" = some (some (.builtin "object.__class__"))
  hn : PySem.W.specialIn K (.builtin "object.__class__") "__get__" = some (some (.builtin "getset_descriptor.__get__"))
  ht : PySem.W.takesIn K (.builtin "object.__class__") = some true
  hm : PySem.W.mroIn K D (.type "object") = some true
/-- isinstance(e, c) -/
def rIsX (K : PySem.W.Frag) (D a d : Addr) : List V → Hp → VK → Prop := fun xs H Q => ∃ (c : V) (cv : Value) (b : Bool) (fs : List (Str × V)), xs = [.ref a, c] ∧ H d = some (.xd fs) ∧ (∀ u, RelV c u → u = cv) ∧ PySem.W.kitOne K (.ref D) cv = some b ∧ Q (.bl b) H
/-- isinstance(e, (c1, ..)) -/
def rIsXT (K : PySem.W.Frag) (D a d : Addr) : List V → Hp → VK → Prop := fun xs H Q => ∃ (tp : Addr) (cs : List V) (ws : List Value) (b : Bool) (fs : List (Str × V)), xs = [.ref a, .ref tp] ∧ H tp = some (.tup cs) ∧ H d = some (.xd fs) ∧ (∀ us, Vals cs us → us = ws) ∧ PySem.W.kitAny K (.ref D) ws = some b ∧ Q (.bl b) H
section
variable {X : Cx} {a D d : Addr} {oe : Obj} {pn : List (Addr × Obj)}
theorem inst_of {pins : List (Addr × Obj)} {σ : L2.St} {H : Hp} {s : Shared} {fs : List (Str × V)} (hz : Zc (.ref D) (some d) oe) (hf : ∃ vs, oe.data = .fields vs) (I : Inv (X.suite a ((a, oe) :: pn)) pins σ H s) (hd : H d = some (.xd fs)) : ∃ od, PySem.W.InstAt s.heap a oe D (some od) := by
  obtain ⟨hget, _⟩ := I.pin (a, oe) (List.mem_append.mpr (.inl List.mem_cons_self))
  obtain ⟨vs, hv⟩ := hf
  have hx : ObjOk X.prog X.w H s.heap d (.xd fs) := I.hok d _ hd
  obtain ⟨mA, ⟨od, es, ep, hod, hr⟩, _⟩ := hx
  refine ⟨od, ?_⟩
  obtain ⟨oc, odd, oda, osl⟩ := oe
  obtain ⟨h1, h2⟩ := hz
  dsimp only at h1 h2 hv
  subst h1 h2 hv
  exact ⟨hget, rfl, rfl, hod⟩
theorem call_isX (C : IsT X.K D) (hz : Zc (.ref D) (some d) oe) (hf : ∃ vs, oe.data = .fields vs) : CallR (X.suite a ((a, oe) :: pn)) (.builtin "isinstance") (rIsX X.K D a d) := by
  intro pins s σ H xs us Q I r h
  obtain ⟨c, cv, b, fs, rfl, hd, hcv, e, q⟩ := h
  obtain ⟨od, J⟩ := inst_of hz hf I hd
  cases r with
  | cons rx rr =>
    cases rr with
    | cons rt rr =>
      cases rr
      cases rx
      have ec := hcv _ rt
      subst ec
      exact PySem.W.kia_one (PySem.W.kitx_exc C.cl C.hg C.hk C.hs C.ha C.hn C.ht C.hm) I.kIn J e (fun z => nomatch z) fun tk => ⟨.bl b, H, I.kept (t' := tk) fun _ _ z => z, rfl, q⟩
theorem call_isXT (C : IsT X.K D) (hz : Zc (.ref D) (some d) oe) (hf : ∃ vs, oe.data = .fields vs) : CallR (X.suite a ((a, oe) :: pn)) (.builtin "isinstance") (rIsXT X.K D a d) := by
  intro pins s σ H xs us Q I r h
  obtain ⟨tp, cs, ws, b, fs, rfl, hT, hd, hcv, e, q⟩ := h
  obtain ⟨od, J⟩ := inst_of hz hf I hd
  cases r with
  | cons rx rr =>
    cases rr with
    | cons rt rr =>
      cases rr
      cases rx
      cases rt
      obtain ⟨_, its, rv, o, h1, h2, n, h3⟩ := (show ObjOk X.prog X.w H s.heap tp (.tup cs) from I.hok tp _ hT)
      have e3 := hcv _ rv
      subst e3
      obtain ⟨oc, od', dt, sl⟩ := o
      simp only at h2 h3
      subst h2 h3
      exact PySem.W.kia_tup (PySem.W.kitx_exc C.cl C.hg C.hk C.hs C.ha C.hn C.ht C.hm) I.kIn J h1 e (fun z => nomatch z) fun tk => ⟨.bl b, H, I.kept (t' := tk) fun _ _ z => z, rfl, q⟩
end
end EX2

/-! ### defs that may raise, try, the suite of an except -/
namespace Jp
open PySem PySem.Spec PyProof.Rows L2
structure Clx (P : Program) (w : World) (K : PySem.W.Frag) (mg : Str → Option Value) (base : Heap) (k : Nat) (x : Str) (sp : Sp) : Prop where
  ex : ∃ (f : Addr) (fd : FuncData) (ps : List Str), FnOk P w K mg base (L2.CX P w) k f fd ps sp ∧ mg x = some (.ref f) ∧ PySem.W.keepIn K (.ref f) = true ∧ Binds K fd ps []
structure Mtx (P : Program) (w : World) (K : PySem.W.Frag) (mg : Str → Option Value) (base : Heap) (k : Nat) (C : Addr) (m : Str) (sp : Sp) : Prop where
  ex : ∃ (f : Addr) (fd : FuncData) (ps : List Str), FnOk P w K mg base (L2.CX P w) k f fd ps sp ∧ Meth K C m f ∧ Binds K fd ps []
section
variable {P : Program} {w : World} {K : PySem.W.Frag} {mg : Str → Option Value} {base : Heap}
theorem Df.okX {x : Str} {st : Stmt} {f : Addr} {fd : FuncData} {ps N : List Str} {k : Nat} {sp : Sp} (F : Df K mg x st f fd ps) (S : FnScope N ps (defScope st)) (len : ∀ vs H Q E, sp vs H Q E → vs.length = ps.length)
    (hbody : ∀ (cdv : Value) (A : Around) (outer : List Env) (s : Shared) (H : Hp) (vs : List V) (Q : VK) (E : XK), Room k (A.deeper (envOfC x (defScope st) s.heap.objs.size f cdv)) → sp vs H Q E →
      ∃ t, PSs (cxOf (L2.CX P w) P w K mg base N x (defScope st) f cdv A outer s H E) (defBody st) t ∧ t { nx := fun _ H' => Q .non H', rt := Q } (start N vs) H) : FnOk P w K mg base (L2.CX P w) (k + 1) f fd ps sp :=
  F.fn.okX S len hbody
theorem Dm.okX {C : Addr} {x q : Str} {st : Stmt} {f : Addr} {fd : FuncData} {ps N : List Str} {k : Nat} {sp : Sp} (F : Dm K C x q st f fd ps) (S : FnScope N ps (defScope st)) (len : ∀ vs H Q E, sp vs H Q E → vs.length = ps.length)
    (hbody : ∀ (cdv : Value) (A : Around) (outer : List Env) (s : Shared) (H : Hp) (vs : List V) (Q : VK) (E : XK), Room k (A.deeper (envOfC q (defScope st) s.heap.objs.size f cdv)) → sp vs H Q E →
      ∃ t, PSs (cxOf (L2.CX P w) P w K mg base N q (defScope st) f cdv A outer s H E) (defBody st) t ∧ t { nx := fun _ H' => Q .non H', rt := Q } (start N vs) H) : FnOk P w K mg base (L2.CX P w) (k + 1) f fd ps sp :=
  F.fn.okX S len hbody
theorem Df.clx {x : Str} {st : Stmt} {f : Addr} {fd : FuncData} {ps : List Str} {k : Nat} {sp : Sp} (F : Df K mg x st f fd ps) (o : FnOk P w K mg base (L2.CX P w) k f fd ps sp) : Clx P w K mg base k x sp :=
  ⟨f, fd, ps, o, F.mgf, F.fn.kp, F.bi⟩
variable {X : Cx}
theorem pe_clx {x : Str} {sp : Sp} {j k : Nat} {e : Expr} {es : List Expr} {t : TA} {p pos : Pos} (c : Clx X.prog X.w X.K X.mg X.base k x sp) (hr : Room j X.A) (hk : k ≤ j) (hg : Gl X x) (ha : PA X (e :: es) t)
    (hdb : (x == ("__debug__" : Str)) = false := by decide) (he : starEach (e :: es) X.env = (false, eval e X.env) :: starEach es X.env := by rfl) (hpl : (backTo pos (starEach es X.env)).any (·.1) = false := by rfl) :
    PE X (.Call (.Name x p) (e :: es) [] pos) (tCall sp [] E0 t) := by
  obtain ⟨f, fd, ps, F, hm, kp, b⟩ := c.ex
  exact pe_call F (hr.mono hk) hg hm kp b .nil passL ha hdb he hpl
/-- in a try's body -/
theorem pe_clxS {W : WX} {x : Str} {sp : Sp} {j k : Nat} {e : Expr} {es : List Expr} {t : TA} {p pos : Pos} (c : Clx X.prog X.w X.K X.mg X.base k x sp) (tk : Takes X W) (hr : Room j X.A) (hk : k ≤ j) (hg : Gl X x) (ha : PA X (e :: es) t)
    (hdb : (x == ("__debug__" : Str)) = false := by decide) (he : starEach (e :: es) X.env = (false, eval e X.env) :: starEach es X.env := by rfl) (hpl : (backTo pos (starEach es X.env)).any (·.1) = false := by rfl) :
    PE X (.Call (.Name x p) (e :: es) [] pos) (tCallS sp (WE W) t) := by
  obtain ⟨f, fd, ps, F, hm, kp, b⟩ := c.ex
  exact pe_callS F (hr.mono hk) hg hm kp b (fun σ => passAt tk σ) ha hdb he hpl
/-- o.m(..) in a try's body -/
def tMethS (C : Addr) (m : Str) (sp : Sp) (E : L2.St → XK) (ta : TE) (t : TA) : TE := fun σ H Q => ta σ H fun x H1 => ∃ a dx fs, x = .ref a ∧ H1 a = some (.ins C dx fs) ∧ fs.lookup m = none ∧ t σ H1 fun vs H2 => sp (x :: vs) H2 Q (E σ)
theorem pe_mtx {pl : Sem Bool} {C : Addr} {m : Str} {sp : Sp} {j k : Nat} {o e : Expr} {es : List Expr} {ta : TE} {t : TA} {apos pos : Pos} (c : Mtx X.prog X.w X.K X.mg X.base k C m sp) (cl : Cls X.K C) (hr : Room j X.A) (hk : k ≤ j) (he : PE X o ta) (ha : PA X (e :: es) t)
    (hst : starEach (e :: es) X.env = (false, eval e X.env) :: starEach es X.env := by rfl) (hpl : (backTo pos (starEach es X.env)).any (·.1) = false := by rfl)
    (ht : eval (.Call (.Attribute o m apos) (e :: es) [] pos) X.env = (do
      let ov ← eval o X.env
      standAt apos.atName
      let (f, first) ← holding [ov] (getMethod ov m pl)
      callWith pos f first (backTo pos (starEach (e :: es) X.env)) (backToKw pos (keywordEach [] X.env))) := by rfl) : PE X (.Call (.Attribute o m apos) (e :: es) [] pos) (tMeth C m sp [] E0 ta t) := by
  obtain ⟨f, fd, ps, F, hm, b⟩ := c.ex
  exact pe_meth he cl hm F (hr.mono hk) b .nil passL ha hst hpl ht
theorem pe_mtxS {W : WX} {pl : Sem Bool} {C : Addr} {m : Str} {sp : Sp} {j k : Nat} {o e : Expr} {es : List Expr} {ta : TE} {t : TA} {apos pos : Pos} (c : Mtx X.prog X.w X.K X.mg X.base k C m sp) (cl : Cls X.K C) (tk : Takes X W) (hr : Room j X.A) (hk : k ≤ j) (he : PE X o ta) (ha : PA X (e :: es) t)
    (hst : starEach (e :: es) X.env = (false, eval e X.env) :: starEach es X.env := by rfl) (hpl : (backTo pos (starEach es X.env)).any (·.1) = false := by rfl)
    (ht : eval (.Call (.Attribute o m apos) (e :: es) [] pos) X.env = (do
      let ov ← eval o X.env
      standAt apos.atName
      let (f, first) ← holding [ov] (getMethod ov m pl)
      callWith pos f first (backTo pos (starEach (e :: es) X.env)) (backToKw pos (keywordEach [] X.env))) := by rfl) : PE X (.Call (.Attribute o m apos) (e :: es) [] pos) (tMethS C m sp (WE W) ta t) := by
  obtain ⟨f, fd, ps, F, hm, b⟩ := c.ex
  refine ⟨fun pins s σ H Q I h => ?_⟩
  refine PySem.W.methodCall_KW (pl := pl) (thn (he.run pins s σ H _ I h) fun u s1 ⟨x, H1, I1, rx, a, dx, fs, ex, ea, l, q⟩ => ?_) ht
  subst ex
  obtain rfl : u = Value.ref a := rx
  refine getmeth_ok I1 ea cl hm l ?_
  refine PySem.W.callWith_K (first := [.ref a]) (h₀ := X.base) I.ok.mod.kin hm.kp (thn (ha.run pos pins s1 σ H1 _ I1 q) fun us s2 ⟨vs, H2, I2, r, q2⟩ => ⟨I2.kIn, ?_⟩) hst hpl
  exact run_fnS (us := .ref a :: us) (vs := .ref a :: vs) F (hr.mono hk) b (fun pins H s e s' I c => passAt tk σ pins H s e s' I c) I2 (.cons rfl r) q2
theorem ps_nox {st : Stmt} {t : TS} (h : PS X.nox st t) : PS X st t := ⟨fun pins s σ H D I hw =>
  wpAny_mono (h.run pins s σ H D (I.wish _) hw) (fun _ _ q => q.unwish) fun _ _ z => False.elim z⟩
/-- raise C(..) -/
def tRaiseJ (t : L2.St → Hp → XK → Prop) (W : WX) : TS := fun _ σ H => t σ H fun cls d H' => W cls d σ H'
theorem ps_raiseJ {W : WX} {e : Expr} {t : L2.St → Hp → XK → Prop} {pos : Pos} (hc : X.calm = true) (tk : Takes X W) (he : PMk X e t) : PS X (.Raise (some e) none pos) (tRaiseJ t W) := ps_raise hc tk he
/-- try: .. except x as n: .. -/
def tTryJ (K : PySem.W.Frag) (c : Value) (i : Nat) (tb : WX → TS) (ts : Addr → Value → Option Addr → TS) : TS := fun D σ H => tb (wAs K c i ts (fun _ _ _ _ => False) D) D σ H
theorem ps_tryJ {x n : Str} {c : Value} {i : Nat} {body suite : List Stmt} {b₀ : Stmt} {np pos pos' : Pos} {tb : WX → TS} {ts : Addr → Value → Option Addr → TS} (hs : X.stack = X.env :: X.outer) (hf : X.env.frame = some X.env.locals) (hN : X.N.Nodup) (hi : X.N[i]? = some n) (hln : X.env.kindOf n = some .local) (hc : Names X x c)
    (hb : ∀ (W : WX) (pn : List (Addr × Obj)) (xe : Value → Shared → Prop), Takes (X.tr pn xe) W → PassesOwn (model X.prog X.w) X.A X.env xe → PSs (X.tr pn xe) body (tb W))
    (hsu : ∀ (a : Addr) (oe : Obj) (cls : Value) (d : Option Addr) (pn : List (Addr × Obj)), Zc cls d oe → (∃ vs, oe.data = .fields vs) → PSs (X.suite a ((a, oe) :: pn)) (b₀ :: suite) (ts a cls d)) :
    PS X (.Try body [.ExceptHandler (some (.Name x np)) (some n) (b₀ :: suite) pos'] [] [] pos) (tTryJ X.K c i tb ts) := ps_try_as hs hf hN hi hln hc takes0 hb hsu
section
variable {σ : L2.St} {H : Hp} {Q : VK}
theorem i_try {c : Value} {i : Nat} {tb : WX → TS} {ts : Addr → Value → Option Addr → TS} {D : Ends} (h : tb (wAs K c i ts (fun _ _ _ _ => False) D) D σ H) : tTryJ K c i tb ts D σ H := h
theorem i_callS {sp : Sp} {E : L2.St → XK} {t : TA} (h : t σ H fun vs H1 => sp vs H1 Q (E σ)) : tCallS sp E t σ H Q := h
theorem i_methS {C : Addr} {m : Str} {sp : Sp} {E : L2.St → XK} {ta : TE} {t : TA} (h : ta σ H fun x H1 => ∃ a dx fs, x = .ref a ∧ H1 a = some (.ins C dx fs) ∧ fs.lookup m = none ∧ t σ H1 fun vs H2 => sp (x :: vs) H2 Q (E σ)) : tMethS C m sp E ta t σ H Q := h
theorem i_raise {t : L2.St → Hp → XK → Prop} {W : WX} {D : Ends} (h : t σ H fun cls d H' => W cls d σ H') : tRaiseJ t W D σ H := h
theorem i_mkX1 {C : Addr} {f1 : Str} {ta : TA} {Q : XK} (h : ta σ H fun vs H1 => ∃ y, vs = [y] ∧ ∀ d, H1 d = none → Q (.ref C) (some d) (upd H1 d (.xd [(f1, y)]))) : EX2.tMkX1 C f1 ta σ H Q := h
theorem i_mkX2 {C : Addr} {f1 f2 : Str} {ta : TA} {Q : XK} (h : ta σ H fun vs H1 => ∃ y z, vs = [y, z] ∧ ∀ d, H1 d = none → Q (.ref C) (some d) (upd H1 d (.xd [(f2, z), (f1, y)]))) : EX2.tMkX2 C f1 f2 ta σ H Q := h
/-- the clause takes it -/
theorem caught {c : Value} {i : Nat} {ts : Addr → Value → Option Addr → TS} {D : Ends} {cls : Value} {d : Option Addr} {Wo : WX} (hm : PySem.W.exmOne K cls c = some true)
    (h : ∀ a, H a = none → ts a cls d { nx := fun σ' H' => D.nx (σ'.set i none) H', rt := D.rt, bk := fun σ' H' => D.bk (σ'.set i none) H', ct := fun σ' H' => D.ct (σ'.set i none) H' } (σ.set i (some (.ref a))) H) : WE (wAs K c i ts Wo D) σ cls d H :=
  ⟨true, hm, fun _ => h, fun z => Bool.noConfusion z⟩
/-- what is known of a class whose errors are caught -/
structure XcT (K : PySem.W.Frag) (D PE : Addr) : Prop where
  is : EX2.IsT K D
  hd : PySem.W.hasDictIn K D = true
  exm : PySem.W.exmOne K (.ref D) (.ref PE) = some true
theorem XcT.xf {D PE : Addr} (t : XcT K D PE) : XfC K D := ⟨t.is.hg, t.is.hk, t.is.hs, t.hd⟩
/-- isinstance in the suite, whatever the caught class -/
def rIsJ (K : PySem.W.Frag) (a : Addr) (cls : Value) (d : Option Addr) : List V → Hp → VK → Prop := fun xs H Q => ∃ D dd, cls = .ref D ∧ d = some dd ∧ EX2.IsT K D ∧ EX2.rIsX K D a dd xs H Q
def rIsTJ (K : PySem.W.Frag) (a : Addr) (cls : Value) (d : Option Addr) : List V → Hp → VK → Prop := fun xs H Q => ∃ D dd, cls = .ref D ∧ d = some dd ∧ EX2.IsT K D ∧ EX2.rIsXT K D a dd xs H Q
theorem call_isJ {a : Addr} {oe : Obj} {cls : Value} {d : Option Addr} {pn : List (Addr × Obj)} (hz : Zc cls d oe) (hf : ∃ vs, oe.data = .fields vs) : CallR (X.suite a ((a, oe) :: pn)) (.builtin "isinstance") (rIsJ X.K a cls d) := by
  intro pins s σ H xs us Q I r h
  obtain ⟨D, dd, rfl, rfl, C, h⟩ := h
  exact EX2.call_isX C hz hf pins s σ H xs us Q I r h
theorem call_isTJ {a : Addr} {oe : Obj} {cls : Value} {d : Option Addr} {pn : List (Addr × Obj)} (hz : Zc cls d oe) (hf : ∃ vs, oe.data = .fields vs) : CallR (X.suite a ((a, oe) :: pn)) (.builtin "isinstance") (rIsTJ X.K a cls d) := by
  intro pins s σ H xs us Q I r h
  obtain ⟨D, dd, rfl, rfl, C, h⟩ := h
  exact EX2.call_isXT C hz hf pins s σ H xs us Q I r h
/-- e.f in the suite -/
def tXfJ (K : PySem.W.Frag) (a : Addr) (cls : Value) (d : Option Addr) (f : Str) (te : TE) : TE := fun σ H Q => ∃ D, XfC K D ∧ PySem.W.findIn K (.ref D) f = some none ∧ tXf a cls d D f te σ H Q
theorem pe_xfJ {a : Addr} {oe : Obj} {cls : Value} {d : Option Addr} {pn : List (Addr × Obj)} {e : Expr} {te : TE} {pos : Pos} {n : Str} (hz : Zc cls d oe) (hf : ∃ vs, oe.data = .fields vs) (he : PE (X.suite a ((a, oe) :: pn)) e te) (hb : attributeBase e n X.env (eval e X.env) = eval e X.env := by rfl) :
    PE (X.suite a ((a, oe) :: pn)) (.Attribute e n pos) (tXfJ X.K a cls d n te) :=
  ⟨fun pins s σ H Q I ⟨D, T, hno, h⟩ => (pe_xf (X := X) (C := D) T hno hz hf he hb).run pins s σ H Q I h⟩
theorem i_xf {a D : Addr} {cls : Value} {d : Option Addr} {f : Str} {te : TE} (T : XfC K D) (hno : PySem.W.findIn K (.ref D) f = some none) (h : te σ H fun x H1 => x = .ref a ∧ cls = .ref D ∧ ∃ (dd : Addr) (fs : List (Str × V)) (v : V), d = some dd ∧ H1 dd = some (.xd fs) ∧ fs.lookup f = some v ∧ Q v H1) : tXfJ K a cls d f te σ H Q := ⟨D, T, hno, h⟩
/-- isinstance(e, C) is told by the kit's table -/
theorem i_isJ {D dd a C : Addr} {fs : List (Str × V)} {b : Bool} (I : EX2.IsT K D) (hd : H dd = some (.xd fs)) (k : PySem.W.kitOne K (.ref D) (.ref C) = some b) (q : Q (.bl b) H) : rIsJ K a (.ref D) (some dd) [.ref a, .ref C] H Q :=
  ⟨D, dd, rfl, rfl, I, .ref C, .ref C, b, fs, rfl, hd, fun u h => h, k, q⟩
theorem i_isJt {D dd a : Addr} {T : String} {fs : List (Str × V)} {b : Bool} (I : EX2.IsT K D) (hd : H dd = some (.xd fs)) (k : PySem.W.kitOne K (.ref D) (.type T) = some b) (q : Q (.bl b) H) : rIsJ K a (.ref D) (some dd) [.ref a, .ty T] H Q :=
  ⟨D, dd, rfl, rfl, I, .ty T, .type T, b, fs, rfl, hd, fun u h => h, k, q⟩
theorem vals_refs : ∀ {cs : List Addr} {us : List Value}, Vals (cs.map V.ref) us → us = cs.map Value.ref
  | [], _, .nil => rfl
  | c :: cs, _, .cons h r => by rw [vals_refs r]; exact congrArg (· :: _) h
theorem i_isTJ {D dd a tp : Addr} {cs : List Addr} {fs : List (Str × V)} {b : Bool} (I : EX2.IsT K D) (ht : H tp = some (.tup (cs.map V.ref))) (hd : H dd = some (.xd fs)) (k : PySem.W.kitAny K (.ref D) (cs.map Value.ref) = some b) (q : Q (.bl b) H) : rIsTJ K a (.ref D) (some dd) [.ref a, .ref tp] H Q :=
  ⟨D, dd, rfl, rfl, I, tp, cs.map V.ref, cs.map Value.ref, b, fs, rfl, ht, hd, fun us h => vals_refs h, k, q⟩
end
end
end Jp

/-! ### curves modulo 65537, in plain Lean -/
namespace M55
section
variable {R : Type} [Lean.Grind.CommRing R]
theorem in1 (x1 v1 bd ln : R) : v1 - ln * x1 - bd * x1 * x1 + ln * x1 + bd * x1 * x1 = v1 := by grind
theorem in2 (x1 x2 v1 v2 s bd : R) (h : s * (x2 - x1) = v2 - v1) : v1 - (s - bd * (x1 + x2)) * x1 - bd * x1 * x1 + (s - bd * (x1 + x2)) * x2 + bd * x2 * x2 = v2 := by grind
theorem in3 (x1 x2 x3 v1 v3 s o bd : R) (h : o * (x3 - x1) = v3 - v1) (hb : bd * (x3 - x2) = o - s) : v1 - (s - bd * (x1 + x2)) * x1 - bd * x1 * x1 + (s - bd * (x1 + x2)) * x3 + bd * x3 * x3 = v3 := by grind
theorem cancel (a d i : R) (h : d * i = 1) : (a * i) * d = a := by grind
theorem interp (x1 x2 x3 v1 v2 v3 i12 i13 i23 s o bd ln bs : R) (h1 : (x2 - x1) * i12 = 1) (h2 : (x3 - x1) * i13 = 1) (h3 : (x3 - x2) * i23 = 1)
  (hs : s = (v2 - v1) * i12) (ho : o = (v3 - v1) * i13) (hb : bd = (o - s) * i23) (hl : ln = s - bd * (x1 + x2)) (hbs : bs = v1 - ln * x1 - bd * x1 * x1) :
  bs + ln * x1 + bd * x1 * x1 = v1 ∧ bs + ln * x2 + bd * x2 * x2 = v2 ∧ bs + ln * x3 + bd * x3 * x3 = v3 := by
  have e1 : s * (x2 - x1) = v2 - v1 := by rw [hs]; exact cancel _ _ _ h1
  have e2 : o * (x3 - x1) = v3 - v1 := by rw [ho]; exact cancel _ _ _ h2
  have e3 : bd * (x3 - x2) = o - s := by rw [hb]; exact cancel _ _ _ h3
  subst hbs hl
  exact ⟨in1 _ _ _ _, in2 _ _ _ _ _ _ e1, in3 _ _ _ _ _ _ _ _ e2 e3⟩
theorem zero_of (a d i : R) (h : d * i = 1) (e : a * d = 0) : a = 0 := by grind
theorem sub_zero_eq (a b : R) (h : a - b = 0) : a = b := by grind
theorem un1 (x1 x2 a b c : R) (e1 : a + b * x1 + c * x1 * x1 = 0) (e2 : a + b * x2 + c * x2 * x2 = 0) : (b + c * (x1 + x2)) * (x2 - x1) = 0 := by grind
theorem un2 (x1 x2 x3 b c : R) (e1 : b + c * (x1 + x2) = 0) (e2 : b + c * (x1 + x3) = 0) : c * (x3 - x2) = 0 := by grind
theorem uniq0 (x1 x2 x3 a b c i12 i13 i23 : R) (h1 : (x2 - x1) * i12 = 1) (h2 : (x3 - x1) * i13 = 1) (h3 : (x3 - x2) * i23 = 1)
  (e1 : a + b * x1 + c * x1 * x1 = 0) (e2 : a + b * x2 + c * x2 * x2 = 0) (e3 : a + b * x3 + c * x3 * x3 = 0) : a = 0 ∧ b = 0 ∧ c = 0 := by
  have q1 := zero_of _ _ _ h1 (un1 _ _ _ _ _ e1 e2)
  have q2 := zero_of _ _ _ h2 (un1 _ _ _ _ _ e1 e3)
  have q3 := zero_of _ _ _ h3 (un2 _ _ _ _ _ q1 q2)
  subst q3
  have hb : b = 0 := by grind
  subst hb
  exact ⟨by grind, rfl, rfl⟩
theorem sub3 (x a b c a' b' c' : R) (e : a + b * x + c * x * x = a' + b' * x + c' * x * x) : (a - a') + (b - b') * x + (c - c') * x * x = 0 := by grind
theorem uniq (x1 x2 x3 a b c a' b' c' i12 i13 i23 : R) (h1 : (x2 - x1) * i12 = 1) (h2 : (x3 - x1) * i13 = 1) (h3 : (x3 - x2) * i23 = 1)
  (e1 : a + b * x1 + c * x1 * x1 = a' + b' * x1 + c' * x1 * x1) (e2 : a + b * x2 + c * x2 * x2 = a' + b' * x2 + c' * x2 * x2) (e3 : a + b * x3 + c * x3 * x3 = a' + b' * x3 + c' * x3 * x3) :
  a = a' ∧ b = b' ∧ c = c' := by
  obtain ⟨p, q, r⟩ := uniq0 x1 x2 x3 (a - a') (b - b') (c - c') i12 i13 i23 h1 h2 h3 (sub3 _ _ _ _ _ _ _ e1) (sub3 _ _ _ _ _ _ _ e2) (sub3 _ _ _ _ _ _ _ e3)
  exact ⟨sub_zero_eq _ _ p, sub_zero_eq _ _ q, sub_zero_eq _ _ r⟩
/-- the constant of the curve with another value at x1 is another one -/
theorem base_ne (x1 x2 x3 a b c a' b' c' d i12 i13 i23 j2 j3 : R) (h2 : x2 * j2 = 1) (h3 : x3 * j3 = 1) (h1 : (x2 - x1) * i12 = 1) (h2' : (x3 - x1) * i13 = 1) (h3' : (x3 - x2) * i23 = 1)
  (e2 : a' + b' * x2 + c' * x2 * x2 = a + b * x2 + c * x2 * x2) (e3 : a' + b' * x3 + c' * x3 * x3 = a + b * x3 + c * x3 * x3) (ea : a' = a) : a' + b' * x1 + c' * x1 * x1 = a + b * x1 + c * x1 * x1 := by
  subst ea
  have z2 := sub3 _ _ _ _ _ _ _ e2
  have z3 := sub3 _ _ _ _ _ _ _ e3
  have w2 : (b' - b + (c' - c) * x2) * x2 = 0 := by grind
  have w3 : (b' - b + (c' - c) * x3) * x3 = 0 := by grind
  have y2 := zero_of _ _ _ h2 w2
  have y3 := zero_of _ _ _ h3 w3
  have y : (c' - c) * (x3 - x2) = 0 := by grind
  have yc := zero_of _ _ _ h3' y
  have yb : b' - b = 0 := by grind
  have ec := sub_zero_eq _ _ yc
  have eb := sub_zero_eq _ _ yb
  rw [ec, eb]
end
abbrev F := Fin 65537
def phi (x : Int) : F := @IntCast.intCast F Lean.Grind.Ring.intCast x
theorem phi_add (x y : Int) : phi (x + y) = phi x + phi y := Lean.Grind.Ring.intCast_add x y
theorem phi_mul (x y : Int) : phi (x * y) = phi x * phi y := Lean.Grind.Ring.intCast_mul x y
theorem phi_sub (x y : Int) : phi (x - y) = phi x - phi y := Lean.Grind.Ring.intCast_sub x y
theorem phi_iff (x y : Int) : phi x = phi y ↔ x % 65537 = y % 65537 := Lean.Grind.IsCharP.intCast_ext_iff 65537
theorem phi_mod (x : Int) : phi (x % 65537) = phi x := (phi_iff _ _).mpr (Int.emod_emod_of_dvd _ (Int.dvd_refl _))
theorem phi_one : phi 1 = 1 := Lean.Grind.Ring.intCast_one
theorem phi_zero : phi 0 = 0 := Lean.Grind.Ring.intCast_zero


def vF (a : F) : Int := (a.val : Int)
theorem vF_lo (a : F) : 0 ≤ vF a := Int.natCast_nonneg _
theorem vF_hi (a : F) : vF a < 65537 := by have := a.isLt; unfold vF; omega
theorem phi_nat (n : Nat) : phi (n : Int) = Fin.ofNat 65537 n := Lean.Grind.Ring.intCast_natCast n
theorem phi_vF (a : F) : phi (vF a) = a := by
  unfold vF
  rw [phi_nat]
  apply Fin.ext
  show a.val % 65537 = a.val
  exact Nat.mod_eq_of_lt a.isLt
theorem vF_phi {r : Int} (h0 : 0 ≤ r) (h1 : r < 65537) : vF (phi r) = r := by
  have e := (phi_iff _ _).mp (phi_vF (phi r))
  have a := vF_lo (phi r)
  have b := vF_hi (phi r)
  omega
theorem eq_vF {r : Int} {a : F} (h0 : 0 ≤ r) (h1 : r < 65537) (e : phi r = a) : r = vF a := by rw [← e, vF_phi h0 h1]
theorem mod_vF (r : Int) : r % 65537 = vF (phi r) := eq_vF (Int.emod_nonneg _ (by decide)) (Int.emod_lt_of_pos _ (by decide)) (phi_mod r)
def pw (a : F) : Nat → F
  | 0 => 1
  | n + 1 => pw a n * a
section
variable {R : Type} [Lean.Grind.CommRing R]
theorem r_1 (p a : R) : p * (a * a) = p * a * a := by grind
theorem r_2 (f p a : R) : f * (p * a) = f * a * p := by grind
theorem r_3 (a : R) : 1 * a = a := by grind
theorem r_4 (a b : R) : a * b = b * a := by grind
theorem r_5 (a : R) : a * 1 = a := by grind
end
theorem pw_dbl (a : F) : ∀ n, pw a (2 * n) = pw (a * a) n
  | 0 => rfl
  | n + 1 => by
    show pw a (2 * n) * a * a = pw (a * a) n * (a * a)
    rw [pw_dbl a n]
    exact (r_1 (R := F) _ _).symm
def p16 (y : Nat) : Nat := y ^ 16 % 65537
def sq16 (x : Nat) : Nat := p16 (p16 (p16 (p16 x)))
theorem all16 : ((List.range 256).all fun a => (List.range 256).all fun b => Nat.beq (sq16 (256 * a + b + 1)) 1) = true := by decide +kernel
theorem sq16_one {n : Nat} (h0 : 0 < n) (h1 : n < 65537) : sq16 n = 1 := by
  have h := all16
  rw [List.all_eq_true] at h
  have h2 := h ((n - 1) / 256) (List.mem_range.mpr (by omega))
  rw [List.all_eq_true] at h2
  have h3 := h2 ((n - 1) % 256) (List.mem_range.mpr (by omega))
  have e : 256 * ((n - 1) / 256) + (n - 1) % 256 + 1 = n := by omega
  rw [e] at h3
  exact Nat.eq_of_beq_eq_true h3
theorem phi_sq (y : Nat) : phi ((y * y % 65537 : Nat) : Int) = phi y * phi y := by
  rw [Int.natCast_emod, Int.natCast_mul]
  exact (phi_mod _).trans (phi_mul _ _)
theorem e16 (y : Nat) : y ^ 16 = (((y * y) * (y * y)) * ((y * y) * (y * y))) * (((y * y) * (y * y)) * ((y * y) * (y * y))) := by grind
theorem phi_mulN (x y : Nat) : phi ((x * y : Nat) : Int) = phi x * phi y := by rw [Int.natCast_mul]; exact phi_mul _ _
theorem key16 (m k : Nat) : pw (phi (m : Int)) (16 * k) = pw (phi ((p16 m : Nat) : Int)) k := by
  have e : phi ((p16 m : Nat) : Int) = phi ((m ^ 16 : Nat) : Int) := by
    unfold p16
    rw [Int.natCast_emod]
    exact phi_mod _
  rw [e, e16, show 16 * k = 2 * (2 * (2 * (2 * k))) from by omega, pw_dbl, pw_dbl, pw_dbl, pw_dbl, phi_mulN, phi_mulN, phi_mulN, phi_mulN]
theorem fermat {n : Nat} (h0 : 0 < n) (h1 : n < 65537) : pw (phi n) 65536 = 1 := by
  have e : pw (phi (n : Int)) 65536 = pw (phi ((sq16 n : Nat) : Int)) 1 := by
    unfold sq16
    show pw _ (16 * 4096) = _
    rw [key16]
    show pw _ (16 * 256) = _
    rw [key16]
    show pw _ (16 * 16) = _
    rw [key16]
    show pw _ (16 * 1) = _
    rw [key16]
  rw [e, sq16_one h0 h1]
  unfold pw
  unfold pw
  rw [r_3]
  exact phi_one
def inv (a : F) : F := pw a 65535
theorem mul_inv {a : F} (h : a ≠ 0) : a * inv a = 1 := by
  have e : phi (a.val : Int) = a := phi_vF a
  have z : 0 < a.val := by
    rcases Nat.eq_zero_or_pos a.val with q | q
    · exact absurd (Fin.ext q) h
    · exact q
  have f := fermat z a.isLt
  rw [e] at f
  have g : pw a 65536 = inv a * a := rfl
  rw [g] at f
  rw [r_4]
  exact f
theorem phi_ne {x y : Int} (hx : 1 ≤ x ∧ x ≤ 65536) (hy : 1 ≤ y ∧ y ≤ 65536) (h : x ≠ y) : phi x - phi y ≠ 0 := fun e => by
  have z := (phi_iff _ _).mp (sub_zero_eq _ _ e)
  omega
theorem phi_nz {x : Int} (hx : 1 ≤ x ∧ x ≤ 65536) : phi x ≠ 0 := fun e => by
  rw [← phi_zero] at e
  have z := (phi_iff _ _).mp e
  omega
/-! the curve through three points -/
def bendF (x1 v1 x2 v2 x3 v3 : F) : F := ((v3 - v1) * inv (x3 - x1) - (v2 - v1) * inv (x2 - x1)) * inv (x3 - x2)
def leanF (x1 v1 x2 v2 x3 v3 : F) : F := (v2 - v1) * inv (x2 - x1) - bendF x1 v1 x2 v2 x3 v3 * (x1 + x2)
def baseF (x1 v1 x2 v2 x3 v3 : F) : F := v1 - leanF x1 v1 x2 v2 x3 v3 * x1 - bendF x1 v1 x2 v2 x3 v3 * x1 * x1
section
variable {x1 x2 x3 : F} (h1 : x2 - x1 ≠ 0) (h2 : x3 - x1 ≠ 0) (h3 : x3 - x2 ≠ 0)
include h1 h2 h3
theorem thru (v1 v2 v3 : F) : baseF x1 v1 x2 v2 x3 v3 + leanF x1 v1 x2 v2 x3 v3 * x1 + bendF x1 v1 x2 v2 x3 v3 * x1 * x1 = v1 ∧ baseF x1 v1 x2 v2 x3 v3 + leanF x1 v1 x2 v2 x3 v3 * x2 + bendF x1 v1 x2 v2 x3 v3 * x2 * x2 = v2 ∧
    baseF x1 v1 x2 v2 x3 v3 + leanF x1 v1 x2 v2 x3 v3 * x3 + bendF x1 v1 x2 v2 x3 v3 * x3 * x3 = v3 :=
  interp x1 x2 x3 v1 v2 v3 _ _ _ _ _ _ _ _ (mul_inv h1) (mul_inv h2) (mul_inv h3) rfl rfl rfl rfl rfl
theorem back (a b c : F) : baseF x1 (a + b * x1 + c * x1 * x1) x2 (a + b * x2 + c * x2 * x2) x3 (a + b * x3 + c * x3 * x3) = a ∧ leanF x1 (a + b * x1 + c * x1 * x1) x2 (a + b * x2 + c * x2 * x2) x3 (a + b * x3 + c * x3 * x3) = b ∧ bendF x1 (a + b * x1 + c * x1 * x1) x2 (a + b * x2 + c * x2 * x2) x3 (a + b * x3 + c * x3 * x3) = c := by
  obtain ⟨e1, e2, e3⟩ := thru h1 h2 h3 (a + b * x1 + c * x1 * x1) (a + b * x2 + c * x2 * x2) (a + b * x3 + c * x3 * x3)
  exact uniq x1 x2 x3 _ _ _ a b c _ _ _ (mul_inv h1) (mul_inv h2) (mul_inv h3) e1 e2 e3
theorem bent (hx2 : x2 ≠ 0) (hx3 : x3 ≠ 0) (a b c v1 : F) (hv : v1 ≠ a + b * x1 + c * x1 * x1) : baseF x1 v1 x2 (a + b * x2 + c * x2 * x2) x3 (a + b * x3 + c * x3 * x3) ≠ a := fun e => by
  obtain ⟨e1, e2, e3⟩ := thru h1 h2 h3 v1 (a + b * x2 + c * x2 * x2) (a + b * x3 + c * x3 * x3)
  have z := base_ne x1 x2 x3 a b c _ _ _ (0 : F) _ _ _ _ _ (mul_inv hx2) (mul_inv hx3) (mul_inv h1) (mul_inv h2) (mul_inv h3) e2 e3 e
  rw [e1] at z
  exact hv z
end
/-! rows -/
def g (row : List Int) (i : Nat) : Int := (row[i]?).getD 0
def grp (many : Nat) : Nat := (many + 2) / 3
def evL (row : List Int) (x : Int) : List Int := (List.range (grp row.length)).map fun k => (g row (3 * k) + g row (3 * k + 1) * x + g row (3 * k + 2) * x * x) % 65537
theorem evL_len (row : List Int) (x : Int) : (evL row x).length = grp row.length := by simp [evL]
theorem evL_at {row : List Int} {x : Int} {k : Nat} (h : k < grp row.length) : g (evL row x) k = (g row (3 * k) + g row (3 * k + 1) * x + g row (3 * k + 2) * x * x) % 65537 := by
  unfold evL
  rw [g]
  simp [h]
abbrev Pr := Int × List Int
def cvI (p1 p2 p3 : Pr) (k : Nat) : List Int := [vF (baseF (phi p1.1) (phi (g p1.2 k)) (phi p2.1) (phi (g p2.2 k)) (phi p3.1) (phi (g p3.2 k))), vF (leanF (phi p1.1) (phi (g p1.2 k)) (phi p2.1) (phi (g p2.2 k)) (phi p3.1) (phi (g p3.2 k))),
  vF (bendF (phi p1.1) (phi (g p1.2 k)) (phi p2.1) (phi (g p2.2 k)) (phi p3.1) (phi (g p3.2 k)))]
def joinL (p1 p2 p3 : Pr) (many : Nat) : List Int := ((List.range (grp many)).flatMap (cvI p1 p2 p3)).take many
theorem flat3 (f : Nat → Int) : ∀ n, ((List.range n).flatMap fun k => [f (3 * k), f (3 * k + 1), f (3 * k + 2)]) = (List.range (3 * n)).map f
  | 0 => rfl
  | n + 1 => by
    rw [List.range_succ, List.flatMap_append, flat3 f n, show 3 * (n + 1) = 3 * n + 1 + 1 + 1 from by omega, List.range_succ, List.range_succ, List.range_succ]
    simp
theorem flatMap_congr' {α β : Type} {l : List α} {f h : α → List β} (e : ∀ x ∈ l, f x = h x) : l.flatMap f = l.flatMap h := by
  induction l with
  | nil => rfl
  | cons a r ih => rw [List.flatMap_cons, List.flatMap_cons, e a List.mem_cons_self, ih fun x hx => e x (List.mem_cons_of_mem _ hx)]
theorem range_g (row : List Int) : (List.range row.length).map (g row) = row := by
  apply List.ext_getElem?
  intro i
  simp only [List.getElem?_map]
  by_cases h : i < row.length
  · rw [List.getElem?_range h, List.getElem?_eq_getElem h]
    simp [g, h]
  · rw [List.getElem?_eq_none (by simpa using h), List.getElem?_eq_none (by simpa using h)]
    rfl
theorem take_range {m n : Nat} (f : Nat → Int) (h : m ≤ n) : ((List.range n).map f).take m = (List.range m).map f := by
  rw [← List.map_take, List.take_range, Nat.min_eq_left h]
def Ok (l : List Int) : Prop := ∀ z ∈ l, 0 ≤ z ∧ z < 65537
theorem Ok.g {l : List Int} (h : Ok l) (i : Nat) : 0 ≤ g l i ∧ g l i < 65537 := by
  unfold M55.g
  by_cases hi : i < l.length
  · rw [List.getElem?_eq_getElem hi]
    exact h _ (List.getElem_mem hi)
  · rw [List.getElem?_eq_none (by omega)]
    exact ⟨by decide, by decide⟩
theorem phi_ev (row : List Int) (x : Int) (k : Nat) (h : k < grp row.length) : phi (g (evL row x) k) = phi (g row (3 * k)) + phi (g row (3 * k + 1)) * phi x + phi (g row (3 * k + 2)) * phi x * phi x := by
  rw [evL_at h, phi_mod, phi_add, phi_add, phi_mul, phi_mul, phi_mul]
/-- different points -/
structure D3 (x1 x2 x3 : Int) : Prop where
  a : 1 ≤ x1 ∧ x1 ≤ 65536
  b : 1 ≤ x2 ∧ x2 ≤ 65536
  c : 1 ≤ x3 ∧ x3 ≤ 65536
  n12 : x1 ≠ x2
  n13 : x1 ≠ x3
  n23 : x2 ≠ x3
theorem join_back {row : List Int} {x1 x2 x3 : Int} (hr : Ok row) (d : D3 x1 x2 x3) : joinL (x1, evL row x1) (x2, evL row x2) (x3, evL row x3) row.length = row := by
  have h1 := phi_ne d.b d.a d.n12.symm
  have h2 := phi_ne d.c d.a d.n13.symm
  have h3 := phi_ne d.c d.b d.n23.symm
  have e : (List.range (grp row.length)).flatMap (cvI (x1, evL row x1) (x2, evL row x2) (x3, evL row x3)) = (List.range (grp row.length)).flatMap fun k => [g row (3 * k), g row (3 * k + 1), g row (3 * k + 2)] :=
    flatMap_congr' fun k hk => by
      have hk := List.mem_range.mp hk
      unfold cvI
      dsimp only
      rw [phi_ev _ _ _ hk, phi_ev _ _ _ hk, phi_ev _ _ _ hk]
      obtain ⟨b1, b2, b3⟩ := back h1 h2 h3 (phi (g row (3 * k))) (phi (g row (3 * k + 1))) (phi (g row (3 * k + 2)))
      rw [b1, b2, b3, vF_phi (hr.g _).1 (hr.g _).2, vF_phi (hr.g _).1 (hr.g _).2, vF_phi (hr.g _).1 (hr.g _).2]
  unfold joinL
  rw [e, flat3, take_range _ (by unfold grp; omega), range_g]
theorem join_flat (p1 p2 p3 : Pr) (many : Nat) : ∃ f : Nat → Int, joinL p1 p2 p3 many = (List.range many).map f ∧ ∀ k, k < grp many → cvI p1 p2 p3 k = [f (3 * k), f (3 * k + 1), f (3 * k + 2)] := by
  refine ⟨fun i => g (cvI p1 p2 p3 (i / 3)) (i % 3), ?_, fun k hk => ?_⟩
  · unfold joinL
    have e : (List.range (grp many)).flatMap (cvI p1 p2 p3) = (List.range (grp many)).flatMap fun k => [g (cvI p1 p2 p3 (3 * k / 3)) (3 * k % 3), g (cvI p1 p2 p3 ((3 * k + 1) / 3)) ((3 * k + 1) % 3), g (cvI p1 p2 p3 ((3 * k + 2) / 3)) ((3 * k + 2) % 3)] := by
      refine flatMap_congr' fun k _ => ?_
      rw [show 3 * k / 3 = k from by omega, show (3 * k + 1) / 3 = k from by omega, show (3 * k + 2) / 3 = k from by omega, show 3 * k % 3 = 0 from by omega, show (3 * k + 1) % 3 = 1 from by omega, show (3 * k + 2) % 3 = 2 from by omega]
      rfl
    rw [e, flat3 (fun i => g (cvI p1 p2 p3 (i / 3)) (i % 3)), take_range _ (by unfold grp; omega)]
  · dsimp only
    rw [show 3 * k / 3 = k from by omega, show (3 * k + 1) / 3 = k from by omega, show (3 * k + 2) / 3 = k from by omega, show 3 * k % 3 = 0 from by omega, show (3 * k + 1) % 3 = 1 from by omega, show (3 * k + 2) % 3 = 2 from by omega]
    rfl
theorem join_len (p1 p2 p3 : Pr) (many : Nat) : (joinL p1 p2 p3 many).length = many := by
  obtain ⟨f, e, _⟩ := join_flat p1 p2 p3 many
  rw [e]
  simp
theorem join_g {p1 p2 p3 : Pr} {many k : Nat} {f : Nat → Int} (e : joinL p1 p2 p3 many = (List.range many).map f) (h : k < many) : g (joinL p1 p2 p3 many) k = f k := by
  rw [e]
  unfold g
  simp [h]
theorem join_ok (p1 p2 p3 : Pr) (many : Nat) : Ok (joinL p1 p2 p3 many) := fun z hz => by
  unfold joinL at hz
  have hz := List.mem_of_mem_take hz
  obtain ⟨k, _, hk⟩ := List.mem_flatMap.mp hz
  unfold cvI at hk
  simp only [List.mem_cons, List.not_mem_nil, or_false] at hk
  rcases hk with rfl | rfl | rfl
  all_goals exact ⟨vF_lo _, vF_hi _⟩
theorem join_thru {p1 p2 p3 : Pr} {n : Nat} (d : D3 p1.1 p2.1 p3.1) (l1 : p1.2.length = n) (l2 : p2.2.length = n) (l3 : p3.2.length = n) (o1 : Ok p1.2) (o2 : Ok p2.2) (o3 : Ok p3.2) :
    evL (joinL p1 p2 p3 (3 * n)) p1.1 = p1.2 ∧ evL (joinL p1 p2 p3 (3 * n)) p2.1 = p2.2 ∧ evL (joinL p1 p2 p3 (3 * n)) p3.1 = p3.2 := by
  obtain ⟨f, e, hf⟩ := join_flat p1 p2 p3 (3 * n)
  have gn : grp (3 * n) = n := by unfold grp; omega
  have h1 := phi_ne d.b d.a d.n12.symm
  have h2 := phi_ne d.c d.a d.n13.symm
  have h3 := phi_ne d.c d.b d.n23.symm
  have main : ∀ (x : Int) (l : List Int), l.length = n → Ok l → (∀ k, k < n → phi (f (3 * k)) + phi (f (3 * k + 1)) * phi x + phi (f (3 * k + 2)) * phi x * phi x = phi (g l k)) → evL (joinL p1 p2 p3 (3 * n)) x = l := by
    intro x l hl ol hk
    apply List.ext_getElem?
    intro i
    by_cases hi : i < n
    · have a1 : i < grp (joinL p1 p2 p3 (3 * n)).length := by rw [join_len, gn]; exact hi
      have z : g (evL (joinL p1 p2 p3 (3 * n)) x) i = g l i := by
        rw [evL_at a1, mod_vF, phi_add, phi_add, phi_mul, phi_mul, phi_mul, join_g e (by omega), join_g e (by omega), join_g e (by omega), hk i hi, vF_phi (ol.g i).1 (ol.g i).2]
      have b1 : i < (evL (joinL p1 p2 p3 (3 * n)) x).length := by rw [evL_len]; exact a1
      have b2 : i < l.length := by rw [hl]; exact hi
      unfold g at z
      rw [List.getElem?_eq_getElem b1, List.getElem?_eq_getElem b2] at z ⊢
      exact congrArg some z
    · rw [List.getElem?_eq_none (by rw [evL_len, join_len, gn]; omega), List.getElem?_eq_none (by omega)]
  have hcv : ∀ k, k < n → phi (f (3 * k)) = baseF (phi p1.1) (phi (g p1.2 k)) (phi p2.1) (phi (g p2.2 k)) (phi p3.1) (phi (g p3.2 k)) ∧ phi (f (3 * k + 1)) = leanF (phi p1.1) (phi (g p1.2 k)) (phi p2.1) (phi (g p2.2 k)) (phi p3.1) (phi (g p3.2 k)) ∧
      phi (f (3 * k + 2)) = bendF (phi p1.1) (phi (g p1.2 k)) (phi p2.1) (phi (g p2.2 k)) (phi p3.1) (phi (g p3.2 k)) := fun k hk => by
    have c := hf k (by rw [gn]; exact hk)
    unfold cvI at c
    obtain ⟨c1, c⟩ := List.cons.inj c
    obtain ⟨c2, c⟩ := List.cons.inj c
    obtain ⟨c3, _⟩ := List.cons.inj c
    exact ⟨by rw [← c1, phi_vF], by rw [← c2, phi_vF], by rw [← c3, phi_vF]⟩
  have tt := fun k => thru h1 h2 h3 (phi (g p1.2 k)) (phi (g p2.2 k)) (phi (g p3.2 k))
  refine ⟨main _ _ l1 o1 fun k hk => ?_, main _ _ l2 o2 fun k hk => ?_, main _ _ l3 o3 fun k hk => ?_⟩
  · obtain ⟨c1, c2, c3⟩ := hcv k hk
    rw [c1, c2, c3]
    exact (tt k).1
  · obtain ⟨c1, c2, c3⟩ := hcv k hk
    rw [c1, c2, c3]
    exact (tt k).2.1
  · obtain ⟨c1, c2, c3⟩ := hcv k hk
    rw [c1, c2, c3]
    exact (tt k).2.2
theorem join_bent {row w : List Int} {x1 x2 x3 : Int} {k : Nat} (hr : Ok row) (d : D3 x1 x2 x3) (hk : k < grp row.length) (hw : phi (g w k) ≠ phi (g (evL row x1) k)) : joinL (x1, w) (x2, evL row x2) (x3, evL row x3) row.length ≠ row := fun e => by
  obtain ⟨f, ef, hf⟩ := join_flat (x1, w) (x2, evL row x2) (x3, evL row x3) row.length
  have h1 := phi_ne d.b d.a d.n12.symm
  have h2 := phi_ne d.c d.a d.n13.symm
  have h3 := phi_ne d.c d.b d.n23.symm
  have c := hf k hk
  unfold cvI at c
  obtain ⟨c1, _⟩ := List.cons.inj c
  dsimp only at c1
  have hlt : 3 * k < row.length := by unfold grp at hk; omega
  have q := join_g ef hlt
  rw [e] at q
  have z : phi (g row (3 * k)) = baseF (phi x1) (phi (g w k)) (phi x2) (phi (g (evL row x2) k)) (phi x3) (phi (g (evL row x3) k)) := by rw [q, ← c1, phi_vF]
  rw [phi_ev _ _ _ hk, phi_ev _ _ _ hk] at z
  rw [phi_ev _ _ _ hk] at hw
  exact bent h1 h2 h3 (phi_nz d.b) (phi_nz d.c) _ _ _ _ hw z.symm
theorem take_g {l : List Int} {k : Nat} (h : k < l.length) : l.take (k + 1) = l.take k ++ [g l k] := by
  rw [List.take_add_one, List.getElem?_eq_getElem h]
  unfold g
  rw [List.getElem?_eq_getElem h]
  rfl
theorem cut_g {row : List Int} {k : Nat} (h : 3 * k < row.length) (j : Nat) (hj : j < 3) : ((row.drop (3 * k)).take 3 ++ [0, 0])[j]? = some (g row (3 * k + j)) := by
  have e : g row (3 * k + j) = g (row.drop (3 * k)) j := by
    unfold g
    rw [List.getElem?_drop]
  rw [e]
  have hl : (row.drop (3 * k)).length ≠ 0 := by rw [List.length_drop]; omega
  generalize row.drop (3 * k) = r at hl
  match r, hl with
  | [], hl => exact absurd rfl hl
  | [a], _ => match j, hj with | 0, _ => rfl | 1, _ => rfl | 2, _ => rfl
  | [a, b], _ => match j, hj with | 0, _ => rfl | 1, _ => rfl | 2, _ => rfl
  | a :: b :: c :: t, _ => match j, hj with | 0, _ => rfl | 1, _ => rfl | 2, _ => rfl
/-- the first three pairs with different points -/
def dpS (acc : List Pr) (p : Pr) : List Pr := if acc.length < 3 ∧ p.1 ∉ acc.map (·.1) then acc ++ [p] else acc
def dp (ps : List Pr) : List Pr := ps.foldl dpS []
theorem dp_len {ps : List Pr} : ∀ {acc : List Pr}, acc.length ≤ 3 → (ps.foldl dpS acc).length ≤ 3 := by
  induction ps with
  | nil => intro acc h; exact h
  | cons p r ih =>
    intro acc h
    refine ih ?_
    unfold dpS
    split
    · rename_i hh
      rw [List.length_append]
      show acc.length + 1 ≤ 3
      omega
    · exact h
theorem flat_len (p1 p2 p3 : Pr) : ∀ k, ((List.range k).flatMap (cvI p1 p2 p3)).length = 3 * k
  | 0 => rfl
  | k + 1 => by
    rw [List.range_succ, List.flatMap_append, List.length_append, flat_len p1 p2 p3 k]
    show 3 * k + 3 = _
    omega
theorem dp_mem {ps : List Pr} {p : Pr} (h : p ∈ dp ps) : p ∈ ps := by
  have key : ∀ (l acc : List Pr), p ∈ l.foldl dpS acc → p ∈ acc ∨ p ∈ l := by
    intro l
    induction l with
    | nil => intro acc h; exact .inl h
    | cons a r ih =>
      intro acc h
      rcases ih _ h with h | h
      · unfold dpS at h
        split at h
        · rcases List.mem_append.mp h with h | h
          · exact .inl h
          · exact .inr (by rw [List.mem_singleton.mp h]; exact List.mem_cons_self)
        · exact .inl h
      · exact .inr (List.mem_cons_of_mem _ h)
  rcases key ps [] h with h | h
  · cases h
  · exact h
theorem dp_full : ∀ (r acc : List Pr), ¬ acc.length < 3 → r.foldl dpS acc = acc
  | [], _, _ => rfl
  | p :: r, acc, h => by
    have e : dpS acc p = acc := by
      unfold dpS
      rw [if_neg (fun z => h z.1)]
    rw [List.foldl_cons, e]
    exact dp_full r acc h
theorem dp_add {acc : List Pr} {p : Pr} (h : acc.length < 3) (n : p.1 ∉ acc.map (·.1)) : dpS acc p = acc ++ [p] := by
  unfold dpS
  rw [if_pos ⟨h, n⟩]
theorem dp_skip {acc : List Pr} {p : Pr} (n : p.1 ∈ acc.map (·.1)) : dpS acc p = acc := by
  unfold dpS
  rw [if_neg (fun z => z.2 n)]
theorem dp_first {p1 p2 p3 : Pr} (d : D3 p1.1 p2.1 p3.1) (r : List Pr) : dp (p1 :: p2 :: p3 :: r) = [p1, p2, p3] := by
  unfold dp
  have n1 := d.n12
  have n2 := d.n13
  have n3 := d.n23
  have e1 : dpS [] p1 = [p1] := dp_add (acc := []) (by decide) (by simp)
  have e2 : dpS [p1] p2 = [p1, p2] := dp_add (acc := [p1]) (by show 1 < 3; decide) (by simp; exact n1.symm)
  have e3 : dpS [p1, p2] p3 = [p1, p2, p3] := dp_add (acc := [p1, p2]) (by show 2 < 3; decide) (by simp; exact ⟨n2.symm, n3.symm⟩)
  rw [List.foldl_cons, List.foldl_cons, List.foldl_cons, e1, e2, e3]
  exact dp_full _ _ (by show ¬ 3 < 3; decide)
theorem dp_seven {p1 q1 p2 q2 r1 p3 q3 : Pr} (d : D3 p1.1 p2.1 p3.1) (e1 : q1.1 = p1.1) (e2 : q2.1 = p1.1 ∨ q2.1 = p2.1) (e3 : r1.1 = p1.1 ∨ r1.1 = p2.1) : dp [p1, q1, p2, q2, r1, p3, q3] = [p1, p2, p3] := by
  have n1 := d.n12
  have n2 := d.n13
  have n3 := d.n23
  have a1 : dpS [] p1 = [p1] := dp_add (acc := []) (by decide) (by simp)
  have a2 : dpS [p1] q1 = [p1] := dp_skip (acc := [p1]) (by simp [e1])
  have a3 : dpS [p1] p2 = [p1, p2] := dp_add (acc := [p1]) (by show 1 < 3; decide) (by simp; exact n1.symm)
  have a4 : dpS [p1, p2] q2 = [p1, p2] := dp_skip (acc := [p1, p2]) (by simpa using e2)
  have a5 : dpS [p1, p2] r1 = [p1, p2] := dp_skip (acc := [p1, p2]) (by simpa using e3)
  have a6 : dpS [p1, p2] p3 = [p1, p2, p3] := dp_add (acc := [p1, p2]) (by show 2 < 3; decide) (by simp; exact ⟨n2.symm, n3.symm⟩)
  unfold dp
  rw [List.foldl_cons, List.foldl_cons, List.foldl_cons, List.foldl_cons, List.foldl_cons, List.foldl_cons, a1, a2, a3, a4, a5, a6]
  exact dp_full _ _ (by show ¬ 3 < 3; decide)
theorem dp_four {p1 q1 p2 p3 : Pr} (d : D3 p1.1 p2.1 p3.1) (e1 : q1.1 = p1.1) : dp [p1, q1, p2, p3] = [p1, p2, p3] := by
  have n1 := d.n12
  have n2 := d.n13
  have n3 := d.n23
  have a1 : dpS [] p1 = [p1] := dp_add (acc := []) (by decide) (by simp)
  have a2 : dpS [p1] q1 = [p1] := dp_skip (acc := [p1]) (by simp [e1])
  have a3 : dpS [p1] p2 = [p1, p2] := dp_add (acc := [p1]) (by show 1 < 3; decide) (by simp; exact n1.symm)
  have a6 : dpS [p1, p2] p3 = [p1, p2, p3] := dp_add (acc := [p1, p2]) (by show 2 < 3; decide) (by simp; exact ⟨n2.symm, n3.symm⟩)
  unfold dp
  rw [List.foldl_cons, List.foldl_cons, List.foldl_cons, List.foldl_cons, a1, a2, a3, a6]
  rfl
theorem evL_ok (row : List Int) (x : Int) : Ok (evL row x) := fun z hz => by
  unfold evL at hz
  obtain ⟨k, _, rfl⟩ := List.mem_map.mp hz
  omega
theorem dp_snoc {ps : List Pr} {k : Nat} {p : Pr} (h : ps[k]? = some p) : dp (ps.take (k + 1)) = dpS (dp (ps.take k)) p := by
  unfold dp
  rw [List.take_add_one, h, List.foldl_append]
  rfl
end M55

namespace Law
open PySem PySem.Spec PyProof.Rows L2 Jp
open M55 (Pr vF phi inv pw evL grp joinL Ok dp dpS D3)
/-! ### the walk's small steps -/
local macro_rules | `(tactic| wtm_at "jset") => `(tactic| (first | (simp only [wipe, List.map_cons, List.map_nil, List.set_cons_zero, List.set_cons_succ]; done) | (simp only [wipe, List.map_cons, List.map_nil, List.set_cons_zero, List.set_cons_succ]; exact rfl) | exact rfl))
local macro_rules | `(tactic| wtm_at "jw1") => `(tactic| first
  | ((with_reducible refine' i_var ?h ?_); (case h => exact rfl))
  | with_reducible refine' i_c ?_ | with_reducible refine' i_op ?_ | with_reducible refine' i_seq ?_ | with_reducible refine' i_asg ?_
  | ((with_reducible refine' i_gNameE ?e ?_); (case e => wtm_at "jset"))
  | with_reducible refine' i_ret ?_ | with_reducible refine' i_test ?_ | with_reducible refine' i_isb ?_
  | with_reducible refine' i_cons ?_ | with_reducible refine' i_nil ?_ | with_reducible refine' i_call ?_ | with_reducible refine' i_cb ?_
  | with_reducible refine' i_rI0 ?_ | ((with_reducible refine' i_rI ?c ?_); (case c => wtm_at "jside")) | with_reducible refine' i_rU ?_
  | with_reducible refine' i_eqI ?_ | with_reducible refine' i_neI ?_ | with_reducible refine' i_eqB ?_ | with_reducible refine' i_neB ?_ | with_reducible refine' i_eqS ?_ | with_reducible refine' i_neS ?_
  | with_reducible refine' i_isN ?_ | with_reducible refine' i_notN ?_
  | with_reducible refine' i_un ?_ | with_reducible refine' i_drop ?_ | with_reducible refine' i_retN ?_ | with_reducible refine' i_next ?_
  | ((with_reducible refine' i_ixL ?h ?e ?_); (case h => wtm_at "jsq"); (case e => wtm_at "jat"))
  | ((with_reducible refine' i_ixT ?h ?e ?_); (case h => wtm_at "jsq"); (case e => wtm_at "jat"))
  | ((with_reducible refine' i_ix1 (i_ixL ?h ?e ?_)); (case h => wtm_at "jsq"); (case e => wtm_at "jat"))
  | ((with_reducible refine' i_ix2 (i_ixT ?h ?e ?_)); (case h => wtm_at "jsq"); (case e => wtm_at "jat"))
  | with_reducible refine' i_gSub ?_
  | ((with_reducible refine' i_setL ?h ?e ?_); (case h => wtm_at "jhp"); (case e => wtm_at "jixn"))
  | ((with_reducible refine' i_gTup ?h ?e ?_); (case h => wtm_at "jsq"); (case e => rfl)) | with_reducible refine' i_gCons ?_ | with_reducible refine' i_gNil ?_
  | with_reducible refine' i_int ?_ | with_reducible refine' i_intB ?_ | with_reducible refine' i_abs ?_ | with_reducible refine' i_max2 ?_ | with_reducible refine' i_min2 ?_
  | ((with_reducible refine' i_lenL ?h ?_); (case h => wtm_at "jsq")) | ((with_reducible refine' i_lenT ?h ?_); (case h => wtm_at "jsq"))
  | ((with_reducible refine' i_tupL ?h ?_); (case h => wtm_at "jsq")) | ((with_reducible refine' i_lstL ?h ?_); (case h => wtm_at "jsq")) | ((with_reducible refine' i_lstT ?h ?_); (case h => wtm_at "jsq")) | ((with_reducible refine' i_tupT ?h ?_); (case h => wtm_at "jsq"))
  | ((with_reducible refine' i_new ?h ?_); (case h => wtm_at "jlen"))
  | with_reducible refine' i_tup ?_ | with_reducible refine' i_lst ?_ | with_reducible refine' i_if ?_ | with_reducible refine' i_andV ?_ | with_reducible refine' i_orV ?_ | with_reducible refine' i_notV ?_ | with_reducible refine' i_B ?_
  | with_reducible refine' i_and ?_ | with_reducible refine' i_or ?_ | with_reducible refine' i_not ?_ | with_reducible refine' i_break ?_ | with_reducible refine' i_cont ?_
  | ((with_reducible refine' i_augE ?h ?_); (case h => exact rfl)) | with_reducible refine' i_augS ?_ | with_reducible refine' i_ipI ?_
  | with_reducible refine' i_for ?_ | with_reducible refine' i_iList ?_ | with_reducible refine' i_iTup ?_ | ((with_reducible refine' i_isL ?h ?_); (case h => wtm_at "jsq")) | ((with_reducible refine' i_isT ?h ?_); (case h => wtm_at "jsq"))
  | with_reducible refine' i_rng1 ?_ | with_reducible refine' i_rng2 ?_
  | ((with_reducible refine' i_isR1 ?h1 ?h2 ?_); (case h1 => wtm_at "jside"); (case h2 => wtm_at "jside"))
  | ((with_reducible refine' i_isR2 ?h1 ?h2 ?h3 ?h4 ?_); (case h1 => wtm_at "jside"); (case h2 => wtm_at "jside"); (case h3 => wtm_at "jside"); (case h4 => wtm_at "jside"))
  | ((with_reducible refine' i_lc ?e ?_); (case e => wtm_at "jset"))
  | with_reducible refine' i_yes ?_ | with_reducible refine' i_sl ?_ | with_reducible refine' i_par ?_ | with_reducible refine' i_two ?_ | with_reducible refine' i_noPart ?_ | with_reducible refine' i_part ?_ | with_reducible refine' i_isI ?_
  | with_reducible refine' i_bm ?_ | with_reducible refine' i_bm0 ?_ | ((with_reducible refine' i_tyL ?h ?_); (case h => wtm_at "jsq"))
  | ((with_reducible refine' i_app ?h ?e ?_); (case h => wtm_at "jhp"); (case e => wtm_at "jsmall"))
  | with_reducible refine' i_chain ?_ | ((with_reducible refine' i_cat ?h1 ?h2 ?e ?_); (case h1 => wtm_at "jhp"); (case h2 => wtm_at "jhp"); (case e => wtm_at "jlen"))
  | with_reducible refine iteT ?_ | with_reducible refine iteF ?_ | with_reducible refine' c_nt ?_ | with_reducible refine' c_nf ?_)
local macro_rules | `(tactic| wtm_at "js") => `(tactic| repeat (wtm_at "jw1"))
local macro_rules | `(tactic| wtm_at "jw") => `(tactic| repeat (first | wtm_at "jw1" | with_reducible refine' i_ifS ?_))
local macro_rules | `(tactic| wtm_at "jlen") => `(tactic| first | decide | (simp [sizeLine]; done) | omega)
/- a condition of an operation -/
local macro_rules | `(tactic| wtm_at "jside") => `(tactic| first | with_reducible assumption | omega | decide | (simp only [List.length_map]; omega) | (refine Or.inl ?_; decide) | (refine Or.inr ?_; decide) | (refine ⟨?_, ?_⟩ <;> omega) | (refine Or.inl ?_; constructor <;> omega) | (refine Or.inr ?_; constructor <;> omega) | (refine ⟨by decide, by decide, by decide⟩) | (with_reducible refine wide_div ?_ (b := 64) ?_ ?_ ?_ <;> first | omega | decide))
/- H p = some o -/
local macro_rules | `(tactic| wtm_at "jhp") => `(tactic| first | assumption | with_reducible exact upd_same | ((with_reducible refine' Eq.trans (upd_ne ?hne) ?hgo); (case hne => wtm_at "jne"); (case hgo => wtm_at "jhp")))
local macro_rules | `(tactic| wtm_at "jne") => `(tactic| first | assumption | (refine Ne.symm ?_; assumption) | (refine ne_of_none (by assumption) (by assumption)) | (refine (ne_of_none (by assumption) (by assumption)).symm))
local macro_rules | `(tactic| wtm_at "jsq") => `(tactic| first | assumption | ((with_reducible refine' SqL.of ?hh); (case hh => wtm_at "jhp")) | ((with_reducible refine' SqT.of ?hh); (case hh => wtm_at "jhp")) | ((with_reducible refine' Same.seq (same_new ?hn) ?hh); (case hn => assumption); (case hh => wtm_at "jsq")) | ((with_reducible refine' Same.tup (same_new ?hn) ?hh); (case hn => assumption); (case hh => wtm_at "jsq")))
/- the item at a place -/
local macro_rules | `(tactic| wtm_at "jat") => `(tactic| first | exact rfl | assumption)
local macro_rules | `(tactic| wtm_at "jixn") => `(tactic| first | exact rfl | assumption)
local macro_rules | `(tactic| wtm_at "jsmall") => `(tactic| first | assumption | exact small1000 (by first | assumption | omega | (simp; done) | (simp; omega)))

local macro_rules | `(tactic| wtm_at "jw1") => `(tactic| first
  | with_reducible refine' i_try ?_ | with_reducible refine' i_callS ?_ | with_reducible refine' i_methS ?_ | with_reducible refine' i_raise ?_ | with_reducible refine' i_mkX1 ?_ | with_reducible refine' i_mkX2 ?_)
def top (i : Nat) : Stmt := PySem.Challenge.pw_judgedplay_k55_any_three_pieces.main.body.getD i (.Pass ⟨0, 0, 0, 0⟩)
abbrev s__law_begin : Stmt := top 21
abbrev N__law_begin : List Str := ["script", "cell"]
theorem sc__law_begin : FnScope N__law_begin ["script"] (defScope s__law_begin) := ⟨rfl, rfl, rfl, by decide +kernel, rfl, by decide +kernel, by decide +kernel⟩
abbrev s__law_draw : Stmt := top 22
abbrev N__law_draw : List Str := ["d", "many", "found", "size", "cell"]
theorem sc__law_draw : FnScope N__law_draw ["d", "many"] (defScope s__law_draw) := ⟨rfl, rfl, rfl, by decide +kernel, rfl, by decide +kernel, by decide +kernel⟩
abbrev s__law_pick : Stmt := top 23
abbrev N__law_pick : List Str := ["d", "row"]
theorem sc__law_pick : FnScope N__law_pick ["d", "row"] (defScope s__law_pick) := ⟨rfl, rfl, rfl, by decide +kernel, rfl, by decide +kernel, by decide +kernel⟩
abbrev s__law_numbers : Stmt := top 29
abbrev N__law_numbers : List Str := ["d", "many", "found", "k"]
theorem sc__law_numbers : FnScope N__law_numbers ["d", "many"] (defScope s__law_numbers) := ⟨rfl, rfl, rfl, by decide +kernel, rfl, by decide +kernel, by decide +kernel⟩
abbrev s__law_rare : Stmt := top 24
abbrev N__law_rare : List Str := ["d", "many"]
theorem sc__law_rare : FnScope N__law_rare ["d", "many"] (defScope s__law_rare) := ⟨rfl, rfl, rfl, by decide +kernel, rfl, by decide +kernel, by decide +kernel⟩
abbrev s__law_shuffled : Stmt := top 25
abbrev N__law_shuffled : List Str := ["d", "row", "left", "found", "k"]
theorem sc__law_shuffled : FnScope N__law_shuffled ["d", "row"] (defScope s__law_shuffled) := ⟨rfl, rfl, rfl, by decide +kernel, rfl, by decide +kernel, by decide +kernel⟩
abbrev s__law_points : Stmt := top 30
abbrev N__law_points : List Str := ["d", "many", "found", "x", "k"]
theorem sc__law_points : FnScope N__law_points ["d", "many"] (defScope s__law_points) := ⟨rfl, rfl, rfl, by decide +kernel, rfl, by decide +kernel, by decide +kernel⟩
abbrev s__law_is_int : Stmt := top 26
abbrev N__law_is_int : List Str := ["thing"]
theorem sc__law_is_int : FnScope N__law_is_int ["thing"] (defScope s__law_is_int) := ⟨rfl, rfl, rfl, by decide +kernel, rfl, by decide +kernel, by decide +kernel⟩
abbrev s__law_is_ints : Stmt := top 27
abbrev N__law_is_ints : List Str := ["row", "part"]
theorem sc__law_is_ints : FnScope N__law_is_ints ["row"] (defScope s__law_is_ints) := ⟨rfl, rfl, rfl, by decide +kernel, rfl, by decide +kernel, by decide +kernel⟩
abbrev s__law_is_row : Stmt := top 33
abbrev N__law_is_row : List Str := ["told", "row"]
theorem sc__law_is_row : FnScope N__law_is_row ["told", "row"] (defScope s__law_is_row) := ⟨rfl, rfl, rfl, by decide +kernel, rfl, by decide +kernel, by decide +kernel⟩
abbrev s_pieces_of : Stmt := top 14
abbrev N_pieces_of : List Str := ["numbers", "x", "values", "at", "group"]
theorem sc_pieces_of : FnScope N_pieces_of ["numbers", "x"] (defScope s_pieces_of) := ⟨rfl, rfl, rfl, by decide +kernel, rfl, by decide +kernel, by decide +kernel⟩
abbrev s_different_points : Stmt := top 18
abbrev N_different_points : List Str := ["pairs", "found", "x", "values", "row"]
theorem sc_different_points : FnScope N_different_points ["pairs"] (defScope s_different_points) := ⟨rfl, rfl, rfl, by decide +kernel, rfl, by decide +kernel, by decide +kernel⟩
abbrev s_power : Stmt := top 15
abbrev N_power : List Str := ["number", "exponent", "found", "base", "rest"]
theorem sc_power : FnScope N_power ["number", "exponent"] (defScope s_power) := ⟨rfl, rfl, rfl, by decide +kernel, rfl, by decide +kernel, by decide +kernel⟩
abbrev s_quotient : Stmt := top 16
abbrev N_quotient : List Str := ["number", "divisor"]
theorem sc_quotient : FnScope N_quotient ["number", "divisor"] (defScope s_quotient) := ⟨rfl, rfl, rfl, by decide +kernel, rfl, by decide +kernel, by decide +kernel⟩
abbrev s_curve : Stmt := top 17
abbrev N_curve : List Str := ["points", "first", "second", "third", "slope", "other", "bend", "lean", "base"]
theorem sc_curve : FnScope N_curve ["points"] (defScope s_curve) := ⟨rfl, rfl, rfl, by decide +kernel, rfl, by decide +kernel, by decide +kernel⟩
abbrev s_joined : Stmt := top 19
abbrev N_joined : List Str := ["pairs", "many", "chosen", "numbers", "k", "x", "values"]
theorem sc_joined : FnScope N_joined ["pairs", "many"] (defScope s_joined) := ⟨rfl, rfl, rfl, by decide +kernel, rfl, by decide +kernel, by decide +kernel⟩
abbrev s__law_curves : Stmt := top 28
abbrev N__law_curves : List Str := ["numbers", "x", "found", "k", "part"]
theorem sc__law_curves : FnScope N__law_curves ["numbers", "x"] (defScope s__law_curves) := ⟨rfl, rfl, rfl, by decide +kernel, rfl, by decide +kernel, by decide +kernel⟩
abbrev s__law_is_through : Stmt := top 35
abbrev N__law_is_through : List Str := ["d", "points", "groups", "rows", "k", "x", "told", "one", "values"]
theorem sc__law_is_through : FnScope N__law_is_through ["d", "points", "groups"] (defScope s__law_is_through) := ⟨rfl, rfl, rfl, by decide +kernel, rfl, by decide +kernel, by decide +kernel⟩
abbrev s__law_wrong : Stmt := top 31
abbrev N__law_wrong : List Str := ["d", "values", "found", "at"]
theorem sc__law_wrong : FnScope N__law_wrong ["d", "values"] (defScope s__law_wrong) := ⟨rfl, rfl, rfl, by decide +kernel, rfl, by decide +kernel, by decide +kernel⟩
abbrev s__law_is_any_three : Stmt := top 34
abbrev N__law_is_any_three : List Str := ["d", "pairs", "row", "many", "turn", "three", "one", "two", "again", "third", "behind"]
theorem sc__law_is_any_three : FnScope N__law_is_any_three ["d", "pairs", "row"] (defScope s__law_is_any_three) := ⟨rfl, rfl, rfl, by decide +kernel, rfl, by decide +kernel, by decide +kernel⟩
abbrev s__law_refused : Stmt := top 32
abbrev N__law_refused : List Str := ["pairs", "many", "raised"]
theorem sc__law_refused : FnScope N__law_refused ["pairs", "many"] (defScope s__law_refused) := ⟨rfl, rfl, rfl, by decide +kernel, rfl, by decide +kernel, by decide +kernel⟩
abbrev s__law_is_too_few : Stmt := top 36
abbrev N__law_is_too_few : List Str := ["d", "pairs", "many", "one", "two", "rows", "number", "told", "again"]
theorem sc__law_is_too_few : FnScope N__law_is_too_few ["d", "pairs", "many"] (defScope s__law_is_too_few) := ⟨rfl, rfl, rfl, by decide +kernel, rfl, by decide +kernel, by decide +kernel⟩
abbrev s_law : Stmt := top 37
abbrev N_law : List Str := ["script", "d", "many", "row", "points", "pairs", "x", "values"]
theorem sc_law : FnScope N_law ["script"] (defScope s_law) := ⟨rfl, rfl, rfl, by decide +kernel, rfl, by decide +kernel, by decide +kernel⟩
abbrev s_NotEnough___init__ : Stmt := inClass (top 7) 0
/-- what the text's top has: built-ins that are still so, constants -/
structure Txt (K : PySem.W.Frag) (mg : Str → Option Value) (C_NotEnough : Addr) (C_PlayError : Addr) (C_BadCut : Addr) (C_BadPaper : Addr) (C_BadSession : Addr) (C_BadText : Addr) (C_BadWorld : Addr) (C_NoState : Addr) (C_NotFitting : Addr) (C_TooLarge : Addr) : Prop where
  mg_NotEnough : mg "NotEnough" = some (.ref C_NotEnough)
  mg_PlayError : mg "PlayError" = some (.ref C_PlayError)
  mg_BadCut : mg "BadCut" = some (.ref C_BadCut)
  mg_BadPaper : mg "BadPaper" = some (.ref C_BadPaper)
  mg_BadSession : mg "BadSession" = some (.ref C_BadSession)
  mg_BadText : mg "BadText" = some (.ref C_BadText)
  mg_BadWorld : mg "BadWorld" = some (.ref C_BadWorld)
  mg_NoState : mg "NoState" = some (.ref C_NoState)
  mg_NotFitting : mg "NotFitting" = some (.ref C_NotFitting)
  mg_TooLarge : mg "TooLarge" = some (.ref C_TooLarge)
  xc_NotEnough : XcT K C_NotEnough C_PlayError
  nf_NotEnough_many : PySem.W.findIn K (.ref C_NotEnough) "many" = some none
  ki_NotEnough_NotEnough : PySem.W.kitOne K (.ref C_NotEnough) (.ref C_NotEnough) = some true
  kt_NotEnough_0 : PySem.W.kitAny K (.ref C_NotEnough) [.ref C_BadCut, .ref C_BadPaper, .ref C_BadSession, .ref C_BadText, .ref C_BadWorld, .ref C_NoState, .ref C_NotFitting, .ref C_TooLarge] = some false
  b_int : mg "int" = none
  b_len : mg "len" = none
  b_abs : mg "abs" = none
  b_range : mg "range" = none
  b_tuple : mg "tuple" = none
  b_list : mg "list" = none
  b_isinstance : mg "isinstance" = none
  b_bool : mg "bool" = none
  b_all : mg "all" = none
  c_NEEDED : Cn mg "NEEDED" (.int 3)
  c_MODULUS : Cn mg "MODULUS" (.int 65537)
/-! ### the draws -/
/-- a row of draws stands at p, its cells at a -/
def DrawAt (H : Hp) (p a : Addr) : Prop := ∃ (ns : List Int) (pos pend seed : Int), H p = some (.lst [.ref a, .int pos, .int pend, .int seed]) ∧ H a = some (.lst (ns.map V.int)) ∧ a ≠ p ∧ 0 ≤ pos
theorem DrawAt.same {H H' : Hp} {p a : Addr} (d : DrawAt H p a) (s : Same H H') : DrawAt H' p a := by
  obtain ⟨ns, pos, pend, seed, h1, h2, h3, h4⟩ := d
  exact ⟨ns, pos, pend, seed, s _ _ h1, s _ _ h2, h3, h4⟩
/-- behind draws: the row stands, all else is as it was -/
structure Drew (p a : Addr) (H H' : Hp) : Prop where
  at_ : DrawAt H' p a
  kp : Kp p H H'
theorem Drew.trans {p a : Addr} {H H1 H2 : Hp} (x : Drew p a H H1) (y : Drew p a H1 H2) : Drew p a H H2 := ⟨y.at_, x.kp.trans y.kp⟩
theorem Drew.new {p a q : Addr} {H H1 : Hp} {o : HO} (x : Drew p a H H1) (h : H1 q = none) : Drew p a H (upd H1 q o) := ⟨x.at_.same (same_new h), x.kp.trans (.of (same_new h))⟩
theorem Drew.same {p a : Addr} {H H1 H2 : Hp} (x : Drew p a H H1) (s : Same H1 H2) : Drew p a H H2 := ⟨x.at_.same s, x.kp.trans (.of s)⟩
theorem DrawAt.drew {p a : Addr} {H : Hp} (d : DrawAt H p a) : Drew p a H H := ⟨d, Kp.refl⟩
theorem DrawAt.some {H : Hp} {p a : Addr} (d : DrawAt H p a) : ∃ xs, H p = some (.lst xs) := by
  obtain ⟨ns, pos, pend, seed, h1, _⟩ := d
  exact ⟨_, h1⟩
theorem DrawAt.ne_none {H : Hp} {p a q : Addr} (d : DrawAt H p a) (h : H q = none) : q ≠ p := by
  obtain ⟨xs, e⟩ := d.some
  exact (ne_of_none e h).symm
theorem DrawAt.ne_noneA {H : Hp} {p a q : Addr} (d : DrawAt H p a) (h : H q = none) : q ≠ a := by
  obtain ⟨ns, pos, pend, seed, _, h1, _⟩ := d
  exact (ne_of_none h1 h).symm
theorem Drew.free {p a q : Addr} {H H' : Hp} (w : Drew p a H H') (h : H' q = none) : H q = none := by
  cases e : H q with
  | none => rfl
  | some o =>
    by_cases hq : q = p
    · obtain ⟨xs, e'⟩ := w.at_.some
      rw [hq, e'] at h; cases h
    · rw [w.kp _ _ e hq] at h; cases h
/-- a thing of our own, made behind H, is written -/
theorem Drew.put {p a q : Addr} {H H1 : Hp} {o : HO} (x : Drew p a H H1) (d : DrawAt H p a) (h : H q = none) : Drew p a H (upd H1 q o) := by
  have n1 := d.ne_none h
  have n2 := d.ne_noneA h
  obtain ⟨ns, pos, pend, seed, h1, h2, h3, h4⟩ := x.at_
  refine ⟨⟨ns, pos, pend, seed, by rw [upd_ne n1.symm]; exact h1, by rw [upd_ne n2.symm]; exact h2, h3, h4⟩, fun b u hb hne => ?_⟩
  rw [upd_ne (ne_of_none hb h)]
  exact x.kp _ _ hb hne
theorem Drew.tps {p a : Addr} {H H' : Hp} (w : Drew p a H H') (d : DrawAt H p a) : Tps H H' := by
  obtain ⟨xs, e⟩ := d.some
  exact w.kp.tps e
def sp__law_begin (K : PySem.W.Frag) : Sp := fun vs H Q _ => ∃ (a : Addr) (ns : List Int), vs = [.ref a] ∧ SqL K H a (ns.map V.int) ∧ ns.length ≤ 63 ∧
  ∀ (p c : Addr) (H' : Hp), Same H H' → H p = none → H c = none → DrawAt H' p c → Q (.ref p) H'
theorem ok__law_begin {P : Program} {w : World} {K : PySem.W.Frag} {mg : Str → Option Value} {base : Heap} {C_NotEnough : Addr} {C_PlayError : Addr} {C_BadCut : Addr} {C_BadPaper : Addr} {C_BadSession : Addr} {C_BadText : Addr} {C_BadWorld : Addr} {C_NoState : Addr} {C_NotFitting : Addr} {C_TooLarge : Addr} {f : Addr} {fd : FuncData} (F : Df K mg "_law_begin" s__law_begin f fd ["script"]) (T : Txt K mg C_NotEnough C_PlayError C_BadCut C_BadPaper C_BadSession C_BadText C_BadWorld C_NoState C_NotFitting C_TooLarge) : FnOk P w K mg base CX0 1 f fd ["script"] (sp__law_begin K) := by
  refine F.ok sc__law_begin (fun vs H Q E h => ?_) (fun cdv A outer s H vs Q E hr h => ?_)
  · obtain ⟨a, ns, rfl, _⟩ := h
    rfl
  · obtain ⟨a, ns, rfl, hS, hl, k⟩ := h
    refine ⟨_, (pss_one (ps_ret (pe_lst (pa_cons (pe_lc (own := [("cell", 1)]) (g := gName 1) (tt := tYes) rfl sc__law_begin.nd (pi_list (pv 0)) (blkOk_by (own := [("cell", 1)]) (N := N__law_begin) (sc := defScope s__law_begin) (by decide +kernel)) (fun _ _ _ _ _ => (pg_name (i := 1) sc__law_begin.nd rfl (Or.inl rfl))) (fun _ _ _ _ _ => pts_nil) (fun _ _ _ _ _ => (pe_callTy (T := "int") c_int (by rfl) T.b_int (by decide +kernel) (pa_cons (pv 1) pa_nil)))) (pa_cons pe_int (pa_cons pe_int (pa_cons pe_int pa_nil))))))), ?_⟩
    try dsimp only [cxOf, Cx.nox, Cx.wish]
    refine st_of (σ' := [some _, none]) rfl ?_
    wtm_at "jw"
    intro D hD
    refine l_list (xs := ns.map V.int) (fun i H1 => Same H H1 ∧ H1 D = some (.lst ((ns.take i).map V.int))) ⟨same_new hD, upd_same⟩ (fun i H1 _ h => h.1.seq hS) (fun i x H1 hi h => ?_) (fun H1 h => ?_)
    · obtain ⟨s1, h1⟩ := h
      rw [List.getElem?_map] at hi
      cases e : ns[i]? with
      | none => rw [e] at hi; cases hi
      | some z =>
        rw [e] at hi
        cases hi
        have hlt : i < ns.length := (List.getElem?_eq_some_iff.mp e).1
        wtm_at "jw"
        refine ⟨rfl, ?_⟩
        wtm_at "jw"
        refine ⟨_, h1, small1000 (by rw [List.length_map, List.length_take]; omega), ?_, ?_⟩
        · intro b o hb
          have hne : b ≠ D := ne_of_none hb hD
          rw [upd_ne hne]
          exact s1 _ _ hb
        · rw [upd_same, List.take_add_one, e, List.map_append]
          rfl
    · obtain ⟨s1, h1⟩ := h
      rw [List.length_map, List.take_length] at h1
      wtm_at "jw"
      intro p hp
      have hne : D ≠ p := ne_of_none h1 hp
      refine k p D _ (fun b o hb => ?_) (s1.free hp) hD ⟨ns, 0, 0, 11, upd_same, by rw [upd_ne hne]; exact h1, hne, by decide⟩
      rw [upd_ne (ne_of_none (s1 _ _ hb) hp)]
      exact s1 _ _ hb
def sp__law_draw (K : PySem.W.Frag) : Sp := fun vs H Q _ => ∃ (p a : Addr) (many : Int), vs = [.ref p, .int many] ∧ DrawAt H p a ∧ 0 < many ∧ many < 18446744073709551616 ∧
  ∀ (r : Int) (H' : Hp), 0 ≤ r → r < many → Drew p a H H' → Q (.int r) H'
theorem ok__law_draw {P : Program} {w : World} {K : PySem.W.Frag} {mg : Str → Option Value} {base : Heap} {C_NotEnough : Addr} {C_PlayError : Addr} {C_BadCut : Addr} {C_BadPaper : Addr} {C_BadSession : Addr} {C_BadText : Addr} {C_BadWorld : Addr} {C_NoState : Addr} {C_NotFitting : Addr} {C_TooLarge : Addr} {f : Addr} {fd : FuncData} (F : Df K mg "_law_draw" s__law_draw f fd ["d", "many"]) (T : Txt K mg C_NotEnough C_PlayError C_BadCut C_BadPaper C_BadSession C_BadText C_BadWorld C_NoState C_NotFitting C_TooLarge) : FnOk P w K mg base CX0 1 f fd ["d", "many"] (sp__law_draw K) := by
  refine F.ok sc__law_draw (fun vs H Q E h => ?_) (fun cdv A outer s H vs Q E hr h => ?_)
  · obtain ⟨p, a, m, rfl, _⟩ := h
    rfl
  · obtain ⟨p, a, m, rfl, ⟨ns, pos, pend, seed, hp, ha, nap, h0⟩, hm0, hm1, k⟩ := h
    have fin : ∀ (z : Int) (pos' pend' seed' : Int) (H' : Hp), 0 ≤ pos' → H' p = some (.lst [.ref a, .int pos', .int pend', .int seed']) → Kp p H H' → Q (.int (z % m)) H' := fun z pos' pend' seed' H' hp' h1 h2 =>
      k _ _ (Int.emod_nonneg _ (by omega)) (Int.emod_lt_of_pos _ hm0) ⟨⟨ns, pos', pend', seed', h1, h2 _ _ ha nap, nap, hp'⟩, h2⟩
    refine ⟨_, (pss_cons (ps_if (pt_cmpR op_gt (pe_ix (r := rIxL K) ix_list (pv 0) pe_int (fun _ _ => rfl)) pe_int (nomark _)) (pss_cons (ps_set (i := 2) sc__law_draw.nd rfl (Or.inl rfl) (pe_ix (r := rIxL K) ix_list (pv 0) pe_int (fun _ _ => rfl)))
      (pss_cons (ps_asg (pe_op op_fdivW (pv 2) (pv 1)) (pg_sub (pv 0) pe_int set_list))
      (pss_one (ps_ret (pe_op op_mod (pe_callTy (T := "int") c_int (by rfl) T.b_int (by decide +kernel) (pa_cons (pv 2) pa_nil)) (pv 1)))))) pss_nil)
      (pss_cons (ps_set (i := 3) sc__law_draw.nd rfl (Or.inl rfl) pe_int)
      (pss_cons (ps_if (pt_cmpR op_lt (pe_ix (r := rIxL K) ix_list (pv 0) pe_int (fun _ _ => rfl)) (pe_callB (id := "len") (r := qLen K) c_len (by rfl) T.b_len (by decide +kernel) (pa_cons (pe_ix (r := rIxL K) ix_list (pv 0) pe_int (fun _ _ => rfl)) pa_nil)) (nomark _)) (pss_cons (ps_set (i := 4) sc__law_draw.nd rfl (Or.inl rfl) (pe_ix (r := rIx K) ix_seq (pe_ix (r := rIxL K) ix_list (pv 0) pe_int (fun _ _ => rfl)) (pe_ix (r := rIxL K) ix_list (pv 0) pe_int (fun _ _ => rfl)) (fun _ _ => rfl)))
      (pss_one (ps_set (i := 3) sc__law_draw.nd rfl (Or.inl rfl) (pe_op op_add (pe_op op_mul pe_int (pe_callB (id := "abs") c_abs (by rfl) T.b_abs (by decide +kernel) (pa_cons (pv 4) pa_nil))) (pe_callTy (T := "int") c_int (by rfl) T.b_int (by decide +kernel) (pa_cons (pe_cmpR op_lt (pv 4) pe_int (nomark _)) pa_nil)))))) pss_nil)
      (pss_cons (ps_augS (pv 0) pe_int get_list pe_int iop_add set_list)
      (pss_cons (ps_if (pt_cmpR op_ge (pv 3) (pe_op op_mul pe_int (pe_op op_pow pe_int pe_int)) (nomark _)) (pss_cons (ps_set (i := 2) sc__law_draw.nd rfl (Or.inl rfl) (pe_op op_mod (pe_callTy (T := "int") c_int (by rfl) T.b_int (by decide +kernel) (pa_cons (pe_op op_fdiv (pv 3) pe_int) pa_nil)) (pe_op op_shl pe_int pe_int)))
      (pss_cons (ps_asg (pe_op op_fdivW (pv 2) (pv 1)) (pg_sub (pv 0) pe_int set_list))
      (pss_one (ps_ret (pe_op op_mod (pe_callTy (T := "int") c_int (by rfl) T.b_int (by decide +kernel) (pa_cons (pv 2) pa_nil)) (pv 1)))))) pss_nil)
      (pss_cons (ps_asg (pe_op op_mod (pe_callTy (T := "int") c_int (by rfl) T.b_int (by decide +kernel) (pa_cons (pe_op op_add (pe_op op_add (pe_op op_add (pe_op op_mul (pe_ix (r := rIxL K) ix_list (pv 0) pe_int (fun _ _ => rfl)) pe_int) (pe_op op_mul (pe_op op_mod (pe_callTy (T := "int") c_int (by rfl) T.b_int (by decide +kernel) (pa_cons (pv 3) pa_nil)) pe_int) pe_int)) (pe_op op_mul (pe_ix (r := rIxL K) ix_list (pv 0) pe_int (fun _ _ => rfl)) pe_int)) pe_int) pa_nil)) pe_int) (pg_sub (pv 0) pe_int set_list))
      (pss_one (ps_ret (pe_op op_mod (pe_callTy (T := "int") c_int (by rfl) T.b_int (by decide +kernel) (pa_cons (pe_op op_fdiv (pe_ix (r := rIxL K) ix_list (pv 0) pe_int (fun _ _ => rfl)) pe_int) pa_nil)) (pv 1)))))))))), ?_⟩
    try dsimp only [cxOf, Cx.nox, Cx.wish]
    refine st_of (σ' := [some _, some _, none, none, none]) rfl ?_
    wtm_at "jw"
    refine c_dec (fun h => ?_) (fun h => ?_)
    · wtm_at "jw"
      exact fin _ _ _ _ _ h0 upd_same Kp.upd
    · wtm_at "jw"
      refine c_dec (fun h1 => ?_) (fun h1 => ?_)
      · obtain ⟨c, hc⟩ : ∃ c : Int, atI (ns.map V.int) pos = some (.int c) := by
          obtain ⟨v, e, hv, _⟩ := at_lt (xs := ns.map V.int) h0 h1
          obtain ⟨z, _, rfl⟩ := List.mem_map.mp hv
          exact ⟨z, e⟩
        wtm_at "jw"
        refine c_dec (fun h2 => ?_) (fun h2 => ?_)
        · wtm_at "jw"
          exact fin _ (pos + 1) _ _ _ (by omega) upd_same (Kp.upd.trans Kp.upd)
        · wtm_at "jw"
          exact fin _ (pos + 1) _ _ _ (by omega) upd_same (Kp.upd.trans Kp.upd)
      · wtm_at "jw"
        refine c_dec (fun h2 => ?_) (fun h2 => ?_)
        · wtm_at "jw"
          exact fin _ (pos + 1) _ _ _ (by omega) upd_same (Kp.upd.trans Kp.upd)
        · wtm_at "jw"
          exact fin _ (pos + 1) _ _ _ (by omega) upd_same (Kp.upd.trans Kp.upd)

def sp__law_pick (K : PySem.W.Frag) : Sp := fun vs H Q _ => ∃ (p a b : Addr) (xs : List V), vs = [.ref p, .ref b] ∧ DrawAt H p a ∧ ((b ≠ p ∧ SqL K H b xs) ∨ SqT K H b xs) ∧ 0 < xs.length ∧ xs.length < 1073741824 ∧
  ∀ (x : V) (H' : Hp), x ∈ xs → Drew p a H H' → Q x H'
theorem ok__law_pick {P : Program} {w : World} {K : PySem.W.Frag} {mg : Str → Option Value} {base : Heap} {C_NotEnough : Addr} {C_PlayError : Addr} {C_BadCut : Addr} {C_BadPaper : Addr} {C_BadSession : Addr} {C_BadText : Addr} {C_BadWorld : Addr} {C_NoState : Addr} {C_NotFitting : Addr} {C_TooLarge : Addr} {f : Addr} {fd : FuncData} (F : Df K mg "_law_pick" s__law_pick f fd ["d", "row"]) (T : Txt K mg C_NotEnough C_PlayError C_BadCut C_BadPaper C_BadSession C_BadText C_BadWorld C_NoState C_NotFitting C_TooLarge)
    (c__law_draw : Cl P w K mg base 1 "_law_draw" (sp__law_draw K)) : FnOk P w K mg base CX0 2 f fd ["d", "row"] (sp__law_pick K) := by
  refine F.ok sc__law_pick (fun vs H Q E h => ?_) (fun cdv A outer s H vs Q E hr h => ?_)
  · obtain ⟨p, a, b, xs, rfl, _⟩ := h
    rfl
  · obtain ⟨p, a, b, xs, rfl, hd, hb, hl0, hl1, k⟩ := h
    refine ⟨_, (pss_one (ps_ret (pe_ix (r := rIx K) ix_seq (pv 1) (pe_cl c__law_draw hr (by decide) rfl (pa_cons (pv 0) (pa_cons (pe_callB (id := "len") (r := qLen K) c_len (by rfl) T.b_len (by decide +kernel) (pa_cons (pv 1) pa_nil)) pa_nil))) (fun _ _ => rfl)))), ?_⟩
    try dsimp only [cxOf, Cx.nox, Cx.wish]
    refine st_of (σ' := [some _, some _]) rfl ?_
    rcases hb with ⟨nb, hb⟩ | hb
    all_goals
      wtm_at "jw"
      refine ⟨p, a, _, rfl, hd, by omega, by omega, fun r H' hr0 hr1 w => ?_⟩
      obtain ⟨v, e, hv, _⟩ := at_lt hr0 hr1
    · have hb' := w.kp.seq hb nb
      wtm_at "jw"
      exact k _ _ hv w
    · have hb' := (w.tps hd).sq hb
      wtm_at "jw"
      exact k _ _ hv w

def sp__law_shuffled (K : PySem.W.Frag) : Sp := fun vs H Q _ => ∃ (p a b : Addr) (xs : List V), vs = [.ref p, .ref b] ∧ DrawAt H p a ∧ (SqL K H b xs ∨ SqT K H b xs) ∧ xs.length ≤ 1000 ∧
  ∀ (q : Addr) (ys : List V) (H' : Hp), Drew p a H H' → H q = none → H' q = some (.lst ys) → ys.Perm xs → Q (.ref q) H'
theorem ok__law_shuffled {P : Program} {w : World} {K : PySem.W.Frag} {mg : Str → Option Value} {base : Heap} {C_NotEnough : Addr} {C_PlayError : Addr} {C_BadCut : Addr} {C_BadPaper : Addr} {C_BadSession : Addr} {C_BadText : Addr} {C_BadWorld : Addr} {C_NoState : Addr} {C_NotFitting : Addr} {C_TooLarge : Addr} {f : Addr} {fd : FuncData} (F : Df K mg "_law_shuffled" s__law_shuffled f fd ["d", "row"]) (T : Txt K mg C_NotEnough C_PlayError C_BadCut C_BadPaper C_BadSession C_BadText C_BadWorld C_NoState C_NotFitting C_TooLarge)
    (c__law_draw : Cl P w K mg base 1 "_law_draw" (sp__law_draw K)) : FnOk P w K mg base CX0 2 f fd ["d", "row"] (sp__law_shuffled K) := by
  refine F.ok sc__law_shuffled (fun vs H Q E h => ?_) (fun cdv A outer s H vs Q E hr h => ?_)
  · obtain ⟨p, a, b, xs, rfl, _⟩ := h
    rfl
  · obtain ⟨p, a, b, xs, rfl, hd, hb, hl, k⟩ := h
    refine ⟨_, (pss_cons (ps_set (i := 2) sc__law_shuffled.nd rfl (Or.inl rfl) (pe_callTy (T := "list") (r := rLstOf K) c_lst (by rfl) T.b_list (by decide +kernel) (pa_cons (pv 1) pa_nil)))
      (pss_cons (ps_set (i := 3) sc__law_shuffled.nd rfl (Or.inl rfl) (pe_lst pa_nil))
      (pss_cons (ps_for PassesOwn.never rfl (pi_range1 rfl T.b_range (pa_cons (pe_callB (id := "len") (r := qLen K) c_len (by rfl) T.b_len (by decide +kernel) (pa_cons (pv 2) pa_nil)) pa_nil)) (pg_name (i := 4) sc__law_shuffled.nd rfl (Or.inl rfl)) (pss_one (ps_expr (pe_bmK (K := K) rfl PySem.F.plainAttrs_list PySem.F.slot_list_append PySem.F.type_list_append mt_append (pv 3) (pa_cons (pe_bmK (K := K) rfl PySem.F.plainAttrs_list PySem.F.slot_list_pop PySem.F.type_list_pop mt_popAt (pv 2) (pa_cons (pe_cl c__law_draw hr (by decide) rfl (pa_cons (pv 0) (pa_cons (pe_callB (id := "len") (r := qLen K) c_len (by rfl) T.b_len (by decide +kernel) (pa_cons (pv 2) pa_nil)) pa_nil))) pa_nil)) pa_nil)))))
      (pss_one (ps_ret (pv 3)))))), ?_⟩
    try dsimp only [cxOf, Cx.nox, Cx.wish]
    refine st_of (σ' := [some _, some _, none, none, none]) rfl ?_
    wtm_at "js"
    refine ⟨b, xs, rfl, hb, fun L hL => ?_⟩
    wtm_at "js"
    intro D hD
    have nLD : L ≠ D := by
      intro e
      rw [e, upd_same] at hD
      cases hD
    have hD0 : H D = none := by rw [upd_ne nLD.symm] at hD; exact hD
    wtm_at "js"
    have d0 : Drew p a H (upd (upd H L (.lst xs)) D (.lst [])) := (hd.drew.new hL).put hd hD0
    refine f_range (fun i σ H' => ∃ (v : Option V) (us ws : List V), σ = [some (.ref p), some (.ref b), some (.ref L), some (.ref D), v] ∧ Drew p a H H' ∧ H' L = some (.lst us) ∧ H' D = some (.lst ws) ∧ (ws ++ us).Perm xs ∧ ws.length = i) ⟨none, xs, [], rfl, d0, by rw [upd_ne nLD]; exact upd_same, upd_same, List.Perm.refl _, rfl⟩ (fun i σ H' hi h => ?_) (fun σ H' h => ?_)
    · obtain ⟨v, us, ws, rfl, d1, hL1, hD1, hp, hw⟩ := h
      have hlen : ws.length + us.length = xs.length := by
        have := hp.length_eq
        rw [List.length_append] at this
        exact this
      have hi' : i < xs.length := by omega
      wtm_at "js"
      refine ⟨p, a, _, rfl, d1.at_, by omega, by omega, fun r H2 r0 r1 d2 => ?_⟩
      have nLp : L ≠ p := hd.ne_none hL
      have nDp : D ≠ p := hd.ne_none hD0
      have hL2 := d2.kp _ _ hL1 nLp
      have hD2 := d2.kp _ _ hD1 nDp
      have hrl : r.toNat < us.length := by omega
      wtm_at "js"
      refine i_popAt hL2 r0 r1 (by omega) (List.getElem?_eq_getElem hrl) ?_
      have d3 := (d1.trans d2).put (o := .lst (us.eraseIdx r.toNat)) hd hL
      have hD3 : (upd H2 L (.lst (us.eraseIdx r.toNat))) D = some (.lst ws) := by rw [upd_ne nLD.symm]; exact hD2
      have hws : ws.length < sizeLine := small1000 (by omega)
      wtm_at "js"
      refine ⟨_, us.eraseIdx r.toNat, ws ++ [us[r.toNat]], rfl, d3.put hd hD0, by rw [upd_ne nLD, upd_same], upd_same, ?_, by simp [hw]⟩
      have e : (us[r.toNat] :: us.eraseIdx r.toNat).Perm us := perm_erase us _ hrl
      rw [List.append_assoc]
      exact ((List.Perm.refl ws).append e).trans hp
    · obtain ⟨v, us, ws, rfl, d1, hL1, hD1, hp, hw⟩ := h
      have hlen := hp.length_eq
      rw [List.length_append] at hlen
      have hus : us = [] := List.eq_nil_of_length_eq_zero (by omega)
      rw [hus, List.append_nil] at hp
      wtm_at "js"
      exact k D ws _ d1 hD0 hD1 hp

def sp__law_is_int (K : PySem.W.Frag) : Sp := fun vs H Q _ => ∃ (i : Int), vs = [.int i] ∧ Q (.bl true) H
theorem ok__law_is_int {P : Program} {w : World} {K : PySem.W.Frag} {mg : Str → Option Value} {base : Heap} {C_NotEnough : Addr} {C_PlayError : Addr} {C_BadCut : Addr} {C_BadPaper : Addr} {C_BadSession : Addr} {C_BadText : Addr} {C_BadWorld : Addr} {C_NoState : Addr} {C_NotFitting : Addr} {C_TooLarge : Addr} {f : Addr} {fd : FuncData} (F : Df K mg "_law_is_int" s__law_is_int f fd ["thing"]) (T : Txt K mg C_NotEnough C_PlayError C_BadCut C_BadPaper C_BadSession C_BadText C_BadWorld C_NoState C_NotFitting C_TooLarge) : FnOk P w K mg base CX0 1 f fd ["thing"] (sp__law_is_int K) := by
  refine F.ok sc__law_is_int (fun vs H Q E h => ?_) (fun cdv A outer s H vs Q E hr h => ?_)
  · obtain ⟨i, rfl, _⟩ := h
    rfl
  · obtain ⟨i, rfl, k⟩ := h
    refine ⟨_, (pss_one (ps_ret (pe_and (pe_callB (id := "isinstance") (r := rIsi K) call_isi (by rfl) T.b_isinstance (by decide +kernel) (pa_cons (pv 0) (pa_cons (pe_bltn (v := .ty "int") (u := Value.type "int") (by rfl) T.b_int (by decide +kernel) rfl) pa_nil))) (pe_one (pe_not (pe_callB (id := "isinstance") (r := rIsi K) call_isi (by rfl) T.b_isinstance (by decide +kernel) (pa_cons (pv 0) (pa_cons (pe_bltn (v := .ty "bool") (u := Value.type "bool") (by rfl) T.b_bool (by decide +kernel) rfl) pa_nil)))))))), ?_⟩
    try dsimp only [cxOf, Cx.nox, Cx.wish]
    refine st_of (σ' := [some _]) rfl ?_
    wtm_at "jw"
    refine i_isi (.base (.int i)) rfl ?_
    wtm_at "jw"
    refine i_isi (.base (.int i)) rfl ?_
    wtm_at "jw"
    exact k

/-! ### pairs of ints, tuples of them -/
/-- the pairs of rows stand at rs -/
def Prw (H : Hp) (rs : List Addr) (rows : List (Int × Int)) : Prop := rs.length = rows.length ∧ ∀ (i : Nat) (r : Addr) (p : Int × Int), rs[i]? = some r → rows[i]? = some p → H r = some (.tup [.int p.1, .int p.2])
/-- a tuple of pairs -/
def Prs (H : Hp) (a : Addr) (rows : List (Int × Int)) : Prop := ∃ rs : List Addr, H a = some (.tup (rs.map V.ref)) ∧ Prw H rs rows
/-- a list of pairs -/
def LPr (H : Hp) (a : Addr) (rows : List (Int × Int)) : Prop := ∃ rs : List Addr, H a = some (.lst (rs.map V.ref)) ∧ Prw H rs rows
theorem Prw.nil {H : Hp} : Prw H [] [] := ⟨rfl, fun i r p h => by simp at h⟩
theorem Prw.tps {H H' : Hp} {rs : List Addr} {rows : List (Int × Int)} (w : Prw H rs rows) (t : Tps H H') : Prw H' rs rows := ⟨w.1, fun i r p h1 h2 => (t r).1 _ (w.2 i r p h1 h2)⟩
theorem Prw.same {H H' : Hp} {rs : List Addr} {rows : List (Int × Int)} (w : Prw H rs rows) (s : Same H H') : Prw H' rs rows := w.tps (Tps.of s)
theorem Prw.snoc {H : Hp} {rs : List Addr} {rows : List (Int × Int)} {q : Addr} {x y : Int} (w : Prw H rs rows) (h : H q = some (.tup [.int x, .int y])) : Prw H (rs ++ [q]) (rows ++ [(x, y)]) := by
  refine ⟨by simp [w.1], fun i r p h1 h2 => ?_⟩
  have hl := w.1
  by_cases hi : i < rs.length
  · rw [List.getElem?_append_left hi] at h1
    rw [List.getElem?_append_left (by omega)] at h2
    exact w.2 i r p h1 h2
  · rw [List.getElem?_append_right (by omega)] at h1
    rw [List.getElem?_append_right (by omega)] at h2
    rw [hl] at h1
    cases e : i - rows.length with
    | zero =>
      rw [e] at h1 h2
      cases h1
      cases h2
      exact h
    | succ n =>
      rw [e] at h1
      cases h1
theorem Prs.tps {H H' : Hp} {a : Addr} {rows : List (Int × Int)} (h : Prs H a rows) (t : Tps H H') : Prs H' a rows := by
  obtain ⟨rs, ha, w⟩ := h
  exact ⟨rs, (t a).1 _ ha, w.tps t⟩
theorem Prs.same {H H' : Hp} {a : Addr} {rows : List (Int × Int)} (h : Prs H a rows) (s : Same H H') : Prs H' a rows := h.tps (Tps.of s)
theorem LPr.same {H H' : Hp} {a : Addr} {rows : List (Int × Int)} (h : LPr H a rows) (s : Same H H') : LPr H' a rows := by
  obtain ⟨rs, ha, w⟩ := h
  exact ⟨rs, s _ _ ha, w.same s⟩
theorem LPr.kp {H H' : Hp} {p a : Addr} {xs : List V} {rows : List (Int × Int)} (h : LPr H a rows) (k : Kp p H H') (hp : H p = some (.lst xs)) (n : a ≠ p) : LPr H' a rows := by
  obtain ⟨rs, ha, w⟩ := h
  exact ⟨rs, k _ _ ha n, w.tps (k.tps hp)⟩
theorem Prw.put {H : Hp} {D : Addr} {rs : List Addr} {xs ys : List V} {rows : List (Int × Int)} (w : Prw H rs rows) (h : H D = some (.lst xs)) : Prw (upd H D (.lst ys)) rs rows := by
  refine ⟨w.1, fun i r p h1 h2 => ?_⟩
  have hr := w.2 i r p h1 h2
  rw [upd_ne (ne_of hr h (by intro z; cases z))]
  exact hr
/-- a new pair behind the others -/
theorem LPr.add {H : Hp} {D q : Addr} {rs : List Addr} {rows : List (Int × Int)} {x y : Int} (h : H D = some (.lst (rs.map V.ref))) (w : Prw H rs rows) (hq : H q = none) :
    LPr (upd (upd H q (.tup [.int x, .int y])) D (.lst (rs.map V.ref ++ [.ref q]))) D (rows ++ [(x, y)]) := by
  have hD : upd H q (.tup [.int x, .int y]) D = some (.lst (rs.map V.ref)) := by rw [upd_ne (ne_of_none h hq)]; exact h
  refine ⟨rs ++ [q], by rw [upd_same, List.map_append]; rfl, Prw.put (xs := rs.map V.ref) ((w.same (same_new hq)).snoc upd_same) hD⟩
/-- a pair that stands already -/
theorem LPr.add' {H : Hp} {D q : Addr} {rs : List Addr} {rows : List (Int × Int)} {x y : Int} (h : H D = some (.lst (rs.map V.ref))) (w : Prw H rs rows) (hq : H q = some (.tup [.int x, .int y])) :
    LPr (upd H D (.lst (rs.map V.ref ++ [.ref q]))) D (rows ++ [(x, y)]) :=
  ⟨rs ++ [q], by rw [upd_same, List.map_append]; rfl, (w.snoc hq).put h⟩
theorem Prw.at {H : Hp} {rs : List Addr} {rows : List (Int × Int)} {i : Nat} {v : V} (w : Prw H rs rows) (h : (rs.map V.ref)[i]? = some v) : ∃ r p, v = .ref r ∧ rs[i]? = some r ∧ rows[i]? = some p ∧ H r = some (.tup [.int p.1, .int p.2]) ∧ rows.take (i + 1) = rows.take i ++ [p] ∧ i < rows.length := by
  rw [List.getElem?_map] at h
  cases e : rs[i]? with
  | none => rw [e] at h; cases h
  | some r =>
    rw [e] at h
    have hi := (List.getElem?_eq_some_iff.mp e).1
    have hl := w.1
    have e2 : rows[i]? = some (rows[i]'(by omega)) := List.getElem?_eq_getElem (by omega)
    exact ⟨r, _, (Option.some.inj h).symm, rfl, e2, w.2 i r _ e e2, by rw [List.take_add_one, e2]; rfl, by omega⟩
def prD (p : Int × Int) : PyData := .tuple [.int p.1, .int p.2]
theorem dp_prs {K : PySem.W.Frag} {H : Hp} {a : Addr} {rows : List (Int × Int)} (h : Prs H a rows) : Dp K H (.ref a) (.tuple (rows.map prD)) := by
  obtain ⟨rs, ha, w⟩ := h
  refine .tup (SqT.of ha) (dpAll_of (by simp [w.1]) fun i x d h1 h2 => ?_)
  obtain ⟨r, p, rfl, e1, e2, hr, _⟩ := w.at h1
  rw [List.getElem?_map, e2] at h2
  cases h2
  exact dp_ints (ns := [p.1, p.2]) (SqT.of hr)
theorem shp_prs (rows : List (Int × Int)) : Shp 2 (.tuple (rows.map prD)) :=
  Shp.tup fun d hd => by
    obtain ⟨p, _, rfl⟩ := List.mem_map.mp hd
    exact Shp.tup fun e he => by
      rcases List.mem_cons.mp he with rfl | he
      · exact (Shp.int _)
      · rcases List.mem_cons.mp he with rfl | he
        · exact (Shp.int _)
        · cases he
theorem shp_ints (ns : List Int) : Shp 1 (.tuple (ns.map PyData.int)) :=
  Shp.tup fun d hd => by
    obtain ⟨p, _, rfl⟩ := List.mem_map.mp hd
    exact Shp.int _
theorem put_same {H H' : Hp} {D : Addr} {o : HO} (s : Same H H') (h : H D = none) : Same H (upd H' D o) := fun b u hb => by
  rw [upd_ne (ne_of_none hb h)]
  exact s _ _ hb
theorem tps_put {H : Hp} {D : Addr} {xs ys : List V} (h : H D = some (.lst xs)) : Tps H (upd H D (.lst ys)) := (Kp.upd (p := D)).tps h

/-! ### immutable data: None, bools, ints, texts, tuples of them -/
mutual
inductive TD (K : PySem.W.Frag) (H : Hp) : V → PyData → Prop
  | non : TD K H .non .none
  | bl (b : Bool) : TD K H (.bl b) (.bool b)
  | int (i : Int) : TD K H (.int i) (.int i)
  | str (x : Str) : TD K H (.str x) (.str x)
  | tup {a : Addr} {xs : List V} {ds : List PyData} : SqT K H a xs → TDs K H xs ds → TD K H (.ref a) (.tuple ds)
inductive TDs (K : PySem.W.Frag) (H : Hp) : List V → List PyData → Prop
  | nil : TDs K H [] []
  | cons {v : V} {vs : List V} {d : PyData} {ds : List PyData} : TD K H v d → TDs K H vs ds → TDs K H (v :: vs) (d :: ds)
end
def oD : Option Int → PyData
  | none => .none
  | some z => .int z
def ovO : Option Int → V
  | none => .non
  | some z => .int z
def pD (p : Int × Int) : PyData := .tuple [.int p.1, .int p.2]
section
variable {K : PySem.W.Frag} {H H' : Hp}
theorem TD.tps (t : Tps H H') {v : V} {d : PyData} (h : TD K H v d) : TD K H' v d :=
  TD.rec (motive_1 := fun v d _ => TD K H' v d) (motive_2 := fun vs ds _ => TDs K H' vs ds) .non (fun b => .bl b) (fun i => .int i) (fun x => .str x) (fun h _ q => .tup (t.sq h) q) .nil (fun _ _ h1 h2 => .cons h1 h2) h
theorem TDs.tps (t : Tps H H') {vs : List V} {ds : List PyData} (h : TDs K H vs ds) : TDs K H' vs ds :=
  TDs.rec (motive_1 := fun v d _ => TD K H' v d) (motive_2 := fun vs ds _ => TDs K H' vs ds) .non (fun b => .bl b) (fun i => .int i) (fun x => .str x) (fun h _ q => .tup (t.sq h) q) .nil (fun _ _ h1 h2 => .cons h1 h2) h
theorem TD.dp {v : V} {d : PyData} (h : TD K H v d) : Dp K H v d :=
  TD.rec (motive_1 := fun v d _ => Dp K H v d) (motive_2 := fun vs ds _ => DpAll K H vs ds) .non (fun b => .bl b) (fun i => .int i) (fun x => .str x) (fun h _ q => .tup h q) .nil (fun _ _ h1 h2 => .cons h1 h2) h
theorem TDs.dp {vs : List V} {ds : List PyData} (h : TDs K H vs ds) : DpAll K H vs ds :=
  TDs.rec (motive_1 := fun v d _ => Dp K H v d) (motive_2 := fun vs ds _ => DpAll K H vs ds) .non (fun b => .bl b) (fun i => .int i) (fun x => .str x) (fun h _ q => .tup h q) .nil (fun _ _ h1 h2 => .cons h1 h2) h
theorem TD.same (s : Same H H') {v : V} {d : PyData} (h : TD K H v d) : TD K H' v d := h.tps (Tps.of s)
theorem TDs.same (s : Same H H') {vs : List V} {ds : List PyData} (h : TDs K H vs ds) : TDs K H' vs ds := h.tps (Tps.of s)
theorem TDs.len : ∀ {vs : List V} {ds : List PyData}, TDs K H vs ds → vs.length = ds.length
  | [], _, .nil => rfl
  | v :: vs, _, .cons h t => by rw [List.length_cons, List.length_cons, TDs.len t]
theorem TDs.get : ∀ {vs : List V} {ds : List PyData} {i : Nat} {d : PyData}, TDs K H vs ds → ds[i]? = some d → ∃ v, vs[i]? = some v ∧ TD K H v d
  | _, _, _, _, .nil, e => by simp at e
  | _, _, 0, _, .cons (v := v) h t, e => by
    cases e
    exact ⟨v, rfl, h⟩
  | _, _, i + 1, _, .cons h t, e => by
    obtain ⟨v, e2, q⟩ := TDs.get (i := i) t (by simpa using e)
    exact ⟨v, by simpa using e2, q⟩
theorem TDs.at {vs : List V} {ds : List PyData} {i : Nat} {v : V} (h : TDs K H vs ds) (e : vs[i]? = some v) : ∃ d, ds[i]? = some d ∧ TD K H v d ∧ ds.take (i + 1) = ds.take i ++ [d] ∧ i < ds.length := by
  have hi := (List.getElem?_eq_some_iff.mp e).1
  have hl := h.len
  have e2 : ds[i]? = some (ds[i]'(by omega)) := List.getElem?_eq_getElem (by omega)
  obtain ⟨v', e3, q⟩ := h.get e2
  rw [e] at e3
  cases e3
  exact ⟨_, e2, q, by rw [List.take_add_one, e2]; rfl, by omega⟩
theorem TDs.mem {vs : List V} {ds : List PyData} {v : V} (h : TDs K H vs ds) (hv : v ∈ vs) : ∃ d, d ∈ ds ∧ TD K H v d := by
  obtain ⟨i, hi⟩ := List.getElem?_of_mem hv
  obtain ⟨d, e, q, _⟩ := h.at hi
  exact ⟨d, List.mem_of_getElem? e, q⟩
theorem TDs.of : ∀ {vs : List V} {ds : List PyData}, vs.length = ds.length → (∀ (i : Nat) v d, vs[i]? = some v → ds[i]? = some d → TD K H v d) → TDs K H vs ds
  | [], [], _, _ => .nil
  | v :: vs, d :: ds, hl, h => .cons (h 0 v d rfl rfl) (TDs.of (by simpa using hl) fun i y e h1 h2 => h (i + 1) y e (by simpa using h1) (by simpa using h2))
theorem TDs.app : ∀ {vs us : List V} {ds es : List PyData}, TDs K H vs ds → TDs K H us es → TDs K H (vs ++ us) (ds ++ es)
  | _, _, _, _, .nil, h => h
  | _, _, _, _, .cons h t, q => .cons h (TDs.app t q)
theorem TDs.snoc {vs : List V} {ds : List PyData} {v : V} {d : PyData} (h : TDs K H vs ds) (q : TD K H v d) : TDs K H (vs ++ [v]) (ds ++ [d]) := h.app (.cons q .nil)
theorem TDs.map {α : Type} {f : α → V} {g : α → PyData} : ∀ {l : List α}, (∀ x ∈ l, TD K H (f x) (g x)) → TDs K H (l.map f) (l.map g)
  | [], _ => .nil
  | x :: r, h => .cons (h x List.mem_cons_self) (TDs.map fun y hy => h y (List.mem_cons_of_mem _ hy))
theorem TDs.ints (ns : List Int) : TDs K H (ns.map V.int) (ns.map PyData.int) := TDs.map fun x _ => .int x
theorem TD.ovO (o : Option Int) : TD K H (ovO o) (oD o) := by cases o <;> constructor
theorem TDs.ovs (os : List (Option Int)) : TDs K H (os.map Law.ovO) (os.map oD) := TDs.map fun x _ => TD.ovO x
theorem TD.tup_inv {v : V} {ds : List PyData} (h : TD K H v (.tuple ds)) : ∃ a xs, v = .ref a ∧ SqT K H a xs ∧ TDs K H xs ds := by
  cases h with
  | tup a b => exact ⟨_, _, rfl, a, b⟩
theorem TD.int_inv {v : V} {i : Int} (h : TD K H v (.int i)) : v = .int i := by cases h; rfl
theorem TD.non_inv {v : V} (h : TD K H v .none) : v = .non := by cases h; rfl
theorem TD.str_inv {v : V} {i : Str} (h : TD K H v (.str i)) : v = .str i := by cases h; rfl
theorem TD.bl_inv {v : V} {i : Bool} (h : TD K H v (.bool i)) : v = .bl i := by cases h; rfl
theorem TD.ov_inv {v : V} {o : Option Int} (h : TD K H v (oD o)) : v = Law.ovO o := by
  cases o with
  | none => exact h.non_inv
  | some z => exact h.int_inv
theorem TDs.ints_inv : ∀ {ns : List Int} {vs : List V}, TDs K H vs (ns.map PyData.int) → vs = ns.map V.int
  | [], _, h => by cases h; rfl
  | n :: ns, _, h => by
    cases h with
    | cons a b => rw [a.int_inv, TDs.ints_inv b]; rfl
theorem TDs.ovs_inv : ∀ {os : List (Option Int)} {vs : List V}, TDs K H vs (os.map oD) → vs = os.map Law.ovO
  | [], _, h => by cases h; rfl
  | n :: ns, _, h => by
    cases h with
    | cons a b => rw [a.ov_inv, TDs.ovs_inv b]; rfl
theorem TD.pair_inv {v : V} {p : Int × Int} (h : TD K H v (pD p)) : ∃ a, v = .ref a ∧ SqT K H a [.int p.1, .int p.2] := by
  obtain ⟨a, xs, e, s, q⟩ := h.tup_inv
  rw [TDs.ints_inv (ns := [p.1, p.2]) q] at s
  exact ⟨a, e, s⟩
theorem TD.of {a : Addr} {xs : List V} {ds : List PyData} (h : H a = some (.tup xs)) (q : TDs K H xs ds) : TD K H (.ref a) (.tuple ds) := .tup (SqT.of h) q
/-- a new tuple of data -/
theorem TD.new {a : Addr} {xs : List V} {ds : List PyData} (h : H a = none) (q : TDs K H xs ds) : TD K (upd H a (.tup xs)) (.ref a) (.tuple ds) := .of upd_same (q.same (same_new h))
/-- a list of data -/
def LD (K : PySem.W.Frag) (H : Hp) (a : Addr) (ds : List PyData) : Prop := ∃ vs, H a = some (.lst vs) ∧ TDs K H vs ds
theorem LD.same (s : Same H H') {a : Addr} {ds : List PyData} (h : LD K H a ds) : LD K H' a ds := by
  obtain ⟨vs, e, q⟩ := h
  exact ⟨vs, s _ _ e, q.same s⟩
theorem LD.kp {p a : Addr} {xs : List V} {ds : List PyData} (h : LD K H a ds) (k : Kp p H H') (hp : H p = some (.lst xs)) (n : a ≠ p) : LD K H' a ds := by
  obtain ⟨vs, e, q⟩ := h
  exact ⟨vs, k _ _ e n, q.tps (k.tps hp)⟩
theorem LD.put {a : Addr} {xs vs : List V} {ds : List PyData} (h : H a = some (.lst xs)) (q : TDs K H vs ds) : LD K (upd H a (.lst vs)) a ds := ⟨vs, upd_same, q.tps (tps_put h)⟩
theorem LD.new {a : Addr} {vs : List V} {ds : List PyData} (h : H a = none) (q : TDs K H vs ds) : LD K (upd H a (.lst vs)) a ds := ⟨vs, upd_same, q.same (same_new h)⟩
theorem LD.snoc {a : Addr} {vs : List V} {v : V} {d : PyData} {ds : List PyData} (h : H a = some (.lst vs)) (q : TDs K H vs ds) (x : TD K H v d) : LD K (upd H a (.lst (vs ++ [v]))) a (ds ++ [d]) := .put h (q.snoc x)
variable {σ : L2.St} {Q : VK}
theorem i_tyLD {p : Addr} {ds : List PyData} {R : Prop} (s : LD K H p ds) (q : R) : tyV K "list" (.ref p) H ∧ R := by
  obtain ⟨vs, e, _⟩ := s
  exact i_tyL (SqL.of e) q
theorem i_lenLD {p : Addr} {ds : List PyData} (s : LD K H p ds) (q : Q (.int ds.length) H) : qLen K [.ref p] H Q := by
  obtain ⟨vs, e, t⟩ := s
  rw [← t.len] at q
  exact i_lenL (SqL.of e) q
theorem i_ixD {p : V} {ds : List PyData} {i : Int} {d : PyData} (h : TD K H p (.tuple ds)) (h0 : 0 ≤ i) (e : ds[i.toNat]? = some d) (q : ∀ y, TD K H y d → Q y H) : rIxT K p (.int i) H Q := by
  obtain ⟨a, xs, rfl, s, t⟩ := h.tup_inv
  obtain ⟨y, ey, hy⟩ := t.get e
  refine ⟨a, xs, i, y, rfl, rfl, s, ?_, q y hy⟩
  have := atI_nat (xs := xs) (j := i.toNat) (v := y) ey
  rw [Int.toNat_of_nonneg h0] at this
  exact this
theorem i_ixDI {p : V} {ds : List PyData} {i j : Int} (h : TD K H p (.tuple ds)) (h0 : 0 ≤ i) (e : ds[i.toNat]? = some (.int j)) (q : Q (.int j) H) : rIxT K p (.int i) H Q :=
  i_ixD h h0 e fun y hy => by rw [hy.int_inv]; exact q
theorem i_ixDO {p : V} {ds : List PyData} {i : Int} {o : Option Int} (h : TD K H p (.tuple ds)) (h0 : 0 ≤ i) (e : ds[i.toNat]? = some (oD o)) (q : Q (ovO o) H) : rIxT K p (.int i) H Q :=
  i_ixD h h0 e fun y hy => by rw [hy.ov_inv]; exact q
theorem i_ixDS {p : V} {ds : List PyData} {i : Int} {j : Str} (h : TD K H p (.tuple ds)) (h0 : 0 ≤ i) (e : ds[i.toNat]? = some (.str j)) (q : Q (.str j) H) : rIxT K p (.int i) H Q :=
  i_ixD h h0 e fun y hy => by rw [hy.str_inv]; exact q
theorem i_lenDt {p : V} {ds : List PyData} (h : TD K H p (.tuple ds)) (q : Q (.int ds.length) H) : qLen K [p] H Q := by
  obtain ⟨a, xs, rfl, s, t⟩ := h.tup_inv
  rw [← t.len] at q
  exact i_lenT s q
theorem i_gTupD {n : Nat} {t : TGs} {v : V} {ds : List PyData} {R : L2.St → Hp → Prop} (h : TD K H v (.tuple ds)) (e : ds.length = n) (q : ∀ xs, TDs K H xs ds → t xs σ H R) : gTup K n t v σ H R := by
  obtain ⟨a, xs, rfl, s, u⟩ := h.tup_inv
  exact i_gTup s (by rw [u.len, e]) (q xs u)
theorem i_gPair {n : Nat} {t : TGs} {v : V} {p : Int × Int} {R : L2.St → Hp → Prop} (h : TD K H v (pD p)) (e : 2 = n) (q : t [.int p.1, .int p.2] σ H R) : gTup K n t v σ H R := by
  obtain ⟨a, rfl, s⟩ := h.pair_inv
  exact i_gTup s e q
theorem i_isTD {v : V} {ds : List PyData} {R : Addr → Prop} (h : TD K H v (.tuple ds)) (q : ∀ a xs, v = .ref a → SqT K H a xs → TDs K H xs ds → R a) : ∃ a', v = .ref a' ∧ (∃ xs, SqT K H a' xs) ∧ R a' := by
  obtain ⟨a, xs, e, s, t⟩ := h.tup_inv
  exact ⟨a, e, ⟨xs, s⟩, q a xs e s t⟩
theorem i_lstTD {v : V} {ds : List PyData} (h : TD K H v (.tuple ds)) (q : ∀ xs l, TDs K H xs ds → H l = none → Q (.ref l) (upd H l (.lst xs))) : rLstOf K [v] H Q := by
  obtain ⟨a, xs, rfl, s, t⟩ := h.tup_inv
  exact i_lstT s fun l hl => q xs l t hl
theorem i_tupTD {v : V} {ds : List PyData} (h : TD K H v (.tuple ds)) (q : Q v H) : rTupOf K [v] H Q := by
  obtain ⟨a, xs, rfl, s, t⟩ := h.tup_inv
  exact i_tupT s q
theorem TDs.pair_at {vs : List V} {ps : List (Int × Int)} {i : Nat} {v : V} (h : TDs K H vs (ps.map pD)) (e : vs[i]? = some v) : ∃ p, ps[i]? = some p ∧ TD K H v (pD p) ∧ ps.take (i + 1) = ps.take i ++ [p] ∧ i < ps.length := by
  obtain ⟨d, e1, t, _, hl⟩ := h.at e
  rw [List.getElem?_map] at e1
  cases e2 : ps[i]? with
  | none => rw [e2] at e1; cases e1
  | some p =>
    rw [e2] at e1
    cases e1
    exact ⟨p, rfl, t, by rw [List.take_add_one, e2]; rfl, (List.getElem?_eq_some_iff.mp e2).1⟩
theorem i_eqNI {j : Int} (q : Q (.bl false) H) : rEq .non (.int j) H Q := ⟨rfl, by
  have e : decide (V.non = V.int j) = false := by simp
  rw [e]; exact q⟩
/-! shapes -/
theorem Shp.str {x : Str} (h : PyData.canLay0 (.str x) = true) : Shp 0 (.str x) := ⟨h, by simp [PyData.depth]⟩
theorem Shp.oD (o : Option Int) : Shp 0 (oD o) := by
  cases o with
  | none => exact Shp.non
  | some z => exact Shp.int z
theorem Shp.ovs (os : List (Option Int)) : Shp 1 (.tuple (os.map Law.oD)) := Shp.tup fun d hd => by
  obtain ⟨x, _, rfl⟩ := List.mem_map.mp hd
  exact Shp.oD x
theorem Shp.pD (p : Int × Int) : Shp 1 (pD p) := Shp.tup fun d hd => by
  rcases List.mem_cons.mp hd with rfl | hd
  · exact Shp.int _
  · rcases List.mem_cons.mp hd with rfl | hd
    · exact Shp.int _
    · cases hd
theorem Shp.prs (ps : List (Int × Int)) : Shp 2 (.tuple (ps.map Law.pD)) := Shp.tup fun d hd => by
  obtain ⟨x, _, rfl⟩ := List.mem_map.mp hd
  exact Shp.pD x
/-! dicts with text keys -/
theorem i_disp {trs : List (TE × TE)} (h : ∀ p, H p = none → tPairs trs σ (upd H p (.dK [])) fun ps H2 => H2 p = some (.dK []) ∧ ∃ kvs : List (L2.Key × V), ps = kvs.map (fun kv => (kV kv.1, kv.2)) ∧ kvs.length ≤ 15 ∧ Q (.ref p) (upd H2 p (.dK (mergeK [] kvs)))) : tDisp trs σ H Q := h
theorem i_pNil {R : List (V × V) → Hp → Prop} (h : R [] H) : tPairs [] σ H R := h
theorem i_pCons {tk tv : TE} {r : List (TE × TE)} {R : List (V × V) → Hp → Prop} (h : tk σ H fun x H1 => tv σ H1 fun y H2 => tPairs r σ H2 fun ps H3 => R ((x, y) :: ps) H3) : tPairs ((tk, tv) :: r) σ H R := h
theorem i_dgetS {p : Addr} {i : Str} {v : V} {kvs : List (L2.Key × V)} {R : V → Prop} (h : Rd H p (.dK kvs)) (e : valV kvs (.inr i) = some v) (q : R v) : ∃ a v', V.ref p = .ref a ∧ DGet H a (.str i) (some v') ∧ R v' :=
  ⟨p, v, rfl, .inl ⟨kvs, .inr i, h, rfl, e.symm⟩, q⟩
end
/- data at the heap of the goal -/
local macro_rules | `(tactic| wtm_at "jtd") => `(tactic| first | assumption | ((with_reducible refine' TD.same (same_new ?hn) ?hh); (case hn => assumption); (case hh => wtm_at "jtd")))
local macro_rules | `(tactic| wtm_at "jw1") => `(tactic| first
  | ((with_reducible refine' i_ixDI ?h ?h0 ?e ?_); (case h => wtm_at "jtd"); (case h0 => wtm_at "jside"); (case e => wtm_at "jat"))
  | ((with_reducible refine' i_ixDO ?h ?h0 ?e ?_); (case h => wtm_at "jtd"); (case h0 => wtm_at "jside"); (case e => wtm_at "jat"))
  | ((with_reducible refine' i_ixDS ?h ?h0 ?e ?_); (case h => wtm_at "jtd"); (case h0 => wtm_at "jside"); (case e => wtm_at "jat"))
  | ((with_reducible refine' i_ix2 (i_ixDI ?h ?h0 ?e ?_)); (case h => wtm_at "jtd"); (case h0 => wtm_at "jside"); (case e => wtm_at "jat"))
  | ((with_reducible refine' i_ix2 (i_ixDO ?h ?h0 ?e ?_)); (case h => wtm_at "jtd"); (case h0 => wtm_at "jside"); (case e => wtm_at "jat"))
  | ((with_reducible refine' i_ixD ?h ?h0 ?e ?_); (case h => wtm_at "jtd"); (case h0 => wtm_at "jside"); (case e => wtm_at "jat"); intro _ _)
  | ((with_reducible refine' i_ix2 (i_ixD ?h ?h0 ?e ?_)); (case h => wtm_at "jtd"); (case h0 => wtm_at "jside"); (case e => wtm_at "jat"); intro _ _)
  | ((with_reducible refine' i_lenDt ?h ?_); (case h => wtm_at "jtd"))
  | with_reducible refine' i_eqNI ?_
  | ((with_reducible refine' i_tyLD ?h ?_); (case h => assumption))
  | ((with_reducible refine' i_lenLD ?h ?_); (case h => assumption))
  | ((with_reducible refine' i_gPair ?h ?e ?_); (case h => wtm_at "jtd"); (case e => rfl))
  | with_reducible refine' i_pNil ?_ | with_reducible refine' i_pCons ?_)

/-! ### draws and picks, said shortly -/
section
variable {K : PySem.W.Frag} {p a B : Addr} {H0 H : Hp} {Q : VK} {E : XK}
theorem drawL {m : Int} (w : Drew p a H0 H) (h0 : 0 < m) (h1 : m < 18446744073709551616) (q : ∀ z H', 0 ≤ z → z < m → Drew p a H H' → Drew p a H0 H' → Q (.int z) H') : sp__law_draw K [.ref p, .int m] H Q E :=
  ⟨p, a, m, rfl, w.at_, h0, h1, fun z H' z0 z1 e => q z H' z0 z1 e (w.trans e)⟩
theorem pickL {xs : List V} (P : Int → Prop) (ns : List Int) (w : Drew p a H0 H) (hB : H B = none) (e : xs = ns.map V.int) (h0 : 0 < ns.length) (h1 : ns.length < 1000) (hP : ∀ z ∈ ns, P z)
    (q : ∀ z H', P z → Drew p a H H' → Drew p a H0 H' → Q (.int z) H') : sp__law_pick K [.ref p, .ref B] (upd H B (.lst xs)) Q E := by
  subst e
  refine ⟨p, a, B, ns.map V.int, rfl, w.at_.same (same_new hB), .inl ⟨w.at_.ne_none hB, SqL.of upd_same⟩, by rw [List.length_map]; exact h0, by rw [List.length_map]; omega, fun x H' hx e => ?_⟩
  obtain ⟨z, hz, rfl⟩ := List.mem_map.mp hx
  have e1 := (w.at_.drew.new (o := .lst (ns.map V.int)) hB).trans e
  exact q z H' (hP z hz) e1 (w.trans e1)
theorem pickV {xs : List V} (w : Drew p a H0 H) (hB : H B = none) (h0 : 0 < xs.length) (h1 : xs.length < 1000) (q : ∀ x H', x ∈ xs → Drew p a H H' → Drew p a H0 H' → Q x H') : sp__law_pick K [.ref p, .ref B] (upd H B (.lst xs)) Q E := by
  refine ⟨p, a, B, xs, rfl, w.at_.same (same_new hB), .inl ⟨w.at_.ne_none hB, SqL.of upd_same⟩, h0, by omega, fun x H' hx e => ?_⟩
  have e1 := (w.at_.drew.new (o := .lst xs) hB).trans e
  exact q x H' hx e1 (w.trans e1)
/-- a pick out of a list that stands -/
theorem pickS {xs : List V} (w : Drew p a H0 H) (hB : H B = some (.lst xs)) (n : B ≠ p) (h0 : 0 < xs.length) (h1 : xs.length < 1000000) (q : ∀ x H', x ∈ xs → Drew p a H H' → Drew p a H0 H' → Q x H') : sp__law_pick K [.ref p, .ref B] H Q E :=
  ⟨p, a, B, xs, rfl, w.at_, .inl ⟨n, SqL.of hB⟩, h0, by omega, fun x H' hx e => q x H' hx e (w.trans e)⟩
theorem pickT {xs : List V} (w : Drew p a H0 H) (hB : SqT K H B xs) (h0 : 0 < xs.length) (h1 : xs.length < 1000000) (q : ∀ x H', x ∈ xs → Drew p a H H' → Drew p a H0 H' → Q x H') : sp__law_pick K [.ref p, .ref B] H Q E :=
  ⟨p, a, B, xs, rfl, w.at_, .inr hB, h0, by omega, fun x H' hx e => q x H' hx e (w.trans e)⟩
end
theorem LD.drew {K : PySem.W.Frag} {p a f : Addr} {H H' : Hp} {ds : List PyData} (h : LD K H f ds) (d : DrawAt H p a) (e : Drew p a H H') (n : f ≠ p) : LD K H' f ds := by
  obtain ⟨xs, hp⟩ := d.some
  exact h.kp e.kp hp n
theorem LPr.drew {p a f : Addr} {H H' : Hp} {fo : List (Int × Int)} (h : LPr H f fo) (d : DrawAt H p a) (e : Drew p a H H') (n : f ≠ p) : LPr H' f fo := by
  obtain ⟨xs, hp⟩ := d.some
  exact h.kp e.kp hp n
/-- a pure choice of two -/
theorem i_ifP {σ : L2.St} {H : Hp} {Q : VK} {c : TT} {ta tb : TE} (P : V → Prop) (hc : ∀ R : Bool → Hp → Prop, (∀ b, R b H) → c σ H R) (ha : ∀ R : VK, (∀ v, P v → R v H) → ta σ H R) (hb : ∀ R : VK, (∀ v, P v → R v H) → tb σ H R) (q : ∀ v, P v → Q v H) : tIf c ta tb σ H Q :=
  hc _ fun b => by
    cases b
    · exact hb _ q
    · exact ha _ q
theorem all_two {P : Int → Prop} {x y : Int} (h1 : P x) (h2 : P y) : ∀ z ∈ [x, y], P z := by simp; exact ⟨h1, h2⟩

theorem i_andTJ {t u : TT} {σ : L2.St} {H : Hp} {Q : Bool → Hp → Prop} (J : Bool → Hp → Prop) (h1 : ∀ b H', J b H' → Q b H') (h2 : ∀ R : Bool → Hp → Prop, (∀ b H', J b H' → R b H') → tAnd t u σ H R) : tAnd t u σ H Q := h2 _ h1
/-- what is wanted of each place -/
def AllI {α : Type} (P : Nat → α → Prop) (l : List α) : Prop := ∀ i x, l[i]? = some x → P i x
/-- an if-expression that draws, told once behind it -/
theorem i_ifJ {σ : L2.St} {H : Hp} {Q : VK} {c : TT} {ta tb : TE} (J : V → Hp → Prop) (h1 : ∀ v H', J v H' → Q v H') (h2 : ∀ R : VK, (∀ v H', J v H' → R v H') → tIf c ta tb σ H R) : tIf c ta tb σ H Q := h2 _ h1
local macro_rules | `(tactic| wtm_at "jif") => `(tactic| repeat ((fail_if_success (with_reducible refine' i_if ?_)); wtm_at "jw1"))
theorem AllI.nil {α : Type} {P : Nat → α → Prop} : AllI P ([] : List α) := fun i x h => by simp at h
theorem AllI.snoc {α : Type} {P : Nat → α → Prop} {l : List α} {x : α} (h : AllI P l) (hx : P l.length x) : AllI P (l ++ [x]) := fun i y hy => by
  by_cases hi : i < l.length
  · rw [List.getElem?_append_left hi] at hy
    exact h i y hy
  · rw [List.getElem?_append_right (by omega)] at hy
    cases e : i - l.length with
    | zero =>
      rw [e] at hy
      cases hy
      obtain rfl : i = l.length := by omega
      exact hx
    | succ n =>
      rw [e] at hy
      cases hy

theorem sqT_ty {K : PySem.W.Frag} {H : Hp} {a : Addr} {xs : List V} (h : SqT K H a xs) : TyX K H (.ref a) (.type "tuple") := by
  rcases h with (h | ⟨o, h⟩) | ⟨o, vs, c, e, h1, _⟩
  · exact .base (.tup h)
  · exact .fTuple h
  · exact .kTuple e h1
theorem TD.ty {K : PySem.W.Frag} {H : Hp} {v : V} {ds : List PyData} (h : TD K H v (.tuple ds)) : TyX K H v (.type "tuple") := by
  obtain ⟨a, xs, rfl, s, _⟩ := h.tup_inv
  exact sqT_ty s
theorem i_isiT {K : PySem.W.Frag} {H : Hp} {Q : VK} {v : V} {ds : List PyData} {n : String} {b : Bool} (h : TD K H v (.tuple ds)) (e : PySem.W.kitOne K (.type "tuple") (.type n) = some b) (q : Q (.bl b) H) : rIsi K [v, .ty n] H Q := i_isi h.ty e q
theorem all_id_true (n : Nat) : (List.replicate n true).all id = true := by
  rw [List.all_replicate]; simp
def sp__law_is_ints (K : PySem.W.Frag) : Sp := fun vs H Q _ => ∃ (x : V) (ns : List Int), vs = [x] ∧ TD K H x (.tuple (ns.map PyData.int)) ∧ ns.length ≤ 1000000 ∧ ∀ H', Same H H' → Q (.bl true) H'
theorem ok__law_is_ints {P : Program} {w : World} {K : PySem.W.Frag} {mg : Str → Option Value} {base : Heap} {C_NotEnough : Addr} {C_PlayError : Addr} {C_BadCut : Addr} {C_BadPaper : Addr} {C_BadSession : Addr} {C_BadText : Addr} {C_BadWorld : Addr} {C_NoState : Addr} {C_NotFitting : Addr} {C_TooLarge : Addr} {f : Addr} {fd : FuncData} (F : Df K mg "_law_is_ints" s__law_is_ints f fd ["row"]) (T : Txt K mg C_NotEnough C_PlayError C_BadCut C_BadPaper C_BadSession C_BadText C_BadWorld C_NoState C_NotFitting C_TooLarge)
    (c__law_is_int : Cl P w K mg base 1 "_law_is_int" (sp__law_is_int K)) : FnOk P w K mg base CX0 2 f fd ["row"] (sp__law_is_ints K) := by
  refine F.ok sc__law_is_ints (fun vs H Q E h => ?_) (fun cdv A outer s H vs Q E hr h => ?_)
  · obtain ⟨x, ns, rfl, _⟩ := h
    rfl
  · obtain ⟨x, ns, rfl, hx, hl, k⟩ := h
    refine ⟨_, (pss_one (ps_ret (pe_and (pe_callB (id := "isinstance") (r := rIsi K) call_isi (by rfl) T.b_isinstance (by decide +kernel) (pa_cons (pv 0) (pa_cons (pe_bltn (v := .ty "tuple") (u := Value.type "tuple") (by rfl) T.b_tuple (by decide +kernel) rfl) pa_nil))) (pe_one (pe_callB (id := "all") (r := rAll K) (cr_all rfl) (by rfl) T.b_all (by decide +kernel) (pa_cons (pe_lc (own := [("part", 1)]) (g := gName 1) (tt := tYes) rfl sc__law_is_ints.nd (pi_tup (pv 0)) (blkOk_by (own := [("part", 1)]) (N := N__law_is_ints) (sc := defScope s__law_is_ints) (by decide +kernel)) (fun _ _ _ _ _ => (pg_name (i := 1) sc__law_is_ints.nd rfl (Or.inl rfl))) (fun _ _ _ _ _ => pts_nil) (fun _ _ _ _ _ => (pe_cl c__law_is_int hr (by decide) rfl (pa_cons (pv 1) pa_nil)))) pa_nil)))))), ?_⟩
    try dsimp only [cxOf, Cx.nox, Cx.wish]
    refine st_of (σ' := [some _, none]) rfl ?_
    wtm_at "jw"
    refine i_isiT hx rfl ?_
    obtain ⟨a, xs, rfl, hS, hT⟩ := hx.tup_inv
    rw [hT.ints_inv] at hS
    wtm_at "jw"
    intro D hD
    refine l_tupP (xs := ns.map V.int) (fun _ => V.bl true) hD (by rw [List.length_map]; exact hl) hS (fun i x H' R hi s hR => ?_) (fun H' s hD' => ?_)
    · obtain ⟨z, rfl, _⟩ := ints_at hi
      wtm_at "jw"
      refine ⟨rfl, ?_⟩
      wtm_at "jw"
      refine ⟨z, rfl, ?_⟩
      exact hR
    · wtm_at "jw"
      refine ⟨D, List.replicate (ns.map V.int).length true, rfl, SqL.of ?_, ?_⟩
      · rw [hD', List.map_replicate, List.map_const', List.length_range]
      · rw [all_id_true]
        exact k _ s

theorem inV_ints (z : Int) (ns : List Int) : inV (.int z) (ns.map V.int) = decide (z ∈ ns) := by
  unfold inV
  rw [List.any_map, Bool.eq_iff_iff, List.any_eq_true, decide_eq_true_eq]
  constructor
  · rintro ⟨y, hy, e⟩
    have : y = z := by simpa [eqV] using e
    exact this ▸ hy
  · intro h
    exact ⟨z, h, by simp [eqV]⟩
theorem flat_ints (ns : List Int) : (ns.map V.int).all flatV = true := by
  rw [List.all_map, List.all_eq_true]
  intro x _
  rfl
section
variable {K : PySem.W.Frag} {H : Hp} {Q : VK} {p : Addr} {z : Int} {ns : List Int}
theorem i_inT (h : SqT K H p (ns.map V.int)) (q : Q (.bl (decide (z ∈ ns))) H) : rIn K false (.int z) (.ref p) H Q := ⟨p, _, rfl, .inr h, rfl, flat_ints ns, by rw [inV_ints]; exact q⟩
theorem i_inL (h : SqL K H p (ns.map V.int)) (q : Q (.bl (decide (z ∈ ns))) H) : rIn K false (.int z) (.ref p) H Q := ⟨p, _, rfl, .inl h, rfl, flat_ints ns, by rw [inV_ints]; exact q⟩
theorem i_ninT (h : SqT K H p (ns.map V.int)) (q : Q (.bl (!decide (z ∈ ns))) H) : rIn K true (.int z) (.ref p) H Q := ⟨p, _, rfl, .inr h, rfl, flat_ints ns, by rw [inV_ints]; exact q⟩
theorem i_ninL (h : SqL K H p (ns.map V.int)) (q : Q (.bl (!decide (z ∈ ns))) H) : rIn K true (.int z) (.ref p) H Q := ⟨p, _, rfl, .inl h, rfl, flat_ints ns, by rw [inV_ints]; exact q⟩
end

theorem i_gLst {K : PySem.W.Frag} {σ : L2.St} {H : Hp} {n : Nat} {t : TGs} {a : Addr} {xs : List V} {Q : L2.St → Hp → Prop} (h : SqL K H a xs) (e : xs.length = n) (q : t xs σ H Q) : gLst K n t (.ref a) σ H Q := ⟨a, xs, rfl, h, e, q⟩
def sp_power (K : PySem.W.Frag) : Sp := fun vs H Q _ => ∃ (x : Int), vs = [.int x, .int 65535] ∧ Q (.int (vF (pw (phi x) 65535))) H
theorem pw_step {f b : M55.F} {n : Nat} : f * pw b (n + 1) = f * b * pw b n := by
  show f * (pw b n * b) = _
  exact M55.r_2 (R := M55.F) _ _ _
theorem ok_power {P : Program} {w : World} {K : PySem.W.Frag} {mg : Str → Option Value} {base : Heap} {C_NotEnough : Addr} {C_PlayError : Addr} {C_BadCut : Addr} {C_BadPaper : Addr} {C_BadSession : Addr} {C_BadText : Addr} {C_BadWorld : Addr} {C_NoState : Addr} {C_NotFitting : Addr} {C_TooLarge : Addr} {f : Addr} {fd : FuncData} (F : Df K mg "power" s_power f fd ["number", "exponent"]) (T : Txt K mg C_NotEnough C_PlayError C_BadCut C_BadPaper C_BadSession C_BadText C_BadWorld C_NoState C_NotFitting C_TooLarge) : FnOk P w K mg base CX0 1 f fd ["number", "exponent"] (sp_power K) := by
  refine F.ok sc_power (fun vs H Q E h => ?_) (fun cdv A outer s H vs Q E hr h => ?_)
  · obtain ⟨x, rfl, _⟩ := h
    rfl
  · obtain ⟨x, rfl, q⟩ := h
    refine ⟨_, (pss_cons (ps_set (i := 2) sc_power.nd rfl (Or.inl rfl) pe_int)
      (pss_cons (ps_set (i := 3) sc_power.nd rfl (Or.inl rfl) (pe_op op_mod (pv 0) (pe_cn rfl T.c_MODULUS)))
      (pss_cons (ps_set (i := 4) sc_power.nd rfl (Or.inl rfl) (pv 1))
      (pss_cons (ps_while PassesOwn.never (pt_cmpR op_gt (pv 4) pe_int (nomark _)) (pss_cons (ps_if (pt_cmpR op_eq (pe_op op_mod (pv 4) pe_int) pe_int (nomark _)) (pss_one (ps_set (i := 2) sc_power.nd rfl (Or.inl rfl) (pe_op op_mod (pe_op op_mul (pv 2) (pv 3)) (pe_cn rfl T.c_MODULUS)))) pss_nil)
      (pss_cons (ps_set (i := 3) sc_power.nd rfl (Or.inl rfl) (pe_op op_mod (pe_op op_mul (pv 3) (pv 3)) (pe_cn rfl T.c_MODULUS)))
      (pss_one (ps_set (i := 4) sc_power.nd rfl (Or.inl rfl) (pe_op op_fdiv (pv 4) pe_int))))))
      (pss_one (ps_ret (pv 2))))))), ?_⟩
    try dsimp only [cxOf, Cx.nox, Cx.wish]
    refine st_of (σ' := [some _, some _, none, none, none]) rfl ?_
    wtm_at "jw"
    refine i_while (fun m σ H' => H' = H ∧ ∃ f b : Int, ∃ r : Nat, σ = [some (.int x), some (.int 65535), some (.int f), some (.int b), some (.int (r : Int))] ∧ 0 ≤ f ∧ f < 65537 ∧ 0 ≤ b ∧ b < 65537 ∧ phi f * pw (phi b) r = pw (phi x) 65535 ∧ m = r)
      ⟨65535, rfl, 1, x % 65537, 65535, rfl, by decide, by decide, Int.emod_nonneg _ (by decide), Int.emod_lt_of_pos _ (by decide), by rw [M55.phi_one, M55.r_3, M55.phi_mod], rfl⟩ (fun m σ H' h => ?_)
    obtain ⟨rfl, f, b, r, rfl, f0, f1, b0, b1, hp, rfl⟩ := h
    wtm_at "jw"
    refine c_dec (fun hlt => ?_) (fun hge => ?_)
    · refine ⟨fun σ' H'' => H'' = H' ∧ ∃ f b : Int, ∃ r' : Nat, σ' = [some (.int x), some (.int 65535), some (.int f), some (.int b), some (.int (r' : Int))] ∧ 0 ≤ f ∧ f < 65537 ∧ 0 ≤ b ∧ b < 65537 ∧ phi f * pw (phi b) r' = pw (phi x) 65535 ∧ r' < m, fun σ' H'' h => ?_, ?_⟩
      · obtain ⟨rfl, f, b, r', rfl, h1, h2, h3, h4, h5, h6⟩ := h
        exact ⟨r', h6, rfl, f, b, r', rfl, h1, h2, h3, h4, h5, rfl⟩
      · wtm_at "jw"
        have e2 : (m : Int) / 2 = ((m / 2 : Nat) : Int) := by omega
        refine c_dec (fun h1 => ?_) (fun h1 => ?_)
        · wtm_at "jw"
          refine ⟨rfl, _, _, m / 2, by rw [← e2], Int.emod_nonneg _ (by decide), Int.emod_lt_of_pos _ (by decide), Int.emod_nonneg _ (by decide), Int.emod_lt_of_pos _ (by decide), ?_, by omega⟩
          rw [M55.phi_mod, M55.phi_mod, M55.phi_mul, M55.phi_mul, ← M55.pw_dbl, ← pw_step]
          rw [show 2 * (m / 2) + 1 = m from by omega]
          exact hp
        · wtm_at "jw"
          refine ⟨rfl, _, _, m / 2, by rw [← e2], f0, f1, Int.emod_nonneg _ (by decide), Int.emod_lt_of_pos _ (by decide), ?_, by omega⟩
          rw [M55.phi_mod, M55.phi_mul, ← M55.pw_dbl, show 2 * (m / 2) = m from by omega]
          exact hp
    · wtm_at "jw"
      obtain rfl : m = 0 := by omega
      have e : phi f = pw (phi x) 65535 := by
        rw [← hp]
        exact (M55.r_5 (R := M55.F) _).symm
      rw [M55.eq_vF f0 f1 e]
      exact q
def sp_quotient (K : PySem.W.Frag) : Sp := fun vs H Q _ => ∃ (n d : Int), vs = [.int n, .int d] ∧ -1000000 ≤ n ∧ n ≤ 1000000 ∧ Q (.int (vF (phi n * inv (phi d)))) H
theorem ok_quotient {P : Program} {w : World} {K : PySem.W.Frag} {mg : Str → Option Value} {base : Heap} {C_NotEnough : Addr} {C_PlayError : Addr} {C_BadCut : Addr} {C_BadPaper : Addr} {C_BadSession : Addr} {C_BadText : Addr} {C_BadWorld : Addr} {C_NoState : Addr} {C_NotFitting : Addr} {C_TooLarge : Addr} {f : Addr} {fd : FuncData} (F : Df K mg "quotient" s_quotient f fd ["number", "divisor"]) (T : Txt K mg C_NotEnough C_PlayError C_BadCut C_BadPaper C_BadSession C_BadText C_BadWorld C_NoState C_NotFitting C_TooLarge)
    (c_power : Cl P w K mg base 1 "power" (sp_power K)) : FnOk P w K mg base CX0 2 f fd ["number", "divisor"] (sp_quotient K) := by
  refine F.ok sc_quotient (fun vs H Q E h => ?_) (fun cdv A outer s H vs Q E hr h => ?_)
  · obtain ⟨n, d, rfl, _⟩ := h
    rfl
  · obtain ⟨n, d, rfl, h0, h1, q⟩ := h
    refine ⟨_, (pss_one (ps_ret (pe_op op_mod (pe_op op_mul (pv 0) (pe_cl c_power hr (by decide) rfl (pa_cons (pv 1) (pa_cons (pe_op op_sub (pe_cn rfl T.c_MODULUS) pe_int) pa_nil)))) (pe_cn rfl T.c_MODULUS)))), ?_⟩
    try dsimp only [cxOf, Cx.nox, Cx.wish]
    refine st_of (σ' := [some _, some _]) rfl ?_
    wtm_at "jw"
    refine ⟨d, rfl, ?_⟩
    have b0 := M55.vF_lo (pw (phi d) 65535)
    have b1 := M55.vF_hi (pw (phi d) 65535)
    wtm_at "jw"
    rw [M55.mod_vF, M55.phi_mul, M55.phi_vF]
    exact q
def prI (x v : Int) : List V := [.int x, .int v]
def sp_curve (K : PySem.W.Frag) : Sp := fun vs H Q _ => ∃ (L t1 t2 t3 : Addr) (x1 v1 x2 v2 x3 v3 : Int), vs = [.ref L] ∧ SqL K H L [.ref t1, .ref t2, .ref t3] ∧ SqT K H t1 [.int x1, .int v1] ∧ SqT K H t2 [.int x2, .int v2] ∧ SqT K H t3 [.int x3, .int v3] ∧
  (0 ≤ x1 ∧ x1 < 100000) ∧ (0 ≤ x2 ∧ x2 < 100000) ∧ (0 ≤ x3 ∧ x3 < 100000) ∧ (0 ≤ v1 ∧ v1 < 65537) ∧ (0 ≤ v2 ∧ v2 < 65537) ∧ (0 ≤ v3 ∧ v3 < 65537) ∧
  ∀ r, H r = none → Q (.ref r) (upd H r (.lst [.int (vF (M55.baseF (phi x1) (phi v1) (phi x2) (phi v2) (phi x3) (phi v3))), .int (vF (M55.leanF (phi x1) (phi v1) (phi x2) (phi v2) (phi x3) (phi v3))), .int (vF (M55.bendF (phi x1) (phi v1) (phi x2) (phi v2) (phi x3) (phi v3)))]))
theorem ok_curve {P : Program} {w : World} {K : PySem.W.Frag} {mg : Str → Option Value} {base : Heap} {C_NotEnough : Addr} {C_PlayError : Addr} {C_BadCut : Addr} {C_BadPaper : Addr} {C_BadSession : Addr} {C_BadText : Addr} {C_BadWorld : Addr} {C_NoState : Addr} {C_NotFitting : Addr} {C_TooLarge : Addr} {f : Addr} {fd : FuncData} (F : Df K mg "curve" s_curve f fd ["points"]) (T : Txt K mg C_NotEnough C_PlayError C_BadCut C_BadPaper C_BadSession C_BadText C_BadWorld C_NoState C_NotFitting C_TooLarge)
    (c_quotient : Cl P w K mg base 2 "quotient" (sp_quotient K)) : FnOk P w K mg base CX0 3 f fd ["points"] (sp_curve K) := by
  refine F.ok sc_curve (fun vs H Q E h => ?_) (fun cdv A outer s H vs Q E hr h => ?_)
  · obtain ⟨L, t1, t2, t3, x1, v1, x2, v2, x3, v3, rfl, _⟩ := h
    rfl
  · obtain ⟨L, t1, t2, t3, x1, v1, x2, v2, x3, v3, rfl, hL, h1, h2, h3, ⟨a1, b1⟩, ⟨a2, b2⟩, ⟨a3, b3⟩, ⟨c1, d1⟩, ⟨c2, d2⟩, ⟨c3, d3⟩, q⟩ := h
    refine ⟨_, (pss_cons (ps_asg (pv 0) (pg_lst rfl (pgs_cons (pg_name (i := 1) sc_curve.nd rfl (Or.inl rfl)) (pgs_cons (pg_name (i := 2) sc_curve.nd rfl (Or.inl rfl)) (pgs_cons (pg_name (i := 3) sc_curve.nd rfl (Or.inl rfl)) pgs_nil)))))
      (pss_cons (ps_set (i := 4) sc_curve.nd rfl (Or.inl rfl) (pe_cl c_quotient hr (by decide) rfl (pa_cons (pe_op op_sub (pe_ix (r := rIxT K) ix_tup (pv 2) pe_int (fun _ _ => rfl)) (pe_ix (r := rIxT K) ix_tup (pv 1) pe_int (fun _ _ => rfl))) (pa_cons (pe_op op_sub (pe_ix (r := rIxT K) ix_tup (pv 2) pe_int (fun _ _ => rfl)) (pe_ix (r := rIxT K) ix_tup (pv 1) pe_int (fun _ _ => rfl))) pa_nil))))
      (pss_cons (ps_set (i := 5) sc_curve.nd rfl (Or.inl rfl) (pe_cl c_quotient hr (by decide) rfl (pa_cons (pe_op op_sub (pe_ix (r := rIxT K) ix_tup (pv 3) pe_int (fun _ _ => rfl)) (pe_ix (r := rIxT K) ix_tup (pv 1) pe_int (fun _ _ => rfl))) (pa_cons (pe_op op_sub (pe_ix (r := rIxT K) ix_tup (pv 3) pe_int (fun _ _ => rfl)) (pe_ix (r := rIxT K) ix_tup (pv 1) pe_int (fun _ _ => rfl))) pa_nil))))
      (pss_cons (ps_set (i := 6) sc_curve.nd rfl (Or.inl rfl) (pe_cl c_quotient hr (by decide) rfl (pa_cons (pe_op op_sub (pv 5) (pv 4)) (pa_cons (pe_op op_sub (pe_ix (r := rIxT K) ix_tup (pv 3) pe_int (fun _ _ => rfl)) (pe_ix (r := rIxT K) ix_tup (pv 2) pe_int (fun _ _ => rfl))) pa_nil))))
      (pss_cons (ps_set (i := 7) sc_curve.nd rfl (Or.inl rfl) (pe_op op_mod (pe_op op_sub (pv 4) (pe_op op_mul (pv 6) (pe_op op_add (pe_ix (r := rIxT K) ix_tup (pv 1) pe_int (fun _ _ => rfl)) (pe_ix (r := rIxT K) ix_tup (pv 2) pe_int (fun _ _ => rfl))))) (pe_cn rfl T.c_MODULUS)))
      (pss_cons (ps_set (i := 8) sc_curve.nd rfl (Or.inl rfl) (pe_op op_mod (pe_op op_sub (pe_op op_sub (pe_ix (r := rIxT K) ix_tup (pv 1) pe_int (fun _ _ => rfl)) (pe_op op_mul (pv 7) (pe_ix (r := rIxT K) ix_tup (pv 1) pe_int (fun _ _ => rfl)))) (pe_op op_mul (pe_op op_mul (pv 6) (pe_ix (r := rIxT K) ix_tup (pv 1) pe_int (fun _ _ => rfl))) (pe_ix (r := rIxT K) ix_tup (pv 1) pe_int (fun _ _ => rfl)))) (pe_cn rfl T.c_MODULUS)))
      (pss_one (ps_ret (pe_lst (pa_cons (pv 8) (pa_cons (pv 7) (pa_cons (pv 6) pa_nil)))))))))))), ?_⟩
    try dsimp only [cxOf, Cx.nox, Cx.wish]
    refine st_of (σ' := [some _, none, none, none, none, none, none, none, none]) rfl ?_
    wtm_at "jw"
    refine i_gLst hL rfl ?_
    wtm_at "jw"
    refine ⟨_, _, rfl, by omega, by omega, ?_⟩
    wtm_at "jw"
    refine ⟨_, _, rfl, by omega, by omega, ?_⟩
    rw [M55.phi_sub, M55.phi_sub, M55.phi_sub, M55.phi_sub]
    have u0 := M55.vF_lo ((phi v3 - phi v1) * inv (phi x3 - phi x1))
    have u1 := M55.vF_hi ((phi v3 - phi v1) * inv (phi x3 - phi x1))
    have w0 := M55.vF_lo ((phi v2 - phi v1) * inv (phi x2 - phi x1))
    have w1 := M55.vF_hi ((phi v2 - phi v1) * inv (phi x2 - phi x1))
    wtm_at "jw"
    refine ⟨_, _, rfl, by omega, by omega, ?_⟩
    rw [M55.phi_sub, M55.phi_sub, M55.phi_vF, M55.phi_vF]
    have eb : ((phi v3 - phi v1) * inv (phi x3 - phi x1) - (phi v2 - phi v1) * inv (phi x2 - phi x1)) * inv (phi x3 - phi x2) = M55.bendF (phi x1) (phi v1) (phi x2) (phi v2) (phi x3) (phi v3) := rfl
    rw [eb]
    have y0 := M55.vF_lo (M55.bendF (phi x1) (phi v1) (phi x2) (phi v2) (phi x3) (phi v3))
    have y1 := M55.vF_hi (M55.bendF (phi x1) (phi v1) (phi x2) (phi v2) (phi x3) (phi v3))
    wtm_at "jw"
    intro r hr
    have el : (vF ((phi v2 - phi v1) * inv (phi x2 - phi x1)) - vF (M55.bendF (phi x1) (phi v1) (phi x2) (phi v2) (phi x3) (phi v3)) * (x1 + x2)) % 65537 = vF (M55.leanF (phi x1) (phi v1) (phi x2) (phi v2) (phi x3) (phi v3)) := by
      rw [M55.mod_vF, M55.phi_sub, M55.phi_mul, M55.phi_add, M55.phi_vF, M55.phi_vF]
      rfl
    have eb2 : (v1 - vF (M55.leanF (phi x1) (phi v1) (phi x2) (phi v2) (phi x3) (phi v3)) * x1 - vF (M55.bendF (phi x1) (phi v1) (phi x2) (phi v2) (phi x3) (phi v3)) * x1 * x1) % 65537 = vF (M55.baseF (phi x1) (phi v1) (phi x2) (phi v2) (phi x3) (phi v3)) := by
      rw [M55.mod_vF, M55.phi_sub, M55.phi_sub, M55.phi_mul, M55.phi_mul, M55.phi_mul, M55.phi_vF, M55.phi_vF]
      rfl
    rw [el, eb2]
    exact q r hr
/-- the three numbers of a group -/
theorem grp_ix {row : List Int} {k : Nat} (hk : k < grp row.length) : ∃ cut : List Int, cutV (row.map V.int) (some ((0 : Int) + (k : Int) * 3)) (some ((0 : Int) + (k : Int) * 3 + 3)) = cut.map V.int ∧ cut.length ≤ 3 ∧ (cut ++ [0, 0])[0]? = some (M55.g row (3 * k)) ∧ (cut ++ [0, 0])[1]? = some (M55.g row (3 * k + 1)) ∧ (cut ++ [0, 0])[2]? = some (M55.g row (3 * k + 2)) := by
  have h3 : 3 * k < row.length := by unfold grp at hk; omega
  refine ⟨(row.drop (3 * k)).take 3, ?_, by rw [List.length_take]; omega, M55.cut_g h3 0 (by decide), M55.cut_g h3 1 (by decide), M55.cut_g h3 2 (by decide)⟩
  unfold cutV
  rw [show (0 : Int) + (k : Int) * 3 + 3 = ((3 * k + 3 : Nat) : Int) from by omega, show (0 : Int) + (k : Int) * 3 = ((3 * k : Nat) : Int) from by omega, HT.sIx_nat, HT.sIx_nat, List.length_map, Nat.min_eq_left (Nat.le_of_lt h3), List.map_take, List.map_drop]
  by_cases h : 3 * k + 3 ≤ row.length
  · rw [Nat.min_eq_left h, show 3 * k + 3 - 3 * k = 3 from by omega]
  · rw [Nat.min_eq_right (by omega), List.take_of_length_le (by rw [List.length_drop, List.length_map]; exact Nat.le_refl _), List.take_of_length_le (by rw [List.length_drop, List.length_map]; omega)]
theorem M55rgc (n : Nat) (h : n ≤ 1000) : RgC 0 (n : Int) 3 (grp n) := by
  refine ⟨by decide, by decide, ?_, ?_⟩
  · have e : Builtin.Range.rangeSize 0 (n : Int) 3 = grp n := by
      unfold Builtin.Range.rangeSize grp
      rw [if_pos (by decide)]
      split <;> omega
    unfold Builtin.Range.small
    rw [e]
    unfold grp Builtin.Range.rangeFitsLong
    simp
    omega
  · unfold Builtin.Range.rangeSize grp
    rw [if_pos (by decide)]
    split <;> omega
def sp_pieces_of (K : PySem.W.Frag) : Sp := fun vs H Q _ => ∃ (v : V) (row : List Int) (x : Int), vs = [v, .int x] ∧ TD K H v (.tuple (row.map PyData.int)) ∧ row.length ≤ 200 ∧ Ok row ∧ 0 ≤ x ∧ x < 100000 ∧
  ∀ v' H', Same H H' → TD K H' v' (.tuple ((evL row x).map PyData.int)) → Q v' H'
theorem ok_pieces_of {P : Program} {w : World} {K : PySem.W.Frag} {mg : Str → Option Value} {base : Heap} {C_NotEnough : Addr} {C_PlayError : Addr} {C_BadCut : Addr} {C_BadPaper : Addr} {C_BadSession : Addr} {C_BadText : Addr} {C_BadWorld : Addr} {C_NoState : Addr} {C_NotFitting : Addr} {C_TooLarge : Addr} {f : Addr} {fd : FuncData} (F : Df K mg "pieces_of" s_pieces_of f fd ["numbers", "x"]) (T : Txt K mg C_NotEnough C_PlayError C_BadCut C_BadPaper C_BadSession C_BadText C_BadWorld C_NoState C_NotFitting C_TooLarge) : FnOk P w K mg base CX0 1 f fd ["numbers", "x"] (sp_pieces_of K) := by
  refine F.ok sc_pieces_of (fun vs H Q E h => ?_) (fun cdv A outer s H vs Q E hr h => ?_)
  · obtain ⟨v, row, x, rfl, _⟩ := h
    rfl
  · obtain ⟨v, row, x, rfl, hv, hl, ho, x0, x1, q⟩ := h
    obtain ⟨ra, rx, rfl, rS, rT⟩ := hv.tup_inv
    rw [rT.ints_inv] at rS
    refine ⟨_, (pss_cons (ps_set (i := 2) sc_pieces_of.nd rfl (Or.inl rfl) (pe_lst pa_nil))
      (pss_cons (ps_for PassesOwn.never rfl (pi_range3 rfl T.b_range (pa_cons pe_int (pa_cons (pe_callB (id := "len") (r := qLen K) c_len (by rfl) T.b_len (by decide +kernel) (pa_cons (pv 0) pa_nil)) (pa_cons (pe_cn rfl T.c_NEEDED) pa_nil)))) (pg_name (i := 3) sc_pieces_of.nd rfl (Or.inl rfl)) (pss_cons (ps_set (i := 4) sc_pieces_of.nd rfl (Or.inl rfl) (pe_op op_cat (pe_callTy (T := "list") (r := rLstOf K) c_lst (by rfl) T.b_list (by decide +kernel) (pa_cons (pe_slice (r := rSlQ K) sl_tupQ (pv 0) (po_some (pv 3)) (po_some (pe_op op_add (pv 3) (pe_cn rfl T.c_NEEDED)))) pa_nil)) (pe_lst (pa_cons pe_int (pa_cons pe_int pa_nil)))))
      (pss_one (ps_expr (pe_bmK (K := K) rfl PySem.F.plainAttrs_list PySem.F.slot_list_append PySem.F.type_list_append mt_append (pv 2) (pa_cons (pe_op op_mod (pe_op op_add (pe_op op_add (pe_ix (r := rIxL K) ix_list (pv 4) pe_int (fun _ _ => rfl)) (pe_op op_mul (pe_ix (r := rIxL K) ix_list (pv 4) pe_int (fun _ _ => rfl)) (pv 1))) (pe_op op_mul (pe_op op_mul (pe_ix (r := rIxL K) ix_list (pv 4) pe_int (fun _ _ => rfl)) (pv 1)) (pv 1))) (pe_cn rfl T.c_MODULUS)) pa_nil))))))
      (pss_one (ps_ret (pe_callTy (T := "tuple") (r := rTupOf K) c_tup (by rfl) T.b_tuple (by decide +kernel) (pa_cons (pv 2) pa_nil)))))), ?_⟩
    try dsimp only [cxOf, Cx.nox, Cx.wish]
    refine st_of (σ' := [some _, some _, none, none, none]) rfl ?_
    wtm_at "jw"
    intro D hD
    wtm_at "jw"
    refine i_rng3 ?_
    wtm_at "jw"
    refine ⟨_, _, _, _, rfl, by rw [List.length_map]; exact M55rgc _ (by omega), ?_⟩
    refine f_rangeC (n := grp row.length) (fun k σ H' => Same H H' ∧ H' D = some (.lst (((evL row x).take k).map V.int)) ∧ ∃ w3 w4, σ = [some (.ref ra), some (.int x), some (.ref D), w3, w4]) ⟨same_new hD, upd_same, none, none, rfl⟩ (fun k σ H' hk h => ?_) (fun σ H' h => ?_)
    · obtain ⟨s1, h1, w3, w4, rfl⟩ := h
      have rS1 := Same.tup s1 rS
      obtain ⟨cut, ec, lc, e0, e1, e2⟩ := grp_ix hk
      wtm_at "jw"
      refine i_slA rS1 fun r H2 s2 hr2 => ?_
      rw [ec] at hr2
      wtm_at "jw"
      intro L hL
      wtm_at "jw"
      intro Z hZ
      have nZL : L ≠ Z := fun z => by rw [z, upd_same] at hZ; cases hZ
      have nZ : upd H2 L (.lst (cut.map V.int)) Z = none := hZ
      refine i_cat' (xs := cut.map V.int) (zs := [.int 0, .int 0]) (by rw [upd_ne nZL]; exact upd_same) upd_same (by rw [List.length_map]; show cut.length + 2 ≤ _; omega) fun r3 H3 s3 n3 h3 => ?_
      have s13 : Same H H3 := fun b o hb => s3 _ _ (same_new nZ _ _ (same_new hL _ _ (s2 _ _ (s1 _ _ hb))))
      have hD3 : H3 D = some (.lst (((evL row x).take k).map V.int)) := s3 _ _ (same_new nZ _ _ (same_new hL _ _ (s2 _ _ h1)))
      have h3' : SqL K H3 r3 ((cut ++ [0, 0]).map V.int) := SqL.of (by rw [h3, List.map_append]; rfl)
      have a0 : atI ((cut ++ [0, 0]).map V.int) 0 = some (.int (M55.g row (3 * k))) := atI_nat (j := 0) (by rw [List.getElem?_map, e0]; rfl)
      have a1 : atI ((cut ++ [0, 0]).map V.int) 1 = some (.int (M55.g row (3 * k + 1))) := atI_nat (j := 1) (by rw [List.getElem?_map, e1]; rfl)
      have a2 : atI ((cut ++ [0, 0]).map V.int) 2 = some (.int (M55.g row (3 * k + 2))) := atI_nat (j := 2) (by rw [List.getElem?_map, e2]; rfl)
      obtain ⟨p0, p1⟩ := ho.g (3 * k + 1)
      obtain ⟨q0, q1⟩ := ho.g (3 * k + 2)
      have lk : (((evL row x).take k).map V.int).length ≤ 1000 := by rw [List.length_map, List.length_take, M55.evL_len]; unfold grp; omega
      wtm_at "jw"
      refine ⟨put_same s13 hD, ?_, _, _, rfl⟩
      rw [upd_same, M55.take_g (by rw [M55.evL_len]; exact hk), M55.evL_at hk, List.map_append]
      rfl
    · obtain ⟨s1, h1, w3, w4, rfl⟩ := h
      rw [List.take_of_length_le (by rw [M55.evL_len]; exact Nat.le_refl _)] at h1
      wtm_at "jw"
      intro r hr
      exact q _ _ (put_same s1 (s1.free hr)) (.of upd_same (TDs.ints _))
def sp__law_curves (K : PySem.W.Frag) : Sp := fun vs H Q _ => ∃ (v : V) (row : List Int) (x : Int), vs = [v, .int x] ∧ TD K H v (.tuple (row.map PyData.int)) ∧ row.length ≤ 200 ∧ Ok row ∧ 0 ≤ x ∧ x < 100000 ∧
  ∀ v' H', Same H H' → TD K H' v' (.tuple ((evL row x).map PyData.int)) → Q v' H'
theorem ok__law_curves {P : Program} {w : World} {K : PySem.W.Frag} {mg : Str → Option Value} {base : Heap} {C_NotEnough : Addr} {C_PlayError : Addr} {C_BadCut : Addr} {C_BadPaper : Addr} {C_BadSession : Addr} {C_BadText : Addr} {C_BadWorld : Addr} {C_NoState : Addr} {C_NotFitting : Addr} {C_TooLarge : Addr} {f : Addr} {fd : FuncData} (F : Df K mg "_law_curves" s__law_curves f fd ["numbers", "x"]) (T : Txt K mg C_NotEnough C_PlayError C_BadCut C_BadPaper C_BadSession C_BadText C_BadWorld C_NoState C_NotFitting C_TooLarge) : FnOk P w K mg base CX0 1 f fd ["numbers", "x"] (sp__law_curves K) := by
  refine F.ok sc__law_curves (fun vs H Q E h => ?_) (fun cdv A outer s H vs Q E hr h => ?_)
  · obtain ⟨v, row, x, rfl, _⟩ := h
    rfl
  · obtain ⟨v, row, x, rfl, hv, hl, ho, x0, x1, q⟩ := h
    obtain ⟨ra, rx, rfl, rS, rT⟩ := hv.tup_inv
    rw [rT.ints_inv] at rS
    refine ⟨_, (pss_cons (ps_set (i := 2) sc__law_curves.nd rfl (Or.inl rfl) (pe_lst pa_nil))
      (pss_cons (ps_for PassesOwn.never rfl (pi_range3 rfl T.b_range (pa_cons pe_int (pa_cons (pe_callB (id := "len") (r := qLen K) c_len (by rfl) T.b_len (by decide +kernel) (pa_cons (pv 0) pa_nil)) (pa_cons pe_int pa_nil)))) (pg_name (i := 3) sc__law_curves.nd rfl (Or.inl rfl)) (pss_cons (ps_set (i := 4) sc__law_curves.nd rfl (Or.inl rfl) (pe_op op_cat (pe_callTy (T := "list") (r := rLstOf K) c_lst (by rfl) T.b_list (by decide +kernel) (pa_cons (pe_slice (r := rSlQ K) sl_tupQ (pv 0) (po_some (pv 3)) (po_some (pe_op op_add (pv 3) pe_int))) pa_nil)) (pe_lst (pa_cons pe_int (pa_cons pe_int pa_nil)))))
      (pss_one (ps_expr (pe_bmK (K := K) rfl PySem.F.plainAttrs_list PySem.F.slot_list_append PySem.F.type_list_append mt_append (pv 2) (pa_cons (pe_op op_mod (pe_callTy (T := "int") c_int (by rfl) T.b_int (by decide +kernel) (pa_cons (pe_op op_add (pe_op op_add (pe_ix (r := rIxL K) ix_list (pv 4) pe_int (fun _ _ => rfl)) (pe_op op_mul (pe_ix (r := rIxL K) ix_list (pv 4) pe_int (fun _ _ => rfl)) (pv 1))) (pe_op op_mul (pe_op op_mul (pe_ix (r := rIxL K) ix_list (pv 4) pe_int (fun _ _ => rfl)) (pv 1)) (pv 1))) pa_nil)) pe_int) pa_nil))))))
      (pss_one (ps_ret (pe_callTy (T := "tuple") (r := rTupOf K) c_tup (by rfl) T.b_tuple (by decide +kernel) (pa_cons (pv 2) pa_nil)))))), ?_⟩
    try dsimp only [cxOf, Cx.nox, Cx.wish]
    refine st_of (σ' := [some _, some _, none, none, none]) rfl ?_
    wtm_at "jw"
    intro D hD
    wtm_at "jw"
    refine i_rng3 ?_
    wtm_at "jw"
    refine ⟨_, _, _, _, rfl, by rw [List.length_map]; exact M55rgc _ (by omega), ?_⟩
    refine f_rangeC (n := grp row.length) (fun k σ H' => Same H H' ∧ H' D = some (.lst (((evL row x).take k).map V.int)) ∧ ∃ w3 w4, σ = [some (.ref ra), some (.int x), some (.ref D), w3, w4]) ⟨same_new hD, upd_same, none, none, rfl⟩ (fun k σ H' hk h => ?_) (fun σ H' h => ?_)
    · obtain ⟨s1, h1, w3, w4, rfl⟩ := h
      have rS1 := Same.tup s1 rS
      obtain ⟨cut, ec, lc, e0, e1, e2⟩ := grp_ix hk
      wtm_at "jw"
      refine i_slA rS1 fun r H2 s2 hr2 => ?_
      rw [ec] at hr2
      wtm_at "jw"
      intro L hL
      wtm_at "jw"
      intro Z hZ
      have nZL : L ≠ Z := fun z => by rw [z, upd_same] at hZ; cases hZ
      have nZ : upd H2 L (.lst (cut.map V.int)) Z = none := hZ
      refine i_cat' (xs := cut.map V.int) (zs := [.int 0, .int 0]) (by rw [upd_ne nZL]; exact upd_same) upd_same (by rw [List.length_map]; show cut.length + 2 ≤ _; omega) fun r3 H3 s3 n3 h3 => ?_
      have s13 : Same H H3 := fun b o hb => s3 _ _ (same_new nZ _ _ (same_new hL _ _ (s2 _ _ (s1 _ _ hb))))
      have hD3 : H3 D = some (.lst (((evL row x).take k).map V.int)) := s3 _ _ (same_new nZ _ _ (same_new hL _ _ (s2 _ _ h1)))
      have h3' : SqL K H3 r3 ((cut ++ [0, 0]).map V.int) := SqL.of (by rw [h3, List.map_append]; rfl)
      have a0 : atI ((cut ++ [0, 0]).map V.int) 0 = some (.int (M55.g row (3 * k))) := atI_nat (j := 0) (by rw [List.getElem?_map, e0]; rfl)
      have a1 : atI ((cut ++ [0, 0]).map V.int) 1 = some (.int (M55.g row (3 * k + 1))) := atI_nat (j := 1) (by rw [List.getElem?_map, e1]; rfl)
      have a2 : atI ((cut ++ [0, 0]).map V.int) 2 = some (.int (M55.g row (3 * k + 2))) := atI_nat (j := 2) (by rw [List.getElem?_map, e2]; rfl)
      obtain ⟨p0, p1⟩ := ho.g (3 * k + 1)
      obtain ⟨q0, q1⟩ := ho.g (3 * k + 2)
      have lk : (((evL row x).take k).map V.int).length ≤ 1000 := by rw [List.length_map, List.length_take, M55.evL_len]; unfold grp; omega
      wtm_at "jw"
      refine ⟨put_same s13 hD, ?_, _, _, rfl⟩
      rw [upd_same, M55.take_g (by rw [M55.evL_len]; exact hk), M55.evL_at hk, List.map_append]
      rfl
    · obtain ⟨s1, h1, w3, w4, rfl⟩ := h
      rw [List.take_of_length_le (by rw [M55.evL_len]; exact Nat.le_refl _)] at h1
      wtm_at "jw"
      intro r hr
      exact q _ _ (put_same s1 (s1.free hr)) (.of upd_same (TDs.ints _))
/-- a pair of a point and values -/
def pvD (p : Pr) : PyData := .tuple [.int p.1, .tuple (p.2.map PyData.int)]
theorem TD.pr_inv {K : PySem.W.Frag} {H : Hp} {v : V} {p : Pr} (h : TD K H v (Law.pvD p)) : ∃ a b xs, v = .ref a ∧ SqT K H a [.int p.1, .ref b] ∧ SqT K H b xs ∧ xs = p.2.map V.int := by
  obtain ⟨a, xs, rfl, hS, hT⟩ := h.tup_inv
  cases hT with
  | cons h1 hr =>
    cases hr with
    | cons h2 hr =>
      cases hr
      have e1 := h1.int_inv
      obtain ⟨b, ys, rfl, hb, hbs⟩ := h2.tup_inv
      subst e1
      exact ⟨a, b, ys, rfl, hS, hb, hbs.ints_inv⟩
def sp_different_points (K : PySem.W.Frag) : Sp := fun vs H Q _ => ∃ (v : V) (ps : List Pr), vs = [v] ∧ TD K H v (.tuple (ps.map Law.pvD)) ∧ ps.length ≤ 100 ∧
  ∀ r H', Same H H' → H r = none → LD K H' r ((dp ps).map Law.pvD) → Q (.ref r) H'
theorem ok_different_points {P : Program} {w : World} {K : PySem.W.Frag} {mg : Str → Option Value} {base : Heap} {C_NotEnough : Addr} {C_PlayError : Addr} {C_BadCut : Addr} {C_BadPaper : Addr} {C_BadSession : Addr} {C_BadText : Addr} {C_BadWorld : Addr} {C_NoState : Addr} {C_NotFitting : Addr} {C_TooLarge : Addr} {f : Addr} {fd : FuncData} (F : Df K mg "different_points" s_different_points f fd ["pairs"]) (T : Txt K mg C_NotEnough C_PlayError C_BadCut C_BadPaper C_BadSession C_BadText C_BadWorld C_NoState C_NotFitting C_TooLarge) : FnOk P w K mg base CX0 1 f fd ["pairs"] (sp_different_points K) := by
  refine F.ok sc_different_points (fun vs H Q E h => ?_) (fun cdv A outer s H vs Q E hr h => ?_)
  · obtain ⟨v, ps, rfl, _⟩ := h
    rfl
  · obtain ⟨v, ps, rfl, hv, hl, q⟩ := h
    obtain ⟨pa, pxs, rfl, pS, pT⟩ := hv.tup_inv
    refine ⟨_, (pss_cons (ps_set (i := 1) sc_different_points.nd rfl (Or.inl rfl) (pe_lst pa_nil))
      (pss_cons (ps_for PassesOwn.never rfl (pi_tup (pv 0)) (pg_tupK (K := K) rfl rfl (pgs_cons (pg_name (i := 2) sc_different_points.nd rfl (Or.inl rfl)) (pgs_cons (pg_name (i := 3) sc_different_points.nd rfl (Or.inl rfl)) pgs_nil))) (pss_one (ps_if (PW.pt (pw_and (pt_cmpR op_lt (pe_callB (id := "len") (r := qLen K) c_len (by rfl) T.b_len (by decide +kernel) (pa_cons (pv 1) pa_nil)) (pe_cn rfl T.c_NEEDED) (nomark _)) (pw_and1 (pt_cmpR (r := rIn K true) op_notIn_seq (pv 2) (pe_lc (own := [("row", 4)]) (g := gName 4) (tt := tYes) rfl sc_different_points.nd (pi_list (pv 1)) (blkOk_by (own := [("row", 4)]) (N := N_different_points) (sc := defScope s_different_points) (by decide +kernel)) (fun _ _ _ _ _ => (pg_name (i := 4) sc_different_points.nd rfl (Or.inl rfl))) (fun _ _ _ _ _ => pts_nil) (fun _ _ _ _ _ => (pe_ix (r := rIxT K) ix_tup (pv 4) pe_int (fun _ _ => rfl)))) rfl)))) (pss_one (ps_expr (pe_bmK (K := K) rfl PySem.F.plainAttrs_list PySem.F.slot_list_append PySem.F.type_list_append mt_append (pv 1) (pa_cons (pe_tup (pa_cons (pv 2) (pa_cons (pv 3) pa_nil))) pa_nil)))) pss_nil)))
      (pss_one (ps_ret (pv 1))))), ?_⟩
    try dsimp only [cxOf, Cx.nox, Cx.wish]
    refine st_of (σ' := [some _, none, none, none, none]) rfl ?_
    wtm_at "jw"
    intro D hD
    wtm_at "jw"
    refine f_tup (xs := pxs) (fun k σ H' => Same H H' ∧ LD K H' D ((dp (ps.take k)).map Law.pvD) ∧ ∃ w2 w3, σ = [some (.ref pa), some (.ref D), w2, w3, none]) ⟨same_new hD, ⟨[], upd_same, .nil⟩, none, none, rfl⟩ (fun k σ H' _ h => Same.tup h.1 pS) (fun k y σ H' hk h => ?_) (fun σ H' h => ?_)
    · obtain ⟨s1, ⟨fs, hF, hFT⟩, w2, w3, rfl⟩ := h
      have pT1 := pT.same s1
      obtain ⟨d, hd, ty, htk, hk2⟩ := pT1.at hk
      rw [List.getElem?_map] at hd
      obtain ⟨p, hp, rfl⟩ := Option.map_eq_some_iff.mp hd
      have step := M55.dp_snoc hp
      have hacc := M55.dp_len (ps := ps.take k) (acc := []) (by decide)
      change (dp (ps.take k)).length ≤ 3 at hacc
      generalize dp (ps.take k) = acc at step hFT hacc
      have lf := hFT.len
      rw [List.length_map] at lf
      obtain ⟨ya, yb, yl, rfl, yS, bS, hyl⟩ := ty.pr_inv
      wtm_at "jw"
      refine c_dec (fun hlt => ?_) (fun hge => ?_)
      · wtm_at "jw"
        intro Z hZ
        refine l_listP (xs := fs) (fun i => .int (((acc.map (·.1))[i]?).getD 0)) hZ (by omega) (SqL.of hF) (fun i x H2 R hi s2 hR => ?_) (fun H2 s2 hZ2 => ?_)
        · obtain ⟨d, hd, tx, _, hi2⟩ := (hFT.same s2).at hi
          rw [List.getElem?_map] at hd
          obtain ⟨p2, hp2, rfl⟩ := Option.map_eq_some_iff.mp hd
          obtain ⟨xa, xb, xl, rfl, xS, _, _⟩ := tx.pr_inv
          wtm_at "jw"
          refine ⟨rfl, ?_⟩
          wtm_at "jw"
          rw [List.getElem?_map, hp2] at hR
          exact hR
        · have eZ : (List.range fs.length).map (fun i => V.int (((acc.map (·.1))[i]?).getD 0)) = (acc.map (·.1)).map V.int := by
            have e2 := congrArg (List.map V.int) (M55.range_g (acc.map (·.1)))
            rw [List.map_map, List.length_map] at e2
            rw [lf]
            exact e2
          rw [eZ] at hZ2
          refine i_ninL (SqL.of hZ2) ?_
          have hF2 := s2 _ _ hF
          have bS2 := Same.tup s2 bS
          have yb2 : TD K H2 (.ref yb) (.tuple (p.2.map PyData.int)) := .tup bS2 (by rw [hyl]; exact TDs.ints _)
          have hFT2 := hFT.same s2
          wtm_at "jw"
          refine c_decN (fun hn => ?_) (fun hin => ?_)
          · wtm_at "jw"
            intro T0 hT0
            have s3 := same_new (o := .tup [.int p.1, .ref yb]) hT0
            have hF3 := s3 _ _ hF2
            have tT : TD K (upd H2 T0 (.tup [.int p.1, .ref yb])) (.ref T0) (pvD p) := .new hT0 (.cons (.int _) (.cons yb2 .nil))
            have hFT3 := hFT2.same s3
            have s13 : Same H (upd H2 T0 (.tup [.int p.1, .ref yb])) := fun b o hb => s3 _ _ (s2 _ _ (s1 _ _ hb))
            generalize upd H2 T0 (.tup [.int p.1, .ref yb]) = H3 at hF3 tT hFT3 s13 ⊢
            have lf3 : fs.length ≤ 1000 := by omega
            wtm_at "jw"
            refine ⟨put_same s13 hD, ?_, _, _, rfl⟩
            rw [step]
            unfold dpS
            rw [if_pos ⟨by omega, hn⟩, List.map_append]
            exact .snoc hF3 hFT3 tT
          · wtm_at "jw"
            refine ⟨fun b o hb => s2 _ _ (s1 _ _ hb), ?_, _, _, rfl⟩
            rw [step]
            unfold dpS
            rw [if_neg (fun z => z.2 hin)]
            exact ⟨fs, hF2, hFT2⟩
      · wtm_at "jw"
        refine ⟨s1, ?_, _, _, rfl⟩
        rw [step]
        unfold dpS
        rw [if_neg (fun z => by omega)]
        exact ⟨fs, hF, hFT⟩
    · obtain ⟨s1, hF, w2, w3, rfl⟩ := h
      rw [pT.len, List.length_map, List.take_length] at hF
      wtm_at "jw"
      exact q _ _ s1 hD hF
def sp_joined (K : PySem.W.Frag) (C_NotEnough : Addr) : Sp := fun vs H Q E => ∃ (v : V) (ps : List Pr) (many : Nat), vs = [v, .int (many : Int)] ∧ TD K H v (.tuple (ps.map pvD)) ∧ ps.length ≤ 100 ∧ many ≤ 100 ∧ (∀ p ∈ ps, grp many ≤ p.2.length ∧ (0 ≤ p.1 ∧ p.1 < 100000) ∧ Ok p.2) ∧
  ((∃ p1 p2 p3, dp ps = [p1, p2, p3] ∧ ∀ v' H', Same H H' → TD K H' v' (.tuple ((joinL p1 p2 p3 many).map PyData.int)) → Q v' H') ∨
   ((dp ps).length < 3 ∧ ∀ dd H', Same H H' → H' dd = some (.xd [("many", .int ((dp ps).length : Int))]) → E (.ref C_NotEnough) (some dd) H'))
theorem ok_joined {P : Program} {w : World} {K : PySem.W.Frag} {mg : Str → Option Value} {base : Heap} {C_NotEnough : Addr} {C_PlayError : Addr} {C_BadCut : Addr} {C_BadPaper : Addr} {C_BadSession : Addr} {C_BadText : Addr} {C_BadWorld : Addr} {C_NoState : Addr} {C_NotFitting : Addr} {C_TooLarge : Addr} {f : Addr} {fd : FuncData} (F : Df K mg "joined" s_joined f fd ["pairs", "many"]) (T : Txt K mg C_NotEnough C_PlayError C_BadCut C_BadPaper C_BadSession C_BadText C_BadWorld C_NoState C_NotFitting C_TooLarge)
    (c_different_points : Cl P w K mg base 1 "different_points" (sp_different_points K))
    (c_curve : Cl P w K mg base 3 "curve" (sp_curve K))
    (x_NotEnough : EX2.Xcl1 P w K mg base 1 "NotEnough" C_NotEnough "many") : FnOk P w K mg base (L2.CX P w) 4 f fd ["pairs", "many"] (sp_joined K C_NotEnough) := by
  refine F.okX sc_joined (fun vs H Q E h => ?_) (fun cdv A outer s H vs Q E hr h => ?_)
  · obtain ⟨v, ps, many, rfl, _⟩ := h
    rfl
  · obtain ⟨v, ps, many, rfl, hv, hl, hm, hp, q⟩ := h
    refine ⟨_, (pss_cons (ps_nox (ps_set (i := 2) sc_joined.nd rfl (Or.inl rfl) (pe_cl c_different_points hr (by decide) rfl (pa_cons (pv 0) pa_nil))))
      (pss_cons (ps_if (pt_cmpR op_lt (pe_callB (id := "len") (r := qLen K) c_len (by rfl) T.b_len (by decide +kernel) (pa_cons (pv 2) pa_nil)) (pe_cn rfl T.c_NEEDED) (nomark _)) (pss_one (ps_raiseJ rfl (takes_of rfl rfl rfl rfl) (EX2.pmk_x1 x_NotEnough hr (by decide) rfl (pa_cons (pe_callB (id := "len") (r := qLen K) c_len (by rfl) T.b_len (by decide +kernel) (pa_cons (pv 2) pa_nil)) pa_nil)))) pss_nil)
      (pss_cons (ps_nox (ps_set (i := 3) sc_joined.nd rfl (Or.inl rfl) (pe_lst pa_nil)))
      (pss_cons (ps_nox (ps_for PassesOwn.never rfl (pi_range1 rfl T.b_range (pa_cons (pe_op op_fdiv (pe_op op_sub (pe_op op_add (pv 1) (pe_cn rfl T.c_NEEDED)) pe_int) (pe_cn rfl T.c_NEEDED)) pa_nil)) (pg_name (i := 4) sc_joined.nd rfl (Or.inr rfl)) (pss_one (ps_nox (ps_expr (pe_bmK (K := K) rfl PySem.F.plainAttrs_list PySem.F.slot_list_extend PySem.F.type_list_extend mt_extend (pv 3) (pa_cons (pe_cl c_curve hr (by decide) rfl (pa_cons (pe_lc (own := [("x", 5), ("values", 6)]) (g := gTup K 2 (gCons (gName 5) (gCons (gName 6) gNil))) (tt := tYes) rfl sc_joined.nd (pi_list (pv 2)) (blkOk_by (own := [("x", 5), ("values", 6)]) (N := N_joined) (sc := defScope s_joined) (by decide +kernel)) (fun _ _ _ _ _ => (pg_tupK (K := K) rfl rfl (pgs_cons (pg_name (i := 5) sc_joined.nd rfl (Or.inl rfl)) (pgs_cons (pg_name (i := 6) sc_joined.nd rfl (Or.inl rfl)) pgs_nil)))) (fun _ _ _ _ _ => pts_nil) (fun _ _ _ _ _ => (pe_tup (pa_cons (pv 5) (pa_cons (pe_ix (r := rIxT K) ix_tup (pv 6) (pv 4) (fun _ _ => rfl)) pa_nil))))) pa_nil)) pa_nil)))))))
      (pss_one (ps_nox (ps_ret (pe_callTy (T := "tuple") (r := rTupOf K) c_tup (by rfl) T.b_tuple (by decide +kernel) (pa_cons (pe_slice (r := rSlL K) sl_list (pv 3) po_none (po_some (pv 1))) pa_nil))))))))), ?_⟩
    try dsimp only [cxOf, Cx.nox, Cx.wish]
    refine st_of (σ' := [some _, some _, none, none, none, none, none]) rfl ?_
    wtm_at "jw"
    refine ⟨v, ps, rfl, hv, hl, fun r H1 s1 hr1 hL => ?_⟩
    wtm_at "jw"
    rw [List.length_map]
    refine c_dec (fun hlt => ?_) (fun hge => ?_)
    · wtm_at "jw"
      refine ⟨_, rfl, fun d hd => ?_⟩
      rw [List.length_map]
      rcases q with ⟨p1, p2, p3, e, _⟩ | ⟨_, q⟩
      · rw [e] at hlt
        exact absurd hlt (by show ¬ ((3 : Nat) : Int) < 3; decide)
      · exact q d _ (put_same s1 (s1.free hd)) upd_same
    · obtain ⟨p1, p2, p3, e, q⟩ : ∃ p1 p2 p3, dp ps = [p1, p2, p3] ∧ ∀ v' H', Same H H' → TD K H' v' (.tuple ((joinL p1 p2 p3 many).map PyData.int)) → Q v' H' := by
        rcases q with q | ⟨q, _⟩
        · exact q
        · exact absurd (by omega : (((dp ps).length : Nat) : Int) < 3) hge
      have hpm : ∀ p ∈ [p1, p2, p3], grp many ≤ p.2.length ∧ (0 ≤ p.1 ∧ p.1 < 100000) ∧ Ok p.2 := fun p hpp => hp p (M55.dp_mem (by rw [e]; exact hpp))
      rw [e] at hL
      wtm_at "jw"
      intro N hN
      have nNr : N ≠ r := by
        obtain ⟨cs, hC, _⟩ := hL
        exact (ne_of_none hC hN).symm
      wtm_at "jw"
      have eg : (((many : Int) + 3 - 1) / 3 - 0).toNat = grp many := by unfold grp; omega
      refine f_range (n := (((many : Int) + 3 - 1) / 3).toNat) (fun k σ H' => k ≤ grp many ∧ Same H H' ∧ LD K H' r ([p1, p2, p3].map pvD) ∧ H' N = some (.lst (((List.range k).flatMap (M55.cvI p1 p2 p3)).map V.int)) ∧ ∃ w4 w5 w6, σ = [some v, some (.int (many : Int)), some (.ref r), some (.ref N), w4, w5, w6])
        ⟨Nat.zero_le _, put_same s1 (s1.free hN), hL.same (same_new hN), upd_same, none, none, none, rfl⟩ (fun k σ H' hk h => ?_) (fun σ H' h => ?_)
      · obtain ⟨_, s2, hL2, hN2, w4, w5, w6, rfl⟩ := h
        have hk' : k < grp many := by unfold grp; omega
        obtain ⟨cs, hC, hCT⟩ := hL2
        wtm_at "jw"
        intro Z hZ
        refine l_list (xs := cs) (fun i H3 => Same H' H3 ∧ LPr H3 Z (([p1, p2, p3].map fun p => (p.1, M55.g p.2 k)).take i)) ⟨same_new hZ, ⟨[], upd_same, .nil⟩⟩ (fun i H3 _ h => h.1.seq (SqL.of hC)) (fun i y H3 hi h => ?_) (fun H3 h => ?_)
        · obtain ⟨s3, rs, hZ3, hR3⟩ := h
          obtain ⟨d, hd, ty, _, hi3⟩ := (hCT.same s3).at hi
          rw [List.getElem?_map] at hd
          obtain ⟨p, hpp, rfl⟩ := Option.map_eq_some_iff.mp hd
          obtain ⟨ya, yb, yl, rfl, yS, bS, rfl⟩ := ty.pr_inv
          have hlen := (hpm p (List.mem_of_getElem? hpp)).1
          have a0 : atI (p.2.map V.int) ((0 : Int) + (k : Int)) = some (.int (M55.g p.2 k)) := by
            rw [Int.zero_add]
            refine atI_nat ?_
            rw [List.getElem?_map, List.getElem?_eq_getElem (by omega)]
            unfold M55.g
            rw [List.getElem?_eq_getElem (by omega)]
            rfl
          wtm_at "jw"
          refine ⟨rfl, ?_⟩
          wtm_at "jw"
          intro T0 hT0
          have nT : Z ≠ T0 := ne_of_none hZ3 hT0
          have lrs := hR3.1
          refine ⟨rs.map V.ref, by rw [upd_ne nT]; exact hZ3, ?_, ?_, ?_⟩
          · rw [List.length_map, lrs, List.length_take, List.length_map, sizeLine_eq]
            show min i 3 < _
            omega
          · exact fun b o hb => by
              rw [upd_ne (ne_of_none hb hZ)]
              exact same_new hT0 _ _ (s3 _ _ hb)
          · rw [List.take_add_one, List.getElem?_map, hpp]
            exact LPr.add hZ3 hR3 hT0
        · obtain ⟨s3, rs, hZ3, hR3⟩ := h
          have lcs : cs.length = 3 := by rw [hCT.len]; rfl
          rw [lcs, List.take_of_length_le (by show 3 ≤ 3; decide)] at hR3
          obtain ⟨lrs, hRs⟩ := hR3
          match rs, lrs with
          | [t1, t2, t3], _ =>
            have f1 := hRs 0 t1 _ rfl rfl
            have f2 := hRs 1 t2 _ rfl rfl
            have f3 := hRs 2 t3 _ rfl rfl
            have o1 := (hpm p1 (by simp)).2
            have o2 := (hpm p2 (by simp)).2
            have o3 := (hpm p3 (by simp)).2
            wtm_at "jw"
            refine ⟨Z, t1, t2, t3, _, _, _, _, _, _, rfl, SqL.of hZ3, SqT.of f1, SqT.of f2, SqT.of f3, o1.1, o2.1, o3.1, o1.2.g k, o2.2.g k, o3.2.g k, fun r5 hr5 => ?_⟩
            have hN3 := s3 _ _ hN2
            wtm_at "jw"
            refine ⟨N, r5, _, _, rfl, rfl, by rw [upd_ne (ne_of_none hN3 hr5)]; exact hN3, upd_same, ?_, ?_⟩
            · rw [List.length_map, M55.flat_len, sizeLine_eq]
              show 3 * k + 3 ≤ _
              unfold grp at hk'
              omega
            · refine ⟨by omega, fun b o hb => ?_, ?_, ?_, _, _, _, rfl⟩
              · rw [upd_ne (ne_of_none hb (s1.free hN))]
                exact same_new hr5 _ _ (s3 _ _ (s2 _ _ hb))
              · exact ⟨cs, by rw [upd_ne (Ne.symm nNr)]; exact same_new hr5 _ _ (s3 _ _ hC), ((hCT.same s3).same (same_new hr5)).tps (tps_put (by rw [upd_ne (ne_of_none hN3 hr5)]; exact hN3))⟩
              · rw [upd_same, List.range_succ, List.flatMap_append, List.map_append]
                rfl
      · obtain ⟨_, s2, hL2, hN2, w4, w5, w6, rfl⟩ := h
        rw [show (((many : Int) + 3 - 1) / 3).toNat = grp many from by unfold grp; omega] at hN2
        wtm_at "jw"
        refine i_slL (SqL.of hN2) fun r4 H4 s4 n4 h4 => ?_
        wtm_at "jw"
        intro t4 ht4
        refine q _ _ (fun b o hb => same_new ht4 _ _ (s4 _ _ (s2 _ _ hb))) (.of upd_same ?_)
        have ec : cutV (((List.range (grp many)).flatMap (M55.cvI p1 p2 p3)).map V.int) none (some (many : Int)) = (joinL p1 p2 p3 many).map V.int := by
          unfold cutV M55.joinL
          rw [HT.sIx_nat, HT.sIx_none, List.length_map, Nat.sub_zero, List.drop_zero, List.map_take, ← List.take_take]
          rw [List.take_of_length_le (l := List.map V.int _) (i := List.length _) (by rw [List.length_map]; exact Nat.le_refl _)]
        rw [ec]
        exact TDs.ints _
theorem perm_map {α β : Type} {f : α → β} : ∀ {ys xs : List β}, ys.Perm xs → ∀ {l : List α}, xs = l.map f → ∃ l' : List α, ys = l'.map f ∧ l'.Perm l := by
  intro ys xs h
  induction h with
  | nil => intro l e; exact ⟨[], rfl, by rw [List.map_eq_nil_iff.mp e.symm]⟩
  | @cons x l1 l2 _ ih =>
    intro l e
    match l, e with
    | a :: r, e =>
      obtain ⟨e1, e2⟩ := List.cons.inj e
      obtain ⟨l', h1, h2⟩ := ih e2
      exact ⟨a :: l', by rw [List.map_cons, e1, h1], h2.cons a⟩
  | @swap x y l0 =>
    intro l e
    match l, e with
    | a :: b :: r, e =>
      obtain ⟨e1, e2⟩ := List.cons.inj e
      obtain ⟨e2, e3⟩ := List.cons.inj e2
      exact ⟨b :: a :: r, by rw [List.map_cons, List.map_cons, e1, e2, e3], .swap ..⟩
  | trans _ _ ih1 ih2 =>
    intro l e
    obtain ⟨l1, h1, h2⟩ := ih2 e
    obtain ⟨l2, h3, h4⟩ := ih1 h1
    exact ⟨l2, h3, h4.trans h2⟩
theorem set_last_nodup {row : List Int} {m : Nat} {v : Int} (p : row.Pairwise (· < ·)) (h : row.length = m + 1) (hv : ∀ y ∈ row, y < v) : (row.set m v).Nodup := by
  have e : row.set m v = row.take m ++ [v] := by
    rw [List.set_eq_take_append_cons_drop]
    rw [if_pos (by omega), List.drop_of_length_le (by omega)]
  rw [e]
  refine List.nodup_append.mpr ⟨(p.sublist (List.take_sublist _ _)).imp fun h => by omega, by simp, fun a ha b hb => ?_⟩
  have := hv a (List.mem_of_mem_take ha)
  rw [List.mem_singleton.mp hb]
  omega
theorem eqvAll_ints : ∀ (a b : List Int), PyData.eqvAll (a.map PyData.int) (b.map PyData.int) = decide (a = b)
  | [], [] => by simp [PyData.eqvAll]
  | [], _ :: _ => by simp [PyData.eqvAll]
  | _ :: _, [] => by simp [PyData.eqvAll]
  | x :: a, y :: b => by
    rw [List.map_cons, List.map_cons, PyData.eqvAll, eqvAll_ints a b]
    have e : PyData.eqv (.int x) (.int y) = decide (x = y) := by
      simp [PyData.eqv]
      try rfl
    rw [e]
    by_cases h : x = y <;> by_cases h2 : a = b <;> simp [h, h2]
theorem eqv_ints (a b : List Int) : PyData.eqv (.tuple (a.map PyData.int)) (.tuple (b.map PyData.int)) = decide (a = b) := by
  rw [PyData.eqv, eqvAll_ints]
def sp__law_is_row (K : PySem.W.Frag) : Sp := fun vs H Q _ => ∃ (v w : V) (a b : List Int), vs = [v, w] ∧ TD K H v (.tuple (a.map PyData.int)) ∧ TD K H w (.tuple (b.map PyData.int)) ∧ a.length ≤ 1000 ∧ ∀ H', Same H H' → Q (.bl (decide (a = b))) H'
theorem ok__law_is_row {P : Program} {w : World} {K : PySem.W.Frag} {mg : Str → Option Value} {base : Heap} {C_NotEnough : Addr} {C_PlayError : Addr} {C_BadCut : Addr} {C_BadPaper : Addr} {C_BadSession : Addr} {C_BadText : Addr} {C_BadWorld : Addr} {C_NoState : Addr} {C_NotFitting : Addr} {C_TooLarge : Addr} {f : Addr} {fd : FuncData} (F : Df K mg "_law_is_row" s__law_is_row f fd ["told", "row"]) (T : Txt K mg C_NotEnough C_PlayError C_BadCut C_BadPaper C_BadSession C_BadText C_BadWorld C_NoState C_NotFitting C_TooLarge)
    (c__law_is_ints : Cl P w K mg base 2 "_law_is_ints" (sp__law_is_ints K)) : FnOk P w K mg base CX0 3 f fd ["told", "row"] (sp__law_is_row K) := by
  refine F.ok sc__law_is_row (fun vs H Q E h => ?_) (fun cdv A outer s H vs Q E hr h => ?_)
  · obtain ⟨v, w, a, b, rfl, _⟩ := h
    rfl
  · obtain ⟨v, w, a, b, rfl, hv, hw, la, q⟩ := h
    refine ⟨_, (pss_one (ps_ret (pe_and (pe_cl c__law_is_ints hr (by decide) rfl (pa_cons (pv 0) pa_nil)) (pe_one (pe_cmpR (r := rEqD K) (op_eqD hr.units) (pv 0) (pv 1) (nomark _)))))), ?_⟩
    try dsimp only [cxOf, Cx.nox, Cx.wish]
    refine st_of (σ' := [some _, some _]) rfl ?_
    wtm_at "jw"
    refine ⟨v, a, rfl, hv, by omega, fun H' s1 => ?_⟩
    wtm_at "jw"
    refine i_eqD (hv.same s1).dp (hw.same s1).dp (shp_ints a) (shp_ints b) (by decide) (by decide) ?_
    rw [eqv_ints]
    wtm_at "jw"
    exact q _ s1
def sp__law_rare (K : PySem.W.Frag) : Sp := fun vs H Q _ => ∃ (p a : Addr) (m : Int), vs = [.ref p, .int m] ∧ DrawAt H p a ∧ 0 < m ∧ m < 1000 ∧ ∀ b H', Drew p a H H' → Q (.bl b) H'
theorem ok__law_rare {P : Program} {w : World} {K : PySem.W.Frag} {mg : Str → Option Value} {base : Heap} {C_NotEnough : Addr} {C_PlayError : Addr} {C_BadCut : Addr} {C_BadPaper : Addr} {C_BadSession : Addr} {C_BadText : Addr} {C_BadWorld : Addr} {C_NoState : Addr} {C_NotFitting : Addr} {C_TooLarge : Addr} {f : Addr} {fd : FuncData} (F : Df K mg "_law_rare" s__law_rare f fd ["d", "many"]) (T : Txt K mg C_NotEnough C_PlayError C_BadCut C_BadPaper C_BadSession C_BadText C_BadWorld C_NoState C_NotFitting C_TooLarge)
    (c__law_draw : Cl P w K mg base 1 "_law_draw" (sp__law_draw K)) : FnOk P w K mg base CX0 2 f fd ["d", "many"] (sp__law_rare K) := by
  refine F.ok sc__law_rare (fun vs H Q E h => ?_) (fun cdv A outer s H vs Q E hr h => ?_)
  · obtain ⟨p, a, m, rfl, _⟩ := h
    rfl
  · obtain ⟨p, a, m, rfl, d0, h0, h1, q⟩ := h
    refine ⟨_, (pss_one (ps_ret (pe_cmpR op_eq (pe_cl c__law_draw hr (by decide) rfl (pa_cons (pv 0) (pa_cons (pv 1) pa_nil))) (pe_op op_fdiv (pv 1) pe_int) (nomark _)))), ?_⟩
    try dsimp only [cxOf, Cx.nox, Cx.wish]
    refine st_of (σ' := [some _, some _]) rfl ?_
    wtm_at "jw"
    refine drawL d0.drew (by omega) (by omega) fun z H' _ _ e w => ?_
    wtm_at "jw"
    exact q _ _ w
def sp__law_numbers (K : PySem.W.Frag) : Sp := fun vs H Q _ => ∃ (p a : Addr) (many : Nat), vs = [.ref p, .int (many : Int)] ∧ DrawAt H p a ∧ many ≤ 100 ∧ ∀ v (row : List Int) H', Drew p a H H' → TD K H' v (.tuple (row.map PyData.int)) → row.length = many → Ok row → Q v H'
theorem ok__law_numbers {P : Program} {w : World} {K : PySem.W.Frag} {mg : Str → Option Value} {base : Heap} {C_NotEnough : Addr} {C_PlayError : Addr} {C_BadCut : Addr} {C_BadPaper : Addr} {C_BadSession : Addr} {C_BadText : Addr} {C_BadWorld : Addr} {C_NoState : Addr} {C_NotFitting : Addr} {C_TooLarge : Addr} {f : Addr} {fd : FuncData} (F : Df K mg "_law_numbers" s__law_numbers f fd ["d", "many"]) (T : Txt K mg C_NotEnough C_PlayError C_BadCut C_BadPaper C_BadSession C_BadText C_BadWorld C_NoState C_NotFitting C_TooLarge)
    (c__law_pick : Cl P w K mg base 2 "_law_pick" (sp__law_pick K))
    (c__law_draw : Cl P w K mg base 1 "_law_draw" (sp__law_draw K)) : FnOk P w K mg base CX0 3 f fd ["d", "many"] (sp__law_numbers K) := by
  refine F.ok sc__law_numbers (fun vs H Q E h => ?_) (fun cdv A outer s H vs Q E hr h => ?_)
  · obtain ⟨p, a, many, rfl, _⟩ := h
    rfl
  · obtain ⟨p, a, many, rfl, d0, hm, q⟩ := h
    refine ⟨_, (pss_cons (ps_set (i := 2) sc__law_numbers.nd rfl (Or.inl rfl) (pe_lst pa_nil))
      (pss_cons (ps_for PassesOwn.never rfl (pi_range1 rfl T.b_range (pa_cons (pv 1) pa_nil)) (pg_name (i := 3) sc__law_numbers.nd rfl (Or.inl rfl)) (pss_one (ps_expr (pe_bmK (K := K) rfl PySem.F.plainAttrs_list PySem.F.slot_list_append PySem.F.type_list_append mt_append (pv 2) (pa_cons (pe_cl c__law_pick hr (by decide) rfl (pa_cons (pv 0) (pa_cons (pe_lst (pa_cons pe_int (pa_cons pe_int (pa_cons pe_int (pa_cons pe_int (pa_cons (pe_cl c__law_draw hr (by decide) rfl (pa_cons (pv 0) (pa_cons pe_int pa_nil))) (pa_cons (pe_cl c__law_draw hr (by decide) rfl (pa_cons (pv 0) (pa_cons pe_int pa_nil))) (pa_cons (pe_cl c__law_draw hr (by decide) rfl (pa_cons (pv 0) (pa_cons pe_int pa_nil))) pa_nil)))))))) pa_nil))) pa_nil)))))
      (pss_one (ps_ret (pe_callTy (T := "tuple") (r := rTupOf K) c_tup (by rfl) T.b_tuple (by decide +kernel) (pa_cons (pv 2) pa_nil)))))), ?_⟩
    try dsimp only [cxOf, Cx.nox, Cx.wish]
    refine st_of (σ' := [some _, some _, none, none]) rfl ?_
    wtm_at "jw"
    intro D hD
    have nD := d0.ne_none hD
    wtm_at "jw"
    refine f_range (fun k σ H' => Drew p a H H' ∧ (∃ row : List Int, H' D = some (.lst (row.map V.int)) ∧ row.length = k ∧ Ok row) ∧ ∃ w3, σ = [some (.ref p), some (.int (many : Int)), some (.ref D), w3]) ⟨d0.drew.new hD, ⟨[], upd_same, rfl, (fun z hz => by cases hz)⟩, none, rfl⟩ (fun k σ H' hk h => ?_) (fun σ H' h => ?_)
    · obtain ⟨w, ⟨row, hrow, lrow, orow⟩, w3, rfl⟩ := h
      wtm_at "jw"
      refine drawL w (by omega) (by omega) fun z1 H1 a1 b1 e1 w1 => ?_
      wtm_at "jw"
      refine drawL w1 (by omega) (by omega) fun z2 H2 a2 b2 e2 w2 => ?_
      wtm_at "jw"
      refine drawL w2 (by omega) (by omega) fun z3 H3 a3 b3 e3 w3 => ?_
      have h3 := e3.kp _ _ (e2.kp _ _ (e1.kp _ _ hrow nD) nD) nD
      wtm_at "jw"
      intro B hB
      refine pickL (E := E0) (fun z => 0 ≤ z ∧ z < 65537) [0, 1, 65535, 65536, z1, z2, z3] w3 hB rfl (by simp) (by simp) (by simp; omega) fun z H4 hz e4 w4 => ?_
      have h4 := e4.kp _ _ h3 nD
      have l4 : (row.map V.int).length ≤ 1000 := by rw [List.length_map]; omega
      wtm_at "jw"
      refine ⟨w4.put d0 hD, ⟨row ++ [z], by rw [upd_same, List.map_append]; rfl, by rw [List.length_append]; show row.length + 1 = _; omega, fun y hy => ?_⟩, _, rfl⟩
      rcases List.mem_append.mp hy with hy | hy
      · exact orow y hy
      · rw [List.mem_singleton.mp hy]; exact hz
    · obtain ⟨w, ⟨row, hrow, lrow, orow⟩, w3, rfl⟩ := h
      wtm_at "jw"
      intro t ht
      exact q _ row _ (w.new ht) (.of upd_same (TDs.ints _)) (by rw [lrow]; simp) orow
def sp__law_points (K : PySem.W.Frag) : Sp := fun vs H Q _ => ∃ (p a : Addr) (many : Nat), vs = [.ref p, .int (many : Int)] ∧ DrawAt H p a ∧ 3 ≤ many ∧ many ≤ 8 ∧
  ∀ (q : Addr) (xs : List Int) H', Drew p a H H' → H q = none → H' q = some (.lst (xs.map V.int)) → xs.length = many → xs.Nodup → (∀ x ∈ xs, 1 ≤ x ∧ x ≤ 65536) → Q (.ref q) H'
theorem ok__law_points {P : Program} {w : World} {K : PySem.W.Frag} {mg : Str → Option Value} {base : Heap} {C_NotEnough : Addr} {C_PlayError : Addr} {C_BadCut : Addr} {C_BadPaper : Addr} {C_BadSession : Addr} {C_BadText : Addr} {C_BadWorld : Addr} {C_NoState : Addr} {C_NotFitting : Addr} {C_TooLarge : Addr} {f : Addr} {fd : FuncData} (F : Df K mg "_law_points" s__law_points f fd ["d", "many"]) (T : Txt K mg C_NotEnough C_PlayError C_BadCut C_BadPaper C_BadSession C_BadText C_BadWorld C_NoState C_NotFitting C_TooLarge)
    (c__law_rare : Cl P w K mg base 2 "_law_rare" (sp__law_rare K))
    (c__law_shuffled : Cl P w K mg base 2 "_law_shuffled" (sp__law_shuffled K))
    (c__law_pick : Cl P w K mg base 2 "_law_pick" (sp__law_pick K))
    (c__law_draw : Cl P w K mg base 1 "_law_draw" (sp__law_draw K)) : FnOk P w K mg base CX0 3 f fd ["d", "many"] (sp__law_points K) := by
  refine F.ok sc__law_points (fun vs H Q E h => ?_) (fun cdv A outer s H vs Q E hr h => ?_)
  · obtain ⟨p, a, many, rfl, _⟩ := h
    rfl
  · obtain ⟨p, a, many, rfl, d0, hm, hm2, q⟩ := h
    refine ⟨_, (pss_cons (ps_set (i := 2) sc__law_points.nd rfl (Or.inl rfl) (pe_lst pa_nil))
      (pss_cons (ps_set (i := 3) sc__law_points.nd rfl (Or.inl rfl) pe_int)
      (pss_cons (ps_for PassesOwn.never rfl (pi_range1 rfl T.b_range (pa_cons (pv 1) pa_nil)) (pg_name (i := 4) sc__law_points.nd rfl (Or.inl rfl)) (pss_cons (ps_set (i := 3) sc__law_points.nd rfl (Or.inl rfl) (pe_op op_add (pe_op op_add (pv 3) pe_int) (pe_cl c__law_pick hr (by decide) rfl (pa_cons (pv 0) (pa_cons (pe_lst (pa_cons pe_int (pa_cons pe_int (pa_cons pe_int (pa_cons (pe_cl c__law_draw hr (by decide) rfl (pa_cons (pv 0) (pa_cons pe_int pa_nil))) (pa_cons (pe_cl c__law_draw hr (by decide) rfl (pa_cons (pv 0) (pa_cons pe_int pa_nil))) pa_nil)))))) pa_nil)))))
      (pss_one (ps_expr (pe_bmK (K := K) rfl PySem.F.plainAttrs_list PySem.F.slot_list_append PySem.F.type_list_append mt_append (pv 2) (pa_cons (pv 3) pa_nil))))))
      (pss_cons (ps_if (pt_val (pe_cl c__law_rare hr (by decide) rfl (pa_cons (pv 0) (pa_cons pe_int pa_nil)))) (pss_one (ps_asg pe_int (pg_sub (pv 2) (pe_op op_sub (pv 1) pe_int) set_list))) pss_nil)
      (pss_one (ps_ret (pe_cl c__law_shuffled hr (by decide) rfl (pa_cons (pv 0) (pa_cons (pv 2) pa_nil))))))))), ?_⟩
    try dsimp only [cxOf, Cx.nox, Cx.wish]
    refine st_of (σ' := [some _, some _, none, none, none]) rfl ?_
    wtm_at "jw"
    intro D hD
    have nD := d0.ne_none hD
    wtm_at "jw"
    refine f_range (fun k σ H' => Drew p a H H' ∧ (∃ (row : List Int) (x : Int), H' D = some (.lst (row.map V.int)) ∧ row.length = k ∧ row.Pairwise (· < ·) ∧ (∀ y ∈ row, 1 ≤ y ∧ y ≤ x) ∧ 0 ≤ x ∧ x ≤ 8001 * k ∧ ∃ w4, σ = [some (.ref p), some (.int (many : Int)), some (.ref D), some (.int x), w4]))
      ⟨d0.drew.new hD, ⟨[], 0, upd_same, rfl, .nil, (fun z hz => by cases hz), by decide, by decide, none, rfl⟩⟩ (fun k σ H' hk h => ?_) (fun σ H' h => ?_)
    · obtain ⟨w, ⟨row, x, hrow, lrow, prow, brow, x0, x1, w4, rfl⟩⟩ := h
      wtm_at "jw"
      refine drawL w (by omega) (by omega) fun z1 H1 a1 b1 e1 w1 => ?_
      wtm_at "jw"
      refine drawL w1 (by omega) (by omega) fun z2 H2 a2 b2 e2 w2 => ?_
      have h2 := e2.kp _ _ (e1.kp _ _ hrow nD) nD
      wtm_at "jw"
      intro B hB
      refine pickL (E := E0) (fun z => 0 ≤ z ∧ z < 8000) [0, 0, 3, z1, z2] w2 hB rfl (by simp) (by simp) (by simp; omega) fun z H4 hz e4 w4 => ?_
      have h4 := e4.kp _ _ h2 nD
      have l4 : (row.map V.int).length ≤ 1000 := by rw [List.length_map]; omega
      wtm_at "jw"
      refine ⟨w4.put d0 hD, ⟨row ++ [x + 1 + z], x + 1 + z, by rw [upd_same, List.map_append]; rfl, by rw [List.length_append]; show row.length + 1 = _; omega, ?_, fun y hy => ?_, by omega, by omega, _, rfl⟩⟩
      · refine List.pairwise_append.mpr ⟨prow, List.pairwise_singleton _ _, fun y hy z hz => ?_⟩
        have := brow y hy
        rw [List.mem_singleton.mp hz]
        omega
      · rcases List.mem_append.mp hy with hy | hy
        · have := brow y hy
          omega
        · rw [List.mem_singleton.mp hy]
          omega
    · obtain ⟨w, ⟨row, x, hrow, lrow, prow, brow, x0, x1, w4, rfl⟩⟩ := h
      have lm : row.length = many := by rw [lrow]; simp
      wtm_at "js"
      refine i_ifC (fun σ' H1 => Drew p a H H1 ∧ (∃ row' : List Int, H1 D = some (.lst (row'.map V.int)) ∧ row'.length = many ∧ row'.Nodup ∧ ∀ y ∈ row', 1 ≤ y ∧ y ≤ 65536) ∧ σ' = [some (.ref p), some (.int (many : Int)), some (.ref D), some (.int x), w4]) (fun σ' H1 h => ?_) (fun N hN => ?_)
      · obtain ⟨w1, ⟨row', hr', lr', nr', br'⟩, rfl⟩ := h
        wtm_at "jw"
        refine ⟨p, a, D, _, rfl, w1.at_, .inl (SqL.of hr'), by rw [List.length_map]; omega, fun r ys H2 w2 hr2 hys hperm => ?_⟩
        obtain ⟨zs, rfl, hzs⟩ := perm_map (f := V.int) hperm rfl
        exact q _ zs _ (w1.trans w2) (w1.free hr2) hys (by rw [hzs.length_eq, lr']) (hzs.nodup_iff.mpr nr') fun y hy => br' y (hzs.mem_iff.mp hy)
      · wtm_at "jw"
        refine ⟨p, a, 5, rfl, w.at_, by decide, by decide, fun b H1 w1 => ?_⟩
        have h1 := w1.kp _ _ hrow nD
        wtm_at "jw"
        refine c_bool (fun _ => ?_) (fun _ => ?_)
        · have ix : ixN (row.map V.int).length ((many : Int) - 1) = some (many - 1) := by
            rw [ixN_of (by omega) (by rw [List.length_map]; omega)]
            congr 1
            omega
          wtm_at "jw"
          refine hN _ _ ⟨(w.trans w1).put d0 hD, ⟨row.set (many - 1) 65536, by rw [upd_same, List.map_set], by rw [List.length_set, lm], ?_, fun y hy => ?_⟩, rfl⟩
          · exact set_last_nodup prow (by omega) fun y hy => by have := brow y hy; omega
          · rcases List.mem_or_eq_of_mem_set hy with hy | hy
            · have := brow y hy
              omega
            · omega
        · wtm_at "jw"
          refine hN _ _ ⟨w.trans w1, ⟨row, h1, lm, ?_, fun y hy => by have := brow y hy; omega⟩, rfl⟩
          exact prow.imp fun h => by omega
def sp__law_wrong (K : PySem.W.Frag) : Sp := fun vs H Q _ => ∃ (p a : Addr) (v : V) (l : List Int), vs = [.ref p, v] ∧ DrawAt H p a ∧ TD K H v (.tuple (l.map PyData.int)) ∧ 0 < l.length ∧ l.length ≤ 100 ∧ Ok l ∧
  ∀ v' (l' : List Int) (k : Nat) H', Drew p a H H' → TD K H' v' (.tuple (l'.map PyData.int)) → l'.length = l.length → Ok l' → k < l.length → phi (M55.g l' k) ≠ phi (M55.g l k) → Q v' H'
theorem ok__law_wrong {P : Program} {w : World} {K : PySem.W.Frag} {mg : Str → Option Value} {base : Heap} {C_NotEnough : Addr} {C_PlayError : Addr} {C_BadCut : Addr} {C_BadPaper : Addr} {C_BadSession : Addr} {C_BadText : Addr} {C_BadWorld : Addr} {C_NoState : Addr} {C_NotFitting : Addr} {C_TooLarge : Addr} {f : Addr} {fd : FuncData} (F : Df K mg "_law_wrong" s__law_wrong f fd ["d", "values"]) (T : Txt K mg C_NotEnough C_PlayError C_BadCut C_BadPaper C_BadSession C_BadText C_BadWorld C_NoState C_NotFitting C_TooLarge)
    (c__law_draw : Cl P w K mg base 1 "_law_draw" (sp__law_draw K)) : FnOk P w K mg base CX0 2 f fd ["d", "values"] (sp__law_wrong K) := by
  refine F.ok sc__law_wrong (fun vs H Q E h => ?_) (fun cdv A outer s H vs Q E hr h => ?_)
  · obtain ⟨p, a, v, l, rfl, _⟩ := h
    rfl
  · obtain ⟨p, a, v, l, rfl, d0, hv, l0, l1, ol, q⟩ := h
    obtain ⟨va, vx, rfl, vS, vT⟩ := hv.tup_inv
    rw [vT.ints_inv] at vS
    refine ⟨_, (pss_cons (ps_set (i := 2) sc__law_wrong.nd rfl (Or.inl rfl) (pe_callTy (T := "list") (r := rLstOf K) c_lst (by rfl) T.b_list (by decide +kernel) (pa_cons (pv 1) pa_nil)))
      (pss_cons (ps_set (i := 3) sc__law_wrong.nd rfl (Or.inl rfl) (pe_cl c__law_draw hr (by decide) rfl (pa_cons (pv 0) (pa_cons (pe_callB (id := "len") (r := qLen K) c_len (by rfl) T.b_len (by decide +kernel) (pa_cons (pv 2) pa_nil)) pa_nil))))
      (pss_cons (ps_asg (pe_op op_mod (pe_callTy (T := "int") c_int (by rfl) T.b_int (by decide +kernel) (pa_cons (pe_op op_add (pe_op op_add (pe_ix (r := rIxL K) ix_list (pv 2) (pv 3) (fun _ _ => rfl)) pe_int) (pe_cl c__law_draw hr (by decide) rfl (pa_cons (pv 0) (pa_cons pe_int pa_nil)))) pa_nil)) pe_int) (pg_sub (pv 2) (pv 3) set_list))
      (pss_one (ps_ret (pe_callTy (T := "tuple") (r := rTupOf K) c_tup (by rfl) T.b_tuple (by decide +kernel) (pa_cons (pv 2) pa_nil))))))), ?_⟩
    try dsimp only [cxOf, Cx.nox, Cx.wish]
    refine st_of (σ' := [some _, some _, none, none]) rfl ?_
    wtm_at "jw"
    intro D hD
    have nD := d0.ne_none hD
    wtm_at "jw"
    rw [List.length_map]
    refine drawL (d0.drew.new hD) (by omega) (by omega) fun z H1 a1 b1 e1 w1 => ?_
    have h1 := e1.kp _ _ upd_same nD
    have hz : z.toNat < l.length := by omega
    have az : atI (l.map V.int) z = some (.int (M55.g l z.toNat)) := by
      have := atI_nat (xs := l.map V.int) (j := z.toNat) (v := .int (M55.g l z.toNat)) (by rw [List.getElem?_map, List.getElem?_eq_getElem hz]; unfold M55.g; rw [List.getElem?_eq_getElem hz]; rfl)
      rw [Int.toNat_of_nonneg a1] at this
      exact this
    have ix : ixN (l.map V.int).length z = some z.toNat := ixN_of a1 (by rw [List.length_map]; omega)
    wtm_at "jw"
    refine drawL w1 (by omega) (by omega) fun y H2 a2 b2 e2 w2 => ?_
    have h2 := e2.kp _ _ h1 nD
    wtm_at "jw"
    intro t ht
    have gz := ol.g z.toNat
    have hw : 0 ≤ (M55.g l z.toNat + 1 + y) % 65537 ∧ (M55.g l z.toNat + 1 + y) % 65537 < 65537 := by omega
    have es : ((l.map V.int).set z.toNat (.int ((M55.g l z.toNat + 1 + y) % 65537))) = (l.set z.toNat ((M55.g l z.toNat + 1 + y) % 65537)).map V.int := by rw [List.map_set]
    refine q _ (l.set z.toNat ((M55.g l z.toNat + 1 + y) % 65537)) z.toNat _ ((w2.put d0 hD).new ht) (.of (by rw [upd_same, es]) (TDs.ints _)) (by rw [List.length_set]) (fun u hu => ?_) hz ?_
    · rcases List.mem_or_eq_of_mem_set hu with hu | hu
      · exact ol u hu
      · rw [hu]; exact hw
    · unfold M55.g
      rw [List.getElem?_set_self hz]
      show phi ((M55.g l z.toNat + 1 + y) % 65537) ≠ phi (M55.g l z.toNat)
      intro e
      have := (M55.phi_iff _ _).mp e
      omega
def sp__law_refused (K : PySem.W.Frag) : Sp := fun vs H Q _ => ∃ (v : V) (ps : List Pr) (many : Nat), vs = [v, .int (many : Int)] ∧ TD K H v (.tuple (ps.map pvD)) ∧ ps.length ≤ 100 ∧ many ≤ 100 ∧ (∀ p ∈ ps, grp many ≤ p.2.length ∧ (0 ≤ p.1 ∧ p.1 < 100000) ∧ Ok p.2) ∧
  (dp ps).length < 3 ∧ ∀ H', Same H H' → Q (.int ((dp ps).length : Int)) H'
theorem ok__law_refused {P : Program} {w : World} {K : PySem.W.Frag} {mg : Str → Option Value} {base : Heap} {C_NotEnough : Addr} {C_PlayError : Addr} {C_BadCut : Addr} {C_BadPaper : Addr} {C_BadSession : Addr} {C_BadText : Addr} {C_BadWorld : Addr} {C_NoState : Addr} {C_NotFitting : Addr} {C_TooLarge : Addr} {f : Addr} {fd : FuncData} (F : Df K mg "_law_refused" s__law_refused f fd ["pairs", "many"]) (T : Txt K mg C_NotEnough C_PlayError C_BadCut C_BadPaper C_BadSession C_BadText C_BadWorld C_NoState C_NotFitting C_TooLarge)
    (c_joined : Clx P w K mg base 4 "joined" (sp_joined K C_NotEnough)) : FnOk P w K mg base CX0 5 f fd ["pairs", "many"] (sp__law_refused K) := by
  refine F.ok sc__law_refused (fun vs H Q E h => ?_) (fun cdv A outer s H vs Q E hr h => ?_)
  · obtain ⟨v, ps, many, rfl, _⟩ := h
    rfl
  · obtain ⟨v, ps, many, rfl, hv, hl, hm, hp, h3, q⟩ := h
    refine ⟨_, (pss_cons (ps_tryJ (i := 2) rfl rfl sc__law_refused.nd rfl rfl ⟨rfl, by decide, .inl T.mg_PlayError⟩ (fun W pn xe tk _ => (pss_one (ps_expr (pe_clxS c_joined tk hr (by decide) rfl (pa_cons (pv 0) (pa_cons (pv 1) pa_nil)))))) (fun a oe cls d pn hz hf => (pss_cons (ps_if (pt_val (pe_callB (id := "isinstance") (call_isTJ hz hf) (by rfl) T.b_isinstance (by decide +kernel) (pa_cons (pv 2) (pa_cons (pe_tup (pa_cons (pe_glob (v := .ref C_BadCut) rfl T.mg_BadCut rfl) (pa_cons (pe_glob (v := .ref C_BadPaper) rfl T.mg_BadPaper rfl) (pa_cons (pe_glob (v := .ref C_BadSession) rfl T.mg_BadSession rfl) (pa_cons (pe_glob (v := .ref C_BadText) rfl T.mg_BadText rfl) (pa_cons (pe_glob (v := .ref C_BadWorld) rfl T.mg_BadWorld rfl) (pa_cons (pe_glob (v := .ref C_NoState) rfl T.mg_NoState rfl) (pa_cons (pe_glob (v := .ref C_NotFitting) rfl T.mg_NotFitting rfl) (pa_cons (pe_glob (v := .ref C_TooLarge) rfl T.mg_TooLarge rfl) pa_nil))))))))) pa_nil)))) (pss_one (ps_ret pe_non)) pss_nil)
      (pss_one (ps_if (pt_val (pe_callB (id := "isinstance") (call_isJ hz hf) (by rfl) T.b_isinstance (by decide +kernel) (pa_cons (pv 2) (pa_cons (pe_glob (v := .ref C_NotEnough) rfl T.mg_NotEnough rfl) pa_nil)))) (pss_one (ps_ret (pe_xfJ hz hf (pv 2)))) pss_nil)))))
      (pss_one (ps_ret pe_non))), ?_⟩
    try dsimp only [cxOf, Cx.nox, Cx.wish]
    refine st_of (σ' := [some _, some _, none]) rfl ?_
    wtm_at "jw"
    refine ⟨v, ps, many, rfl, hv, hl, hm, hp, .inr ⟨h3, fun dd H1 s1 hd => ?_⟩⟩
    refine caught T.xc_NotEnough.exm fun a ha => ?_
    dsimp only
    wtm_at "jw"
    intro t ht
    have hd2 := same_new (o := .tup [V.ref C_BadCut, V.ref C_BadPaper, V.ref C_BadSession, V.ref C_BadText, V.ref C_BadWorld, V.ref C_NoState, V.ref C_NotFitting, V.ref C_TooLarge]) ht _ _ hd
    refine i_isTJ (cs := [C_BadCut, C_BadPaper, C_BadSession, C_BadText, C_BadWorld, C_NoState, C_NotFitting, C_TooLarge]) T.xc_NotEnough.is upd_same hd2 T.kt_NotEnough_0 ?_
    wtm_at "jw"
    refine i_isJ T.xc_NotEnough.is hd2 T.ki_NotEnough_NotEnough ?_
    wtm_at "jw"
    refine i_xf T.xc_NotEnough.xf T.nf_NotEnough_many ?_
    wtm_at "jw"
    refine ⟨rfl, rfl, dd, _, _, rfl, hd2, rfl, ?_⟩
    exact q _ (fun b o hb => same_new ht _ _ (s1 _ _ hb))
/-- a pair stands at a, its values at b -/
structure PrAt (K : PySem.W.Frag) (H : Hp) (a b : Addr) (p : Pr) : Prop where
  s : SqT K H a [.int p.1, .ref b]
  v : SqT K H b (p.2.map V.int)
theorem PrAt.tps {K : PySem.W.Frag} {H H' : Hp} {a b : Addr} {p : Pr} (h : PrAt K H a b p) (t : Tps H H') : PrAt K H' a b p := ⟨t.sq h.s, t.sq h.v⟩
theorem PrAt.vd {K : PySem.W.Frag} {H : Hp} {a b : Addr} {p : Pr} (h : PrAt K H a b p) : TD K H (.ref b) (.tuple (p.2.map PyData.int)) := .tup h.v (TDs.ints _)
theorem PrAt.td {K : PySem.W.Frag} {H : Hp} {a b : Addr} {p : Pr} (h : PrAt K H a b p) : TD K H (.ref a) (pvD p) := .tup h.s (.cons (.int _) (.cons h.vd .nil))
theorem TD.prAt {K : PySem.W.Frag} {H : Hp} {v : V} {p : Pr} (h : TD K H v (Law.pvD p)) : ∃ a b, v = .ref a ∧ PrAt K H a b p := by
  obtain ⟨a, b, xs, rfl, h1, h2, rfl⟩ := h.pr_inv
  exact ⟨a, b, rfl, h1, h2⟩
theorem TDs.perm {K : PySem.W.Frag} {H : Hp} : ∀ {ys xs : List V}, ys.Perm xs → ∀ {ds : List PyData}, TDs K H xs ds → ∃ ds', ds'.Perm ds ∧ TDs K H ys ds' := by
  intro ys xs h
  induction h with
  | nil => intro ds t; exact ⟨ds, .refl _, t⟩
  | cons x _ ih =>
    intro ds t
    cases t with
    | cons a r =>
      obtain ⟨ds', h1, h2⟩ := ih r
      exact ⟨_, h1.cons _, .cons a h2⟩
  | swap x y l =>
    intro ds t
    cases t with
    | cons a r =>
      cases r with
      | cons b r => exact ⟨_, .swap .., .cons b (.cons a r)⟩
  | trans _ _ ih1 ih2 =>
    intro ds t
    obtain ⟨d1, h1, t1⟩ := ih2 t
    obtain ⟨d2, h2, t2⟩ := ih1 t1
    exact ⟨d2, h2.trans h1, t2⟩
/-- the pairs of a row -/
def prow (row : List Int) (xs : List Int) : List Pr := xs.map fun x => (x, evL row x)
structure GoodX (xs : List Int) : Prop where
  lo : 3 ≤ xs.length
  hi : xs.length ≤ 8
  nd : xs.Nodup
  b : ∀ x ∈ xs, 1 ≤ x ∧ x ≤ 65536
theorem GoodX.d3 {x1 x2 x3 : Int} {r : List Int} (g : GoodX (x1 :: x2 :: x3 :: r)) : D3 x1 x2 x3 := by
  have nd := g.nd
  simp only [List.nodup_cons, List.mem_cons, not_or] at nd
  exact ⟨g.b _ (by simp), g.b _ (by simp), g.b _ (by simp), nd.1.1, nd.1.2.1, nd.2.1.1⟩
theorem GoodX.perm {xs ys : List Int} (g : GoodX xs) (h : ys.Perm xs) : GoodX ys := ⟨by rw [h.length_eq]; exact g.lo, by rw [h.length_eq]; exact g.hi, h.nodup_iff.mpr g.nd, fun x hx => g.b x (h.mem_iff.mp hx)⟩
theorem three_of {K : PySem.W.Frag} {H : Hp} {ys vs : List V} {xs row : List Int} (g : GoodX xs) (t : TDs K H vs ((prow row xs).map pvD)) (h : ys.Perm vs) : ∃ (a1 b1 a2 b2 a3 b3 : Addr) (yr : List V) (x1 x2 x3 : Int), ys = .ref a1 :: .ref a2 :: .ref a3 :: yr ∧ D3 x1 x2 x3 ∧ PrAt K H a1 b1 (x1, evL row x1) ∧ PrAt K H a2 b2 (x2, evL row x2) ∧ PrAt K H a3 b3 (x3, evL row x3) := by
  obtain ⟨ds, hp, t2⟩ := t.perm h
  unfold prow at hp
  rw [List.map_map] at hp
  obtain ⟨zs, rfl, hz⟩ := perm_map hp rfl
  have g2 := g.perm hz
  have lo := g2.lo
  match zs, lo with
  | x1 :: x2 :: x3 :: r, _ =>
    cases t2 with
    | cons h1 t2 =>
      cases t2 with
      | cons h2 t2 =>
        cases t2 with
        | cons h3 t2 =>
          obtain ⟨a1, b1, rfl, p1⟩ := TD.prAt h1
          obtain ⟨a2, b2, rfl, p2⟩ := TD.prAt h2
          obtain ⟨a3, b3, rfl, p3⟩ := TD.prAt h3
          exact ⟨a1, b1, a2, b2, a3, b3, _, x1, x2, x3, rfl, g2.d3, p1, p2, p3⟩
theorem good_p {row : List Int} {x : Int} (hx : 1 ≤ x ∧ x ≤ 65536) : grp row.length ≤ (evL row x).length ∧ (0 ≤ x ∧ x < 100000) ∧ Ok (evL row x) := ⟨by rw [M55.evL_len]; exact Nat.le_refl _, by omega, M55.evL_ok _ _⟩
theorem cut3 (v1 v2 v3 : V) (r : List V) : cutV (v1 :: v2 :: v3 :: r) none (some 3) = [v1, v2, v3] := by
  unfold cutV
  rw [show (3 : Int) = ((3 : Nat) : Int) from rfl, HT.sIx_nat, HT.sIx_none, Nat.sub_zero, List.drop_zero, Nat.min_eq_left (by simp)]
  rfl
def sp__law_is_any_three (K : PySem.W.Frag) : Sp := fun vs H Q _ => ∃ (p a P : Addr) (w : V) (row xs : List Int), vs = [.ref p, .ref P, w] ∧ DrawAt H p a ∧ P ≠ p ∧ LD K H P ((prow row xs).map pvD) ∧ TD K H w (.tuple (row.map PyData.int)) ∧ Ok row ∧ row.length ≤ 100 ∧ GoodX xs ∧ ∀ H', Drew p a H H' → Q (.bl true) H'
theorem ok__law_is_any_three {P : Program} {w : World} {K : PySem.W.Frag} {mg : Str → Option Value} {base : Heap} {C_NotEnough : Addr} {C_PlayError : Addr} {C_BadCut : Addr} {C_BadPaper : Addr} {C_BadSession : Addr} {C_BadText : Addr} {C_BadWorld : Addr} {C_NoState : Addr} {C_NotFitting : Addr} {C_TooLarge : Addr} {f : Addr} {fd : FuncData} (F : Df K mg "_law_is_any_three" s__law_is_any_three f fd ["d", "pairs", "row"]) (T : Txt K mg C_NotEnough C_PlayError C_BadCut C_BadPaper C_BadSession C_BadText C_BadWorld C_NoState C_NotFitting C_TooLarge)
    (c__law_is_row : Cl P w K mg base 3 "_law_is_row" (sp__law_is_row K))
    (c__law_shuffled : Cl P w K mg base 2 "_law_shuffled" (sp__law_shuffled K))
    (c__law_wrong : Cl P w K mg base 2 "_law_wrong" (sp__law_wrong K))
    (c_joined : Clx P w K mg base 4 "joined" (sp_joined K C_NotEnough)) : FnOk P w K mg base CX0 5 f fd ["d", "pairs", "row"] (sp__law_is_any_three K) := by
  refine F.ok sc__law_is_any_three (fun vs H Q E h => ?_) (fun cdv A outer s H vs Q E hr h => ?_)
  · obtain ⟨p, a, P, w, row, xs, rfl, _⟩ := h
    rfl
  · obtain ⟨p, a, P, wv, row, xs, rfl, d0, nP, ⟨vs, hP, hPT⟩, hw, orow, lrow, g, q⟩ := h
    have lvs : vs.length = xs.length := by rw [hPT.len]; unfold prow; simp
    have hi := g.hi
    refine ⟨_, (pss_cons (ps_set (i := 3) sc__law_is_any_three.nd rfl (Or.inl rfl) (pe_callB (id := "len") (r := qLen K) c_len (by rfl) T.b_len (by decide +kernel) (pa_cons (pv 2) pa_nil)))
      (pss_cons (ps_if (pt_not (pt_val (pe_cl c__law_is_row hr (by decide) rfl (pa_cons (pe_clx c_joined hr (by decide) rfl (pa_cons (pe_callTy (T := "tuple") (r := rTupOf K) c_tup (by rfl) T.b_tuple (by decide +kernel) (pa_cons (pv 1) pa_nil)) (pa_cons (pv 3) pa_nil))) (pa_cons (pv 2) pa_nil))))) (pss_one (ps_ret pe_bl)) pss_nil)
      (pss_cons (ps_for PassesOwn.never rfl (pi_range1 rfl T.b_range (pa_cons pe_int pa_nil)) (pg_name (i := 4) sc__law_is_any_three.nd rfl (Or.inl rfl)) (pss_cons (ps_set (i := 5) sc__law_is_any_three.nd rfl (Or.inl rfl) (pe_slice (r := rSlL K) sl_list (pe_cl c__law_shuffled hr (by decide) rfl (pa_cons (pv 0) (pa_cons (pv 1) pa_nil))) po_none (po_some pe_int)))
      (pss_one (ps_if (pt_not (pt_val (pe_cl c__law_is_row hr (by decide) rfl (pa_cons (pe_clx c_joined hr (by decide) rfl (pa_cons (pe_callTy (T := "tuple") (r := rTupOf K) c_tup (by rfl) T.b_tuple (by decide +kernel) (pa_cons (pv 5) pa_nil)) (pa_cons (pv 3) pa_nil))) (pa_cons (pv 2) pa_nil))))) (pss_one (ps_ret pe_bl)) pss_nil))))
      (pss_cons (ps_asg (pe_slice (r := rSlL K) sl_list (pe_cl c__law_shuffled hr (by decide) rfl (pa_cons (pv 0) (pa_cons (pv 1) pa_nil))) po_none (po_some pe_int)) (pg_lst rfl (pgs_cons (pg_name (i := 6) sc__law_is_any_three.nd rfl (Or.inl rfl)) (pgs_cons (pg_name (i := 7) sc__law_is_any_three.nd rfl (Or.inl rfl)) (pgs_cons (pg_name (i := 5) sc__law_is_any_three.nd rfl (Or.inl rfl)) pgs_nil)))))
      (pss_cons (ps_if (pt_not (pt_val (pe_cl c__law_is_row hr (by decide) rfl (pa_cons (pe_clx c_joined hr (by decide) rfl (pa_cons (pe_tup (pa_cons (pv 6) (pa_cons (pv 6) (pa_cons (pv 7) (pa_cons (pv 6) (pa_cons (pv 7) (pa_cons (pv 5) (pa_cons (pv 5) pa_nil)))))))) (pa_cons (pv 3) pa_nil))) (pa_cons (pv 2) pa_nil))))) (pss_one (ps_ret pe_bl)) pss_nil)
      (pss_cons (ps_if (pt_cmpR op_eq (pv 3) pe_int (nomark _)) (pss_one (ps_ret pe_bl)) pss_nil)
      (pss_cons (ps_set (i := 8) sc__law_is_any_three.nd rfl (Or.inl rfl) (pe_tup (pa_cons (pe_ix (r := rIxT K) ix_tup (pv 6) pe_int (fun _ _ => rfl)) (pa_cons (pe_cl c__law_wrong hr (by decide) rfl (pa_cons (pv 0) (pa_cons (pe_ix (r := rIxT K) ix_tup (pv 6) pe_int (fun _ _ => rfl)) pa_nil))) pa_nil))))
      (pss_cons (ps_set (i := 9) sc__law_is_any_three.nd rfl (Or.inl rfl) (pe_tup (pa_cons (pe_ix (r := rIxT K) ix_tup (pv 7) pe_int (fun _ _ => rfl)) (pa_cons (pe_cl c__law_wrong hr (by decide) rfl (pa_cons (pv 0) (pa_cons (pe_ix (r := rIxT K) ix_tup (pv 7) pe_int (fun _ _ => rfl)) pa_nil))) pa_nil))))
      (pss_cons (ps_set (i := 10) sc__law_is_any_three.nd rfl (Or.inl rfl) (pe_tup (pa_cons (pe_op op_add pe_int (pe_op op_mod (pe_callTy (T := "int") c_int (by rfl) T.b_int (by decide +kernel) (pa_cons (pe_ix (r := rIxT K) ix_tup (pv 5) pe_int (fun _ _ => rfl)) pa_nil)) pe_int)) (pa_cons (pe_cl c__law_wrong hr (by decide) rfl (pa_cons (pv 0) (pa_cons (pe_ix (r := rIxT K) ix_tup (pv 5) pe_int (fun _ _ => rfl)) pa_nil))) pa_nil))))
      (pss_cons (ps_if (pt_not (pt_val (pe_cl c__law_is_row hr (by decide) rfl (pa_cons (pe_clx c_joined hr (by decide) rfl (pa_cons (pe_tup (pa_cons (pv 6) (pa_cons (pv 8) (pa_cons (pv 7) (pa_cons (pv 9) (pa_cons (pv 8) (pa_cons (pv 5) (pa_cons (pv 10) pa_nil)))))))) (pa_cons (pv 3) pa_nil))) (pa_cons (pv 2) pa_nil))))) (pss_one (ps_ret pe_bl)) pss_nil)
      (pss_one (ps_ret (pe_not (pe_cl c__law_is_row hr (by decide) rfl (pa_cons (pe_clx c_joined hr (by decide) rfl (pa_cons (pe_tup (pa_cons (pv 8) (pa_cons (pv 6) (pa_cons (pv 7) (pa_cons (pv 5) pa_nil))))) (pa_cons (pv 3) pa_nil))) (pa_cons (pv 2) pa_nil)))))))))))))))), ?_⟩
    try dsimp only [cxOf, Cx.nox, Cx.wish]
    refine st_of (σ' := [some _, some _, some _, none, none, none, none, none, none, none, none]) rfl ?_
    wtm_at "jw"
    rw [List.length_map]
    intro t ht
    have s1 := same_new (o := .tup vs) ht
    have tt : TD K (upd H t (.tup vs)) (.ref t) (.tuple ((prow row xs).map pvD)) := .new ht hPT
    have w1 := d0.drew.new (o := .tup vs) ht
    generalize upd H t (.tup vs) = H1 at s1 tt w1 ⊢
    obtain ⟨x1, x2, x3, xr, rfl⟩ : ∃ x1 x2 x3 xr, xs = x1 :: x2 :: x3 :: xr := by
      match xs, g.lo with
      | x1 :: x2 :: x3 :: xr, _ => exact ⟨x1, x2, x3, xr, rfl⟩
    have ed : dp (prow row (x1 :: x2 :: x3 :: xr)) = [(x1, evL row x1), (x2, evL row x2), (x3, evL row x3)] := M55.dp_first (p1 := (x1, evL row x1)) (p2 := (x2, evL row x2)) (p3 := (x3, evL row x3)) g.d3 _
    wtm_at "jw"
    refine ⟨_, _, row.length, rfl, tt, by unfold prow; rw [List.length_map]; omega, lrow, fun pp hpp => ?_, .inl ⟨_, _, _, ed, fun v' H2 s2 t2 => ?_⟩⟩
    · unfold prow at hpp
      obtain ⟨x, hx, rfl⟩ := List.mem_map.mp hpp
      exact good_p (g.b x hx)
    rw [M55.join_back orow g.d3] at t2
    have w2 := w1.same s2
    have hw2 := hw.tps (w2.tps d0)
    have hP2 := w2.kp _ _ hP nP
    wtm_at "jw"
    refine ⟨v', wv, row, row, rfl, t2, hw2, by omega, fun H3 s3 => ?_⟩
    have w3 := w2.same s3
    wtm_at "jw"
    rw [decide_eq_true (rfl : row = row)]
    wtm_at "jw"
    refine f_range (fun k σ H' => Drew p a H H' ∧ ∃ w4 w5, σ = [some (.ref p), some (.ref P), some wv, some (.int (row.length : Int)), w4, w5, none, none, none, none, none]) ⟨w3, none, none, rfl⟩ (fun k σ H' hk h => ?_) (fun σ H' h => ?_)
    · obtain ⟨w4, _, _, rfl⟩ := h
      have hP4 := w4.kp _ _ hP nP
      have hPT4 := hPT.tps (w4.tps d0)
      wtm_at "jw"
      refine ⟨p, a, P, vs, rfl, w4.at_, .inl (SqL.of hP4), by omega, fun y ys H5 w5 hy hys hperm => ?_⟩
      obtain ⟨a1, b1, a2, b2, a3, b3, yr, x1, x2, x3, rfl, d3, p1, p2, p3⟩ := three_of g (hPT4.tps (w5.tps w4.at_)) hperm
      have w5' := w4.trans w5
      wtm_at "jw"
      refine i_slL (SqL.of hys) fun r H6 s6 n6 h6 => ?_
      rw [cut3] at h6
      have w6 := w5'.same s6
      wtm_at "jw"
      intro t ht
      have s7 := same_new (o := .tup [V.ref a1, .ref a2, .ref a3]) ht
      have w7 := w6.same s7
      have s57 : Same H5 (upd H6 t (.tup [V.ref a1, .ref a2, .ref a3])) := fun b o hb => s7 _ _ (s6 _ _ hb)
      have t57 := Tps.of s57
      have tt7 : TD K (upd H6 t (.tup [V.ref a1, .ref a2, .ref a3])) (.ref t) (.tuple ([((x1, evL row x1) : Pr), (x2, evL row x2), (x3, evL row x3)].map pvD)) := .of upd_same (.cons (p1.tps t57).td (.cons (p2.tps t57).td (.cons (p3.tps t57).td .nil)))
      generalize upd H6 t (.tup [V.ref a1, .ref a2, .ref a3]) = H7 at s7 w7 tt7 ⊢
      wtm_at "jw"
      refine ⟨_, _, row.length, rfl, tt7, by show 3 ≤ 100; decide, lrow, fun pp hpp => ?_, .inl ⟨_, _, _, M55.dp_first (p1 := (x1, evL row x1)) (p2 := (x2, evL row x2)) (p3 := (x3, evL row x3)) d3 _, fun v' H8 s8 t8 => ?_⟩⟩
      · simp only [List.mem_cons, List.not_mem_nil, or_false] at hpp
        rcases hpp with rfl | rfl | rfl
        · exact good_p d3.a
        · exact good_p d3.b
        · exact good_p d3.c
      rw [M55.join_back orow d3] at t8
      have w8 := w7.same s8
      have hw8 := hw.tps (w8.tps d0)
      wtm_at "jw"
      refine ⟨v', wv, row, row, rfl, t8, hw8, by omega, fun H9 s9 => ?_⟩
      rw [decide_eq_true (rfl : row = row)]
      wtm_at "jw"
      exact ⟨w8.same s9, _, _, rfl⟩
    · obtain ⟨w4, _, _, rfl⟩ := h
      have hP4 := w4.kp _ _ hP nP
      have hPT4 := hPT.tps (w4.tps d0)
      wtm_at "jw"
      refine ⟨p, a, P, vs, rfl, w4.at_, .inl (SqL.of hP4), by omega, fun y ys H5 w5 hy hys hperm => ?_⟩
      obtain ⟨a1, b1, a2, b2, a3, b3, yr, x1, x2, x3, rfl, d3, p1, p2, p3⟩ := three_of g (hPT4.tps (w5.tps w4.at_)) hperm
      have w5' := w4.trans w5
      wtm_at "jw"
      refine i_slL (SqL.of hys) fun r H6 s6 n6 h6 => ?_
      rw [cut3] at h6
      have w6 := w5'.same s6
      refine i_gLst (SqL.of h6) rfl ?_
      wtm_at "jw"
      intro t ht
      have s7 := same_new (o := .tup [V.ref a1, .ref a1, .ref a2, .ref a1, .ref a2, .ref a3, .ref a3]) ht
      have w7 := w6.same s7
      have t57 : Tps H5 (upd H6 t (.tup [V.ref a1, .ref a1, .ref a2, .ref a1, .ref a2, .ref a3, .ref a3])) := Tps.of fun b o hb => s7 _ _ (s6 _ _ hb)
      have p1 := p1.tps t57
      have p2 := p2.tps t57
      have p3 := p3.tps t57
      have tt7 : TD K (upd H6 t (.tup [V.ref a1, .ref a1, .ref a2, .ref a1, .ref a2, .ref a3, .ref a3])) (.ref t) (.tuple ([((x1, evL row x1) : Pr), (x1, evL row x1), (x2, evL row x2), (x1, evL row x1), (x2, evL row x2), (x3, evL row x3), (x3, evL row x3)].map pvD)) :=
        .of upd_same (.cons p1.td (.cons p1.td (.cons p2.td (.cons p1.td (.cons p2.td (.cons p3.td (.cons p3.td .nil)))))))
      generalize upd H6 t (.tup [V.ref a1, .ref a1, .ref a2, .ref a1, .ref a2, .ref a3, .ref a3]) = H7 at s7 w7 tt7 p1 p2 p3 ⊢
      wtm_at "jw"
      refine ⟨_, _, row.length, rfl, tt7, by show 7 ≤ 100; decide, lrow, fun pp hpp => ?_, .inl ⟨_, _, _, M55.dp_seven (p1 := (x1, evL row x1)) (p2 := (x2, evL row x2)) (p3 := (x3, evL row x3)) d3 rfl (.inl rfl) (.inr rfl), fun v' H8 s8 t8 => ?_⟩⟩
      · simp only [List.mem_cons, List.not_mem_nil, or_false] at hpp
        rcases hpp with rfl | rfl | rfl | rfl | rfl | rfl | rfl
        · exact good_p d3.a
        · exact good_p d3.a
        · exact good_p d3.b
        · exact good_p d3.a
        · exact good_p d3.b
        · exact good_p d3.c
        · exact good_p d3.c
      rw [M55.join_back orow d3] at t8
      have w8 := w7.same s8
      have hw8 := hw.tps (w8.tps d0)
      wtm_at "jw"
      refine ⟨v', wv, row, row, rfl, t8, hw8, by omega, fun H9 s9 => ?_⟩
      rw [decide_eq_true (rfl : row = row)]
      have w9 := w8.same s9
      have t79 := Tps.of (fun b o hb => s9 _ _ (s8 _ _ hb) : Same H7 H9)
      have p1 := p1.tps t79
      have p2 := p2.tps t79
      have p3 := p3.tps t79
      wtm_at "jw"
      refine c_dec (fun h0 => ?_) (fun hne => ?_)
      · wtm_at "jw"
        exact q _ w9
      · have lpos : ∀ x, 0 < (evL row x).length := fun x => by rw [M55.evL_len]; unfold grp; omega
        have lle : ∀ x, (evL row x).length ≤ 100 := fun x => by rw [M55.evL_len]; unfold grp; omega
        have lgr : ∀ x (l' : List Int), l'.length = (evL row x).length → grp row.length ≤ l'.length := fun x l' e => by rw [e, M55.evL_len]; exact Nat.le_refl _
        have q1 := p1.s
        have q1v := p1.v
        wtm_at "jw"
        refine ⟨p, a, _, evL row x1, rfl, w9.at_, p1.vd, lpos _, lle _, M55.evL_ok _ _, fun v1 l1 k1 G1 e1 t1 n1 o1 hk1 hb1 => ?_⟩
        have wG1 := w9.trans e1
        have u1 := e1.tps w9.at_
        wtm_at "jw"
        intro A1 hA1
        have z1 := same_new (o := .tup [V.int x1, v1]) hA1
        have wa := wG1.same z1
        have pa : TD K (upd G1 A1 (.tup [V.int x1, v1])) (.ref A1) (pvD (x1, l1)) := .new hA1 (.cons (.int _) (.cons t1 .nil))
        have u2 := u1.trans (Tps.of z1)
        have p1 := p1.tps u2
        have p2 := p2.tps u2
        have p3 := p3.tps u2
        generalize upd G1 A1 (.tup [V.int x1, v1]) = G2 at z1 wa pa p1 p2 p3 ⊢
        have q2 := p2.s
        have q2v := p2.v
        wtm_at "jw"
        refine ⟨p, a, _, evL row x2, rfl, wa.at_, p2.vd, lpos _, lle _, M55.evL_ok _ _, fun v2 l2 k2 G3 e3 t2 n2 o2 hk2 hb2 => ?_⟩
        have wG3 := wa.trans e3
        have u3 := e3.tps wa.at_
        wtm_at "jw"
        intro A2 hA2
        have z2 := same_new (o := .tup [V.int x2, v2]) hA2
        have wb := wG3.same z2
        have pb : TD K (upd G3 A2 (.tup [V.int x2, v2])) (.ref A2) (pvD (x2, l2)) := .new hA2 (.cons (.int _) (.cons t2 .nil))
        have u4 := u3.trans (Tps.of z2)
        have pa := pa.tps u4
        have p1 := p1.tps u4
        have p2 := p2.tps u4
        have p3 := p3.tps u4
        generalize upd G3 A2 (.tup [V.int x2, v2]) = G4 at z2 wb pa pb p1 p2 p3 ⊢
        have q3 := p3.s
        have q3v := p3.v
        wtm_at "jw"
        refine ⟨p, a, _, evL row x3, rfl, wb.at_, p3.vd, lpos _, lle _, M55.evL_ok _ _, fun v3 l3 k3 G5 e5 t3 n3 o3 hk3 hb3 => ?_⟩
        have wG5 := wb.trans e5
        have u5 := e5.tps wb.at_
        wtm_at "jw"
        intro A3 hA3
        have z3 := same_new (o := .tup [V.int (1 + x3 % 65536), v3]) hA3
        have wc := wG5.same z3
        have pc : TD K (upd G5 A3 (.tup [V.int (1 + x3 % 65536), v3])) (.ref A3) (pvD (1 + x3 % 65536, l3)) := .new hA3 (.cons (.int _) (.cons t3 .nil))
        have u6 := u5.trans (Tps.of z3)
        have pa := pa.tps u6
        have pb := pb.tps u6
        have p1 := p1.tps u6
        have p2 := p2.tps u6
        have p3 := p3.tps u6
        generalize upd G5 A3 (.tup [V.int (1 + x3 % 65536), v3]) = G6 at z3 wc pa pb pc p1 p2 p3 ⊢
        wtm_at "jw"
        intro t7 ht7
        have z7 := same_new (o := .tup [V.ref a1, .ref A1, .ref a2, .ref A2, .ref A1, .ref a3, .ref A3]) ht7
        have wd := wc.same z7
        have u7 := Tps.of z7
        have pa := pa.tps u7
        have pb := pb.tps u7
        have pc := pc.tps u7
        have p1 := p1.tps u7
        have p2 := p2.tps u7
        have p3 := p3.tps u7
        have td7 : TD K (upd G6 t7 (.tup [V.ref a1, .ref A1, .ref a2, .ref A2, .ref A1, .ref a3, .ref A3])) (.ref t7) (.tuple ([((x1, evL row x1) : Pr), (x1, l1), (x2, evL row x2), (x2, l2), (x1, l1), (x3, evL row x3), (1 + x3 % 65536, l3)].map pvD)) :=
          .of upd_same (.cons p1.td (.cons pa (.cons p2.td (.cons pb (.cons pa (.cons p3.td (.cons pc .nil)))))))
        generalize upd G6 t7 (.tup [V.ref a1, .ref A1, .ref a2, .ref A2, .ref A1, .ref a3, .ref A3]) = G7 at wd td7 pa pb pc p1 p2 p3 ⊢
        wtm_at "jw"
        have b1 := d3.a
        have b2 := d3.b
        have b3 := d3.c
        refine ⟨_, _, row.length, rfl, td7, by show 7 ≤ 100; decide, lrow, fun pp hpp => ?_, .inl ⟨_, _, _, M55.dp_seven (p1 := (x1, evL row x1)) (p2 := (x2, evL row x2)) (p3 := (x3, evL row x3)) d3 rfl (.inr rfl) (.inl rfl), fun v' H8 s8 t8 => ?_⟩⟩
        · simp only [List.mem_cons, List.not_mem_nil, or_false] at hpp
          rcases hpp with rfl | rfl | rfl | rfl | rfl | rfl | rfl
          · exact good_p d3.a
          · exact ⟨lgr _ _ n1, by omega, o1⟩
          · exact good_p d3.b
          · exact ⟨lgr _ _ n2, by omega, o2⟩
          · exact ⟨lgr _ _ n1, by omega, o1⟩
          · exact good_p d3.c
          · exact ⟨lgr _ _ n3, by show 0 ≤ 1 + x3 % 65536 ∧ 1 + x3 % 65536 < 100000; omega, o3⟩
        rw [M55.join_back orow d3] at t8
        have w8 := wd.same s8
        have hw8 := hw.tps (w8.tps d0)
        wtm_at "jw"
        refine ⟨v', wv, row, row, rfl, t8, hw8, by omega, fun H9 s9 => ?_⟩
        rw [decide_eq_true (rfl : row = row)]
        have w9 := w8.same s9
        have t79 := Tps.of (fun b o hb => s9 _ _ (s8 _ _ hb) : Same G7 H9)
        have pa := pa.tps t79
        have p1 := p1.tps t79
        have p2 := p2.tps t79
        have p3 := p3.tps t79
        wtm_at "jw"
        intro t4 ht4
        have z4 := same_new (o := .tup [V.ref A1, .ref a1, .ref a2, .ref a3]) ht4
        have we := w9.same z4
        have u9 := Tps.of z4
        have td4 : TD K (upd H9 t4 (.tup [V.ref A1, .ref a1, .ref a2, .ref a3])) (.ref t4) (.tuple ([((x1, l1) : Pr), (x1, evL row x1), (x2, evL row x2), (x3, evL row x3)].map pvD)) :=
          .of upd_same (.cons (pa.tps u9) (.cons (p1.tps u9).td (.cons (p2.tps u9).td (.cons (p3.tps u9).td .nil))))
        generalize upd H9 t4 (.tup [V.ref A1, .ref a1, .ref a2, .ref a3]) = K4 at we td4 ⊢
        wtm_at "jw"
        refine ⟨_, _, row.length, rfl, td4, by show 4 ≤ 100; decide, lrow, fun pp hpp => ?_, .inl ⟨_, _, _, M55.dp_four (p1 := (x1, l1)) (p2 := (x2, evL row x2)) (p3 := (x3, evL row x3)) d3 rfl, fun v' H8 s8 t8 => ?_⟩⟩
        · simp only [List.mem_cons, List.not_mem_nil, or_false] at hpp
          rcases hpp with rfl | rfl | rfl | rfl
          · exact ⟨lgr _ _ n1, by omega, o1⟩
          · exact good_p d3.a
          · exact good_p d3.b
          · exact good_p d3.c
        have w8 := we.same s8
        have hw8 := hw.tps (w8.tps d0)
        wtm_at "jw"
        refine ⟨v', wv, _, row, rfl, t8, hw8, by rw [M55.join_len]; omega, fun H9 s9 => ?_⟩
        rw [decide_eq_false (M55.join_bent orow d3 (k := k1) (by rw [M55.evL_len] at hk1; exact hk1) hb1)]
        wtm_at "jw"
        exact q _ (w8.same s9)
def sp__law_is_through (K : PySem.W.Frag) : Sp := fun vs H Q _ => ∃ (p a X : Addr) (xs : List Int) (n : Nat), vs = [.ref p, .ref X, .int (n : Int)] ∧ DrawAt H p a ∧ X ≠ p ∧ H X = some (.lst (xs.map V.int)) ∧ GoodX xs ∧ 1 ≤ n ∧ n ≤ 4 ∧ ∀ H', Drew p a H H' → Q (.bl true) H'
theorem ok__law_is_through {P : Program} {w : World} {K : PySem.W.Frag} {mg : Str → Option Value} {base : Heap} {C_NotEnough : Addr} {C_PlayError : Addr} {C_BadCut : Addr} {C_BadPaper : Addr} {C_BadSession : Addr} {C_BadText : Addr} {C_BadWorld : Addr} {C_NoState : Addr} {C_NotFitting : Addr} {C_TooLarge : Addr} {f : Addr} {fd : FuncData} (F : Df K mg "_law_is_through" s__law_is_through f fd ["d", "points", "groups"]) (T : Txt K mg C_NotEnough C_PlayError C_BadCut C_BadPaper C_BadSession C_BadText C_BadWorld C_NoState C_NotFitting C_TooLarge)
    (c_joined : Clx P w K mg base 4 "joined" (sp_joined K C_NotEnough))
    (c__law_is_ints : Cl P w K mg base 2 "_law_is_ints" (sp__law_is_ints K))
    (c__law_curves : Cl P w K mg base 1 "_law_curves" (sp__law_curves K))
    (c__law_draw : Cl P w K mg base 1 "_law_draw" (sp__law_draw K)) : FnOk P w K mg base CX0 5 f fd ["d", "points", "groups"] (sp__law_is_through K) := by
  refine F.ok sc__law_is_through (fun vs H Q E h => ?_) (fun cdv A outer s H vs Q E hr h => ?_)
  · obtain ⟨p, a, X, xs, n, rfl, _⟩ := h
    rfl
  · obtain ⟨p, a, X, xs, n, rfl, d0, nX, hX, g, n1, n4, q⟩ := h
    have hi := g.hi
    refine ⟨_, (pss_cons (ps_setLc (i := 3) (own := [("x", 5)]) (g := gName 5) (tt := tYes) rfl sc__law_is_through.nd rfl rfl (sw_true rfl rfl rfl (by decide +kernel)) (pi_list (pv 1)) (blkOk_by (own := [("x", 5)]) (N := N__law_is_through) (sc := defScope s__law_is_through) (by decide +kernel)) (fun _ _ _ _ _ => (pg_name (i := 5) sc__law_is_through.nd rfl (Or.inl rfl))) (fun _ _ _ _ _ => pts_nil) (fun _ _ _ _ _ => (pe_tup (pa_cons (pv 5) (pa_cons (pe_callTy (T := "tuple") (r := rTupOf K) c_tup (by rfl) T.b_tuple (by decide +kernel) (pa_cons (pe_lc (own := [("k", 4)]) (g := gName 4) (tt := tYes) rfl sc__law_is_through.nd (pi_range1 rfl T.b_range (pa_cons (pv 2) pa_nil)) (blkOk_by (own := [("k", 4)]) (N := N__law_is_through) (by kernel_rfl)) (fun _ _ _ _ _ => (pg_name (i := 4) sc__law_is_through.nd rfl (Or.inl rfl))) (fun _ _ _ _ _ => pts_nil) (fun _ _ _ _ _ => (pe_cl c__law_draw hr (by decide) rfl (pa_cons (pv 0) (pa_cons pe_int pa_nil))))) pa_nil)) pa_nil)))))
      (pss_cons (ps_set (i := 6) sc__law_is_through.nd rfl (Or.inl rfl) (pe_clx c_joined hr (by decide) rfl (pa_cons (pe_callTy (T := "tuple") (r := rTupOf K) c_tup (by rfl) T.b_tuple (by decide +kernel) (pa_cons (pv 3) pa_nil)) (pa_cons (pe_op op_mul pe_int (pv 2)) pa_nil))))
      (pss_cons (ps_if (PW.pt (pw_or (pt_not (pt_val (pe_cl c__law_is_ints hr (by decide) rfl (pa_cons (pv 6) pa_nil)))) (pw_or1 (pt_cmpR op_ne (pe_callB (id := "len") (r := qLen K) c_len (by rfl) T.b_len (by decide +kernel) (pa_cons (pv 6) pa_nil)) (pe_op op_mul pe_int (pv 2)) (nomark _))))) (pss_one (ps_ret pe_bl)) pss_nil)
      (pss_cons (ps_if (pt_cmpR op_gt (pe_callB (id := "len") (r := qLen K) c_len (by rfl) T.b_len (by decide +kernel) (pa_cons (pe_lc (own := [("one", 7)]) (g := gName 7) rfl sc__law_is_through.nd (pi_tup (pv 6)) (blkOk_by (own := [("one", 7)]) (N := N__law_is_through) (sc := defScope s__law_is_through) (by decide +kernel)) (fun _ _ _ _ _ => (pg_name (i := 7) sc__law_is_through.nd rfl (Or.inl rfl))) (fun _ _ _ _ _ => pts_one (pt_not (pt_chain op_le op_le pe_int (pv 7) pe_int))) (fun _ _ _ _ _ => (pv 7))) pa_nil)) pe_int (nomark _)) (pss_one (ps_ret pe_bl)) pss_nil)
      (pss_cons (ps_for PassesOwn.never rfl (pi_list (pe_slice (r := rSlL K) sl_list (pv 3) po_none (po_some pe_int))) (pg_tupK (K := K) rfl rfl (pgs_cons (pg_name (i := 5) sc__law_is_through.nd rfl (Or.inl rfl)) (pgs_cons (pg_name (i := 8) sc__law_is_through.nd rfl (Or.inl rfl)) pgs_nil))) (pss_one (ps_if (pt_cmpR (r := rNeD K) (op_neD hr.units) (pe_cl c__law_curves hr (by decide) rfl (pa_cons (pv 6) (pa_cons (pv 5) pa_nil))) (pv 8) (nomark _)) (pss_one (ps_ret pe_bl)) pss_nil)))
      (pss_one (ps_ret pe_bl))))))), ?_⟩
    try dsimp only [cxOf, Cx.nox, Cx.wish]
    refine st_of (σ' := [some _, some _, some _, none, none, none, none, none, none]) rfl ?_
    wtm_at "jw"
    intro D hD
    have nD := d0.ne_none hD
    refine l_list (xs := xs.map V.int) (fun i H1 => Drew p a H H1 ∧ ∃ (us : List V) (rows : List Pr), H1 D = some (.lst us) ∧ TDs K H1 us (rows.map pvD) ∧ rows.map (·.1) = xs.take i ∧ ∀ r ∈ rows, r.2.length = n ∧ Ok r.2) ⟨d0.drew.new hD, [], [], upd_same, .nil, rfl, fun l hl => by cases hl⟩ (fun i H1 _ h => SqL.of (h.1.kp _ _ hX nX)) (fun i y H1 hi h => ?_) (fun H1 h => ?_)
    · obtain ⟨w1, us, rows, hD1, hT1, e1, hr1⟩ := h
      obtain ⟨x, rfl, hx, htk, hlt⟩ := ints_at hi
      have lus : us.length = i := by
        rw [hT1.len, List.length_map]
        have := congrArg List.length e1
        rw [List.length_map, List.length_take] at this
        omega
      wtm_at "jw"
      refine ⟨rfl, ?_⟩
      wtm_at "jw"
      intro D2 hD2
      have nD2 := w1.at_.ne_none hD2
      refine l_range (fun k H2 => Drew p a H1 H2 ∧ ∃ l : List Int, H2 D2 = some (.lst (l.map V.int)) ∧ l.length = k ∧ Ok l) ⟨w1.at_.drew.new hD2, [], upd_same, rfl, fun z hz => by cases hz⟩ (fun k H2 hk h => ?_) (fun H2 h => ?_)
      · obtain ⟨w2, l, hl2, ll, ol⟩ := h
        wtm_at "jw"
        refine ⟨rfl, ?_⟩
        wtm_at "jw"
        refine drawL w2 (by omega) (by omega) fun z H3 a3 b3 e3 w3 => ?_
        refine ⟨l.map V.int, e3.kp _ _ hl2 nD2, by rw [List.length_map, sizeLine_eq]; omega, w3.put w1.at_ hD2, l ++ [z], by rw [upd_same, List.map_append]; rfl, by rw [List.length_append]; show l.length + 1 = _; omega, fun u hu => ?_⟩
        rcases List.mem_append.mp hu with hu | hu
        · exact ol u hu
        · rw [List.mem_singleton.mp hu]; exact ⟨a3, b3⟩
      · obtain ⟨w2, l, hl2, ll, ol⟩ := h
        have w12 := w1.trans w2
        have hD2' := w2.kp _ _ hD1 nD
        wtm_at "jw"
        intro t ht
        have s3 := same_new (o := .tup (l.map V.int)) ht
        have tt : TD K (upd H2 t (.tup (l.map V.int))) (.ref t) (.tuple (l.map PyData.int)) := .of upd_same (TDs.ints _)
        have w3 := w2.same s3
        generalize upd H2 t (.tup (l.map V.int)) = H3 at s3 tt w3 ⊢
        wtm_at "jw"
        intro u hu
        have s4 := same_new (o := .tup [V.int x, .ref t]) hu
        have tu : TD K (upd H3 u (.tup [V.int x, .ref t])) (.ref u) (pvD (x, l)) := .new hu (.cons (.int _) (.cons tt .nil))
        have w4 := w3.same s4
        generalize upd H3 u (.tup [V.int x, .ref t]) = H4 at s4 tu w4 ⊢
        have hD4 := w4.kp _ _ hD1 nD
        have hT4 := hT1.tps (w4.tps w1.at_)
        refine ⟨us, hD4, by rw [lus, sizeLine_eq]; omega, (w1.trans w4).put d0 hD, us ++ [.ref u], rows ++ [(x, l)], upd_same, ?_, ?_, fun r hr => ?_⟩
        · rw [List.map_append]
          exact (hT4.snoc tu).tps (tps_put hD4)
        · rw [List.map_append, e1, htk]
          rfl
        · rcases List.mem_append.mp hr with hr | hr
          · exact hr1 r hr
          · rw [List.mem_singleton.mp hr]
            exact ⟨by rw [ll]; simp, ol⟩
    · obtain ⟨w1, us, rows, hD1, hT1, e1, hr1⟩ := h
      rw [List.length_map, List.take_length] at e1
      obtain ⟨r1, r2, r3, rr, rfl⟩ : ∃ r1 r2 r3 rr, rows = r1 :: r2 :: r3 :: rr := by
        have lo := g.lo
        rw [← e1, List.length_map] at lo
        match rows, lo with
        | r1 :: r2 :: r3 :: rr, _ => exact ⟨r1, r2, r3, rr, rfl⟩
      have d3 : D3 r1.1 r2.1 r3.1 := by
        subst e1
        exact g.d3
      have c1 := hr1 r1 (by simp)
      have c2 := hr1 r2 (by simp)
      have c3 := hr1 r3 (by simp)
      have lus : us.length = xs.length := by
        rw [hT1.len, List.length_map, ← e1, List.length_map]
      have gn : grp (3 * n) = n := by unfold grp; omega
      have lrr : (r1 :: r2 :: r3 :: rr).length = xs.length := by rw [← e1, List.length_map]
      have bx : ∀ r ∈ (r1 :: r2 :: r3 :: rr), 1 ≤ r.1 ∧ r.1 ≤ 65536 := fun r hr => g.b _ (by rw [← e1]; exact List.mem_map_of_mem hr)
      wtm_at "jw"
      intro t ht
      have s2 := same_new (o := .tup us) ht
      have tt : TD K (upd H1 t (.tup us)) (.ref t) (.tuple ((r1 :: r2 :: r3 :: rr).map pvD)) := .new ht hT1
      have w2 := w1.same s2
      have hD2 := s2 _ _ hD1
      have hT2 := hT1.same s2
      generalize upd H1 t (.tup us) = H2 at s2 tt w2 hD2 hT2 ⊢
      wtm_at "jw"
      refine ⟨_, _, 3 * n, rfl, tt, by rw [lrr]; omega, by omega, fun r hr => ?_, .inl ⟨_, _, _, M55.dp_first d3 _, fun v' H3 s3 t3 => ?_⟩⟩
      · have := bx r hr
        rw [gn]
        exact ⟨by rw [(hr1 r hr).1]; exact Nat.le_refl _, by omega, (hr1 r hr).2⟩
      have w3 := w2.same s3
      have hD3 := s3 _ _ hD2
      have hT3 := hT2.same s3
      wtm_at "jw"
      refine ⟨v', _, rfl, t3, by rw [M55.join_len]; omega, fun H4 s4 => ?_⟩
      have w4 := w3.same s4
      have hD4 := s4 _ _ hD3
      have hT4 := hT3.same s4
      have t4 := t3.same s4
      wtm_at "jw"
      rw [List.length_map, M55.join_len]
      refine c_noN (by omega) ?_
      wtm_at "jw"
      obtain ⟨ja, jx, rfl, jS, jT⟩ := t4.tup_inv
      rw [jT.ints_inv] at jS
      refine i_isT jS ?_
      intro Z hZ
      refine l_tup (xs := (joinL r1 r2 r3 (3 * n)).map V.int) (fun i H5 => Same H4 H5 ∧ H5 Z = some (.lst [])) ⟨same_new hZ, upd_same⟩ (fun i H5 _ h => Same.tup h.1 jS) (fun i y H5 hi h => ?_) (fun H5 h => ?_)
      · obtain ⟨z, rfl, hz, _, _⟩ := ints_at hi
        have bz := M55.join_ok r1 r2 r3 (3 * n) z (List.mem_of_getElem? hz)
        wtm_at "jw"
        refine ⟨rfl, ?_⟩
        wtm_at "jw"
        refine c_yes bz.1 ?_
        wtm_at "jw"
        refine c_noN (by omega) ?_
        exact h
      · obtain ⟨s5, hZ5⟩ := h
        have w5 := w4.same s5
        have hD5 := s5 _ _ hD4
        have hT5 := hT4.same s5
        have t5 := t4.same s5
        wtm_at "jw"
        refine c_no (by simp) ?_
        wtm_at "jw"
        refine i_slL (SqL.of hD5) fun S H6 s6 n6 h6 => ?_
        have w6 := w5.same s6
        have hT6 := hT5.same s6
        have t6 := t5.same s6
        obtain ⟨thA, thB, thC⟩ := M55.join_thru (n := n) d3 c1.1 c2.1 c3.1 c1.2 c2.2 c3.2
        obtain ⟨u1, u2, u3, ur, rfl⟩ : ∃ u1 u2 u3 ur, us = u1 :: u2 :: u3 :: ur := by
          have l3 : 3 ≤ us.length := by rw [lus]; exact g.lo
          match us, l3 with
          | u1 :: u2 :: u3 :: ur, _ => exact ⟨u1, u2, u3, ur, rfl⟩
        rw [cut3] at h6
        have hU : TDs K H6 [u1, u2, u3] ([r1, r2, r3].map pvD) := by
          cases hT6 with
          | cons a1 q1 =>
            cases q1 with
            | cons a2 q2 =>
              cases q2 with
              | cons a3 q3 => exact .cons a1 (.cons a2 (.cons a3 .nil))
        wtm_at "jw"
        refine f_list (xs := [u1, u2, u3]) (fun i σ H7 => Same H6 H7 ∧ ∃ w5 w8, σ = [some (.ref p), some (.ref X), some (.int (n : Int)), some (.ref D), none, w5, some (.ref ja), none, w8]) ⟨fun _ _ h => h, none, none, rfl⟩ (fun i σ H7 _ h => h.1.seq (SqL.of h6)) (fun i y σ H7 hi h => ?_) (fun σ H7 h => ?_)
        · obtain ⟨s7, _, _, rfl⟩ := h
          obtain ⟨d, hd, ty, _, _⟩ := (hU.same s7).at hi
          rw [List.getElem?_map] at hd
          obtain ⟨r, hr, rfl⟩ := Option.map_eq_some_iff.mp hd
          have hrm := List.mem_of_getElem? hr
          have er : evL (joinL r1 r2 r3 (3 * n)) r.1 = r.2 ∧ (1 ≤ r.1 ∧ r.1 ≤ 65536) := by
            simp only [List.mem_cons, List.not_mem_nil, or_false] at hrm
            rcases hrm with rfl | rfl | rfl
            · exact ⟨thA, bx _ (by simp)⟩
            · exact ⟨thB, bx _ (by simp)⟩
            · exact ⟨thC, bx _ (by simp)⟩
          obtain ⟨ya, yb, rfl, pr⟩ := TD.prAt ty
          have prs := pr.s
          wtm_at "jw"
          refine ⟨.ref ja, _, r.1, rfl, t6.same s7, by rw [M55.join_len]; omega, M55.join_ok _ _ _ _, by omega, by omega, fun v8 H8 s8 t8 => ?_⟩
          rw [er.1] at t8
          wtm_at "jw"
          refine i_neS' t8.dp ((pr.vd).same s8).dp (shp_ints _) (by decide) ?_
          wtm_at "jw"
          exact ⟨fun b o hb => s8 _ _ (s7 _ _ hb), _, _, rfl⟩
        · obtain ⟨s7, _, _, rfl⟩ := h
          wtm_at "jw"
          exact q _ (w6.same s7)
def itemD (z : List Pr × Int) : PyData := .tuple [.tuple (z.1.map pvD), .int z.2]
theorem tup_of {K : PySem.W.Frag} {H : Hp} {t : Addr} {vs : List V} {ps : List Pr} (ht : H t = none) (h : TDs K H vs (ps.map pvD)) : Same H (upd H t (.tup vs)) ∧ TD K (upd H t (.tup vs)) (.ref t) (.tuple (ps.map pvD)) := ⟨same_new ht, .new ht h⟩
theorem item_of {K : PySem.W.Frag} {H : Hp} {t u : Addr} {ps : List Pr} {n : Int} (hu : H u = none) (h : TD K H (.ref t) (.tuple (ps.map pvD))) : Same H (upd H u (.tup [.ref t, .int n])) ∧ TD K (upd H u (.tup [.ref t, .int n])) (.ref u) (itemD (ps, n)) := ⟨same_new hu, .new hu (.cons h (.cons (.int _) .nil))⟩
def sp__law_is_too_few (K : PySem.W.Frag) : Sp := fun vs H Q _ => ∃ (p a P : Addr) (row xs : List Int), vs = [.ref p, .ref P, .int (row.length : Int)] ∧ DrawAt H p a ∧ P ≠ p ∧ LD K H P ((prow row xs).map pvD) ∧ Ok row ∧ row.length ≤ 100 ∧ GoodX xs ∧ ∀ H', Drew p a H H' → Q (.bl true) H'
theorem ok__law_is_too_few {P : Program} {w : World} {K : PySem.W.Frag} {mg : Str → Option Value} {base : Heap} {C_NotEnough : Addr} {C_PlayError : Addr} {C_BadCut : Addr} {C_BadPaper : Addr} {C_BadSession : Addr} {C_BadText : Addr} {C_BadWorld : Addr} {C_NoState : Addr} {C_NotFitting : Addr} {C_TooLarge : Addr} {f : Addr} {fd : FuncData} (F : Df K mg "_law_is_too_few" s__law_is_too_few f fd ["d", "pairs", "many"]) (T : Txt K mg C_NotEnough C_PlayError C_BadCut C_BadPaper C_BadSession C_BadText C_BadWorld C_NoState C_NotFitting C_TooLarge)
    (c__law_refused : Cl P w K mg base 5 "_law_refused" (sp__law_refused K))
    (c__law_wrong : Cl P w K mg base 2 "_law_wrong" (sp__law_wrong K))
    (c__law_is_int : Cl P w K mg base 1 "_law_is_int" (sp__law_is_int K)) : FnOk P w K mg base CX0 6 f fd ["d", "pairs", "many"] (sp__law_is_too_few K) := by
  refine F.ok sc__law_is_too_few (fun vs H Q E h => ?_) (fun cdv A outer s H vs Q E hr h => ?_)
  · obtain ⟨p, a, P, row, xs, rfl, _⟩ := h
    rfl
  · obtain ⟨p, a, P, row, xs, rfl, d0, nP, ⟨vs, hP, hPT⟩, orow, lrow, g, q⟩ := h
    obtain ⟨a1, b1, a2, b2, a3, b3, yr, x1, x2, x3, rfl, d3, p1, p2, p3⟩ := three_of g hPT (List.Perm.refl _)
    have i0 : atI (.ref a1 :: .ref a2 :: .ref a3 :: yr) 0 = some (V.ref a1) := atI_nat (j := 0) rfl
    have i1 : atI (.ref a1 :: .ref a2 :: .ref a3 :: yr) 1 = some (V.ref a2) := atI_nat (j := 1) rfl
    have n1 := d3.n12
    refine ⟨_, (pss_cons (ps_par (i := 3) (j := 4) rfl sc__law_is_too_few.nd rfl rfl (by decide) rfl rfl (pa_cons (pe_ix (r := rIxL K) ix_list (pv 1) pe_int (fun _ _ => rfl)) (pa_cons (pe_ix (r := rIxL K) ix_list (pv 1) pe_int (fun _ _ => rfl)) pa_nil)) (by rfl))
      (pss_cons (ps_for PassesOwn.never rfl (pi_list (pe_lst (pa_cons (pe_tup (pa_cons (pe_tup pa_nil) (pa_cons pe_int pa_nil))) (pa_cons (pe_tup (pa_cons (pe_tup (pa_cons (pv 3) pa_nil)) (pa_cons pe_int pa_nil))) (pa_cons (pe_tup (pa_cons (pe_tup (pa_cons (pv 3) (pa_cons (pv 3) (pa_cons (pv 3) pa_nil)))) (pa_cons pe_int pa_nil))) (pa_cons (pe_tup (pa_cons (pe_tup (pa_cons (pv 3) (pa_cons (pv 4) pa_nil))) (pa_cons pe_int pa_nil))) (pa_cons (pe_tup (pa_cons (pe_tup (pa_cons (pv 4) (pa_cons (pv 3) (pa_cons (pv 4) (pa_cons (pv 3) pa_nil))))) (pa_cons pe_int pa_nil))) pa_nil))))))) (pg_tupK (K := K) rfl rfl (pgs_cons (pg_name (i := 5) sc__law_is_too_few.nd rfl (Or.inl rfl)) (pgs_cons (pg_name (i := 6) sc__law_is_too_few.nd rfl (Or.inl rfl)) pgs_nil))) (pss_cons (ps_set (i := 7) sc__law_is_too_few.nd rfl (Or.inl rfl) (pe_cl c__law_refused hr (by decide) rfl (pa_cons (pv 5) (pa_cons (pv 2) pa_nil))))
      (pss_one (ps_if (PW.pt (pw_or (pt_not (pt_val (pe_cl c__law_is_int hr (by decide) rfl (pa_cons (pv 7) pa_nil)))) (pw_or1 (pt_cmpR op_ne (pv 7) (pv 6) (nomark _))))) (pss_one (ps_ret pe_bl)) pss_nil))))
      (pss_cons (ps_if (pt_cmpR op_eq (pv 2) pe_int (nomark _)) (pss_one (ps_ret pe_bl)) pss_nil)
      (pss_cons (ps_set (i := 8) sc__law_is_too_few.nd rfl (Or.inl rfl) (pe_tup (pa_cons (pe_ix (r := rIxT K) ix_tup (pv 3) pe_int (fun _ _ => rfl)) (pa_cons (pe_cl c__law_wrong hr (by decide) rfl (pa_cons (pv 0) (pa_cons (pe_ix (r := rIxT K) ix_tup (pv 3) pe_int (fun _ _ => rfl)) pa_nil))) pa_nil))))
      (pss_one (ps_ret (pe_and (pe_cmpR op_eq (pe_cl c__law_refused hr (by decide) rfl (pa_cons (pe_tup (pa_cons (pv 3) (pa_cons (pv 8) (pa_cons (pv 8) pa_nil)))) (pa_cons (pv 2) pa_nil))) pe_int (nomark _)) (pe_one (pe_cmpR op_eq (pe_cl c__law_refused hr (by decide) rfl (pa_cons (pe_tup (pa_cons (pv 3) (pa_cons (pv 8) (pa_cons (pv 4) pa_nil)))) (pa_cons (pv 2) pa_nil))) pe_int (nomark _)))))))))), ?_⟩
    try dsimp only [cxOf, Cx.nox, Cx.wish]
    refine st_of (σ' := [some _, some _, some _, none, none, none, none, none, none]) rfl ?_
    wtm_at "jw"
    intro t0 ht0
    obtain ⟨s0, T0⟩ := tup_of (K := K) (ps := []) ht0 .nil
    generalize upd H t0 (.tup []) = H1 at s0 T0 ⊢
    wtm_at "jw"
    intro u0 hu0
    obtain ⟨s1, U0⟩ := item_of (n := 0) hu0 T0
    generalize upd H1 u0 (.tup [V.ref t0, .int 0]) = H2 at s1 U0 ⊢
    have s02 : Same H H2 := fun b o hb => s1 _ _ (s0 _ _ hb)
    wtm_at "jw"
    intro t1 ht1
    obtain ⟨s2, T1⟩ := tup_of (K := K) (ps := [(x1, evL row x1)]) ht1 (.cons (p1.td.same s02) .nil)
    generalize upd H2 t1 (.tup [V.ref a1]) = H3 at s2 T1 ⊢
    have U0 := U0.same s2
    wtm_at "jw"
    intro u1 hu1
    obtain ⟨s3, U1⟩ := item_of (n := 1) hu1 T1
    generalize upd H3 u1 (.tup [V.ref t1, .int 1]) = H4 at s3 U1 ⊢
    have U0 := U0.same s3
    have s04 : Same H H4 := fun b o hb => s3 _ _ (s2 _ _ (s02 _ _ hb))
    wtm_at "jw"
    intro t2 ht2
    obtain ⟨s4, T2⟩ := tup_of (K := K) (ps := [(x1, evL row x1), (x1, evL row x1), (x1, evL row x1)]) ht2 (.cons (p1.td.same s04) (.cons (p1.td.same s04) (.cons (p1.td.same s04) .nil)))
    generalize upd H4 t2 (.tup [V.ref a1, .ref a1, .ref a1]) = H5 at s4 T2 ⊢
    have U0 := U0.same s4
    have U1 := U1.same s4
    wtm_at "jw"
    intro u2 hu2
    obtain ⟨s5, U2⟩ := item_of (n := 1) hu2 T2
    generalize upd H5 u2 (.tup [V.ref t2, .int 1]) = H6 at s5 U2 ⊢
    have U0 := U0.same s5
    have U1 := U1.same s5
    have s06 : Same H H6 := fun b o hb => s5 _ _ (s4 _ _ (s04 _ _ hb))
    wtm_at "jw"
    intro t3 ht3
    obtain ⟨s6, T3⟩ := tup_of (K := K) (ps := [(x1, evL row x1), (x2, evL row x2)]) ht3 (.cons (p1.td.same s06) (.cons (p2.td.same s06) .nil))
    generalize upd H6 t3 (.tup [V.ref a1, .ref a2]) = H7 at s6 T3 ⊢
    have U0 := U0.same s6
    have U1 := U1.same s6
    have U2 := U2.same s6
    wtm_at "jw"
    intro u3 hu3
    obtain ⟨s7, U3⟩ := item_of (n := 2) hu3 T3
    generalize upd H7 u3 (.tup [V.ref t3, .int 2]) = H8 at s7 U3 ⊢
    have U0 := U0.same s7
    have U1 := U1.same s7
    have U2 := U2.same s7
    have s08 : Same H H8 := fun b o hb => s7 _ _ (s6 _ _ (s06 _ _ hb))
    wtm_at "jw"
    intro t4 ht4
    obtain ⟨s8, T4⟩ := tup_of (K := K) (ps := [(x2, evL row x2), (x1, evL row x1), (x2, evL row x2), (x1, evL row x1)]) ht4 (.cons (p2.td.same s08) (.cons (p1.td.same s08) (.cons (p2.td.same s08) (.cons (p1.td.same s08) .nil))))
    generalize upd H8 t4 (.tup [V.ref a2, .ref a1, .ref a2, .ref a1]) = H9 at s8 T4 ⊢
    have U0 := U0.same s8
    have U1 := U1.same s8
    have U2 := U2.same s8
    have U3 := U3.same s8
    wtm_at "jw"
    intro u4 hu4
    obtain ⟨s9, U4⟩ := item_of (n := 2) hu4 T4
    generalize upd H9 u4 (.tup [V.ref t4, .int 2]) = G0 at s9 U4 ⊢
    have U0 := U0.same s9
    have U1 := U1.same s9
    have U2 := U2.same s9
    have U3 := U3.same s9
    have s0g : Same H G0 := fun b o hb => s9 _ _ (s8 _ _ (s08 _ _ hb))
    wtm_at "jw"
    intro L hL
    have sL := same_new (o := .lst [V.ref u0, .ref u1, .ref u2, .ref u3, .ref u4]) hL
    have LL : LD K (upd G0 L (.lst [V.ref u0, .ref u1, .ref u2, .ref u3, .ref u4])) L (([([], 0), ([(x1, evL row x1)], 1), ([(x1, evL row x1), (x1, evL row x1), (x1, evL row x1)], 1), ([(x1, evL row x1), (x2, evL row x2)], 2), ([(x2, evL row x2), (x1, evL row x1), (x2, evL row x2), (x1, evL row x1)], 2)] : List (List Pr × Int)).map itemD) :=
      ⟨_, upd_same, .cons (U0.same sL) (.cons (U1.same sL) (.cons (U2.same sL) (.cons (U3.same sL) (.cons (U4.same sL) .nil))))⟩
    have s0L : Same H (upd G0 L (.lst [V.ref u0, .ref u1, .ref u2, .ref u3, .ref u4])) := fun b o hb => sL _ _ (s0g _ _ hb)
    generalize upd G0 L (.lst [V.ref u0, .ref u1, .ref u2, .ref u3, .ref u4]) = G at sL s0L LL ⊢
    obtain ⟨ls, hLs, hLT⟩ := LL
    have w0 := d0.drew.same s0L
    wtm_at "jw"
    refine f_list (xs := ls) (fun i σ K1 => Same G K1 ∧ ∃ w5 w6 w7, σ = [some (.ref p), some (.ref P), some (.int (row.length : Int)), some (.ref a1), some (.ref a2), w5, w6, w7, none]) ⟨fun _ _ h => h, none, none, none, rfl⟩ (fun i σ K1 _ h => h.1.seq (SqL.of hLs)) (fun i y σ K1 hi h => ?_) (fun σ K1 h => ?_)
    · obtain ⟨sk, _, _, _, rfl⟩ := h
      obtain ⟨d, hd, ty, _, _⟩ := (hLT.same sk).at hi
      rw [List.getElem?_map] at hd
      obtain ⟨z, hz, rfl⟩ := Option.map_eq_some_iff.mp hd
      have hzm := List.mem_of_getElem? hz
      have facts : z.1.length ≤ 100 ∧ (∀ pp ∈ z.1, grp row.length ≤ pp.2.length ∧ (0 ≤ pp.1 ∧ pp.1 < 100000) ∧ Ok pp.2) ∧ (dp z.1).length < 3 ∧ ((dp z.1).length : Int) = z.2 := by
        have gp1 := good_p (row := row) d3.a
        have gp2 := good_p (row := row) d3.b
        simp only [List.mem_cons, List.not_mem_nil, or_false] at hzm
        rcases hzm with rfl | rfl | rfl | rfl | rfl
        all_goals
          refine ⟨by simp, fun pp hpp => ?_, by simp [M55.dp, M55.dpS, n1, n1.symm], by simp [M55.dp, M55.dpS, n1, n1.symm]⟩
          simp only [List.mem_cons, List.not_mem_nil, or_false, or_self] at hpp <;> first
            | (subst hpp; assumption)
            | (rcases hpp with rfl | rfl <;> assumption)
            | (rcases hpp with rfl | rfl | rfl | rfl <;> assumption)
      obtain ⟨f1, f2, f3, f4⟩ := facts
      obtain ⟨ya, ys, rfl, yS, yT⟩ := ty.tup_inv
      cases yT with
      | cons h1 yT =>
        cases yT with
        | cons h2 yT =>
          cases yT
          have e2 := h2.int_inv
          subst e2
          wtm_at "jw"
          refine ⟨_, z.1, row.length, rfl, h1, f1, lrow, f2, f3, fun K2 s2 => ?_⟩
          wtm_at "jw"
          refine ⟨_, rfl, ?_⟩
          wtm_at "jw"
          refine c_noN f4 ?_
          wtm_at "jw"
          exact ⟨fun b o hb => s2 _ _ (sk _ _ hb), _, _, _, rfl⟩
    · obtain ⟨sk, _, _, _, rfl⟩ := h
      have w1 := w0.same sk
      have p1 := p1.tps (w1.tps d0)
      have p2 := p2.tps (w1.tps d0)
      wtm_at "jw"
      refine c_dec (fun h0 => ?_) (fun hne => ?_)
      · wtm_at "jw"
        exact q _ w1
      · have lpos : ∀ x, 0 < (evL row x).length := fun x => by rw [M55.evL_len]; unfold grp; omega
        have lle : ∀ x, (evL row x).length ≤ 100 := fun x => by rw [M55.evL_len]; unfold grp; omega
        have q1 := p1.s
        wtm_at "jw"
        refine ⟨p, a, _, evL row x1, rfl, w1.at_, p1.vd, lpos _, lle _, M55.evL_ok _ _, fun v1 l1 k1 G1 e1 t1 n1' o1 hk1 hb1 => ?_⟩
        have wG1 := w1.trans e1
        have u1 := e1.tps w1.at_
        wtm_at "jw"
        intro A1 hA1
        have z1 := same_new (o := .tup [V.int x1, v1]) hA1
        have wa := wG1.same z1
        have pa : TD K (upd G1 A1 (.tup [V.int x1, v1])) (.ref A1) (pvD (x1, l1)) := .new hA1 (.cons (.int _) (.cons t1 .nil))
        have u2 := u1.trans (Tps.of z1)
        have p1 := p1.tps u2
        have p2 := p2.tps u2
        generalize upd G1 A1 (.tup [V.int x1, v1]) = G2 at z1 wa pa p1 p2 ⊢
        have g1 : grp row.length ≤ l1.length := by rw [n1', M55.evL_len]; exact Nat.le_refl _
        have hx1 := d3.a
        wtm_at "jw"
        intro t7 ht7
        obtain ⟨z7, T7⟩ := tup_of (K := K) (ps := [(x1, evL row x1), (x1, l1), (x1, l1)]) ht7 (.cons p1.td (.cons pa (.cons pa .nil)))
        generalize upd G2 t7 (.tup [V.ref a1, .ref A1, .ref A1]) = G3 at z7 T7 ⊢
        have pa := pa.same z7
        have p1 := p1.tps (Tps.of z7)
        have p2 := p2.tps (Tps.of z7)
        wtm_at "jw"
        refine ⟨_, _, row.length, rfl, T7, by show 3 ≤ 100; decide, lrow, fun pp hpp => ?_, by simp [M55.dp, M55.dpS], fun G4 s4 => ?_⟩
        · simp only [List.mem_cons, List.not_mem_nil, or_false, or_self] at hpp
          rcases hpp with rfl | rfl
          · exact good_p d3.a
          · exact ⟨g1, by omega, o1⟩
        rw [show ((dp [((x1, evL row x1) : Pr), (x1, l1), (x1, l1)]).length : Int) = 1 from by simp [M55.dp, M55.dpS]]
        have pa := pa.same s4
        have p1 := p1.tps (Tps.of s4)
        have p2 := p2.tps (Tps.of s4)
        wtm_at "jw"
        refine c_yes rfl ?_
        wtm_at "jw"
        intro t8 ht8
        obtain ⟨z8, T8⟩ := tup_of (K := K) (ps := [(x1, evL row x1), (x1, l1), (x2, evL row x2)]) ht8 (.cons p1.td (.cons pa (.cons p2.td .nil)))
        generalize upd G4 t8 (.tup [V.ref a1, .ref A1, .ref a2]) = G5 at z8 T8 ⊢
        wtm_at "jw"
        refine ⟨_, _, row.length, rfl, T8, by show 3 ≤ 100; decide, lrow, fun pp hpp => ?_, by simp [M55.dp, M55.dpS, n1, n1.symm], fun G6 s6 => ?_⟩
        · simp only [List.mem_cons, List.not_mem_nil, or_false, or_self] at hpp
          rcases hpp with rfl | rfl | rfl
          · exact good_p d3.a
          · exact ⟨g1, by omega, o1⟩
          · exact good_p d3.b
        rw [show ((dp [((x1, evL row x1) : Pr), (x1, l1), (x2, evL row x2)]).length : Int) = 2 from by simp [M55.dp, M55.dpS, n1, n1.symm]]
        wtm_at "jw"
        rw [decide_eq_true (rfl : (2 : Int) = 2)]
        exact q _ (((wa.same z7).same s4).same z8 |>.same s6)
def sp_law (K : PySem.W.Frag) : Sp := fun vs H Q _ => ∃ (a : Addr) (ns : List Int), vs = [.ref a] ∧ SqL K H a (ns.map V.int) ∧ ns.length ≤ 63 ∧ ∀ H', Q (.bl true) H'
theorem ok_law {P : Program} {w : World} {K : PySem.W.Frag} {mg : Str → Option Value} {base : Heap} {C_NotEnough : Addr} {C_PlayError : Addr} {C_BadCut : Addr} {C_BadPaper : Addr} {C_BadSession : Addr} {C_BadText : Addr} {C_BadWorld : Addr} {C_NoState : Addr} {C_NotFitting : Addr} {C_TooLarge : Addr} {f : Addr} {fd : FuncData} (F : Df K mg "law" s_law f fd ["script"]) (T : Txt K mg C_NotEnough C_PlayError C_BadCut C_BadPaper C_BadSession C_BadText C_BadWorld C_NoState C_NotFitting C_TooLarge)
    (c__law_begin : Cl P w K mg base 1 "_law_begin" (sp__law_begin K))
    (c__law_pick : Cl P w K mg base 2 "_law_pick" (sp__law_pick K))
    (c__law_numbers : Cl P w K mg base 3 "_law_numbers" (sp__law_numbers K))
    (c__law_points : Cl P w K mg base 3 "_law_points" (sp__law_points K))
    (c__law_is_row : Cl P w K mg base 3 "_law_is_row" (sp__law_is_row K))
    (c_pieces_of : Cl P w K mg base 1 "pieces_of" (sp_pieces_of K))
    (c__law_is_through : Cl P w K mg base 5 "_law_is_through" (sp__law_is_through K))
    (c_joined : Clx P w K mg base 4 "joined" (sp_joined K C_NotEnough))
    (c__law_is_any_three : Cl P w K mg base 5 "_law_is_any_three" (sp__law_is_any_three K))
    (c__law_is_too_few : Cl P w K mg base 6 "_law_is_too_few" (sp__law_is_too_few K))
    (c__law_is_ints : Cl P w K mg base 2 "_law_is_ints" (sp__law_is_ints K))
    (c__law_curves : Cl P w K mg base 1 "_law_curves" (sp__law_curves K))
    (c__law_draw : Cl P w K mg base 1 "_law_draw" (sp__law_draw K)) : FnOk P w K mg base CX0 7 f fd ["script"] (sp_law K) := by
  refine F.ok sc_law (fun vs H Q E h => ?_) (fun cdv A outer s H vs Q E hr h => ?_)
  · obtain ⟨a, ns, rfl, _⟩ := h
    rfl
  · obtain ⟨a0, ns, rfl, hS, hl, q⟩ := h
    refine ⟨_, (pss_cons (ps_set (i := 1) sc_law.nd rfl (Or.inl rfl) (pe_cl c__law_begin hr (by decide) rfl (pa_cons (pv 0) pa_nil)))
      (pss_cons (ps_set (i := 2) sc_law.nd rfl (Or.inl rfl) (pe_cl c__law_pick hr (by decide) rfl (pa_cons (pv 1) (pa_cons (pe_lst (pa_cons pe_int (pa_cons pe_int (pa_cons pe_int (pa_cons pe_int (pa_cons pe_int (pa_cons pe_int (pa_cons pe_int (pa_cons pe_int (pa_cons pe_int (pa_cons pe_int (pa_cons pe_int pa_nil)))))))))))) pa_nil))))
      (pss_cons (ps_set (i := 3) sc_law.nd rfl (Or.inl rfl) (pe_cl c__law_numbers hr (by decide) rfl (pa_cons (pv 1) (pa_cons (pv 2) pa_nil))))
      (pss_cons (ps_set (i := 4) sc_law.nd rfl (Or.inl rfl) (pe_cl c__law_points hr (by decide) rfl (pa_cons (pv 1) (pa_cons (pe_cl c__law_pick hr (by decide) rfl (pa_cons (pv 1) (pa_cons (pe_lst (pa_cons pe_int (pa_cons pe_int (pa_cons pe_int (pa_cons pe_int pa_nil))))) pa_nil))) pa_nil))))
      (pss_cons (ps_set (i := 5) sc_law.nd rfl (Or.inl rfl) (pe_lst pa_nil))
      (pss_cons (ps_for PassesOwn.never rfl (pi_list (pv 4)) (pg_name (i := 6) sc_law.nd rfl (Or.inl rfl)) (pss_cons (ps_set (i := 7) sc_law.nd rfl (Or.inl rfl) (pe_cl c_pieces_of hr (by decide) rfl (pa_cons (pv 3) (pa_cons (pv 6) pa_nil))))
      (pss_cons (ps_if (PW.pt (pw_or (pt_not (pt_val (pe_cl c__law_is_ints hr (by decide) rfl (pa_cons (pv 7) pa_nil)))) (pw_or1 (pt_cmpR (r := rNeD K) (op_neD hr.units) (pv 7) (pe_cl c__law_curves hr (by decide) rfl (pa_cons (pv 3) (pa_cons (pv 6) pa_nil))) (nomark _))))) (pss_one (ps_ret pe_bl)) pss_nil)
      (pss_one (ps_expr (pe_bmK (K := K) rfl PySem.F.plainAttrs_list PySem.F.slot_list_append PySem.F.type_list_append mt_append (pv 5) (pa_cons (pe_tup (pa_cons (pv 6) (pa_cons (pe_cl c__law_curves hr (by decide) rfl (pa_cons (pv 3) (pa_cons (pv 6) pa_nil))) pa_nil))) pa_nil)))))))
      (pss_cons (ps_if (PW.pt (pw_or (pt_not (pt_val (pe_cl c__law_is_any_three hr (by decide) rfl (pa_cons (pv 1) (pa_cons (pv 5) (pa_cons (pv 3) pa_nil)))))) (pw_or1 (pt_not (pt_val (pe_cl c__law_is_too_few hr (by decide) rfl (pa_cons (pv 1) (pa_cons (pv 5) (pa_cons (pv 2) pa_nil))))))))) (pss_one (ps_ret pe_bl)) pss_nil)
      (pss_cons (ps_if (pt_not (pt_val (pe_cl c__law_is_through hr (by decide) rfl (pa_cons (pv 1) (pa_cons (pv 4) (pa_cons (pe_op op_add pe_int (pe_cl c__law_draw hr (by decide) rfl (pa_cons (pv 1) (pa_cons pe_int pa_nil)))) pa_nil)))))) (pss_one (ps_ret pe_bl)) pss_nil)
      (pss_one (ps_ret (pe_cl c__law_is_row hr (by decide) rfl (pa_cons (pe_clx c_joined hr (by decide) rfl (pa_cons (pe_callTy (T := "tuple") (r := rTupOf K) c_tup (by rfl) T.b_tuple (by decide +kernel) (pa_cons (pv 5) pa_nil)) (pa_cons (pv 2) pa_nil))) (pa_cons (pv 3) pa_nil))))))))))))), ?_⟩
    try dsimp only [cxOf, Cx.nox, Cx.wish]
    refine st_of (σ' := [some _, none, none, none, none, none, none, none]) rfl ?_
    wtm_at "jw"
    refine ⟨a0, ns, rfl, hS, hl, fun p a H0 s0 hp ha d0 => ?_⟩
    wtm_at "jw"
    intro B hB
    refine pickL (E := E0) (fun z => ∃ m : Nat, z = (m : Int) ∧ m ≤ 60) [4, 0, 1, 2, 3, 5, 6, 7, 11, 20, 60] d0.drew hB rfl (by decide) (by decide) (by simp; refine ⟨⟨4, rfl, by decide⟩, ⟨0, rfl, by decide⟩, ⟨1, rfl, by decide⟩, ⟨2, rfl, by decide⟩, ⟨3, rfl, by decide⟩, ⟨5, rfl, by decide⟩, ⟨6, rfl, by decide⟩, ⟨7, rfl, by decide⟩, ⟨11, rfl, by decide⟩, ⟨20, rfl, by decide⟩, ⟨60, rfl, by decide⟩⟩) fun z H1 hz e1 w1 => ?_
    obtain ⟨m, rfl, hm⟩ := hz
    wtm_at "jw"
    refine ⟨p, a, m, rfl, w1.at_, by omega, fun rv row H2 e2 tr lr orow => ?_⟩
    have w2 := w1.trans e2
    wtm_at "jw"
    intro B2 hB2
    refine pickL (E := E0) (fun z => ∃ m : Nat, z = (m : Int) ∧ 3 ≤ m ∧ m ≤ 8) [3, 4, 5, 8] w2 hB2 rfl (by decide) (by decide) (by simp; refine ⟨⟨3, rfl, by decide, by decide⟩, ⟨4, rfl, by decide, by decide⟩, ⟨5, rfl, by decide, by decide⟩, ⟨8, rfl, by decide, by decide⟩⟩) fun z H3 hz e3 w3 => ?_
    obtain ⟨c, rfl, hc1, hc2⟩ := hz
    have tr3 := tr.tps (e3.tps e2.at_)
    wtm_at "jw"
    refine ⟨p, a, c, rfl, w3.at_, hc1, hc2, fun X xs H4 e4 nX hX lx ndx bx => ?_⟩
    have w4 := w3.trans e4
    have tr4 := tr3.tps (e4.tps w3.at_)
    have nXp : X ≠ p := w3.at_.ne_none nX
    have g : GoodX xs := ⟨by omega, by omega, ndx, bx⟩
    wtm_at "jw"
    intro D hD
    have nDX : X ≠ D := ne_of_none hX hD
    have nDp := w4.at_.ne_none hD
    wtm_at "jw"
    refine f_list (xs := xs.map V.int) (fun i σ H5 => Drew p a H4 H5 ∧ H5 X = some (.lst (xs.map V.int)) ∧ LD K H5 D ((prow row (xs.take i)).map pvD) ∧ ∃ w6 w7, σ = [some (.ref a0), some (.ref p), some (.int (m : Int)), some rv, some (.ref X), some (.ref D), w6, w7]) ⟨w4.at_.drew.new hD, by rw [upd_ne nDX]; exact hX, ⟨[], upd_same, .nil⟩, none, none, rfl⟩ (fun i σ H5 _ h => SqL.of h.2.1) (fun i y σ H5 hi h => ?_) (fun σ H5 h => ?_)
    · obtain ⟨w5, hX5, ⟨us, hD5, hT5⟩, _, _, rfl⟩ := h
      obtain ⟨x, rfl, hx, htk, hlt⟩ := ints_at hi
      have bxx := bx x (List.mem_of_getElem? hx)
      have tr5 := tr4.tps (w5.tps w4.at_)
      have lus : us.length = i := by
        rw [hT5.len, List.length_map]
        unfold prow
        rw [List.length_map, List.length_take]
        omega
      wtm_at "jw"
      refine ⟨rv, row, x, rfl, tr5, by omega, orow, by omega, by omega, fun v6 H6 s6 t6 => ?_⟩
      wtm_at "jw"
      refine ⟨v6, _, rfl, t6, by rw [M55.evL_len]; unfold grp; omega, fun H7 s7 => ?_⟩
      have tr7 := (tr5.same s6).same s7
      wtm_at "jw"
      refine ⟨rv, row, x, rfl, tr7, by omega, orow, by omega, by omega, fun v8 H8 s8 t8 => ?_⟩
      have t68 := (t6.same s7).same s8
      wtm_at "jw"
      refine i_neS' t68.dp t8.dp (shp_ints _) (by decide) ?_
      have tr8 := tr7.same s8
      have hD8 : H8 D = some (.lst us) := s8 _ _ (s7 _ _ (s6 _ _ hD5))
      wtm_at "jw"
      refine ⟨rv, row, x, rfl, tr8, by omega, orow, by omega, by omega, fun v9 H9 s9 t9 => ?_⟩
      wtm_at "jw"
      intro T0 hT0
      have s10 := same_new (o := .tup [V.int x, v9]) hT0
      have tT : TD K (upd H9 T0 (.tup [V.int x, v9])) (.ref T0) (pvD (x, evL row x)) := .new hT0 (.cons (.int _) (.cons t9 .nil))
      have sA : Same H5 (upd H9 T0 (.tup [V.int x, v9])) := fun b o hb => s10 _ _ (s9 _ _ (s8 _ _ (s7 _ _ (s6 _ _ hb))))
      generalize upd H9 T0 (.tup [V.int x, v9]) = H10 at sA tT ⊢
      have hD10 := sA _ _ hD5
      have hT10 := hT5.same sA
      have l4 : us.length ≤ 1000 := by omega
      wtm_at "jw"
      refine ⟨(w5.same sA).put w4.at_ hD, by rw [upd_ne nDX]; exact sA _ _ hX5, ?_, _, _, rfl⟩
      rw [htk]
      unfold prow
      rw [List.map_append, List.map_append]
      exact .snoc hD10 hT10 tT
    · obtain ⟨w5, hX5, hD5, _, _, rfl⟩ := h
      rw [List.length_map, List.take_length] at hD5
      have tr5 := tr4.tps (w5.tps w4.at_)
      subst lr
      have w45 := w4.trans w5
      wtm_at "jw"
      refine ⟨p, a, D, rv, row, xs, rfl, w5.at_, nDp, hD5, tr5, orow, by omega, g, fun H6 e6 => ?_⟩
      have hD6 := hD5.drew w5.at_ e6 nDp
      have hX6 := e6.kp _ _ hX5 nXp
      have tr6 := tr5.tps (e6.tps w5.at_)
      wtm_at "jw"
      refine ⟨p, a, D, row, xs, rfl, e6.at_, nDp, hD6, orow, by omega, g, fun H7 e7 => ?_⟩
      have hD7 := hD6.drew e6.at_ e7 nDp
      have hX7 := e7.kp _ _ hX6 nXp
      have tr7 := tr6.tps (e7.tps e6.at_)
      wtm_at "jw"
      refine drawL e7.at_.drew (by omega) (by omega) fun z H8 z0 z1 e8 w8 => ?_
      have hD8 := hD7.drew e7.at_ e8 nDp
      have hX8 := e8.kp _ _ hX7 nXp
      have tr8 := tr7.tps (e8.tps e7.at_)
      obtain ⟨n, rfl⟩ : ∃ n : Nat, z = (n : Int) := ⟨z.toNat, by omega⟩
      wtm_at "jw"
      refine ⟨p, a, X, xs, 1 + n, by rw [Int.natCast_add]; rfl, e8.at_, nXp, hX8, g, by omega, by omega, fun H9 e9 => ?_⟩
      obtain ⟨us, hD9, hT9⟩ := hD8.drew e8.at_ e9 nDp
      have tr9 := tr8.tps (e9.tps e8.at_)
      wtm_at "jw"
      intro t ht
      have s10 := same_new (o := .tup us) ht
      have tt : TD K (upd H9 t (.tup us)) (.ref t) (.tuple ((prow row xs).map pvD)) := .new ht hT9
      have tr10 := tr9.same s10
      generalize upd H9 t (.tup us) = H10 at s10 tt tr10 ⊢
      obtain ⟨x1, x2, x3, xr, rfl⟩ : ∃ x1 x2 x3 xr, xs = x1 :: x2 :: x3 :: xr := by
        match xs, g.lo with
        | x1 :: x2 :: x3 :: xr, _ => exact ⟨x1, x2, x3, xr, rfl⟩
      have ed : dp (prow row (x1 :: x2 :: x3 :: xr)) = [(x1, evL row x1), (x2, evL row x2), (x3, evL row x3)] := M55.dp_first (p1 := (x1, evL row x1)) (p2 := (x2, evL row x2)) (p3 := (x3, evL row x3)) g.d3 _
      have ghi := g.hi
      wtm_at "jw"
      refine ⟨_, _, row.length, rfl, tt, by unfold prow; rw [List.length_map]; omega, by omega, fun pp hpp => ?_, .inl ⟨_, _, _, ed, fun v' H11 s11 t11 => ?_⟩⟩
      · unfold prow at hpp
        obtain ⟨x, hx, rfl⟩ := List.mem_map.mp hpp
        exact good_p (g.b x hx)
      rw [M55.join_back orow g.d3] at t11
      have tr11 := tr10.same s11
      wtm_at "jw"
      refine ⟨v', rv, row, row, rfl, t11, tr11, by omega, fun H12 s12 => ?_⟩
      rw [decide_eq_true (rfl : row = row)]
      exact q _
theorem law_hands {K : PySem.W.Frag} {H : Hp} (a : Addr) (ns : List Int) (hl : ns.length ≤ 63) (hb : ∀ z ∈ ns, Builtin.Int.intBits z ≤ 1048576) (h : SqL K H a (ns.map V.int)) :
    sp_law K [.ref a] H (fun v _ => v = .bl true) fun _ _ _ => False := ⟨a, ns, rfl, h, hl, fun _ => rfl⟩
theorem all_mk {l : PySem.W.OpenLaw} {w : World} {K : PySem.W.Frag} {h : Heap} {mg : Str → Option Value} {fa : Addr} (X : K.In h) (G : h.Ns mainGlobals mg) (hfa : mg "law" = some (.ref fa))
    {C_NotEnough : Addr} (a_NotEnough : PySem.W.nsIn K mainGlobals "NotEnough" = some (some (.ref C_NotEnough)))
    {C_PlayError : Addr} (a_PlayError : PySem.W.nsIn K mainGlobals "PlayError" = some (some (.ref C_PlayError)))
    {C_BadCut : Addr} (a_BadCut : PySem.W.nsIn K mainGlobals "BadCut" = some (some (.ref C_BadCut)))
    {C_BadPaper : Addr} (a_BadPaper : PySem.W.nsIn K mainGlobals "BadPaper" = some (some (.ref C_BadPaper)))
    {C_BadSession : Addr} (a_BadSession : PySem.W.nsIn K mainGlobals "BadSession" = some (some (.ref C_BadSession)))
    {C_BadText : Addr} (a_BadText : PySem.W.nsIn K mainGlobals "BadText" = some (some (.ref C_BadText)))
    {C_BadWorld : Addr} (a_BadWorld : PySem.W.nsIn K mainGlobals "BadWorld" = some (some (.ref C_BadWorld)))
    {C_NoState : Addr} (a_NoState : PySem.W.nsIn K mainGlobals "NoState" = some (some (.ref C_NoState)))
    {C_NotFitting : Addr} (a_NotFitting : PySem.W.nsIn K mainGlobals "NotFitting" = some (some (.ref C_NotFitting)))
    {C_TooLarge : Addr} (a_TooLarge : PySem.W.nsIn K mainGlobals "TooLarge" = some (some (.ref C_TooLarge)))
    (hx_PE : PySem.W.subIn K (.ref C_PlayError) (.type "BaseException") = some true) (hd_PE : PySem.W.hasDictIn K C_PlayError = true) (ty_PE : PySem.W.typeIn K (.ref C_PlayError) = some (.type "type"))
    (sup_PE : PySem.W.nsIn K mainGlobals "super" = some none) (opq_PE : PySem.W.nsIn K cStatics "thirdparty.any" = some none) (top_PE : (l.prog.main.scope.names.lookup ("super" : Str)).isSome = false)
    (hn_PE : PySem.W.specialIn K (.builtin "object.__class__") "__get__" = some (some (.builtin "getset_descriptor.__get__"))) (ht_PE : PySem.W.takesIn K (.builtin "object.__class__") = some true)
    {nm_NotEnough q_NotEnough : Str} {N_NotEnough : Addr} {bs_NotEnough bm_NotEnough : List Value} {sn_NotEnough : List Str} {sub_NotEnough : List Value} {ab_NotEnough : Bool} {col_NotEnough : Option Bool} {dd_NotEnough : Option Addr} {k0_NotEnough k1_NotEnough k2_NotEnough k3_NotEnough k5_NotEnough : Option Value}
    (xl_NotEnough : K.lookup C_NotEnough = some (excClassObj nm_NotEnough q_NotEnough C_NotEnough N_NotEnough bs_NotEnough bm_NotEnough true sn_NotEnough sub_NotEnough ab_NotEnough col_NotEnough dd_NotEnough k0_NotEnough k1_NotEnough k2_NotEnough k3_NotEnough k5_NotEnough "ValueError.__new__")) (rv_NotEnough : PySem.HandSPX.refsVE bm_NotEnough = true)
    (sa_NotEnough : PySem.W.findIn K (.ref C_NotEnough) "__setattr__" = some (some (.builtin "object.__setattr__"))) (ex_NotEnough : PySem.W.subIn K (.ref C_NotEnough) (.type "BaseException") = some true) (ty_NotEnough : PySem.W.typeIn K (.ref C_NotEnough) = some (.type "type")) (kc_NotEnough : PySem.W.keepIn K (.ref C_NotEnough) = true)
    {fi_NotEnough cc_NotEnough cda_NotEnough : Addr} {fo_NotEnough kV_NotEnough dc_NotEnough pm_NotEnough ct_NotEnough : Value} {fod_NotEnough fan_NotEnough : Option Addr} {fsl_NotEnough : Array (Option Value)} (ii_NotEnough : PySem.W.findIn K (.ref C_NotEnough) "__init__" = some (some (.ref fi_NotEnough))) (it_NotEnough : PySem.W.typeIn K (.ref fi_NotEnough) = some (.type "function"))
    (li_NotEnough : K.lookup fi_NotEnough = some ⟨fo_NotEnough, fod_NotEnough, .func (PySem.W.fnX "__init__" "NotEnough.__init__" (defArgs s_NotEnough___init__) (defBody s_NotEnough___init__) (defScope s_NotEnough___init__) [("__class__", cc_NotEnough)] .none kV_NotEnough dc_NotEnough pm_NotEnough fan_NotEnough (.ref cda_NotEnough) ct_NotEnough), fsl_NotEnough⟩) (ci_NotEnough : PySem.W.codeIn K (.ref cda_NotEnough) "NotEnough.__init__" = true)
    {ce1_NotEnough : Value} {ce2_NotEnough : Option Addr} {ce3_NotEnough : Array (Option Value)} (ce_NotEnough : K.lookup cc_NotEnough = some ⟨ce1_NotEnough, ce2_NotEnough, .cell (some (.ref C_NotEnough)), ce3_NotEnough⟩) {co1_NotEnough : Value} {co2_NotEnough : Option Addr} {co3_NotEnough : Array Value} {co4_NotEnough : Array (Option Value)} {cf_NotEnough : Str} {ctf_NotEnough : Tok} (co_NotEnough : K.lookup cda_NotEnough = some ⟨co1_NotEnough, co2_NotEnough, .fields co3_NotEnough, co4_NotEnough⟩) (cv_NotEnough : co3_NotEnough[2]? = some (.str cf_NotEnough ctf_NotEnough)) (cm_NotEnough : ((l.prog.main.file : Str) == cf_NotEnough) = true)
    (mr_NotEnough : PySem.W.mroIn K C_NotEnough (.ref C_NotEnough) = some true) (up_NotEnough : PySem.W.ks_superIn K C_NotEnough C_NotEnough "__init__" = some (some (.builtin "ValueError.__init__"))) (ve_NotEnough : PySem.W.subIn K (.ref C_NotEnough) (.type "ValueError") = some true)
    (ga_NotEnough : PySem.W.findIn K (.ref C_NotEnough) "__getattribute__" = some (some (.builtin "BaseException.__getattribute__"))) (gg_NotEnough : PySem.W.findIn K (.ref C_NotEnough) "__getattr__" = some none) (ha_NotEnough : PySem.W.findIn K (.ref C_NotEnough) "__class__" = some (some (.builtin "object.__class__"))) (hm_NotEnough : PySem.W.mroIn K C_NotEnough (.type "object") = some true) (hd_NotEnough : PySem.W.hasDictIn K C_NotEnough = true) (ic_NotEnough : PySem.W.isClsIn K C_NotEnough = true) (pe_NotEnough : PySem.W.subIn K (.ref C_NotEnough) (.ref C_PlayError) = some true)
    (nf_NotEnough_many : PySem.W.findIn K (.ref C_NotEnough) "many" = some none)
    (ki_NotEnough_NotEnough : PySem.W.kitOne K (.ref C_NotEnough) (.ref C_NotEnough) = some true)
    (kt_NotEnough_0 : PySem.W.kitAny K (.ref C_NotEnough) [.ref C_BadCut, .ref C_BadPaper, .ref C_BadSession, .ref C_BadText, .ref C_BadWorld, .ref C_NoState, .ref C_NotFitting, .ref C_TooLarge] = some false)
    {f__law_begin : Addr} {od__law_begin an__law_begin : Option Addr} {sl__law_begin : Array (Option Value)} {oc__law_begin kV__law_begin dc__law_begin pm__law_begin cd__law_begin ct__law_begin : Value}
    {f__law_draw : Addr} {od__law_draw an__law_draw : Option Addr} {sl__law_draw : Array (Option Value)} {oc__law_draw kV__law_draw dc__law_draw pm__law_draw cd__law_draw ct__law_draw : Value}
    {f__law_pick : Addr} {od__law_pick an__law_pick : Option Addr} {sl__law_pick : Array (Option Value)} {oc__law_pick kV__law_pick dc__law_pick pm__law_pick cd__law_pick ct__law_pick : Value}
    {f__law_numbers : Addr} {od__law_numbers an__law_numbers : Option Addr} {sl__law_numbers : Array (Option Value)} {oc__law_numbers kV__law_numbers dc__law_numbers pm__law_numbers cd__law_numbers ct__law_numbers : Value}
    {f__law_rare : Addr} {od__law_rare an__law_rare : Option Addr} {sl__law_rare : Array (Option Value)} {oc__law_rare kV__law_rare dc__law_rare pm__law_rare cd__law_rare ct__law_rare : Value}
    {f__law_shuffled : Addr} {od__law_shuffled an__law_shuffled : Option Addr} {sl__law_shuffled : Array (Option Value)} {oc__law_shuffled kV__law_shuffled dc__law_shuffled pm__law_shuffled cd__law_shuffled ct__law_shuffled : Value}
    {f__law_points : Addr} {od__law_points an__law_points : Option Addr} {sl__law_points : Array (Option Value)} {oc__law_points kV__law_points dc__law_points pm__law_points cd__law_points ct__law_points : Value}
    {f__law_is_int : Addr} {od__law_is_int an__law_is_int : Option Addr} {sl__law_is_int : Array (Option Value)} {oc__law_is_int kV__law_is_int dc__law_is_int pm__law_is_int cd__law_is_int ct__law_is_int : Value}
    {f__law_is_ints : Addr} {od__law_is_ints an__law_is_ints : Option Addr} {sl__law_is_ints : Array (Option Value)} {oc__law_is_ints kV__law_is_ints dc__law_is_ints pm__law_is_ints cd__law_is_ints ct__law_is_ints : Value}
    {f__law_is_row : Addr} {od__law_is_row an__law_is_row : Option Addr} {sl__law_is_row : Array (Option Value)} {oc__law_is_row kV__law_is_row dc__law_is_row pm__law_is_row cd__law_is_row ct__law_is_row : Value}
    {f_pieces_of : Addr} {od_pieces_of an_pieces_of : Option Addr} {sl_pieces_of : Array (Option Value)} {oc_pieces_of kV_pieces_of dc_pieces_of pm_pieces_of cd_pieces_of ct_pieces_of : Value}
    {f_different_points : Addr} {od_different_points an_different_points : Option Addr} {sl_different_points : Array (Option Value)} {oc_different_points kV_different_points dc_different_points pm_different_points cd_different_points ct_different_points : Value}
    {f_power : Addr} {od_power an_power : Option Addr} {sl_power : Array (Option Value)} {oc_power kV_power dc_power pm_power cd_power ct_power : Value}
    {f_quotient : Addr} {od_quotient an_quotient : Option Addr} {sl_quotient : Array (Option Value)} {oc_quotient kV_quotient dc_quotient pm_quotient cd_quotient ct_quotient : Value}
    {f_curve : Addr} {od_curve an_curve : Option Addr} {sl_curve : Array (Option Value)} {oc_curve kV_curve dc_curve pm_curve cd_curve ct_curve : Value}
    {f_joined : Addr} {od_joined an_joined : Option Addr} {sl_joined : Array (Option Value)} {oc_joined kV_joined dc_joined pm_joined cd_joined ct_joined : Value}
    {f__law_curves : Addr} {od__law_curves an__law_curves : Option Addr} {sl__law_curves : Array (Option Value)} {oc__law_curves kV__law_curves dc__law_curves pm__law_curves cd__law_curves ct__law_curves : Value}
    {f__law_is_through : Addr} {od__law_is_through an__law_is_through : Option Addr} {sl__law_is_through : Array (Option Value)} {oc__law_is_through kV__law_is_through dc__law_is_through pm__law_is_through cd__law_is_through ct__law_is_through : Value}
    {f__law_wrong : Addr} {od__law_wrong an__law_wrong : Option Addr} {sl__law_wrong : Array (Option Value)} {oc__law_wrong kV__law_wrong dc__law_wrong pm__law_wrong cd__law_wrong ct__law_wrong : Value}
    {f__law_is_any_three : Addr} {od__law_is_any_three an__law_is_any_three : Option Addr} {sl__law_is_any_three : Array (Option Value)} {oc__law_is_any_three kV__law_is_any_three dc__law_is_any_three pm__law_is_any_three cd__law_is_any_three ct__law_is_any_three : Value}
    {f__law_refused : Addr} {od__law_refused an__law_refused : Option Addr} {sl__law_refused : Array (Option Value)} {oc__law_refused kV__law_refused dc__law_refused pm__law_refused cd__law_refused ct__law_refused : Value}
    {f__law_is_too_few : Addr} {od__law_is_too_few an__law_is_too_few : Option Addr} {sl__law_is_too_few : Array (Option Value)} {oc__law_is_too_few kV__law_is_too_few dc__law_is_too_few pm__law_is_too_few cd__law_is_too_few ct__law_is_too_few : Value}
    {f_law : Addr} {od_law an_law : Option Addr} {sl_law : Array (Option Value)} {oc_law kV_law dc_law pm_law cd_law ct_law : Value}
    (a__law_begin : PySem.W.nsIn K mainGlobals "_law_begin" = some (some (.ref f__law_begin))) (l__law_begin : K.lookup f__law_begin = some ⟨oc__law_begin, od__law_begin, .func (PySem.W.fnOf "_law_begin" "_law_begin" (defArgs s__law_begin) (defBody s__law_begin) (defScope s__law_begin) .none kV__law_begin dc__law_begin pm__law_begin an__law_begin cd__law_begin ct__law_begin), sl__law_begin⟩) (c__law_begin : PySem.W.codeIn K cd__law_begin "_law_begin" = true) (k__law_begin : PySem.W.keepIn K (.ref f__law_begin) = true)
    (a__law_draw : PySem.W.nsIn K mainGlobals "_law_draw" = some (some (.ref f__law_draw))) (l__law_draw : K.lookup f__law_draw = some ⟨oc__law_draw, od__law_draw, .func (PySem.W.fnOf "_law_draw" "_law_draw" (defArgs s__law_draw) (defBody s__law_draw) (defScope s__law_draw) .none kV__law_draw dc__law_draw pm__law_draw an__law_draw cd__law_draw ct__law_draw), sl__law_draw⟩) (c__law_draw : PySem.W.codeIn K cd__law_draw "_law_draw" = true) (k__law_draw : PySem.W.keepIn K (.ref f__law_draw) = true)
    (a__law_pick : PySem.W.nsIn K mainGlobals "_law_pick" = some (some (.ref f__law_pick))) (l__law_pick : K.lookup f__law_pick = some ⟨oc__law_pick, od__law_pick, .func (PySem.W.fnOf "_law_pick" "_law_pick" (defArgs s__law_pick) (defBody s__law_pick) (defScope s__law_pick) .none kV__law_pick dc__law_pick pm__law_pick an__law_pick cd__law_pick ct__law_pick), sl__law_pick⟩) (c__law_pick : PySem.W.codeIn K cd__law_pick "_law_pick" = true) (k__law_pick : PySem.W.keepIn K (.ref f__law_pick) = true)
    (a__law_numbers : PySem.W.nsIn K mainGlobals "_law_numbers" = some (some (.ref f__law_numbers))) (l__law_numbers : K.lookup f__law_numbers = some ⟨oc__law_numbers, od__law_numbers, .func (PySem.W.fnOf "_law_numbers" "_law_numbers" (defArgs s__law_numbers) (defBody s__law_numbers) (defScope s__law_numbers) .none kV__law_numbers dc__law_numbers pm__law_numbers an__law_numbers cd__law_numbers ct__law_numbers), sl__law_numbers⟩) (c__law_numbers : PySem.W.codeIn K cd__law_numbers "_law_numbers" = true) (k__law_numbers : PySem.W.keepIn K (.ref f__law_numbers) = true)
    (a__law_rare : PySem.W.nsIn K mainGlobals "_law_rare" = some (some (.ref f__law_rare))) (l__law_rare : K.lookup f__law_rare = some ⟨oc__law_rare, od__law_rare, .func (PySem.W.fnOf "_law_rare" "_law_rare" (defArgs s__law_rare) (defBody s__law_rare) (defScope s__law_rare) .none kV__law_rare dc__law_rare pm__law_rare an__law_rare cd__law_rare ct__law_rare), sl__law_rare⟩) (c__law_rare : PySem.W.codeIn K cd__law_rare "_law_rare" = true) (k__law_rare : PySem.W.keepIn K (.ref f__law_rare) = true)
    (a__law_shuffled : PySem.W.nsIn K mainGlobals "_law_shuffled" = some (some (.ref f__law_shuffled))) (l__law_shuffled : K.lookup f__law_shuffled = some ⟨oc__law_shuffled, od__law_shuffled, .func (PySem.W.fnOf "_law_shuffled" "_law_shuffled" (defArgs s__law_shuffled) (defBody s__law_shuffled) (defScope s__law_shuffled) .none kV__law_shuffled dc__law_shuffled pm__law_shuffled an__law_shuffled cd__law_shuffled ct__law_shuffled), sl__law_shuffled⟩) (c__law_shuffled : PySem.W.codeIn K cd__law_shuffled "_law_shuffled" = true) (k__law_shuffled : PySem.W.keepIn K (.ref f__law_shuffled) = true)
    (a__law_points : PySem.W.nsIn K mainGlobals "_law_points" = some (some (.ref f__law_points))) (l__law_points : K.lookup f__law_points = some ⟨oc__law_points, od__law_points, .func (PySem.W.fnOf "_law_points" "_law_points" (defArgs s__law_points) (defBody s__law_points) (defScope s__law_points) .none kV__law_points dc__law_points pm__law_points an__law_points cd__law_points ct__law_points), sl__law_points⟩) (c__law_points : PySem.W.codeIn K cd__law_points "_law_points" = true) (k__law_points : PySem.W.keepIn K (.ref f__law_points) = true)
    (a__law_is_int : PySem.W.nsIn K mainGlobals "_law_is_int" = some (some (.ref f__law_is_int))) (l__law_is_int : K.lookup f__law_is_int = some ⟨oc__law_is_int, od__law_is_int, .func (PySem.W.fnOf "_law_is_int" "_law_is_int" (defArgs s__law_is_int) (defBody s__law_is_int) (defScope s__law_is_int) .none kV__law_is_int dc__law_is_int pm__law_is_int an__law_is_int cd__law_is_int ct__law_is_int), sl__law_is_int⟩) (c__law_is_int : PySem.W.codeIn K cd__law_is_int "_law_is_int" = true) (k__law_is_int : PySem.W.keepIn K (.ref f__law_is_int) = true)
    (a__law_is_ints : PySem.W.nsIn K mainGlobals "_law_is_ints" = some (some (.ref f__law_is_ints))) (l__law_is_ints : K.lookup f__law_is_ints = some ⟨oc__law_is_ints, od__law_is_ints, .func (PySem.W.fnOf "_law_is_ints" "_law_is_ints" (defArgs s__law_is_ints) (defBody s__law_is_ints) (defScope s__law_is_ints) .none kV__law_is_ints dc__law_is_ints pm__law_is_ints an__law_is_ints cd__law_is_ints ct__law_is_ints), sl__law_is_ints⟩) (c__law_is_ints : PySem.W.codeIn K cd__law_is_ints "_law_is_ints" = true) (k__law_is_ints : PySem.W.keepIn K (.ref f__law_is_ints) = true)
    (a__law_is_row : PySem.W.nsIn K mainGlobals "_law_is_row" = some (some (.ref f__law_is_row))) (l__law_is_row : K.lookup f__law_is_row = some ⟨oc__law_is_row, od__law_is_row, .func (PySem.W.fnOf "_law_is_row" "_law_is_row" (defArgs s__law_is_row) (defBody s__law_is_row) (defScope s__law_is_row) .none kV__law_is_row dc__law_is_row pm__law_is_row an__law_is_row cd__law_is_row ct__law_is_row), sl__law_is_row⟩) (c__law_is_row : PySem.W.codeIn K cd__law_is_row "_law_is_row" = true) (k__law_is_row : PySem.W.keepIn K (.ref f__law_is_row) = true)
    (a_pieces_of : PySem.W.nsIn K mainGlobals "pieces_of" = some (some (.ref f_pieces_of))) (l_pieces_of : K.lookup f_pieces_of = some ⟨oc_pieces_of, od_pieces_of, .func (PySem.W.fnOf "pieces_of" "pieces_of" (defArgs s_pieces_of) (defBody s_pieces_of) (defScope s_pieces_of) .none kV_pieces_of dc_pieces_of pm_pieces_of an_pieces_of cd_pieces_of ct_pieces_of), sl_pieces_of⟩) (c_pieces_of : PySem.W.codeIn K cd_pieces_of "pieces_of" = true) (k_pieces_of : PySem.W.keepIn K (.ref f_pieces_of) = true)
    (a_different_points : PySem.W.nsIn K mainGlobals "different_points" = some (some (.ref f_different_points))) (l_different_points : K.lookup f_different_points = some ⟨oc_different_points, od_different_points, .func (PySem.W.fnOf "different_points" "different_points" (defArgs s_different_points) (defBody s_different_points) (defScope s_different_points) .none kV_different_points dc_different_points pm_different_points an_different_points cd_different_points ct_different_points), sl_different_points⟩) (c_different_points : PySem.W.codeIn K cd_different_points "different_points" = true) (k_different_points : PySem.W.keepIn K (.ref f_different_points) = true)
    (a_power : PySem.W.nsIn K mainGlobals "power" = some (some (.ref f_power))) (l_power : K.lookup f_power = some ⟨oc_power, od_power, .func (PySem.W.fnOf "power" "power" (defArgs s_power) (defBody s_power) (defScope s_power) .none kV_power dc_power pm_power an_power cd_power ct_power), sl_power⟩) (c_power : PySem.W.codeIn K cd_power "power" = true) (k_power : PySem.W.keepIn K (.ref f_power) = true)
    (a_quotient : PySem.W.nsIn K mainGlobals "quotient" = some (some (.ref f_quotient))) (l_quotient : K.lookup f_quotient = some ⟨oc_quotient, od_quotient, .func (PySem.W.fnOf "quotient" "quotient" (defArgs s_quotient) (defBody s_quotient) (defScope s_quotient) .none kV_quotient dc_quotient pm_quotient an_quotient cd_quotient ct_quotient), sl_quotient⟩) (c_quotient : PySem.W.codeIn K cd_quotient "quotient" = true) (k_quotient : PySem.W.keepIn K (.ref f_quotient) = true)
    (a_curve : PySem.W.nsIn K mainGlobals "curve" = some (some (.ref f_curve))) (l_curve : K.lookup f_curve = some ⟨oc_curve, od_curve, .func (PySem.W.fnOf "curve" "curve" (defArgs s_curve) (defBody s_curve) (defScope s_curve) .none kV_curve dc_curve pm_curve an_curve cd_curve ct_curve), sl_curve⟩) (c_curve : PySem.W.codeIn K cd_curve "curve" = true) (k_curve : PySem.W.keepIn K (.ref f_curve) = true)
    (a_joined : PySem.W.nsIn K mainGlobals "joined" = some (some (.ref f_joined))) (l_joined : K.lookup f_joined = some ⟨oc_joined, od_joined, .func (PySem.W.fnOf "joined" "joined" (defArgs s_joined) (defBody s_joined) (defScope s_joined) .none kV_joined dc_joined pm_joined an_joined cd_joined ct_joined), sl_joined⟩) (c_joined : PySem.W.codeIn K cd_joined "joined" = true) (k_joined : PySem.W.keepIn K (.ref f_joined) = true)
    (a__law_curves : PySem.W.nsIn K mainGlobals "_law_curves" = some (some (.ref f__law_curves))) (l__law_curves : K.lookup f__law_curves = some ⟨oc__law_curves, od__law_curves, .func (PySem.W.fnOf "_law_curves" "_law_curves" (defArgs s__law_curves) (defBody s__law_curves) (defScope s__law_curves) .none kV__law_curves dc__law_curves pm__law_curves an__law_curves cd__law_curves ct__law_curves), sl__law_curves⟩) (c__law_curves : PySem.W.codeIn K cd__law_curves "_law_curves" = true) (k__law_curves : PySem.W.keepIn K (.ref f__law_curves) = true)
    (a__law_is_through : PySem.W.nsIn K mainGlobals "_law_is_through" = some (some (.ref f__law_is_through))) (l__law_is_through : K.lookup f__law_is_through = some ⟨oc__law_is_through, od__law_is_through, .func (PySem.W.fnOf "_law_is_through" "_law_is_through" (defArgs s__law_is_through) (defBody s__law_is_through) (defScope s__law_is_through) .none kV__law_is_through dc__law_is_through pm__law_is_through an__law_is_through cd__law_is_through ct__law_is_through), sl__law_is_through⟩) (c__law_is_through : PySem.W.codeIn K cd__law_is_through "_law_is_through" = true) (k__law_is_through : PySem.W.keepIn K (.ref f__law_is_through) = true)
    (a__law_wrong : PySem.W.nsIn K mainGlobals "_law_wrong" = some (some (.ref f__law_wrong))) (l__law_wrong : K.lookup f__law_wrong = some ⟨oc__law_wrong, od__law_wrong, .func (PySem.W.fnOf "_law_wrong" "_law_wrong" (defArgs s__law_wrong) (defBody s__law_wrong) (defScope s__law_wrong) .none kV__law_wrong dc__law_wrong pm__law_wrong an__law_wrong cd__law_wrong ct__law_wrong), sl__law_wrong⟩) (c__law_wrong : PySem.W.codeIn K cd__law_wrong "_law_wrong" = true) (k__law_wrong : PySem.W.keepIn K (.ref f__law_wrong) = true)
    (a__law_is_any_three : PySem.W.nsIn K mainGlobals "_law_is_any_three" = some (some (.ref f__law_is_any_three))) (l__law_is_any_three : K.lookup f__law_is_any_three = some ⟨oc__law_is_any_three, od__law_is_any_three, .func (PySem.W.fnOf "_law_is_any_three" "_law_is_any_three" (defArgs s__law_is_any_three) (defBody s__law_is_any_three) (defScope s__law_is_any_three) .none kV__law_is_any_three dc__law_is_any_three pm__law_is_any_three an__law_is_any_three cd__law_is_any_three ct__law_is_any_three), sl__law_is_any_three⟩) (c__law_is_any_three : PySem.W.codeIn K cd__law_is_any_three "_law_is_any_three" = true) (k__law_is_any_three : PySem.W.keepIn K (.ref f__law_is_any_three) = true)
    (a__law_refused : PySem.W.nsIn K mainGlobals "_law_refused" = some (some (.ref f__law_refused))) (l__law_refused : K.lookup f__law_refused = some ⟨oc__law_refused, od__law_refused, .func (PySem.W.fnOf "_law_refused" "_law_refused" (defArgs s__law_refused) (defBody s__law_refused) (defScope s__law_refused) .none kV__law_refused dc__law_refused pm__law_refused an__law_refused cd__law_refused ct__law_refused), sl__law_refused⟩) (c__law_refused : PySem.W.codeIn K cd__law_refused "_law_refused" = true) (k__law_refused : PySem.W.keepIn K (.ref f__law_refused) = true)
    (a__law_is_too_few : PySem.W.nsIn K mainGlobals "_law_is_too_few" = some (some (.ref f__law_is_too_few))) (l__law_is_too_few : K.lookup f__law_is_too_few = some ⟨oc__law_is_too_few, od__law_is_too_few, .func (PySem.W.fnOf "_law_is_too_few" "_law_is_too_few" (defArgs s__law_is_too_few) (defBody s__law_is_too_few) (defScope s__law_is_too_few) .none kV__law_is_too_few dc__law_is_too_few pm__law_is_too_few an__law_is_too_few cd__law_is_too_few ct__law_is_too_few), sl__law_is_too_few⟩) (c__law_is_too_few : PySem.W.codeIn K cd__law_is_too_few "_law_is_too_few" = true) (k__law_is_too_few : PySem.W.keepIn K (.ref f__law_is_too_few) = true)
    (a_law : PySem.W.nsIn K mainGlobals "law" = some (some (.ref f_law))) (l_law : K.lookup f_law = some ⟨oc_law, od_law, .func (PySem.W.fnOf "law" "law" (defArgs s_law) (defBody s_law) (defScope s_law) .none kV_law dc_law pm_law an_law cd_law ct_law), sl_law⟩) (c_law : PySem.W.codeIn K cd_law "law" = true) (k_law : PySem.W.keepIn K (.ref f_law) = true)
    (z_int : PySem.W.nsIn K mainGlobals "int" = some none)
    (z_len : PySem.W.nsIn K mainGlobals "len" = some none)
    (z_abs : PySem.W.nsIn K mainGlobals "abs" = some none)
    (z_range : PySem.W.nsIn K mainGlobals "range" = some none)
    (z_tuple : PySem.W.nsIn K mainGlobals "tuple" = some none)
    (z_list : PySem.W.nsIn K mainGlobals "list" = some none)
    (z_isinstance : PySem.W.nsIn K mainGlobals "isinstance" = some none)
    (z_bool : PySem.W.nsIn K mainGlobals "bool" = some none)
    (z_all : PySem.W.nsIn K mainGlobals "all" = some none)
    {u_NEEDED : Value} (n_NEEDED : PySem.W.nsIn K mainGlobals "NEEDED" = some (some u_NEEDED)) (r_NEEDED : RelV (.int 3) u_NEEDED)
    {u_MODULUS : Value} (n_MODULUS : PySem.W.nsIn K mainGlobals "MODULUS" = some (some u_MODULUS)) (r_MODULUS : RelV (.int 65537) u_MODULUS)
    : ∃ fd : FuncData, (∀ (s : Shared) (v : Value), BindsTo s fd ⟨[v], []⟩ [("script", v)]) ∧ ∀ base : Heap, K.In base → base.Ns mainGlobals mg → FnOk l.prog w K mg base CX0 7 fa fd ["script"] (sp_law K) := by
  have e := hfa.symm.trans (PySem.W.mg_of X G a_law)
  cases e
  have T : Txt K mg C_NotEnough C_PlayError C_BadCut C_BadPaper C_BadSession C_BadText C_BadWorld C_NoState C_NotFitting C_TooLarge := ⟨PySem.W.mg_of X G a_NotEnough, PySem.W.mg_of X G a_PlayError, PySem.W.mg_of X G a_BadCut, PySem.W.mg_of X G a_BadPaper, PySem.W.mg_of X G a_BadSession, PySem.W.mg_of X G a_BadText, PySem.W.mg_of X G a_BadWorld, PySem.W.mg_of X G a_NoState, PySem.W.mg_of X G a_NotFitting, PySem.W.mg_of X G a_TooLarge, ⟨⟨ic_NotEnough, ga_NotEnough, gg_NotEnough, ex_NotEnough, ha_NotEnough, hn_PE, ht_PE, hm_NotEnough⟩, hd_NotEnough, PySem.W.exm_ref hx_PE hd_PE ty_PE pe_NotEnough⟩, nf_NotEnough_many, ki_NotEnough_NotEnough, kt_NotEnough_0, PySem.W.mg_none_of X G z_int, PySem.W.mg_none_of X G z_len, PySem.W.mg_none_of X G z_abs, PySem.W.mg_none_of X G z_range, PySem.W.mg_none_of X G z_tuple, PySem.W.mg_none_of X G z_list, PySem.W.mg_none_of X G z_isinstance, PySem.W.mg_none_of X G z_bool, PySem.W.mg_none_of X G z_all, ⟨_, PySem.W.mg_of X G n_NEEDED, r_NEEDED⟩, ⟨_, PySem.W.mg_of X G n_MODULUS, r_MODULUS⟩⟩
  have F__law_begin := fun_mk (st := s__law_begin) l__law_begin c__law_begin k__law_begin
  have D__law_begin : Df K mg "_law_begin" s__law_begin f__law_begin _ ["script"] := ⟨F__law_begin, PySem.W.mg_of X G a__law_begin, F__law_begin.binds (ps := ["script"]) fun _ _ _ _ _ _ us hl => match us, hl with | [_], _ => rfl⟩
  have F__law_draw := fun_mk (st := s__law_draw) l__law_draw c__law_draw k__law_draw
  have D__law_draw : Df K mg "_law_draw" s__law_draw f__law_draw _ ["d", "many"] := ⟨F__law_draw, PySem.W.mg_of X G a__law_draw, F__law_draw.binds (ps := ["d", "many"]) fun _ _ _ _ _ _ us hl => match us, hl with | [_, _], _ => rfl⟩
  have F__law_pick := fun_mk (st := s__law_pick) l__law_pick c__law_pick k__law_pick
  have D__law_pick : Df K mg "_law_pick" s__law_pick f__law_pick _ ["d", "row"] := ⟨F__law_pick, PySem.W.mg_of X G a__law_pick, F__law_pick.binds (ps := ["d", "row"]) fun _ _ _ _ _ _ us hl => match us, hl with | [_, _], _ => rfl⟩
  have F__law_numbers := fun_mk (st := s__law_numbers) l__law_numbers c__law_numbers k__law_numbers
  have D__law_numbers : Df K mg "_law_numbers" s__law_numbers f__law_numbers _ ["d", "many"] := ⟨F__law_numbers, PySem.W.mg_of X G a__law_numbers, F__law_numbers.binds (ps := ["d", "many"]) fun _ _ _ _ _ _ us hl => match us, hl with | [_, _], _ => rfl⟩
  have F__law_rare := fun_mk (st := s__law_rare) l__law_rare c__law_rare k__law_rare
  have D__law_rare : Df K mg "_law_rare" s__law_rare f__law_rare _ ["d", "many"] := ⟨F__law_rare, PySem.W.mg_of X G a__law_rare, F__law_rare.binds (ps := ["d", "many"]) fun _ _ _ _ _ _ us hl => match us, hl with | [_, _], _ => rfl⟩
  have F__law_shuffled := fun_mk (st := s__law_shuffled) l__law_shuffled c__law_shuffled k__law_shuffled
  have D__law_shuffled : Df K mg "_law_shuffled" s__law_shuffled f__law_shuffled _ ["d", "row"] := ⟨F__law_shuffled, PySem.W.mg_of X G a__law_shuffled, F__law_shuffled.binds (ps := ["d", "row"]) fun _ _ _ _ _ _ us hl => match us, hl with | [_, _], _ => rfl⟩
  have F__law_points := fun_mk (st := s__law_points) l__law_points c__law_points k__law_points
  have D__law_points : Df K mg "_law_points" s__law_points f__law_points _ ["d", "many"] := ⟨F__law_points, PySem.W.mg_of X G a__law_points, F__law_points.binds (ps := ["d", "many"]) fun _ _ _ _ _ _ us hl => match us, hl with | [_, _], _ => rfl⟩
  have F__law_is_int := fun_mk (st := s__law_is_int) l__law_is_int c__law_is_int k__law_is_int
  have D__law_is_int : Df K mg "_law_is_int" s__law_is_int f__law_is_int _ ["thing"] := ⟨F__law_is_int, PySem.W.mg_of X G a__law_is_int, F__law_is_int.binds (ps := ["thing"]) fun _ _ _ _ _ _ us hl => match us, hl with | [_], _ => rfl⟩
  have F__law_is_ints := fun_mk (st := s__law_is_ints) l__law_is_ints c__law_is_ints k__law_is_ints
  have D__law_is_ints : Df K mg "_law_is_ints" s__law_is_ints f__law_is_ints _ ["row"] := ⟨F__law_is_ints, PySem.W.mg_of X G a__law_is_ints, F__law_is_ints.binds (ps := ["row"]) fun _ _ _ _ _ _ us hl => match us, hl with | [_], _ => rfl⟩
  have F__law_is_row := fun_mk (st := s__law_is_row) l__law_is_row c__law_is_row k__law_is_row
  have D__law_is_row : Df K mg "_law_is_row" s__law_is_row f__law_is_row _ ["told", "row"] := ⟨F__law_is_row, PySem.W.mg_of X G a__law_is_row, F__law_is_row.binds (ps := ["told", "row"]) fun _ _ _ _ _ _ us hl => match us, hl with | [_, _], _ => rfl⟩
  have F_pieces_of := fun_mk (st := s_pieces_of) l_pieces_of c_pieces_of k_pieces_of
  have D_pieces_of : Df K mg "pieces_of" s_pieces_of f_pieces_of _ ["numbers", "x"] := ⟨F_pieces_of, PySem.W.mg_of X G a_pieces_of, F_pieces_of.binds (ps := ["numbers", "x"]) fun _ _ _ _ _ _ us hl => match us, hl with | [_, _], _ => rfl⟩
  have F_different_points := fun_mk (st := s_different_points) l_different_points c_different_points k_different_points
  have D_different_points : Df K mg "different_points" s_different_points f_different_points _ ["pairs"] := ⟨F_different_points, PySem.W.mg_of X G a_different_points, F_different_points.binds (ps := ["pairs"]) fun _ _ _ _ _ _ us hl => match us, hl with | [_], _ => rfl⟩
  have F_power := fun_mk (st := s_power) l_power c_power k_power
  have D_power : Df K mg "power" s_power f_power _ ["number", "exponent"] := ⟨F_power, PySem.W.mg_of X G a_power, F_power.binds (ps := ["number", "exponent"]) fun _ _ _ _ _ _ us hl => match us, hl with | [_, _], _ => rfl⟩
  have F_quotient := fun_mk (st := s_quotient) l_quotient c_quotient k_quotient
  have D_quotient : Df K mg "quotient" s_quotient f_quotient _ ["number", "divisor"] := ⟨F_quotient, PySem.W.mg_of X G a_quotient, F_quotient.binds (ps := ["number", "divisor"]) fun _ _ _ _ _ _ us hl => match us, hl with | [_, _], _ => rfl⟩
  have F_curve := fun_mk (st := s_curve) l_curve c_curve k_curve
  have D_curve : Df K mg "curve" s_curve f_curve _ ["points"] := ⟨F_curve, PySem.W.mg_of X G a_curve, F_curve.binds (ps := ["points"]) fun _ _ _ _ _ _ us hl => match us, hl with | [_], _ => rfl⟩
  have F_joined := fun_mk (st := s_joined) l_joined c_joined k_joined
  have D_joined : Df K mg "joined" s_joined f_joined _ ["pairs", "many"] := ⟨F_joined, PySem.W.mg_of X G a_joined, F_joined.binds (ps := ["pairs", "many"]) fun _ _ _ _ _ _ us hl => match us, hl with | [_, _], _ => rfl⟩
  have F__law_curves := fun_mk (st := s__law_curves) l__law_curves c__law_curves k__law_curves
  have D__law_curves : Df K mg "_law_curves" s__law_curves f__law_curves _ ["numbers", "x"] := ⟨F__law_curves, PySem.W.mg_of X G a__law_curves, F__law_curves.binds (ps := ["numbers", "x"]) fun _ _ _ _ _ _ us hl => match us, hl with | [_, _], _ => rfl⟩
  have F__law_is_through := fun_mk (st := s__law_is_through) l__law_is_through c__law_is_through k__law_is_through
  have D__law_is_through : Df K mg "_law_is_through" s__law_is_through f__law_is_through _ ["d", "points", "groups"] := ⟨F__law_is_through, PySem.W.mg_of X G a__law_is_through, F__law_is_through.binds (ps := ["d", "points", "groups"]) fun _ _ _ _ _ _ us hl => match us, hl with | [_, _, _], _ => rfl⟩
  have F__law_wrong := fun_mk (st := s__law_wrong) l__law_wrong c__law_wrong k__law_wrong
  have D__law_wrong : Df K mg "_law_wrong" s__law_wrong f__law_wrong _ ["d", "values"] := ⟨F__law_wrong, PySem.W.mg_of X G a__law_wrong, F__law_wrong.binds (ps := ["d", "values"]) fun _ _ _ _ _ _ us hl => match us, hl with | [_, _], _ => rfl⟩
  have F__law_is_any_three := fun_mk (st := s__law_is_any_three) l__law_is_any_three c__law_is_any_three k__law_is_any_three
  have D__law_is_any_three : Df K mg "_law_is_any_three" s__law_is_any_three f__law_is_any_three _ ["d", "pairs", "row"] := ⟨F__law_is_any_three, PySem.W.mg_of X G a__law_is_any_three, F__law_is_any_three.binds (ps := ["d", "pairs", "row"]) fun _ _ _ _ _ _ us hl => match us, hl with | [_, _, _], _ => rfl⟩
  have F__law_refused := fun_mk (st := s__law_refused) l__law_refused c__law_refused k__law_refused
  have D__law_refused : Df K mg "_law_refused" s__law_refused f__law_refused _ ["pairs", "many"] := ⟨F__law_refused, PySem.W.mg_of X G a__law_refused, F__law_refused.binds (ps := ["pairs", "many"]) fun _ _ _ _ _ _ us hl => match us, hl with | [_, _], _ => rfl⟩
  have F__law_is_too_few := fun_mk (st := s__law_is_too_few) l__law_is_too_few c__law_is_too_few k__law_is_too_few
  have D__law_is_too_few : Df K mg "_law_is_too_few" s__law_is_too_few f__law_is_too_few _ ["d", "pairs", "many"] := ⟨F__law_is_too_few, PySem.W.mg_of X G a__law_is_too_few, F__law_is_too_few.binds (ps := ["d", "pairs", "many"]) fun _ _ _ _ _ _ us hl => match us, hl with | [_, _, _], _ => rfl⟩
  have F_law := fun_mk (st := s_law) l_law c_law k_law
  have D_law : Df K mg "law" s_law _ _ ["script"] := ⟨F_law, PySem.W.mg_of X G a_law, F_law.binds (ps := ["script"]) fun _ _ _ _ _ _ us hl => match us, hl with | [_], _ => rfl⟩
  refine ⟨PySem.W.fnOf "law" "law" (defArgs s_law) (defBody s_law) (defScope s_law) .none kV_law dc_law pm_law an_law cd_law ct_law, fun s v => .of_eq rfl, fun base _ _ => ?_⟩
  have O_NotEnough : OexC K C_NotEnough := ⟨⟨_, _, _, _, _, _, _, _, _, _, _, _, _, _, _, xl_NotEnough, rv_NotEnough⟩, sa_NotEnough, ex_NotEnough, ty_NotEnough, kc_NotEnough⟩
  have Z_NotEnough : EX2.InT l.prog K C_NotEnough cc_NotEnough cda_NotEnough := ⟨O_NotEnough, ⟨_, _, _, ce_NotEnough⟩, ⟨_, _, _, _, _, _, co_NotEnough, cv_NotEnough, cm_NotEnough⟩, mr_NotEnough, top_PE, opq_PE, up_NotEnough, ve_NotEnough⟩
  have X_NotEnough : EX2.Xcl1 l.prog w K mg base 1 "NotEnough" C_NotEnough "many" := ⟨⟨fi_NotEnough, _, _, EX2.fn_x1 li_NotEnough ci_NotEnough (NdefX.nscope_by (by decide +kernel)) Z_NotEnough (PySem.W.mg_none_of X G sup_PE) nf_NotEnough_many (by rfl) rfl rfl (by rfl) (by decide) (by decide), ii_NotEnough, it_NotEnough, Binds.all fun us hl => match us, hl with | [_, _], _ => rfl⟩, O_NotEnough, PySem.W.mg_of X G a_NotEnough⟩
  have C__law_begin : Cl l.prog w K mg base 1 "_law_begin" (sp__law_begin K) := D__law_begin.cl (ok__law_begin D__law_begin T )
  have C__law_draw : Cl l.prog w K mg base 1 "_law_draw" (sp__law_draw K) := D__law_draw.cl (ok__law_draw D__law_draw T )
  have C__law_pick : Cl l.prog w K mg base 2 "_law_pick" (sp__law_pick K) := D__law_pick.cl (ok__law_pick D__law_pick T C__law_draw)
  have C__law_numbers : Cl l.prog w K mg base 3 "_law_numbers" (sp__law_numbers K) := D__law_numbers.cl (ok__law_numbers D__law_numbers T C__law_pick C__law_draw)
  have C__law_rare : Cl l.prog w K mg base 2 "_law_rare" (sp__law_rare K) := D__law_rare.cl (ok__law_rare D__law_rare T C__law_draw)
  have C__law_shuffled : Cl l.prog w K mg base 2 "_law_shuffled" (sp__law_shuffled K) := D__law_shuffled.cl (ok__law_shuffled D__law_shuffled T C__law_draw)
  have C__law_points : Cl l.prog w K mg base 3 "_law_points" (sp__law_points K) := D__law_points.cl (ok__law_points D__law_points T C__law_rare C__law_shuffled C__law_pick C__law_draw)
  have C__law_is_int : Cl l.prog w K mg base 1 "_law_is_int" (sp__law_is_int K) := D__law_is_int.cl (ok__law_is_int D__law_is_int T )
  have C__law_is_ints : Cl l.prog w K mg base 2 "_law_is_ints" (sp__law_is_ints K) := D__law_is_ints.cl (ok__law_is_ints D__law_is_ints T C__law_is_int)
  have C__law_is_row : Cl l.prog w K mg base 3 "_law_is_row" (sp__law_is_row K) := D__law_is_row.cl (ok__law_is_row D__law_is_row T C__law_is_ints)
  have C_pieces_of : Cl l.prog w K mg base 1 "pieces_of" (sp_pieces_of K) := D_pieces_of.cl (ok_pieces_of D_pieces_of T )
  have C_different_points : Cl l.prog w K mg base 1 "different_points" (sp_different_points K) := D_different_points.cl (ok_different_points D_different_points T )
  have C_power : Cl l.prog w K mg base 1 "power" (sp_power K) := D_power.cl (ok_power D_power T )
  have C_quotient : Cl l.prog w K mg base 2 "quotient" (sp_quotient K) := D_quotient.cl (ok_quotient D_quotient T C_power)
  have C_curve : Cl l.prog w K mg base 3 "curve" (sp_curve K) := D_curve.cl (ok_curve D_curve T C_quotient)
  have C_joined : Clx l.prog w K mg base 4 "joined" (sp_joined K C_NotEnough) := D_joined.clx (ok_joined D_joined T C_different_points C_curve X_NotEnough)
  have C__law_curves : Cl l.prog w K mg base 1 "_law_curves" (sp__law_curves K) := D__law_curves.cl (ok__law_curves D__law_curves T )
  have C__law_is_through : Cl l.prog w K mg base 5 "_law_is_through" (sp__law_is_through K) := D__law_is_through.cl (ok__law_is_through D__law_is_through T C_joined C__law_is_ints C__law_curves C__law_draw)
  have C__law_wrong : Cl l.prog w K mg base 2 "_law_wrong" (sp__law_wrong K) := D__law_wrong.cl (ok__law_wrong D__law_wrong T C__law_draw)
  have C__law_is_any_three : Cl l.prog w K mg base 5 "_law_is_any_three" (sp__law_is_any_three K) := D__law_is_any_three.cl (ok__law_is_any_three D__law_is_any_three T C__law_is_row C__law_shuffled C__law_wrong C_joined)
  have C__law_refused : Cl l.prog w K mg base 5 "_law_refused" (sp__law_refused K) := D__law_refused.cl (ok__law_refused D__law_refused T C_joined)
  have C__law_is_too_few : Cl l.prog w K mg base 6 "_law_is_too_few" (sp__law_is_too_few K) := D__law_is_too_few.cl (ok__law_is_too_few D__law_is_too_few T C__law_refused C__law_wrong C__law_is_int)
  exact ok_law D_law T C__law_begin C__law_pick C__law_numbers C__law_points C__law_is_row C_pieces_of C__law_is_through C_joined C__law_is_any_three C__law_is_too_few C__law_is_ints C__law_curves C__law_draw
theorem walk {l : PySem.W.OpenLaw} {q : Program} {loose : List Str} {XP : (Str → Option Value) → Heap → Prop} {YP : World → Heap → Prop} {d : DefRec} {K : Params → PySem.W.Frag} (hn : l.most = some 63) (hdf : d.params.defaults = [])
    (hY : ∀ (w : World) (h : Heap), YP w h → (K w.params).In h)
    (F : ∀ (w : World) (mg : Str → Option Value) (fa : Addr) (h : Heap), (K w.params).In h → h.Ns mainGlobals mg → mg d.name = some (.ref fa) →
      ∃ fd : FuncData, (∀ (s : Shared) (u : Value), BindsTo s fd ⟨[u], []⟩ [("script", u)]) ∧ ∀ base : Heap, (K w.params).In base → base.Ns mainGlobals mg → FnOk l.prog w (K w.params) mg base CX0 7 fa fd ["script"] (sp_law (K w.params))) :
    PySem.W.WalkO q loose XP YP l.row.toRowW d [] (fun f vs => PySem.call f vs) :=
  L2.walk_ofB (n := 63) (k := 7) (x := "script") (CX := fun _ => CX0) (sp := fun w => sp_law (K w.params)) hn (by decide) hdf ⟨rfl, by decide, by decide⟩ hY F (fun _ _ a ns hl hb _ hS => law_hands a ns hl hb hS) fun _ _ _ _ _ z => z
end Law
open PySem PySem.W PyProof.Rows in
set_option maxRecDepth 100000 in
set_option maxHeartbeats 0 in
theorem PySem.Challenge.cw_judgedplay_k55_any_three_pieces_holds : PySem.Challenge.rw_judgedplay_k55_any_three_pieces.Holds := by
  w_on; o_law; k_head; (case hw => w_witness2)
  k_fill
  refine Law.walk (l := PySem.Challenge.rw_judgedplay_k55_any_three_pieces) rfl rfl (fun w h Y => PySem.W.kIn_of Y) ?F
  case F =>
    intro w mg fa h KX G hmg
    refine' Law.all_mk KX G hmg ?a_NotEnough ?a_PlayError ?a_BadCut ?a_BadPaper ?a_BadSession ?a_BadText ?a_BadWorld ?a_NoState ?a_NotFitting ?a_TooLarge ?hx_PE ?hd_PE ?ty_PE ?sup_PE ?opq_PE ?top_PE ?hn_PE ?ht_PE ?xl_NotEnough ?rv_NotEnough ?sa_NotEnough ?ex_NotEnough ?ty_NotEnough ?kc_NotEnough ?ii_NotEnough ?it_NotEnough ?li_NotEnough ?ci_NotEnough ?ce_NotEnough ?co_NotEnough ?cv_NotEnough ?cm_NotEnough ?mr_NotEnough ?up_NotEnough ?ve_NotEnough ?ga_NotEnough ?gg_NotEnough ?ha_NotEnough ?hm_NotEnough ?hd_NotEnough ?ic_NotEnough ?pe_NotEnough ?nf_NotEnough_many ?ki_NotEnough_NotEnough ?kt_NotEnough_0 ?a__law_begin ?l__law_begin ?c__law_begin ?k__law_begin ?a__law_draw ?l__law_draw ?c__law_draw ?k__law_draw ?a__law_pick ?l__law_pick ?c__law_pick ?k__law_pick ?a__law_numbers ?l__law_numbers ?c__law_numbers ?k__law_numbers ?a__law_rare ?l__law_rare ?c__law_rare ?k__law_rare ?a__law_shuffled ?l__law_shuffled ?c__law_shuffled ?k__law_shuffled ?a__law_points ?l__law_points ?c__law_points ?k__law_points ?a__law_is_int ?l__law_is_int ?c__law_is_int ?k__law_is_int ?a__law_is_ints ?l__law_is_ints ?c__law_is_ints ?k__law_is_ints ?a__law_is_row ?l__law_is_row ?c__law_is_row ?k__law_is_row ?a_pieces_of ?l_pieces_of ?c_pieces_of ?k_pieces_of ?a_different_points ?l_different_points ?c_different_points ?k_different_points ?a_power ?l_power ?c_power ?k_power ?a_quotient ?l_quotient ?c_quotient ?k_quotient ?a_curve ?l_curve ?c_curve ?k_curve ?a_joined ?l_joined ?c_joined ?k_joined ?a__law_curves ?l__law_curves ?c__law_curves ?k__law_curves ?a__law_is_through ?l__law_is_through ?c__law_is_through ?k__law_is_through ?a__law_wrong ?l__law_wrong ?c__law_wrong ?k__law_wrong ?a__law_is_any_three ?l__law_is_any_three ?c__law_is_any_three ?k__law_is_any_three ?a__law_refused ?l__law_refused ?c__law_refused ?k__law_refused ?a__law_is_too_few ?l__law_is_too_few ?c__law_is_too_few ?k__law_is_too_few ?a_law ?l_law ?c_law ?k_law ?z_int ?z_len ?z_abs ?z_range ?z_tuple ?z_list ?z_isinstance ?z_bool ?z_all ?n_NEEDED ?r_NEEDED ?n_MODULUS ?r_MODULUS
    (case a_NotEnough => k_is)
    (case a_PlayError => k_is)
    (case a_BadCut => k_is)
    (case a_BadPaper => k_is)
    (case a_BadSession => k_is)
    (case a_BadText => k_is)
    (case a_BadWorld => k_is)
    (case a_NoState => k_is)
    (case a_NotFitting => k_is)
    (case a_TooLarge => k_is)
    (case hx_PE => k_is)
    (case hd_PE => k_is)
    (case ty_PE => k_is)
    (case sup_PE => k_is)
    (case opq_PE => k_is)
    (case top_PE => first | rfl | decide +kernel)
    (case hn_PE => k_is)
    (case ht_PE => k_is)
    (case xl_NotEnough => k_is)
    (case rv_NotEnough => first | rfl | decide +kernel)
    (case sa_NotEnough => k_is)
    (case ex_NotEnough => k_is)
    (case ty_NotEnough => k_is)
    (case kc_NotEnough => k_is)
    (case ii_NotEnough => k_is)
    (case it_NotEnough => k_is)
    (case li_NotEnough => k_is)
    (case ci_NotEnough => k_is)
    (case ce_NotEnough => k_is)
    (case co_NotEnough => k_is)
    (case cv_NotEnough => first | rfl | decide +kernel)
    (case cm_NotEnough => first | rfl | decide +kernel)
    (case mr_NotEnough => k_is)
    (case up_NotEnough => ks_is)
    (case ve_NotEnough => k_is)
    (case ga_NotEnough => k_is)
    (case gg_NotEnough => k_is)
    (case ha_NotEnough => k_is)
    (case hm_NotEnough => k_is)
    (case hd_NotEnough => k_is)
    (case ic_NotEnough => k_is)
    (case pe_NotEnough => k_is)
    (case nf_NotEnough_many => k_is)
    (case ki_NotEnough_NotEnough => kit_is)
    (case kt_NotEnough_0 => kit_is)
    (case a__law_begin => k_is)
    (case l__law_begin => k_is)
    (case c__law_begin => k_is)
    (case k__law_begin => k_is)
    (case a__law_draw => k_is)
    (case l__law_draw => k_is)
    (case c__law_draw => k_is)
    (case k__law_draw => k_is)
    (case a__law_pick => k_is)
    (case l__law_pick => k_is)
    (case c__law_pick => k_is)
    (case k__law_pick => k_is)
    (case a__law_numbers => k_is)
    (case l__law_numbers => k_is)
    (case c__law_numbers => k_is)
    (case k__law_numbers => k_is)
    (case a__law_rare => k_is)
    (case l__law_rare => k_is)
    (case c__law_rare => k_is)
    (case k__law_rare => k_is)
    (case a__law_shuffled => k_is)
    (case l__law_shuffled => k_is)
    (case c__law_shuffled => k_is)
    (case k__law_shuffled => k_is)
    (case a__law_points => k_is)
    (case l__law_points => k_is)
    (case c__law_points => k_is)
    (case k__law_points => k_is)
    (case a__law_is_int => k_is)
    (case l__law_is_int => k_is)
    (case c__law_is_int => k_is)
    (case k__law_is_int => k_is)
    (case a__law_is_ints => k_is)
    (case l__law_is_ints => k_is)
    (case c__law_is_ints => k_is)
    (case k__law_is_ints => k_is)
    (case a__law_is_row => k_is)
    (case l__law_is_row => k_is)
    (case c__law_is_row => k_is)
    (case k__law_is_row => k_is)
    (case a_pieces_of => k_is)
    (case l_pieces_of => k_is)
    (case c_pieces_of => k_is)
    (case k_pieces_of => k_is)
    (case a_different_points => k_is)
    (case l_different_points => k_is)
    (case c_different_points => k_is)
    (case k_different_points => k_is)
    (case a_power => k_is)
    (case l_power => k_is)
    (case c_power => k_is)
    (case k_power => k_is)
    (case a_quotient => k_is)
    (case l_quotient => k_is)
    (case c_quotient => k_is)
    (case k_quotient => k_is)
    (case a_curve => k_is)
    (case l_curve => k_is)
    (case c_curve => k_is)
    (case k_curve => k_is)
    (case a_joined => k_is)
    (case l_joined => k_is)
    (case c_joined => k_is)
    (case k_joined => k_is)
    (case a__law_curves => k_is)
    (case l__law_curves => k_is)
    (case c__law_curves => k_is)
    (case k__law_curves => k_is)
    (case a__law_is_through => k_is)
    (case l__law_is_through => k_is)
    (case c__law_is_through => k_is)
    (case k__law_is_through => k_is)
    (case a__law_wrong => k_is)
    (case l__law_wrong => k_is)
    (case c__law_wrong => k_is)
    (case k__law_wrong => k_is)
    (case a__law_is_any_three => k_is)
    (case l__law_is_any_three => k_is)
    (case c__law_is_any_three => k_is)
    (case k__law_is_any_three => k_is)
    (case a__law_refused => k_is)
    (case l__law_refused => k_is)
    (case c__law_refused => k_is)
    (case k__law_refused => k_is)
    (case a__law_is_too_few => k_is)
    (case l__law_is_too_few => k_is)
    (case c__law_is_too_few => k_is)
    (case k__law_is_too_few => k_is)
    (case a_law => k_is)
    (case l_law => k_is)
    (case c_law => k_is)
    (case k_law => k_is)
    (case z_int => k_is)
    (case z_len => k_is)
    (case z_abs => k_is)
    (case z_range => k_is)
    (case z_tuple => k_is)
    (case z_list => k_is)
    (case z_isinstance => k_is)
    (case z_bool => k_is)
    (case z_all => k_is)
    (case n_NEEDED => k_is)
    (case r_NEEDED => first | exact ⟨_, rfl⟩ | rfl)
    (case n_MODULUS => k_is)
    (case r_MODULUS => first | exact ⟨_, rfl⟩ | rfl)
#print axioms PySem.Challenge.cw_judgedplay_k55_any_three_pieces_holds
