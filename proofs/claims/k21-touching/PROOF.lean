import PyProof.Rows.All
import Wide.All
import OpenK.AllK
import Wide.FinOn
import HandS.ForMost
import HandS.Wide
import HandS.WideBits
import HandS.IsInst
import HandS.TupAny
import HandS.Deep
import HandS.EndBits
import HandS.More
import HandS.Walk
import HandS.SortRule
import PySem.Challenge.RW_judgedplay_k21_touching
set_option Elab.async false
set_option linter.all false
set_option maxRecDepth 100000
set_option maxHeartbeats 4000000
/-! ### my own layer: introduction forms for the readings -/
namespace Jp
open PySem PySem.Spec PyProof.Rows L2
/-! rules by names -/
section
variable {X : Cx}
def rInt1 : List V → Hp → VK → Prop := fun xs H Q => (∃ i, xs = [.int i] ∧ Q (.int i) H) ∨ ∃ k, xs = [.bl k] ∧ Q (.int (if k then 1 else 0)) H
theorem c_int : CallR X (.type "int") rInt1 := call_int1
def rAbs : List V → Hp → VK → Prop := fun xs H Q => ∃ i, xs = [.int i] ∧ Q (.int (if i < 0 then -i else i)) H
theorem c_abs : CallR X (.builtin "abs") rAbs := call_abs
def rMax2 : List V → Hp → VK → Prop := fun xs H Q => ∃ i j, xs = [.int i, .int j] ∧ Q (.int (if j > i then j else i)) H
theorem c_max2 (hc : X.calm = true) : CallR X (.builtin "max") rMax2 := call_max2 hc
def rMin2 : List V → Hp → VK → Prop := fun xs H Q => ∃ i j, xs = [.int i, .int j] ∧ Q (.int (if j < i then j else i)) H
theorem c_min2 (hc : X.calm = true) : CallR X (.builtin "min") rMin2 := call_min2 hc
def qLen (K : PySem.W.Frag) : List V → Hp → VK → Prop := fun xs H Q => ∃ x n, xs = [x] ∧ LenV K x H n ∧ Q (.int (n : Nat)) H
theorem c_len : CallR X (.builtin "len") (qLen X.K) := call_len
def rLenD : List V → Hp → VK → Prop := fun xs H Q => ∃ a kvs, xs = [V.ref a] ∧ H a = some (.dK kvs) ∧ Q (.int kvs.length) H
theorem c_lenD : CallR X (.builtin "len") rLenD := call_lenD
def rTupOf (K : PySem.W.Frag) : List V → Hp → VK → Prop := fun xs H Q => ∃ p ys, xs = [.ref p] ∧ ((SqL K H p ys ∧ ∀ l, H l = none → Q (.ref l) (upd H l (.tup ys))) ∨ (SqT K H p ys ∧ Q (.ref p) H))
theorem c_tup : CallR X (.type "tuple") (rTupOf X.K) := call_tuple_of
def rLstOf (K : PySem.W.Frag) : List V → Hp → VK → Prop := fun xs H Q => ∃ p ys, xs = [.ref p] ∧ (SqL K H p ys ∨ SqT K H p ys) ∧ ∀ l, H l = none → Q (.ref l) (upd H l (.lst ys))
theorem c_lst : CallR X (.type "list") (rLstOf X.K) := call_list_of
def rBool1 : List V → Hp → VK → Prop := fun xs H Q => (∃ i, xs = [.int i] ∧ Q (.bl (i != 0)) H) ∨ ∃ k, xs = [.bl k] ∧ Q (.bl k) H
theorem c_bool1 : CallR X (.type "bool") rBool1 := call_bool1
def rIsNon : R2 := fun x y H Q => y = .non ∧ Q (.bl (decide (x = .non))) H
theorem o_isN : OpR X (compareOp .Is) rIsNon := op_isN
def rNotNon : R2 := fun x y H Q => y = .non ∧ Q (.bl (!decide (x = .non))) H
theorem o_notN : OpR X (compareOp .IsNot) rNotNon := op_notN
def rAddStr : R2 := fun x y H Q => ∃ i j, x = .str i ∧ y = .str j ∧ i.length + j.length ≤ sizeLine ∧ Q (.str (i ++ j)) H
theorem o_addS : OpR X (binaryOp .Add) rAddStr := op_add_str
theorem o_iaddS : OpR X (inplaceOp .Add) rAddStr := iop_add_str
end
section
variable {K : PySem.W.Frag} {σ : L2.St} {H : Hp} {Q : VK}
theorem i_isN {x : V} (q : Q (.bl (decide (x = .non))) H) : rIsNon x .non H Q := ⟨rfl, q⟩
theorem i_notN {x : V} (q : Q (.bl (!decide (x = .non))) H) : rNotNon x .non H Q := ⟨rfl, q⟩
theorem i_int {i : Int} (q : Q (.int i) H) : rInt1 [.int i] H Q := .inl ⟨i, rfl, q⟩
theorem i_intB {k : Bool} (q : Q (.int (if k then 1 else 0)) H) : rInt1 [.bl k] H Q := .inr ⟨k, rfl, q⟩
theorem i_abs {i : Int} (q : Q (.int (if i < 0 then -i else i)) H) : rAbs [.int i] H Q := ⟨i, rfl, q⟩
theorem i_max2 {i j : Int} (q : Q (.int (if j > i then j else i)) H) : rMax2 [.int i, .int j] H Q := ⟨i, j, rfl, q⟩
theorem i_min2 {i j : Int} (q : Q (.int (if j < i then j else i)) H) : rMin2 [.int i, .int j] H Q := ⟨i, j, rfl, q⟩
theorem i_lenL {p : Addr} {xs : List V} (h : SqL K H p xs) (q : Q (.int xs.length) H) : qLen K [.ref p] H Q := ⟨.ref p, xs.length, rfl, .inl ⟨xs, h, rfl⟩, q⟩
theorem i_lenT {p : Addr} {xs : List V} (h : SqT K H p xs) (q : Q (.int xs.length) H) : qLen K [.ref p] H Q := ⟨.ref p, xs.length, rfl, .inr ⟨xs, h, rfl⟩, q⟩
theorem i_lenS {x : Str} (h : x.length ≤ sizeLine) (q : Q (.int x.length) H) : qLen K [.str x] H Q := ⟨.str x, x.length, rfl, ⟨h, rfl⟩, q⟩
theorem i_lenD {p : Addr} {kvs : List (L2.Key × V)} (h : H p = some (.dK kvs)) (q : Q (.int kvs.length) H) : rLenD [.ref p] H Q := ⟨p, kvs, rfl, h, q⟩
theorem i_tupL {p : Addr} {ys : List V} (h : SqL K H p ys) (q : ∀ l, H l = none → Q (.ref l) (upd H l (.tup ys))) : rTupOf K [.ref p] H Q := ⟨p, ys, rfl, .inl ⟨h, q⟩⟩
theorem i_tupT {p : Addr} {ys : List V} (h : SqT K H p ys) (q : Q (.ref p) H) : rTupOf K [.ref p] H Q := ⟨p, ys, rfl, .inr ⟨h, q⟩⟩
theorem i_lstL {p : Addr} {ys : List V} (h : SqL K H p ys) (q : ∀ l, H l = none → Q (.ref l) (upd H l (.lst ys))) : rLstOf K [.ref p] H Q := ⟨p, ys, rfl, .inl h, q⟩
theorem i_lstT {p : Addr} {ys : List V} (h : SqT K H p ys) (q : ∀ l, H l = none → Q (.ref l) (upd H l (.lst ys))) : rLstOf K [.ref p] H Q := ⟨p, ys, rfl, .inr h, q⟩
theorem i_catA {p b : Addr} {xs ys : List V} (h1 : SqT K H p xs) (h2 : SqT K H b ys) (hl : xs.length + ys.length ≤ sizeLine) (q : ∀ (r : Addr) (H' : Hp), (∀ b o, H b = some o → H' b = some o) → SqT K H' r (xs ++ ys) → Q (.ref r) H') : rCatA K (.ref p) (.ref b) H Q := by
  refine ⟨p, b, xs, ys, rfl, rfl, h1, h2, hl, fun e => ?_, fun _ e => ?_, fun _ _ r hr => ?_⟩
  · subst e; exact q b H (fun _ _ h => h) h2
  · subst e; exact q p H (fun _ _ h => h) (by rw [List.append_nil]; exact h1)
  · exact q r _ (fun b o e => by rw [upd_ne (ne_of_none e hr)]; exact e) (.inl (.inl upd_same))
theorem i_catI {p b : Addr} {ns ms : List Int} (h1 : SqT K H p (ns.map V.int)) (h2 : SqT K H b (ms.map V.int)) (hl : ns.length + ms.length ≤ 10000) (q : ∀ (r : Addr) (H' : Hp), (∀ b o, H b = some o → H' b = some o) → SqT K H' r ((ns ++ ms).map V.int) → Q (.ref r) H') : rCatA K (.ref p) (.ref b) H Q :=
  i_catA h1 h2 (by rw [List.length_map, List.length_map]; exact Nat.le_trans hl (by decide)) fun r H' s t => q r H' s (by rw [List.map_append]; exact t)
/-- ns[lo:hi] -/
def cutI (ns : List Int) (lo hi : Option Int) : List Int := (ns.drop (HT.sIx ns.length 0 lo)).take (HT.sIx ns.length ns.length hi - HT.sIx ns.length 0 lo)
theorem cutI_len (ns : List Int) (lo hi : Option Int) : (cutI ns lo hi).length ≤ ns.length := by
  unfold cutI
  rw [List.length_take, List.length_drop]
  omega
theorem i_slI {p : Addr} {ns : List Int} {lo hi : Option Int} (h : SqT K H p (ns.map V.int)) (hw : ¬ (HT.sIx ns.length 0 lo = 0 ∧ HT.sIx ns.length ns.length hi = ns.length))
    (q : ∀ (r : Addr) (H' : Hp), (∀ b o, H b = some o → H' b = some o) → SqT K H' r ((cutI ns lo hi).map V.int) → Q (.ref r) H') : rSlT K (.ref p) lo hi H Q := by
  refine ⟨p, _, rfl, h, by rw [List.length_map]; exact hw, fun r hr => q r _ (fun b o e => by rw [upd_ne (ne_of_none e hr)]; exact e) (.inl (.inl ?_))⟩
  rw [upd_same]
  unfold cutV cutI
  rw [List.length_map, List.map_take, List.map_drop]
theorem i_sl {r : V → Option Int → Option Int → Hp → VK → Prop} {te : TE} {tl th : TO} (h : te σ H fun x H1 => tl σ H1 fun l H2 => th σ H2 fun u H3 => r x l u H3 Q) : tSl r te tl th σ H Q := h
theorem i_noPart {Q : Option Int → Hp → Prop} (q : Q none H) : tNoPart σ H Q := q
theorem i_part {t : TE} {Q : Option Int → Hp → Prop} (h : t σ H fun x H1 => ∃ i, x = .int i ∧ Q (some i) H1) : tPart t σ H Q := h
theorem i_cat {p b : Addr} {xs zs : List V} (h1 : H p = some (.lst xs)) (h2 : H b = some (.lst zs)) (hl : xs.length + zs.length ≤ sizeLine) (q : ∀ r, H r = none → Q (.ref r) (upd H r (.lst (xs ++ zs)))) : rCat (.ref p) (.ref b) H Q := ⟨p, b, xs, zs, rfl, rfl, h1, h2, hl, q⟩
theorem i_cat' {p b : Addr} {xs zs : List V} (e1 : H p = some (.lst xs)) (e2 : H b = some (.lst zs)) (hl : xs.length + zs.length ≤ 10000) (q : ∀ r H', (∀ b o, H b = some o → H' b = some o) → H r = none → H' r = some (.lst (xs ++ zs)) → Q (.ref r) H') : rCat (.ref p) (.ref b) H Q :=
  i_cat e1 e2 (by rw [sizeLine_eq]; omega) fun r hr => q r _ (fun b o e => by rw [upd_ne (ne_of_none e hr)]; exact e) hr upd_same
theorem i_slL {p : Addr} {xs : List V} {lo hi : Option Int} (h : SqL K H p xs) (q : ∀ r H', (∀ b o, H b = some o → H' b = some o) → H r = none → H' r = some (.lst (cutV xs lo hi)) → Q (.ref r) H') : rSlL K (.ref p) lo hi H Q :=
  ⟨p, xs, rfl, h, fun r hr => q r _ (fun b o e => by rw [upd_ne (ne_of_none e hr)]; exact e) hr upd_same⟩
theorem i_chain {r r' : R2} {ta tb tc : TE} (h : ta σ H fun x H1 => tb σ H1 fun y H2 => r x y H2 fun z H3 => ∃ k, z = .bl k ∧ (if k = true then tc σ H3 fun w' H4 => r' y w' H4 Q else Q (.bl false) H3)) : tChain r r' ta tb tc σ H Q := h
theorem i_popAt {p : Addr} {xs : List V} {i : Int} {y : V} (h : H p = some (.lst xs)) (h0 : 0 ≤ i) (h1 : i < xs.length) (h2 : xs.length ≤ 1000000) (e : xs[i.toNat]? = some y) (q : Q y (upd H p (.lst (xs.eraseIdx i.toNat)))) : rPopAt (.ref p) [.int i] H Q :=
  ⟨p, xs, i, i.toNat, y, rfl, rfl, h, by omega, by omega, seqIndex_of h0 h1, e, q⟩
theorem i_isI {i : Int} {Q : Int → Prop} (q : Q i) : ∃ i', V.int i = .int i' ∧ Q i' := ⟨i, rfl, q⟩
theorem i_bm {T : String} {r : V → List V → Hp → VK → Prop} {to : TE} {t : TA} (h : to σ H fun x H1 => tyV K T x H1 ∧ t σ H1 fun xs H2 => r x xs H2 Q) : tBM K T r to t σ H Q := h
theorem i_bm0 {T : String} {r : V → List V → Hp → VK → Prop} {to : TE} (h : to σ H fun x H1 => tyV K T x H1 ∧ r x [] H1 Q) : tBM0 K T r to σ H Q := h
theorem i_tyL {p : Addr} {xs : List V} {R : Prop} (s : SqL K H p xs) (q : R) : tyV K "list" (.ref p) H ∧ R := ⟨.inl ⟨rfl, xs, s⟩, q⟩
theorem i_app {p : Addr} {xs : List V} {y : V} (h : H p = some (.lst xs)) (hl : xs.length < sizeLine) (q : Q .non (upd H p (.lst (xs ++ [y])))) : rAppend (.ref p) [y] H Q := ⟨p, xs, y, rfl, rfl, h, hl, q⟩
theorem i_addS {x y : Str} (h : x.length + y.length ≤ sizeLine) (q : Q (.str (x ++ y)) H) : rAddStr (.str x) (.str y) H Q := ⟨x, y, rfl, rfl, h, q⟩
theorem i_isi {x : V} {n : String} {t : Value} {b : Bool} (ty : TyX K H x t) (e : PySem.W.kitOne K t (.type n) = some b) (q : Q (.bl b) H) : rIsi K [x, .ty n] H Q := ⟨x, .ty n, t, .type n, b, rfl, .ty n, ty, e, q⟩
theorem i_var {i : Nat} {v : V} (h : σ[i]? = some (some v)) (q : Q v H) : tVar i σ H Q := ⟨v, h, q⟩
theorem i_c {v : V} (q : Q v H) : tC v σ H Q := q
theorem i_op {r : R2} {ta tb : TE} (h : ta σ H fun x H1 => tb σ H1 fun y H2 => r x y H2 Q) : tOp r ta tb σ H Q := h
theorem i_un {r : V → Hp → VK → Prop} {ta : TE} (h : ta σ H fun x H1 => r x H1 Q) : tUn r ta σ H Q := h
theorem i_rI0 {g : Int → Int → V} {i j : Int} (q : Q (g i j) H) : rI0 g (.int i) (.int j) H Q := ⟨i, j, rfl, rfl, q⟩
theorem i_rI {C : Int → Int → Prop} {g : Int → Int → V} {i j : Int} (c : C i j) (q : Q (g i j) H) : rI C g (.int i) (.int j) H Q := ⟨i, j, rfl, rfl, c, q⟩
theorem i_rU {g : Int → V} {i : Int} (q : Q (g i) H) : rU g (.int i) H Q := ⟨i, rfl, q⟩
theorem i_eqI {i j : Int} (q : Q (.bl (decide (i = j))) H) : rEq (.int i) (.int j) H Q := ⟨rfl, by
  have e : decide (V.int i = V.int j) = decide (i = j) := by simp
  rw [e]; exact q⟩
theorem i_neI {i j : Int} (q : Q (.bl (!decide (i = j))) H) : rNe (.int i) (.int j) H Q := ⟨rfl, by
  have e : decide (V.int i = V.int j) = decide (i = j) := by simp
  rw [e]; exact q⟩
theorem i_eqB {i j : Bool} (q : Q (.bl (decide (i = j))) H) : rEq (.bl i) (.bl j) H Q := ⟨rfl, by
  have e : decide (V.bl i = V.bl j) = decide (i = j) := by simp
  rw [e]; exact q⟩
theorem i_neB {i j : Bool} (q : Q (.bl (!decide (i = j))) H) : rNe (.bl i) (.bl j) H Q := ⟨rfl, by
  have e : decide (V.bl i = V.bl j) = decide (i = j) := by simp
  rw [e]; exact q⟩
theorem i_eqS {i j : Str} (q : Q (.bl (decide (i = j))) H) : rEq (.str i) (.str j) H Q := ⟨rfl, by
  have e : decide (V.str i = V.str j) = decide (i = j) := by simp
  rw [e]; exact q⟩
theorem i_neS {i j : Str} (q : Q (.bl (!decide (i = j))) H) : rNe (.str i) (.str j) H Q := ⟨rfl, by
  have e : decide (V.str i = V.str j) = decide (i = j) := by simp
  rw [e]; exact q⟩
/-! index -/
theorem i_ixL {p : Addr} {xs : List V} {i : Int} {v : V} (h : SqL K H p xs) (e : atI xs i = some v) (q : Q v H) : rIxL K (.ref p) (.int i) H Q := ⟨p, xs, i, v, rfl, rfl, h, e, q⟩
theorem i_ixT {p : Addr} {xs : List V} {i : Int} {v : V} (h : SqT K H p xs) (e : atI xs i = some v) (q : Q v H) : rIxT K (.ref p) (.int i) H Q := ⟨p, xs, i, v, rfl, rfl, h, e, q⟩
theorem i_ix1 {x y : V} (h : rIxL K x y H Q) : rIx K x y H Q := .inl h
theorem i_ix2 {x y : V} (h : rIxT K x y H Q) : rIx K x y H Q := .inr (.inl h)
/-! arguments, calls, displays -/
theorem i_nil {Q : List V → Hp → Prop} (q : Q [] H) : tNil σ H Q := q
theorem i_cons {ta : TE} {tr : TA} {Q : List V → Hp → Prop} (h : ta σ H fun x H1 => tr σ H1 fun xs H2 => Q (x :: xs) H2) : tCons ta tr σ H Q := h
theorem i_call {sp : Sp} {E : XK} {t : TA} (h : t σ H fun vs H1 => sp (vs ++ []) H1 Q E) : tCall sp [] E t σ H Q := h
theorem i_cb {r : List V → Hp → VK → Prop} {t : TA} (h : t σ H fun vs H1 => r vs H1 Q) : tCB r t σ H Q := h
theorem i_tup {t : TA} (h : t σ H fun xs H1 => xs.length ≤ sizeLine ∧ ∀ p, H1 p = none → Q (.ref p) (upd H1 p (.tup xs))) : tTup t σ H Q := h
theorem i_lst {t : TA} (h : t σ H fun xs H1 => xs.length ≤ sizeLine ∧ ∀ p, H1 p = none → Q (.ref p) (upd H1 p (.lst xs))) : tLst t σ H Q := h
theorem i_new {n : Nat} {R : Addr → Prop} (h : n ≤ sizeLine) (q : ∀ p, H p = none → R p) : n ≤ sizeLine ∧ ∀ p, H p = none → R p := ⟨h, q⟩
theorem i_if {c : TT} {ta tb : TE} (h : c σ H fun b H1 => if b = true then ta σ H1 Q else tb σ H1 Q) : tIf c ta tb σ H Q := h
theorem i_andV {ta tb : TE} (h : ta σ H fun x H1 => ∃ c, x = .bl c ∧ if c = true then tb σ H1 Q else Q (.bl false) H1) : tAndV ta tb σ H Q := h
theorem i_orV {ta tb : TE} (h : ta σ H fun x H1 => ∃ c, x = .bl c ∧ if c = true then Q (.bl true) H1 else tb σ H1 Q) : tOrV ta tb σ H Q := h
theorem i_notV {ta : TE} (h : ta σ H fun x H1 => ∃ c, x = .bl c ∧ Q (.bl (!c)) H1) : tNotV ta σ H Q := h
/-! tests -/
theorem i_test {t : TE} {Q : Bool → Hp → Prop} (h : t σ H fun x H1 => ∃ k, x = .bl k ∧ Q k H1) : tTest t σ H Q := h
theorem i_B {t : TE} {Q : Bool → Hp → Prop} (h : t σ H fun x H1 => ∃ k, x = .bl k ∧ Q k H1) : tB t σ H Q := h
theorem i_isb {k : Bool} {Q : Bool → Prop} (q : Q k) : ∃ k', V.bl k = .bl k' ∧ Q k' := ⟨k, rfl, q⟩
theorem i_and {t u : TT} {Q : Bool → Hp → Prop} (h : t σ H fun c H1 => if c = true then u σ H1 Q else Q false H1) : tAnd t u σ H Q := h
theorem i_or {t u : TT} {Q : Bool → Hp → Prop} (h : t σ H fun c H1 => if c = true then Q true H1 else u σ H1 Q) : tOr t u σ H Q := h
theorem i_not {t : TT} {Q : Bool → Hp → Prop} (h : t σ H fun c H1 => Q (!c) H1) : tNot t σ H Q := h
/-! statements -/
section
variable {nx : L2.St → Hp → Prop} {rt : VK} {bk ct : L2.St → Hp → Prop}
theorem i_seq {t u : TS} (h : t ⟨u ⟨nx, rt, bk, ct⟩, rt, bk, ct⟩ σ H) : tSeq t u ⟨nx, rt, bk, ct⟩ σ H := h
theorem i_next (h : nx σ H) : tNext ⟨nx, rt, bk, ct⟩ σ H := h
theorem i_asg {te : TE} {g : TG} (h : te σ H fun x H1 => g x σ H1 nx) : tAsg te g ⟨nx, rt, bk, ct⟩ σ H := h
theorem i_drop {te : TE} (h : te σ H fun _ H1 => nx σ H1) : tDrop te ⟨nx, rt, bk, ct⟩ σ H := h
theorem i_ret {te : TE} (h : te σ H rt) : tRet te ⟨nx, rt, bk, ct⟩ σ H := h
theorem i_retN (h : rt .non H) : tRetN ⟨nx, rt, bk, ct⟩ σ H := h
theorem i_ifS {c : TT} {t u : TS} (h : c σ H fun b H1 => if b = true then t ⟨nx, rt, bk, ct⟩ σ H1 else u ⟨nx, rt, bk, ct⟩ σ H1) : tIfS c t u ⟨nx, rt, bk, ct⟩ σ H := h
theorem i_ifC {c : TT} {t u : TS} (J : L2.St → Hp → Prop) (h1 : ∀ σ' H', J σ' H' → nx σ' H') (h2 : ∀ N : L2.St → Hp → Prop, (∀ σ' H', J σ' H' → N σ' H') → tIfS c t u ⟨N, rt, bk, ct⟩ σ H) : tIfS c t u ⟨nx, rt, bk, ct⟩ σ H := h2 _ h1
theorem i_break (h : bk σ H) : tBreak ⟨nx, rt, bk, ct⟩ σ H := h
theorem i_cont (h : ct σ H) : tCont ⟨nx, rt, bk, ct⟩ σ H := h
theorem i_augE {i : Nat} {te : TE} {ti : TIp} {x : V} (e : σ[i]? = some (some x)) (h : te σ H fun y H1 => ti x y H1 fun z H2 => gName i z σ H2 nx) : tAug i te ti ⟨nx, rt, bk, ct⟩ σ H := ⟨x, e, h⟩
theorem i_augS {to ti te : TE} {tget : V → V → Hp → VK → Prop} {tip : TIp} {tset : TSet} (h : to σ H fun o H1 => ti σ H1 fun i H2 => tget o i H2 fun x H3 => te σ H3 fun y H4 => tip x y H4 fun z H5 => tset o i z H5 fun H6 => nx σ H6) : tAugS to ti te tget tip tset ⟨nx, rt, bk, ct⟩ σ H := h
theorem i_ipI {f : Int → Int → Int} {i j : Int} (q : Q (.int (f i j)) H) : ipI f (.int i) (.int j) H Q := ⟨i, j, rfl, rfl, q⟩
theorem i_for {wi : TI} {g : TG} {tb : TS} (h : wi σ H fun J H1 => ∃ W : Nat → Nat → L2.St → Hp → Prop, (∃ m, W 0 m σ H1) ∧ ∀ i m σ H, W i m σ H →
  (J.stop i H ∧ nx σ H) ∨ (J.go i H ∧ ∃ N : L2.St → Hp → Prop, (∀ σ' H', N σ' H' → ∃ m', m' < m ∧ W (i + 1) m' σ' H') ∧ ∀ x H', J.yld i H x H' → g x σ H' fun σ2 H2 => tb ⟨N, rt, nx, N⟩ σ2 H2)) : tFor wi g tb ⟨nx, rt, bk, ct⟩ σ H := h
theorem i_iList {tl : TE} {R : It → Hp → Prop} (h : tl σ H fun x H1 => ∃ a, x = .ref a ∧ (∃ xs, SqL K H1 a xs) ∧ R (Itl K a) H1) : iList K tl σ H R := h
theorem i_iTup {tl : TE} {R : It → Hp → Prop} (h : tl σ H fun x H1 => ∃ a, x = .ref a ∧ (∃ xs, SqT K H1 a xs) ∧ R (Itt K a) H1) : iTup K tl σ H R := h
theorem i_isL {a : Addr} {xs : List V} {R : Addr → Prop} (s : SqL K H a xs) (h : R a) : ∃ a', V.ref a = .ref a' ∧ (∃ xs, SqL K H a' xs) ∧ R a' := ⟨a, rfl, ⟨xs, s⟩, h⟩
theorem i_isT {a : Addr} {xs : List V} {R : Addr → Prop} (s : SqT K H a xs) (h : R a) : ∃ a', V.ref a = .ref a' ∧ (∃ xs, SqT K H a' xs) ∧ R a' := ⟨a, rfl, ⟨xs, s⟩, h⟩
theorem i_rng1 {ta : TA} {R : It → Hp → Prop} (h : ta σ H fun vs H1 => ∃ j : Int, vs = [.int j] ∧ -(2 ^ 62) ≤ j ∧ j < 2 ^ 62 ∧ R (Itr 0 j.toNat) H1) : iRng1 ta σ H R := h
theorem i_rng2 {ta : TA} {R : It → Hp → Prop} (h : ta σ H fun vs H1 => ∃ i j : Int, vs = [.int i, .int j] ∧ (-(2 ^ 62) ≤ i ∧ i < 2 ^ 62 ∧ -(2 ^ 62) ≤ j ∧ j < 2 ^ 62) ∧ R (Itr i (j - i).toNat) H1) : iRng2 ta σ H R := h
theorem i_isR1 {j : Int} {R : Int → Prop} (h1 : -(2 ^ 62) ≤ j) (h2 : j < 2 ^ 62) (h : R j) : ∃ j' : Int, [V.int j] = [.int j'] ∧ -(2 ^ 62) ≤ j' ∧ j' < 2 ^ 62 ∧ R j' := ⟨j, rfl, h1, h2, h⟩
theorem i_isR2 {i j : Int} {R : Int → Int → Prop} (h1 : -(2 ^ 62) ≤ i) (h2 : i < 2 ^ 62) (h3 : -(2 ^ 62) ≤ j) (h4 : j < 2 ^ 62) (h : R i j) : ∃ i' j' : Int, [V.int i, V.int j] = [.int i', .int j'] ∧ (-(2 ^ 62) ≤ i' ∧ i' < 2 ^ 62 ∧ -(2 ^ 62) ≤ j' ∧ j' < 2 ^ 62) ∧ R i' j' := ⟨i, j, rfl, ⟨h1, h2, h3, h4⟩, h⟩
end
/-! comprehensions -/
theorem i_lc {wi : TI} {g : TG} {tt : TT} {te : TE} {ws : List Nat} {σ' : L2.St} (e : wipe σ ws = σ') (h : wi σ H fun J H1 => ∀ D, H1 D = none → ∃ W : Nat → Nat → Hp → Prop, (∃ m, W 0 m (upd H1 D (.lst []))) ∧ ∀ i m H, W i m H →
  (J.stop i H ∧ Q (.ref D) H) ∨ (J.go i H ∧ ∃ Nx : Hp → Prop, (∀ H', Nx H' → ∃ m', m' < m ∧ W (i + 1) m' H') ∧ ∀ x H', J.yld i H x H' → g x σ' H' fun σ2 H2 => wipe σ2 ws = σ' ∧ tt σ2 H2 fun b H3 =>
    if b = true then te σ2 H3 fun y H4 => ∃ acc, H4 D = some (.lst acc) ∧ acc.length < sizeLine ∧ Nx (upd H4 D (.lst (acc ++ [y]))) else Nx H3)) : tLc wi g tt te ws σ H Q := by subst e; exact h
/-! targets -/
theorem i_gNameE {i : Nat} {v : V} {σ' : L2.St} {Q : L2.St → Hp → Prop} (e : σ.set i (some v) = σ') (q : Q σ' H) : gName i v σ H Q := by subst e; exact q
theorem st_of {t : TS} {D : Ends} {σ σ' : L2.St} {H : Hp} (e : σ = σ') (h : t D σ' H) : t D σ H := by subst e; exact h
theorem i_gName {i : Nat} {v : V} {Q : L2.St → Hp → Prop} (q : Q (σ.set i (some v)) H) : gName i v σ H Q := q
theorem i_gSub {to ti : TE} {t : TSet} {v : V} {Q : L2.St → Hp → Prop} (h : to σ H fun o H1 => ti σ H1 fun i H2 => t o i v H2 fun H3 => Q σ H3) : gSub to ti t v σ H Q := h
theorem i_setL {p : Addr} {xs : List V} {k : Int} {j : Nat} {v : V} {Q : Hp → Prop} (h : H p = some (.lst xs)) (e : ixN xs.length k = some j) (q : Q (upd H p (.lst (xs.set j v)))) : rSetL (.ref p) (.int k) v H Q := ⟨p, xs, k, j, rfl, rfl, h, e, q⟩
theorem i_gTup {n : Nat} {t : TGs} {a : Addr} {xs : List V} {Q : L2.St → Hp → Prop} (h : SqT K H a xs) (e : xs.length = n) (q : t xs σ H Q) : gTup K n t (.ref a) σ H Q := ⟨a, xs, rfl, h, e, q⟩
theorem i_gNil {Q : L2.St → Hp → Prop} (q : Q σ H) : gNil [] σ H Q := ⟨rfl, q⟩
theorem i_gCons {t : TG} {u : TGs} {v : V} {r : List V} {Q : L2.St → Hp → Prop} (q : t v σ H fun σ' H' => u r σ' H' Q) : gCons t u (v :: r) σ H Q := ⟨v, r, rfl, q⟩
/-! builtins' calls -/
end
/-! ### heaps -/
/-- all but p is as it was -/
def Kp (p : Addr) (H H' : Hp) : Prop := ∀ b o, H b = some o → b ≠ p → H' b = some o
theorem Kp.refl {p : Addr} {H : Hp} : Kp p H H := fun _ _ e _ => e
theorem Kp.of {p : Addr} {H H' : Hp} (s : Same H H') : Kp p H H' := fun b o e _ => s b o e
theorem Kp.trans {p : Addr} {H H1 H2 : Hp} (a : Kp p H H1) (b : Kp p H1 H2) : Kp p H H2 := fun c o e n => b c o (a c o e n) n
theorem Kp.upd {p : Addr} {H : Hp} {o : HO} : Kp p H (upd H p o) := fun b u e n => by rw [upd_ne n]; exact e
theorem same_new {H : Hp} {p : Addr} {o : HO} (h : H p = none) : Same H (upd H p o) := fun b x e => by
  rw [upd_ne (ne_of_none e h)]
  exact e
theorem Same.tup {K : PySem.W.Frag} {H H' : Hp} {a : Addr} {xs : List V} (e : Same H H') (h : SqT K H a xs) : SqT K H' a xs := by
  rcases h with (h | ⟨o, h⟩) | h
  · exact .inl (.inl (e _ _ h))
  · exact .inl (.inr ⟨o, e _ _ h⟩)
  · exact .inr h
/-- all tuples are as they were -/
def Tps (H H' : Hp) : Prop := ∀ a, (∀ xs, H a = some (.tup xs) → H' a = some (.tup xs)) ∧ ∀ o xs, H a = some (.frz o (.tup xs)) → H' a = some (.frz o (.tup xs))
theorem Tps.sq {K : PySem.W.Frag} {H H' : Hp} {a : Addr} {xs : List V} (e : Tps H H') (h : SqT K H a xs) : SqT K H' a xs := by
  rcases h with (h | ⟨o, h⟩) | h
  · exact .inl (.inl ((e a).1 _ h))
  · exact .inl (.inr ⟨o, (e a).2 _ _ h⟩)
  · exact .inr h
theorem Tps.refl {H : Hp} : Tps H H := fun _ => ⟨fun _ h => h, fun _ _ h => h⟩
theorem Tps.trans {H H1 H2 : Hp} (a : Tps H H1) (b : Tps H1 H2) : Tps H H2 := fun c => ⟨fun xs h => (b c).1 xs ((a c).1 xs h), fun o xs h => (b c).2 o xs ((a c).2 o xs h)⟩
theorem Tps.of {H H' : Hp} (s : Same H H') : Tps H H' := fun a => ⟨fun xs h => s _ _ h, fun o xs h => s _ _ h⟩
theorem Kp.tps {p : Addr} {H H' : Hp} (k : Kp p H H') {xs : List V} (h : H p = some (.lst xs)) : Tps H H' := fun a => ⟨fun ys e => k _ _ e (ne_of e h (by intro z; cases z)), fun o ys e => k _ _ e (ne_of e h (by intro z; cases z))⟩
theorem Kp.seq {K : PySem.W.Frag} {p b : Addr} {H H' : Hp} {xs : List V} (k : Kp p H H') (h : SqL K H b xs) (n : b ≠ p) : SqL K H' b xs := by
  rcases h with (h | ⟨o, h⟩) | h
  · exact .inl (.inl (k _ _ h n))
  · exact .inl (.inr ⟨o, k _ _ h n⟩)
  · exact .inr h
/-! ### data -/
def Shp (n : Nat) (d : PyData) : Prop := d.canLay0 = true ∧ d.depth ≤ n
theorem Shp.shaped {n : Nat} {d : PyData} (h : Shp n d) (hn : n ≤ 64) : SeqAt.shaped d = true := by
  unfold SeqAt.shaped
  rw [h.1, decide_eq_true (Nat.le_trans h.2 hn)]
  rfl
theorem Shp.eqv {n : Nat} {d : PyData} (h : Shp n d) : PyData.eqv d d = true := SeqAt.eqv_refl d h.1
theorem Shp.int (i : Int) : Shp 0 (.int i) := ⟨by simp [PyData.canLay0], by simp [PyData.depth]⟩
theorem Shp.non : Shp 0 .none := ⟨by simp [PyData.canLay0], by simp [PyData.depth]⟩
theorem Shp.bool (b : Bool) : Shp 0 (.bool b) := ⟨by simp [PyData.canLay0], by simp [PyData.depth]⟩
theorem Shp.mono {n m : Nat} {d : PyData} (h : Shp n d) (hm : n ≤ m) : Shp m d := ⟨h.1, Nat.le_trans h.2 hm⟩
theorem shpAll {n : Nat} : ∀ {ds : List PyData}, (∀ d ∈ ds, Shp n d) → PyData.canLayAll0 ds = true ∧ PyData.depthAll ds ≤ n
  | [], _ => ⟨by simp [PyData.canLayAll0], by simp [PyData.depthAll]⟩
  | d :: ds, h => by
    have h1 := h d List.mem_cons_self
    have h2 := shpAll (ds := ds) fun x hx => h x (List.mem_cons_of_mem _ hx)
    refine ⟨by rw [PyData.canLayAll0, h1.1, h2.1]; rfl, ?_⟩
    rw [PyData.depthAll]
    exact Nat.max_le.mpr ⟨h1.2, h2.2⟩
theorem Shp.tup {n : Nat} {ds : List PyData} (h : ∀ d ∈ ds, Shp n d) : Shp (n + 1) (.tuple ds) := by
  have := shpAll h
  exact ⟨by rw [PyData.canLay0]; exact this.1, by rw [PyData.depth]; omega⟩
theorem Shp.lst {n : Nat} {ds : List PyData} (h : ∀ d ∈ ds, Shp n d) : Shp (n + 1) (.list ds) := by
  have := shpAll h
  exact ⟨by rw [PyData.canLay0]; exact this.1, by rw [PyData.depth]; omega⟩
theorem dpAll_of {K : PySem.W.Frag} {H : Hp} : ∀ {xs : List V} {ds : List PyData}, xs.length = ds.length → (∀ (i : Nat) x d, xs[i]? = some x → ds[i]? = some d → Dp K H x d) → DpAll K H xs ds
  | [], [], _, _ => .nil
  | x :: xs, d :: ds, hl, h => .cons (h 0 x d rfl rfl) (dpAll_of (by simpa using hl) fun i y e h1 h2 => h (i + 1) y e (by simpa using h1) (by simpa using h2))
theorem dp_ints {K : PySem.W.Frag} {H : Hp} {a : Addr} {ns : List Int} (h : SqT K H a (ns.map V.int)) : Dp K H (.ref a) (.tuple (ns.map PyData.int)) := by
  refine .tup h (dpAll_of (by simp) fun i x d h1 h2 => ?_)
  rw [List.getElem?_map] at h1 h2
  cases e : ns[i]? with
  | none => rw [e] at h1; cases h1
  | some z =>
    rw [e] at h1 h2
    cases h1
    cases h2
    exact .int z
/-! ### slices of tuples -/
section
variable {prog : Program} {w : World} {A : Around} {E : Value → Shared → Prop} {s : Shared}
theorem tup_whole {t sl : Addr} {items : Array Value} {vl vu : Value} {lo hi : Option Int} {Q : Value → Shared → Prop} (ht : IsTup s.heap t items) (hs : s.heap.IsSliceOf sl vl vu .none) (pl : IsPart vl lo) (pu : IsPart vu hi)
    (h0 : HT.sIx items.size 0 lo = 0) (h1 : HT.sIx items.size items.size hi = items.size) (h : Q (.ref t) s) : wpAny (model prog w) A (getItem (.ref t) (.ref sl)) Q E s := by
  have hTs : s.TypeIs (.ref sl) "slice" := by
    obtain ⟨os, hos, hcs, _⟩ := id hs
    exact ⟨os, hos, hcs⟩
  unfold getItem
  try with_reducible refine wpAny_holding ?_
  first | refine wpAny_bind (wpAny_pure ?_) | skip
  refine wpAny_bind (wpAny_sequenceKey ht.typeIs (by decide) (wpAny_bind (wpAny_callSpecial?_slot (name := Str.ofString "__getitem__") ht.typeIs PyProof.Rows.slot_tuple_getitem (wpAny_call_entry PyProof.Rows.slot_tuple_getitem ht.typeIs entry_tuple_getitem ?_ (args_tuple_getitem _ _)))))
  show wpAny _ _ (Builtin.Tuple.tupleItemsOf (.ref t) >>= _) _ _ s
  refine wpAny_bind (tupleItemsOf_ ht (wpAny_bind (wpAny_typeOf hTs ?_)))
  rw [if_pos (by decide)]
  refine wpAny_bind (HT.sliceApplied_gen hs pl pu ?_)
  show wpAny _ _ (if (((HT.sIx items.size 0 lo : Nat) : Int) == 0 && (1 : Int) == 1 && (HT.sIx items.size items.size hi - HT.sIx items.size 0 lo) == items.size) = true then _ else _) _ _ s
  rw [h0, h1, if_pos (by simp)]
  unfold Builtin.Tuple.tupleIsExact
  refine wpAny_bind (wpAny_bind (wpAny_typeOf ht.typeIs (wpAny_pure ?_)))
  rw [if_pos (by decide)]
  first
    | exact wpAny_bind (wpAny_rule (wpAny_pure ⟨_, rfl, wpAny_pure h⟩))
    | exact wpAny_bind (wpAny_rule (wpAny_bind (wpAny_pure (wpAny_pure ⟨_, rfl, wpAny_pure h⟩))))
end
section
variable {X : Cx}
/-- t[lo:hi], the whole of it too (that is t itself) -/
def rSlQ (K : PySem.W.Frag) : V → Option Int → Option Int → Hp → VK → Prop := fun x lo hi H Q => ∃ a xs, x = .ref a ∧ SqT K H a xs ∧
  (cutV xs lo hi = xs → Q (.ref a) H) ∧ ∀ p, H p = none → Q (.ref p) (upd H p (.tup (cutV xs lo hi)))
theorem sl_tupQ : SlR X (rSlQ X.K) := by
  intro pins s σ H x v vl vu lo hi sl Q I rx hs pl pu h
  obtain ⟨a, xs, e, hx, q0, q1⟩ := h
  by_cases hw : HT.sIx xs.length 0 lo = 0 ∧ HT.sIx xs.length xs.length hi = xs.length
  · subst e
    cases rx
    obtain ⟨its, r, ht, hz⟩ := I.tuple hx
    have hlen : its.toArray.size = xs.length := by rw [List.size_toArray]; exact r.length.symm
    refine ⟨"tuple", _, PyProof.Rows.slot_tuple_getitem.lookup, ht.typeIs, ?_⟩
    refine tup_whole ht hs pl pu (by rw [hlen]; exact hw.1) (by rw [hlen]; exact hw.2) ⟨.ref a, H, I, rfl, q0 ?_⟩
    unfold cutV
    rw [hw.1, hw.2]
    simp
  · exact sl_tup pins s σ H x v vl vu lo hi sl Q I rx hs pl pu ⟨a, xs, e, hx, hw, q1⟩
end
/-! ### loops -/
section
variable {K : PySem.W.Frag} {a : Addr} {xs : List V} {g : TG} {tb : TS} {σ : L2.St} {H : Hp} {nx : L2.St → Hp → Prop} {rt : VK}
theorem f_list (Pv : Nat → L2.St → Hp → Prop) (h0 : Pv 0 σ H) (hl : ∀ i σ H, i ≤ xs.length → Pv i σ H → SqL K H a xs)
    (hs : ∀ i x σ H, xs[i]? = some x → Pv i σ H → g x σ H fun σ2 H2 => tb ⟨Pv (i + 1), rt, nx, Pv (i + 1)⟩ σ2 H2) (hd : ∀ σ H, Pv xs.length σ H → nx σ H) :
    ∃ W : Nat → Nat → L2.St → Hp → Prop, (∃ m, W 0 m σ H) ∧ ∀ i m σ H, W i m σ H →
      ((Itl K a).stop i H ∧ nx σ H) ∨ ((Itl K a).go i H ∧ ∃ N : L2.St → Hp → Prop, (∀ σ' H', N σ' H' → ∃ m', m' < m ∧ W (i + 1) m' σ' H') ∧ ∀ x H', (Itl K a).yld i H x H' → g x σ H' fun σ2 H2 => tb ⟨N, rt, nx, N⟩ σ2 H2) :=
  for_list (D := ⟨nx, rt, fun _ _ => False, fun _ _ => False⟩) Pv h0 hl hs hd
theorem f_tup (Pv : Nat → L2.St → Hp → Prop) (h0 : Pv 0 σ H) (hl : ∀ i σ H, i ≤ xs.length → Pv i σ H → SqT K H a xs)
    (hs : ∀ i x σ H, xs[i]? = some x → Pv i σ H → g x σ H fun σ2 H2 => tb ⟨Pv (i + 1), rt, nx, Pv (i + 1)⟩ σ2 H2) (hd : ∀ σ H, Pv xs.length σ H → nx σ H) :
    ∃ W : Nat → Nat → L2.St → Hp → Prop, (∃ m, W 0 m σ H) ∧ ∀ i m σ H, W i m σ H →
      ((Itt K a).stop i H ∧ nx σ H) ∨ ((Itt K a).go i H ∧ ∃ N : L2.St → Hp → Prop, (∀ σ' H', N σ' H' → ∃ m', m' < m ∧ W (i + 1) m' σ' H') ∧ ∀ x H', (Itt K a).yld i H x H' → g x σ H' fun σ2 H2 => tb ⟨N, rt, nx, N⟩ σ2 H2) :=
  for_tup (D := ⟨nx, rt, fun _ _ => False, fun _ _ => False⟩) Pv h0 hl hs hd
theorem f_range {lo : Int} {n : Nat} (Pv : Nat → L2.St → Hp → Prop) (h0 : Pv 0 σ H)
    (hs : ∀ i σ H, i < n → Pv i σ H → g (.int (lo + i)) σ H fun σ2 H2 => tb ⟨Pv (i + 1), rt, nx, Pv (i + 1)⟩ σ2 H2) (hd : ∀ σ H, Pv n σ H → nx σ H) :
    ∃ W : Nat → Nat → L2.St → Hp → Prop, (∃ m, W 0 m σ H) ∧ ∀ i m σ H, W i m σ H →
      ((Itr lo n).stop i H ∧ nx σ H) ∨ ((Itr lo n).go i H ∧ ∃ N : L2.St → Hp → Prop, (∀ σ' H', N σ' H' → ∃ m', m' < m ∧ W (i + 1) m' σ' H') ∧ ∀ x H', (Itr lo n).yld i H x H' → g x σ H' fun σ2 H2 => tb ⟨N, rt, nx, N⟩ σ2 H2) :=
  for_range (D := ⟨nx, rt, fun _ _ => False, fun _ _ => False⟩) Pv h0 hs hd
theorem f_rangeC {lo c : Int} {n : Nat} (Pv : Nat → L2.St → Hp → Prop) (h0 : Pv 0 σ H)
    (hs : ∀ i σ H, i < n → Pv i σ H → g (.int (lo + (i : Nat) * c)) σ H fun σ2 H2 => tb ⟨Pv (i + 1), rt, nx, Pv (i + 1)⟩ σ2 H2) (hd : ∀ σ H, Pv n σ H → nx σ H) :
    ∃ W : Nat → Nat → L2.St → Hp → Prop, (∃ m, W 0 m σ H) ∧ ∀ i m σ H, W i m σ H →
      ((Itc lo c n).stop i H ∧ nx σ H) ∨ ((Itc lo c n).go i H ∧ ∃ N : L2.St → Hp → Prop, (∀ σ' H', N σ' H' → ∃ m', m' < m ∧ W (i + 1) m' σ' H') ∧ ∀ x H', (Itc lo c n).yld i H x H' → g x σ H' fun σ2 H2 => tb ⟨N, rt, nx, N⟩ σ2 H2) :=
  for_rangeC (D := ⟨nx, rt, fun _ _ => False, fun _ _ => False⟩) Pv h0 hs hd
theorem i_rng3 {ta : TA} {R : It → Hp → Prop} (h : ta σ H fun vs H1 => ∃ (i j c : Int) (n : Nat), vs = [.int i, .int j, .int c] ∧ RgC i j c n ∧ R (Itc i c n) H1) : iRng3 ta σ H R := h
variable {tt : TT} {te : TE} {ws : List Nat} {D : Addr} {Qd : Hp → Prop} {σ' : L2.St}
theorem l_list (Pv : Nat → Hp → Prop) (h0 : Pv 0 (upd H D (.lst []))) (hl : ∀ i H, i ≤ xs.length → Pv i H → SqL K H a xs)
    (hs : ∀ i x H, xs[i]? = some x → Pv i H → g x σ' H fun σ2 H2 => wipe σ2 ws = σ' ∧ tt σ2 H2 fun b H3 =>
      if b = true then te σ2 H3 fun y H4 => ∃ acc, H4 D = some (.lst acc) ∧ acc.length < sizeLine ∧ Pv (i + 1) (upd H4 D (.lst (acc ++ [y]))) else Pv (i + 1) H3) (hd : ∀ H, Pv xs.length H → Qd H) (e : wipe σ' ws = σ' := by rfl) :
    ∃ W : Nat → Nat → Hp → Prop, (∃ m, W 0 m (upd H D (.lst []))) ∧ ∀ i m H, W i m H →
      ((Itl K a).stop i H ∧ Qd H) ∨ ((Itl K a).go i H ∧ ∃ Nx : Hp → Prop, (∀ H', Nx H' → ∃ m', m' < m ∧ W (i + 1) m' H') ∧ ∀ x H', (Itl K a).yld i H x H' → g x σ' H' fun σ2 H2 => wipe σ2 ws = σ' ∧ tt σ2 H2 fun b H3 =>
        if b = true then te σ2 H3 fun y H4 => ∃ acc, H4 D = some (.lst acc) ∧ acc.length < sizeLine ∧ Nx (upd H4 D (.lst (acc ++ [y]))) else Nx H3) := by
  have h := lc_list (K := K) (a := a) (xs := xs) (g := g) (tt := tt) (te := te) (vs := ws) (σ := σ') (H1 := H) (D := D) (Qd := Qd) Pv h0 hl (by rw [e]; exact hs) hd
  rw [e] at h
  exact h
theorem l_tup (Pv : Nat → Hp → Prop) (h0 : Pv 0 (upd H D (.lst []))) (hl : ∀ i H, i ≤ xs.length → Pv i H → SqT K H a xs)
    (hs : ∀ i x H, xs[i]? = some x → Pv i H → g x σ' H fun σ2 H2 => wipe σ2 ws = σ' ∧ tt σ2 H2 fun b H3 =>
      if b = true then te σ2 H3 fun y H4 => ∃ acc, H4 D = some (.lst acc) ∧ acc.length < sizeLine ∧ Pv (i + 1) (upd H4 D (.lst (acc ++ [y]))) else Pv (i + 1) H3) (hd : ∀ H, Pv xs.length H → Qd H) (e : wipe σ' ws = σ' := by rfl) :
    ∃ W : Nat → Nat → Hp → Prop, (∃ m, W 0 m (upd H D (.lst []))) ∧ ∀ i m H, W i m H →
      ((Itt K a).stop i H ∧ Qd H) ∨ ((Itt K a).go i H ∧ ∃ Nx : Hp → Prop, (∀ H', Nx H' → ∃ m', m' < m ∧ W (i + 1) m' H') ∧ ∀ x H', (Itt K a).yld i H x H' → g x σ' H' fun σ2 H2 => wipe σ2 ws = σ' ∧ tt σ2 H2 fun b H3 =>
        if b = true then te σ2 H3 fun y H4 => ∃ acc, H4 D = some (.lst acc) ∧ acc.length < sizeLine ∧ Nx (upd H4 D (.lst (acc ++ [y]))) else Nx H3) := by
  have h := lc_tup (K := K) (a := a) (xs := xs) (g := g) (tt := tt) (te := te) (vs := ws) (σ := σ') (H1 := H) (D := D) (Qd := Qd) Pv h0 hl (by rw [e]; exact hs) hd
  rw [e] at h
  exact h
theorem l_range {lo : Int} {n : Nat} (Pv : Nat → Hp → Prop) (h0 : Pv 0 (upd H D (.lst [])))
    (hs : ∀ i H, i < n → Pv i H → g (.int (lo + i)) σ' H fun σ2 H2 => wipe σ2 ws = σ' ∧ tt σ2 H2 fun b H3 =>
      if b = true then te σ2 H3 fun y H4 => ∃ acc, H4 D = some (.lst acc) ∧ acc.length < sizeLine ∧ Pv (i + 1) (upd H4 D (.lst (acc ++ [y]))) else Pv (i + 1) H3) (hd : ∀ H, Pv n H → Qd H) (e : wipe σ' ws = σ' := by rfl) :
    ∃ W : Nat → Nat → Hp → Prop, (∃ m, W 0 m (upd H D (.lst []))) ∧ ∀ i m H, W i m H →
      ((Itr lo n).stop i H ∧ Qd H) ∨ ((Itr lo n).go i H ∧ ∃ Nx : Hp → Prop, (∀ H', Nx H' → ∃ m', m' < m ∧ W (i + 1) m' H') ∧ ∀ x H', (Itr lo n).yld i H x H' → g x σ' H' fun σ2 H2 => wipe σ2 ws = σ' ∧ tt σ2 H2 fun b H3 =>
        if b = true then te σ2 H3 fun y H4 => ∃ acc, H4 D = some (.lst acc) ∧ acc.length < sizeLine ∧ Nx (upd H4 D (.lst (acc ++ [y]))) else Nx H3) := by
  have h := lc_range (lo := lo) (n := n) (g := g) (tt := tt) (te := te) (vs := ws) (σ := σ') (H1 := H) (D := D) (Qd := Qd) Pv h0 (by rw [e]; exact hs) hd
  rw [e] at h
  exact h
/-! a comprehension whose elements lay nothing -/
theorem l_rangeP {lo : Int} {n : Nat} (f : Nat → V) (hD : H D = none) (hn : n ≤ 1000000)
    (hs : ∀ i H' (R : VK), i < n → Same H H' → R (f i) H' → g (.int (lo + i)) σ' H' fun σ2 H2 => wipe σ2 ws = σ' ∧ tt σ2 H2 fun b H3 => if b = true then te σ2 H3 R else False)
    (hd : ∀ H', Same H H' → H' D = some (.lst ((List.range n).map f)) → Qd H') (e : wipe σ' ws = σ' := by rfl)
    (htt : ∀ (σ2 : L2.St) (H2 : Hp) (A : Hp → Prop) (B : Hp → Prop), (tt σ2 H2 fun b H3 => if b = true then A H3 else False) → tt σ2 H2 fun b H3 => if b = true then A H3 else B H3 := by intro _ _ _ _ h; exact h) (hg : ∀ x (σ2 : L2.St) (H2 : Hp) (A B : L2.St → Hp → Prop), (∀ s h, A s h → B s h) → g x σ2 H2 A → g x σ2 H2 B := by intro _ _ _ _ _ h q; exact h _ _ q) :
    ∃ W : Nat → Nat → Hp → Prop, (∃ m, W 0 m (upd H D (.lst []))) ∧ ∀ i m H, W i m H →
      ((Itr lo n).stop i H ∧ Qd H) ∨ ((Itr lo n).go i H ∧ ∃ Nx : Hp → Prop, (∀ H', Nx H' → ∃ m', m' < m ∧ W (i + 1) m' H') ∧ ∀ x H', (Itr lo n).yld i H x H' → g x σ' H' fun σ2 H2 => wipe σ2 ws = σ' ∧ tt σ2 H2 fun b H3 =>
        if b = true then te σ2 H3 fun y H4 => ∃ acc, H4 D = some (.lst acc) ∧ acc.length < sizeLine ∧ Nx (upd H4 D (.lst (acc ++ [y]))) else Nx H3) := by
  refine l_range (fun i H' => Same H H' ∧ H' D = some (.lst ((List.range i).map f))) ⟨same_new hD, upd_same⟩ (fun i H' hi h => ?_) (fun H' h => hd H' h.1 h.2) e
  obtain ⟨s, hD'⟩ := h
  refine hg _ _ _ _ _ (fun σ2 H2 q => ⟨q.1, htt _ _ _ _ q.2⟩) (hs i H' _ hi s ⟨_, hD', ?_, fun b o hb => ?_, ?_⟩)
  · rw [List.length_map, List.length_range, sizeLine_eq]; omega
  · rw [upd_ne (ne_of_none hb hD)]; exact s _ _ hb
  · rw [upd_same, List.range_succ, List.map_append] <;> rfl
theorem l_listP (f : Nat → V) (hD : H D = none) (hn : xs.length ≤ 1000000) (hx : SqL K H a xs)
    (hs : ∀ i x H' (R : VK), xs[i]? = some x → Same H H' → R (f i) H' → g x σ' H' fun σ2 H2 => wipe σ2 ws = σ' ∧ tt σ2 H2 fun b H3 => if b = true then te σ2 H3 R else False)
    (hd : ∀ H', Same H H' → H' D = some (.lst ((List.range xs.length).map f)) → Qd H') (e : wipe σ' ws = σ' := by rfl)
    (htt : ∀ (σ2 : L2.St) (H2 : Hp) (A : Hp → Prop) (B : Hp → Prop), (tt σ2 H2 fun b H3 => if b = true then A H3 else False) → tt σ2 H2 fun b H3 => if b = true then A H3 else B H3 := by intro _ _ _ _ h; exact h) (hg : ∀ x (σ2 : L2.St) (H2 : Hp) (A B : L2.St → Hp → Prop), (∀ s h, A s h → B s h) → g x σ2 H2 A → g x σ2 H2 B := by intro _ _ _ _ _ h q; exact h _ _ q) :
    ∃ W : Nat → Nat → Hp → Prop, (∃ m, W 0 m (upd H D (.lst []))) ∧ ∀ i m H, W i m H →
      ((Itl K a).stop i H ∧ Qd H) ∨ ((Itl K a).go i H ∧ ∃ Nx : Hp → Prop, (∀ H', Nx H' → ∃ m', m' < m ∧ W (i + 1) m' H') ∧ ∀ x H', (Itl K a).yld i H x H' → g x σ' H' fun σ2 H2 => wipe σ2 ws = σ' ∧ tt σ2 H2 fun b H3 =>
        if b = true then te σ2 H3 fun y H4 => ∃ acc, H4 D = some (.lst acc) ∧ acc.length < sizeLine ∧ Nx (upd H4 D (.lst (acc ++ [y]))) else Nx H3) := by
  refine l_list (xs := xs) (fun i H' => Same H H' ∧ H' D = some (.lst ((List.range i).map f))) ⟨same_new hD, upd_same⟩ (fun i H' _ h => Same.seq h.1 hx) (fun i x H' hi h => ?_) (fun H' h => hd H' h.1 h.2) e
  obtain ⟨s, hD'⟩ := h
  have hlt := (List.getElem?_eq_some_iff.mp hi).1
  refine hg _ _ _ _ _ (fun σ2 H2 q => ⟨q.1, htt _ _ _ _ q.2⟩) (hs i x H' _ hi s ⟨_, hD', ?_, fun b o hb => ?_, ?_⟩)
  · rw [List.length_map, List.length_range, sizeLine_eq]; omega
  · rw [upd_ne (ne_of_none hb hD)]; exact s _ _ hb
  · rw [upd_same, List.range_succ, List.map_append] <;> rfl
theorem l_tupP (f : Nat → V) (hD : H D = none) (hn : xs.length ≤ 1000000) (hx : SqT K H a xs)
    (hs : ∀ i x H' (R : VK), xs[i]? = some x → Same H H' → R (f i) H' → g x σ' H' fun σ2 H2 => wipe σ2 ws = σ' ∧ tt σ2 H2 fun b H3 => if b = true then te σ2 H3 R else False)
    (hd : ∀ H', Same H H' → H' D = some (.lst ((List.range xs.length).map f)) → Qd H') (e : wipe σ' ws = σ' := by rfl)
    (htt : ∀ (σ2 : L2.St) (H2 : Hp) (A : Hp → Prop) (B : Hp → Prop), (tt σ2 H2 fun b H3 => if b = true then A H3 else False) → tt σ2 H2 fun b H3 => if b = true then A H3 else B H3 := by intro _ _ _ _ h; exact h) (hg : ∀ x (σ2 : L2.St) (H2 : Hp) (A B : L2.St → Hp → Prop), (∀ s h, A s h → B s h) → g x σ2 H2 A → g x σ2 H2 B := by intro _ _ _ _ _ h q; exact h _ _ q) :
    ∃ W : Nat → Nat → Hp → Prop, (∃ m, W 0 m (upd H D (.lst []))) ∧ ∀ i m H, W i m H →
      ((Itt K a).stop i H ∧ Qd H) ∨ ((Itt K a).go i H ∧ ∃ Nx : Hp → Prop, (∀ H', Nx H' → ∃ m', m' < m ∧ W (i + 1) m' H') ∧ ∀ x H', (Itt K a).yld i H x H' → g x σ' H' fun σ2 H2 => wipe σ2 ws = σ' ∧ tt σ2 H2 fun b H3 =>
        if b = true then te σ2 H3 fun y H4 => ∃ acc, H4 D = some (.lst acc) ∧ acc.length < sizeLine ∧ Nx (upd H4 D (.lst (acc ++ [y]))) else Nx H3) := by
  refine l_tup (xs := xs) (fun i H' => Same H H' ∧ H' D = some (.lst ((List.range i).map f))) ⟨same_new hD, upd_same⟩ (fun i H' _ h => Same.tup h.1 hx) (fun i x H' hi h => ?_) (fun H' h => hd H' h.1 h.2) e
  obtain ⟨s, hD'⟩ := h
  have hlt := (List.getElem?_eq_some_iff.mp hi).1
  refine hg _ _ _ _ _ (fun σ2 H2 q => ⟨q.1, htt _ _ _ _ q.2⟩) (hs i x H' _ hi s ⟨_, hD', ?_, fun b o hb => ?_, ?_⟩)
  · rw [List.length_map, List.length_range, sizeLine_eq]; omega
  · rw [upd_ne (ne_of_none hb hD)]; exact s _ _ hb
  · rw [upd_same, List.range_succ, List.map_append] <;> rfl
end
theorem i_yes {σ : L2.St} {H : Hp} {Q : Bool → Hp → Prop} (q : Q true H) : tYes σ H Q := q
/-! ### ifs -/
theorem c_dec {P A B : Prop} [Decidable P] (h1 : P → A) (h2 : ¬ P → B) : if decide P = true then A else B := by
  by_cases h : P
  · rw [if_pos (decide_eq_true h)]; exact h1 h
  · rw [if_neg (by rw [decide_eq_false h]; exact Bool.false_ne_true)]; exact h2 h
theorem c_decN {P A B : Prop} [Decidable P] (h1 : ¬ P → A) (h2 : P → B) : if (!decide P) = true then A else B := by
  by_cases h : P
  · rw [if_neg (by rw [decide_eq_true h]; exact Bool.false_ne_true)]; exact h2 h
  · rw [if_pos (by rw [decide_eq_false h]; rfl)]; exact h1 h
theorem c_nt {A B : Prop} (h : B) : if (!true) = true then A else B := iteF h
theorem c_nf {A B : Prop} (h : A) : if (!false) = true then A else B := iteT h
theorem c_bool {b : Bool} {A B : Prop} (h1 : b = true → A) (h2 : b = false → B) : if b = true then A else B := by
  cases b
  · exact iteF (h2 rfl)
  · exact iteT (h1 rfl)
theorem c_yes {P A B : Prop} [Decidable P] (h : P) (h1 : A) : if decide P = true then A else B := by rw [if_pos (decide_eq_true h)]; exact h1
theorem c_no {P A B : Prop} [Decidable P] (h : ¬ P) (h1 : B) : if decide P = true then A else B := by rw [if_neg (by rw [decide_eq_false h]; exact Bool.false_ne_true)]; exact h1
theorem c_yesN {P A B : Prop} [Decidable P] (h : ¬ P) (h1 : A) : if (!decide P) = true then A else B := by rw [if_pos (by rw [decide_eq_false h]; rfl)]; exact h1
theorem c_noN {P A B : Prop} [Decidable P] (h : P) (h1 : B) : if (!decide P) = true then A else B := by rw [if_neg (by rw [decide_eq_true h]; exact Bool.false_ne_true)]; exact h1
section
variable {K : PySem.W.Frag} {σ : L2.St} {H : Hp} {Q : VK}
theorem i_slA {p : Addr} {xs : List V} {lo hi : Option Int} (h : SqT K H p xs) (q : ∀ (r : Addr) (H' : Hp), Same H H' → SqT K H' r (cutV xs lo hi) → Q (.ref r) H') : rSlQ K (.ref p) lo hi H Q :=
  ⟨p, xs, rfl, h, fun e => q p H (Same.refl H) (by rw [e]; exact h), fun r hr => q r _ (same_new hr) (SqT.of upd_same)⟩
theorem i_eqD {x y : V} {d e : PyData} {n m : Nat} (h1 : Dp K H x d) (h2 : Dp K H y e) (s1 : Shp n d) (s2 : Shp m e) (hn : n ≤ 64) (hm : m ≤ 64) (q : Q (.bl (PyData.eqv d e)) H) : rEqD K x y H Q := ⟨d, e, h1, h2, s1.shaped hn, s2.shaped hm, q⟩
theorem i_neD {x y : V} {d e : PyData} {n m : Nat} (h1 : Dp K H x d) (h2 : Dp K H y e) (s1 : Shp n d) (s2 : Shp m e) (hn : n ≤ 64) (hm : m ≤ 64) (q : Q (.bl (!PyData.eqv d e)) H) : rNeD K x y H Q := ⟨d, e, h1, h2, s1.shaped hn, s2.shaped hm, q⟩
/-- == and != of the same data -/
theorem i_eqS' {x y : V} {d : PyData} {n : Nat} (h1 : Dp K H x d) (h2 : Dp K H y d) (s1 : Shp n d) (hn : n ≤ 64) (q : Q (.bl true) H) : rEqD K x y H Q := i_eqD h1 h2 s1 s1 hn hn (by rw [s1.eqv]; exact q)
theorem i_neS' {x y : V} {d : PyData} {n : Nat} (h1 : Dp K H x d) (h2 : Dp K H y d) (s1 : Shp n d) (hn : n ≤ 64) (q : Q (.bl false) H) : rNeD K x y H Q := i_neD h1 h2 s1 s1 hn hn (by rw [s1.eqv]; exact q)
theorem i_while {c : TT} {tb : TS} {nx : L2.St → Hp → Prop} {rt : VK} {bk ct : L2.St → Hp → Prop} (W : Nat → L2.St → Hp → Prop) (h0 : ∃ m, W m σ H) (h : ∀ m σ H, W m σ H →
  c σ H fun b H1 => if b = true then ∃ N : L2.St → Hp → Prop, (∀ σ' H', N σ' H' → ∃ m', m' < m ∧ W m' σ' H') ∧ tb ⟨N, rt, nx, N⟩ σ H1 else nx σ H1) : tWhile c tb ⟨nx, rt, bk, ct⟩ σ H := ⟨W, h0, h⟩
theorem i_par {i j : Nat} {ta : TA} {nx : L2.St → Hp → Prop} {rt : VK} {bk ct : L2.St → Hp → Prop} (h : ta σ H fun vs H1 => ∃ v w, vs = [v, w] ∧ nx ((σ.set i (some v)).set j (some w)) H1) : tPar i j ta ⟨nx, rt, bk, ct⟩ σ H := h
theorem i_two {x y : V} {R : V → V → Prop} (q : R x y) : ∃ v w, [x, y] = [v, w] ∧ R v w := ⟨x, y, rfl, q⟩
theorem Dp.same {K : PySem.W.Frag} {H H' : Hp} (s : Same H H') : ∀ (d : PyData) (v : V), Dp K H v d → Dp K H' v d := by
  intro d v h
  exact Dp.rec (motive_1 := fun v d _ => Dp K H' v d) (motive_2 := fun vs ds _ => DpAll K H' vs ds) .non (fun b => .bl b) (fun i => .int i) (fun x => .str x) (fun h _ q => .lst (s.seq h) q) (fun h _ q => .tup (Same.tup s h) q) .nil (fun _ _ h1 h2 => .cons h1 h2) h
end
/-! ### a def that can be called -/
structure Df (K : PySem.W.Frag) (mg : Str → Option Value) (x : Str) (st : Stmt) (f : Addr) (fd : FuncData) (ps : List Str) : Prop where
  fn : Fun K x x st f fd
  mgf : mg x = some (.ref f)
  bi : Binds K fd ps []
/-- a def of the text by its promise: it lets no exception out -/
structure Cl (P : Program) (w : World) (K : PySem.W.Frag) (mg : Str → Option Value) (base : Heap) (k : Nat) (x : Str) (sp : Sp) : Prop where
  ex : ∃ (f : Addr) (fd : FuncData) (ps : List Str), FnOk P w K mg base CX0 k f fd ps sp ∧ mg x = some (.ref f) ∧ PySem.W.keepIn K (.ref f) = true ∧ Binds K fd ps []
section
variable {P : Program} {w : World} {K : PySem.W.Frag} {mg : Str → Option Value} {base : Heap}
theorem Df.ok {x : Str} {st : Stmt} {f : Addr} {fd : FuncData} {ps N : List Str} {k : Nat} {sp : Sp} (F : Df K mg x st f fd ps) (S : FnScope N ps (defScope st)) (len : ∀ vs H Q E, sp vs H Q E → vs.length = ps.length)
    (hbody : ∀ (cdv : Value) (A : Around) (outer : List Env) (s : Shared) (H : Hp) (vs : List V) (Q : VK) (E : XK), Room k (A.deeper (envOfC x (defScope st) s.heap.objs.size f cdv)) → sp vs H Q E →
      ∃ t, PSs (cxOf CX0 P w K mg base N x (defScope st) f cdv A outer s H E).nox (defBody st) t ∧ t { nx := fun _ H' => Q .non H', rt := Q } (start N vs) H) : FnOk P w K mg base CX0 (k + 1) f fd ps sp :=
  F.fn.ok S len hbody
theorem Df.cl {x : Str} {st : Stmt} {f : Addr} {fd : FuncData} {ps : List Str} {k : Nat} {sp : Sp} (F : Df K mg x st f fd ps) (o : FnOk P w K mg base CX0 k f fd ps sp) : Cl P w K mg base k x sp :=
  ⟨f, fd, ps, o, F.mgf, F.fn.kp, F.bi⟩
variable {X : Cx}
theorem pe_cl {x : Str} {sp : Sp} {j k : Nat} {e : Expr} {es : List Expr} {t : TA} {p pos : Pos} (c : Cl X.prog X.w X.K X.mg X.base k x sp) (hr : Room j X.A) (hk : k ≤ j) (hg : Gl X x) (ha : PA X (e :: es) t)
    (hdb : (x == ("__debug__" : Str)) = false := by decide) (he : starEach (e :: es) X.env = (false, eval e X.env) :: starEach es X.env := by rfl) (hpl : (backTo pos (starEach es X.env)).any (·.1) = false := by rfl) :
    PE X (.Call (.Name x p) (e :: es) [] pos) (tCall sp [] E0 t) := by
  obtain ⟨f, fd, ps, F, hm, kp, b⟩ := c.ex
  exact pe_call F (hr.mono hk) hg hm kp b .nil pass0 ha hdb he hpl
theorem pe_cl0 {x : Str} {sp : Sp} {j k : Nat} {p pos : Pos} (c : Cl X.prog X.w X.K X.mg X.base k x sp) (hr : Room j X.A) (hk : k ≤ j) (hg : Gl X x) (hdb : (x == ("__debug__" : Str)) = false := by decide) :
    PE X (.Call (.Name x p) [] [] pos) (tCall sp [] E0 tNil) := by
  obtain ⟨f, fd, ps, F, hm, kp, b⟩ := c.ex
  exact pe_call0 F (hr.mono hk) hg hm kp b .nil pass0 hdb
/-- a constant of the module's top -/
def Cn (mg : Str → Option Value) (x : Str) (v : V) : Prop := ∃ u, mg x = some u ∧ RelV v u
theorem pe_cn {x : Str} {v : V} {pos : Pos} (hg : Gl X x) (h : Cn X.mg x v) (hd : (x == ("__debug__" : Str)) = false := by decide) : PE X (.Name x pos) (tC v) := by
  obtain ⟨u, hm, r⟩ := h
  exact pe_glob hg hm r hd
section
variable {K : PySem.W.Frag} {T : String} {name : Str} {id : String} {r : V → List V → Hp → VK → Prop} {o e : Expr} {es : List Expr} {apos cpos pos : Pos} {to ta : TE} {t : TA}
theorem pe_bm0K (hK : X.K = K) (pa : PlainAttrs T) (slot : Slot T name id) (hty : typeOf (.builtin id) = pure (.type "method_descriptor")) (hm : MtR X id r) (ho : PE X o to)
    (hbase : attributeBase o name X.env (eval o X.env) = eval o X.env := by rfl) (hline : (apos.endLine == cpos.line) = true := by rfl) : PE X (.Call (.Attribute o name apos) [] [] cpos) (tBM0 K T r to) := by
  subst hK; exact pe_bm0 pa slot hty hm ho hbase hline
theorem pe_bmK (hK : X.K = K) (pa : PlainAttrs T) (slot : Slot T name id) (hty : typeOf (.builtin id) = pure (.type "method_descriptor")) (hm : MtR X id r) (ho : PE X o to) (ha : PA X (e :: es) t)
    (hbase : attributeBase o name X.env (eval o X.env) = eval o X.env := by rfl)
    (hfew : ((backTo cpos (starEach (e :: es) X.env)).all (fun x => !x.1) && (backToKw cpos (keywordEach [] X.env)).all (fun x => x.1.isSome)
      && decide ((e :: es).length + ([] : List Keyword).length + (if ([] : List Keyword).isEmpty then 0 else 1) < 30)) = true := by rfl)
    (hline : (apos.endLine == cpos.line) = true := by rfl) (hs : starEach (e :: es) X.env = (false, eval e X.env) :: starEach es X.env := by rfl) (hplain : (backTo cpos (starEach es X.env)).any (·.1) = false := by rfl) :
    PE X (.Call (.Attribute o name apos) (e :: es) [] cpos) (tBM K T r to t) := by
  subst hK; exact pe_bm pa slot hty hm ho ha hbase hfew hline hs hplain
theorem pe_fldK (hK : X.K = K) {f : Str} (he : PE X e ta) (hb : attributeBase e f X.env (eval e X.env) = eval e X.env) : PE X (.Attribute e f pos) (tFld K ta f) := by
  subst hK; exact pe_fld he hb
theorem pg_tupK (hK : X.K = K) {es : List Expr} {k : Nat} {t : TGs} {n : Nat} (hc : X.calm = true) (h : PGs X es t)
    (hn : (assignEach es X.env).length = n := by rfl) (hst : (assignEach es X.env).findIdx? (·.1) = none := by rfl) : PG X (.Tuple es k pos) (gTup K n t) := by
  subst hK; exact pg_tup hc h hn hst
end
theorem get_list : L2.PGet X (rIxL X.K) := by
  intro pins s σ H x y v u Q I rx ry h
  obtain ⟨p, xs, i, z, rfl, rfl, hq, he, q⟩ := h
  cases rx
  obtain ⟨t, rfl⟩ := ry
  obtain ⟨its, r, pl, hz⟩ := I.list hq
  obtain ⟨j, h1, h2, h3, h4, h5⟩ := atI_get he
  obtain ⟨w, ew, rw'⟩ := r.get h2
  have hl := r.length
  have hn := line63
  have fin : EP X pins σ Q w s := ⟨z, H, I, rw', q⟩
  by_cases h0 : 0 ≤ i
  · have hj : i.toNat = j := by
      rw [seqIndex_of h0 h5] at h1
      exact Option.some.inj h1
    exact wpAny_getItem_list pl.isList h0 (by omega) (by rw [hj]; simpa using ew) fin
  · have hj : (i + (its.toArray.size : Int)).toNat = j := by
      rw [seqIndex_neg (by omega) h4] at h1
      rw [List.size_toArray, ← hl]
      exact Option.some.inj h1
    exact wpAny_getItem_list_neg pl.isList (by omega) (by rw [List.size_toArray] <;> omega) (by omega) (by rw [hj]; simpa using ew) fin
end
theorem perm_erase {α : Type} : ∀ (l : List α) (i : Nat) (h : i < l.length), (l[i] :: l.eraseIdx i).Perm l
  | x :: r, 0, _ => List.Perm.refl _
  | x :: r, i + 1, h => (List.Perm.swap x (r[i]'(Nat.lt_of_succ_lt_succ h)) (r.eraseIdx i)).trans ((perm_erase r i (Nat.lt_of_succ_lt_succ h)).cons x)
theorem ints_at {ns : List Int} {i : Nat} {x : V} (h : (ns.map V.int)[i]? = some x) : ∃ z, x = .int z ∧ ns[i]? = some z ∧ ns.take (i + 1) = ns.take i ++ [z] ∧ i < ns.length := by
  rw [List.getElem?_map] at h
  cases e : ns[i]? with
  | none => rw [e] at h; cases h
  | some z =>
    rw [e] at h
    exact ⟨z, (Option.some.inj h).symm, rfl, by rw [List.take_add_one, e]; rfl, (List.getElem?_eq_some_iff.mp e).1⟩
theorem at_lt {α : Type} {xs : List α} {i : Int} (h0 : 0 ≤ i) (h : i < xs.length) : ∃ v, atI xs i = some v ∧ v ∈ xs ∧ xs[i.toNat]? = some v := by
  have hl : i.toNat < xs.length := by omega
  refine ⟨xs[i.toNat], ?_, List.getElem_mem hl, List.getElem?_eq_getElem hl⟩
  have := atI_nat (xs := xs) (j := i.toNat) (v := xs[i.toNat]) (List.getElem?_eq_getElem hl)
  rw [Int.toNat_of_nonneg h0] at this
  exact this
theorem ixN_of {n : Nat} {i : Int} (h0 : 0 ≤ i) (h : i < n) : ixN n i = some i.toNat := by
  unfold ixN
  rw [if_pos h0, if_pos h]
end Jp

namespace Law
open PySem PySem.Spec PyProof.Rows L2 Jp
/-! ### the walk's small steps -/
local macro_rules | `(tactic| wtm_at "jset") => `(tactic| (first | (simp only [wipe, List.map_cons, List.map_nil, List.set_cons_zero, List.set_cons_succ]; done) | (simp only [wipe, List.map_cons, List.map_nil, List.set_cons_zero, List.set_cons_succ]; exact rfl) | exact rfl))
local macro_rules | `(tactic| wtm_at "jw1") => `(tactic| first
  | ((with_reducible refine' i_var ?h ?_); (case h => exact rfl))
  | with_reducible refine' i_c ?_ | with_reducible refine' i_op ?_ | with_reducible refine' i_seq ?_ | with_reducible refine' i_asg ?_
  | ((with_reducible refine' i_gNameE ?e ?_); (case e => wtm_at "jset"))
  | with_reducible refine' i_ret ?_ | with_reducible refine' i_test ?_ | with_reducible refine' i_isb ?_
  | with_reducible refine' i_cons ?_ | with_reducible refine' i_nil ?_ | with_reducible refine' i_call ?_ | with_reducible refine' i_cb ?_
  | with_reducible refine' i_rI0 ?_ | ((with_reducible refine' i_rI ?c ?_); (case c => wtm_at "jside")) | with_reducible refine' i_rU ?_
  | with_reducible refine' i_eqI ?_ | with_reducible refine' i_neI ?_ | with_reducible refine' i_eqB ?_ | with_reducible refine' i_neB ?_ | with_reducible refine' i_eqS ?_ | with_reducible refine' i_neS ?_
  | with_reducible refine' i_isN ?_ | with_reducible refine' i_notN ?_
  | with_reducible refine' i_un ?_ | with_reducible refine' i_drop ?_ | with_reducible refine' i_retN ?_ | with_reducible refine' i_next ?_
  | ((with_reducible refine' i_ixL ?h ?e ?_); (case h => wtm_at "jsq"); (case e => wtm_at "jat"))
  | ((with_reducible refine' i_ixT ?h ?e ?_); (case h => wtm_at "jsq"); (case e => wtm_at "jat"))
  | ((with_reducible refine' i_ix1 (i_ixL ?h ?e ?_)); (case h => wtm_at "jsq"); (case e => wtm_at "jat"))
  | ((with_reducible refine' i_ix2 (i_ixT ?h ?e ?_)); (case h => wtm_at "jsq"); (case e => wtm_at "jat"))
  | with_reducible refine' i_gSub ?_
  | ((with_reducible refine' i_setL ?h ?e ?_); (case h => wtm_at "jhp"); (case e => wtm_at "jixn"))
  | ((with_reducible refine' i_gTup ?h ?e ?_); (case h => wtm_at "jsq"); (case e => rfl)) | with_reducible refine' i_gCons ?_ | with_reducible refine' i_gNil ?_
  | with_reducible refine' i_int ?_ | with_reducible refine' i_intB ?_ | with_reducible refine' i_abs ?_ | with_reducible refine' i_max2 ?_ | with_reducible refine' i_min2 ?_
  | ((with_reducible refine' i_lenL ?h ?_); (case h => wtm_at "jsq")) | ((with_reducible refine' i_lenT ?h ?_); (case h => wtm_at "jsq"))
  | ((with_reducible refine' i_tupL ?h ?_); (case h => wtm_at "jsq")) | ((with_reducible refine' i_lstL ?h ?_); (case h => wtm_at "jsq")) | ((with_reducible refine' i_lstT ?h ?_); (case h => wtm_at "jsq")) | ((with_reducible refine' i_tupT ?h ?_); (case h => wtm_at "jsq"))
  | ((with_reducible refine' i_new ?h ?_); (case h => wtm_at "jlen"))
  | with_reducible refine' i_tup ?_ | with_reducible refine' i_lst ?_ | with_reducible refine' i_if ?_ | with_reducible refine' i_andV ?_ | with_reducible refine' i_orV ?_ | with_reducible refine' i_notV ?_ | with_reducible refine' i_B ?_
  | with_reducible refine' i_and ?_ | with_reducible refine' i_or ?_ | with_reducible refine' i_not ?_ | with_reducible refine' i_break ?_ | with_reducible refine' i_cont ?_
  | ((with_reducible refine' i_augE ?h ?_); (case h => exact rfl)) | with_reducible refine' i_augS ?_ | with_reducible refine' i_ipI ?_
  | with_reducible refine' i_for ?_ | with_reducible refine' i_iList ?_ | with_reducible refine' i_iTup ?_ | ((with_reducible refine' i_isL ?h ?_); (case h => wtm_at "jsq")) | ((with_reducible refine' i_isT ?h ?_); (case h => wtm_at "jsq"))
  | with_reducible refine' i_rng1 ?_ | with_reducible refine' i_rng2 ?_
  | ((with_reducible refine' i_isR1 ?h1 ?h2 ?_); (case h1 => wtm_at "jside"); (case h2 => wtm_at "jside"))
  | ((with_reducible refine' i_isR2 ?h1 ?h2 ?h3 ?h4 ?_); (case h1 => wtm_at "jside"); (case h2 => wtm_at "jside"); (case h3 => wtm_at "jside"); (case h4 => wtm_at "jside"))
  | ((with_reducible refine' i_lc ?e ?_); (case e => wtm_at "jset"))
  | with_reducible refine' i_yes ?_ | with_reducible refine' i_sl ?_ | with_reducible refine' i_par ?_ | with_reducible refine' i_two ?_ | with_reducible refine' i_noPart ?_ | with_reducible refine' i_part ?_ | with_reducible refine' i_isI ?_
  | with_reducible refine' i_bm ?_ | with_reducible refine' i_bm0 ?_ | ((with_reducible refine' i_tyL ?h ?_); (case h => wtm_at "jsq"))
  | ((with_reducible refine' i_app ?h ?e ?_); (case h => wtm_at "jhp"); (case e => wtm_at "jsmall"))
  | with_reducible refine' i_chain ?_ | ((with_reducible refine' i_cat ?h1 ?h2 ?e ?_); (case h1 => wtm_at "jhp"); (case h2 => wtm_at "jhp"); (case e => wtm_at "jlen"))
  | with_reducible refine iteT ?_ | with_reducible refine iteF ?_ | with_reducible refine' c_nt ?_ | with_reducible refine' c_nf ?_)
local macro_rules | `(tactic| wtm_at "js") => `(tactic| repeat (wtm_at "jw1"))
local macro_rules | `(tactic| wtm_at "jw") => `(tactic| repeat (first | wtm_at "jw1" | with_reducible refine' i_ifS ?_))
local macro_rules | `(tactic| wtm_at "jlen") => `(tactic| first | decide | (simp [sizeLine]; done) | omega)
/- a condition of an operation -/
local macro_rules | `(tactic| wtm_at "jside") => `(tactic| first | with_reducible assumption | omega | decide | (simp only [List.length_map]; omega) | (refine Or.inl ?_; decide) | (refine Or.inr ?_; decide) | (refine ⟨?_, ?_⟩ <;> omega) | (refine Or.inl ?_; constructor <;> omega) | (refine Or.inr ?_; constructor <;> omega) | (refine ⟨by decide, by decide, by decide⟩) | (with_reducible refine wide_div ?_ (b := 64) ?_ ?_ ?_ <;> first | omega | decide))
/- H p = some o -/
local macro_rules | `(tactic| wtm_at "jhp") => `(tactic| first | assumption | with_reducible exact upd_same | ((with_reducible refine' Eq.trans (upd_ne ?hne) ?hgo); (case hne => wtm_at "jne"); (case hgo => wtm_at "jhp")))
local macro_rules | `(tactic| wtm_at "jne") => `(tactic| first | assumption | (refine Ne.symm ?_; assumption) | (refine ne_of_none (by assumption) (by assumption)) | (refine (ne_of_none (by assumption) (by assumption)).symm))
local macro_rules | `(tactic| wtm_at "jsq") => `(tactic| first | assumption | ((with_reducible refine' SqL.of ?hh); (case hh => wtm_at "jhp")) | ((with_reducible refine' SqT.of ?hh); (case hh => wtm_at "jhp")) | ((with_reducible refine' Same.seq (same_new ?hn) ?hh); (case hn => assumption); (case hh => wtm_at "jsq")) | ((with_reducible refine' Same.tup (same_new ?hn) ?hh); (case hn => assumption); (case hh => wtm_at "jsq")))
/- the item at a place -/
local macro_rules | `(tactic| wtm_at "jat") => `(tactic| first | exact rfl | assumption)
local macro_rules | `(tactic| wtm_at "jixn") => `(tactic| first | exact rfl | assumption)
local macro_rules | `(tactic| wtm_at "jsmall") => `(tactic| first | assumption | exact small1000 (by first | assumption | omega | (simp; done) | (simp; omega)))

def top (i : Nat) : Stmt := PySem.Challenge.pw_judgedplay_k21_touching.main.body.getD i (.Pass ⟨0, 0, 0, 0⟩)
abbrev s__law_begin : Stmt := top 7
abbrev N__law_begin : List Str := ["script", "cell"]
theorem sc__law_begin : FnScope N__law_begin ["script"] (defScope s__law_begin) := ⟨rfl, rfl, rfl, by decide +kernel, rfl, by decide +kernel, by decide +kernel⟩
abbrev s__law_draw : Stmt := top 8
abbrev N__law_draw : List Str := ["d", "many", "found", "size", "cell"]
theorem sc__law_draw : FnScope N__law_draw ["d", "many"] (defScope s__law_draw) := ⟨rfl, rfl, rfl, by decide +kernel, rfl, by decide +kernel, by decide +kernel⟩
abbrev s__law_pick : Stmt := top 9
abbrev N__law_pick : List Str := ["d", "row"]
theorem sc__law_pick : FnScope N__law_pick ["d", "row"] (defScope s__law_pick) := ⟨rfl, rfl, rfl, by decide +kernel, rfl, by decide +kernel, by decide +kernel⟩
abbrev s__law_pool : Stmt := top 11
abbrev N__law_pool : List Str := ["text"]
theorem sc__law_pool : FnScope N__law_pool [] (defScope s__law_pool) := ⟨rfl, rfl, rfl, by decide +kernel, rfl, by decide +kernel, by decide +kernel⟩
abbrev s__law_pop : Stmt := top 10
abbrev N__law_pop : List Str := ["d", "row"]
theorem sc__law_pop : FnScope N__law_pop ["d", "row"] (defScope s__law_pop) := ⟨rfl, rfl, rfl, by decide +kernel, rfl, by decide +kernel, by decide +kernel⟩
abbrev s__law_size : Stmt := top 15
abbrev N__law_size : List Str := ["d"]
theorem sc__law_size : FnScope N__law_size ["d"] (defScope s__law_size) := ⟨rfl, rfl, rfl, by decide +kernel, rfl, by decide +kernel, by decide +kernel⟩
abbrev s__law_bodies : Stmt := top 16
abbrev N__law_bodies : List Str := ["d", "first", "many", "names", "found", "k", "name", "width"]
theorem sc__law_bodies : FnScope N__law_bodies ["d", "first", "many"] (defScope s__law_bodies) := ⟨rfl, rfl, rfl, by decide +kernel, rfl, by decide +kernel, by decide +kernel⟩
abbrev s__law_anywhere : Stmt := top 18
abbrev N__law_anywhere : List Str := ["d"]
theorem sc__law_anywhere : FnScope N__law_anywhere ["d"] (defScope s__law_anywhere) := ⟨rfl, rfl, rfl, by decide +kernel, rfl, by decide +kernel, by decide +kernel⟩
abbrev s__law_hold : Stmt := top 14
abbrev N__law_hold : List Str := ["low", "number", "high"]
theorem sc__law_hold : FnScope N__law_hold ["low", "number", "high"] (defScope s__law_hold) := ⟨rfl, rfl, rfl, by decide +kernel, rfl, by decide +kernel, by decide +kernel⟩
abbrev s__law_spot : Stmt := top 17
abbrev N__law_spot : List Str := ["d", "start", "width", "size", "off", "way"]
theorem sc__law_spot : FnScope N__law_spot ["d", "start", "width", "size"] (defScope s__law_spot) := ⟨rfl, rfl, rfl, by decide +kernel, rfl, by decide +kernel, by decide +kernel⟩
abbrev s__law_state_of : Stmt := top 19
abbrev N__law_state_of : List Str := ["d", "bodies", "first", "found", "k", "near", "row", "spot", "axis"]
theorem sc__law_state_of : FnScope N__law_state_of ["d", "bodies", "first"] (defScope s__law_state_of) := ⟨rfl, rfl, rfl, by decide +kernel, rfl, by decide +kernel, by decide +kernel⟩
abbrev s_is_on : Stmt := top 3
abbrev N_is_on : List Str := ["state", "body"]
theorem sc_is_on : FnScope N_is_on ["state", "body"] (defScope s_is_on) := ⟨rfl, rfl, rfl, by decide +kernel, rfl, by decide +kernel, by decide +kernel⟩
abbrev s_overlapping : Stmt := top 2
abbrev N_overlapping : List Str := ["state", "one", "other", "left", "right"]
theorem sc_overlapping : FnScope N_overlapping ["state", "one", "other"] (defScope s_overlapping) := ⟨rfl, rfl, rfl, by decide +kernel, rfl, by decide +kernel, by decide +kernel⟩
abbrev s_touching_pairs : Stmt := top 5
abbrev N_touching_pairs : List Str := ["state", "bodies", "order", "k", "reached", "found", "left", "still", "other"]
theorem sc_touching_pairs : FnScope N_touching_pairs ["state", "bodies"] (defScope s_touching_pairs) := ⟨rfl, rfl, rfl, by decide +kernel, rfl, by decide +kernel, by decide +kernel⟩
abbrev s__law_common : Stmt := top 20
abbrev N__law_common : List Str := ["state", "one", "other", "axis", "low", "high"]
theorem sc__law_common : FnScope N__law_common ["state", "one", "other"] (defScope s__law_common) := ⟨rfl, rfl, rfl, by decide +kernel, rfl, by decide +kernel, by decide +kernel⟩
abbrev s_touching : Stmt := top 4
abbrev N_touching : List Str := ["state", "bodies", "one", "other"]
theorem sc_touching : FnScope N_touching ["state", "bodies", "one", "other"] (defScope s_touching) := ⟨rfl, rfl, rfl, by decide +kernel, rfl, by decide +kernel, by decide +kernel⟩
abbrev s__law_is_int : Stmt := top 12
abbrev N__law_is_int : List Str := ["thing"]
theorem sc__law_is_int : FnScope N__law_is_int ["thing"] (defScope s__law_is_int) := ⟨rfl, rfl, rfl, by decide +kernel, rfl, by decide +kernel, by decide +kernel⟩
abbrev s__law_is_ints : Stmt := top 13
abbrev N__law_is_ints : List Str := ["row", "part"]
theorem sc__law_is_ints : FnScope N__law_is_ints ["row"] (defScope s__law_is_ints) := ⟨rfl, rfl, rfl, by decide +kernel, rfl, by decide +kernel, by decide +kernel⟩
abbrev s__law_are_told : Stmt := top 21
abbrev N__law_are_told : List Str := ["state", "bodies", "due", "a", "b", "meets", "told", "pairs", "pair"]
theorem sc__law_are_told : FnScope N__law_are_told ["state", "bodies"] (defScope s__law_are_told) := ⟨rfl, rfl, rfl, by decide +kernel, rfl, by decide +kernel, by decide +kernel⟩
abbrev s__law_other_state : Stmt := top 22
abbrev N__law_other_state : List Str := ["d", "state", "bodies", "found", "at", "way"]
theorem sc__law_other_state : FnScope N__law_other_state ["d", "state", "bodies"] (defScope s__law_other_state) := ⟨rfl, rfl, rfl, by decide +kernel, rfl, by decide +kernel, by decide +kernel⟩
abbrev s_law : Stmt := top 23
abbrev N_law : List Str := ["script", "d", "many", "first", "bodies", "start", "state", "turn", "turned", "row"]
theorem sc_law : FnScope N_law ["script"] (defScope s_law) := ⟨rfl, rfl, rfl, by decide +kernel, rfl, by decide +kernel, by decide +kernel⟩
/-- what the text's top has: built-ins that are still so, constants -/
structure Txt (mg : Str → Option Value) : Prop where
  b_int : mg "int" = none
  b_len : mg "len" = none
  b_abs : mg "abs" = none
  b_range : mg "range" = none
  b_tuple : mg "tuple" = none
  b_min : mg "min" = none
  b_max : mg "max" = none
  b_sorted : mg "sorted" = none
  b_isinstance : mg "isinstance" = none
  b_bool : mg "bool" = none
  b_all : mg "all" = none
  b_list : mg "list" = none
  c_PART : Cn mg "PART" (.int 16)
/-! ### the draws -/
/-- a row of draws stands at p, its cells at a -/
def DrawAt (H : Hp) (p a : Addr) : Prop := ∃ (ns : List Int) (pos pend seed : Int), H p = some (.lst [.ref a, .int pos, .int pend, .int seed]) ∧ H a = some (.lst (ns.map V.int)) ∧ a ≠ p ∧ 0 ≤ pos
theorem DrawAt.same {H H' : Hp} {p a : Addr} (d : DrawAt H p a) (s : Same H H') : DrawAt H' p a := by
  obtain ⟨ns, pos, pend, seed, h1, h2, h3, h4⟩ := d
  exact ⟨ns, pos, pend, seed, s _ _ h1, s _ _ h2, h3, h4⟩
/-- behind draws: the row stands, all else is as it was -/
structure Drew (p a : Addr) (H H' : Hp) : Prop where
  at_ : DrawAt H' p a
  kp : Kp p H H'
theorem Drew.trans {p a : Addr} {H H1 H2 : Hp} (x : Drew p a H H1) (y : Drew p a H1 H2) : Drew p a H H2 := ⟨y.at_, x.kp.trans y.kp⟩
theorem Drew.new {p a q : Addr} {H H1 : Hp} {o : HO} (x : Drew p a H H1) (h : H1 q = none) : Drew p a H (upd H1 q o) := ⟨x.at_.same (same_new h), x.kp.trans (.of (same_new h))⟩
theorem Drew.same {p a : Addr} {H H1 H2 : Hp} (x : Drew p a H H1) (s : Same H1 H2) : Drew p a H H2 := ⟨x.at_.same s, x.kp.trans (.of s)⟩
theorem DrawAt.drew {p a : Addr} {H : Hp} (d : DrawAt H p a) : Drew p a H H := ⟨d, Kp.refl⟩
theorem DrawAt.some {H : Hp} {p a : Addr} (d : DrawAt H p a) : ∃ xs, H p = some (.lst xs) := by
  obtain ⟨ns, pos, pend, seed, h1, _⟩ := d
  exact ⟨_, h1⟩
theorem DrawAt.ne_none {H : Hp} {p a q : Addr} (d : DrawAt H p a) (h : H q = none) : q ≠ p := by
  obtain ⟨xs, e⟩ := d.some
  exact (ne_of_none e h).symm
theorem DrawAt.ne_noneA {H : Hp} {p a q : Addr} (d : DrawAt H p a) (h : H q = none) : q ≠ a := by
  obtain ⟨ns, pos, pend, seed, _, h1, _⟩ := d
  exact (ne_of_none h1 h).symm
theorem Drew.free {p a q : Addr} {H H' : Hp} (w : Drew p a H H') (h : H' q = none) : H q = none := by
  cases e : H q with
  | none => rfl
  | some o =>
    by_cases hq : q = p
    · obtain ⟨xs, e'⟩ := w.at_.some
      rw [hq, e'] at h; cases h
    · rw [w.kp _ _ e hq] at h; cases h
/-- a thing of our own, made behind H, is written -/
theorem Drew.put {p a q : Addr} {H H1 : Hp} {o : HO} (x : Drew p a H H1) (d : DrawAt H p a) (h : H q = none) : Drew p a H (upd H1 q o) := by
  have n1 := d.ne_none h
  have n2 := d.ne_noneA h
  obtain ⟨ns, pos, pend, seed, h1, h2, h3, h4⟩ := x.at_
  refine ⟨⟨ns, pos, pend, seed, by rw [upd_ne n1.symm]; exact h1, by rw [upd_ne n2.symm]; exact h2, h3, h4⟩, fun b u hb hne => ?_⟩
  rw [upd_ne (ne_of_none hb h)]
  exact x.kp _ _ hb hne
theorem Drew.tps {p a : Addr} {H H' : Hp} (w : Drew p a H H') (d : DrawAt H p a) : Tps H H' := by
  obtain ⟨xs, e⟩ := d.some
  exact w.kp.tps e
def sp__law_begin (K : PySem.W.Frag) : Sp := fun vs H Q _ => ∃ (a : Addr) (ns : List Int), vs = [.ref a] ∧ SqL K H a (ns.map V.int) ∧ ns.length ≤ 63 ∧
  ∀ (p c : Addr) (H' : Hp), Same H H' → H p = none → H c = none → DrawAt H' p c → Q (.ref p) H'
theorem ok__law_begin {P : Program} {w : World} {K : PySem.W.Frag} {mg : Str → Option Value} {base : Heap} {f : Addr} {fd : FuncData} (F : Df K mg "_law_begin" s__law_begin f fd ["script"]) (T : Txt mg) : FnOk P w K mg base CX0 1 f fd ["script"] (sp__law_begin K) := by
  refine F.ok sc__law_begin (fun vs H Q E h => ?_) (fun cdv A outer s H vs Q E hr h => ?_)
  · obtain ⟨a, ns, rfl, _⟩ := h
    rfl
  · obtain ⟨a, ns, rfl, hS, hl, k⟩ := h
    refine ⟨_, (pss_one (ps_ret (pe_lst (pa_cons (pe_lc (own := [("cell", 1)]) (g := gName 1) (tt := tYes) rfl sc__law_begin.nd (pi_list (pv 0)) (blkOk_by (own := [("cell", 1)]) (N := N__law_begin) (sc := defScope s__law_begin) (by decide +kernel)) (fun _ _ _ _ _ => (pg_name (i := 1) sc__law_begin.nd rfl (Or.inl rfl))) (fun _ _ _ _ _ => pts_nil) (fun _ _ _ _ _ => (pe_callTy (T := "int") c_int (by rfl) T.b_int (by decide +kernel) (pa_cons (pv 1) pa_nil)))) (pa_cons pe_int (pa_cons pe_int (pa_cons pe_int pa_nil))))))), ?_⟩
    try dsimp only [cxOf, Cx.nox, Cx.wish]
    refine st_of (σ' := [some _, none]) rfl ?_
    wtm_at "jw"
    intro D hD
    refine l_list (xs := ns.map V.int) (fun i H1 => Same H H1 ∧ H1 D = some (.lst ((ns.take i).map V.int))) ⟨same_new hD, upd_same⟩ (fun i H1 _ h => h.1.seq hS) (fun i x H1 hi h => ?_) (fun H1 h => ?_)
    · obtain ⟨s1, h1⟩ := h
      rw [List.getElem?_map] at hi
      cases e : ns[i]? with
      | none => rw [e] at hi; cases hi
      | some z =>
        rw [e] at hi
        cases hi
        have hlt : i < ns.length := (List.getElem?_eq_some_iff.mp e).1
        wtm_at "jw"
        refine ⟨rfl, ?_⟩
        wtm_at "jw"
        refine ⟨_, h1, small1000 (by rw [List.length_map, List.length_take]; omega), ?_, ?_⟩
        · intro b o hb
          have hne : b ≠ D := ne_of_none hb hD
          rw [upd_ne hne]
          exact s1 _ _ hb
        · rw [upd_same, List.take_add_one, e, List.map_append]
          rfl
    · obtain ⟨s1, h1⟩ := h
      rw [List.length_map, List.take_length] at h1
      wtm_at "jw"
      intro p hp
      have hne : D ≠ p := ne_of_none h1 hp
      refine k p D _ (fun b o hb => ?_) (s1.free hp) hD ⟨ns, 0, 0, 11, upd_same, by rw [upd_ne hne]; exact h1, hne, by decide⟩
      rw [upd_ne (ne_of_none (s1 _ _ hb) hp)]
      exact s1 _ _ hb
def sp__law_draw (K : PySem.W.Frag) : Sp := fun vs H Q _ => ∃ (p a : Addr) (many : Int), vs = [.ref p, .int many] ∧ DrawAt H p a ∧ 0 < many ∧ many < 18446744073709551616 ∧
  ∀ (r : Int) (H' : Hp), 0 ≤ r → r < many → Drew p a H H' → Q (.int r) H'
theorem ok__law_draw {P : Program} {w : World} {K : PySem.W.Frag} {mg : Str → Option Value} {base : Heap} {f : Addr} {fd : FuncData} (F : Df K mg "_law_draw" s__law_draw f fd ["d", "many"]) (T : Txt mg) : FnOk P w K mg base CX0 1 f fd ["d", "many"] (sp__law_draw K) := by
  refine F.ok sc__law_draw (fun vs H Q E h => ?_) (fun cdv A outer s H vs Q E hr h => ?_)
  · obtain ⟨p, a, m, rfl, _⟩ := h
    rfl
  · obtain ⟨p, a, m, rfl, ⟨ns, pos, pend, seed, hp, ha, nap, h0⟩, hm0, hm1, k⟩ := h
    have fin : ∀ (z : Int) (pos' pend' seed' : Int) (H' : Hp), 0 ≤ pos' → H' p = some (.lst [.ref a, .int pos', .int pend', .int seed']) → Kp p H H' → Q (.int (z % m)) H' := fun z pos' pend' seed' H' hp' h1 h2 =>
      k _ _ (Int.emod_nonneg _ (by omega)) (Int.emod_lt_of_pos _ hm0) ⟨⟨ns, pos', pend', seed', h1, h2 _ _ ha nap, nap, hp'⟩, h2⟩
    refine ⟨_, (pss_cons (ps_if (pt_cmpR op_gt (pe_ix (r := rIxL K) ix_list (pv 0) pe_int (fun _ _ => rfl)) pe_int (nomark _)) (pss_cons (ps_set (i := 2) sc__law_draw.nd rfl (Or.inl rfl) (pe_ix (r := rIxL K) ix_list (pv 0) pe_int (fun _ _ => rfl)))
      (pss_cons (ps_asg (pe_op op_fdivW (pv 2) (pv 1)) (pg_sub (pv 0) pe_int set_list))
      (pss_one (ps_ret (pe_op op_mod (pe_callTy (T := "int") c_int (by rfl) T.b_int (by decide +kernel) (pa_cons (pv 2) pa_nil)) (pv 1)))))) pss_nil)
      (pss_cons (ps_set (i := 3) sc__law_draw.nd rfl (Or.inl rfl) pe_int)
      (pss_cons (ps_if (pt_cmpR op_lt (pe_ix (r := rIxL K) ix_list (pv 0) pe_int (fun _ _ => rfl)) (pe_callB (id := "len") (r := qLen K) c_len (by rfl) T.b_len (by decide +kernel) (pa_cons (pe_ix (r := rIxL K) ix_list (pv 0) pe_int (fun _ _ => rfl)) pa_nil)) (nomark _)) (pss_cons (ps_set (i := 4) sc__law_draw.nd rfl (Or.inl rfl) (pe_ix (r := rIx K) ix_seq (pe_ix (r := rIxL K) ix_list (pv 0) pe_int (fun _ _ => rfl)) (pe_ix (r := rIxL K) ix_list (pv 0) pe_int (fun _ _ => rfl)) (fun _ _ => rfl)))
      (pss_one (ps_set (i := 3) sc__law_draw.nd rfl (Or.inl rfl) (pe_op op_add (pe_op op_mul pe_int (pe_callB (id := "abs") c_abs (by rfl) T.b_abs (by decide +kernel) (pa_cons (pv 4) pa_nil))) (pe_callTy (T := "int") c_int (by rfl) T.b_int (by decide +kernel) (pa_cons (pe_cmpR op_lt (pv 4) pe_int (nomark _)) pa_nil)))))) pss_nil)
      (pss_cons (ps_augS (pv 0) pe_int get_list pe_int iop_add set_list)
      (pss_cons (ps_if (pt_cmpR op_ge (pv 3) (pe_op op_mul pe_int (pe_op op_pow pe_int pe_int)) (nomark _)) (pss_cons (ps_set (i := 2) sc__law_draw.nd rfl (Or.inl rfl) (pe_op op_mod (pe_callTy (T := "int") c_int (by rfl) T.b_int (by decide +kernel) (pa_cons (pe_op op_fdiv (pv 3) pe_int) pa_nil)) (pe_op op_shl pe_int pe_int)))
      (pss_cons (ps_asg (pe_op op_fdivW (pv 2) (pv 1)) (pg_sub (pv 0) pe_int set_list))
      (pss_one (ps_ret (pe_op op_mod (pe_callTy (T := "int") c_int (by rfl) T.b_int (by decide +kernel) (pa_cons (pv 2) pa_nil)) (pv 1)))))) pss_nil)
      (pss_cons (ps_asg (pe_op op_mod (pe_callTy (T := "int") c_int (by rfl) T.b_int (by decide +kernel) (pa_cons (pe_op op_add (pe_op op_add (pe_op op_add (pe_op op_mul (pe_ix (r := rIxL K) ix_list (pv 0) pe_int (fun _ _ => rfl)) pe_int) (pe_op op_mul (pe_op op_mod (pe_callTy (T := "int") c_int (by rfl) T.b_int (by decide +kernel) (pa_cons (pv 3) pa_nil)) pe_int) pe_int)) (pe_op op_mul (pe_ix (r := rIxL K) ix_list (pv 0) pe_int (fun _ _ => rfl)) pe_int)) pe_int) pa_nil)) pe_int) (pg_sub (pv 0) pe_int set_list))
      (pss_one (ps_ret (pe_op op_mod (pe_callTy (T := "int") c_int (by rfl) T.b_int (by decide +kernel) (pa_cons (pe_op op_fdiv (pe_ix (r := rIxL K) ix_list (pv 0) pe_int (fun _ _ => rfl)) pe_int) pa_nil)) (pv 1)))))))))), ?_⟩
    try dsimp only [cxOf, Cx.nox, Cx.wish]
    refine st_of (σ' := [some _, some _, none, none, none]) rfl ?_
    wtm_at "jw"
    refine c_dec (fun h => ?_) (fun h => ?_)
    · wtm_at "jw"
      exact fin _ _ _ _ _ h0 upd_same Kp.upd
    · wtm_at "jw"
      refine c_dec (fun h1 => ?_) (fun h1 => ?_)
      · obtain ⟨c, hc⟩ : ∃ c : Int, atI (ns.map V.int) pos = some (.int c) := by
          obtain ⟨v, e, hv, _⟩ := at_lt (xs := ns.map V.int) h0 h1
          obtain ⟨z, _, rfl⟩ := List.mem_map.mp hv
          exact ⟨z, e⟩
        wtm_at "jw"
        refine c_dec (fun h2 => ?_) (fun h2 => ?_)
        · wtm_at "jw"
          exact fin _ (pos + 1) _ _ _ (by omega) upd_same (Kp.upd.trans Kp.upd)
        · wtm_at "jw"
          exact fin _ (pos + 1) _ _ _ (by omega) upd_same (Kp.upd.trans Kp.upd)
      · wtm_at "jw"
        refine c_dec (fun h2 => ?_) (fun h2 => ?_)
        · wtm_at "jw"
          exact fin _ (pos + 1) _ _ _ (by omega) upd_same (Kp.upd.trans Kp.upd)
        · wtm_at "jw"
          exact fin _ (pos + 1) _ _ _ (by omega) upd_same (Kp.upd.trans Kp.upd)

def sp__law_pick (K : PySem.W.Frag) : Sp := fun vs H Q _ => ∃ (p a b : Addr) (xs : List V), vs = [.ref p, .ref b] ∧ DrawAt H p a ∧ ((b ≠ p ∧ SqL K H b xs) ∨ SqT K H b xs) ∧ 0 < xs.length ∧ xs.length < 1073741824 ∧
  ∀ (x : V) (H' : Hp), x ∈ xs → Drew p a H H' → Q x H'
theorem ok__law_pick {P : Program} {w : World} {K : PySem.W.Frag} {mg : Str → Option Value} {base : Heap} {f : Addr} {fd : FuncData} (F : Df K mg "_law_pick" s__law_pick f fd ["d", "row"]) (T : Txt mg)
    (c__law_draw : Cl P w K mg base 1 "_law_draw" (sp__law_draw K)) : FnOk P w K mg base CX0 2 f fd ["d", "row"] (sp__law_pick K) := by
  refine F.ok sc__law_pick (fun vs H Q E h => ?_) (fun cdv A outer s H vs Q E hr h => ?_)
  · obtain ⟨p, a, b, xs, rfl, _⟩ := h
    rfl
  · obtain ⟨p, a, b, xs, rfl, hd, hb, hl0, hl1, k⟩ := h
    refine ⟨_, (pss_one (ps_ret (pe_ix (r := rIx K) ix_seq (pv 1) (pe_cl c__law_draw hr (by decide) rfl (pa_cons (pv 0) (pa_cons (pe_callB (id := "len") (r := qLen K) c_len (by rfl) T.b_len (by decide +kernel) (pa_cons (pv 1) pa_nil)) pa_nil))) (fun _ _ => rfl)))), ?_⟩
    try dsimp only [cxOf, Cx.nox, Cx.wish]
    refine st_of (σ' := [some _, some _]) rfl ?_
    rcases hb with ⟨nb, hb⟩ | hb
    all_goals
      wtm_at "jw"
      refine ⟨p, a, _, rfl, hd, by omega, by omega, fun r H' hr0 hr1 w => ?_⟩
      obtain ⟨v, e, hv, _⟩ := at_lt hr0 hr1
    · have hb' := w.kp.seq hb nb
      wtm_at "jw"
      exact k _ _ hv w
    · have hb' := (w.tps hd).sq hb
      wtm_at "jw"
      exact k _ _ hv w

def sp__law_is_int (K : PySem.W.Frag) : Sp := fun vs H Q _ => ∃ (i : Int), vs = [.int i] ∧ Q (.bl true) H
theorem ok__law_is_int {P : Program} {w : World} {K : PySem.W.Frag} {mg : Str → Option Value} {base : Heap} {f : Addr} {fd : FuncData} (F : Df K mg "_law_is_int" s__law_is_int f fd ["thing"]) (T : Txt mg) : FnOk P w K mg base CX0 1 f fd ["thing"] (sp__law_is_int K) := by
  refine F.ok sc__law_is_int (fun vs H Q E h => ?_) (fun cdv A outer s H vs Q E hr h => ?_)
  · obtain ⟨i, rfl, _⟩ := h
    rfl
  · obtain ⟨i, rfl, k⟩ := h
    refine ⟨_, (pss_one (ps_ret (pe_and (pe_callB (id := "isinstance") (r := rIsi K) call_isi (by rfl) T.b_isinstance (by decide +kernel) (pa_cons (pv 0) (pa_cons (pe_bltn (v := .ty "int") (u := Value.type "int") (by rfl) T.b_int (by decide +kernel) rfl) pa_nil))) (pe_one (pe_not (pe_callB (id := "isinstance") (r := rIsi K) call_isi (by rfl) T.b_isinstance (by decide +kernel) (pa_cons (pv 0) (pa_cons (pe_bltn (v := .ty "bool") (u := Value.type "bool") (by rfl) T.b_bool (by decide +kernel) rfl) pa_nil)))))))), ?_⟩
    try dsimp only [cxOf, Cx.nox, Cx.wish]
    refine st_of (σ' := [some _]) rfl ?_
    wtm_at "jw"
    refine i_isi (.base (.int i)) rfl ?_
    wtm_at "jw"
    refine i_isi (.base (.int i)) rfl ?_
    wtm_at "jw"
    exact k

/-! ### pairs of ints, tuples of them -/
/-- the pairs of rows stand at rs -/
def Prw (H : Hp) (rs : List Addr) (rows : List (Int × Int)) : Prop := rs.length = rows.length ∧ ∀ (i : Nat) (r : Addr) (p : Int × Int), rs[i]? = some r → rows[i]? = some p → H r = some (.tup [.int p.1, .int p.2])
/-- a tuple of pairs -/
def Prs (H : Hp) (a : Addr) (rows : List (Int × Int)) : Prop := ∃ rs : List Addr, H a = some (.tup (rs.map V.ref)) ∧ Prw H rs rows
/-- a list of pairs -/
def LPr (H : Hp) (a : Addr) (rows : List (Int × Int)) : Prop := ∃ rs : List Addr, H a = some (.lst (rs.map V.ref)) ∧ Prw H rs rows
theorem Prw.nil {H : Hp} : Prw H [] [] := ⟨rfl, fun i r p h => by simp at h⟩
theorem Prw.tps {H H' : Hp} {rs : List Addr} {rows : List (Int × Int)} (w : Prw H rs rows) (t : Tps H H') : Prw H' rs rows := ⟨w.1, fun i r p h1 h2 => (t r).1 _ (w.2 i r p h1 h2)⟩
theorem Prw.same {H H' : Hp} {rs : List Addr} {rows : List (Int × Int)} (w : Prw H rs rows) (s : Same H H') : Prw H' rs rows := w.tps (Tps.of s)
theorem Prw.snoc {H : Hp} {rs : List Addr} {rows : List (Int × Int)} {q : Addr} {x y : Int} (w : Prw H rs rows) (h : H q = some (.tup [.int x, .int y])) : Prw H (rs ++ [q]) (rows ++ [(x, y)]) := by
  refine ⟨by simp [w.1], fun i r p h1 h2 => ?_⟩
  have hl := w.1
  by_cases hi : i < rs.length
  · rw [List.getElem?_append_left hi] at h1
    rw [List.getElem?_append_left (by omega)] at h2
    exact w.2 i r p h1 h2
  · rw [List.getElem?_append_right (by omega)] at h1
    rw [List.getElem?_append_right (by omega)] at h2
    rw [hl] at h1
    cases e : i - rows.length with
    | zero =>
      rw [e] at h1 h2
      cases h1
      cases h2
      exact h
    | succ n =>
      rw [e] at h1
      cases h1
theorem Prs.tps {H H' : Hp} {a : Addr} {rows : List (Int × Int)} (h : Prs H a rows) (t : Tps H H') : Prs H' a rows := by
  obtain ⟨rs, ha, w⟩ := h
  exact ⟨rs, (t a).1 _ ha, w.tps t⟩
theorem Prs.same {H H' : Hp} {a : Addr} {rows : List (Int × Int)} (h : Prs H a rows) (s : Same H H') : Prs H' a rows := h.tps (Tps.of s)
theorem LPr.same {H H' : Hp} {a : Addr} {rows : List (Int × Int)} (h : LPr H a rows) (s : Same H H') : LPr H' a rows := by
  obtain ⟨rs, ha, w⟩ := h
  exact ⟨rs, s _ _ ha, w.same s⟩
theorem LPr.kp {H H' : Hp} {p a : Addr} {xs : List V} {rows : List (Int × Int)} (h : LPr H a rows) (k : Kp p H H') (hp : H p = some (.lst xs)) (n : a ≠ p) : LPr H' a rows := by
  obtain ⟨rs, ha, w⟩ := h
  exact ⟨rs, k _ _ ha n, w.tps (k.tps hp)⟩
theorem Prw.put {H : Hp} {D : Addr} {rs : List Addr} {xs ys : List V} {rows : List (Int × Int)} (w : Prw H rs rows) (h : H D = some (.lst xs)) : Prw (upd H D (.lst ys)) rs rows := by
  refine ⟨w.1, fun i r p h1 h2 => ?_⟩
  have hr := w.2 i r p h1 h2
  rw [upd_ne (ne_of hr h (by intro z; cases z))]
  exact hr
/-- a new pair behind the others -/
theorem LPr.add {H : Hp} {D q : Addr} {rs : List Addr} {rows : List (Int × Int)} {x y : Int} (h : H D = some (.lst (rs.map V.ref))) (w : Prw H rs rows) (hq : H q = none) :
    LPr (upd (upd H q (.tup [.int x, .int y])) D (.lst (rs.map V.ref ++ [.ref q]))) D (rows ++ [(x, y)]) := by
  have hD : upd H q (.tup [.int x, .int y]) D = some (.lst (rs.map V.ref)) := by rw [upd_ne (ne_of_none h hq)]; exact h
  refine ⟨rs ++ [q], by rw [upd_same, List.map_append]; rfl, Prw.put (xs := rs.map V.ref) ((w.same (same_new hq)).snoc upd_same) hD⟩
/-- a pair that stands already -/
theorem LPr.add' {H : Hp} {D q : Addr} {rs : List Addr} {rows : List (Int × Int)} {x y : Int} (h : H D = some (.lst (rs.map V.ref))) (w : Prw H rs rows) (hq : H q = some (.tup [.int x, .int y])) :
    LPr (upd H D (.lst (rs.map V.ref ++ [.ref q]))) D (rows ++ [(x, y)]) :=
  ⟨rs ++ [q], by rw [upd_same, List.map_append]; rfl, (w.snoc hq).put h⟩
theorem Prw.at {H : Hp} {rs : List Addr} {rows : List (Int × Int)} {i : Nat} {v : V} (w : Prw H rs rows) (h : (rs.map V.ref)[i]? = some v) : ∃ r p, v = .ref r ∧ rs[i]? = some r ∧ rows[i]? = some p ∧ H r = some (.tup [.int p.1, .int p.2]) ∧ rows.take (i + 1) = rows.take i ++ [p] ∧ i < rows.length := by
  rw [List.getElem?_map] at h
  cases e : rs[i]? with
  | none => rw [e] at h; cases h
  | some r =>
    rw [e] at h
    have hi := (List.getElem?_eq_some_iff.mp e).1
    have hl := w.1
    have e2 : rows[i]? = some (rows[i]'(by omega)) := List.getElem?_eq_getElem (by omega)
    exact ⟨r, _, (Option.some.inj h).symm, rfl, e2, w.2 i r _ e e2, by rw [List.take_add_one, e2]; rfl, by omega⟩
def prD (p : Int × Int) : PyData := .tuple [.int p.1, .int p.2]
theorem dp_prs {K : PySem.W.Frag} {H : Hp} {a : Addr} {rows : List (Int × Int)} (h : Prs H a rows) : Dp K H (.ref a) (.tuple (rows.map prD)) := by
  obtain ⟨rs, ha, w⟩ := h
  refine .tup (SqT.of ha) (dpAll_of (by simp [w.1]) fun i x d h1 h2 => ?_)
  obtain ⟨r, p, rfl, e1, e2, hr, _⟩ := w.at h1
  rw [List.getElem?_map, e2] at h2
  cases h2
  exact dp_ints (ns := [p.1, p.2]) (SqT.of hr)
theorem shp_prs (rows : List (Int × Int)) : Shp 2 (.tuple (rows.map prD)) :=
  Shp.tup fun d hd => by
    obtain ⟨p, _, rfl⟩ := List.mem_map.mp hd
    exact Shp.tup fun e he => by
      rcases List.mem_cons.mp he with rfl | he
      · exact (Shp.int _)
      · rcases List.mem_cons.mp he with rfl | he
        · exact (Shp.int _)
        · cases he
theorem shp_ints (ns : List Int) : Shp 1 (.tuple (ns.map PyData.int)) :=
  Shp.tup fun d hd => by
    obtain ⟨p, _, rfl⟩ := List.mem_map.mp hd
    exact Shp.int _
theorem put_same {H H' : Hp} {D : Addr} {o : HO} (s : Same H H') (h : H D = none) : Same H (upd H' D o) := fun b u hb => by
  rw [upd_ne (ne_of_none hb h)]
  exact s _ _ hb
theorem tps_put {H : Hp} {D : Addr} {xs ys : List V} (h : H D = some (.lst xs)) : Tps H (upd H D (.lst ys)) := (Kp.upd (p := D)).tps h

/-! ### dicts with int keys -/
section
variable {K : PySem.W.Frag} {σ : L2.St} {H : Hp} {Q : VK}
theorem i_dget {td ty : TE} (h : td σ H fun x H1 => ty σ H1 fun y H2 => ∃ a v, x = .ref a ∧ DGet H2 a y (some v) ∧ Q v H2) : tDGet td ty σ H Q := h
theorem i_dgetI {p : Addr} {i : Int} {v : V} {kvs : List (L2.Key × V)} {R : V → Prop} (h : Rd H p (.dK kvs)) (e : valV kvs (.inl i) = some v) (q : R v) : ∃ a v', V.ref p = .ref a ∧ DGet H a (.int i) (some v') ∧ R v' :=
  ⟨p, v, rfl, .inl ⟨kvs, .inl i, h, rfl, e.symm⟩, q⟩
theorem i_din {td ty : TE} (h : ty σ H fun y H1 => td σ H1 fun x H2 => ∃ a o, x = .ref a ∧ DGet H2 a y o ∧ Q (.bl o.isSome) H2) : tDIn ty td σ H Q := h
theorem i_dinI {p : Addr} {i : Int} {kvs : List (L2.Key × V)} {R : Option V → Prop} (h : Rd H p (.dK kvs)) (q : R (valV kvs (.inl i))) : ∃ a o, V.ref p = .ref a ∧ DGet H a (.int i) o ∧ R o :=
  ⟨p, _, rfl, .inl ⟨kvs, .inl i, h, rfl, rfl⟩, q⟩
theorem i_dput {td ty tv : TE} {nx : L2.St → Hp → Prop} {rt : VK} {bk ct : L2.St → Hp → Prop} (h : tv σ H fun v H1 => td σ H1 fun x H2 => ty σ H2 fun y H3 => ∃ a H4, x = .ref a ∧ DPut H3 a y v H4 ∧ nx σ H4) : sDPut td ty tv ⟨nx, rt, bk, ct⟩ σ H := h
theorem i_dputI {p : Addr} {i : Int} {v : V} {kvs : List (L2.Key × V)} {R : Hp → Prop} (h : H p = some (.dK kvs)) (hl : kvs.length ≤ 10000) (q : R (upd H p (.dK (putK kvs (.inl i) v)))) : ∃ a H4, V.ref p = .ref a ∧ DPut H a (.int i) v H4 ∧ R H4 :=
  ⟨p, _, rfl, .inl ⟨kvs, .inl i, h, rfl, by rw [sizeLine_eq]; omega, rfl⟩, q⟩
theorem i_dnew (q : ∀ p, H p = none → Q (.ref p) (upd H p (.dK []))) : tDNewK σ H Q := q
def rSortDI : List V → Hp → VK → Prop := fun xs H Q => ∃ (a : Addr) (kvs : List (L2.Key × V)) (ks : List Int), xs = [.ref a] ∧ Rd H a (.dK kvs) ∧ kvs.map (·.1) = ks.map Sum.inl ∧ ks.length < 64 ∧ ∀ (ys : List Int) (p : Addr), ys.Perm ks → ys.Pairwise (· ≤ ·) → H p = none → Q (.ref p) (upd H p (.lst (ys.map V.int)))
theorem c_sortDI {X : Cx} (hc : X.calm = true) : CallR X (.builtin "sorted") rSortDI := call_sortedDI hc
end
/-- the dict's entries are the map m of ints -/
def DI (kvs : List (L2.Key × V)) (m : Int → Option Int) : Prop := (∀ i : Int, valV kvs (.inl i) = (m i).map V.int) ∧ ∃ ks : List Int, kvs.map (·.1) = ks.map Sum.inl ∧ ks.Nodup
theorem DI.nil : DI [] fun _ => none := ⟨fun _ => rfl, [], rfl, List.nodup_nil⟩
theorem putK_keys {kvs : List (L2.Key × V)} {k : L2.Key} {v : V} : (putK kvs k v).map (·.1) = if (valV kvs k).isSome = true then kvs.map (·.1) else kvs.map (·.1) ++ [k] := by
  unfold putK
  rw [valV_any]
  by_cases h : (valV kvs k).isSome = true
  · rw [if_pos h, if_pos h, List.map_map]
    refine List.map_congr_left fun p _ => ?_
    show (if p.1 = k then (p.1, v) else p).1 = p.1
    split <;> rfl
  · rw [if_neg h, if_neg h, List.map_append]
    rfl
theorem DI.put {kvs : List (L2.Key × V)} {m : Int → Option Int} {i v : Int} (d : DI kvs m) : DI (putK kvs (.inl i) (.int v)) (fun j => if j = i then some v else m j) := by
  obtain ⟨h, ks, hk, hn⟩ := d
  refine ⟨fun j => ?_, ?_⟩
  · rw [valV_put]
    show _ = Option.map V.int (if j = i then some v else m j)
    by_cases e : j = i
    · subst e
      rw [if_pos rfl, if_pos rfl]
      rfl
    · rw [if_neg (by intro z; exact e (Sum.inl.inj z)), if_neg e]
      exact h j
  · rw [putK_keys]
    by_cases e : (valV kvs (.inl i)).isSome = true
    · rw [if_pos e]
      exact ⟨ks, hk, hn⟩
    · rw [if_neg e, hk]
      refine ⟨ks ++ [i], by rw [List.map_append]; rfl, ?_⟩
      have hni : ¬ i ∈ ks := fun hi => by
        have e1 : valV kvs (.inl i) = none := by
          cases q : valV kvs (.inl i) with
          | none => rfl
          | some z => rw [q] at e; exact absurd rfl e
        refine valV_not e1 ?_
        rw [hk]
        exact List.mem_map.mpr ⟨i, hi, rfl⟩
      exact nd_snoc hn hni
theorem DI.mem {kvs : List (L2.Key × V)} {m : Int → Option Int} {ks : List Int} (d : DI kvs m) (hk : kvs.map (·.1) = ks.map Sum.inl) (i : Int) : i ∈ ks ↔ (m i).isSome = true := by
  have h := d.1 i
  constructor
  · intro hi
    cases e : m i with
    | some z => rfl
    | none =>
      rw [e] at h
      refine absurd ?_ (valV_not h)
      rw [hk]
      exact List.mem_map.mpr ⟨i, hi, rfl⟩
  · intro hi
    obtain ⟨z, hz⟩ := Option.isSome_iff_exists.mp hi
    rw [hz] at h
    have := valV_in h
    rw [hk] at this
    obtain ⟨j, hj, e⟩ := List.mem_map.mp this
    exact Sum.inl.inj e ▸ hj
/-- distinct ints of 0 .. n - 1 are at most n -/
theorem nodup_len : ∀ (n : Nat) (l : List Int), l.Nodup → (∀ x ∈ l, 0 ≤ x ∧ x < n) → l.length ≤ n
  | 0, l, _, h => by
    cases l with
    | nil => exact Nat.le_refl _
    | cons x r => have := h x List.mem_cons_self; omega
  | n + 1, l, hn, h => by
    by_cases hm : (n : Int) ∈ l
    · have e := List.length_erase_of_mem hm
      have := nodup_len n (l.erase (n : Int)) (hn.erase _) fun x hx => by
        have h1 := (List.Nodup.mem_erase_iff hn).mp hx
        have h2 := h x h1.2
        have : x ≠ (n : Int) := h1.1
        omega
      omega
    · have := nodup_len n l hn fun x hx => by
        have h2 := h x hx
        have : x ≠ (n : Int) := fun e => hm (e ▸ hx)
        omega
      omega
theorem DI.len {kvs : List (L2.Key × V)} {m : Int → Option Int} {n : Nat} (d : DI kvs m) (h : ∀ i, (m i).isSome = true → 0 ≤ i ∧ i < n) : kvs.length ≤ n := by
  obtain ⟨ks, hk, hn⟩ := d.2
  have e : kvs.length = ks.length := by
    have := congrArg List.length hk
    rw [List.length_map, List.length_map] at this
    exact this
  rw [e]
  exact nodup_len n ks hn fun x hx => h x ((d.mem hk x).mp hx)
/-- ints in order, all of them distinct -/
theorem lt_of_le_nodup : ∀ {l : List Int}, l.Pairwise (· ≤ ·) → l.Nodup → l.Pairwise (· < ·)
  | [], _, _ => .nil
  | a :: r, h, n => by
    rw [List.pairwise_cons] at h
    rw [List.nodup_cons] at n
    refine List.pairwise_cons.mpr ⟨fun x hx => ?_, lt_of_le_nodup h.2 n.2⟩
    have h1 := h.1 x hx
    have h2 : x ≠ a := fun e => n.1 (e ▸ hx)
    omega
theorem sorted_ext : ∀ {l1 l2 : List Int}, l1.Pairwise (· < ·) → l2.Pairwise (· < ·) → (∀ x, x ∈ l1 ↔ x ∈ l2) → l1 = l2
  | [], [], _, _, _ => rfl
  | [], b :: r, _, _, h => by have := (h b).mpr List.mem_cons_self; cases this
  | a :: r, [], _, _, h => by have := (h a).mp List.mem_cons_self; cases this
  | a :: r, b :: t, h1, h2, h => by
    rw [List.pairwise_cons] at h1 h2
    have ha := (h a).mp List.mem_cons_self
    have hb := (h b).mpr List.mem_cons_self
    have e : a = b := by
      rcases List.mem_cons.mp ha with e | ha
      · exact e
      · rcases List.mem_cons.mp hb with e | hb
        · exact e.symm
        · have := h2.1 a ha
          have := h1.1 b hb
          omega
    subst e
    rw [sorted_ext h1.2 h2.2 fun x => ⟨fun hx => ?_, fun hx => ?_⟩]
    · rcases List.mem_cons.mp ((h x).mp (List.mem_cons_of_mem _ hx)) with e | q
      · have := h1.1 x hx
        omega
      · exact q
    · rcases List.mem_cons.mp ((h x).mpr (List.mem_cons_of_mem _ hx)) with e | q
      · have := h2.1 x hx
        omega
      · exact q
theorem putK_le {kvs : List (L2.Key × V)} {k : L2.Key} {v : V} : (putK kvs k v).length ≤ kvs.length + 1 := by
  have h := congrArg List.length (putK_keys (kvs := kvs) (k := k) (v := v))
  rw [List.length_map] at h
  rw [h]
  split
  · rw [List.length_map]; omega
  · rw [List.length_append, List.length_map]; simp

/-! ### immutable data: None, bools, ints, texts, tuples of them -/
mutual
inductive TD (K : PySem.W.Frag) (H : Hp) : V → PyData → Prop
  | non : TD K H .non .none
  | bl (b : Bool) : TD K H (.bl b) (.bool b)
  | int (i : Int) : TD K H (.int i) (.int i)
  | str (x : Str) : TD K H (.str x) (.str x)
  | tup {a : Addr} {xs : List V} {ds : List PyData} : SqT K H a xs → TDs K H xs ds → TD K H (.ref a) (.tuple ds)
inductive TDs (K : PySem.W.Frag) (H : Hp) : List V → List PyData → Prop
  | nil : TDs K H [] []
  | cons {v : V} {vs : List V} {d : PyData} {ds : List PyData} : TD K H v d → TDs K H vs ds → TDs K H (v :: vs) (d :: ds)
end
def oD : Option Int → PyData
  | none => .none
  | some z => .int z
def ovO : Option Int → V
  | none => .non
  | some z => .int z
def pD (p : Int × Int) : PyData := .tuple [.int p.1, .int p.2]
section
variable {K : PySem.W.Frag} {H H' : Hp}
theorem TD.tps (t : Tps H H') {v : V} {d : PyData} (h : TD K H v d) : TD K H' v d :=
  TD.rec (motive_1 := fun v d _ => TD K H' v d) (motive_2 := fun vs ds _ => TDs K H' vs ds) .non (fun b => .bl b) (fun i => .int i) (fun x => .str x) (fun h _ q => .tup (t.sq h) q) .nil (fun _ _ h1 h2 => .cons h1 h2) h
theorem TDs.tps (t : Tps H H') {vs : List V} {ds : List PyData} (h : TDs K H vs ds) : TDs K H' vs ds :=
  TDs.rec (motive_1 := fun v d _ => TD K H' v d) (motive_2 := fun vs ds _ => TDs K H' vs ds) .non (fun b => .bl b) (fun i => .int i) (fun x => .str x) (fun h _ q => .tup (t.sq h) q) .nil (fun _ _ h1 h2 => .cons h1 h2) h
theorem TD.dp {v : V} {d : PyData} (h : TD K H v d) : Dp K H v d :=
  TD.rec (motive_1 := fun v d _ => Dp K H v d) (motive_2 := fun vs ds _ => DpAll K H vs ds) .non (fun b => .bl b) (fun i => .int i) (fun x => .str x) (fun h _ q => .tup h q) .nil (fun _ _ h1 h2 => .cons h1 h2) h
theorem TDs.dp {vs : List V} {ds : List PyData} (h : TDs K H vs ds) : DpAll K H vs ds :=
  TDs.rec (motive_1 := fun v d _ => Dp K H v d) (motive_2 := fun vs ds _ => DpAll K H vs ds) .non (fun b => .bl b) (fun i => .int i) (fun x => .str x) (fun h _ q => .tup h q) .nil (fun _ _ h1 h2 => .cons h1 h2) h
theorem TD.same (s : Same H H') {v : V} {d : PyData} (h : TD K H v d) : TD K H' v d := h.tps (Tps.of s)
theorem TDs.same (s : Same H H') {vs : List V} {ds : List PyData} (h : TDs K H vs ds) : TDs K H' vs ds := h.tps (Tps.of s)
theorem TDs.len : ∀ {vs : List V} {ds : List PyData}, TDs K H vs ds → vs.length = ds.length
  | [], _, .nil => rfl
  | v :: vs, _, .cons h t => by rw [List.length_cons, List.length_cons, TDs.len t]
theorem TDs.get : ∀ {vs : List V} {ds : List PyData} {i : Nat} {d : PyData}, TDs K H vs ds → ds[i]? = some d → ∃ v, vs[i]? = some v ∧ TD K H v d
  | _, _, _, _, .nil, e => by simp at e
  | _, _, 0, _, .cons (v := v) h t, e => by
    cases e
    exact ⟨v, rfl, h⟩
  | _, _, i + 1, _, .cons h t, e => by
    obtain ⟨v, e2, q⟩ := TDs.get (i := i) t (by simpa using e)
    exact ⟨v, by simpa using e2, q⟩
theorem TDs.at {vs : List V} {ds : List PyData} {i : Nat} {v : V} (h : TDs K H vs ds) (e : vs[i]? = some v) : ∃ d, ds[i]? = some d ∧ TD K H v d ∧ ds.take (i + 1) = ds.take i ++ [d] ∧ i < ds.length := by
  have hi := (List.getElem?_eq_some_iff.mp e).1
  have hl := h.len
  have e2 : ds[i]? = some (ds[i]'(by omega)) := List.getElem?_eq_getElem (by omega)
  obtain ⟨v', e3, q⟩ := h.get e2
  rw [e] at e3
  cases e3
  exact ⟨_, e2, q, by rw [List.take_add_one, e2]; rfl, by omega⟩
theorem TDs.mem {vs : List V} {ds : List PyData} {v : V} (h : TDs K H vs ds) (hv : v ∈ vs) : ∃ d, d ∈ ds ∧ TD K H v d := by
  obtain ⟨i, hi⟩ := List.getElem?_of_mem hv
  obtain ⟨d, e, q, _⟩ := h.at hi
  exact ⟨d, List.mem_of_getElem? e, q⟩
theorem TDs.of : ∀ {vs : List V} {ds : List PyData}, vs.length = ds.length → (∀ (i : Nat) v d, vs[i]? = some v → ds[i]? = some d → TD K H v d) → TDs K H vs ds
  | [], [], _, _ => .nil
  | v :: vs, d :: ds, hl, h => .cons (h 0 v d rfl rfl) (TDs.of (by simpa using hl) fun i y e h1 h2 => h (i + 1) y e (by simpa using h1) (by simpa using h2))
theorem TDs.app : ∀ {vs us : List V} {ds es : List PyData}, TDs K H vs ds → TDs K H us es → TDs K H (vs ++ us) (ds ++ es)
  | _, _, _, _, .nil, h => h
  | _, _, _, _, .cons h t, q => .cons h (TDs.app t q)
theorem TDs.snoc {vs : List V} {ds : List PyData} {v : V} {d : PyData} (h : TDs K H vs ds) (q : TD K H v d) : TDs K H (vs ++ [v]) (ds ++ [d]) := h.app (.cons q .nil)
theorem TDs.map {α : Type} {f : α → V} {g : α → PyData} : ∀ {l : List α}, (∀ x ∈ l, TD K H (f x) (g x)) → TDs K H (l.map f) (l.map g)
  | [], _ => .nil
  | x :: r, h => .cons (h x List.mem_cons_self) (TDs.map fun y hy => h y (List.mem_cons_of_mem _ hy))
theorem TDs.ints (ns : List Int) : TDs K H (ns.map V.int) (ns.map PyData.int) := TDs.map fun x _ => .int x
theorem TD.ovO (o : Option Int) : TD K H (ovO o) (oD o) := by cases o <;> constructor
theorem TDs.ovs (os : List (Option Int)) : TDs K H (os.map Law.ovO) (os.map oD) := TDs.map fun x _ => TD.ovO x
theorem TD.tup_inv {v : V} {ds : List PyData} (h : TD K H v (.tuple ds)) : ∃ a xs, v = .ref a ∧ SqT K H a xs ∧ TDs K H xs ds := by
  cases h with
  | tup a b => exact ⟨_, _, rfl, a, b⟩
theorem TD.int_inv {v : V} {i : Int} (h : TD K H v (.int i)) : v = .int i := by cases h; rfl
theorem TD.non_inv {v : V} (h : TD K H v .none) : v = .non := by cases h; rfl
theorem TD.str_inv {v : V} {i : Str} (h : TD K H v (.str i)) : v = .str i := by cases h; rfl
theorem TD.bl_inv {v : V} {i : Bool} (h : TD K H v (.bool i)) : v = .bl i := by cases h; rfl
theorem TD.ov_inv {v : V} {o : Option Int} (h : TD K H v (oD o)) : v = Law.ovO o := by
  cases o with
  | none => exact h.non_inv
  | some z => exact h.int_inv
theorem TDs.ints_inv : ∀ {ns : List Int} {vs : List V}, TDs K H vs (ns.map PyData.int) → vs = ns.map V.int
  | [], _, h => by cases h; rfl
  | n :: ns, _, h => by
    cases h with
    | cons a b => rw [a.int_inv, TDs.ints_inv b]; rfl
theorem TDs.ovs_inv : ∀ {os : List (Option Int)} {vs : List V}, TDs K H vs (os.map oD) → vs = os.map Law.ovO
  | [], _, h => by cases h; rfl
  | n :: ns, _, h => by
    cases h with
    | cons a b => rw [a.ov_inv, TDs.ovs_inv b]; rfl
theorem TD.pair_inv {v : V} {p : Int × Int} (h : TD K H v (pD p)) : ∃ a, v = .ref a ∧ SqT K H a [.int p.1, .int p.2] := by
  obtain ⟨a, xs, e, s, q⟩ := h.tup_inv
  rw [TDs.ints_inv (ns := [p.1, p.2]) q] at s
  exact ⟨a, e, s⟩
theorem TD.of {a : Addr} {xs : List V} {ds : List PyData} (h : H a = some (.tup xs)) (q : TDs K H xs ds) : TD K H (.ref a) (.tuple ds) := .tup (SqT.of h) q
/-- a new tuple of data -/
theorem TD.new {a : Addr} {xs : List V} {ds : List PyData} (h : H a = none) (q : TDs K H xs ds) : TD K (upd H a (.tup xs)) (.ref a) (.tuple ds) := .of upd_same (q.same (same_new h))
/-- a list of data -/
def LD (K : PySem.W.Frag) (H : Hp) (a : Addr) (ds : List PyData) : Prop := ∃ vs, H a = some (.lst vs) ∧ TDs K H vs ds
theorem LD.same (s : Same H H') {a : Addr} {ds : List PyData} (h : LD K H a ds) : LD K H' a ds := by
  obtain ⟨vs, e, q⟩ := h
  exact ⟨vs, s _ _ e, q.same s⟩
theorem LD.kp {p a : Addr} {xs : List V} {ds : List PyData} (h : LD K H a ds) (k : Kp p H H') (hp : H p = some (.lst xs)) (n : a ≠ p) : LD K H' a ds := by
  obtain ⟨vs, e, q⟩ := h
  exact ⟨vs, k _ _ e n, q.tps (k.tps hp)⟩
theorem LD.put {a : Addr} {xs vs : List V} {ds : List PyData} (h : H a = some (.lst xs)) (q : TDs K H vs ds) : LD K (upd H a (.lst vs)) a ds := ⟨vs, upd_same, q.tps (tps_put h)⟩
theorem LD.new {a : Addr} {vs : List V} {ds : List PyData} (h : H a = none) (q : TDs K H vs ds) : LD K (upd H a (.lst vs)) a ds := ⟨vs, upd_same, q.same (same_new h)⟩
theorem LD.snoc {a : Addr} {vs : List V} {v : V} {d : PyData} {ds : List PyData} (h : H a = some (.lst vs)) (q : TDs K H vs ds) (x : TD K H v d) : LD K (upd H a (.lst (vs ++ [v]))) a (ds ++ [d]) := .put h (q.snoc x)
variable {σ : L2.St} {Q : VK}
theorem i_tyLD {p : Addr} {ds : List PyData} {R : Prop} (s : LD K H p ds) (q : R) : tyV K "list" (.ref p) H ∧ R := by
  obtain ⟨vs, e, _⟩ := s
  exact i_tyL (SqL.of e) q
theorem i_lenLD {p : Addr} {ds : List PyData} (s : LD K H p ds) (q : Q (.int ds.length) H) : qLen K [.ref p] H Q := by
  obtain ⟨vs, e, t⟩ := s
  rw [← t.len] at q
  exact i_lenL (SqL.of e) q
theorem i_ixD {p : V} {ds : List PyData} {i : Int} {d : PyData} (h : TD K H p (.tuple ds)) (h0 : 0 ≤ i) (e : ds[i.toNat]? = some d) (q : ∀ y, TD K H y d → Q y H) : rIxT K p (.int i) H Q := by
  obtain ⟨a, xs, rfl, s, t⟩ := h.tup_inv
  obtain ⟨y, ey, hy⟩ := t.get e
  refine ⟨a, xs, i, y, rfl, rfl, s, ?_, q y hy⟩
  have := atI_nat (xs := xs) (j := i.toNat) (v := y) ey
  rw [Int.toNat_of_nonneg h0] at this
  exact this
theorem i_ixDI {p : V} {ds : List PyData} {i j : Int} (h : TD K H p (.tuple ds)) (h0 : 0 ≤ i) (e : ds[i.toNat]? = some (.int j)) (q : Q (.int j) H) : rIxT K p (.int i) H Q :=
  i_ixD h h0 e fun y hy => by rw [hy.int_inv]; exact q
theorem i_ixDO {p : V} {ds : List PyData} {i : Int} {o : Option Int} (h : TD K H p (.tuple ds)) (h0 : 0 ≤ i) (e : ds[i.toNat]? = some (oD o)) (q : Q (ovO o) H) : rIxT K p (.int i) H Q :=
  i_ixD h h0 e fun y hy => by rw [hy.ov_inv]; exact q
theorem i_ixDS {p : V} {ds : List PyData} {i : Int} {j : Str} (h : TD K H p (.tuple ds)) (h0 : 0 ≤ i) (e : ds[i.toNat]? = some (.str j)) (q : Q (.str j) H) : rIxT K p (.int i) H Q :=
  i_ixD h h0 e fun y hy => by rw [hy.str_inv]; exact q
theorem i_lenDt {p : V} {ds : List PyData} (h : TD K H p (.tuple ds)) (q : Q (.int ds.length) H) : qLen K [p] H Q := by
  obtain ⟨a, xs, rfl, s, t⟩ := h.tup_inv
  rw [← t.len] at q
  exact i_lenT s q
theorem i_gTupD {n : Nat} {t : TGs} {v : V} {ds : List PyData} {R : L2.St → Hp → Prop} (h : TD K H v (.tuple ds)) (e : ds.length = n) (q : ∀ xs, TDs K H xs ds → t xs σ H R) : gTup K n t v σ H R := by
  obtain ⟨a, xs, rfl, s, u⟩ := h.tup_inv
  exact i_gTup s (by rw [u.len, e]) (q xs u)
theorem i_gPair {n : Nat} {t : TGs} {v : V} {p : Int × Int} {R : L2.St → Hp → Prop} (h : TD K H v (pD p)) (e : 2 = n) (q : t [.int p.1, .int p.2] σ H R) : gTup K n t v σ H R := by
  obtain ⟨a, rfl, s⟩ := h.pair_inv
  exact i_gTup s e q
theorem i_isTD {v : V} {ds : List PyData} {R : Addr → Prop} (h : TD K H v (.tuple ds)) (q : ∀ a xs, v = .ref a → SqT K H a xs → TDs K H xs ds → R a) : ∃ a', v = .ref a' ∧ (∃ xs, SqT K H a' xs) ∧ R a' := by
  obtain ⟨a, xs, e, s, t⟩ := h.tup_inv
  exact ⟨a, e, ⟨xs, s⟩, q a xs e s t⟩
theorem i_lstTD {v : V} {ds : List PyData} (h : TD K H v (.tuple ds)) (q : ∀ xs l, TDs K H xs ds → H l = none → Q (.ref l) (upd H l (.lst xs))) : rLstOf K [v] H Q := by
  obtain ⟨a, xs, rfl, s, t⟩ := h.tup_inv
  exact i_lstT s fun l hl => q xs l t hl
theorem i_tupTD {v : V} {ds : List PyData} (h : TD K H v (.tuple ds)) (q : Q v H) : rTupOf K [v] H Q := by
  obtain ⟨a, xs, rfl, s, t⟩ := h.tup_inv
  exact i_tupT s q
theorem TDs.pair_at {vs : List V} {ps : List (Int × Int)} {i : Nat} {v : V} (h : TDs K H vs (ps.map pD)) (e : vs[i]? = some v) : ∃ p, ps[i]? = some p ∧ TD K H v (pD p) ∧ ps.take (i + 1) = ps.take i ++ [p] ∧ i < ps.length := by
  obtain ⟨d, e1, t, _, hl⟩ := h.at e
  rw [List.getElem?_map] at e1
  cases e2 : ps[i]? with
  | none => rw [e2] at e1; cases e1
  | some p =>
    rw [e2] at e1
    cases e1
    exact ⟨p, rfl, t, by rw [List.take_add_one, e2]; rfl, (List.getElem?_eq_some_iff.mp e2).1⟩
theorem i_eqNI {j : Int} (q : Q (.bl false) H) : rEq .non (.int j) H Q := ⟨rfl, by
  have e : decide (V.non = V.int j) = false := by simp
  rw [e]; exact q⟩
/-! shapes -/
theorem Shp.str {x : Str} (h : PyData.canLay0 (.str x) = true) : Shp 0 (.str x) := ⟨h, by simp [PyData.depth]⟩
theorem Shp.oD (o : Option Int) : Shp 0 (oD o) := by
  cases o with
  | none => exact Shp.non
  | some z => exact Shp.int z
theorem Shp.ovs (os : List (Option Int)) : Shp 1 (.tuple (os.map Law.oD)) := Shp.tup fun d hd => by
  obtain ⟨x, _, rfl⟩ := List.mem_map.mp hd
  exact Shp.oD x
theorem Shp.pD (p : Int × Int) : Shp 1 (pD p) := Shp.tup fun d hd => by
  rcases List.mem_cons.mp hd with rfl | hd
  · exact Shp.int _
  · rcases List.mem_cons.mp hd with rfl | hd
    · exact Shp.int _
    · cases hd
theorem Shp.prs (ps : List (Int × Int)) : Shp 2 (.tuple (ps.map Law.pD)) := Shp.tup fun d hd => by
  obtain ⟨x, _, rfl⟩ := List.mem_map.mp hd
  exact Shp.pD x
/-! dicts with text keys -/
theorem i_disp {trs : List (TE × TE)} (h : ∀ p, H p = none → tPairs trs σ (upd H p (.dK [])) fun ps H2 => H2 p = some (.dK []) ∧ ∃ kvs : List (L2.Key × V), ps = kvs.map (fun kv => (kV kv.1, kv.2)) ∧ kvs.length ≤ 15 ∧ Q (.ref p) (upd H2 p (.dK (mergeK [] kvs)))) : tDisp trs σ H Q := h
theorem i_pNil {R : List (V × V) → Hp → Prop} (h : R [] H) : tPairs [] σ H R := h
theorem i_pCons {tk tv : TE} {r : List (TE × TE)} {R : List (V × V) → Hp → Prop} (h : tk σ H fun x H1 => tv σ H1 fun y H2 => tPairs r σ H2 fun ps H3 => R ((x, y) :: ps) H3) : tPairs ((tk, tv) :: r) σ H R := h
theorem i_dgetS {p : Addr} {i : Str} {v : V} {kvs : List (L2.Key × V)} {R : V → Prop} (h : Rd H p (.dK kvs)) (e : valV kvs (.inr i) = some v) (q : R v) : ∃ a v', V.ref p = .ref a ∧ DGet H a (.str i) (some v') ∧ R v' :=
  ⟨p, v, rfl, .inl ⟨kvs, .inr i, h, rfl, e.symm⟩, q⟩
end
/- data at the heap of the goal -/
local macro_rules | `(tactic| wtm_at "jtd") => `(tactic| first | assumption | ((with_reducible refine' TD.same (same_new ?hn) ?hh); (case hn => assumption); (case hh => wtm_at "jtd")))
local macro_rules | `(tactic| wtm_at "jw1") => `(tactic| first
  | ((with_reducible refine' i_ixDI ?h ?h0 ?e ?_); (case h => wtm_at "jtd"); (case h0 => wtm_at "jside"); (case e => wtm_at "jat"))
  | ((with_reducible refine' i_ixDO ?h ?h0 ?e ?_); (case h => wtm_at "jtd"); (case h0 => wtm_at "jside"); (case e => wtm_at "jat"))
  | ((with_reducible refine' i_ixDS ?h ?h0 ?e ?_); (case h => wtm_at "jtd"); (case h0 => wtm_at "jside"); (case e => wtm_at "jat"))
  | ((with_reducible refine' i_ix2 (i_ixDI ?h ?h0 ?e ?_)); (case h => wtm_at "jtd"); (case h0 => wtm_at "jside"); (case e => wtm_at "jat"))
  | ((with_reducible refine' i_ix2 (i_ixDO ?h ?h0 ?e ?_)); (case h => wtm_at "jtd"); (case h0 => wtm_at "jside"); (case e => wtm_at "jat"))
  | ((with_reducible refine' i_ixD ?h ?h0 ?e ?_); (case h => wtm_at "jtd"); (case h0 => wtm_at "jside"); (case e => wtm_at "jat"); intro _ _)
  | ((with_reducible refine' i_ix2 (i_ixD ?h ?h0 ?e ?_)); (case h => wtm_at "jtd"); (case h0 => wtm_at "jside"); (case e => wtm_at "jat"); intro _ _)
  | ((with_reducible refine' i_lenDt ?h ?_); (case h => wtm_at "jtd"))
  | with_reducible refine' i_eqNI ?_
  | ((with_reducible refine' i_tyLD ?h ?_); (case h => assumption))
  | ((with_reducible refine' i_lenLD ?h ?_); (case h => assumption))
  | ((with_reducible refine' i_gPair ?h ?e ?_); (case h => wtm_at "jtd"); (case e => rfl))
  | with_reducible refine' i_pNil ?_ | with_reducible refine' i_pCons ?_)

/-! ### draws and picks, said shortly -/
section
variable {K : PySem.W.Frag} {p a B : Addr} {H0 H : Hp} {Q : VK} {E : XK}
theorem drawL {m : Int} (w : Drew p a H0 H) (h0 : 0 < m) (h1 : m < 18446744073709551616) (q : ∀ z H', 0 ≤ z → z < m → Drew p a H H' → Drew p a H0 H' → Q (.int z) H') : sp__law_draw K [.ref p, .int m] H Q E :=
  ⟨p, a, m, rfl, w.at_, h0, h1, fun z H' z0 z1 e => q z H' z0 z1 e (w.trans e)⟩
theorem pickL {xs : List V} (P : Int → Prop) (ns : List Int) (w : Drew p a H0 H) (hB : H B = none) (e : xs = ns.map V.int) (h0 : 0 < ns.length) (h1 : ns.length < 1000) (hP : ∀ z ∈ ns, P z)
    (q : ∀ z H', P z → Drew p a H H' → Drew p a H0 H' → Q (.int z) H') : sp__law_pick K [.ref p, .ref B] (upd H B (.lst xs)) Q E := by
  subst e
  refine ⟨p, a, B, ns.map V.int, rfl, w.at_.same (same_new hB), .inl ⟨w.at_.ne_none hB, SqL.of upd_same⟩, by rw [List.length_map]; exact h0, by rw [List.length_map]; omega, fun x H' hx e => ?_⟩
  obtain ⟨z, hz, rfl⟩ := List.mem_map.mp hx
  have e1 := (w.at_.drew.new (o := .lst (ns.map V.int)) hB).trans e
  exact q z H' (hP z hz) e1 (w.trans e1)
theorem pickV {xs : List V} (w : Drew p a H0 H) (hB : H B = none) (h0 : 0 < xs.length) (h1 : xs.length < 1000) (q : ∀ x H', x ∈ xs → Drew p a H H' → Drew p a H0 H' → Q x H') : sp__law_pick K [.ref p, .ref B] (upd H B (.lst xs)) Q E := by
  refine ⟨p, a, B, xs, rfl, w.at_.same (same_new hB), .inl ⟨w.at_.ne_none hB, SqL.of upd_same⟩, h0, by omega, fun x H' hx e => ?_⟩
  have e1 := (w.at_.drew.new (o := .lst xs) hB).trans e
  exact q x H' hx e1 (w.trans e1)
/-- a pick out of a list that stands -/
theorem pickS {xs : List V} (w : Drew p a H0 H) (hB : H B = some (.lst xs)) (n : B ≠ p) (h0 : 0 < xs.length) (h1 : xs.length < 1000000) (q : ∀ x H', x ∈ xs → Drew p a H H' → Drew p a H0 H' → Q x H') : sp__law_pick K [.ref p, .ref B] H Q E :=
  ⟨p, a, B, xs, rfl, w.at_, .inl ⟨n, SqL.of hB⟩, h0, by omega, fun x H' hx e => q x H' hx e (w.trans e)⟩
theorem pickT {xs : List V} (w : Drew p a H0 H) (hB : SqT K H B xs) (h0 : 0 < xs.length) (h1 : xs.length < 1000000) (q : ∀ x H', x ∈ xs → Drew p a H H' → Drew p a H0 H' → Q x H') : sp__law_pick K [.ref p, .ref B] H Q E :=
  ⟨p, a, B, xs, rfl, w.at_, .inr hB, h0, by omega, fun x H' hx e => q x H' hx e (w.trans e)⟩
end
theorem LD.drew {K : PySem.W.Frag} {p a f : Addr} {H H' : Hp} {ds : List PyData} (h : LD K H f ds) (d : DrawAt H p a) (e : Drew p a H H') (n : f ≠ p) : LD K H' f ds := by
  obtain ⟨xs, hp⟩ := d.some
  exact h.kp e.kp hp n
theorem LPr.drew {p a f : Addr} {H H' : Hp} {fo : List (Int × Int)} (h : LPr H f fo) (d : DrawAt H p a) (e : Drew p a H H') (n : f ≠ p) : LPr H' f fo := by
  obtain ⟨xs, hp⟩ := d.some
  exact h.kp e.kp hp n
/-- a pure choice of two -/
theorem i_ifP {σ : L2.St} {H : Hp} {Q : VK} {c : TT} {ta tb : TE} (P : V → Prop) (hc : ∀ R : Bool → Hp → Prop, (∀ b, R b H) → c σ H R) (ha : ∀ R : VK, (∀ v, P v → R v H) → ta σ H R) (hb : ∀ R : VK, (∀ v, P v → R v H) → tb σ H R) (q : ∀ v, P v → Q v H) : tIf c ta tb σ H Q :=
  hc _ fun b => by
    cases b
    · exact hb _ q
    · exact ha _ q
theorem all_two {P : Int → Prop} {x y : Int} (h1 : P x) (h2 : P y) : ∀ z ∈ [x, y], P z := by simp; exact ⟨h1, h2⟩

theorem sqT_ty {K : PySem.W.Frag} {H : Hp} {a : Addr} {xs : List V} (h : SqT K H a xs) : TyX K H (.ref a) (.type "tuple") := by
  rcases h with (h | ⟨o, h⟩) | ⟨o, vs, c, e, h1, _⟩
  · exact .base (.tup h)
  · exact .fTuple h
  · exact .kTuple e h1
theorem TD.ty {K : PySem.W.Frag} {H : Hp} {v : V} {ds : List PyData} (h : TD K H v (.tuple ds)) : TyX K H v (.type "tuple") := by
  obtain ⟨a, xs, rfl, s, _⟩ := h.tup_inv
  exact sqT_ty s
theorem i_isiT {K : PySem.W.Frag} {H : Hp} {Q : VK} {v : V} {ds : List PyData} {n : String} {b : Bool} (h : TD K H v (.tuple ds)) (e : PySem.W.kitOne K (.type "tuple") (.type n) = some b) (q : Q (.bl b) H) : rIsi K [v, .ty n] H Q := i_isi h.ty e q
theorem all_id_true (n : Nat) : (List.replicate n true).all id = true := by
  rw [List.all_replicate]; simp
def sp__law_is_ints (K : PySem.W.Frag) : Sp := fun vs H Q _ => ∃ (x : V) (ns : List Int), vs = [x] ∧ TD K H x (.tuple (ns.map PyData.int)) ∧ ns.length ≤ 1000000 ∧ ∀ H', Same H H' → Q (.bl true) H'
theorem ok__law_is_ints {P : Program} {w : World} {K : PySem.W.Frag} {mg : Str → Option Value} {base : Heap} {f : Addr} {fd : FuncData} (F : Df K mg "_law_is_ints" s__law_is_ints f fd ["row"]) (T : Txt mg)
    (c__law_is_int : Cl P w K mg base 1 "_law_is_int" (sp__law_is_int K)) : FnOk P w K mg base CX0 2 f fd ["row"] (sp__law_is_ints K) := by
  refine F.ok sc__law_is_ints (fun vs H Q E h => ?_) (fun cdv A outer s H vs Q E hr h => ?_)
  · obtain ⟨x, ns, rfl, _⟩ := h
    rfl
  · obtain ⟨x, ns, rfl, hx, hl, k⟩ := h
    refine ⟨_, (pss_one (ps_ret (pe_and (pe_callB (id := "isinstance") (r := rIsi K) call_isi (by rfl) T.b_isinstance (by decide +kernel) (pa_cons (pv 0) (pa_cons (pe_bltn (v := .ty "tuple") (u := Value.type "tuple") (by rfl) T.b_tuple (by decide +kernel) rfl) pa_nil))) (pe_one (pe_callB (id := "all") (r := rAll K) (cr_all rfl) (by rfl) T.b_all (by decide +kernel) (pa_cons (pe_lc (own := [("part", 1)]) (g := gName 1) (tt := tYes) rfl sc__law_is_ints.nd (pi_tup (pv 0)) (blkOk_by (own := [("part", 1)]) (N := N__law_is_ints) (sc := defScope s__law_is_ints) (by decide +kernel)) (fun _ _ _ _ _ => (pg_name (i := 1) sc__law_is_ints.nd rfl (Or.inl rfl))) (fun _ _ _ _ _ => pts_nil) (fun _ _ _ _ _ => (pe_cl c__law_is_int hr (by decide) rfl (pa_cons (pv 1) pa_nil)))) pa_nil)))))), ?_⟩
    try dsimp only [cxOf, Cx.nox, Cx.wish]
    refine st_of (σ' := [some _, none]) rfl ?_
    wtm_at "jw"
    refine i_isiT hx rfl ?_
    obtain ⟨a, xs, rfl, hS, hT⟩ := hx.tup_inv
    rw [hT.ints_inv] at hS
    wtm_at "jw"
    intro D hD
    refine l_tupP (xs := ns.map V.int) (fun _ => V.bl true) hD (by rw [List.length_map]; exact hl) hS (fun i x H' R hi s hR => ?_) (fun H' s hD' => ?_)
    · obtain ⟨z, rfl, _⟩ := ints_at hi
      wtm_at "jw"
      refine ⟨rfl, ?_⟩
      wtm_at "jw"
      refine ⟨z, rfl, ?_⟩
      exact hR
    · wtm_at "jw"
      refine ⟨D, List.replicate (ns.map V.int).length true, rfl, SqL.of ?_, ?_⟩
      · rw [hD', List.map_replicate, List.map_const', List.length_range]
      · rw [all_id_true]
        exact k _ s

/-! ### names -/
theorem i_m1 {r : V → List V → Hp → VK → Prop} {to te : TE} {σ : L2.St} {H : Hp} {Q : VK} (h : to σ H fun x H1 => (∃ a, x = .str a) ∧ te σ H1 fun y H2 => r x [y] H2 Q) : tM1 r to te σ H Q := h
def sp__law_pool (K : PySem.W.Frag) : Sp := fun vs H Q _ => vs = [] ∧ ∀ r (ys : List Str) H', Same H H' → H r = none → H' r = some (.lst (ys.map V.str)) → ys.length = 61 → Q (.ref r) H'
theorem ok__law_pool {P : Program} {w : World} {K : PySem.W.Frag} {mg : Str → Option Value} {base : Heap} {f : Addr} {fd : FuncData} (F : Df K mg "_law_pool" s__law_pool f fd []) (T : Txt mg) : FnOk P w K mg base CX0 1 f fd [] (sp__law_pool K) := by
  refine F.ok sc__law_pool (fun vs H Q E h => ?_) (fun cdv A outer s H vs Q E hr h => ?_)
  · obtain ⟨rfl, _⟩ := h
    rfl
  · obtain ⟨rfl, q⟩ := h
    refine ⟨_, (pss_cons (ps_set (i := 0) sc__law_pool.nd rfl (Or.inl rfl) pe_str)
      (pss_cons (ps_set (i := 0) sc__law_pool.nd rfl (Or.inl rfl) (pe_op o_addS (pv 0) pe_str))
      (pss_one (ps_ret (pe_split (pe_op o_addS (pv 0) pe_str) pe_str))))), ?_⟩
    try dsimp only [cxOf, Cx.nox, Cx.wish]
    refine st_of (σ' := [none]) rfl ?_
    wtm_at "jw"
    refine i_addS (by rw [sizeLine_eq]; decide +kernel) ?_
    wtm_at "jw"
    refine i_m1 ?_
    wtm_at "jw"
    refine i_addS (by rw [sizeLine_eq]; decide +kernel) ?_
    wtm_at "jw"
    refine ⟨⟨_, rfl⟩, ?_⟩
    wtm_at "jw"
    refine ⟨_, _, rfl, rfl, by decide +kernel, by rw [sizeLine_eq]; decide +kernel, fun r hr' => ?_⟩
    exact q r _ _ (same_new hr') hr' upd_same (by decide +kernel)
theorem map_erase {α β : Type} (f : α → β) : ∀ (l : List α) (i : Nat), (l.map f).eraseIdx i = (l.eraseIdx i).map f
  | [], _ => rfl
  | _ :: _, 0 => rfl
  | x :: r, i + 1 => by
    show f x :: (r.map f).eraseIdx i = f x :: (r.eraseIdx i).map f
    rw [map_erase f r i]
/-- a name of the pool is taken -/
def sp__law_pop (K : PySem.W.Frag) : Sp := fun vs H Q _ => ∃ (p a b : Addr) (ys : List Str), vs = [.ref p, .ref b] ∧ DrawAt H p a ∧ H b = some (.lst (ys.map V.str)) ∧ b ≠ p ∧ b ≠ a ∧ 0 < ys.length ∧ ys.length ≤ 1000 ∧
  ∀ (x : Str) (zs : List Str) (H' : Hp), (∀ c o, H c = some o → c ≠ p → c ≠ b → H' c = some o) → DrawAt H' p a → H' b = some (.lst (zs.map V.str)) → zs.length + 1 = ys.length → Q (.str x) H'
theorem ok__law_pop {P : Program} {w : World} {K : PySem.W.Frag} {mg : Str → Option Value} {base : Heap} {f : Addr} {fd : FuncData} (F : Df K mg "_law_pop" s__law_pop f fd ["d", "row"]) (T : Txt mg)
    (c__law_draw : Cl P w K mg base 1 "_law_draw" (sp__law_draw K)) : FnOk P w K mg base CX0 2 f fd ["d", "row"] (sp__law_pop K) := by
  refine F.ok sc__law_pop (fun vs H Q E h => ?_) (fun cdv A outer s H vs Q E hr h => ?_)
  · obtain ⟨p, a, b, ys, rfl, _⟩ := h
    rfl
  · obtain ⟨p, a, b, ys, rfl, hd, hb, nb, nba, l0, l1, q⟩ := h
    refine ⟨_, (pss_one (ps_ret (pe_bmK (K := K) rfl PySem.F.plainAttrs_list PySem.F.slot_list_pop PySem.F.type_list_pop mt_popAt (pv 1) (pa_cons (pe_cl c__law_draw hr (by decide) rfl (pa_cons (pv 0) (pa_cons (pe_callB (id := "len") (r := qLen K) c_len (by rfl) T.b_len (by decide +kernel) (pa_cons (pv 1) pa_nil)) pa_nil))) pa_nil)))), ?_⟩
    try dsimp only [cxOf, Cx.nox, Cx.wish]
    refine st_of (σ' := [some _, some _]) rfl ?_
    wtm_at "jw"
    rw [List.length_map]
    refine drawL hd.drew (by omega) (by omega) fun z H1 z0 z1 e _ => ?_
    have hb1 := e.kp _ _ hb nb
    have hzl : z.toNat < ys.length := by omega
    wtm_at "jw"
    refine i_popAt hb1 z0 (by rw [List.length_map]; omega) (by rw [List.length_map]; omega) (y := .str ys[z.toNat]) (by rw [List.getElem?_map, List.getElem?_eq_getElem hzl]; rfl) ?_
    refine q _ (ys.eraseIdx z.toNat) _ (fun c o hc n1 n2 => by rw [upd_ne n2]; exact e.kp _ _ hc n1) ?_ (by rw [upd_same, map_erase]) (by rw [List.length_eraseIdx, if_pos hzl]; omega)
    obtain ⟨ns, pos, pend, seed, h1, h2, h3, h4⟩ := e.at_
    exact ⟨ns, pos, pend, seed, by rw [upd_ne nb.symm]; exact h1, by rw [upd_ne nba.symm]; exact h2, h3, h4⟩
/-- a pop, told as a draw: b is a thing of our own -/
theorem popL {K : PySem.W.Frag} {p a b : Addr} {H0 H : Hp} {Q : VK} {E : XK} {ys : List Str} (w : Drew p a H0 H) (d0 : DrawAt H0 p a) (b0 : H0 b = none) (hb : H b = some (.lst (ys.map V.str))) (l0 : 0 < ys.length) (l1 : ys.length ≤ 1000)
    (q : ∀ (x : Str) (zs : List Str) (H' : Hp), (∀ c o, H c = some o → c ≠ p → c ≠ b → H' c = some o) → Tps H H' → Drew p a H0 H' → H' b = some (.lst (zs.map V.str)) → zs.length + 1 = ys.length → Q (.str x) H') : sp__law_pop K [.ref p, .ref b] H Q E := by
  have np := d0.ne_none b0
  refine ⟨p, a, b, ys, rfl, w.at_, hb, np, d0.ne_noneA b0, l0, l1, fun x zs H' kp da hb' hl => q x zs H' kp (fun c => ⟨fun xs h => ?_, fun o xs h => ?_⟩) ⟨da, fun c o hc hn => ?_⟩ hb' hl⟩
  · obtain ⟨us, hp⟩ := w.at_.some
    exact kp c _ h (ne_of h hp (by intro z; cases z)) (ne_of h hb (by intro z; cases z))
  · obtain ⟨us, hp⟩ := w.at_.some
    exact kp c _ h (ne_of h hp (by intro z; cases z)) (ne_of h hb (by intro z; cases z))
  · exact kp c o (w.kp c o hc hn) hn (ne_of_none hc b0)
def sp__law_hold (K : PySem.W.Frag) : Sp := fun vs H Q _ => ∃ (lo n hi : Int), vs = [.int lo, .int n, .int hi] ∧ Q (.int (if hi < (if lo > n then lo else n) then hi else (if lo > n then lo else n))) H
theorem ok__law_hold {P : Program} {w : World} {K : PySem.W.Frag} {mg : Str → Option Value} {base : Heap} {f : Addr} {fd : FuncData} (F : Df K mg "_law_hold" s__law_hold f fd ["low", "number", "high"]) (T : Txt mg) : FnOk P w K mg base CX0 1 f fd ["low", "number", "high"] (sp__law_hold K) := by
  refine F.ok sc__law_hold (fun vs H Q E h => ?_) (fun cdv A outer s H vs Q E hr h => ?_)
  · obtain ⟨lo, n, hi, rfl, _⟩ := h
    rfl
  · obtain ⟨lo, n, hi, rfl, q⟩ := h
    refine ⟨_, (pss_one (ps_ret (pe_callB (id := "min") (c_min2 rfl) (by rfl) T.b_min (by decide +kernel) (pa_cons (pe_callB (id := "max") (c_max2 rfl) (by rfl) T.b_max (by decide +kernel) (pa_cons (pv 1) (pa_cons (pv 0) pa_nil))) (pa_cons (pv 2) pa_nil))))), ?_⟩
    try dsimp only [cxOf, Cx.nox, Cx.wish]
    refine st_of (σ' := [some _, some _, some _]) rfl ?_
    wtm_at "jw"
    exact q

def SortsTo (ps L : List (Int × Int)) : Prop := ps.Perm L ∧ ps.Pairwise fun p q => SrtO.lexB q p = false
def kP (H : Hp) : V → Int × Int
  | .ref t => match H t with
    | some (.tup [.int i, .int j]) => (i, j)
    | _ => (0, 0)
  | _ => (0, 0)
def adr : V → Addr
  | .ref t => t
  | _ => 0
theorem kP_of {H : Hp} {t : Addr} {p : Int × Int} (h : H t = some (.tup [.int p.1, .int p.2])) : kP H (.ref t) = p := by
  simp only [kP, h]
theorem Prw.keys {H : Hp} : ∀ {rs : List Addr} {rows : List (Int × Int)}, Prw H rs rows → (rs.map V.ref).map (kP H) = rows
  | [], [], _ => rfl
  | r :: rs, p :: rows, h => by
    rw [List.map_cons, List.map_cons, kP_of (h.2 0 r p rfl rfl), Prw.keys (rs := rs) (rows := rows) ⟨by simpa using h.1, fun i r' p' h1 h2 => h.2 (i + 1) r' p' (by simpa using h1) (by simpa using h2)⟩]
  | [], _ :: _, h => by cases h.1
  | _ :: _, [], h => by cases h.1
/-- sorted(a list of pairs) -/
theorem i_sortP {K : PySem.W.Frag} {H : Hp} {Q : VK} {a : Addr} {rows : List (Int × Int)} (h : LPr H a rows)
    (q : ∀ r H' ps, Same H H' → SortsTo ps rows → H r = none → LPr H' r ps → Q (.ref r) H') : rSortedPO K [.ref a] H Q := by
  obtain ⟨rs, ha, w⟩ := h
  have mem : ∀ x ∈ rs.map V.ref, ∃ t, x = V.ref t ∧ H t = some (.tup [.int (kP H x).1, .int (kP H x).2]) := fun x hx => by
    obtain ⟨i, hi⟩ := List.getElem?_of_mem hx
    obtain ⟨r, p, rfl, _, _, hr, _⟩ := w.at hi
    exact ⟨r, rfl, by rw [kP_of hr]; exact hr⟩
  refine ⟨a, rs.map V.ref, kP H, rfl, SqL.of ha, mem, fun ys p srt stb hp => ?_⟩
  have pm := stb.perm
  have e1 : (ys.map adr).map V.ref = ys := by
    rw [List.map_map]
    conv => rhs; rw [← List.map_id ys]
    refine List.map_congr_left fun y hy => ?_
    obtain ⟨t, rfl, _⟩ := mem y (pm.mem_iff.mp hy)
    rfl
  refine q p _ (ys.map (kP H)) (same_new hp) ⟨?_, ?_⟩ hp ⟨ys.map adr, by rw [upd_same, e1], ?_⟩
  · have := pm.map (kP H)
    rw [w.keys] at this
    exact this
  · rw [List.pairwise_map]
    exact srt
  · refine Prw.same (H := H) ⟨by simp, fun i r' p' h1 h2 => ?_⟩ (same_new hp)
    rw [List.getElem?_map] at h1 h2
    cases e : ys[i]? with
    | none => rw [e] at h1; cases h1
    | some y =>
      rw [e] at h1 h2
      cases h1
      cases h2
      obtain ⟨t, rfl, ht⟩ := mem y (pm.mem_iff.mp (List.mem_of_getElem? e))
      exact ht

/-! ### a sweep finds each meeting pair once (for k21) -/
def prN (a b : Nat) : Nat × Nat := (min a b, max a b)
theorem prN_comm (a b : Nat) : prN a b = prN b a := by unfold prN; rw [Nat.min_comm, Nat.max_comm]
theorem prN_inj {a b k : Nat} (h : prN a k = prN b k) : a = b := by
  unfold prN at h
  have h1 := congrArg Prod.fst h
  have h2 := congrArg Prod.snd h
  simp only at h1 h2
  omega
def stpS (ov keep : Nat → Nat → Bool) (s : List Nat × List (Nat × Nat)) (k : Nat) : List Nat × List (Nat × Nat) :=
  (s.1.filter (fun a => keep a k) ++ [k], s.2 ++ ((s.1.filter (fun a => keep a k)).filter (fun a => ov a k)).map (fun a => prN a k))
/-- what stands when P is done and rest is not -/
structure Sw (ov : Nat → Nat → Bool) (P rest : List Nat) (s : List Nat × List (Nat × Nat)) : Prop where
  sub : s.1.Sublist P
  gone : ∀ a ∈ P, a ∉ s.1 → ∀ k ∈ rest, ov a k = false
  mem : ∀ q, q ∈ s.2 ↔ ∃ a ∈ P, ∃ b ∈ P, a ≠ b ∧ ov a b = true ∧ q = prN a b
  nd : s.2.Nodup
theorem Sw.step {ov keep : Nat → Nat → Bool} {P rest : List Nat} {k : Nat} {s : List Nat × List (Nat × Nat)} (sym : ∀ a b, ov a b = ov b a) (hk : ∀ a b, ov a b = true → keep a b = true)
    (mono : ∀ a, ∀ k' ∈ rest, keep a k = false → keep a k' = false) (hP : (P ++ k :: rest).Nodup) (h : Sw ov P (k :: rest) s) : Sw ov (P ++ [k]) rest (stpS ov keep s k) := by
  have hkP : k ∉ P := fun hm => by
    have := (List.nodup_append.mp hP).2.2 k hm k List.mem_cons_self
    exact this rfl
  have hnP : P.Nodup := (List.nodup_append.mp hP).1
  have hR : ∀ a, a ∈ ((s.1.filter (fun a => keep a k)).filter (fun a => ov a k)) ↔ a ∈ s.1 ∧ ov a k = true := fun a => by
    rw [List.mem_filter, List.mem_filter]
    exact ⟨fun x => ⟨x.1.1, x.2⟩, fun x => ⟨⟨x.1, hk _ _ x.2⟩, x.2⟩⟩
  refine ⟨?_, ?_, ?_, ?_⟩
  · exact ((List.filter_sublist).trans h.sub).append (List.Sublist.refl _)
  · intro a ha hn k' hk'
    have hn1 : ¬ (a ∈ s.1 ∧ keep a k = true) := fun x => hn (List.mem_append_left _ (List.mem_filter.mpr x))
    have hn2 : a ≠ k := fun x => hn (List.mem_append_right _ (by rw [x]; exact List.mem_singleton.mpr rfl))
    have haP : a ∈ P := by
      rcases List.mem_append.mp ha with ha | ha
      · exact ha
      · exact absurd (List.mem_singleton.mp ha) hn2
    by_cases hs : a ∈ s.1
    · have e : keep a k = false := by
        cases e : keep a k with
        | false => rfl
        | true => exact absurd ⟨hs, e⟩ hn1
      have e2 := mono a k' hk' e
      cases e3 : ov a k' with
      | false => rfl
      | true => rw [hk _ _ e3] at e2; cases e2
    · exact h.gone a haP hs k' (List.mem_cons_of_mem _ hk')
  · intro q
    show q ∈ s.2 ++ _ ↔ _
    rw [List.mem_append, h.mem q, List.mem_map]
    constructor
    · rintro (⟨a, ha, b, hb, r⟩ | ⟨a, ha, rfl⟩)
      · exact ⟨a, List.mem_append_left _ ha, b, List.mem_append_left _ hb, r⟩
      · have h1 := (hR a).mp ha
        have haP := h.sub.subset h1.1
        exact ⟨a, List.mem_append_left _ haP, k, List.mem_append_right _ (List.mem_singleton.mpr rfl), fun e => hkP (e ▸ haP), h1.2, rfl⟩
    · have one : ∀ a, a ∈ P → ov a k = true → ∃ a', a' ∈ ((s.1.filter (fun a => keep a k)).filter (fun a => ov a k)) ∧ prN a' k = prN a k := fun a ha ho => by
        refine ⟨a, (hR a).mpr ⟨?_, ho⟩, rfl⟩
        by_cases hs : a ∈ s.1
        · exact hs
        · have := h.gone a ha hs k List.mem_cons_self
          rw [ho] at this
          cases this
      rintro ⟨a, ha, b, hb, ne, ho, rfl⟩
      rcases List.mem_append.mp ha with ha1 | ha1
      · rcases List.mem_append.mp hb with hb1 | hb1
        · exact .inl ⟨a, ha1, b, hb1, ne, ho, rfl⟩
        · have e := List.mem_singleton.mp hb1
          rw [e] at ho ⊢
          exact .inr (one a ha1 ho)
      · have e := List.mem_singleton.mp ha1
        rw [e] at ho ne ⊢
        rcases List.mem_append.mp hb with hb1 | hb1
        · obtain ⟨a', h1, h2⟩ := one b hb1 (by rw [sym]; exact ho)
          exact .inr ⟨a', h1, h2.trans (prN_comm _ _)⟩
        · exact absurd (List.mem_singleton.mp hb1).symm ne
  · show (s.2 ++ _).Nodup
    have hnR : ((s.1.filter (fun a => keep a k)).filter (fun a => ov a k)).Nodup := ((List.filter_sublist).trans ((List.filter_sublist).trans h.sub)).nodup hnP
    refine List.nodup_append.mpr ⟨h.nd, List.Pairwise.map _ (fun x y hxy e => hxy (prN_inj e)) hnR, fun q hq r hr e => ?_⟩
    subst e
    obtain ⟨a, ha, b, hb, _, _, rfl⟩ := (h.mem q).mp hq
    obtain ⟨a', ha', e⟩ := List.mem_map.mp hr
    have e1 := congrArg Prod.fst e
    have e2 := congrArg Prod.snd e
    simp only [prN] at e1 e2
    rcases (by omega : k = a ∨ k = b) with rfl | rfl
    · exact hkP ha
    · exact hkP hb
theorem Sw.all {ov keep : Nat → Nat → Bool} (sym : ∀ a b, ov a b = ov b a) (hk : ∀ a b, ov a b = true → keep a b = true) :
    ∀ (rest P : List Nat) (s : List Nat × List (Nat × Nat)), (rest.Pairwise fun k k' => ∀ a, keep a k = false → keep a k' = false) → (P ++ rest).Nodup → Sw ov P rest s → Sw ov (P ++ rest) [] (rest.foldl (stpS ov keep) s)
  | [], P, s, _, _, h => by rw [List.append_nil]; exact h
  | k :: rest, P, s, hm, hn, h => by
    rw [List.foldl_cons, List.append_cons]
    rw [List.pairwise_cons] at hm
    exact Sw.all sym hk rest (P ++ [k]) _ hm.2 (by rw [List.append_assoc]; exact hn) (h.step sym hk (fun a k' hk' => hm.1 k' hk' a) hn)
/-- the pairs a < b below n that meet, in order -/
def dueP (mt : Nat → Nat → Bool) (n : Nat) : List (Nat × Nat) := (List.range n).flatMap fun a => ((List.range' (a + 1) (n - (a + 1))).filter fun b => mt a b).map fun b => (a, b)
theorem mem_dueP {mt : Nat → Nat → Bool} {n a b : Nat} : (a, b) ∈ dueP mt n ↔ a < b ∧ b < n ∧ mt a b = true := by
  unfold dueP
  rw [List.mem_flatMap]
  constructor
  · rintro ⟨x, hx, h⟩
    obtain ⟨y, hy, e⟩ := List.mem_map.mp h
    cases e
    obtain ⟨h1, h2⟩ := List.mem_filter.mp hy
    have := List.mem_range'_1.mp h1
    exact ⟨by omega, by omega, h2⟩
  · rintro ⟨h1, h2, h3⟩
    exact ⟨a, List.mem_range.mpr (by omega), List.mem_map.mpr ⟨b, List.mem_filter.mpr ⟨List.mem_range'_1.mpr (by omega), h3⟩, rfl⟩⟩
theorem dueP_sorted (mt : Nat → Nat → Bool) (n : Nat) : (dueP mt n).Pairwise fun p q => p.1 < q.1 ∨ (p.1 = q.1 ∧ p.2 < q.2) := by
  unfold dueP
  rw [List.pairwise_flatMap]
  refine ⟨fun a _ => ?_, ?_⟩
  · refine List.Pairwise.map _ (fun x y h => .inr ⟨rfl, h⟩) ?_
    exact (List.pairwise_lt_range' (s := a + 1) (n := n - (a + 1)) (step := 1)).filter _
  · refine (List.pairwise_lt_range).imp fun h x hx y hy => ?_
    obtain ⟨_, _, rfl⟩ := List.mem_map.mp hx
    obtain ⟨_, _, rfl⟩ := List.mem_map.mp hy
    exact .inl h
theorem dueP_nodup (mt : Nat → Nat → Bool) (n : Nat) : (dueP mt n).Nodup :=
  (dueP_sorted mt n).imp fun h e => by
    subst e
    omega
/-- what a sweep over all that are on finds, sorted, is what is due -/
theorem sweep_due {ov : Nat → Nat → Bool} {on : Nat → Bool} {n : Nat} {ks : List Nat} {s : List Nat × List (Nat × Nat)} {G : List (Nat × Nat)} (sym : ∀ a b, ov a b = ov b a) (hk : ∀ k, k ∈ ks ↔ k < n ∧ on k = true)
    (h : Sw ov ks [] s) (pm : G.Perm s.2) (srt : G.Pairwise fun p q => p.1 < q.1 ∨ (p.1 = q.1 ∧ p.2 ≤ q.2)) : G = dueP (fun a b => (on a && on b) && ov a b) n := by
  refine List.Perm.eq_of_pairwise (le := fun p q => p.1 < q.1 ∨ (p.1 = q.1 ∧ p.2 ≤ q.2)) (fun a b _ _ h1 h2 => ?_) srt ((dueP_sorted _ _).imp fun h => by omega) ?_
  · exact Prod.ext (by omega) (by omega)
  · refine (List.perm_ext_iff_of_nodup (pm.nodup_iff.mpr h.nd) (dueP_nodup _ _)).mpr fun q => ?_
    rw [pm.mem_iff, h.mem]
    obtain ⟨x, y⟩ := q
    rw [mem_dueP]
    constructor
    · rintro ⟨a, ha, b, hb, ne, ho, e⟩
      have h1 := (hk a).mp ha
      have h2 := (hk b).mp hb
      unfold prN at e
      have e1 := congrArg Prod.fst e
      have e2 := congrArg Prod.snd e
      simp only at e1 e2
      rcases (by omega : a < b ∨ b < a) with l | l
      · obtain rfl : x = a := by omega
        obtain rfl : y = b := by omega
        exact ⟨l, h2.1, by rw [h1.2, h2.2, ho]; rfl⟩
      · obtain rfl : x = b := by omega
        obtain rfl : y = a := by omega
        exact ⟨l, h1.1, by rw [h1.2, h2.2, sym, ho]; rfl⟩
    · rintro ⟨l, hn, hm⟩
      rw [Bool.and_eq_true, Bool.and_eq_true] at hm
      refine ⟨x, (hk x).mpr ⟨by omega, hm.1.1⟩, y, (hk y).mpr ⟨hn, hm.1.2⟩, by omega, hm.2, ?_⟩
      unfold prN
      rw [Nat.min_eq_left (by omega), Nat.max_eq_right (by omega)]
/-! sizes of what a sweep holds -/
theorem stp_len1 {ov keep : Nat → Nat → Bool} : ∀ (l : List Nat) (s : List Nat × List (Nat × Nat)), (l.foldl (stpS ov keep) s).1.length ≤ s.1.length + l.length
  | [], s => by simp
  | k :: l, s => by
    rw [List.foldl_cons]
    have h := stp_len1 (ov := ov) (keep := keep) l (stpS ov keep s k)
    have h2 := List.length_filter_le (fun a => keep a k) s.1
    have h3 : (stpS ov keep s k).1.length = (s.1.filter fun a => keep a k).length + 1 := by unfold stpS; simp
    rw [List.length_cons]
    omega
theorem stp_len2 {ov keep : Nat → Nat → Bool} : ∀ (l : List Nat) (s : List Nat × List (Nat × Nat)), (l.foldl (stpS ov keep) s).2.length ≤ s.2.length + l.length * (s.1.length + l.length)
  | [], s => by simp
  | k :: l, s => by
    rw [List.foldl_cons]
    have h := stp_len2 (ov := ov) (keep := keep) l (stpS ov keep s k)
    have h2 := List.length_filter_le (fun a => keep a k) s.1
    have h4 := List.length_filter_le (fun a => ov a k) (s.1.filter fun a => keep a k)
    have h3 : (stpS ov keep s k).1.length = (s.1.filter fun a => keep a k).length + 1 := by unfold stpS; simp
    have h5 : (stpS ov keep s k).2.length = s.2.length + ((s.1.filter fun a => keep a k).filter fun a => ov a k).length := by unfold stpS; simp
    rw [List.length_cons, Nat.succ_mul]
    have h6 : l.length * ((stpS ov keep s k).1.length + l.length) ≤ l.length * (s.1.length + (l.length + 1)) := Nat.mul_le_mul_left _ (by omega)
    generalize l.length * ((stpS ov keep s k).1.length + l.length) = X at *
    generalize l.length * (s.1.length + (l.length + 1)) = Y at *
    omega
theorem stp_sub {ov keep : Nat → Nat → Bool} : ∀ (l : List Nat) (s : List Nat × List (Nat × Nat)) (a : Nat), a ∈ (l.foldl (stpS ov keep) s).1 → a ∈ s.1 ∨ a ∈ l
  | [], s, a, h => .inl h
  | k :: l, s, a, h => by
    rw [List.foldl_cons] at h
    rcases stp_sub (ov := ov) (keep := keep) l (stpS ov keep s k) a h with h | h
    · unfold stpS at h
      rcases List.mem_append.mp h with h | h
      · exact .inl (List.mem_filter.mp h).1
      · exact .inr (by rw [List.mem_singleton.mp h]; exact List.mem_cons_self)
    · exact .inr (List.mem_cons_of_mem _ h)
/-! the law's own rows of what is due -/
def rowP (mt : Nat → Nat → Bool) (a lo m : Nat) : List (Nat × Nat) := ((List.range' lo m).filter fun b => mt a b).map fun b => (a, b)
def dueQ (mt : Nat → Nat → Bool) (n i : Nat) : List (Nat × Nat) := (List.range i).flatMap fun a => rowP mt a (a + 1) (n - (a + 1))
theorem dueQ_all (mt : Nat → Nat → Bool) (n : Nat) : dueQ mt n n = dueP mt n := rfl
theorem dueQ_succ (mt : Nat → Nat → Bool) (n i : Nat) : dueQ mt n (i + 1) = dueQ mt n i ++ rowP mt i (i + 1) (n - (i + 1)) := by
  unfold dueQ
  rw [List.range_succ, List.flatMap_append]
  simp
theorem rowP_yes {mt : Nat → Nat → Bool} {a lo m : Nat} (h : mt a (lo + m) = true) : rowP mt a lo (m + 1) = rowP mt a lo m ++ [(a, lo + m)] := by
  unfold rowP
  rw [List.range'_1_concat, List.filter_append, List.filter_cons_of_pos (p := fun b => mt a b) h, List.filter_nil, List.map_append]
  rfl
theorem rowP_no {mt : Nat → Nat → Bool} {a lo m : Nat} (h : mt a (lo + m) = false) : rowP mt a lo (m + 1) = rowP mt a lo m := by
  unfold rowP
  rw [List.range'_1_concat, List.filter_append, List.filter_cons_of_neg (p := fun b => mt a b) (by rw [h]; exact Bool.false_ne_true), List.filter_nil, List.append_nil]
theorem rowP_len (mt : Nat → Nat → Bool) (a lo m : Nat) : (rowP mt a lo m).length ≤ m := by
  unfold rowP
  rw [List.length_map]
  exact Nat.le_trans (List.length_filter_le _ _) (Nat.le_of_eq List.length_range')
theorem dueQ_len (mt : Nat → Nat → Bool) (n i : Nat) : (dueQ mt n i).length ≤ i * n := by
  induction i with
  | zero => simp [dueQ]
  | succ i ih =>
    rw [dueQ_succ, List.length_append, Nat.succ_mul]
    have := rowP_len mt i (i + 1) (n - (i + 1))
    omega

abbrev Bd := Str × Int × Int × Int
def bD (b : Bd) : PyData := .tuple [.str b.1, .int b.2.1, .int b.2.2.1, .int b.2.2.2]
def gI (ns : List Int) (i : Int) : Int := ns[i.toNat]?.getD 0
theorem at_gI {ns : List Int} {j : Int} (h0 : 0 ≤ j) (h : j < ns.length) : atI (ns.map V.int) j = some (.int (gI ns j)) := by
  obtain ⟨v, e, _, e2⟩ := at_lt (xs := ns.map V.int) h0 (by rw [List.length_map]; exact h)
  rw [e]
  rw [List.getElem?_map, List.getElem?_eq_getElem (by omega)] at e2
  unfold gI
  rw [List.getElem?_eq_getElem (by omega)]
  exact e2.symm
def BOk (n : Nat) (b : Bd) : Prop := 0 ≤ b.2.1 ∧ b.2.1 + 5 ≤ n ∧ 1 ≤ b.2.2.1 ∧ b.2.2.1 ≤ 64 ∧ 1 ≤ b.2.2.2 ∧ b.2.2.2 ≤ 64
def onB (ns : List Int) (b : Bd) : Bool := decide (gI ns (b.2.1 + 4) = 1)
def ovB (ns : List Int) (o t : Bd) : Bool := decide (gI ns o.2.1 < gI ns t.2.1 + 16 * t.2.2.1) && (decide (gI ns t.2.1 < gI ns o.2.1 + 16 * o.2.2.1) && (decide (gI ns (o.2.1 + 1) < gI ns (t.2.1 + 1) + 16 * t.2.2.2) && decide (gI ns (t.2.1 + 1) < gI ns (o.2.1 + 1) + 16 * o.2.2.2)))
def sp__law_size (K : PySem.W.Frag) : Sp := fun vs H Q _ => ∃ (p a : Addr), vs = [.ref p] ∧ DrawAt H p a ∧ ∀ z H', 1 ≤ z → z ≤ 64 → Drew p a H H' → Q (.int z) H'
theorem ok__law_size {P : Program} {w : World} {K : PySem.W.Frag} {mg : Str → Option Value} {base : Heap} {f : Addr} {fd : FuncData} (F : Df K mg "_law_size" s__law_size f fd ["d"]) (T : Txt mg)
    (c__law_draw : Cl P w K mg base 1 "_law_draw" (sp__law_draw K))
    (c__law_pick : Cl P w K mg base 2 "_law_pick" (sp__law_pick K)) : FnOk P w K mg base CX0 3 f fd ["d"] (sp__law_size K) := by
  refine F.ok sc__law_size (fun vs H Q E h => ?_) (fun cdv A outer s H vs Q E hr h => ?_)
  · obtain ⟨p, a, rfl, _⟩ := h
    rfl
  · obtain ⟨p, a, rfl, hd, q⟩ := h
    refine ⟨_, (pss_cons (ps_if (pt_cmpR op_eq (pe_cl c__law_draw hr (by decide) rfl (pa_cons (pv 0) (pa_cons pe_int pa_nil))) pe_int (nomark _)) (pss_one (ps_ret (pe_cl c__law_pick hr (by decide) rfl (pa_cons (pv 0) (pa_cons (pe_lst (pa_cons pe_int (pa_cons pe_int (pa_cons pe_int (pa_cons pe_int pa_nil))))) pa_nil))))) pss_nil)
      (pss_one (ps_ret (pe_op op_add pe_int (pe_cl c__law_draw hr (by decide) rfl (pa_cons (pv 0) (pa_cons pe_int pa_nil))))))), ?_⟩
    try dsimp only [cxOf, Cx.nox, Cx.wish]
    refine st_of (σ' := [some _]) rfl ?_
    wtm_at "jw"
    refine drawL hd.drew (by decide) (by decide) fun z H1 _ _ _ w1 => ?_
    wtm_at "jw"
    refine c_dec (fun h => ?_) (fun h => ?_)
    · wtm_at "jw"
      intro B hB
      wtm_at "jw"
      refine pickL (fun z => 1 ≤ z ∧ z ≤ 64) [1, 2, 63, 64] w1 hB rfl (by simp) (by simp) (by simp) fun y H2 hy _ w2 => ?_
      exact q _ _ hy.1 hy.2 w2
    · wtm_at "jw"
      refine drawL w1 (by decide) (by decide) fun y H2 y0 y1 _ w2 => ?_
      wtm_at "jw"
      exact q (1 + y) _ (by omega) (by omega) w2
def sp__law_anywhere (K : PySem.W.Frag) : Sp := fun vs H Q _ => ∃ (p a : Addr), vs = [.ref p] ∧ DrawAt H p a ∧ ∀ z H', Drew p a H H' → Q (.int z) H'
theorem ok__law_anywhere {P : Program} {w : World} {K : PySem.W.Frag} {mg : Str → Option Value} {base : Heap} {f : Addr} {fd : FuncData} (F : Df K mg "_law_anywhere" s__law_anywhere f fd ["d"]) (T : Txt mg)
    (c__law_draw : Cl P w K mg base 1 "_law_draw" (sp__law_draw K))
    (c__law_pick : Cl P w K mg base 2 "_law_pick" (sp__law_pick K)) : FnOk P w K mg base CX0 3 f fd ["d"] (sp__law_anywhere K) := by
  refine F.ok sc__law_anywhere (fun vs H Q E h => ?_) (fun cdv A outer s H vs Q E hr h => ?_)
  · obtain ⟨p, a, rfl, _⟩ := h
    rfl
  · obtain ⟨p, a, rfl, hd, q⟩ := h
    refine ⟨_, (pss_cons (ps_if (pt_cmpR op_eq (pe_cl c__law_draw hr (by decide) rfl (pa_cons (pv 0) (pa_cons pe_int pa_nil))) pe_int (nomark _)) (pss_one (ps_ret (pe_cl c__law_pick hr (by decide) rfl (pa_cons (pv 0) (pa_cons (pe_lst (pa_cons pe_int (pa_cons pe_int (pa_cons (pe_un un_neg pe_int) (pa_cons pe_int (pa_cons (pe_un un_neg pe_int) pa_nil)))))) pa_nil))))) pss_nil)
      (pss_one (ps_ret (pe_op op_sub (pe_cl c__law_draw hr (by decide) rfl (pa_cons (pv 0) (pa_cons pe_int pa_nil))) pe_int)))), ?_⟩
    try dsimp only [cxOf, Cx.nox, Cx.wish]
    refine st_of (σ' := [some _]) rfl ?_
    wtm_at "jw"
    refine drawL hd.drew (by decide) (by decide) fun z H1 _ _ _ w1 => ?_
    wtm_at "jw"
    refine c_dec (fun h => ?_) (fun h => ?_)
    · wtm_at "jw"
      intro B hB
      wtm_at "jw"
      refine pickL (fun _ => True) [0, 16, -16, 32767, -32768] w1 hB rfl (by simp) (by simp) (by simp) fun y H2 hy _ w2 => ?_
      exact q _ _ w2
    · wtm_at "jw"
      refine drawL w1 (by decide) (by decide) fun y H2 y0 y1 _ w2 => ?_
      wtm_at "jw"
      exact q _ _ w2
def sp__law_spot (K : PySem.W.Frag) : Sp := fun vs H Q _ => ∃ (p a : Addr) (s w z : Int), vs = [.ref p, .int s, .int w, .int z] ∧ DrawAt H p a ∧ 0 ≤ w ∧ w ≤ 100000 ∧ 0 ≤ z ∧ z ≤ 100000 ∧ ∀ r H', Drew p a H H' → Q (.int r) H'
theorem ok__law_spot {P : Program} {w : World} {K : PySem.W.Frag} {mg : Str → Option Value} {base : Heap} {f : Addr} {fd : FuncData} (F : Df K mg "_law_spot" s__law_spot f fd ["d", "start", "width", "size"]) (T : Txt mg)
    (c__law_draw : Cl P w K mg base 1 "_law_draw" (sp__law_draw K)) : FnOk P w K mg base CX0 2 f fd ["d", "start", "width", "size"] (sp__law_spot K) := by
  refine F.ok sc__law_spot (fun vs H Q E h => ?_) (fun cdv A outer s H vs Q E hr h => ?_)
  · obtain ⟨p, a, st, w, z, rfl, _⟩ := h
    rfl
  · obtain ⟨p, a, st, w, z, rfl, hd, wl, wh, zl, zh, q⟩ := h
    refine ⟨_, (pss_cons (ps_set (i := 4) sc__law_spot.nd rfl (Or.inl rfl) (pe_op op_sub (pe_cl c__law_draw hr (by decide) rfl (pa_cons (pv 0) (pa_cons pe_int pa_nil))) pe_int))
      (pss_cons (ps_set (i := 5) sc__law_spot.nd rfl (Or.inl rfl) (pe_cl c__law_draw hr (by decide) rfl (pa_cons (pv 0) (pa_cons pe_int pa_nil))))
      (pss_cons (ps_if (pt_cmpR op_eq (pv 5) pe_int (nomark _)) (pss_one (ps_ret (pe_op op_add (pv 1) (pv 4)))) pss_nil)
      (pss_cons (ps_if (pt_cmpR op_eq (pv 5) pe_int (nomark _)) (pss_one (ps_ret (pe_op op_add (pe_op op_add (pv 1) (pv 2)) (pv 4)))) pss_nil)
      (pss_cons (ps_if (pt_cmpR op_eq (pv 5) pe_int (nomark _)) (pss_one (ps_ret (pe_op op_add (pe_op op_sub (pv 1) (pv 3)) (pv 4)))) pss_nil)
      (pss_one (ps_ret (pe_op op_add (pe_op op_sub (pv 1) (pv 3)) (pe_cl c__law_draw hr (by decide) rfl (pa_cons (pv 0) (pa_cons (pe_op op_add (pe_op op_add (pv 2) (pv 3)) pe_int) pa_nil))))))))))), ?_⟩
    try dsimp only [cxOf, Cx.nox, Cx.wish]
    refine st_of (σ' := [some _, some _, some _, some _, none, none]) rfl ?_
    wtm_at "jw"
    refine drawL hd.drew (by decide) (by decide) fun x1 H1 _ _ _ w1 => ?_
    wtm_at "jw"
    refine drawL w1 (by decide) (by decide) fun x2 H2 _ _ _ w2 => ?_
    wtm_at "jw"
    refine c_dec (fun h => ?_) (fun h => ?_)
    · wtm_at "jw"
      exact q _ _ w2
    · wtm_at "jw"
      refine c_dec (fun h => ?_) (fun h => ?_)
      · wtm_at "jw"
        exact q _ _ w2
      · wtm_at "jw"
        refine c_dec (fun h => ?_) (fun h => ?_)
        · wtm_at "jw"
          exact q _ _ w2
        · wtm_at "jw"
          refine drawL w2 (by omega) (by omega) fun x3 H3 _ _ _ w3 => ?_
          wtm_at "jw"
          exact q _ _ w3
def sp_is_on (K : PySem.W.Frag) : Sp := fun vs H Q _ => ∃ (a : Addr) (v : V) (ns : List Int) (b : Bd), vs = [.ref a, v] ∧ SqT K H a (ns.map V.int) ∧ TD K H v (bD b) ∧ BOk ns.length b ∧ Q (.bl (onB ns b)) H
theorem ok_is_on {P : Program} {w : World} {K : PySem.W.Frag} {mg : Str → Option Value} {base : Heap} {f : Addr} {fd : FuncData} (F : Df K mg "is_on" s_is_on f fd ["state", "body"]) (T : Txt mg) : FnOk P w K mg base CX0 1 f fd ["state", "body"] (sp_is_on K) := by
  refine F.ok sc_is_on (fun vs H Q E h => ?_) (fun cdv A outer s H vs Q E hr h => ?_)
  · obtain ⟨a, v, ns, b, rfl, _⟩ := h
    rfl
  · obtain ⟨a, v, ns, b, rfl, ha, hv, hb, q⟩ := h
    have hv1 : TD K H v (.tuple [.str b.1, .int b.2.1, .int b.2.2.1, .int b.2.2.2]) := hv
    have a4 := at_gI (ns := ns) (j := b.2.1 + 4) (by have := hb.1; omega) (by have := hb.2.1; omega)
    unfold onB at q
    refine ⟨_, (pss_one (ps_ret (pe_cmpR op_eq (pe_ix (r := rIxT K) ix_tup (pv 0) (pe_op op_add (pe_ix (r := rIxT K) ix_tup (pv 1) pe_int (fun _ _ => rfl)) pe_int) (fun _ _ => rfl)) pe_int (nomark _)))), ?_⟩
    try dsimp only [cxOf, Cx.nox, Cx.wish]
    refine st_of (σ' := [some _, some _]) rfl ?_
    wtm_at "jw"
    exact q
def sp_overlapping (K : PySem.W.Frag) : Sp := fun vs H Q _ => ∃ (a : Addr) (v1 v2 : V) (ns : List Int) (o t : Bd), vs = [.ref a, v1, v2] ∧ SqT K H a (ns.map V.int) ∧ TD K H v1 (bD o) ∧ TD K H v2 (bD t) ∧ BOk ns.length o ∧ BOk ns.length t ∧ Q (.bl (ovB ns o t)) H
theorem ok_overlapping {P : Program} {w : World} {K : PySem.W.Frag} {mg : Str → Option Value} {base : Heap} {f : Addr} {fd : FuncData} (F : Df K mg "overlapping" s_overlapping f fd ["state", "one", "other"]) (T : Txt mg) : FnOk P w K mg base CX0 1 f fd ["state", "one", "other"] (sp_overlapping K) := by
  refine F.ok sc_overlapping (fun vs H Q E h => ?_) (fun cdv A outer s H vs Q E hr h => ?_)
  · obtain ⟨a, v1, v2, ns, o, t, rfl, _⟩ := h
    rfl
  · obtain ⟨a, v1, v2, ns, o, t, rfl, ha, hv1, hv2, ho, ht, q⟩ := h
    have hv1' : TD K H v1 (.tuple [.str o.1, .int o.2.1, .int o.2.2.1, .int o.2.2.2]) := hv1
    have hv2' : TD K H v2 (.tuple [.str t.1, .int t.2.1, .int t.2.2.1, .int t.2.2.2]) := hv2
    have a0 := at_gI (ns := ns) (j := o.2.1) (by have := ho.1; omega) (by have := ho.2.1; omega)
    have a1 := at_gI (ns := ns) (j := o.2.1 + 1) (by have := ho.1; omega) (by have := ho.2.1; omega)
    have b0 := at_gI (ns := ns) (j := t.2.1) (by have := ht.1; omega) (by have := ht.2.1; omega)
    have b1 := at_gI (ns := ns) (j := t.2.1 + 1) (by have := ht.1; omega) (by have := ht.2.1; omega)
    unfold ovB at q
    refine ⟨_, (pss_cons (ps_set (i := 3) sc_overlapping.nd rfl (Or.inl rfl) (pe_ix (r := rIxT K) ix_tup (pv 1) pe_int (fun _ _ => rfl)))
      (pss_cons (ps_set (i := 4) sc_overlapping.nd rfl (Or.inl rfl) (pe_ix (r := rIxT K) ix_tup (pv 2) pe_int (fun _ _ => rfl)))
      (pss_cons (ps_if (pt_not (pt_cmpR op_lt (pe_ix (r := rIxT K) ix_tup (pv 0) (pv 3) (fun _ _ => rfl)) (pe_op op_add (pe_ix (r := rIxT K) ix_tup (pv 0) (pv 4) (fun _ _ => rfl)) (pe_op op_mul (pe_cn rfl T.c_PART) (pe_ix (r := rIxT K) ix_tup (pv 2) pe_int (fun _ _ => rfl)))) (nomark _))) (pss_one (ps_ret pe_bl)) pss_nil)
      (pss_cons (ps_if (pt_not (pt_cmpR op_lt (pe_ix (r := rIxT K) ix_tup (pv 0) (pv 4) (fun _ _ => rfl)) (pe_op op_add (pe_ix (r := rIxT K) ix_tup (pv 0) (pv 3) (fun _ _ => rfl)) (pe_op op_mul (pe_cn rfl T.c_PART) (pe_ix (r := rIxT K) ix_tup (pv 1) pe_int (fun _ _ => rfl)))) (nomark _))) (pss_one (ps_ret pe_bl)) pss_nil)
      (pss_cons (ps_if (pt_not (pt_cmpR op_lt (pe_ix (r := rIxT K) ix_tup (pv 0) (pe_op op_add (pv 3) pe_int) (fun _ _ => rfl)) (pe_op op_add (pe_ix (r := rIxT K) ix_tup (pv 0) (pe_op op_add (pv 4) pe_int) (fun _ _ => rfl)) (pe_op op_mul (pe_cn rfl T.c_PART) (pe_ix (r := rIxT K) ix_tup (pv 2) pe_int (fun _ _ => rfl)))) (nomark _))) (pss_one (ps_ret pe_bl)) pss_nil)
      (pss_one (ps_ret (pe_cmpR op_lt (pe_ix (r := rIxT K) ix_tup (pv 0) (pe_op op_add (pv 4) pe_int) (fun _ _ => rfl)) (pe_op op_add (pe_ix (r := rIxT K) ix_tup (pv 0) (pe_op op_add (pv 3) pe_int) (fun _ _ => rfl)) (pe_op op_mul (pe_cn rfl T.c_PART) (pe_ix (r := rIxT K) ix_tup (pv 1) pe_int (fun _ _ => rfl)))) (nomark _))))))))), ?_⟩
    try dsimp only [cxOf, Cx.nox, Cx.wish]
    refine st_of (σ' := [some _, some _, some _, none, none]) rfl ?_
    wtm_at "jw"
    refine c_decN (fun h1 => ?_) (fun h1 => ?_)
    · rw [decide_eq_false h1, Bool.false_and] at q
      wtm_at "jw"
      exact q
    · rw [decide_eq_true h1, Bool.true_and] at q
      wtm_at "jw"
      refine c_decN (fun h2 => ?_) (fun h2 => ?_)
      · rw [decide_eq_false h2, Bool.false_and] at q
        wtm_at "jw"
        exact q
      · rw [decide_eq_true h2, Bool.true_and] at q
        wtm_at "jw"
        refine c_decN (fun h3 => ?_) (fun h3 => ?_)
        · rw [decide_eq_false h3, Bool.false_and] at q
          wtm_at "jw"
          exact q
        · rw [decide_eq_true h3, Bool.true_and] at q
          wtm_at "jw"
          exact q
def sp_touching (K : PySem.W.Frag) : Sp := fun vs H Q _ => ∃ (a : Addr) (v : V) (ns : List Int) (bs : List Bd) (i j : Nat) (o t : Bd), vs = [.ref a, v, .int (i : Int), .int (j : Int)] ∧ SqT K H a (ns.map V.int) ∧ TD K H v (.tuple (bs.map bD)) ∧ bs[i]? = some o ∧ bs[j]? = some t ∧ BOk ns.length o ∧ BOk ns.length t ∧ Q (.bl ((onB ns o && onB ns t) && ovB ns o t)) H
theorem ok_touching {P : Program} {w : World} {K : PySem.W.Frag} {mg : Str → Option Value} {base : Heap} {f : Addr} {fd : FuncData} (F : Df K mg "touching" s_touching f fd ["state", "bodies", "one", "other"]) (T : Txt mg)
    (c_overlapping : Cl P w K mg base 1 "overlapping" (sp_overlapping K))
    (c_is_on : Cl P w K mg base 1 "is_on" (sp_is_on K)) : FnOk P w K mg base CX0 2 f fd ["state", "bodies", "one", "other"] (sp_touching K) := by
  refine F.ok sc_touching (fun vs H Q E h => ?_) (fun cdv A outer s H vs Q E hr h => ?_)
  · obtain ⟨a, v, ns, bs, i, j, o, t, rfl, _⟩ := h
    rfl
  · obtain ⟨a, v, ns, bs, i, j, o, t, rfl, ha, hv, hi, hj, ho, ht, q⟩ := h
    have ei : (bs.map bD)[(i : Int).toNat]? = some (bD o) := by rw [Int.toNat_natCast, List.getElem?_map, hi]; rfl
    have ej : (bs.map bD)[(j : Int).toNat]? = some (bD t) := by rw [Int.toNat_natCast, List.getElem?_map, hj]; rfl
    have i0 : (0 : Int) ≤ (i : Int) := by omega
    have j0 : (0 : Int) ≤ (j : Int) := by omega
    refine ⟨_, (pss_cons (ps_if (pt_not (PW.pt (pw_and (pt_val (pe_cl c_is_on hr (by decide) rfl (pa_cons (pv 0) (pa_cons (pe_ix (r := rIxT K) ix_tup (pv 1) (pv 2) (fun _ _ => rfl)) pa_nil)))) (pw_and1 (pt_val (pe_cl c_is_on hr (by decide) rfl (pa_cons (pv 0) (pa_cons (pe_ix (r := rIxT K) ix_tup (pv 1) (pv 3) (fun _ _ => rfl)) pa_nil)))))))) (pss_one (ps_ret pe_bl)) pss_nil)
      (pss_one (ps_ret (pe_cl c_overlapping hr (by decide) rfl (pa_cons (pv 0) (pa_cons (pe_ix (r := rIxT K) ix_tup (pv 1) (pv 2) (fun _ _ => rfl)) (pa_cons (pe_ix (r := rIxT K) ix_tup (pv 1) (pv 3) (fun _ _ => rfl)) pa_nil))))))), ?_⟩
    try dsimp only [cxOf, Cx.nox, Cx.wish]
    refine st_of (σ' := [some _, some _, some _, some _]) rfl ?_
    wtm_at "jw"
    rename_i y hy
    refine ⟨a, y, ns, o, rfl, ha, hy, ho, ?_⟩
    wtm_at "jw"
    refine c_bool (fun e1 => ?_) (fun e1 => ?_)
    · rw [e1, Bool.true_and] at q
      wtm_at "jw"
      rename_i y2 hy2
      refine ⟨a, y2, ns, t, rfl, ha, hy2, ht, ?_⟩
      wtm_at "jw"
      cases e2 : onB ns t with
      | false =>
        rw [e2, Bool.false_and] at q
        wtm_at "jw"
        exact q
      | true =>
        rw [e2, Bool.true_and] at q
        wtm_at "jw"
        rename_i y3 hy3 y4 hy4
        refine ⟨a, y3, y4, ns, o, t, rfl, ha, hy3, hy4, ho, ht, ?_⟩
        wtm_at "jw"
        exact q
    · rw [e1, Bool.false_and, Bool.false_and] at q
      wtm_at "jw"
      exact q
def OnOk (ns : List Int) (b : Bd) : Prop := gI ns (b.2.1 + 4) = 0 ∨ gI ns (b.2.1 + 4) = 1
def mtB (ns : List Int) (o t : Bd) : Bool := (onB ns o && onB ns t) && ovB ns o t
theorem lap {x w y z : Int} (hw : 1 ≤ w) (hz : 1 ≤ z) : ((if y + 16 * z < x + 16 * w then y + 16 * z else x + 16 * w) ≤ if y > x then y else x) ↔ ¬ (y < x + 16 * w ∧ x < y + 16 * z) := by
  split <;> split <;> omega
def sp__law_common (K : PySem.W.Frag) : Sp := fun vs H Q _ => ∃ (a : Addr) (v1 v2 : V) (ns : List Int) (o t : Bd), vs = [.ref a, v1, v2] ∧ SqT K H a (ns.map V.int) ∧ TD K H v1 (bD o) ∧ TD K H v2 (bD t) ∧ BOk ns.length o ∧ BOk ns.length t ∧ OnOk ns o ∧ OnOk ns t ∧ Q (.bl (mtB ns o t)) H
theorem ok__law_common {P : Program} {w : World} {K : PySem.W.Frag} {mg : Str → Option Value} {base : Heap} {f : Addr} {fd : FuncData} (F : Df K mg "_law_common" s__law_common f fd ["state", "one", "other"]) (T : Txt mg) : FnOk P w K mg base CX0 1 f fd ["state", "one", "other"] (sp__law_common K) := by
  refine F.ok sc__law_common (fun vs H Q E h => ?_) (fun cdv A outer s H vs Q E hr h => ?_)
  · obtain ⟨a, v1, v2, ns, o, t, rfl, _⟩ := h
    rfl
  · obtain ⟨a, v1, v2, ns, o, t, rfl, ha, hv1, hv2, ho, ht, oo, ot, q⟩ := h
    have hv1' : TD K H v1 (.tuple [.str o.1, .int o.2.1, .int o.2.2.1, .int o.2.2.2]) := hv1
    have hv2' : TD K H v2 (.tuple [.str t.1, .int t.2.1, .int t.2.2.1, .int t.2.2.2]) := hv2
    have a0 := at_gI (ns := ns) (j := o.2.1) (by have := ho.1; omega) (by have := ho.2.1; omega)
    have a1 := at_gI (ns := ns) (j := o.2.1 + 1) (by have := ho.1; omega) (by have := ho.2.1; omega)
    have a4 := at_gI (ns := ns) (j := o.2.1 + 4) (by have := ho.1; omega) (by have := ho.2.1; omega)
    have b0 := at_gI (ns := ns) (j := t.2.1) (by have := ht.1; omega) (by have := ht.2.1; omega)
    have b1 := at_gI (ns := ns) (j := t.2.1 + 1) (by have := ht.1; omega) (by have := ht.2.1; omega)
    have b4 := at_gI (ns := ns) (j := t.2.1 + 4) (by have := ht.1; omega) (by have := ht.2.1; omega)
    unfold mtB ovB onB at q
    obtain ⟨_, _, ow, _, oh, _⟩ := ho
    obtain ⟨_, _, tw, _, th, _⟩ := ht
    have oo : gI ns (o.2.1 + 4) = 0 ∨ gI ns (o.2.1 + 4) = 1 := oo
    have ot : gI ns (t.2.1 + 4) = 0 ∨ gI ns (t.2.1 + 4) = 1 := ot
    generalize gI ns (o.2.1 + 4) = o4 at q oo a4 ⊢
    generalize gI ns (t.2.1 + 4) = t4 at q ot b4 ⊢
    generalize gI ns o.2.1 = ox at q a0 ⊢
    generalize gI ns (o.2.1 + 1) = oy at q a1 ⊢
    generalize gI ns t.2.1 = tx at q b0 ⊢
    generalize gI ns (t.2.1 + 1) = ty at q b1 ⊢
    have a0' : atI (ns.map V.int) (o.2.1 + 0) = some (.int ox) := by rw [Int.add_zero]; exact a0
    have b0' : atI (ns.map V.int) (t.2.1 + 0) = some (.int tx) := by rw [Int.add_zero]; exact b0
    refine ⟨_, (pss_cons (ps_if (PW.pt (pw_or (pt_cmpR op_eq (pe_ix (r := rIxT K) ix_tup (pv 0) (pe_op op_add (pe_ix (r := rIxT K) ix_tup (pv 1) pe_int (fun _ _ => rfl)) pe_int) (fun _ _ => rfl)) pe_int (nomark _)) (pw_or1 (pt_cmpR op_eq (pe_ix (r := rIxT K) ix_tup (pv 0) (pe_op op_add (pe_ix (r := rIxT K) ix_tup (pv 2) pe_int (fun _ _ => rfl)) pe_int) (fun _ _ => rfl)) pe_int (nomark _))))) (pss_one (ps_ret pe_bl)) pss_nil)
      (pss_cons (ps_for PassesOwn.never rfl (pi_range1 rfl T.b_range (pa_cons pe_int pa_nil)) (pg_name (i := 3) sc__law_common.nd rfl (Or.inl rfl)) (pss_cons (ps_set (i := 4) sc__law_common.nd rfl (Or.inl rfl) (pe_callB (id := "max") (c_max2 rfl) (by rfl) T.b_max (by decide +kernel) (pa_cons (pe_ix (r := rIxT K) ix_tup (pv 0) (pe_op op_add (pe_ix (r := rIxT K) ix_tup (pv 1) pe_int (fun _ _ => rfl)) (pv 3)) (fun _ _ => rfl)) (pa_cons (pe_ix (r := rIxT K) ix_tup (pv 0) (pe_op op_add (pe_ix (r := rIxT K) ix_tup (pv 2) pe_int (fun _ _ => rfl)) (pv 3)) (fun _ _ => rfl)) pa_nil))))
      (pss_cons (ps_set (i := 5) sc__law_common.nd rfl (Or.inl rfl) (pe_callB (id := "min") (c_min2 rfl) (by rfl) T.b_min (by decide +kernel) (pa_cons (pe_op op_add (pe_ix (r := rIxT K) ix_tup (pv 0) (pe_op op_add (pe_ix (r := rIxT K) ix_tup (pv 1) pe_int (fun _ _ => rfl)) (pv 3)) (fun _ _ => rfl)) (pe_op op_mul pe_int (pe_ix (r := rIxT K) ix_tup (pv 1) (pe_op op_add pe_int (pv 3)) (fun _ _ => rfl)))) (pa_cons (pe_op op_add (pe_ix (r := rIxT K) ix_tup (pv 0) (pe_op op_add (pe_ix (r := rIxT K) ix_tup (pv 2) pe_int (fun _ _ => rfl)) (pv 3)) (fun _ _ => rfl)) (pe_op op_mul pe_int (pe_ix (r := rIxT K) ix_tup (pv 2) (pe_op op_add pe_int (pv 3)) (fun _ _ => rfl)))) pa_nil))))
      (pss_one (ps_if (pt_cmpR op_ge (pv 4) (pv 5) (nomark _)) (pss_one (ps_ret pe_bl)) pss_nil)))))
      (pss_one (ps_ret pe_bl)))), ?_⟩
    try dsimp only [cxOf, Cx.nox, Cx.wish]
    refine st_of (σ' := [some _, some _, some _, none, none, none]) rfl ?_
    wtm_at "jw"
    refine c_dec (fun h => ?_) (fun h => ?_)
    · have q' : Q (.bl false) H := by simpa [h] using q
      wtm_at "jw"
      exact q'
    · have h1 : o4 = 1 := by omega
      wtm_at "jw"
      refine c_dec (fun h => ?_) (fun h => ?_)
      · have q' : Q (.bl false) H := by simpa [h] using q
        wtm_at "jw"
        exact q'
      · have h2 : t4 = 1 := by omega
        subst h1 h2
        wtm_at "jw"
        refine f_range (fun i σ H' => H' = H ∧ (0 < i → tx < ox + 16 * o.2.2.1 ∧ ox < tx + 16 * t.2.2.1) ∧ (1 < i → ty < oy + 16 * o.2.2.2 ∧ oy < ty + 16 * t.2.2.2) ∧ ∃ (v3 v4 v5 : Option V), σ = [some (.ref a), some v1, some v2, v3, v4, v5]) ⟨rfl, by omega, by omega, none, none, none, rfl⟩ (fun i σ H' hi h => ?_) (fun σ H' h => ?_)
        · obtain ⟨rfl, g0, g1, v3, v4, v5, rfl⟩ := h
          have hi2 : i < 2 := hi
          rcases (by omega : i = 0 ∨ i = 1) with rfl | rfl
          · rw [show (0 : Int) + ((0 : Nat) : Int) = 0 from rfl]
            wtm_at "jw"
            refine c_dec (fun hc => ?_) (fun hc => ?_)
            · have nn := (lap ow tw).mp hc
              have q' : Q (.bl false) H' := by
                by_cases hA : tx < ox + 16 * o.2.2.1
                · have hB : ¬ ox < tx + 16 * t.2.2.1 := fun hB => nn ⟨hA, hB⟩
                  simpa [hB] using q
                · simpa [hA] using q
              wtm_at "jw"
              exact q'
            · wtm_at "jw"
              exact ⟨rfl, fun _ => Decidable.of_not_not fun z => hc ((lap ow tw).mpr z), by omega, _, _, _, rfl⟩
          · rw [show (0 : Int) + ((1 : Nat) : Int) = 1 from rfl]
            wtm_at "jw"
            refine c_dec (fun hc => ?_) (fun hc => ?_)
            · have nn := (lap oh th).mp hc
              have q' : Q (.bl false) H' := by
                by_cases hA : ty < oy + 16 * o.2.2.2
                · have hB : ¬ oy < ty + 16 * t.2.2.2 := fun hB => nn ⟨hA, hB⟩
                  simpa [hB] using q
                · simpa [hA] using q
              wtm_at "jw"
              exact q'
            · wtm_at "jw"
              exact ⟨rfl, fun _ => g0 (by omega), fun _ => Decidable.of_not_not fun z => hc ((lap oh th).mpr z), _, _, _, rfl⟩
        · obtain ⟨rfl, g0, g1, v3, v4, v5, rfl⟩ := h
          have g0' := g0 (by decide)
          have g1' := g1 (by decide)
          have q' : Q (.bl true) H' := by simpa [g0', g1'] using q
          wtm_at "jw"
          exact q'
def BsOk (base : Nat) (bs : List Bd) : Prop := ∀ (i : Nat) (b : Bd), bs[i]? = some b → b.2.1 = (base : Int) + 5 * (i : Int) ∧ 1 ≤ b.2.2.1 ∧ b.2.2.1 ≤ 64 ∧ 1 ≤ b.2.2.2 ∧ b.2.2.2 ≤ 64
theorem BsOk.snoc {base : Nat} {bs : List Bd} {b : Bd} (h : BsOk base bs) (h1 : b.2.1 = (base : Int) + 5 * (bs.length : Int)) (h2 : 1 ≤ b.2.2.1 ∧ b.2.2.1 ≤ 64 ∧ 1 ≤ b.2.2.2 ∧ b.2.2.2 ≤ 64) : BsOk base (bs ++ [b]) := fun i c hc => by
  by_cases hi : i < bs.length
  · rw [List.getElem?_append_left hi] at hc
    exact h i c hc
  · rw [List.getElem?_append_right (by omega)] at hc
    cases e : i - bs.length with
    | zero =>
      rw [e] at hc
      cases hc
      exact ⟨by rw [h1]; omega, h2⟩
    | succ n =>
      rw [e] at hc
      cases hc
def sp__law_bodies (K : PySem.W.Frag) : Sp := fun vs H Q _ => ∃ (p a : Addr) (first many : Nat), vs = [.ref p, .int (first : Int), .int (many : Int)] ∧ DrawAt H p a ∧ first ≤ 12 ∧ many ≤ 6 ∧ ∀ v (bs : List Bd) H', Drew p a H H' → TD K H' v (.tuple (bs.map bD)) → bs.length = many → BsOk (2 + first) bs → Q v H'
theorem ok__law_bodies {P : Program} {w : World} {K : PySem.W.Frag} {mg : Str → Option Value} {base : Heap} {f : Addr} {fd : FuncData} (F : Df K mg "_law_bodies" s__law_bodies f fd ["d", "first", "many"]) (T : Txt mg)
    (c__law_pool : Cl P w K mg base 1 "_law_pool" (sp__law_pool K))
    (c__law_pop : Cl P w K mg base 2 "_law_pop" (sp__law_pop K))
    (c__law_size : Cl P w K mg base 3 "_law_size" (sp__law_size K)) : FnOk P w K mg base CX0 4 f fd ["d", "first", "many"] (sp__law_bodies K) := by
  refine F.ok sc__law_bodies (fun vs H Q E h => ?_) (fun cdv A outer s H vs Q E hr h => ?_)
  · obtain ⟨p, a, first, many, rfl, _⟩ := h
    rfl
  · obtain ⟨p, a, first, many, rfl, d0, f12, m6, q⟩ := h
    refine ⟨_, (pss_cons (ps_set (i := 3) sc__law_bodies.nd rfl (Or.inl rfl) (pe_cl0 c__law_pool hr (by decide) rfl))
      (pss_cons (ps_set (i := 4) sc__law_bodies.nd rfl (Or.inl rfl) (pe_lst pa_nil))
      (pss_cons (ps_for PassesOwn.never rfl (pi_range1 rfl T.b_range (pa_cons (pv 2) pa_nil)) (pg_name (i := 5) sc__law_bodies.nd rfl (Or.inl rfl)) (pss_cons (ps_set (i := 6) sc__law_bodies.nd rfl (Or.inl rfl) (pe_cl c__law_pop hr (by decide) rfl (pa_cons (pv 0) (pa_cons (pv 3) pa_nil))))
      (pss_cons (ps_set (i := 7) sc__law_bodies.nd rfl (Or.inl rfl) (pe_cl c__law_size hr (by decide) rfl (pa_cons (pv 0) pa_nil)))
      (pss_one (ps_expr (pe_bmK (K := K) rfl PySem.F.plainAttrs_list PySem.F.slot_list_append PySem.F.type_list_append mt_append (pv 4) (pa_cons (pe_tup (pa_cons (pv 6) (pa_cons (pe_op op_add (pe_op op_add pe_int (pv 1)) (pe_op op_mul pe_int (pv 5))) (pa_cons (pv 7) (pa_cons (pe_cl c__law_size hr (by decide) rfl (pa_cons (pv 0) pa_nil)) pa_nil))))) pa_nil)))))))
      (pss_one (ps_ret (pe_callTy (T := "tuple") (r := rTupOf K) c_tup (by rfl) T.b_tuple (by decide +kernel) (pa_cons (pv 4) pa_nil))))))), ?_⟩
    try dsimp only [cxOf, Cx.nox, Cx.wish]
    refine st_of (σ' := [some _, some _, some _, none, none, none, none, none]) rfl ?_
    wtm_at "jw"
    refine ⟨rfl, fun N ys H1 s1 hN0 hN1 hyl => ?_⟩
    have w1 := d0.drew.same s1
    have nN : N ≠ p := d0.ne_none hN0
    wtm_at "jw"
    intro BL hBL
    have w2 := w1.new (o := .lst []) hBL
    have hB2 : LD K (upd H1 BL (.lst [])) BL (([] : List Bd).map bD) := .new hBL .nil
    have hN2 := same_new (o := .lst []) hBL _ _ hN1
    have B0 := w1.free hBL
    have nB := d0.ne_none B0
    have nBN : BL ≠ N := (ne_of_none hN1 hBL).symm
    generalize upd H1 BL (.lst []) = H2 at w2 hB2 hN2 ⊢
    wtm_at "jw"
    refine f_range (fun i σ H' => Drew p a H H' ∧ ∃ (zs : List Str) (bs : List Bd) (v5 v6 v7 : Option V), H' N = some (.lst (zs.map V.str)) ∧ LD K H' BL (bs.map bD) ∧ BsOk (2 + first) bs ∧ bs.length = i ∧ zs.length + i = 61 ∧
        σ = [some (.ref p), some (.int (first : Int)), some (.int (many : Int)), some (.ref N), some (.ref BL), v5, v6, v7])
      ⟨w2, ys, [], none, none, none, hN2, hB2, fun i b h => by simp at h, rfl, by omega, rfl⟩ (fun i σ H' hi h => ?_) (fun σ H' h => ?_)
    · obtain ⟨w3, zs, bs, v5, v6, v7, hN3, hB3, hbs, hbl, hzl, rfl⟩ := h
      obtain ⟨us, hus, tus⟩ := hB3
      rw [Int.zero_add]
      wtm_at "jw"
      refine popL w3 d0 hN0 hN3 (by omega) (by omega) fun x zs' H4 kp tp w4 hN4 hzl' => ?_
      have hB4 : LD K H4 BL (bs.map bD) := ⟨us, kp _ _ hus nB nBN, tus.tps tp⟩
      wtm_at "jw"
      refine ⟨p, a, rfl, w4.at_, fun z1 H5 z10 z11 e => ?_⟩
      have w5 := w4.trans e
      have hB5 := hB4.drew w4.at_ e nB
      have hN5 := e.kp _ _ hN4 nN
      wtm_at "jw"
      refine ⟨p, a, rfl, w5.at_, fun z2 H6 z20 z21 e => ?_⟩
      have w6 := w5.trans e
      have hN6 := e.kp _ _ hN5 nN
      obtain ⟨us, hus, tus⟩ := hB5.drew w5.at_ e nB
      have hul := tus.len
      rw [List.length_map] at hul
      wtm_at "jw"
      intro T hT
      have t7 : TD K (upd H6 T (.tup [.str x, .int (2 + (first : Int) + 5 * (i : Int)), .int z1, .int z2])) (.ref T) (bD (x, 2 + (first : Int) + 5 * (i : Int), z1, z2)) := TD.new hT (.cons (.str _) (.cons (.int _) (.cons (.int _) (.cons (.int _) .nil))))
      have s7 := same_new (o := .tup [.str x, .int (2 + (first : Int) + 5 * (i : Int)), .int z1, .int z2]) hT
      have w7 := w6.same s7
      have hN7 := s7 _ _ hN6
      have hus7 := s7 _ _ hus
      have tus7 := tus.same s7
      generalize upd H6 T (.tup [.str x, .int (2 + (first : Int) + 5 * (i : Int)), .int z1, .int z2]) = H7 at w7 hN7 hus7 tus7 t7 ⊢
      have hsz : us.length < sizeLine := small1000 (by omega)
      wtm_at "jw"
      refine ⟨w7.put d0 B0, zs', bs ++ [(x, 2 + (first : Int) + 5 * (i : Int), z1, z2)], _, _, _, by rw [upd_ne nBN.symm]; exact hN7, by rw [List.map_append]; exact LD.snoc hus7 tus7 t7, hbs.snoc (by show 2 + (first : Int) + 5 * (i : Int) = ((2 + first : Nat) : Int) + 5 * (bs.length : Int); omega) ⟨z10, z11, z20, z21⟩, by simp [hbl], by omega, rfl⟩
    · obtain ⟨w3, zs, bs, v5, v6, v7, hN3, ⟨us, hus, tus⟩, hbs, hbl, hzl, rfl⟩ := h
      wtm_at "jw"
      intro r hr'
      exact q _ bs _ (w3.new hr') (TD.new hr' tus) (by omega) hbs
/-- the body of a number; the numbers that are on; the order's pairs -/
def bdN (bs : List Bd) (k : Nat) : Bd := bs[k]?.getD (Str.ofString "", 0, 0, 0)
def onK (ns : List Int) (bs : List Bd) (n : Nat) : List Nat := (List.range n).filter fun k => onB ns (bdN bs k)
def ordP (ns : List Int) (bs : List Bd) (ks : List Nat) : List (Int × Int) := ks.map fun k => (gI ns (bdN bs k).2.1, (k : Int))
theorem bdN_at {bs : List Bd} {k : Nat} (h : k < bs.length) : bs[k]? = some (bdN bs k) := by
  unfold bdN
  rw [List.getElem?_eq_getElem h]
  rfl
theorem onK_yes {ns : List Int} {bs : List Bd} {i : Nat} (h : onB ns (bdN bs i) = true) : ordP ns bs (onK ns bs (i + 1)) = ordP ns bs (onK ns bs i) ++ [(gI ns (bdN bs i).2.1, (i : Int))] := by
  unfold ordP onK
  rw [List.range_succ, List.filter_append, List.filter_cons_of_pos (p := fun k => onB ns (bdN bs k)) h, List.filter_nil, List.map_append]
  rfl
theorem onK_no {ns : List Int} {bs : List Bd} {i : Nat} (h : onB ns (bdN bs i) = false) : ordP ns bs (onK ns bs (i + 1)) = ordP ns bs (onK ns bs i) := by
  unfold ordP onK
  rw [List.range_succ, List.filter_append, List.filter_cons_of_neg (p := fun k => onB ns (bdN bs k)) (by rw [h]; exact Bool.false_ne_true), List.filter_nil, List.append_nil]
def natV (l : List Nat) : List V := l.map fun (k : Nat) => V.int (k : Int)
def toI (q : Nat × Nat) : Int × Int := ((q.1 : Int), (q.2 : Int))
def ovK (ns : List Int) (bs : List Bd) (a b : Nat) : Bool := ovB ns (bdN bs a) (bdN bs b)
def kpK (ns : List Int) (bs : List Bd) (a k : Nat) : Bool := decide (gI ns (bdN bs k).2.1 < gI ns (bdN bs a).2.1 + 16 * (bdN bs a).2.2.1)
theorem ov_sym (ns : List Int) (bs : List Bd) (a b : Nat) : ovK ns bs a b = ovK ns bs b a := by
  unfold ovK ovB
  rw [Bool.eq_iff_iff]
  simp only [Bool.and_eq_true, decide_eq_true_eq]
  constructor
  · rintro ⟨h1, h2, h3, h4⟩
    exact ⟨h2, h1, h4, h3⟩
  · rintro ⟨h1, h2, h3, h4⟩
    exact ⟨h2, h1, h4, h3⟩
theorem ov_kp (ns : List Int) (bs : List Bd) (a b : Nat) (h : ovK ns bs a b = true) : kpK ns bs a b = true := by
  unfold ovK ovB at h
  simp only [Bool.and_eq_true, decide_eq_true_eq] at h
  exact decide_eq_true h.2.1
theorem kp_mono {ns : List Int} {bs : List Bd} {a k k' : Nat} (hl : gI ns (bdN bs k).2.1 ≤ gI ns (bdN bs k').2.1) (h : kpK ns bs a k = false) : kpK ns bs a k' = false := by
  unfold kpK at h ⊢
  rw [decide_eq_false_iff_not] at h ⊢
  omega
theorem ord_ks {ns : List Int} {bs : List Bd} {n : Nat} {ps : List (Int × Int)} (srt : SortsTo ps (ordP ns bs (onK ns bs n))) :
    ∃ ks : List Nat, ps = ordP ns bs ks ∧ ks.Perm (onK ns bs n) ∧ ks.Pairwise fun k k' => gI ns (bdN bs k).2.1 ≤ gI ns (bdN bs k').2.1 := by
  obtain ⟨pm, pw⟩ := srt
  have e : ps = ordP ns bs (ps.map fun p => p.2.toNat) := by
    unfold ordP
    rw [List.map_map]
    refine (List.map_id' ps).symm.trans (List.map_congr_left fun p hp => ?_)
    obtain ⟨k, _, rfl⟩ := List.mem_map.mp (pm.mem_iff.mp hp)
    rfl
  refine ⟨ps.map fun p => p.2.toNat, e, ?_, ?_⟩
  · have h := pm.map fun p => p.2.toNat
    unfold ordP at h
    rw [List.map_map] at h
    have e2 : (onK ns bs n).map ((fun p : Int × Int => p.2.toNat) ∘ fun k : Nat => (gI ns (bdN bs k).2.1, (k : Int))) = onK ns bs n := (List.map_congr_left fun y _ => rfl).trans (List.map_id' _)
    rw [e2] at h
    exact h
  · rw [e] at pw
    unfold ordP at pw
    rw [List.pairwise_map] at pw
    refine pw.imp fun {x y} h => ?_
    have h2 : ¬ SrtO.lexB (gI ns (bdN bs y).2.1, (y : Int)) (gI ns (bdN bs x).2.1, (x : Int)) = true := by rw [h]; exact Bool.false_ne_true
    rw [SrtO.lexB_iff] at h2
    simp only at h2
    omega
theorem natV_len (l : List Nat) : (natV l).length = l.length := by unfold natV; rw [List.length_map]
theorem natV_at {l : List Nat} {i : Nat} {x : V} (h : (natV l)[i]? = some x) : ∃ o : Nat, x = .int (o : Int) ∧ l[i]? = some o ∧ l.take (i + 1) = l.take i ++ [o] := by
  unfold natV at h
  rw [List.getElem?_map] at h
  cases e : l[i]? with
  | none => rw [e] at h; cases h
  | some z =>
    rw [e] at h
    exact ⟨z, (Option.some.inj h).symm, rfl, by rw [List.take_add_one, e]; rfl⟩
theorem pr_toI (o k : Nat) : ((if (k : Int) < (o : Int) then (k : Int) else (o : Int)), (if (k : Int) > (o : Int) then (k : Int) else (o : Int))) = toI (prN o k) := by
  unfold toI prN
  refine Prod.ext ?_ ?_ <;> simp only <;> split <;> omega
def mtK (ns : List Int) (bs : List Bd) (a b : Nat) : Bool := (onB ns (bdN bs a) && onB ns (bdN bs b)) && ovK ns bs a b
def frI (p : Int × Int) : Nat × Nat := (p.1.toNat, p.2.toNat)
theorem sorted_due {ov : Nat → Nat → Bool} {on : Nat → Bool} {n : Nat} {ks : List Nat} {s : List Nat × List (Nat × Nat)} {G : List (Int × Int)} (sym : ∀ a b, ov a b = ov b a) (hk : ∀ k, k ∈ ks ↔ k < n ∧ on k = true)
    (h : Sw ov ks [] s) (srt : SortsTo G (s.2.map toI)) : G = (dueP (fun a b => (on a && on b) && ov a b) n).map toI := by
  obtain ⟨pm, pw⟩ := srt
  have e : G = (G.map frI).map toI := by
    rw [List.map_map]
    refine (List.map_id' G).symm.trans (List.map_congr_left fun p hp => ?_)
    obtain ⟨k, _, rfl⟩ := List.mem_map.mp (pm.mem_iff.mp hp)
    rfl
  have e2 := sweep_due (G := G.map frI) sym hk h (by
    have h1 := pm.map frI
    rw [List.map_map] at h1
    have e3 : s.2.map (frI ∘ toI) = s.2 := (List.map_congr_left fun y _ => rfl).trans (List.map_id' _)
    rw [e3] at h1
    exact h1) (by
    rw [e] at pw
    rw [List.pairwise_map] at pw
    refine pw.imp fun {x y} h => ?_
    have h2 : ¬ SrtO.lexB (toI y) (toI x) = true := by rw [h]; exact Bool.false_ne_true
    rw [SrtO.lexB_iff] at h2
    unfold toI at h2
    simp only at h2
    omega)
  rw [e, e2]
def sp_touching_pairs (K : PySem.W.Frag) : Sp := fun vs H Q _ => ∃ (a : Addr) (v : V) (ns : List Int) (bs : List Bd), vs = [.ref a, v] ∧ SqT K H a (ns.map V.int) ∧ TD K H v (.tuple (bs.map bD)) ∧ bs.length ≤ 6 ∧ (∀ b ∈ bs, BOk ns.length b) ∧ ∀ v' H', Same H H' → TD K H' v' (.tuple ((dueP (mtK ns bs) bs.length).map (pD ∘ toI))) → Q v' H'
theorem ok_touching_pairs {P : Program} {w : World} {K : PySem.W.Frag} {mg : Str → Option Value} {base : Heap} {f : Addr} {fd : FuncData} (F : Df K mg "touching_pairs" s_touching_pairs f fd ["state", "bodies"]) (T : Txt mg)
    (c_is_on : Cl P w K mg base 1 "is_on" (sp_is_on K))
    (c_overlapping : Cl P w K mg base 1 "overlapping" (sp_overlapping K)) : FnOk P w K mg base CX0 2 f fd ["state", "bodies"] (sp_touching_pairs K) := by
  refine F.ok sc_touching_pairs (fun vs H Q E h => ?_) (fun cdv A outer s H vs Q E hr h => ?_)
  · obtain ⟨a, v, ns, bs, rfl, _⟩ := h
    rfl
  · obtain ⟨a, v, ns, bs, rfl, ha, hv, hl, hb, q⟩ := h
    refine ⟨_, (pss_cons (ps_set (i := 2) sc_touching_pairs.nd rfl (Or.inl rfl) (pe_callB (id := "sorted") (r := rSortedPO K) cr_sortedPO (by rfl) T.b_sorted (by decide +kernel) (pa_cons (pe_lc (own := [("k", 3)]) (g := gName 3) rfl sc_touching_pairs.nd (pi_range1 rfl T.b_range (pa_cons (pe_callB (id := "len") (r := qLen K) c_len (by rfl) T.b_len (by decide +kernel) (pa_cons (pv 1) pa_nil)) pa_nil)) (blkOk_by (own := [("k", 3)]) (N := N_touching_pairs) (sc := defScope s_touching_pairs) (by decide +kernel)) (fun _ _ _ _ _ => (pg_name (i := 3) sc_touching_pairs.nd rfl (Or.inl rfl))) (fun _ _ _ _ _ => pts_one (pt_val (pe_cl c_is_on hr (by decide) rfl (pa_cons (pv 0) (pa_cons (pe_ix (r := rIxT K) ix_tup (pv 1) (pv 3) (fun _ _ => rfl)) pa_nil))))) (fun _ _ _ _ _ => (pe_tup (pa_cons (pe_ix (r := rIxT K) ix_tup (pv 0) (pe_ix (r := rIxT K) ix_tup (pe_ix (r := rIxT K) ix_tup (pv 1) (pv 3) (fun _ _ => rfl)) pe_int (fun _ _ => rfl)) (fun _ _ => rfl)) (pa_cons (pv 3) pa_nil))))) pa_nil)))
      (pss_cons (ps_set (i := 4) sc_touching_pairs.nd rfl (Or.inl rfl) (pe_lst pa_nil))
      (pss_cons (ps_set (i := 5) sc_touching_pairs.nd rfl (Or.inl rfl) (pe_lst pa_nil))
      (pss_cons (ps_for PassesOwn.never rfl (pi_list (pv 2)) (pg_tupK (K := K) rfl rfl (pgs_cons (pg_name (i := 6) sc_touching_pairs.nd rfl (Or.inl rfl)) (pgs_cons (pg_name (i := 3) sc_touching_pairs.nd rfl (Or.inl rfl)) pgs_nil))) (pss_cons (ps_set (i := 7) sc_touching_pairs.nd rfl (Or.inl rfl) (pe_lst pa_nil))
      (pss_cons (ps_for PassesOwn.never rfl (pi_list (pv 4)) (pg_name (i := 8) sc_touching_pairs.nd rfl (Or.inl rfl)) (pss_one (ps_if (pt_cmpR op_gt (pe_op op_add (pe_ix (r := rIxT K) ix_tup (pv 0) (pe_ix (r := rIxT K) ix_tup (pe_ix (r := rIxT K) ix_tup (pv 1) (pv 8) (fun _ _ => rfl)) pe_int (fun _ _ => rfl)) (fun _ _ => rfl)) (pe_op op_mul (pe_cn rfl T.c_PART) (pe_ix (r := rIxT K) ix_tup (pe_ix (r := rIxT K) ix_tup (pv 1) (pv 8) (fun _ _ => rfl)) pe_int (fun _ _ => rfl)))) (pv 6) (nomark _)) (pss_cons (ps_expr (pe_bmK (K := K) rfl PySem.F.plainAttrs_list PySem.F.slot_list_append PySem.F.type_list_append mt_append (pv 7) (pa_cons (pv 8) pa_nil)))
      (pss_one (ps_if (pt_val (pe_cl c_overlapping hr (by decide) rfl (pa_cons (pv 0) (pa_cons (pe_ix (r := rIxT K) ix_tup (pv 1) (pv 8) (fun _ _ => rfl)) (pa_cons (pe_ix (r := rIxT K) ix_tup (pv 1) (pv 3) (fun _ _ => rfl)) pa_nil))))) (pss_one (ps_expr (pe_bmK (K := K) rfl PySem.F.plainAttrs_list PySem.F.slot_list_append PySem.F.type_list_append mt_append (pv 5) (pa_cons (pe_tup (pa_cons (pe_callB (id := "min") (c_min2 rfl) (by rfl) T.b_min (by decide +kernel) (pa_cons (pv 8) (pa_cons (pv 3) pa_nil))) (pa_cons (pe_callB (id := "max") (c_max2 rfl) (by rfl) T.b_max (by decide +kernel) (pa_cons (pv 8) (pa_cons (pv 3) pa_nil))) pa_nil))) pa_nil)))) pss_nil))) pss_nil)))
      (pss_cons (ps_expr (pe_bmK (K := K) rfl PySem.F.plainAttrs_list PySem.F.slot_list_append PySem.F.type_list_append mt_append (pv 7) (pa_cons (pv 3) pa_nil)))
      (pss_one (ps_set (i := 4) sc_touching_pairs.nd rfl (Or.inl rfl) (pv 7)))))))
      (pss_one (ps_ret (pe_callTy (T := "tuple") (r := rTupOf K) c_tup (by rfl) T.b_tuple (by decide +kernel) (pa_cons (pe_callB (id := "sorted") (r := rSortedPO K) cr_sortedPO (by rfl) T.b_sorted (by decide +kernel) (pa_cons (pv 5) pa_nil)) pa_nil)))))))), ?_⟩
    try dsimp only [cxOf, Cx.nox, Cx.wish]
    refine st_of (σ' := [some _, some _, none, none, none, none, none, none, none]) rfl ?_
    wtm_at "jw"
    intro D hD
    refine l_range (fun i H' => Same H H' ∧ LPr H' D (ordP ns bs (onK ns bs i))) ⟨same_new hD, [], upd_same, .nil⟩ (fun i H' hi h => ?_) (fun H1 h => ?_)
    · obtain ⟨s1, rs, hrs, wr⟩ := h
      have hi' : i < bs.length := by simpa using hi
      have hbi := bdN_at hi'
      have ei : (bs.map bD)[((i : Nat) : Int).toNat]? = some (bD (bdN bs i)) := by rw [Int.toNat_natCast, List.getElem?_map, hbi]; rfl
      have hok := hb _ (List.mem_of_getElem? hbi)
      have hv1 := hv.same s1
      have ha1 := (Tps.of s1).sq ha
      have i0 : (0 : Int) ≤ (i : Int) := by omega
      have a0 := at_gI (ns := ns) (j := (bdN bs i).2.1) hok.1 (by have := hok.2.1; omega)
      rw [Int.zero_add]
      wtm_at "jw"
      refine ⟨rfl, ?_⟩
      wtm_at "jw"
      rename_i y hy
      refine ⟨a, y, ns, bdN bs i, rfl, ha1, hy, hok, ?_⟩
      wtm_at "jw"
      refine c_bool (fun e => ?_) (fun e => ?_)
      · have hy1 : TD K H' y (.tuple [.str (bdN bs i).1, .int (bdN bs i).2.1, .int (bdN bs i).2.2.1, .int (bdN bs i).2.2.2]) := hy
        wtm_at "jw"
        intro p hp
        have hlen : rs.length ≤ i := by
          have h1 := wr.1
          unfold ordP onK at h1
          rw [List.length_map] at h1
          have h2 := List.length_filter_le (fun k => onB ns (bdN bs k)) (List.range i)
          rw [List.length_range] at h2
          omega
        rw [onK_yes e]
        exact ⟨rs.map V.ref, by rw [upd_ne (ne_of_none hrs hp)]; exact hrs, small1000 (by rw [List.length_map]; omega), put_same (s1.trans (same_new hp)) hD, LPr.add hrs wr hp⟩
      · rw [onK_no e]
        wtm_at "jw"
        exact ⟨s1, rs, hrs, wr⟩
    · obtain ⟨s1, hL⟩ := h
      wtm_at "jw"
      refine i_sortP hL fun R H2 ps s2 srt nR hR => ?_
      obtain ⟨ks, rfl, pk, up⟩ := ord_ks srt
      have s12 := s1.trans s2
      have kon : ∀ k, k ∈ ks ↔ k < bs.length ∧ onB ns (bdN bs k) = true := fun k => by
        rw [pk.mem_iff]
        unfold onK
        rw [List.mem_filter, List.mem_range]
        simp
      have knd : ks.Nodup := pk.nodup_iff.mpr (List.Pairwise.filter _ List.nodup_range)
      have kl : ks.length ≤ 6 := by
        rw [pk.length_eq]
        unfold onK
        have h2 := List.length_filter_le (fun k => onB ns (bdN bs k)) (List.range (List.map bD bs).length)
        rw [List.length_range, List.length_map] at h2
        simpa using Nat.le_trans h2 hl
      have kok : ∀ k ∈ ks, k < bs.length ∧ BOk ns.length (bdN bs k) := fun k hk => by
        have h1 := ((kon k).mp hk).1
        exact ⟨h1, hb _ (List.mem_of_getElem? (bdN_at h1))⟩
      wtm_at "jw"
      intro r0 hr0
      have s3 := s12.trans (same_new (o := .lst []) hr0)
      have hR3 := hR.same (same_new (o := .lst []) hr0)
      have hr3 := upd_same (H := H2) (a := r0) (o := .lst [])
      have r0H := s12.free hr0
      generalize upd H2 r0 (.lst []) = H3 at s3 hR3 hr3 ⊢
      wtm_at "jw"
      intro F0 hF0
      have s4 := s3.trans (same_new (o := .lst []) hF0)
      obtain ⟨rs', hR4, wR4⟩ := hR3.same (same_new (o := .lst []) hF0)
      have hr4 := same_new (o := .lst []) hF0 _ _ hr3
      have hF4 := upd_same (H := H3) (a := F0) (o := .lst [])
      have F0H := s3.free hF0
      have nrF : r0 ≠ F0 := ne_of_none hr3 hF0
      have nRF : R ≠ F0 := by obtain ⟨_, h, _⟩ := hR3; exact ne_of_none h hF0
      generalize upd H3 F0 (.lst []) = H4 at s4 hR4 wR4 hr4 hF4 ⊢
      have wl := wR4.1
      unfold ordP at wl
      rw [List.length_map] at wl
      wtm_at "jw"
      refine f_list (xs := rs'.map V.ref) (fun i σ H' => Same H H' ∧ Tps H4 H' ∧ H' R = some (.lst (rs'.map V.ref)) ∧ ∃ (r : Addr) (v3 v6 v7 v8 : Option V), H r = none ∧ r ≠ F0 ∧ H' r = some (.lst (natV (((ks.take i).foldl (stpS (ovK ns bs) (kpK ns bs)) ([], [])).1))) ∧ LPr H' F0 ((((ks.take i).foldl (stpS (ovK ns bs) (kpK ns bs)) ([], [])).2).map toI) ∧
          σ = [some (.ref a), some v, some (.ref R), v3, some (.ref r), some (.ref F0), v6, v7, v8])
        ⟨s4, fun b => ⟨fun _ h => h, fun _ _ h => h⟩, hR4, r0, none, none, none, none, r0H, nrF, hr4, ⟨[], hF4, .nil⟩, rfl⟩ (fun i σ H' _ h => SqL.of h.2.2.1) (fun i x σ H' hi h => ?_) (fun σ H' h => ?_)
      · obtain ⟨s5, t5, hR5, r, v3, v6, v7, v8, rH, nr, hr5, hF5, rfl⟩ := h
        obtain ⟨q0, p, rfl, e1, e2, hq0, _, hip⟩ := (wR4.tps t5).at hi
        have hik : i < ks.length := by rw [ordP, List.length_map] at hip; exact hip
        obtain ⟨k, hk⟩ : ∃ k, ks[i]? = some k := ⟨_, List.getElem?_eq_getElem hik⟩
        have htk : ks.take (i + 1) = ks.take i ++ [k] := by rw [List.take_add_one, hk]; rfl
        have ep : p = (gI ns (bdN bs k).2.1, (k : Int)) := by
          unfold ordP at e2
          rw [List.getElem?_map, hk] at e2
          exact (Option.some.inj e2).symm
        subst ep
        rw [htk, List.foldl_append, List.foldl_cons, List.foldl_nil]
        have htl : (ks.take i).length ≤ 6 := by rw [List.length_take]; omega
        have hsub : ∀ a ∈ ((ks.take i).foldl (stpS (ovK ns bs) (kpK ns bs)) ([], [])).1, a ∈ ks := fun a ha => by
          rcases stp_sub _ _ _ ha with h | h
          · cases h
          · exact List.mem_of_mem_take h
        have hle : ((ks.take i).foldl (stpS (ovK ns bs) (kpK ns bs)) ([], [])).1.length ≤ 6 := by
          have := stp_len1 (ov := ovK ns bs) (keep := kpK ns bs) (ks.take i) ([], [])
          simp only [List.length_nil] at this
          omega
        have hfl : ((ks.take i).foldl (stpS (ovK ns bs) (kpK ns bs)) ([], [])).2.length ≤ 36 := by
          have := stp_len2 (ov := ovK ns bs) (keep := kpK ns bs) (ks.take i) ([], [])
          have h2 : (ks.take i).length * (0 + (ks.take i).length) ≤ 6 * 6 := Nat.mul_le_mul htl (by omega)
          simp only [List.length_nil] at this
          omega
        generalize (ks.take i).foldl (stpS (ovK ns bs) (kpK ns bs)) ([], []) = st at hr5 hF5 hsub hle hfl ⊢
        obtain ⟨rs, fs⟩ := st
        have hle : rs.length ≤ 6 := hle
        have hfl : fs.length ≤ 36 := hfl
        have hkk := kok k (List.mem_of_getElem? hk)
        have ek : (bs.map bD)[((k : Nat) : Int).toNat]? = some (bD (bdN bs k)) := by rw [Int.toNat_natCast, List.getElem?_map, bdN_at hkk.1]; rfl
        have k0 : (0 : Int) ≤ (k : Int) := by omega
        wtm_at "jw"
        intro S hS
        have s6 := s5.trans (same_new (o := .lst []) hS)
        have SH : H S = none := s5.free hS
        have nrS : r ≠ S := ne_of_none hr5 hS
        have nRS : R ≠ S := ne_of_none hR5 hS
        have nFS : F0 ≠ S := by obtain ⟨_, h, _⟩ := hF5; exact ne_of_none h hS
        have t6 := t5.trans (Tps.of (same_new (o := .lst []) hS))
        have hR6 := same_new (o := .lst []) hS _ _ hR5
        have hr6 := same_new (o := .lst []) hS _ _ hr5
        have hF6 := hF5.same (same_new (o := .lst []) hS)
        have hS6 : upd H' S (.lst []) S = some (.lst []) := upd_same
        generalize upd H' S (.lst []) = H6 at s6 t6 hR6 hr6 hF6 hS6 ⊢
        wtm_at "jw"
        refine f_list (xs := natV rs) (fun j σ H'' => Same H H'' ∧ Tps H4 H'' ∧ H'' R = some (.lst (rs'.map V.ref)) ∧ H'' r = some (.lst (natV rs)) ∧ H'' S = some (.lst (natV ((rs.take j).filter fun o => kpK ns bs o k))) ∧
            LPr H'' F0 ((fs ++ (((rs.take j).filter fun o => kpK ns bs o k).filter fun o => ovK ns bs o k).map fun o => prN o k).map toI) ∧ ∃ v8', σ = [some (.ref a), some v, some (.ref R), some (.int (k : Int)), some (.ref r), some (.ref F0), some (.int (gI ns (bdN bs k).2.1)), some (.ref S), v8'])
          ⟨s6, t6, hR6, hr6, hS6, by simpa using hF6, v8, rfl⟩ (fun j σ H'' _ h => SqL.of h.2.2.2.1) (fun j x σ H'' hj h => ?_) (fun σ H'' h => ?_)
        · obtain ⟨s7, t7, hR7, hr7, hS7, hF7, v8', rfl⟩ := h
          obtain ⟨o, rfl, ho, hto⟩ := natV_at hj
          have hook := kok o (hsub o (List.mem_of_getElem? ho))
          have eo : (bs.map bD)[((o : Nat) : Int).toNat]? = some (.tuple [.str (bdN bs o).1, .int (bdN bs o).2.1, .int (bdN bs o).2.2.1, .int (bdN bs o).2.2.2]) := by rw [Int.toNat_natCast, List.getElem?_map, bdN_at hook.1]; rfl
          have o0 : (0 : Int) ≤ (o : Int) := by omega
          have ax := at_gI (ns := ns) (j := (bdN bs o).2.1) hook.2.1 (by have := hook.2.2.1; omega)
          have hv7 := hv.same s7
          have ha7 := (Tps.of s7).sq ha
          have hjl : ((rs.take j).filter fun o => kpK ns bs o k).length ≤ 6 := Nat.le_trans (List.length_filter_le _ _) (by rw [List.length_take]; omega)
          have hSl : (natV ((rs.take j).filter fun o => kpK ns bs o k)).length < sizeLine := small1000 (by unfold natV; rw [List.length_map]; omega)
          have hgl : (((rs.take j).filter fun o => kpK ns bs o k).filter fun o => ovK ns bs o k).length ≤ 6 := Nat.le_trans (List.length_filter_le _ _) hjl
          rw [hto]
          wtm_at "jw"
          refine c_dec (fun hkeep => ?_) (fun hkeep => ?_)
          · have e1 : kpK ns bs o k = true := decide_eq_true hkeep
            wtm_at "jw"
            rw [List.filter_append, List.filter_cons_of_pos (p := fun o => kpK ns bs o k) e1, List.filter_nil]
            have s8 := put_same (o := .lst (natV ((rs.take j).filter fun o => kpK ns bs o k) ++ [V.int (o : Int)])) s7 SH
            have t8 := t7.trans (tps_put (ys := natV ((rs.take j).filter fun o => kpK ns bs o k) ++ [V.int (o : Int)]) hS7)
            have hF8 := hF7.kp (Kp.upd (o := .lst (natV ((rs.take j).filter fun o => kpK ns bs o k) ++ [V.int (o : Int)]))) hS7 nFS
            have hR8 : upd H'' S (.lst (natV ((rs.take j).filter fun o => kpK ns bs o k) ++ [V.int (o : Int)])) R = some (.lst (rs'.map V.ref)) := by rw [upd_ne nRS]; exact hR7
            have hr8 : upd H'' S (.lst (natV ((rs.take j).filter fun o => kpK ns bs o k) ++ [V.int (o : Int)])) r = some (.lst (natV rs)) := by rw [upd_ne nrS]; exact hr7
            have hS8 : upd H'' S (.lst (natV ((rs.take j).filter fun o => kpK ns bs o k) ++ [V.int (o : Int)])) S = some (.lst (natV (((rs.take j).filter fun o => kpK ns bs o k) ++ [o]))) := by rw [upd_same]; unfold natV; rw [List.map_append]; rfl
            generalize upd H'' S (.lst (natV ((rs.take j).filter fun o => kpK ns bs o k) ++ [V.int (o : Int)])) = H8 at s8 t8 hF8 hR8 hr8 hS8 ⊢
            have hv8 := hv.same s8
            have ha8 := (Tps.of s8).sq ha
            generalize ((rs.take j).filter fun o => kpK ns bs o k) = gs at hF8 hS8 hgl ⊢
            wtm_at "jw"
            rename_i y3 hy3 y4 hy4
            refine ⟨a, y3, y4, ns, bdN bs o, bdN bs k, rfl, ha8, hy3, hy4, hook.2, hkk.2, ?_⟩
            wtm_at "jw"
            refine c_bool (fun e2 => ?_) (fun e2 => ?_)
            · have e2' : ovK ns bs o k = true := e2
              rw [List.filter_append, List.filter_cons_of_pos (p := fun o => ovK ns bs o k) e2', List.filter_nil]
              obtain ⟨frs, hFr, wF⟩ := hF8
              have hfrl : frs.length ≤ 42 := by
                have := wF.1
                rw [List.length_map, List.length_append, List.length_map] at this
                omega
              wtm_at "jw"
              intro T hT
              have hFT := same_new (o := .tup [.int (if (k : Int) < (o : Int) then (k : Int) else (o : Int)), .int (if (k : Int) > (o : Int) then (k : Int) else (o : Int))]) hT _ _ hFr
              have hfs : (frs.map V.ref).length < sizeLine := small1000 (by rw [List.length_map]; omega)
              wtm_at "jw"
              have nST : S ≠ T := ne_of_none hS8 hT
              refine ⟨put_same (s8.trans (same_new hT)) F0H, (t8.trans (Tps.of (same_new hT))).trans (tps_put hFT), ?_, ?_, ?_, ?_, _, rfl⟩
              · rw [upd_ne nRF, upd_ne (ne_of_none hR8 hT)]; exact hR8
              · rw [upd_ne nr, upd_ne (ne_of_none hr8 hT)]; exact hr8
              · rw [upd_ne nFS.symm, upd_ne nST]; exact hS8
              · have hadd := LPr.add (x := if (k : Int) < (o : Int) then (k : Int) else (o : Int)) (y := if (k : Int) > (o : Int) then (k : Int) else (o : Int)) hFr wF hT
                have hpr : ((if (k : Int) < (o : Int) then (k : Int) else (o : Int)), (if (k : Int) > (o : Int) then (k : Int) else (o : Int))) = toI (prN o k) := pr_toI o k
                rw [hpr] at hadd
                simpa [List.map_append] using hadd
            · have e2' : ¬ ovK ns bs o k = true := by rw [show ovK ns bs o k = false from e2]; exact Bool.false_ne_true
              rw [List.filter_append, List.filter_cons_of_neg (p := fun o => ovK ns bs o k) e2', List.filter_nil, List.append_nil]
              wtm_at "jw"
              exact ⟨s8, t8, hR8, hr8, hS8, hF8, _, rfl⟩
          · have e1 : ¬ kpK ns bs o k = true := fun h => hkeep (of_decide_eq_true h)
            rw [List.filter_append, List.filter_cons_of_neg (p := fun o => kpK ns bs o k) e1, List.filter_nil, List.append_nil]
            wtm_at "jw"
            exact ⟨s7, t7, hR7, hr7, hS7, hF7, _, rfl⟩
        · obtain ⟨s7, t7, hR7, hr7, hS7, hF7, v8', rfl⟩ := h
          rw [natV_len, List.take_length] at hS7 hF7
          have hjl : (rs.filter fun o => kpK ns bs o k).length ≤ 6 := Nat.le_trans (List.length_filter_le _ _) hle
          have hSl : (natV (rs.filter fun o => kpK ns bs o k)).length < sizeLine := small1000 (by unfold natV; rw [List.length_map]; omega)
          wtm_at "jw"
          refine ⟨put_same s7 SH, t7.trans (tps_put hS7), by rw [upd_ne nRS]; exact hR7, S, _, _, _, _, SH, nFS.symm, by rw [upd_same]; unfold stpS natV; rw [List.map_append]; rfl, hF7.kp Kp.upd hS7 nFS, rfl⟩
      · obtain ⟨s5, t5, hR5, r, v3, v6, v7, v8, rH, nr, hr5, hF5, rfl⟩ := h
        rw [List.length_map, wl, List.take_length] at hF5
        wtm_at "jw"
        refine i_sortP hF5 fun R2 H6 G s6 srt2 nR2 hR2 => ?_
        obtain ⟨grs, hG, wG⟩ := hR2
        wtm_at "jw"
        intro T hT
        have hsw : Sw (ovK ns bs) ks [] (ks.foldl (stpS (ovK ns bs) (kpK ns bs)) ([], [])) := by
          have h0 : Sw (ovK ns bs) [] ks ([], []) := ⟨List.Sublist.slnil, fun a ha => (by cases ha), fun q => ⟨fun h => (by cases h), fun ⟨a, ha, _⟩ => (by cases ha)⟩, List.nodup_nil⟩
          exact Sw.all (P := []) (ov_sym ns bs) (ov_kp ns bs) ks ([], []) (up.imp fun h a => kp_mono h) (by simpa using knd) h0
        have eG := sorted_due (on := fun k => onB ns (bdN bs k)) (ov_sym ns bs) kon hsw srt2
        have tdG : TD K (upd H6 T (.tup (grs.map V.ref))) (.ref T) (.tuple (G.map pD)) := TD.new hT (TDs.of (by simp [wG.1]) fun i v d h1 h2 => by
          obtain ⟨r', p, rfl, _, ep, hr', _⟩ := wG.at h1
          rw [List.getElem?_map, ep] at h2
          cases h2
          exact TD.of hr' (.cons (.int _) (.cons (.int _) .nil)))
        rw [eG, List.map_map] at tdG
        exact q _ _ ((s5.trans s6).trans (same_new hT)) tdG
theorem mt_sym (ns : List Int) (o t : Bd) : mtB ns t o = mtB ns o t := by
  unfold mtB ovB
  rw [Bool.eq_iff_iff]
  simp only [Bool.and_eq_true, decide_eq_true_eq]
  constructor
  · rintro ⟨⟨h1, h2⟩, h3, h4, h5, h6⟩
    exact ⟨⟨h2, h1⟩, h4, h3, h6, h5⟩
  · rintro ⟨⟨h1, h2⟩, h3, h4, h5, h6⟩
    exact ⟨⟨h2, h1⟩, h4, h3, h6, h5⟩
def sp__law_are_told (K : PySem.W.Frag) : Sp := fun vs H Q _ => ∃ (a : Addr) (v : V) (ns : List Int) (bs : List Bd), vs = [.ref a, v] ∧ SqT K H a (ns.map V.int) ∧ TD K H v (.tuple (bs.map bD)) ∧ bs.length ≤ 6 ∧ (∀ b ∈ bs, BOk ns.length b) ∧ (∀ b ∈ bs, OnOk ns b) ∧ ∀ H', Same H H' → Q (.bl true) H'
theorem ok__law_are_told {P : Program} {w : World} {K : PySem.W.Frag} {mg : Str → Option Value} {base : Heap} {f : Addr} {fd : FuncData} (F : Df K mg "_law_are_told" s__law_are_told f fd ["state", "bodies"]) (T : Txt mg)
    (c_touching_pairs : Cl P w K mg base 2 "touching_pairs" (sp_touching_pairs K))
    (c__law_common : Cl P w K mg base 1 "_law_common" (sp__law_common K))
    (c_touching : Cl P w K mg base 2 "touching" (sp_touching K))
    (c__law_is_ints : Cl P w K mg base 2 "_law_is_ints" (sp__law_is_ints K)) : FnOk P w K mg base CX0 3 f fd ["state", "bodies"] (sp__law_are_told K) := by
  refine F.ok sc__law_are_told (fun vs H Q E h => ?_) (fun cdv A outer s H vs Q E hr h => ?_)
  · obtain ⟨a, v, ns, bs, rfl, _⟩ := h
    rfl
  · obtain ⟨a, v, ns, bs, rfl, ha, hv, hl, hb, ho, q⟩ := h
    refine ⟨_, (pss_cons (ps_set (i := 2) sc__law_are_told.nd rfl (Or.inl rfl) (pe_lst pa_nil))
      (pss_cons (ps_for PassesOwn.never rfl (pi_range1 rfl T.b_range (pa_cons (pe_callB (id := "len") (r := qLen K) c_len (by rfl) T.b_len (by decide +kernel) (pa_cons (pv 1) pa_nil)) pa_nil)) (pg_name (i := 3) sc__law_are_told.nd rfl (Or.inl rfl)) (pss_one (ps_for PassesOwn.never rfl (pi_range2 rfl T.b_range (pa_cons (pe_op op_add (pv 3) pe_int) (pa_cons (pe_callB (id := "len") (r := qLen K) c_len (by rfl) T.b_len (by decide +kernel) (pa_cons (pv 1) pa_nil)) pa_nil))) (pg_name (i := 4) sc__law_are_told.nd rfl (Or.inl rfl)) (pss_cons (ps_set (i := 5) sc__law_are_told.nd rfl (Or.inl rfl) (pe_cl c__law_common hr (by decide) rfl (pa_cons (pv 0) (pa_cons (pe_ix (r := rIxT K) ix_tup (pv 1) (pv 3) (fun _ _ => rfl)) (pa_cons (pe_ix (r := rIxT K) ix_tup (pv 1) (pv 4) (fun _ _ => rfl)) pa_nil)))))
      (pss_cons (ps_if (pt_val (pv 5)) (pss_one (ps_expr (pe_bmK (K := K) rfl PySem.F.plainAttrs_list PySem.F.slot_list_append PySem.F.type_list_append mt_append (pv 2) (pa_cons (pe_tup (pa_cons (pv 3) (pa_cons (pv 4) pa_nil))) pa_nil)))) pss_nil)
      (pss_one (ps_for PassesOwn.never rfl (pi_list (pe_lst (pa_cons (pe_cl c_touching hr (by decide) rfl (pa_cons (pv 0) (pa_cons (pv 1) (pa_cons (pv 3) (pa_cons (pv 4) pa_nil))))) (pa_cons (pe_cl c_touching hr (by decide) rfl (pa_cons (pv 0) (pa_cons (pv 1) (pa_cons (pv 4) (pa_cons (pv 3) pa_nil))))) pa_nil)))) (pg_name (i := 6) sc__law_are_told.nd rfl (Or.inl rfl)) (pss_one (ps_if (PW.pt (pw_or (pt_not (pt_val (pe_callB (id := "isinstance") (r := rIsi K) call_isi (by rfl) T.b_isinstance (by decide +kernel) (pa_cons (pv 6) (pa_cons (pe_bltn (v := .ty "bool") (u := Value.type "bool") (by rfl) T.b_bool (by decide +kernel) rfl) pa_nil))))) (pw_or1 (pt_cmpR op_ne (pv 6) (pv 5) (nomark _))))) (pss_one (ps_ret pe_bl)) pss_nil)))))))))
      (pss_cons (ps_set (i := 7) sc__law_are_told.nd rfl (Or.inl rfl) (pe_cl c_touching_pairs hr (by decide) rfl (pa_cons (pv 0) (pa_cons (pv 1) pa_nil))))
      (pss_cons (ps_if (PW.pt (pw_or (pt_not (pt_val (pe_callB (id := "isinstance") (r := rIsi K) call_isi (by rfl) T.b_isinstance (by decide +kernel) (pa_cons (pv 7) (pa_cons (pe_bltn (v := .ty "tuple") (u := Value.type "tuple") (by rfl) T.b_tuple (by decide +kernel) rfl) pa_nil))))) (pw_or1 (pt_not (pt_val (pe_callB (id := "all") (r := rAll K) (cr_all rfl) (by rfl) T.b_all (by decide +kernel) (pa_cons (pe_lc (own := [("pair", 8)]) (g := gName 8) (tt := tYes) rfl sc__law_are_told.nd (pi_tup (pv 7)) (blkOk_by (own := [("pair", 8)]) (N := N__law_are_told) (sc := defScope s__law_are_told) (by decide +kernel)) (fun _ _ _ _ _ => (pg_name (i := 8) sc__law_are_told.nd rfl (Or.inl rfl))) (fun _ _ _ _ _ => pts_nil) (fun _ _ _ _ _ => (pe_cl c__law_is_ints hr (by decide) rfl (pa_cons (pv 8) pa_nil)))) pa_nil))))))) (pss_one (ps_ret pe_bl)) pss_nil)
      (pss_one (ps_ret (pe_cmpR (r := rEqD K) (op_eqD hr.units) (pv 7) (pe_callTy (T := "tuple") (r := rTupOf K) c_tup (by rfl) T.b_tuple (by decide +kernel) (pa_cons (pv 2) pa_nil)) (nomark _)))))))), ?_⟩
    try dsimp only [cxOf, Cx.nox, Cx.wish]
    refine st_of (σ' := [some _, some _, none, none, none, none, none, none, none]) rfl ?_
    wtm_at "jw"
    intro DL hDL
    have s1 := same_new (o := .lst []) hDL
    have hD1 : LPr (upd H DL (.lst [])) DL [] := ⟨[], upd_same, .nil⟩
    generalize upd H DL (.lst []) = H1 at s1 hD1 ⊢
    have hv1 := hv.same s1
    wtm_at "jw"
    refine f_range (fun i σ H' => Same H H' ∧ LPr H' DL ((dueQ (mtK ns bs) bs.length i).map toI) ∧ ∃ v3 v4 v5 v6 : Option V, σ = [some (.ref a), some v, some (.ref DL), v3, v4, v5, v6, none, none]) ⟨s1, hD1, none, none, none, none, rfl⟩ (fun i σ H' hi h => ?_) (fun σ H' h => ?_)
    · obtain ⟨s2, hD2, v3, v4, v5, v6, rfl⟩ := h
      have hi' : i < bs.length := by simpa using hi
      have hv2 := hv.same s2
      rw [Int.zero_add]
      wtm_at "jw"
      refine f_range (fun j σ H' => Same H H' ∧ LPr H' DL ((dueQ (mtK ns bs) bs.length i ++ rowP (mtK ns bs) i (i + 1) j).map toI) ∧ ∃ v4 v5 v6 : Option V, σ = [some (.ref a), some v, some (.ref DL), some (.int (i : Int)), v4, v5, v6, none, none])
        ⟨s2, by simpa [rowP] using hD2, v4, v5, v6, rfl⟩ (fun j σ H' hj h => ?_) (fun σ H' h => ?_)
      · obtain ⟨s3, hD3, v4, v5, v6, rfl⟩ := h
        have hj' : i + 1 + j < bs.length := by
          rw [List.length_map] at hj
          omega
        rw [show ((i : Int) + 1 + ((j : Nat) : Int)) = ((i + 1 + j : Nat) : Int) by omega]
        have hv3 := hv.same s3
        have ha3 := (Tps.of s3).sq ha
        have ei : (bs.map bD)[((i : Nat) : Int).toNat]? = some (bD (bdN bs i)) := by rw [Int.toNat_natCast, List.getElem?_map, bdN_at hi']; rfl
        have ej : (bs.map bD)[((i + 1 + j : Nat) : Int).toNat]? = some (bD (bdN bs (i + 1 + j))) := by rw [Int.toNat_natCast, List.getElem?_map, bdN_at hj']; rfl
        have i0 : (0 : Int) ≤ (i : Int) := by omega
        have j0 : (0 : Int) ≤ ((i + 1 + j : Nat) : Int) := by omega
        have mi := List.mem_of_getElem? (bdN_at hi')
        have mj := List.mem_of_getElem? (bdN_at hj')
        wtm_at "js"
        rename_i y1 hy1 y2 hy2
        refine ⟨a, y1, y2, ns, bdN bs i, bdN bs (i + 1 + j), rfl, ha3, hy1, hy2, hb _ mi, hb _ mj, ho _ mi, ho _ mj, ?_⟩
        wtm_at "js"
        refine i_ifC (fun σ' H'' => Same H H'' ∧ LPr H'' DL ((dueQ (mtK ns bs) bs.length i ++ rowP (mtK ns bs) i (i + 1) (j + 1)).map toI) ∧
          σ' = [some (.ref a), some v, some (.ref DL), some (.int (i : Int)), some (.int ((i + 1 + j : Nat) : Int)), some (.bl (mtB ns (bdN bs i) (bdN bs (i + 1 + j)))), v6, none, none]) (fun σ' H'' h => ?_) (fun N hN => ?_)
        · obtain ⟨s4, hD4, rfl⟩ := h
          have hv4 := hv.same s4
          have ha4 := (Tps.of s4).sq ha
          wtm_at "js"
          refine ⟨a, v, ns, bs, i, i + 1 + j, bdN bs i, bdN bs (i + 1 + j), rfl, ha4, hv4, bdN_at hi', bdN_at hj', hb _ mi, hb _ mj, ?_⟩
          wtm_at "js"
          refine ⟨a, v, ns, bs, i + 1 + j, i, bdN bs (i + 1 + j), bdN bs i, rfl, ha4, hv4, bdN_at hj', bdN_at hi', hb _ mj, hb _ mi, ?_⟩
          rw [show ((onB ns (bdN bs i) && onB ns (bdN bs (i + 1 + j))) && ovB ns (bdN bs i) (bdN bs (i + 1 + j))) = mtB ns (bdN bs i) (bdN bs (i + 1 + j)) from rfl,
            show ((onB ns (bdN bs (i + 1 + j)) && onB ns (bdN bs i)) && ovB ns (bdN bs (i + 1 + j)) (bdN bs i)) = mtB ns (bdN bs (i + 1 + j)) (bdN bs i) from rfl, mt_sym ns (bdN bs i) (bdN bs (i + 1 + j))]
          generalize mtB ns (bdN bs i) (bdN bs (i + 1 + j)) = m
          wtm_at "js"
          intro L hL
          have s5 := s4.trans (same_new (o := .lst [.bl m, .bl m]) hL)
          have hD5 := hD4.same (same_new (o := .lst [.bl m, .bl m]) hL)
          have hL5 : upd H'' L (.lst [.bl m, .bl m]) L = some (.lst [.bl m, .bl m]) := upd_same
          generalize upd H'' L (.lst [.bl m, .bl m]) = H5 at s5 hD5 hL5 ⊢
          wtm_at "js"
          refine f_list (xs := [.bl m, .bl m]) (fun c σ H' => H' = H5 ∧ ∃ v6 : Option V, σ = [some (.ref a), some v, some (.ref DL), some (.int (i : Int)), some (.int ((i + 1 + j : Nat) : Int)), some (.bl m), v6, none, none])
            ⟨rfl, v6, rfl⟩ (fun c σ H' _ h => by rw [h.1]; exact SqL.of hL5) (fun c x σ H' hc h => ?_) (fun σ H' h => ?_)
          · obtain ⟨rfl, v6', rfl⟩ := h
            have hx : x = .bl m := by
              have := List.mem_of_getElem? hc
              simpa using this
            subst hx
            wtm_at "jw"
            refine i_isi (.base (.bl m)) rfl ?_
            wtm_at "jw"
            refine c_noN rfl ?_
            wtm_at "jw"
            exact ⟨rfl, _, rfl⟩
          · obtain ⟨rfl, v6', rfl⟩ := h
            exact ⟨s5, hD5, _, _, _, rfl⟩
        · refine i_ifS ?_
          wtm_at "jw"
          refine c_bool (fun e => ?_) (fun e => ?_)
          · rw [e]
            obtain ⟨rs, hrs, wr⟩ := hD3
            have hrl : rs.length ≤ 100 := by
              have h1 := wr.1
              rw [List.length_map, List.length_append] at h1
              have h2 := dueQ_len (mtK ns bs) bs.length i
              have h3 := rowP_len (mtK ns bs) i (i + 1) j
              have h4 : i * bs.length ≤ 6 * 6 := Nat.mul_le_mul (by omega) hl
              omega
            wtm_at "jw"
            intro T hT
            have hrT := same_new (o := .tup [.int (i : Int), .int ((i + 1 + j : Nat) : Int)]) hT _ _ hrs
            have hsm : (rs.map V.ref).length < sizeLine := small1000 (by rw [List.length_map]; omega)
            wtm_at "jw"
            refine hN _ _ ⟨put_same (s3.trans (same_new hT)) hDL, ?_, by rw [e]⟩
            have hadd := LPr.add (x := (i : Int)) (y := ((i + 1 + j : Nat) : Int)) hrs wr hT
            rw [rowP_yes e, ← List.append_assoc, List.map_append]
            exact hadd
          · rw [e]
            wtm_at "jw"
            rw [← rowP_no (mt := mtK ns bs) e] at hD3
            exact hN _ _ ⟨s3, hD3, by rw [e]⟩
      · obtain ⟨s3, hD3, v4, v5, v6, rfl⟩ := h
        have en : (((List.map bD bs).length : Nat) : Int) - ((i : Int) + 1) = ((bs.length - (i + 1) : Nat) : Int) := by rw [List.length_map]; omega
        rw [en, Int.toNat_natCast, ← dueQ_succ] at hD3
        exact ⟨s3, hD3, _, _, _, _, rfl⟩
    · obtain ⟨s2, hD2, v3, v4, v5, v6, rfl⟩ := h
      have el : (((List.map bD bs).length : Nat) : Int).toNat = bs.length := by rw [List.length_map]; rfl
      rw [el, dueQ_all] at hD2
      wtm_at "jw"
      refine ⟨a, v, ns, bs, rfl, (Tps.of s2).sq ha, hv.same s2, hl, hb, fun v' H3 s3 td => ?_⟩
      have s4 := s2.trans s3
      have hD4 := hD2.same s3
      have dl : (dueP (mtK ns bs) bs.length).length ≤ 36 := by
        have h2 := dueQ_len (mtK ns bs) bs.length bs.length
        have h4 : bs.length * bs.length ≤ 6 * 6 := Nat.mul_le_mul hl hl
        rw [dueQ_all] at h2
        omega
      generalize dueP (mtK ns bs) bs.length = ds at td hD4 dl ⊢
      wtm_at "jw"
      refine i_isiT td rfl ?_
      have td0 := td
      obtain ⟨b, xs, rfl, hS, hT⟩ := td.tup_inv
      wtm_at "jw"
      intro D hD
      refine l_tup (xs := xs) (fun i H' => Same H3 H' ∧ H' D = some (.lst ((List.replicate i true).map V.bl))) ⟨same_new hD, upd_same⟩ (fun i H' _ h => (Tps.of h.1).sq hS) (fun i x H' hi h => ?_) (fun H' h => ?_)
      · obtain ⟨s5, hD5⟩ := h
        obtain ⟨d, hd, hx, _, hil⟩ := hT.at hi
        rw [List.length_map] at hil
        rw [List.getElem?_map] at hd
        obtain ⟨q0, hq0⟩ : ∃ q0, ds[i]? = some q0 := ⟨_, List.getElem?_eq_getElem hil⟩
        rw [hq0] at hd
        cases hd
        wtm_at "jw"
        refine ⟨rfl, ?_⟩
        wtm_at "jw"
        refine ⟨x, [(q0.1 : Int), (q0.2 : Int)], rfl, hx.same s5, by simp, fun H6 s6 => ?_⟩
        refine ⟨(List.replicate i true).map V.bl, s6 _ _ hD5, small1000 (by simp; omega), put_same (s5.trans s6) hD, ?_⟩
        rw [upd_same, List.replicate_succ', List.map_append]
        rfl
      · obtain ⟨s5, hD5⟩ := h
        wtm_at "jw"
        refine ⟨D, List.replicate xs.length true, rfl, SqL.of hD5, ?_⟩
        rw [all_id_true]
        wtm_at "jw"
        obtain ⟨rs, hR, wR⟩ := hD4.same s5
        wtm_at "jw"
        intro T hT'
        have tdT : TD K (upd H' T (.tup (rs.map V.ref))) (.ref T) (.tuple (ds.map (pD ∘ toI))) := TD.new hT' (TDs.of (by simpa using wR.1) fun i v d h1 h2 => by
          obtain ⟨r', p, rfl, _, ep, hr', _⟩ := wR.at h1
          rw [List.getElem?_map] at ep h2
          cases e : ds[i]? with
          | none => rw [e] at h2; cases h2
          | some z =>
            rw [e] at ep h2
            cases ep
            cases h2
            exact TD.of hr' (.cons (.int _) (.cons (.int _) .nil)))
        have sn := same_new (o := .tup (rs.map V.ref)) hT'
        refine i_eqS' ((td0.same (s5.trans sn)).dp) tdT.dp (n := 2) ?_ (by decide) ?_
        · rw [← List.map_map]
          exact Shp.prs _
        · exact q _ ((s4.trans s5).trans sn)
theorem i_andJ {ta tb : TE} {σ : L2.St} {H : Hp} {Q : VK} (J : Bool → Hp → Prop) (h1 : ∀ b H', J b H' → Q (.bl b) H') (h2 : ∀ R : VK, (∀ b H', J b H' → R (.bl b) H') → tAndV ta tb σ H R) : tAndV ta tb σ H Q := h2 _ h1
theorem gI_app {ns ms : List Int} {i : Int} (h0 : 0 ≤ i) (h : i < ns.length) : gI (ns ++ ms) i = gI ns i := by
  unfold gI
  rw [List.getElem?_append_left (by omega)]
theorem gI_set {ns : List Int} {i : Int} {j : Nat} {z : Int} (h0 : 0 ≤ i) (n : i ≠ (j : Int)) : gI (ns.set j z) i = gI ns i := by
  unfold gI
  rw [List.getElem?_set_ne (by omega)]
theorem gI_same {ns : List Int} {j : Nat} {z : Int} (h : j < ns.length) : gI (ns.set j z) (j : Int) = z := by
  unfold gI
  rw [Int.toNat_natCast, List.getElem?_set_self h]
  rfl
/-- the flags of the first k bodies are 0 or 1 -/
def FlOk (base : Nat) (ns : List Int) (k : Nat) : Prop := ∀ i : Nat, i < k → gI ns ((base : Int) + 5 * (i : Int) + 4) = 0 ∨ gI ns ((base : Int) + 5 * (i : Int) + 4) = 1
theorem FlOk.add {base k : Nat} {ns ms : List Int} {f : Int} (h : FlOk base ns k) (hl : ns.length = base + 5 * k) (hm : ms = [ms[0]?.getD 0, ms[1]?.getD 0, ms[2]?.getD 0, ms[3]?.getD 0, f]) (hf : f = 0 ∨ f = 1) : FlOk base (ns ++ ms) (k + 1) := fun i hi => by
  by_cases hk : i < k
  · rw [gI_app (by omega) (by omega)]
    exact h i hk
  · obtain rfl : i = k := by omega
    have e : gI (ns ++ ms) ((base : Int) + 5 * (i : Int) + 4) = f := by
      unfold gI
      rw [show ((base : Int) + 5 * (i : Int) + 4).toNat = ns.length + 4 by omega, List.getElem?_append_right (by omega), Nat.add_sub_cancel_left, hm]
      rfl
    rw [e]
    exact hf
theorem BsOk.bok {base : Nat} {bs : List Bd} {ns : List Int} (h : BsOk base bs) (hl : ns.length = base + 5 * bs.length) : ∀ b ∈ bs, BOk ns.length b := fun b hb => by
  obtain ⟨i, hi⟩ := List.getElem?_of_mem hb
  have hlt := (List.getElem?_eq_some_iff.mp hi).1
  obtain ⟨h1, h2⟩ := h i b hi
  exact ⟨by omega, by omega, h2⟩
theorem BsOk.onok {base : Nat} {bs : List Bd} {ns : List Int} (h : BsOk base bs) (hf : FlOk base ns bs.length) : ∀ b ∈ bs, OnOk ns b := fun b hb => by
  obtain ⟨i, hi⟩ := List.getElem?_of_mem hb
  have hlt := (List.getElem?_eq_some_iff.mp hi).1
  obtain ⟨h1, h2⟩ := h i b hi
  unfold OnOk
  rw [h1]
  exact hf i hlt
def sp__law_state_of (K : PySem.W.Frag) : Sp := fun vs H Q _ => ∃ (p a : Addr) (v : V) (first : Nat) (bs : List Bd), vs = [.ref p, v, .int (first : Int)] ∧ DrawAt H p a ∧ TD K H v (.tuple (bs.map bD)) ∧ first ≤ 12 ∧ bs.length ≤ 6 ∧ BsOk (2 + first) bs ∧
  ∀ r (ns : List Int) H', Drew p a H H' → SqT K H' r (ns.map V.int) → ns.length = 2 + first + 5 * bs.length → FlOk (2 + first) ns bs.length → Q (.ref r) H'
theorem ok__law_state_of {P : Program} {w : World} {K : PySem.W.Frag} {mg : Str → Option Value} {base : Heap} {f : Addr} {fd : FuncData} (F : Df K mg "_law_state_of" s__law_state_of f fd ["d", "bodies", "first"]) (T : Txt mg)
    (c__law_draw : Cl P w K mg base 1 "_law_draw" (sp__law_draw K))
    (c__law_pick : Cl P w K mg base 2 "_law_pick" (sp__law_pick K))
    (c__law_anywhere : Cl P w K mg base 3 "_law_anywhere" (sp__law_anywhere K))
    (c__law_hold : Cl P w K mg base 1 "_law_hold" (sp__law_hold K))
    (c__law_spot : Cl P w K mg base 2 "_law_spot" (sp__law_spot K)) : FnOk P w K mg base CX0 4 f fd ["d", "bodies", "first"] (sp__law_state_of K) := by
  refine F.ok sc__law_state_of (fun vs H Q E h => ?_) (fun cdv A outer s H vs Q E hr h => ?_)
  · obtain ⟨p, a, v, first, bs, rfl, _⟩ := h
    rfl
  · obtain ⟨p, a, v, first, bs, rfl, d0, hv, f12, l6, hbs, q⟩ := h
    refine ⟨_, (pss_cons (ps_set (i := 3) sc__law_state_of.nd rfl (Or.inl rfl) (pe_lst (pa_cons (pe_cl c__law_draw hr (by decide) rfl (pa_cons (pv 0) (pa_cons pe_int pa_nil))) (pa_cons (pe_cl c__law_pick hr (by decide) rfl (pa_cons (pv 0) (pa_cons (pe_lst (pa_cons pe_int (pa_cons pe_int (pa_cons pe_int (pa_cons pe_int (pa_cons pe_int (pa_cons pe_int pa_nil))))))) pa_nil))) pa_nil))))
      (pss_cons (ps_for PassesOwn.never rfl (pi_range1 rfl T.b_range (pa_cons (pv 2) pa_nil)) (pg_name (i := 4) sc__law_state_of.nd rfl (Or.inl rfl)) (pss_one (ps_expr (pe_bmK (K := K) rfl PySem.F.plainAttrs_list PySem.F.slot_list_append PySem.F.type_list_append mt_append (pv 3) (pa_cons (pe_op op_sub (pe_cl c__law_draw hr (by decide) rfl (pa_cons (pv 0) (pa_cons pe_int pa_nil))) pe_int) pa_nil)))))
      (pss_cons (ps_for PassesOwn.never rfl (pi_range1 rfl T.b_range (pa_cons (pe_callB (id := "len") (r := qLen K) c_len (by rfl) T.b_len (by decide +kernel) (pa_cons (pv 1) pa_nil)) pa_nil)) (pg_name (i := 4) sc__law_state_of.nd rfl (Or.inl rfl)) (pss_cons (ps_set (i := 5) sc__law_state_of.nd rfl (Or.inl rfl) (pe_and (pe_cmpR op_gt (pv 4) pe_int (nomark _)) (pe_one (pe_cmpR op_gt (pe_cl c__law_draw hr (by decide) rfl (pa_cons (pv 0) (pa_cons pe_int pa_nil))) pe_int (nomark _)))))
      (pss_cons (ps_set (i := 6) sc__law_state_of.nd rfl (Or.inl rfl) (pe_ix (r := rIxT K) ix_tup (pv 1) (pe_cl c__law_draw hr (by decide) rfl (pa_cons (pv 0) (pa_cons (pe_callB (id := "max") (c_max2 rfl) (by rfl) T.b_max (by decide +kernel) (pa_cons pe_int (pa_cons (pv 4) pa_nil))) pa_nil))) (fun _ _ => rfl)))
      (pss_cons (ps_set (i := 7) sc__law_state_of.nd rfl (Or.inl rfl) (pe_lst (pa_cons (pe_cl c__law_anywhere hr (by decide) rfl (pa_cons (pv 0) pa_nil)) (pa_cons (pe_cl c__law_anywhere hr (by decide) rfl (pa_cons (pv 0) pa_nil)) pa_nil))))
      (pss_cons (ps_for PassesOwn.never rfl (pi_range1 rfl T.b_range (pa_cons pe_int pa_nil)) (pg_name (i := 8) sc__law_state_of.nd rfl (Or.inl rfl)) (pss_cons (ps_if (pt_val (pv 5)) (pss_one (ps_asg (pe_cl c__law_spot hr (by decide) rfl (pa_cons (pv 0) (pa_cons (pe_ix (r := rIxL K) ix_list (pv 3) (pe_op op_add (pe_ix (r := rIxT K) ix_tup (pv 6) pe_int (fun _ _ => rfl)) (pv 8)) (fun _ _ => rfl)) (pa_cons (pe_op op_mul pe_int (pe_ix (r := rIxT K) ix_tup (pv 6) (pe_op op_add pe_int (pv 8)) (fun _ _ => rfl))) (pa_cons (pe_op op_mul pe_int (pe_ix (r := rIxT K) ix_tup (pe_ix (r := rIxT K) ix_tup (pv 1) (pv 4) (fun _ _ => rfl)) (pe_op op_add pe_int (pv 8)) (fun _ _ => rfl))) pa_nil))))) (pg_sub (pv 7) (pv 8) set_list))) pss_nil)
      (pss_one (ps_asg (pe_cl c__law_hold hr (by decide) rfl (pa_cons (pe_un un_neg pe_int) (pa_cons (pe_ix (r := rIxL K) ix_list (pv 7) (pv 8) (fun _ _ => rfl)) (pa_cons pe_int pa_nil)))) (pg_sub (pv 7) (pv 8) set_list)))))
      (pss_one (ps_set (i := 3) sc__law_state_of.nd rfl (Or.inl rfl) (pe_op op_cat (pe_op op_cat (pv 3) (pv 7)) (pe_lst (pa_cons (pe_cl c__law_anywhere hr (by decide) rfl (pa_cons (pv 0) pa_nil)) (pa_cons (pe_cl c__law_anywhere hr (by decide) rfl (pa_cons (pv 0) pa_nil)) (pa_cons (pe_callTy (T := "int") c_int (by rfl) T.b_int (by decide +kernel) (pa_cons (pe_cmpR op_gt (pe_cl c__law_draw hr (by decide) rfl (pa_cons (pv 0) (pa_cons pe_int pa_nil))) pe_int (nomark _)) pa_nil)) pa_nil))))))))))))
      (pss_one (ps_ret (pe_callTy (T := "tuple") (r := rTupOf K) c_tup (by rfl) T.b_tuple (by decide +kernel) (pa_cons (pv 3) pa_nil))))))), ?_⟩
    try dsimp only [cxOf, Cx.nox, Cx.wish]
    refine st_of (σ' := [some _, some _, some _, none, none, none, none, none, none]) rfl ?_
    wtm_at "jw"
    refine drawL d0.drew (by decide) (by decide) fun z1 H1 _ _ _ w1 => ?_
    wtm_at "jw"
    intro B hB
    wtm_at "jw"
    refine pickL (fun _ => True) [0, 0, 0, 1, 2, 5] w1 hB rfl (by simp) (by simp) (by simp) fun z2 H2 _ _ w2 => ?_
    wtm_at "jw"
    intro FL hFL
    have FLH := w2.free hFL
    have w3 := w2.new (o := .lst [.int z1, .int z2]) hFL
    have hF3 : upd H2 FL (.lst [.int z1, .int z2]) FL = some (.lst (([z1, z2] : List Int).map V.int)) := upd_same
    generalize upd H2 FL (.lst [.int z1, .int z2]) = H3 at w3 hF3 ⊢
    wtm_at "jw"
    refine f_range (fun i σ H' => Drew p a H H' ∧ ∃ (ns : List Int) (v4 : Option V), H' FL = some (.lst (ns.map V.int)) ∧ ns.length = 2 + i ∧ σ = [some (.ref p), some v, some (.int (first : Int)), some (.ref FL), v4, none, none, none, none])
      ⟨w3, _, none, hF3, rfl, rfl⟩ (fun i σ H' hi h => ?_) (fun σ H' h => ?_)
    · obtain ⟨w4, ns, v4, hF4, nl, rfl⟩ := h
      wtm_at "jw"
      refine drawL w4 (by decide) (by decide) fun z4 H5 _ _ e5 w5 => ?_
      have hF5 := e5.kp _ _ hF4 (d0.ne_none FLH)
      have hsm : (ns.map V.int).length < sizeLine := small1000 (by rw [List.length_map]; omega)
      wtm_at "jw"
      exact ⟨w5.put d0 FLH, ns ++ [z4 - 32768], _, by rw [upd_same, List.map_append]; rfl, by simp [nl]; omega, rfl⟩
    · obtain ⟨w4, ns, v4, hF4, nl, rfl⟩ := h
      have nl' : ns.length = 2 + first := by simpa using nl
      have hv4 := hv.tps (w4.tps d0)
      wtm_at "jw"
      refine f_range (fun i σ H' => Drew p a H H' ∧ ∃ (FL : Addr) (ns : List Int) (v4 v5 v6 v7 v8 : Option V), H FL = none ∧ H' FL = some (.lst (ns.map V.int)) ∧ ns.length = 2 + first + 5 * i ∧ FlOk (2 + first) ns i ∧
          σ = [some (.ref p), some v, some (.int (first : Int)), some (.ref FL), v4, v5, v6, v7, v8])
        ⟨w4, FL, ns, v4, none, none, none, none, FLH, hF4, by omega, fun i h => by omega, rfl⟩ (fun i σ H' hi h => ?_) (fun σ H' h => ?_)
      · obtain ⟨w5, FL, ns, v4, v5, v6, v7, v8, FLH, hF5, nl, hfl, rfl⟩ := h
        have hi' : i < bs.length := by simpa using hi
        have nFp := d0.ne_none FLH
        rw [Int.zero_add]
        iterate 3 wtm_at "jw1"
        refine i_andJ (fun b H'' => Drew p a H' H'' ∧ (b = true → 0 < i)) (fun near H6 h => ?_) (fun R hR => ?_)
        · obtain ⟨e6, hnear⟩ := h
          have w6 := w5.trans e6
          have hF6 := e6.kp _ _ hF5 nFp
          wtm_at "jw"
          have hm1 : (if (i : Int) > 1 then (i : Int) else 1) ≤ (bs.length : Int) := by split <;> omega
          have hm0 : 0 < (if (i : Int) > 1 then (i : Int) else 1) := by split <;> omega
          have hm2 : 0 < i → (if (i : Int) > 1 then (i : Int) else 1) = (i : Int) := fun h => by split <;> omega
          generalize (if (i : Int) > 1 then (i : Int) else 1) = M at hm0 hm1 hm2 ⊢
          refine drawL w6 hm0 (by omega) fun z7 H7 z70 z71 e7 w7 => ?_
          have hF7 := e7.kp _ _ hF6 nFp
          obtain ⟨zn, rfl⟩ := Int.eq_ofNat_of_zero_le z70
          have hzn : zn < bs.length := by omega
          have hv7 := hv.tps (w7.tps d0)
          have ez : (bs.map bD)[((zn : Nat) : Int).toNat]? = some (.tuple [.str (bdN bs zn).1, .int (bdN bs zn).2.1, .int (bdN bs zn).2.2.1, .int (bdN bs zn).2.2.2]) := by rw [Int.toNat_natCast, List.getElem?_map, bdN_at hzn]; rfl
          have ei : (bs.map bD)[((i : Nat) : Int).toNat]? = some (.tuple [.str (bdN bs i).1, .int (bdN bs i).2.1, .int (bdN bs i).2.2.1, .int (bdN bs i).2.2.2]) := by rw [Int.toNat_natCast, List.getElem?_map, bdN_at hi']; rfl
          have i0 : (0 : Int) ≤ (i : Int) := by omega
          obtain ⟨zb, zr⟩ := hbs zn _ (bdN_at hzn)
          obtain ⟨ib, ir⟩ := hbs i _ (bdN_at hi')
          wtm_at "jw"
          rename_i row hrow
          refine ⟨p, a, rfl, w7.at_, fun x1 H8 e8 => ?_⟩
          wtm_at "jw"
          refine ⟨p, a, rfl, e8.at_, fun x2 H9 e9 => ?_⟩
          have w9 := w7.trans (e8.trans e9)
          have hF9 := (e8.trans e9).kp _ _ hF7 nFp
          have hrow9 := hrow.tps ((e8.trans e9).tps w7.at_)
          wtm_at "jw"
          intro S hS
          have SH := w9.free hS
          have nSF : S ≠ FL := (ne_of_none hF9 hS).symm
          have w10 := w9.new (o := .lst [.int x1, .int x2]) hS
          have hF10 := same_new (o := .lst [.int x1, .int x2]) hS _ _ hF9
          have hrow10 := hrow9.same (same_new (o := .lst [.int x1, .int x2]) hS)
          have hS10 : upd H9 S (.lst [.int x1, .int x2]) S = some (.lst [.int x1, .int x2]) := upd_same
          generalize upd H9 S (.lst [.int x1, .int x2]) = H10 at w10 hF10 hrow10 hS10 ⊢
          wtm_at "jw"
          refine f_range (fun c σ H' => Drew p a H H' ∧ H' FL = some (.lst (ns.map V.int)) ∧ TD K H' row (.tuple [.str (bdN bs zn).1, .int (bdN bs zn).2.1, .int (bdN bs zn).2.2.1, .int (bdN bs zn).2.2.2]) ∧ ∃ (x1 x2 : Int) (v8 : Option V), H' S = some (.lst [.int x1, .int x2]) ∧
              σ = [some (.ref p), some v, some (.int (first : Int)), some (.ref FL), some (.int (i : Int)), some (.bl near), some row, some (.ref S), v8])
            ⟨w10, hF10, hrow10, x1, x2, v8, hS10, rfl⟩ (fun c σ H' hc h => ?_) (fun σ H' h => ?_)
          · obtain ⟨w11, hF11, hrow11, x1, x2, v8, hS11, rfl⟩ := h
            have nSp := d0.ne_none SH
            have hv11 := hv.tps (w11.tps d0)
            have hc2 : c < 2 := hc
            rcases (by omega : c = 0 ∨ c = 1) with rfl | rfl
            · rw [show (0 : Int) + ((0 : Nat) : Int) = 0 from rfl]
              wtm_at "js"
              refine i_ifC (fun σ' H'' => Drew p a H H'' ∧ H'' FL = some (.lst (ns.map V.int)) ∧ TD K H'' row (.tuple [.str (bdN bs zn).1, .int (bdN bs zn).2.1, .int (bdN bs zn).2.2.1, .int (bdN bs zn).2.2.2]) ∧ ∃ (x1 x2 : Int), H'' S = some (.lst [.int x1, .int x2]) ∧
                σ' = [some (.ref p), some v, some (.int (first : Int)), some (.ref FL), some (.int (i : Int)), some (.bl near), some row, some (.ref S), some (.int 0)]) (fun σ' H'' h => ?_) (fun N hN => ?_)
              · obtain ⟨w12, hF12, hrow12, x1, x2, hS12, rfl⟩ := h
                wtm_at "jw"
                refine ⟨_, _, _, rfl, ?_⟩
                wtm_at "jw"
                exact ⟨w12.put d0 SH, by rw [upd_ne nSF.symm]; exact hF12, hrow12.tps (tps_put hS12), _, _, _, upd_same, rfl⟩
              · refine i_ifS ?_
                wtm_at "jw"
                refine c_bool (fun e => ?_) (fun e => ?_)
                · have hi0 := hnear e
                  have hM := hm2 hi0
                  have a1 := at_gI (ns := ns) (j := (bdN bs zn).2.1 + 0) (by omega) (by omega)
                  wtm_at "jw"
                  rename_i yk hyk
                  wtm_at "jw"
                  refine ⟨p, a, _, _, _, rfl, w11.at_, by omega, by omega, by omega, by omega, fun x3 H12 e12 => ?_⟩
                  have hS12 := e12.kp _ _ hS11 nSp
                  wtm_at "jw"
                  exact hN _ _ ⟨(w11.trans e12).put d0 SH, by rw [upd_ne nSF.symm]; exact e12.kp _ _ hF11 nFp, (hrow11.tps (e12.tps w11.at_)).tps (tps_put hS12), _, _, upd_same, rfl⟩
                · wtm_at "jw"
                  exact hN _ _ ⟨w11, hF11, hrow11, _, _, hS11, rfl⟩
            · rw [show (0 : Int) + ((1 : Nat) : Int) = 1 from rfl]
              wtm_at "js"
              refine i_ifC (fun σ' H'' => Drew p a H H'' ∧ H'' FL = some (.lst (ns.map V.int)) ∧ TD K H'' row (.tuple [.str (bdN bs zn).1, .int (bdN bs zn).2.1, .int (bdN bs zn).2.2.1, .int (bdN bs zn).2.2.2]) ∧ ∃ (x1 x2 : Int), H'' S = some (.lst [.int x1, .int x2]) ∧
                σ' = [some (.ref p), some v, some (.int (first : Int)), some (.ref FL), some (.int (i : Int)), some (.bl near), some row, some (.ref S), some (.int 1)]) (fun σ' H'' h => ?_) (fun N hN => ?_)
              · obtain ⟨w12, hF12, hrow12, x1, x2, hS12, rfl⟩ := h
                wtm_at "jw"
                refine ⟨_, _, _, rfl, ?_⟩
                wtm_at "jw"
                exact ⟨w12.put d0 SH, by rw [upd_ne nSF.symm]; exact hF12, hrow12.tps (tps_put hS12), _, _, _, upd_same, rfl⟩
              · refine i_ifS ?_
                wtm_at "jw"
                refine c_bool (fun e => ?_) (fun e => ?_)
                · have hi0 := hnear e
                  have hM := hm2 hi0
                  have a1 := at_gI (ns := ns) (j := (bdN bs zn).2.1 + 1) (by omega) (by omega)
                  wtm_at "jw"
                  rename_i yk hyk
                  wtm_at "jw"
                  refine ⟨p, a, _, _, _, rfl, w11.at_, by omega, by omega, by omega, by omega, fun x3 H12 e12 => ?_⟩
                  have hS12 := e12.kp _ _ hS11 nSp
                  wtm_at "jw"
                  exact hN _ _ ⟨(w11.trans e12).put d0 SH, by rw [upd_ne nSF.symm]; exact e12.kp _ _ hF11 nFp, (hrow11.tps (e12.tps w11.at_)).tps (tps_put hS12), _, _, upd_same, rfl⟩
                · wtm_at "jw"
                  exact hN _ _ ⟨w11, hF11, hrow11, _, _, hS11, rfl⟩
          · obtain ⟨w11, hF11, hrow11, x1, x2, v8, hS11, rfl⟩ := h
            have hcat : (ns.map V.int).length + ([.int x1, .int x2] : List V).length ≤ sizeLine := by rw [List.length_map, sizeLine_eq]; simp; omega
            wtm_at "jw"
            intro C hC
            have CH := w11.free hC
            have w12 := w11.new (o := .lst (ns.map V.int ++ [.int x1, .int x2])) hC
            have hC12 : upd H' C (.lst (ns.map V.int ++ [.int x1, .int x2])) C = some (.lst (ns.map V.int ++ [.int x1, .int x2])) := upd_same
            generalize upd H' C (.lst (ns.map V.int ++ [.int x1, .int x2])) = H12 at w12 hC12 ⊢
            wtm_at "jw"
            refine ⟨p, a, rfl, w12.at_, fun x3 H13 e13 => ?_⟩
            wtm_at "jw"
            refine ⟨p, a, rfl, e13.at_, fun x4 H14 e14 => ?_⟩
            have w14 := w12.trans (e13.trans e14)
            have hC14 := (e13.trans e14).kp _ _ hC12 (d0.ne_none CH)
            wtm_at "jw"
            refine drawL w14 (by decide) (by decide) fun z15 H15 _ _ e15 w15 => ?_
            have hC15 := e15.kp _ _ hC14 (d0.ne_none CH)
            wtm_at "jw"
            have hbit : ∀ b : Bool, (if b = true then (1 : Int) else 0) = 0 ∨ (if b = true then (1 : Int) else 0) = 1 := fun b => by cases b <;> simp
            have hbit := hbit (decide (z15 > 0))
            generalize (if decide (z15 > 0) = true then (1 : Int) else 0) = bit at hbit ⊢
            intro L hL
            have w16 := w15.new (o := .lst [.int x3, .int x4, .int bit]) hL
            have hC16 := same_new (o := .lst [.int x3, .int x4, .int bit]) hL _ _ hC15
            have hL16 : upd H15 L (.lst [.int x3, .int x4, .int bit]) L = some (.lst [.int x3, .int x4, .int bit]) := upd_same
            generalize upd H15 L (.lst [.int x3, .int x4, .int bit]) = H16 at w16 hC16 hL16 ⊢
            wtm_at "jw"
            first | refine i_cat hC16 hL16 (by rw [List.length_append, List.length_map, sizeLine_eq]; simp; omega) ?_ | skip
            intro G hG
            wtm_at "jw"
            refine ⟨w16.new hG, G, ns ++ [x1, x2, x3, x4, bit], _, _, _, _, _, w16.free hG, by rw [upd_same]; simp, by simp; omega, hfl.add nl rfl hbit, rfl⟩
        · wtm_at "jw"
          refine c_dec (fun h => ?_) (fun h => ?_)
          · wtm_at "jw"
            refine drawL w5 (by decide) (by decide) fun z6 H6 _ _ e6 w6 => ?_
            wtm_at "jw"
            exact hR _ _ ⟨e6, fun _ => by omega⟩
          · wtm_at "jw"
            exact hR _ _ ⟨w5.at_.drew, fun h => by cases h⟩
      · obtain ⟨w5, FL, ns, v4, v5, v6, v7, v8, FLH, hF5, nl, hfl, rfl⟩ := h
        rw [show (((List.map bD bs).length : Nat) : Int).toNat = bs.length by rw [List.length_map]; rfl] at nl hfl
        wtm_at "jw"
        intro r hr'
        exact q r ns _ (w5.new hr') (SqT.of upd_same) nl hfl
def sp__law_other_state (K : PySem.W.Frag) : Sp := fun vs H Q _ => ∃ (p a st : Addr) (v : V) (first : Nat) (ns : List Int) (bs : List Bd), vs = [.ref p, .ref st, v] ∧ DrawAt H p a ∧ SqT K H st (ns.map V.int) ∧ TD K H v (.tuple (bs.map bD)) ∧ 0 < bs.length ∧ bs.length ≤ 6 ∧ BsOk (2 + first) bs ∧ ns.length = 2 + first + 5 * bs.length ∧ FlOk (2 + first) ns bs.length ∧
  ∀ r (ns : List Int) H', Drew p a H H' → SqT K H' r (ns.map V.int) → ns.length = 2 + first + 5 * bs.length → FlOk (2 + first) ns bs.length → Q (.ref r) H'
theorem ok__law_other_state {P : Program} {w : World} {K : PySem.W.Frag} {mg : Str → Option Value} {base : Heap} {f : Addr} {fd : FuncData} (F : Df K mg "_law_other_state" s__law_other_state f fd ["d", "state", "bodies"]) (T : Txt mg)
    (c__law_draw : Cl P w K mg base 1 "_law_draw" (sp__law_draw K))
    (c__law_pick : Cl P w K mg base 2 "_law_pick" (sp__law_pick K))
    (c__law_hold : Cl P w K mg base 1 "_law_hold" (sp__law_hold K)) : FnOk P w K mg base CX0 3 f fd ["d", "state", "bodies"] (sp__law_other_state K) := by
  refine F.ok sc__law_other_state (fun vs H Q E h => ?_) (fun cdv A outer s H vs Q E hr h => ?_)
  · obtain ⟨p, a, st, v, first, ns, bs, rfl, _⟩ := h
    rfl
  · obtain ⟨p, a, st, v, first, ns, bs, rfl, d0, hst, hv, l0, l6, hbs, nl, hfl, q⟩ := h
    have fin : ∀ (FL : Addr) (j : Nat) (z : Int) (H' : Hp), Drew p a H H' → H FL = none → H' FL = some (.lst (ns.map V.int)) → j < ns.length → ((∃ i : Nat, j = 2 + first + 5 * i + 4 ∧ (gI ns (j : Int) = 0 ∨ gI ns (j : Int) = 1) ∧ z = 1 - gI ns (j : Int)) ∨ ∃ i : Nat, j = 2 + first + 5 * i + 0 ∨ j = 2 + first + 5 * i + 1) →
        ∀ r, upd H' FL (.lst ((ns.map V.int).set j (.int z))) r = none → Q (.ref r) (upd (upd H' FL (.lst ((ns.map V.int).set j (.int z)))) r (.tup ((ns.map V.int).set j (.int z)))) := fun FL j z H' w h1 h2 hj hz r hr' => by
      refine q r (ns.set j z) _ ((w.put d0 h1).new hr') (SqT.of (by rw [upd_same, List.map_set])) (by rw [List.length_set]; exact nl) fun i hi => ?_
      rcases hz with ⟨i', hj', g, rfl⟩ | ⟨i', hj'⟩
      · by_cases e : i = i'
        · subst e
          rw [show ((2 + first : Nat) : Int) + 5 * (i : Int) + 4 = (j : Int) by omega, gI_same hj]
          omega
        · rw [gI_set (by omega) (by omega)]
          exact hfl i hi
      · rw [gI_set (by omega) (by omega)]
        exact hfl i hi
    refine ⟨_, (pss_cons (ps_set (i := 3) sc__law_other_state.nd rfl (Or.inl rfl) (pe_callTy (T := "list") (r := rLstOf K) c_lst (by rfl) T.b_list (by decide +kernel) (pa_cons (pv 1) pa_nil)))
      (pss_cons (ps_set (i := 4) sc__law_other_state.nd rfl (Or.inl rfl) (pe_ix (r := rIx K) ix_seq (pe_cl c__law_pick hr (by decide) rfl (pa_cons (pv 0) (pa_cons (pv 2) pa_nil))) pe_int (fun _ _ => rfl)))
      (pss_cons (ps_set (i := 5) sc__law_other_state.nd rfl (Or.inl rfl) (pe_cl c__law_draw hr (by decide) rfl (pa_cons (pv 0) (pa_cons pe_int pa_nil))))
      (pss_cons (ps_if (pt_cmpR op_eq (pv 5) pe_int (nomark _)) (pss_one (ps_asg (pe_op op_sub pe_int (pe_ix (r := rIxL K) ix_list (pv 3) (pe_op op_add (pv 4) pe_int) (fun _ _ => rfl))) (pg_sub (pv 3) (pe_op op_add (pv 4) pe_int) set_list))) (pss_one (ps_asg (pe_cl c__law_hold hr (by decide) rfl (pa_cons (pe_un un_neg pe_int) (pa_cons (pe_op op_add (pe_ix (r := rIxL K) ix_list (pv 3) (pe_op op_add (pv 4) (pv 5)) (fun _ _ => rfl)) (pe_cl c__law_pick hr (by decide) rfl (pa_cons (pv 0) (pa_cons (pe_lst (pa_cons (pe_un un_neg pe_int) (pa_cons pe_int (pa_cons (pe_un un_neg pe_int) (pa_cons pe_int pa_nil))))) pa_nil)))) (pa_cons pe_int pa_nil)))) (pg_sub (pv 3) (pe_op op_add (pv 4) (pv 5)) set_list))))
      (pss_one (ps_ret (pe_callTy (T := "tuple") (r := rTupOf K) c_tup (by rfl) T.b_tuple (by decide +kernel) (pa_cons (pv 3) pa_nil)))))))), ?_⟩
    try dsimp only [cxOf, Cx.nox, Cx.wish]
    refine st_of (σ' := [some _, some _, some _, none, none, none]) rfl ?_
    obtain ⟨va, vxs, rfl, vS, vT⟩ := hv.tup_inv
    have vl : vxs.length = bs.length := by rw [vT.len, List.length_map]
    wtm_at "jw"
    intro FL hFL
    have w1 := d0.drew.new (o := .lst (ns.map V.int)) hFL
    have hF1 : upd H FL (.lst (ns.map V.int)) FL = some (.lst (ns.map V.int)) := upd_same
    have vS1 := (Tps.of (same_new (o := .lst (ns.map V.int)) hFL)).sq vS
    have vT1 := vT.same (same_new (o := .lst (ns.map V.int)) hFL)
    have nFp := d0.ne_none hFL
    generalize upd H FL (.lst (ns.map V.int)) = H1 at w1 hF1 vS1 vT1 ⊢
    wtm_at "jw"
    refine pickT w1 vS1 (by omega) (by omega) fun x H2 hx e2 w2 => ?_
    obtain ⟨d, hd, tx⟩ := (vT1.tps (e2.tps w1.at_)).mem hx
    obtain ⟨b, hb, rfl⟩ := List.mem_map.mp hd
    obtain ⟨i, hi⟩ := List.getElem?_of_mem hb
    have hlt := (List.getElem?_eq_some_iff.mp hi).1
    obtain ⟨hb1, _⟩ := hbs i b hi
    have hF2 := e2.kp _ _ hF1 nFp
    have tx' : TD K H2 x (.tuple [.str b.1, .int b.2.1, .int b.2.2.1, .int b.2.2.2]) := tx
    wtm_at "jw"
    refine drawL w2 (by decide) (by decide) fun way H3 y0 y1 e3 w3 => ?_
    have hF3 := e3.kp _ _ hF2 nFp
    wtm_at "jw"
    refine c_dec (fun h => ?_) (fun h => ?_)
    · have a4 := at_gI (ns := ns) (j := b.2.1 + 4) (by omega) (by omega)
      have x4 : ixN (ns.map V.int).length (b.2.1 + 4) = some (b.2.1 + 4).toNat := ixN_of (by omega) (by rw [List.length_map]; omega)
      wtm_at "jw"
      refine fin FL _ _ H3 w3 hFL hF3 (by omega) (.inl ⟨i, by omega, ?_, ?_⟩)
      · have := hfl i hlt
        rw [show (((b.2.1 + 4).toNat : Nat) : Int) = ((2 + first : Nat) : Int) + 5 * (i : Int) + 4 by omega]
        exact this
      · rw [show (((b.2.1 + 4).toNat : Nat) : Int) = b.2.1 + 4 by omega]
    · have a4 := at_gI (ns := ns) (j := b.2.1 + way) (by omega) (by omega)
      have x4 : ixN (ns.map V.int).length (b.2.1 + way) = some (b.2.1 + way).toNat := ixN_of (by omega) (by rw [List.length_map]; omega)
      wtm_at "jw"
      intro B hB
      wtm_at "jw"
      refine pickL (fun _ => True) [-1, 1, -16, 16] w3 hB rfl (by simp) (by simp) (by simp) fun z4 H4 _ e4 w4 => ?_
      have hF4 := e4.kp _ _ hF3 nFp
      wtm_at "jw"
      refine ⟨_, _, _, rfl, ?_⟩
      wtm_at "jw"
      exact fin FL _ _ H4 w4 hFL hF4 (by omega) (.inr ⟨i, by omega⟩)
def swB (b : Bd) : Bd := (b.1, b.2.1, b.2.2.2, b.2.2.1)
theorem BsOk.sw {base : Nat} {bs : List Bd} (h : BsOk base bs) : BsOk base (bs.map swB) := fun i b hb => by
  rw [List.getElem?_map] at hb
  cases e : bs[i]? with
  | none => rw [e] at hb; cases hb
  | some c =>
    rw [e] at hb
    cases hb
    obtain ⟨h1, h2, h3, h4, h5⟩ := h i c e
    exact ⟨h1, h4, h5, h2, h3⟩
def sp_law (K : PySem.W.Frag) : Sp := fun vs H Q _ => ∃ (a : Addr) (ns : List Int), vs = [.ref a] ∧ SqL K H a (ns.map V.int) ∧ ns.length ≤ 63 ∧ ∀ H', Q (.bl true) H'
theorem ok_law {P : Program} {w : World} {K : PySem.W.Frag} {mg : Str → Option Value} {base : Heap} {f : Addr} {fd : FuncData} (F : Df K mg "law" s_law f fd ["script"]) (T : Txt mg)
    (c__law_begin : Cl P w K mg base 1 "_law_begin" (sp__law_begin K))
    (c__law_pick : Cl P w K mg base 2 "_law_pick" (sp__law_pick K))
    (c__law_bodies : Cl P w K mg base 4 "_law_bodies" (sp__law_bodies K))
    (c__law_state_of : Cl P w K mg base 4 "_law_state_of" (sp__law_state_of K))
    (c__law_are_told : Cl P w K mg base 3 "_law_are_told" (sp__law_are_told K))
    (c__law_other_state : Cl P w K mg base 3 "_law_other_state" (sp__law_other_state K)) : FnOk P w K mg base CX0 5 f fd ["script"] (sp_law K) := by
  refine F.ok sc_law (fun vs H Q E h => ?_) (fun cdv A outer s H vs Q E hr h => ?_)
  · obtain ⟨a, ns, rfl, _⟩ := h
    rfl
  · obtain ⟨a, ns, rfl, hS, hl, q⟩ := h
    refine ⟨_, (pss_cons (ps_set (i := 1) sc_law.nd rfl (Or.inl rfl) (pe_cl c__law_begin hr (by decide) rfl (pa_cons (pv 0) pa_nil)))
      (pss_cons (ps_set (i := 2) sc_law.nd rfl (Or.inl rfl) (pe_cl c__law_pick hr (by decide) rfl (pa_cons (pv 1) (pa_cons (pe_lst (pa_cons pe_int (pa_cons pe_int (pa_cons pe_int (pa_cons pe_int (pa_cons pe_int (pa_cons pe_int (pa_cons pe_int (pa_cons pe_int pa_nil))))))))) pa_nil))))
      (pss_cons (ps_set (i := 3) sc_law.nd rfl (Or.inl rfl) (pe_cl c__law_pick hr (by decide) rfl (pa_cons (pv 1) (pa_cons (pe_lst (pa_cons pe_int (pa_cons pe_int (pa_cons pe_int (pa_cons pe_int (pa_cons pe_int pa_nil)))))) pa_nil))))
      (pss_cons (ps_set (i := 4) sc_law.nd rfl (Or.inl rfl) (pe_cl c__law_bodies hr (by decide) rfl (pa_cons (pv 1) (pa_cons (pv 3) (pa_cons (pv 2) pa_nil)))))
      (pss_cons (ps_set (i := 5) sc_law.nd rfl (Or.inl rfl) (pe_cl c__law_state_of hr (by decide) rfl (pa_cons (pv 1) (pa_cons (pv 4) (pa_cons (pv 3) pa_nil)))))
      (pss_cons (ps_if (pt_not (pt_val (pe_cl c__law_are_told hr (by decide) rfl (pa_cons (pv 5) (pa_cons (pv 4) pa_nil))))) (pss_one (ps_ret pe_bl)) pss_nil)
      (pss_cons (ps_set (i := 6) sc_law.nd rfl (Or.inl rfl) (pv 5))
      (pss_cons (ps_for PassesOwn.never rfl (pi_range1 rfl T.b_range (pa_cons (pe_op op_mul pe_int (pe_callB (id := "min") (c_min2 rfl) (by rfl) T.b_min (by decide +kernel) (pa_cons (pv 2) (pa_cons pe_int pa_nil)))) pa_nil)) (pg_name (i := 7) sc_law.nd rfl (Or.inl rfl)) (pss_cons (ps_set (i := 6) sc_law.nd rfl (Or.inl rfl) (pe_cl c__law_other_state hr (by decide) rfl (pa_cons (pv 1) (pa_cons (pv 6) (pa_cons (pv 4) pa_nil)))))
      (pss_one (ps_if (pt_not (pt_val (pe_cl c__law_are_told hr (by decide) rfl (pa_cons (pv 6) (pa_cons (pv 4) pa_nil))))) (pss_one (ps_ret pe_bl)) pss_nil))))
      (pss_cons (ps_set (i := 8) sc_law.nd rfl (Or.inl rfl) (pe_callTy (T := "tuple") (r := rTupOf K) c_tup (by rfl) T.b_tuple (by decide +kernel) (pa_cons (pe_lc (own := [("row", 9)]) (g := gName 9) (tt := tYes) rfl sc_law.nd (pi_tup (pv 4)) (blkOk_by (own := [("row", 9)]) (N := N_law) (sc := defScope s_law) (by decide +kernel)) (fun _ _ _ _ _ => (pg_name (i := 9) sc_law.nd rfl (Or.inl rfl))) (fun _ _ _ _ _ => pts_nil) (fun _ _ _ _ _ => (pe_tup (pa_cons (pe_ix (r := rIxT K) ix_tup (pv 9) pe_int (fun _ _ => rfl)) (pa_cons (pe_ix (r := rIxT K) ix_tup (pv 9) pe_int (fun _ _ => rfl)) (pa_cons (pe_ix (r := rIxT K) ix_tup (pv 9) pe_int (fun _ _ => rfl)) (pa_cons (pe_ix (r := rIxT K) ix_tup (pv 9) pe_int (fun _ _ => rfl)) pa_nil))))))) pa_nil)))
      (pss_one (ps_ret (pe_and (pe_cl c__law_are_told hr (by decide) rfl (pa_cons (pv 5) (pa_cons (pv 8) pa_nil))) (pe_one (pe_cl c__law_are_told hr (by decide) rfl (pa_cons (pv 5) (pa_cons (pv 4) pa_nil)))))))))))))))), ?_⟩
    try dsimp only [cxOf, Cx.nox, Cx.wish]
    refine st_of (σ' := [some _, none, none, none, none, none, none, none, none, none]) rfl ?_
    wtm_at "jw"
    refine ⟨a, ns, rfl, hS, hl, fun p c H1 s1 hp hc d1 => ?_⟩
    wtm_at "jw"
    intro B hB
    wtm_at "jw"
    refine pickL (fun z => 0 ≤ z ∧ z ≤ 6) [3, 6, 2, 4, 5, 6, 1, 0] d1.drew hB rfl (by simp) (by simp) (by simp) fun z1 H2 hz1 _ w2 => ?_
    wtm_at "jw"
    intro B2 hB2
    wtm_at "jw"
    refine pickL (fun z => 0 ≤ z ∧ z ≤ 12) [0, 1, 2, 3, 12] w2 hB2 rfl (by simp) (by simp) (by simp) fun z2 H3 hz2 _ w3 => ?_
    obtain ⟨many, rfl⟩ := Int.eq_ofNat_of_zero_le hz1.1
    obtain ⟨first, rfl⟩ := Int.eq_ofNat_of_zero_le hz2.1
    wtm_at "jw"
    refine ⟨p, c, first, many, rfl, w3.at_, by omega, by omega, fun v bs H4 e4 tv bl hbs => ?_⟩
    have w4 := w3.trans e4
    wtm_at "jw"
    refine ⟨p, c, v, first, bs, rfl, w4.at_, tv, by omega, by omega, hbs, fun r ms H5 e5 hr5 ml hfl => ?_⟩
    have w5 := w4.trans e5
    have tv5 := tv.tps (e5.tps w4.at_)
    wtm_at "jw"
    refine ⟨r, v, ms, bs, rfl, hr5, tv5, by omega, hbs.bok ml, hbs.onok hfl, fun H6 s6 => ?_⟩
    have w6 := w5.same s6
    have tv6 := tv5.same s6
    have hr6 := (Tps.of s6).sq hr5
    wtm_at "jw"
    refine f_range (fun i σ H' => Drew p c H1 H' ∧ TD K H' v (.tuple (bs.map bD)) ∧ SqT K H' r (ms.map V.int) ∧ ∃ (t : Addr) (ks : List Int) (v7 : Option V), SqT K H' t (ks.map V.int) ∧ ks.length = 2 + first + 5 * bs.length ∧ FlOk (2 + first) ks bs.length ∧
        σ = [some (.ref a), some (.ref p), some (.int (many : Int)), some (.int (first : Int)), some v, some (.ref r), some (.ref t), v7, none, none])
      ⟨w6, tv6, hr6, r, ms, none, hr6, ml, hfl, rfl⟩ (fun i σ H' hi h => ?_) (fun σ H' h => ?_)
    · obtain ⟨w7, tv7, hr7, t, ks, v7, hk7, kl, kfl, rfl⟩ := h
      have hm0 : 0 < bs.length := by
        rw [bl]
        split at hi <;> omega
      wtm_at "jw"
      refine ⟨p, c, t, v, first, ks, bs, rfl, w7.at_, hk7, tv7, hm0, by omega, hbs, kl, kfl, fun t2 ks2 H8 e8 hk8 kl8 kfl8 => ?_⟩
      have tv8 := tv7.tps (e8.tps w7.at_)
      have hr8 := (e8.tps w7.at_).sq hr7
      wtm_at "jw"
      refine ⟨t2, v, ks2, bs, rfl, hk8, tv8, by omega, hbs.bok kl8, hbs.onok kfl8, fun H9 s9 => ?_⟩
      wtm_at "jw"
      exact ⟨(w7.trans e8).same s9, tv8.same s9, (Tps.of s9).sq hr8, t2, ks2, _, (Tps.of s9).sq hk8, kl8, kfl8, rfl⟩
    · obtain ⟨w7, tv7, hr7, t, ks, v7, hk7, kl, kfl, rfl⟩ := h
      obtain ⟨va, vxs, rfl, vS, vT⟩ := tv7.tup_inv
      have vl : vxs.length = bs.length := by rw [vT.len, List.length_map]
      wtm_at "jw"
      intro D hD
      refine l_tup (xs := vxs) (fun i H8 => Same H' H8 ∧ LD K H8 D ((bs.take i).map (bD ∘ swB))) ⟨same_new hD, .new hD .nil⟩ (fun i H8 _ h => (Tps.of h.1).sq vS) (fun i x H8 hi h => ?_) (fun H8 h => ?_)
      · obtain ⟨s8, us, hD8, tus⟩ := h
        obtain ⟨d, hd, hx, _, hil⟩ := vT.at hi
        rw [List.length_map] at hil
        rw [List.getElem?_map] at hd
        obtain ⟨b, hb⟩ : ∃ b, bs[i]? = some b := ⟨_, List.getElem?_eq_getElem hil⟩
        rw [hb] at hd
        cases hd
        have hx8 : TD K H8 x (.tuple [.str b.1, .int b.2.1, .int b.2.2.1, .int b.2.2.2]) := hx.same s8
        have hul := tus.len
        rw [List.length_map, List.length_take] at hul
        wtm_at "jw"
        refine ⟨rfl, ?_⟩
        wtm_at "jw"
        intro T hT
        refine ⟨us, same_new hT _ _ hD8, small1000 (by omega), put_same (s8.trans (same_new hT)) hD, ?_⟩
        rw [List.take_add_one, hb, List.map_append]
        exact LD.snoc (same_new hT _ _ hD8) (tus.same (same_new hT)) (TD.new hT (.cons (.str _) (.cons (.int _) (.cons (.int _) (.cons (.int _) .nil)))))
      · obtain ⟨s8, us, hD8, tus⟩ := h
        rw [vl, List.take_length, ← List.map_map] at tus
        have tv8 := tv7.same s8
        have hr8 := (Tps.of s8).sq hr7
        wtm_at "jw"
        intro T hT
        have tT : TD K (upd H8 T (.tup us)) (.ref T) (.tuple ((bs.map swB).map bD)) := TD.new hT tus
        have s9 := same_new (o := .tup us) hT
        have tv9 := tv8.same s9
        have hr9 := (Tps.of s9).sq hr8
        generalize upd H8 T (.tup us) = H9 at tT tv9 hr9 ⊢
        wtm_at "jw"
        refine ⟨r, .ref T, ms, bs.map swB, rfl, hr9, tT, by rw [List.length_map]; omega, hbs.sw.bok (by rw [List.length_map]; exact ml), hbs.sw.onok (by rw [List.length_map]; exact hfl), fun H10 s10 => ?_⟩
        wtm_at "jw"
        refine ⟨r, .ref va, ms, bs, rfl, (Tps.of s10).sq hr9, tv9.same s10, by omega, hbs.bok ml, hbs.onok hfl, fun H11 s11 => ?_⟩
        exact q _
theorem law_hands {K : PySem.W.Frag} {H : Hp} (a : Addr) (ns : List Int) (hl : ns.length ≤ 63) (hb : ∀ z ∈ ns, Builtin.Int.intBits z ≤ 1048576) (h : SqL K H a (ns.map V.int)) :
    sp_law K [.ref a] H (fun v _ => v = .bl true) fun _ _ _ => False := ⟨a, ns, rfl, h, hl, fun _ => rfl⟩
theorem all_mk {l : PySem.W.OpenLaw} {w : World} {K : PySem.W.Frag} {h : Heap} {mg : Str → Option Value} {fa : Addr} (X : K.In h) (G : h.Ns mainGlobals mg) (hfa : mg "law" = some (.ref fa))
    {f__law_begin : Addr} {od__law_begin an__law_begin : Option Addr} {sl__law_begin : Array (Option Value)} {oc__law_begin kV__law_begin dc__law_begin pm__law_begin cd__law_begin ct__law_begin : Value}
    {f__law_draw : Addr} {od__law_draw an__law_draw : Option Addr} {sl__law_draw : Array (Option Value)} {oc__law_draw kV__law_draw dc__law_draw pm__law_draw cd__law_draw ct__law_draw : Value}
    {f__law_pick : Addr} {od__law_pick an__law_pick : Option Addr} {sl__law_pick : Array (Option Value)} {oc__law_pick kV__law_pick dc__law_pick pm__law_pick cd__law_pick ct__law_pick : Value}
    {f__law_pool : Addr} {od__law_pool an__law_pool : Option Addr} {sl__law_pool : Array (Option Value)} {oc__law_pool kV__law_pool dc__law_pool pm__law_pool cd__law_pool ct__law_pool : Value}
    {f__law_pop : Addr} {od__law_pop an__law_pop : Option Addr} {sl__law_pop : Array (Option Value)} {oc__law_pop kV__law_pop dc__law_pop pm__law_pop cd__law_pop ct__law_pop : Value}
    {f__law_size : Addr} {od__law_size an__law_size : Option Addr} {sl__law_size : Array (Option Value)} {oc__law_size kV__law_size dc__law_size pm__law_size cd__law_size ct__law_size : Value}
    {f__law_bodies : Addr} {od__law_bodies an__law_bodies : Option Addr} {sl__law_bodies : Array (Option Value)} {oc__law_bodies kV__law_bodies dc__law_bodies pm__law_bodies cd__law_bodies ct__law_bodies : Value}
    {f__law_anywhere : Addr} {od__law_anywhere an__law_anywhere : Option Addr} {sl__law_anywhere : Array (Option Value)} {oc__law_anywhere kV__law_anywhere dc__law_anywhere pm__law_anywhere cd__law_anywhere ct__law_anywhere : Value}
    {f__law_hold : Addr} {od__law_hold an__law_hold : Option Addr} {sl__law_hold : Array (Option Value)} {oc__law_hold kV__law_hold dc__law_hold pm__law_hold cd__law_hold ct__law_hold : Value}
    {f__law_spot : Addr} {od__law_spot an__law_spot : Option Addr} {sl__law_spot : Array (Option Value)} {oc__law_spot kV__law_spot dc__law_spot pm__law_spot cd__law_spot ct__law_spot : Value}
    {f__law_state_of : Addr} {od__law_state_of an__law_state_of : Option Addr} {sl__law_state_of : Array (Option Value)} {oc__law_state_of kV__law_state_of dc__law_state_of pm__law_state_of cd__law_state_of ct__law_state_of : Value}
    {f_is_on : Addr} {od_is_on an_is_on : Option Addr} {sl_is_on : Array (Option Value)} {oc_is_on kV_is_on dc_is_on pm_is_on cd_is_on ct_is_on : Value}
    {f_overlapping : Addr} {od_overlapping an_overlapping : Option Addr} {sl_overlapping : Array (Option Value)} {oc_overlapping kV_overlapping dc_overlapping pm_overlapping cd_overlapping ct_overlapping : Value}
    {f_touching_pairs : Addr} {od_touching_pairs an_touching_pairs : Option Addr} {sl_touching_pairs : Array (Option Value)} {oc_touching_pairs kV_touching_pairs dc_touching_pairs pm_touching_pairs cd_touching_pairs ct_touching_pairs : Value}
    {f__law_common : Addr} {od__law_common an__law_common : Option Addr} {sl__law_common : Array (Option Value)} {oc__law_common kV__law_common dc__law_common pm__law_common cd__law_common ct__law_common : Value}
    {f_touching : Addr} {od_touching an_touching : Option Addr} {sl_touching : Array (Option Value)} {oc_touching kV_touching dc_touching pm_touching cd_touching ct_touching : Value}
    {f__law_is_int : Addr} {od__law_is_int an__law_is_int : Option Addr} {sl__law_is_int : Array (Option Value)} {oc__law_is_int kV__law_is_int dc__law_is_int pm__law_is_int cd__law_is_int ct__law_is_int : Value}
    {f__law_is_ints : Addr} {od__law_is_ints an__law_is_ints : Option Addr} {sl__law_is_ints : Array (Option Value)} {oc__law_is_ints kV__law_is_ints dc__law_is_ints pm__law_is_ints cd__law_is_ints ct__law_is_ints : Value}
    {f__law_are_told : Addr} {od__law_are_told an__law_are_told : Option Addr} {sl__law_are_told : Array (Option Value)} {oc__law_are_told kV__law_are_told dc__law_are_told pm__law_are_told cd__law_are_told ct__law_are_told : Value}
    {f__law_other_state : Addr} {od__law_other_state an__law_other_state : Option Addr} {sl__law_other_state : Array (Option Value)} {oc__law_other_state kV__law_other_state dc__law_other_state pm__law_other_state cd__law_other_state ct__law_other_state : Value}
    {f_law : Addr} {od_law an_law : Option Addr} {sl_law : Array (Option Value)} {oc_law kV_law dc_law pm_law cd_law ct_law : Value}
    (a__law_begin : PySem.W.nsIn K mainGlobals "_law_begin" = some (some (.ref f__law_begin))) (l__law_begin : K.lookup f__law_begin = some ⟨oc__law_begin, od__law_begin, .func (PySem.W.fnOf "_law_begin" "_law_begin" (defArgs s__law_begin) (defBody s__law_begin) (defScope s__law_begin) .none kV__law_begin dc__law_begin pm__law_begin an__law_begin cd__law_begin ct__law_begin), sl__law_begin⟩) (c__law_begin : PySem.W.codeIn K cd__law_begin "_law_begin" = true) (k__law_begin : PySem.W.keepIn K (.ref f__law_begin) = true)
    (a__law_draw : PySem.W.nsIn K mainGlobals "_law_draw" = some (some (.ref f__law_draw))) (l__law_draw : K.lookup f__law_draw = some ⟨oc__law_draw, od__law_draw, .func (PySem.W.fnOf "_law_draw" "_law_draw" (defArgs s__law_draw) (defBody s__law_draw) (defScope s__law_draw) .none kV__law_draw dc__law_draw pm__law_draw an__law_draw cd__law_draw ct__law_draw), sl__law_draw⟩) (c__law_draw : PySem.W.codeIn K cd__law_draw "_law_draw" = true) (k__law_draw : PySem.W.keepIn K (.ref f__law_draw) = true)
    (a__law_pick : PySem.W.nsIn K mainGlobals "_law_pick" = some (some (.ref f__law_pick))) (l__law_pick : K.lookup f__law_pick = some ⟨oc__law_pick, od__law_pick, .func (PySem.W.fnOf "_law_pick" "_law_pick" (defArgs s__law_pick) (defBody s__law_pick) (defScope s__law_pick) .none kV__law_pick dc__law_pick pm__law_pick an__law_pick cd__law_pick ct__law_pick), sl__law_pick⟩) (c__law_pick : PySem.W.codeIn K cd__law_pick "_law_pick" = true) (k__law_pick : PySem.W.keepIn K (.ref f__law_pick) = true)
    (a__law_pool : PySem.W.nsIn K mainGlobals "_law_pool" = some (some (.ref f__law_pool))) (l__law_pool : K.lookup f__law_pool = some ⟨oc__law_pool, od__law_pool, .func (PySem.W.fnOf "_law_pool" "_law_pool" (defArgs s__law_pool) (defBody s__law_pool) (defScope s__law_pool) .none kV__law_pool dc__law_pool pm__law_pool an__law_pool cd__law_pool ct__law_pool), sl__law_pool⟩) (c__law_pool : PySem.W.codeIn K cd__law_pool "_law_pool" = true) (k__law_pool : PySem.W.keepIn K (.ref f__law_pool) = true)
    (a__law_pop : PySem.W.nsIn K mainGlobals "_law_pop" = some (some (.ref f__law_pop))) (l__law_pop : K.lookup f__law_pop = some ⟨oc__law_pop, od__law_pop, .func (PySem.W.fnOf "_law_pop" "_law_pop" (defArgs s__law_pop) (defBody s__law_pop) (defScope s__law_pop) .none kV__law_pop dc__law_pop pm__law_pop an__law_pop cd__law_pop ct__law_pop), sl__law_pop⟩) (c__law_pop : PySem.W.codeIn K cd__law_pop "_law_pop" = true) (k__law_pop : PySem.W.keepIn K (.ref f__law_pop) = true)
    (a__law_size : PySem.W.nsIn K mainGlobals "_law_size" = some (some (.ref f__law_size))) (l__law_size : K.lookup f__law_size = some ⟨oc__law_size, od__law_size, .func (PySem.W.fnOf "_law_size" "_law_size" (defArgs s__law_size) (defBody s__law_size) (defScope s__law_size) .none kV__law_size dc__law_size pm__law_size an__law_size cd__law_size ct__law_size), sl__law_size⟩) (c__law_size : PySem.W.codeIn K cd__law_size "_law_size" = true) (k__law_size : PySem.W.keepIn K (.ref f__law_size) = true)
    (a__law_bodies : PySem.W.nsIn K mainGlobals "_law_bodies" = some (some (.ref f__law_bodies))) (l__law_bodies : K.lookup f__law_bodies = some ⟨oc__law_bodies, od__law_bodies, .func (PySem.W.fnOf "_law_bodies" "_law_bodies" (defArgs s__law_bodies) (defBody s__law_bodies) (defScope s__law_bodies) .none kV__law_bodies dc__law_bodies pm__law_bodies an__law_bodies cd__law_bodies ct__law_bodies), sl__law_bodies⟩) (c__law_bodies : PySem.W.codeIn K cd__law_bodies "_law_bodies" = true) (k__law_bodies : PySem.W.keepIn K (.ref f__law_bodies) = true)
    (a__law_anywhere : PySem.W.nsIn K mainGlobals "_law_anywhere" = some (some (.ref f__law_anywhere))) (l__law_anywhere : K.lookup f__law_anywhere = some ⟨oc__law_anywhere, od__law_anywhere, .func (PySem.W.fnOf "_law_anywhere" "_law_anywhere" (defArgs s__law_anywhere) (defBody s__law_anywhere) (defScope s__law_anywhere) .none kV__law_anywhere dc__law_anywhere pm__law_anywhere an__law_anywhere cd__law_anywhere ct__law_anywhere), sl__law_anywhere⟩) (c__law_anywhere : PySem.W.codeIn K cd__law_anywhere "_law_anywhere" = true) (k__law_anywhere : PySem.W.keepIn K (.ref f__law_anywhere) = true)
    (a__law_hold : PySem.W.nsIn K mainGlobals "_law_hold" = some (some (.ref f__law_hold))) (l__law_hold : K.lookup f__law_hold = some ⟨oc__law_hold, od__law_hold, .func (PySem.W.fnOf "_law_hold" "_law_hold" (defArgs s__law_hold) (defBody s__law_hold) (defScope s__law_hold) .none kV__law_hold dc__law_hold pm__law_hold an__law_hold cd__law_hold ct__law_hold), sl__law_hold⟩) (c__law_hold : PySem.W.codeIn K cd__law_hold "_law_hold" = true) (k__law_hold : PySem.W.keepIn K (.ref f__law_hold) = true)
    (a__law_spot : PySem.W.nsIn K mainGlobals "_law_spot" = some (some (.ref f__law_spot))) (l__law_spot : K.lookup f__law_spot = some ⟨oc__law_spot, od__law_spot, .func (PySem.W.fnOf "_law_spot" "_law_spot" (defArgs s__law_spot) (defBody s__law_spot) (defScope s__law_spot) .none kV__law_spot dc__law_spot pm__law_spot an__law_spot cd__law_spot ct__law_spot), sl__law_spot⟩) (c__law_spot : PySem.W.codeIn K cd__law_spot "_law_spot" = true) (k__law_spot : PySem.W.keepIn K (.ref f__law_spot) = true)
    (a__law_state_of : PySem.W.nsIn K mainGlobals "_law_state_of" = some (some (.ref f__law_state_of))) (l__law_state_of : K.lookup f__law_state_of = some ⟨oc__law_state_of, od__law_state_of, .func (PySem.W.fnOf "_law_state_of" "_law_state_of" (defArgs s__law_state_of) (defBody s__law_state_of) (defScope s__law_state_of) .none kV__law_state_of dc__law_state_of pm__law_state_of an__law_state_of cd__law_state_of ct__law_state_of), sl__law_state_of⟩) (c__law_state_of : PySem.W.codeIn K cd__law_state_of "_law_state_of" = true) (k__law_state_of : PySem.W.keepIn K (.ref f__law_state_of) = true)
    (a_is_on : PySem.W.nsIn K mainGlobals "is_on" = some (some (.ref f_is_on))) (l_is_on : K.lookup f_is_on = some ⟨oc_is_on, od_is_on, .func (PySem.W.fnOf "is_on" "is_on" (defArgs s_is_on) (defBody s_is_on) (defScope s_is_on) .none kV_is_on dc_is_on pm_is_on an_is_on cd_is_on ct_is_on), sl_is_on⟩) (c_is_on : PySem.W.codeIn K cd_is_on "is_on" = true) (k_is_on : PySem.W.keepIn K (.ref f_is_on) = true)
    (a_overlapping : PySem.W.nsIn K mainGlobals "overlapping" = some (some (.ref f_overlapping))) (l_overlapping : K.lookup f_overlapping = some ⟨oc_overlapping, od_overlapping, .func (PySem.W.fnOf "overlapping" "overlapping" (defArgs s_overlapping) (defBody s_overlapping) (defScope s_overlapping) .none kV_overlapping dc_overlapping pm_overlapping an_overlapping cd_overlapping ct_overlapping), sl_overlapping⟩) (c_overlapping : PySem.W.codeIn K cd_overlapping "overlapping" = true) (k_overlapping : PySem.W.keepIn K (.ref f_overlapping) = true)
    (a_touching_pairs : PySem.W.nsIn K mainGlobals "touching_pairs" = some (some (.ref f_touching_pairs))) (l_touching_pairs : K.lookup f_touching_pairs = some ⟨oc_touching_pairs, od_touching_pairs, .func (PySem.W.fnOf "touching_pairs" "touching_pairs" (defArgs s_touching_pairs) (defBody s_touching_pairs) (defScope s_touching_pairs) .none kV_touching_pairs dc_touching_pairs pm_touching_pairs an_touching_pairs cd_touching_pairs ct_touching_pairs), sl_touching_pairs⟩) (c_touching_pairs : PySem.W.codeIn K cd_touching_pairs "touching_pairs" = true) (k_touching_pairs : PySem.W.keepIn K (.ref f_touching_pairs) = true)
    (a__law_common : PySem.W.nsIn K mainGlobals "_law_common" = some (some (.ref f__law_common))) (l__law_common : K.lookup f__law_common = some ⟨oc__law_common, od__law_common, .func (PySem.W.fnOf "_law_common" "_law_common" (defArgs s__law_common) (defBody s__law_common) (defScope s__law_common) .none kV__law_common dc__law_common pm__law_common an__law_common cd__law_common ct__law_common), sl__law_common⟩) (c__law_common : PySem.W.codeIn K cd__law_common "_law_common" = true) (k__law_common : PySem.W.keepIn K (.ref f__law_common) = true)
    (a_touching : PySem.W.nsIn K mainGlobals "touching" = some (some (.ref f_touching))) (l_touching : K.lookup f_touching = some ⟨oc_touching, od_touching, .func (PySem.W.fnOf "touching" "touching" (defArgs s_touching) (defBody s_touching) (defScope s_touching) .none kV_touching dc_touching pm_touching an_touching cd_touching ct_touching), sl_touching⟩) (c_touching : PySem.W.codeIn K cd_touching "touching" = true) (k_touching : PySem.W.keepIn K (.ref f_touching) = true)
    (a__law_is_int : PySem.W.nsIn K mainGlobals "_law_is_int" = some (some (.ref f__law_is_int))) (l__law_is_int : K.lookup f__law_is_int = some ⟨oc__law_is_int, od__law_is_int, .func (PySem.W.fnOf "_law_is_int" "_law_is_int" (defArgs s__law_is_int) (defBody s__law_is_int) (defScope s__law_is_int) .none kV__law_is_int dc__law_is_int pm__law_is_int an__law_is_int cd__law_is_int ct__law_is_int), sl__law_is_int⟩) (c__law_is_int : PySem.W.codeIn K cd__law_is_int "_law_is_int" = true) (k__law_is_int : PySem.W.keepIn K (.ref f__law_is_int) = true)
    (a__law_is_ints : PySem.W.nsIn K mainGlobals "_law_is_ints" = some (some (.ref f__law_is_ints))) (l__law_is_ints : K.lookup f__law_is_ints = some ⟨oc__law_is_ints, od__law_is_ints, .func (PySem.W.fnOf "_law_is_ints" "_law_is_ints" (defArgs s__law_is_ints) (defBody s__law_is_ints) (defScope s__law_is_ints) .none kV__law_is_ints dc__law_is_ints pm__law_is_ints an__law_is_ints cd__law_is_ints ct__law_is_ints), sl__law_is_ints⟩) (c__law_is_ints : PySem.W.codeIn K cd__law_is_ints "_law_is_ints" = true) (k__law_is_ints : PySem.W.keepIn K (.ref f__law_is_ints) = true)
    (a__law_are_told : PySem.W.nsIn K mainGlobals "_law_are_told" = some (some (.ref f__law_are_told))) (l__law_are_told : K.lookup f__law_are_told = some ⟨oc__law_are_told, od__law_are_told, .func (PySem.W.fnOf "_law_are_told" "_law_are_told" (defArgs s__law_are_told) (defBody s__law_are_told) (defScope s__law_are_told) .none kV__law_are_told dc__law_are_told pm__law_are_told an__law_are_told cd__law_are_told ct__law_are_told), sl__law_are_told⟩) (c__law_are_told : PySem.W.codeIn K cd__law_are_told "_law_are_told" = true) (k__law_are_told : PySem.W.keepIn K (.ref f__law_are_told) = true)
    (a__law_other_state : PySem.W.nsIn K mainGlobals "_law_other_state" = some (some (.ref f__law_other_state))) (l__law_other_state : K.lookup f__law_other_state = some ⟨oc__law_other_state, od__law_other_state, .func (PySem.W.fnOf "_law_other_state" "_law_other_state" (defArgs s__law_other_state) (defBody s__law_other_state) (defScope s__law_other_state) .none kV__law_other_state dc__law_other_state pm__law_other_state an__law_other_state cd__law_other_state ct__law_other_state), sl__law_other_state⟩) (c__law_other_state : PySem.W.codeIn K cd__law_other_state "_law_other_state" = true) (k__law_other_state : PySem.W.keepIn K (.ref f__law_other_state) = true)
    (a_law : PySem.W.nsIn K mainGlobals "law" = some (some (.ref f_law))) (l_law : K.lookup f_law = some ⟨oc_law, od_law, .func (PySem.W.fnOf "law" "law" (defArgs s_law) (defBody s_law) (defScope s_law) .none kV_law dc_law pm_law an_law cd_law ct_law), sl_law⟩) (c_law : PySem.W.codeIn K cd_law "law" = true) (k_law : PySem.W.keepIn K (.ref f_law) = true)
    (z_int : PySem.W.nsIn K mainGlobals "int" = some none)
    (z_len : PySem.W.nsIn K mainGlobals "len" = some none)
    (z_abs : PySem.W.nsIn K mainGlobals "abs" = some none)
    (z_range : PySem.W.nsIn K mainGlobals "range" = some none)
    (z_tuple : PySem.W.nsIn K mainGlobals "tuple" = some none)
    (z_min : PySem.W.nsIn K mainGlobals "min" = some none)
    (z_max : PySem.W.nsIn K mainGlobals "max" = some none)
    (z_sorted : PySem.W.nsIn K mainGlobals "sorted" = some none)
    (z_isinstance : PySem.W.nsIn K mainGlobals "isinstance" = some none)
    (z_bool : PySem.W.nsIn K mainGlobals "bool" = some none)
    (z_all : PySem.W.nsIn K mainGlobals "all" = some none)
    (z_list : PySem.W.nsIn K mainGlobals "list" = some none)
    {u_PART : Value} (n_PART : PySem.W.nsIn K mainGlobals "PART" = some (some u_PART)) (r_PART : RelV (.int 16) u_PART)
    : ∃ fd : FuncData, (∀ (s : Shared) (v : Value), BindsTo s fd ⟨[v], []⟩ [("script", v)]) ∧ ∀ base : Heap, K.In base → base.Ns mainGlobals mg → FnOk l.prog w K mg base CX0 5 fa fd ["script"] (sp_law K) := by
  have e := hfa.symm.trans (PySem.W.mg_of X G a_law)
  cases e
  have T : Txt mg := ⟨PySem.W.mg_none_of X G z_int, PySem.W.mg_none_of X G z_len, PySem.W.mg_none_of X G z_abs, PySem.W.mg_none_of X G z_range, PySem.W.mg_none_of X G z_tuple, PySem.W.mg_none_of X G z_min, PySem.W.mg_none_of X G z_max, PySem.W.mg_none_of X G z_sorted, PySem.W.mg_none_of X G z_isinstance, PySem.W.mg_none_of X G z_bool, PySem.W.mg_none_of X G z_all, PySem.W.mg_none_of X G z_list, ⟨_, PySem.W.mg_of X G n_PART, r_PART⟩⟩
  have F__law_begin := fun_mk (st := s__law_begin) l__law_begin c__law_begin k__law_begin
  have D__law_begin : Df K mg "_law_begin" s__law_begin f__law_begin _ ["script"] := ⟨F__law_begin, PySem.W.mg_of X G a__law_begin, F__law_begin.binds (ps := ["script"]) fun _ _ _ _ _ _ us hl => match us, hl with | [_], _ => rfl⟩
  have F__law_draw := fun_mk (st := s__law_draw) l__law_draw c__law_draw k__law_draw
  have D__law_draw : Df K mg "_law_draw" s__law_draw f__law_draw _ ["d", "many"] := ⟨F__law_draw, PySem.W.mg_of X G a__law_draw, F__law_draw.binds (ps := ["d", "many"]) fun _ _ _ _ _ _ us hl => match us, hl with | [_, _], _ => rfl⟩
  have F__law_pick := fun_mk (st := s__law_pick) l__law_pick c__law_pick k__law_pick
  have D__law_pick : Df K mg "_law_pick" s__law_pick f__law_pick _ ["d", "row"] := ⟨F__law_pick, PySem.W.mg_of X G a__law_pick, F__law_pick.binds (ps := ["d", "row"]) fun _ _ _ _ _ _ us hl => match us, hl with | [_, _], _ => rfl⟩
  have F__law_pool := fun_mk (st := s__law_pool) l__law_pool c__law_pool k__law_pool
  have D__law_pool : Df K mg "_law_pool" s__law_pool f__law_pool _ [] := ⟨F__law_pool, PySem.W.mg_of X G a__law_pool, F__law_pool.binds (ps := []) fun _ _ _ _ _ _ us hl => match us, hl with | [], _ => rfl⟩
  have F__law_pop := fun_mk (st := s__law_pop) l__law_pop c__law_pop k__law_pop
  have D__law_pop : Df K mg "_law_pop" s__law_pop f__law_pop _ ["d", "row"] := ⟨F__law_pop, PySem.W.mg_of X G a__law_pop, F__law_pop.binds (ps := ["d", "row"]) fun _ _ _ _ _ _ us hl => match us, hl with | [_, _], _ => rfl⟩
  have F__law_size := fun_mk (st := s__law_size) l__law_size c__law_size k__law_size
  have D__law_size : Df K mg "_law_size" s__law_size f__law_size _ ["d"] := ⟨F__law_size, PySem.W.mg_of X G a__law_size, F__law_size.binds (ps := ["d"]) fun _ _ _ _ _ _ us hl => match us, hl with | [_], _ => rfl⟩
  have F__law_bodies := fun_mk (st := s__law_bodies) l__law_bodies c__law_bodies k__law_bodies
  have D__law_bodies : Df K mg "_law_bodies" s__law_bodies f__law_bodies _ ["d", "first", "many"] := ⟨F__law_bodies, PySem.W.mg_of X G a__law_bodies, F__law_bodies.binds (ps := ["d", "first", "many"]) fun _ _ _ _ _ _ us hl => match us, hl with | [_, _, _], _ => rfl⟩
  have F__law_anywhere := fun_mk (st := s__law_anywhere) l__law_anywhere c__law_anywhere k__law_anywhere
  have D__law_anywhere : Df K mg "_law_anywhere" s__law_anywhere f__law_anywhere _ ["d"] := ⟨F__law_anywhere, PySem.W.mg_of X G a__law_anywhere, F__law_anywhere.binds (ps := ["d"]) fun _ _ _ _ _ _ us hl => match us, hl with | [_], _ => rfl⟩
  have F__law_hold := fun_mk (st := s__law_hold) l__law_hold c__law_hold k__law_hold
  have D__law_hold : Df K mg "_law_hold" s__law_hold f__law_hold _ ["low", "number", "high"] := ⟨F__law_hold, PySem.W.mg_of X G a__law_hold, F__law_hold.binds (ps := ["low", "number", "high"]) fun _ _ _ _ _ _ us hl => match us, hl with | [_, _, _], _ => rfl⟩
  have F__law_spot := fun_mk (st := s__law_spot) l__law_spot c__law_spot k__law_spot
  have D__law_spot : Df K mg "_law_spot" s__law_spot f__law_spot _ ["d", "start", "width", "size"] := ⟨F__law_spot, PySem.W.mg_of X G a__law_spot, F__law_spot.binds (ps := ["d", "start", "width", "size"]) fun _ _ _ _ _ _ us hl => match us, hl with | [_, _, _, _], _ => rfl⟩
  have F__law_state_of := fun_mk (st := s__law_state_of) l__law_state_of c__law_state_of k__law_state_of
  have D__law_state_of : Df K mg "_law_state_of" s__law_state_of f__law_state_of _ ["d", "bodies", "first"] := ⟨F__law_state_of, PySem.W.mg_of X G a__law_state_of, F__law_state_of.binds (ps := ["d", "bodies", "first"]) fun _ _ _ _ _ _ us hl => match us, hl with | [_, _, _], _ => rfl⟩
  have F_is_on := fun_mk (st := s_is_on) l_is_on c_is_on k_is_on
  have D_is_on : Df K mg "is_on" s_is_on f_is_on _ ["state", "body"] := ⟨F_is_on, PySem.W.mg_of X G a_is_on, F_is_on.binds (ps := ["state", "body"]) fun _ _ _ _ _ _ us hl => match us, hl with | [_, _], _ => rfl⟩
  have F_overlapping := fun_mk (st := s_overlapping) l_overlapping c_overlapping k_overlapping
  have D_overlapping : Df K mg "overlapping" s_overlapping f_overlapping _ ["state", "one", "other"] := ⟨F_overlapping, PySem.W.mg_of X G a_overlapping, F_overlapping.binds (ps := ["state", "one", "other"]) fun _ _ _ _ _ _ us hl => match us, hl with | [_, _, _], _ => rfl⟩
  have F_touching_pairs := fun_mk (st := s_touching_pairs) l_touching_pairs c_touching_pairs k_touching_pairs
  have D_touching_pairs : Df K mg "touching_pairs" s_touching_pairs f_touching_pairs _ ["state", "bodies"] := ⟨F_touching_pairs, PySem.W.mg_of X G a_touching_pairs, F_touching_pairs.binds (ps := ["state", "bodies"]) fun _ _ _ _ _ _ us hl => match us, hl with | [_, _], _ => rfl⟩
  have F__law_common := fun_mk (st := s__law_common) l__law_common c__law_common k__law_common
  have D__law_common : Df K mg "_law_common" s__law_common f__law_common _ ["state", "one", "other"] := ⟨F__law_common, PySem.W.mg_of X G a__law_common, F__law_common.binds (ps := ["state", "one", "other"]) fun _ _ _ _ _ _ us hl => match us, hl with | [_, _, _], _ => rfl⟩
  have F_touching := fun_mk (st := s_touching) l_touching c_touching k_touching
  have D_touching : Df K mg "touching" s_touching f_touching _ ["state", "bodies", "one", "other"] := ⟨F_touching, PySem.W.mg_of X G a_touching, F_touching.binds (ps := ["state", "bodies", "one", "other"]) fun _ _ _ _ _ _ us hl => match us, hl with | [_, _, _, _], _ => rfl⟩
  have F__law_is_int := fun_mk (st := s__law_is_int) l__law_is_int c__law_is_int k__law_is_int
  have D__law_is_int : Df K mg "_law_is_int" s__law_is_int f__law_is_int _ ["thing"] := ⟨F__law_is_int, PySem.W.mg_of X G a__law_is_int, F__law_is_int.binds (ps := ["thing"]) fun _ _ _ _ _ _ us hl => match us, hl with | [_], _ => rfl⟩
  have F__law_is_ints := fun_mk (st := s__law_is_ints) l__law_is_ints c__law_is_ints k__law_is_ints
  have D__law_is_ints : Df K mg "_law_is_ints" s__law_is_ints f__law_is_ints _ ["row"] := ⟨F__law_is_ints, PySem.W.mg_of X G a__law_is_ints, F__law_is_ints.binds (ps := ["row"]) fun _ _ _ _ _ _ us hl => match us, hl with | [_], _ => rfl⟩
  have F__law_are_told := fun_mk (st := s__law_are_told) l__law_are_told c__law_are_told k__law_are_told
  have D__law_are_told : Df K mg "_law_are_told" s__law_are_told f__law_are_told _ ["state", "bodies"] := ⟨F__law_are_told, PySem.W.mg_of X G a__law_are_told, F__law_are_told.binds (ps := ["state", "bodies"]) fun _ _ _ _ _ _ us hl => match us, hl with | [_, _], _ => rfl⟩
  have F__law_other_state := fun_mk (st := s__law_other_state) l__law_other_state c__law_other_state k__law_other_state
  have D__law_other_state : Df K mg "_law_other_state" s__law_other_state f__law_other_state _ ["d", "state", "bodies"] := ⟨F__law_other_state, PySem.W.mg_of X G a__law_other_state, F__law_other_state.binds (ps := ["d", "state", "bodies"]) fun _ _ _ _ _ _ us hl => match us, hl with | [_, _, _], _ => rfl⟩
  have F_law := fun_mk (st := s_law) l_law c_law k_law
  have D_law : Df K mg "law" s_law _ _ ["script"] := ⟨F_law, PySem.W.mg_of X G a_law, F_law.binds (ps := ["script"]) fun _ _ _ _ _ _ us hl => match us, hl with | [_], _ => rfl⟩
  refine ⟨PySem.W.fnOf "law" "law" (defArgs s_law) (defBody s_law) (defScope s_law) .none kV_law dc_law pm_law an_law cd_law ct_law, fun s v => .of_eq rfl, fun base _ _ => ?_⟩
  have C__law_begin : Cl l.prog w K mg base 1 "_law_begin" (sp__law_begin K) := D__law_begin.cl (ok__law_begin D__law_begin T )
  have C__law_draw : Cl l.prog w K mg base 1 "_law_draw" (sp__law_draw K) := D__law_draw.cl (ok__law_draw D__law_draw T )
  have C__law_pick : Cl l.prog w K mg base 2 "_law_pick" (sp__law_pick K) := D__law_pick.cl (ok__law_pick D__law_pick T C__law_draw)
  have C__law_pool : Cl l.prog w K mg base 1 "_law_pool" (sp__law_pool K) := D__law_pool.cl (ok__law_pool D__law_pool T )
  have C__law_pop : Cl l.prog w K mg base 2 "_law_pop" (sp__law_pop K) := D__law_pop.cl (ok__law_pop D__law_pop T C__law_draw)
  have C__law_size : Cl l.prog w K mg base 3 "_law_size" (sp__law_size K) := D__law_size.cl (ok__law_size D__law_size T C__law_draw C__law_pick)
  have C__law_bodies : Cl l.prog w K mg base 4 "_law_bodies" (sp__law_bodies K) := D__law_bodies.cl (ok__law_bodies D__law_bodies T C__law_pool C__law_pop C__law_size)
  have C__law_anywhere : Cl l.prog w K mg base 3 "_law_anywhere" (sp__law_anywhere K) := D__law_anywhere.cl (ok__law_anywhere D__law_anywhere T C__law_draw C__law_pick)
  have C__law_hold : Cl l.prog w K mg base 1 "_law_hold" (sp__law_hold K) := D__law_hold.cl (ok__law_hold D__law_hold T )
  have C__law_spot : Cl l.prog w K mg base 2 "_law_spot" (sp__law_spot K) := D__law_spot.cl (ok__law_spot D__law_spot T C__law_draw)
  have C__law_state_of : Cl l.prog w K mg base 4 "_law_state_of" (sp__law_state_of K) := D__law_state_of.cl (ok__law_state_of D__law_state_of T C__law_draw C__law_pick C__law_anywhere C__law_hold C__law_spot)
  have C_is_on : Cl l.prog w K mg base 1 "is_on" (sp_is_on K) := D_is_on.cl (ok_is_on D_is_on T )
  have C_overlapping : Cl l.prog w K mg base 1 "overlapping" (sp_overlapping K) := D_overlapping.cl (ok_overlapping D_overlapping T )
  have C_touching_pairs : Cl l.prog w K mg base 2 "touching_pairs" (sp_touching_pairs K) := D_touching_pairs.cl (ok_touching_pairs D_touching_pairs T C_is_on C_overlapping)
  have C__law_common : Cl l.prog w K mg base 1 "_law_common" (sp__law_common K) := D__law_common.cl (ok__law_common D__law_common T )
  have C_touching : Cl l.prog w K mg base 2 "touching" (sp_touching K) := D_touching.cl (ok_touching D_touching T C_overlapping C_is_on)
  have C__law_is_int : Cl l.prog w K mg base 1 "_law_is_int" (sp__law_is_int K) := D__law_is_int.cl (ok__law_is_int D__law_is_int T )
  have C__law_is_ints : Cl l.prog w K mg base 2 "_law_is_ints" (sp__law_is_ints K) := D__law_is_ints.cl (ok__law_is_ints D__law_is_ints T C__law_is_int)
  have C__law_are_told : Cl l.prog w K mg base 3 "_law_are_told" (sp__law_are_told K) := D__law_are_told.cl (ok__law_are_told D__law_are_told T C_touching_pairs C__law_common C_touching C__law_is_ints)
  have C__law_other_state : Cl l.prog w K mg base 3 "_law_other_state" (sp__law_other_state K) := D__law_other_state.cl (ok__law_other_state D__law_other_state T C__law_draw C__law_pick C__law_hold)
  exact ok_law D_law T C__law_begin C__law_pick C__law_bodies C__law_state_of C__law_are_told C__law_other_state
theorem walk {l : PySem.W.OpenLaw} {q : Program} {loose : List Str} {XP : (Str → Option Value) → Heap → Prop} {YP : World → Heap → Prop} {d : DefRec} {K : Params → PySem.W.Frag} (hn : l.most = some 63) (hdf : d.params.defaults = [])
    (hY : ∀ (w : World) (h : Heap), YP w h → (K w.params).In h)
    (F : ∀ (w : World) (mg : Str → Option Value) (fa : Addr) (h : Heap), (K w.params).In h → h.Ns mainGlobals mg → mg d.name = some (.ref fa) →
      ∃ fd : FuncData, (∀ (s : Shared) (u : Value), BindsTo s fd ⟨[u], []⟩ [("script", u)]) ∧ ∀ base : Heap, (K w.params).In base → base.Ns mainGlobals mg → FnOk l.prog w (K w.params) mg base CX0 5 fa fd ["script"] (sp_law (K w.params))) :
    PySem.W.WalkO q loose XP YP l.row.toRowW d [] (fun f vs => PySem.call f vs) :=
  L2.walk_ofB (n := 63) (k := 5) (x := "script") (CX := fun _ => CX0) (sp := fun w => sp_law (K w.params)) hn (by decide) hdf ⟨rfl, by decide, by decide⟩ hY F (fun _ _ a ns hl hb _ hS => law_hands a ns hl hb hS) fun _ _ _ _ _ z => z
end Law
open PySem PySem.W PyProof.Rows in
set_option maxRecDepth 100000 in
set_option maxHeartbeats 0 in
theorem PySem.Challenge.cw_judgedplay_k21_touching_holds : PySem.Challenge.rw_judgedplay_k21_touching.Holds := by
  w_on; o_law; k_head; (case hw => w_witness2)
  k_fill
  refine Law.walk (l := PySem.Challenge.rw_judgedplay_k21_touching) rfl rfl (fun w h Y => PySem.W.kIn_of Y) ?F
  case F =>
    intro w mg fa h KX G hmg
    refine' Law.all_mk KX G hmg ?a__law_begin ?l__law_begin ?c__law_begin ?k__law_begin ?a__law_draw ?l__law_draw ?c__law_draw ?k__law_draw ?a__law_pick ?l__law_pick ?c__law_pick ?k__law_pick ?a__law_pool ?l__law_pool ?c__law_pool ?k__law_pool ?a__law_pop ?l__law_pop ?c__law_pop ?k__law_pop ?a__law_size ?l__law_size ?c__law_size ?k__law_size ?a__law_bodies ?l__law_bodies ?c__law_bodies ?k__law_bodies ?a__law_anywhere ?l__law_anywhere ?c__law_anywhere ?k__law_anywhere ?a__law_hold ?l__law_hold ?c__law_hold ?k__law_hold ?a__law_spot ?l__law_spot ?c__law_spot ?k__law_spot ?a__law_state_of ?l__law_state_of ?c__law_state_of ?k__law_state_of ?a_is_on ?l_is_on ?c_is_on ?k_is_on ?a_overlapping ?l_overlapping ?c_overlapping ?k_overlapping ?a_touching_pairs ?l_touching_pairs ?c_touching_pairs ?k_touching_pairs ?a__law_common ?l__law_common ?c__law_common ?k__law_common ?a_touching ?l_touching ?c_touching ?k_touching ?a__law_is_int ?l__law_is_int ?c__law_is_int ?k__law_is_int ?a__law_is_ints ?l__law_is_ints ?c__law_is_ints ?k__law_is_ints ?a__law_are_told ?l__law_are_told ?c__law_are_told ?k__law_are_told ?a__law_other_state ?l__law_other_state ?c__law_other_state ?k__law_other_state ?a_law ?l_law ?c_law ?k_law ?z_int ?z_len ?z_abs ?z_range ?z_tuple ?z_min ?z_max ?z_sorted ?z_isinstance ?z_bool ?z_all ?z_list ?n_PART ?r_PART
    (case a__law_begin => k_is)
    (case l__law_begin => k_is)
    (case c__law_begin => k_is)
    (case k__law_begin => k_is)
    (case a__law_draw => k_is)
    (case l__law_draw => k_is)
    (case c__law_draw => k_is)
    (case k__law_draw => k_is)
    (case a__law_pick => k_is)
    (case l__law_pick => k_is)
    (case c__law_pick => k_is)
    (case k__law_pick => k_is)
    (case a__law_pool => k_is)
    (case l__law_pool => k_is)
    (case c__law_pool => k_is)
    (case k__law_pool => k_is)
    (case a__law_pop => k_is)
    (case l__law_pop => k_is)
    (case c__law_pop => k_is)
    (case k__law_pop => k_is)
    (case a__law_size => k_is)
    (case l__law_size => k_is)
    (case c__law_size => k_is)
    (case k__law_size => k_is)
    (case a__law_bodies => k_is)
    (case l__law_bodies => k_is)
    (case c__law_bodies => k_is)
    (case k__law_bodies => k_is)
    (case a__law_anywhere => k_is)
    (case l__law_anywhere => k_is)
    (case c__law_anywhere => k_is)
    (case k__law_anywhere => k_is)
    (case a__law_hold => k_is)
    (case l__law_hold => k_is)
    (case c__law_hold => k_is)
    (case k__law_hold => k_is)
    (case a__law_spot => k_is)
    (case l__law_spot => k_is)
    (case c__law_spot => k_is)
    (case k__law_spot => k_is)
    (case a__law_state_of => k_is)
    (case l__law_state_of => k_is)
    (case c__law_state_of => k_is)
    (case k__law_state_of => k_is)
    (case a_is_on => k_is)
    (case l_is_on => k_is)
    (case c_is_on => k_is)
    (case k_is_on => k_is)
    (case a_overlapping => k_is)
    (case l_overlapping => k_is)
    (case c_overlapping => k_is)
    (case k_overlapping => k_is)
    (case a_touching_pairs => k_is)
    (case l_touching_pairs => k_is)
    (case c_touching_pairs => k_is)
    (case k_touching_pairs => k_is)
    (case a__law_common => k_is)
    (case l__law_common => k_is)
    (case c__law_common => k_is)
    (case k__law_common => k_is)
    (case a_touching => k_is)
    (case l_touching => k_is)
    (case c_touching => k_is)
    (case k_touching => k_is)
    (case a__law_is_int => k_is)
    (case l__law_is_int => k_is)
    (case c__law_is_int => k_is)
    (case k__law_is_int => k_is)
    (case a__law_is_ints => k_is)
    (case l__law_is_ints => k_is)
    (case c__law_is_ints => k_is)
    (case k__law_is_ints => k_is)
    (case a__law_are_told => k_is)
    (case l__law_are_told => k_is)
    (case c__law_are_told => k_is)
    (case k__law_are_told => k_is)
    (case a__law_other_state => k_is)
    (case l__law_other_state => k_is)
    (case c__law_other_state => k_is)
    (case k__law_other_state => k_is)
    (case a_law => k_is)
    (case l_law => k_is)
    (case c_law => k_is)
    (case k_law => k_is)
    (case z_int => k_is)
    (case z_len => k_is)
    (case z_abs => k_is)
    (case z_range => k_is)
    (case z_tuple => k_is)
    (case z_min => k_is)
    (case z_max => k_is)
    (case z_sorted => k_is)
    (case z_isinstance => k_is)
    (case z_bool => k_is)
    (case z_all => k_is)
    (case z_list => k_is)
    (case n_PART => k_is)
    (case r_PART => first | exact ⟨_, rfl⟩ | rfl)
#print axioms PySem.Challenge.cw_judgedplay_k21_touching_holds
