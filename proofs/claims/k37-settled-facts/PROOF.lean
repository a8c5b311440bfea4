import PyProof.Rows.All
import Wide.All
import OpenK.AllK
import Wide.FinOn
import HandS.ForMost
import HandS.Wide
import HandS.WideBits
import HandS.IsInst
import HandS.TupAny
import HandS.Deep
import HandS.EndBits
import HandS.More
import HandS.Walk
import HandS.SortRule
import PySem.Challenge.RW_judgedplay_k37_settled_facts
set_option Elab.async false
set_option linter.all false
set_option maxRecDepth 100000
set_option maxHeartbeats 4000000
/-! ### my own layer: introduction forms for the readings -/
namespace Jp
open PySem PySem.Spec PyProof.Rows L2
/-! rules by names -/
section
variable {X : Cx}
def rInt1 : List V → Hp → VK → Prop := fun xs H Q => (∃ i, xs = [.int i] ∧ Q (.int i) H) ∨ ∃ k, xs = [.bl k] ∧ Q (.int (if k then 1 else 0)) H
theorem c_int : CallR X (.type "int") rInt1 := call_int1
def rAbs : List V → Hp → VK → Prop := fun xs H Q => ∃ i, xs = [.int i] ∧ Q (.int (if i < 0 then -i else i)) H
theorem c_abs : CallR X (.builtin "abs") rAbs := call_abs
def rMax2 : List V → Hp → VK → Prop := fun xs H Q => ∃ i j, xs = [.int i, .int j] ∧ Q (.int (if j > i then j else i)) H
theorem c_max2 (hc : X.calm = true) : CallR X (.builtin "max") rMax2 := call_max2 hc
def rMin2 : List V → Hp → VK → Prop := fun xs H Q => ∃ i j, xs = [.int i, .int j] ∧ Q (.int (if j < i then j else i)) H
theorem c_min2 (hc : X.calm = true) : CallR X (.builtin "min") rMin2 := call_min2 hc
def qLen (K : PySem.W.Frag) : List V → Hp → VK → Prop := fun xs H Q => ∃ x n, xs = [x] ∧ LenV K x H n ∧ Q (.int (n : Nat)) H
theorem c_len : CallR X (.builtin "len") (qLen X.K) := call_len
def rLenD : List V → Hp → VK → Prop := fun xs H Q => ∃ a kvs, xs = [V.ref a] ∧ H a = some (.dK kvs) ∧ Q (.int kvs.length) H
theorem c_lenD : CallR X (.builtin "len") rLenD := call_lenD
def rTupOf (K : PySem.W.Frag) : List V → Hp → VK → Prop := fun xs H Q => ∃ p ys, xs = [.ref p] ∧ ((SqL K H p ys ∧ ∀ l, H l = none → Q (.ref l) (upd H l (.tup ys))) ∨ (SqT K H p ys ∧ Q (.ref p) H))
theorem c_tup : CallR X (.type "tuple") (rTupOf X.K) := call_tuple_of
def rLstOf (K : PySem.W.Frag) : List V → Hp → VK → Prop := fun xs H Q => ∃ p ys, xs = [.ref p] ∧ (SqL K H p ys ∨ SqT K H p ys) ∧ ∀ l, H l = none → Q (.ref l) (upd H l (.lst ys))
theorem c_lst : CallR X (.type "list") (rLstOf X.K) := call_list_of
def rBool1 : List V → Hp → VK → Prop := fun xs H Q => (∃ i, xs = [.int i] ∧ Q (.bl (i != 0)) H) ∨ ∃ k, xs = [.bl k] ∧ Q (.bl k) H
theorem c_bool1 : CallR X (.type "bool") rBool1 := call_bool1
def rIsNon : R2 := fun x y H Q => y = .non ∧ Q (.bl (decide (x = .non))) H
theorem o_isN : OpR X (compareOp .Is) rIsNon := op_isN
def rNotNon : R2 := fun x y H Q => y = .non ∧ Q (.bl (!decide (x = .non))) H
theorem o_notN : OpR X (compareOp .IsNot) rNotNon := op_notN
def rAddStr : R2 := fun x y H Q => ∃ i j, x = .str i ∧ y = .str j ∧ i.length + j.length ≤ sizeLine ∧ Q (.str (i ++ j)) H
theorem o_addS : OpR X (binaryOp .Add) rAddStr := op_add_str
theorem o_iaddS : OpR X (inplaceOp .Add) rAddStr := iop_add_str
end
section
variable {K : PySem.W.Frag} {σ : L2.St} {H : Hp} {Q : VK}
theorem i_isN {x : V} (q : Q (.bl (decide (x = .non))) H) : rIsNon x .non H Q := ⟨rfl, q⟩
theorem i_notN {x : V} (q : Q (.bl (!decide (x = .non))) H) : rNotNon x .non H Q := ⟨rfl, q⟩
theorem i_int {i : Int} (q : Q (.int i) H) : rInt1 [.int i] H Q := .inl ⟨i, rfl, q⟩
theorem i_intB {k : Bool} (q : Q (.int (if k then 1 else 0)) H) : rInt1 [.bl k] H Q := .inr ⟨k, rfl, q⟩
theorem i_abs {i : Int} (q : Q (.int (if i < 0 then -i else i)) H) : rAbs [.int i] H Q := ⟨i, rfl, q⟩
theorem i_max2 {i j : Int} (q : Q (.int (if j > i then j else i)) H) : rMax2 [.int i, .int j] H Q := ⟨i, j, rfl, q⟩
theorem i_min2 {i j : Int} (q : Q (.int (if j < i then j else i)) H) : rMin2 [.int i, .int j] H Q := ⟨i, j, rfl, q⟩
theorem i_lenL {p : Addr} {xs : List V} (h : SqL K H p xs) (q : Q (.int xs.length) H) : qLen K [.ref p] H Q := ⟨.ref p, xs.length, rfl, .inl ⟨xs, h, rfl⟩, q⟩
theorem i_lenT {p : Addr} {xs : List V} (h : SqT K H p xs) (q : Q (.int xs.length) H) : qLen K [.ref p] H Q := ⟨.ref p, xs.length, rfl, .inr ⟨xs, h, rfl⟩, q⟩
theorem i_lenS {x : Str} (h : x.length ≤ sizeLine) (q : Q (.int x.length) H) : qLen K [.str x] H Q := ⟨.str x, x.length, rfl, ⟨h, rfl⟩, q⟩
theorem i_lenD {p : Addr} {kvs : List (L2.Key × V)} (h : H p = some (.dK kvs)) (q : Q (.int kvs.length) H) : rLenD [.ref p] H Q := ⟨p, kvs, rfl, h, q⟩
theorem i_tupL {p : Addr} {ys : List V} (h : SqL K H p ys) (q : ∀ l, H l = none → Q (.ref l) (upd H l (.tup ys))) : rTupOf K [.ref p] H Q := ⟨p, ys, rfl, .inl ⟨h, q⟩⟩
theorem i_tupT {p : Addr} {ys : List V} (h : SqT K H p ys) (q : Q (.ref p) H) : rTupOf K [.ref p] H Q := ⟨p, ys, rfl, .inr ⟨h, q⟩⟩
theorem i_lstL {p : Addr} {ys : List V} (h : SqL K H p ys) (q : ∀ l, H l = none → Q (.ref l) (upd H l (.lst ys))) : rLstOf K [.ref p] H Q := ⟨p, ys, rfl, .inl h, q⟩
theorem i_lstT {p : Addr} {ys : List V} (h : SqT K H p ys) (q : ∀ l, H l = none → Q (.ref l) (upd H l (.lst ys))) : rLstOf K [.ref p] H Q := ⟨p, ys, rfl, .inr h, q⟩
theorem i_catA {p b : Addr} {xs ys : List V} (h1 : SqT K H p xs) (h2 : SqT K H b ys) (hl : xs.length + ys.length ≤ sizeLine) (q : ∀ (r : Addr) (H' : Hp), (∀ b o, H b = some o → H' b = some o) → SqT K H' r (xs ++ ys) → Q (.ref r) H') : rCatA K (.ref p) (.ref b) H Q := by
  refine ⟨p, b, xs, ys, rfl, rfl, h1, h2, hl, fun e => ?_, fun _ e => ?_, fun _ _ r hr => ?_⟩
  · subst e; exact q b H (fun _ _ h => h) h2
  · subst e; exact q p H (fun _ _ h => h) (by rw [List.append_nil]; exact h1)
  · exact q r _ (fun b o e => by rw [upd_ne (ne_of_none e hr)]; exact e) (.inl (.inl upd_same))
theorem i_catI {p b : Addr} {ns ms : List Int} (h1 : SqT K H p (ns.map V.int)) (h2 : SqT K H b (ms.map V.int)) (hl : ns.length + ms.length ≤ 10000) (q : ∀ (r : Addr) (H' : Hp), (∀ b o, H b = some o → H' b = some o) → SqT K H' r ((ns ++ ms).map V.int) → Q (.ref r) H') : rCatA K (.ref p) (.ref b) H Q :=
  i_catA h1 h2 (by rw [List.length_map, List.length_map]; exact Nat.le_trans hl (by decide)) fun r H' s t => q r H' s (by rw [List.map_append]; exact t)
/-- ns[lo:hi] -/
def cutI (ns : List Int) (lo hi : Option Int) : List Int := (ns.drop (HT.sIx ns.length 0 lo)).take (HT.sIx ns.length ns.length hi - HT.sIx ns.length 0 lo)
theorem cutI_len (ns : List Int) (lo hi : Option Int) : (cutI ns lo hi).length ≤ ns.length := by
  unfold cutI
  rw [List.length_take, List.length_drop]
  omega
theorem i_slI {p : Addr} {ns : List Int} {lo hi : Option Int} (h : SqT K H p (ns.map V.int)) (hw : ¬ (HT.sIx ns.length 0 lo = 0 ∧ HT.sIx ns.length ns.length hi = ns.length))
    (q : ∀ (r : Addr) (H' : Hp), (∀ b o, H b = some o → H' b = some o) → SqT K H' r ((cutI ns lo hi).map V.int) → Q (.ref r) H') : rSlT K (.ref p) lo hi H Q := by
  refine ⟨p, _, rfl, h, by rw [List.length_map]; exact hw, fun r hr => q r _ (fun b o e => by rw [upd_ne (ne_of_none e hr)]; exact e) (.inl (.inl ?_))⟩
  rw [upd_same]
  unfold cutV cutI
  rw [List.length_map, List.map_take, List.map_drop]
theorem i_sl {r : V → Option Int → Option Int → Hp → VK → Prop} {te : TE} {tl th : TO} (h : te σ H fun x H1 => tl σ H1 fun l H2 => th σ H2 fun u H3 => r x l u H3 Q) : tSl r te tl th σ H Q := h
theorem i_noPart {Q : Option Int → Hp → Prop} (q : Q none H) : tNoPart σ H Q := q
theorem i_part {t : TE} {Q : Option Int → Hp → Prop} (h : t σ H fun x H1 => ∃ i, x = .int i ∧ Q (some i) H1) : tPart t σ H Q := h
theorem i_cat {p b : Addr} {xs zs : List V} (h1 : H p = some (.lst xs)) (h2 : H b = some (.lst zs)) (hl : xs.length + zs.length ≤ sizeLine) (q : ∀ r, H r = none → Q (.ref r) (upd H r (.lst (xs ++ zs)))) : rCat (.ref p) (.ref b) H Q := ⟨p, b, xs, zs, rfl, rfl, h1, h2, hl, q⟩
theorem i_cat' {p b : Addr} {xs zs : List V} (e1 : H p = some (.lst xs)) (e2 : H b = some (.lst zs)) (hl : xs.length + zs.length ≤ 10000) (q : ∀ r H', (∀ b o, H b = some o → H' b = some o) → H r = none → H' r = some (.lst (xs ++ zs)) → Q (.ref r) H') : rCat (.ref p) (.ref b) H Q :=
  i_cat e1 e2 (by rw [sizeLine_eq]; omega) fun r hr => q r _ (fun b o e => by rw [upd_ne (ne_of_none e hr)]; exact e) hr upd_same
theorem i_slL {p : Addr} {xs : List V} {lo hi : Option Int} (h : SqL K H p xs) (q : ∀ r H', (∀ b o, H b = some o → H' b = some o) → H r = none → H' r = some (.lst (cutV xs lo hi)) → Q (.ref r) H') : rSlL K (.ref p) lo hi H Q :=
  ⟨p, xs, rfl, h, fun r hr => q r _ (fun b o e => by rw [upd_ne (ne_of_none e hr)]; exact e) hr upd_same⟩
theorem i_chain {r r' : R2} {ta tb tc : TE} (h : ta σ H fun x H1 => tb σ H1 fun y H2 => r x y H2 fun z H3 => ∃ k, z = .bl k ∧ (if k = true then tc σ H3 fun w' H4 => r' y w' H4 Q else Q (.bl false) H3)) : tChain r r' ta tb tc σ H Q := h
theorem i_popAt {p : Addr} {xs : List V} {i : Int} {y : V} (h : H p = some (.lst xs)) (h0 : 0 ≤ i) (h1 : i < xs.length) (h2 : xs.length ≤ 1000000) (e : xs[i.toNat]? = some y) (q : Q y (upd H p (.lst (xs.eraseIdx i.toNat)))) : rPopAt (.ref p) [.int i] H Q :=
  ⟨p, xs, i, i.toNat, y, rfl, rfl, h, by omega, by omega, seqIndex_of h0 h1, e, q⟩
theorem i_isI {i : Int} {Q : Int → Prop} (q : Q i) : ∃ i', V.int i = .int i' ∧ Q i' := ⟨i, rfl, q⟩
theorem i_bm {T : String} {r : V → List V → Hp → VK → Prop} {to : TE} {t : TA} (h : to σ H fun x H1 => tyV K T x H1 ∧ t σ H1 fun xs H2 => r x xs H2 Q) : tBM K T r to t σ H Q := h
theorem i_bm0 {T : String} {r : V → List V → Hp → VK → Prop} {to : TE} (h : to σ H fun x H1 => tyV K T x H1 ∧ r x [] H1 Q) : tBM0 K T r to σ H Q := h
theorem i_tyL {p : Addr} {xs : List V} {R : Prop} (s : SqL K H p xs) (q : R) : tyV K "list" (.ref p) H ∧ R := ⟨.inl ⟨rfl, xs, s⟩, q⟩
theorem i_app {p : Addr} {xs : List V} {y : V} (h : H p = some (.lst xs)) (hl : xs.length < sizeLine) (q : Q .non (upd H p (.lst (xs ++ [y])))) : rAppend (.ref p) [y] H Q := ⟨p, xs, y, rfl, rfl, h, hl, q⟩
theorem i_addS {x y : Str} (h : x.length + y.length ≤ sizeLine) (q : Q (.str (x ++ y)) H) : rAddStr (.str x) (.str y) H Q := ⟨x, y, rfl, rfl, h, q⟩
theorem i_isi {x : V} {n : String} {t : Value} {b : Bool} (ty : TyX K H x t) (e : PySem.W.kitOne K t (.type n) = some b) (q : Q (.bl b) H) : rIsi K [x, .ty n] H Q := ⟨x, .ty n, t, .type n, b, rfl, .ty n, ty, e, q⟩
theorem i_var {i : Nat} {v : V} (h : σ[i]? = some (some v)) (q : Q v H) : tVar i σ H Q := ⟨v, h, q⟩
theorem i_c {v : V} (q : Q v H) : tC v σ H Q := q
theorem i_op {r : R2} {ta tb : TE} (h : ta σ H fun x H1 => tb σ H1 fun y H2 => r x y H2 Q) : tOp r ta tb σ H Q := h
theorem i_un {r : V → Hp → VK → Prop} {ta : TE} (h : ta σ H fun x H1 => r x H1 Q) : tUn r ta σ H Q := h
theorem i_rI0 {g : Int → Int → V} {i j : Int} (q : Q (g i j) H) : rI0 g (.int i) (.int j) H Q := ⟨i, j, rfl, rfl, q⟩
theorem i_rI {C : Int → Int → Prop} {g : Int → Int → V} {i j : Int} (c : C i j) (q : Q (g i j) H) : rI C g (.int i) (.int j) H Q := ⟨i, j, rfl, rfl, c, q⟩
theorem i_rU {g : Int → V} {i : Int} (q : Q (g i) H) : rU g (.int i) H Q := ⟨i, rfl, q⟩
theorem i_eqI {i j : Int} (q : Q (.bl (decide (i = j))) H) : rEq (.int i) (.int j) H Q := ⟨rfl, by
  have e : decide (V.int i = V.int j) = decide (i = j) := by simp
  rw [e]; exact q⟩
theorem i_neI {i j : Int} (q : Q (.bl (!decide (i = j))) H) : rNe (.int i) (.int j) H Q := ⟨rfl, by
  have e : decide (V.int i = V.int j) = decide (i = j) := by simp
  rw [e]; exact q⟩
theorem i_eqB {i j : Bool} (q : Q (.bl (decide (i = j))) H) : rEq (.bl i) (.bl j) H Q := ⟨rfl, by
  have e : decide (V.bl i = V.bl j) = decide (i = j) := by simp
  rw [e]; exact q⟩
theorem i_neB {i j : Bool} (q : Q (.bl (!decide (i = j))) H) : rNe (.bl i) (.bl j) H Q := ⟨rfl, by
  have e : decide (V.bl i = V.bl j) = decide (i = j) := by simp
  rw [e]; exact q⟩
theorem i_eqS {i j : Str} (q : Q (.bl (decide (i = j))) H) : rEq (.str i) (.str j) H Q := ⟨rfl, by
  have e : decide (V.str i = V.str j) = decide (i = j) := by simp
  rw [e]; exact q⟩
theorem i_neS {i j : Str} (q : Q (.bl (!decide (i = j))) H) : rNe (.str i) (.str j) H Q := ⟨rfl, by
  have e : decide (V.str i = V.str j) = decide (i = j) := by simp
  rw [e]; exact q⟩
/-! index -/
theorem i_ixL {p : Addr} {xs : List V} {i : Int} {v : V} (h : SqL K H p xs) (e : atI xs i = some v) (q : Q v H) : rIxL K (.ref p) (.int i) H Q := ⟨p, xs, i, v, rfl, rfl, h, e, q⟩
theorem i_ixT {p : Addr} {xs : List V} {i : Int} {v : V} (h : SqT K H p xs) (e : atI xs i = some v) (q : Q v H) : rIxT K (.ref p) (.int i) H Q := ⟨p, xs, i, v, rfl, rfl, h, e, q⟩
theorem i_ix1 {x y : V} (h : rIxL K x y H Q) : rIx K x y H Q := .inl h
theorem i_ix2 {x y : V} (h : rIxT K x y H Q) : rIx K x y H Q := .inr (.inl h)
/-! arguments, calls, displays -/
theorem i_nil {Q : List V → Hp → Prop} (q : Q [] H) : tNil σ H Q := q
theorem i_cons {ta : TE} {tr : TA} {Q : List V → Hp → Prop} (h : ta σ H fun x H1 => tr σ H1 fun xs H2 => Q (x :: xs) H2) : tCons ta tr σ H Q := h
theorem i_call {sp : Sp} {E : XK} {t : TA} (h : t σ H fun vs H1 => sp (vs ++ []) H1 Q E) : tCall sp [] E t σ H Q := h
theorem i_cb {r : List V → Hp → VK → Prop} {t : TA} (h : t σ H fun vs H1 => r vs H1 Q) : tCB r t σ H Q := h
theorem i_tup {t : TA} (h : t σ H fun xs H1 => xs.length ≤ sizeLine ∧ ∀ p, H1 p = none → Q (.ref p) (upd H1 p (.tup xs))) : tTup t σ H Q := h
theorem i_lst {t : TA} (h : t σ H fun xs H1 => xs.length ≤ sizeLine ∧ ∀ p, H1 p = none → Q (.ref p) (upd H1 p (.lst xs))) : tLst t σ H Q := h
theorem i_new {n : Nat} {R : Addr → Prop} (h : n ≤ sizeLine) (q : ∀ p, H p = none → R p) : n ≤ sizeLine ∧ ∀ p, H p = none → R p := ⟨h, q⟩
theorem i_if {c : TT} {ta tb : TE} (h : c σ H fun b H1 => if b = true then ta σ H1 Q else tb σ H1 Q) : tIf c ta tb σ H Q := h
theorem i_andV {ta tb : TE} (h : ta σ H fun x H1 => ∃ c, x = .bl c ∧ if c = true then tb σ H1 Q else Q (.bl false) H1) : tAndV ta tb σ H Q := h
theorem i_orV {ta tb : TE} (h : ta σ H fun x H1 => ∃ c, x = .bl c ∧ if c = true then Q (.bl true) H1 else tb σ H1 Q) : tOrV ta tb σ H Q := h
theorem i_notV {ta : TE} (h : ta σ H fun x H1 => ∃ c, x = .bl c ∧ Q (.bl (!c)) H1) : tNotV ta σ H Q := h
/-! tests -/
theorem i_test {t : TE} {Q : Bool → Hp → Prop} (h : t σ H fun x H1 => ∃ k, x = .bl k ∧ Q k H1) : tTest t σ H Q := h
theorem i_B {t : TE} {Q : Bool → Hp → Prop} (h : t σ H fun x H1 => ∃ k, x = .bl k ∧ Q k H1) : tB t σ H Q := h
theorem i_isb {k : Bool} {Q : Bool → Prop} (q : Q k) : ∃ k', V.bl k = .bl k' ∧ Q k' := ⟨k, rfl, q⟩
theorem i_and {t u : TT} {Q : Bool → Hp → Prop} (h : t σ H fun c H1 => if c = true then u σ H1 Q else Q false H1) : tAnd t u σ H Q := h
theorem i_or {t u : TT} {Q : Bool → Hp → Prop} (h : t σ H fun c H1 => if c = true then Q true H1 else u σ H1 Q) : tOr t u σ H Q := h
theorem i_not {t : TT} {Q : Bool → Hp → Prop} (h : t σ H fun c H1 => Q (!c) H1) : tNot t σ H Q := h
/-! statements -/
section
variable {nx : L2.St → Hp → Prop} {rt : VK} {bk ct : L2.St → Hp → Prop}
theorem i_seq {t u : TS} (h : t ⟨u ⟨nx, rt, bk, ct⟩, rt, bk, ct⟩ σ H) : tSeq t u ⟨nx, rt, bk, ct⟩ σ H := h
theorem i_next (h : nx σ H) : tNext ⟨nx, rt, bk, ct⟩ σ H := h
theorem i_asg {te : TE} {g : TG} (h : te σ H fun x H1 => g x σ H1 nx) : tAsg te g ⟨nx, rt, bk, ct⟩ σ H := h
theorem i_drop {te : TE} (h : te σ H fun _ H1 => nx σ H1) : tDrop te ⟨nx, rt, bk, ct⟩ σ H := h
theorem i_ret {te : TE} (h : te σ H rt) : tRet te ⟨nx, rt, bk, ct⟩ σ H := h
theorem i_retN (h : rt .non H) : tRetN ⟨nx, rt, bk, ct⟩ σ H := h
theorem i_ifS {c : TT} {t u : TS} (h : c σ H fun b H1 => if b = true then t ⟨nx, rt, bk, ct⟩ σ H1 else u ⟨nx, rt, bk, ct⟩ σ H1) : tIfS c t u ⟨nx, rt, bk, ct⟩ σ H := h
theorem i_ifC {c : TT} {t u : TS} (J : L2.St → Hp → Prop) (h1 : ∀ σ' H', J σ' H' → nx σ' H') (h2 : ∀ N : L2.St → Hp → Prop, (∀ σ' H', J σ' H' → N σ' H') → tIfS c t u ⟨N, rt, bk, ct⟩ σ H) : tIfS c t u ⟨nx, rt, bk, ct⟩ σ H := h2 _ h1
theorem i_break (h : bk σ H) : tBreak ⟨nx, rt, bk, ct⟩ σ H := h
theorem i_cont (h : ct σ H) : tCont ⟨nx, rt, bk, ct⟩ σ H := h
theorem i_augE {i : Nat} {te : TE} {ti : TIp} {x : V} (e : σ[i]? = some (some x)) (h : te σ H fun y H1 => ti x y H1 fun z H2 => gName i z σ H2 nx) : tAug i te ti ⟨nx, rt, bk, ct⟩ σ H := ⟨x, e, h⟩
theorem i_augS {to ti te : TE} {tget : V → V → Hp → VK → Prop} {tip : TIp} {tset : TSet} (h : to σ H fun o H1 => ti σ H1 fun i H2 => tget o i H2 fun x H3 => te σ H3 fun y H4 => tip x y H4 fun z H5 => tset o i z H5 fun H6 => nx σ H6) : tAugS to ti te tget tip tset ⟨nx, rt, bk, ct⟩ σ H := h
theorem i_ipI {f : Int → Int → Int} {i j : Int} (q : Q (.int (f i j)) H) : ipI f (.int i) (.int j) H Q := ⟨i, j, rfl, rfl, q⟩
theorem i_for {wi : TI} {g : TG} {tb : TS} (h : wi σ H fun J H1 => ∃ W : Nat → Nat → L2.St → Hp → Prop, (∃ m, W 0 m σ H1) ∧ ∀ i m σ H, W i m σ H →
  (J.stop i H ∧ nx σ H) ∨ (J.go i H ∧ ∃ N : L2.St → Hp → Prop, (∀ σ' H', N σ' H' → ∃ m', m' < m ∧ W (i + 1) m' σ' H') ∧ ∀ x H', J.yld i H x H' → g x σ H' fun σ2 H2 => tb ⟨N, rt, nx, N⟩ σ2 H2)) : tFor wi g tb ⟨nx, rt, bk, ct⟩ σ H := h
theorem i_iList {tl : TE} {R : It → Hp → Prop} (h : tl σ H fun x H1 => ∃ a, x = .ref a ∧ (∃ xs, SqL K H1 a xs) ∧ R (Itl K a) H1) : iList K tl σ H R := h
theorem i_iTup {tl : TE} {R : It → Hp → Prop} (h : tl σ H fun x H1 => ∃ a, x = .ref a ∧ (∃ xs, SqT K H1 a xs) ∧ R (Itt K a) H1) : iTup K tl σ H R := h
theorem i_isL {a : Addr} {xs : List V} {R : Addr → Prop} (s : SqL K H a xs) (h : R a) : ∃ a', V.ref a = .ref a' ∧ (∃ xs, SqL K H a' xs) ∧ R a' := ⟨a, rfl, ⟨xs, s⟩, h⟩
theorem i_isT {a : Addr} {xs : List V} {R : Addr → Prop} (s : SqT K H a xs) (h : R a) : ∃ a', V.ref a = .ref a' ∧ (∃ xs, SqT K H a' xs) ∧ R a' := ⟨a, rfl, ⟨xs, s⟩, h⟩
theorem i_rng1 {ta : TA} {R : It → Hp → Prop} (h : ta σ H fun vs H1 => ∃ j : Int, vs = [.int j] ∧ -(2 ^ 62) ≤ j ∧ j < 2 ^ 62 ∧ R (Itr 0 j.toNat) H1) : iRng1 ta σ H R := h
theorem i_rng2 {ta : TA} {R : It → Hp → Prop} (h : ta σ H fun vs H1 => ∃ i j : Int, vs = [.int i, .int j] ∧ (-(2 ^ 62) ≤ i ∧ i < 2 ^ 62 ∧ -(2 ^ 62) ≤ j ∧ j < 2 ^ 62) ∧ R (Itr i (j - i).toNat) H1) : iRng2 ta σ H R := h
theorem i_isR1 {j : Int} {R : Int → Prop} (h1 : -(2 ^ 62) ≤ j) (h2 : j < 2 ^ 62) (h : R j) : ∃ j' : Int, [V.int j] = [.int j'] ∧ -(2 ^ 62) ≤ j' ∧ j' < 2 ^ 62 ∧ R j' := ⟨j, rfl, h1, h2, h⟩
theorem i_isR2 {i j : Int} {R : Int → Int → Prop} (h1 : -(2 ^ 62) ≤ i) (h2 : i < 2 ^ 62) (h3 : -(2 ^ 62) ≤ j) (h4 : j < 2 ^ 62) (h : R i j) : ∃ i' j' : Int, [V.int i, V.int j] = [.int i', .int j'] ∧ (-(2 ^ 62) ≤ i' ∧ i' < 2 ^ 62 ∧ -(2 ^ 62) ≤ j' ∧ j' < 2 ^ 62) ∧ R i' j' := ⟨i, j, rfl, ⟨h1, h2, h3, h4⟩, h⟩
end
/-! comprehensions -/
theorem i_lc {wi : TI} {g : TG} {tt : TT} {te : TE} {ws : List Nat} {σ' : L2.St} (e : wipe σ ws = σ') (h : wi σ H fun J H1 => ∀ D, H1 D = none → ∃ W : Nat → Nat → Hp → Prop, (∃ m, W 0 m (upd H1 D (.lst []))) ∧ ∀ i m H, W i m H →
  (J.stop i H ∧ Q (.ref D) H) ∨ (J.go i H ∧ ∃ Nx : Hp → Prop, (∀ H', Nx H' → ∃ m', m' < m ∧ W (i + 1) m' H') ∧ ∀ x H', J.yld i H x H' → g x σ' H' fun σ2 H2 => wipe σ2 ws = σ' ∧ tt σ2 H2 fun b H3 =>
    if b = true then te σ2 H3 fun y H4 => ∃ acc, H4 D = some (.lst acc) ∧ acc.length < sizeLine ∧ Nx (upd H4 D (.lst (acc ++ [y]))) else Nx H3)) : tLc wi g tt te ws σ H Q := by subst e; exact h
/-! targets -/
theorem i_gNameE {i : Nat} {v : V} {σ' : L2.St} {Q : L2.St → Hp → Prop} (e : σ.set i (some v) = σ') (q : Q σ' H) : gName i v σ H Q := by subst e; exact q
theorem st_of {t : TS} {D : Ends} {σ σ' : L2.St} {H : Hp} (e : σ = σ') (h : t D σ' H) : t D σ H := by subst e; exact h
theorem i_gName {i : Nat} {v : V} {Q : L2.St → Hp → Prop} (q : Q (σ.set i (some v)) H) : gName i v σ H Q := q
theorem i_gSub {to ti : TE} {t : TSet} {v : V} {Q : L2.St → Hp → Prop} (h : to σ H fun o H1 => ti σ H1 fun i H2 => t o i v H2 fun H3 => Q σ H3) : gSub to ti t v σ H Q := h
theorem i_setL {p : Addr} {xs : List V} {k : Int} {j : Nat} {v : V} {Q : Hp → Prop} (h : H p = some (.lst xs)) (e : ixN xs.length k = some j) (q : Q (upd H p (.lst (xs.set j v)))) : rSetL (.ref p) (.int k) v H Q := ⟨p, xs, k, j, rfl, rfl, h, e, q⟩
theorem i_gTup {n : Nat} {t : TGs} {a : Addr} {xs : List V} {Q : L2.St → Hp → Prop} (h : SqT K H a xs) (e : xs.length = n) (q : t xs σ H Q) : gTup K n t (.ref a) σ H Q := ⟨a, xs, rfl, h, e, q⟩
theorem i_gNil {Q : L2.St → Hp → Prop} (q : Q σ H) : gNil [] σ H Q := ⟨rfl, q⟩
theorem i_gCons {t : TG} {u : TGs} {v : V} {r : List V} {Q : L2.St → Hp → Prop} (q : t v σ H fun σ' H' => u r σ' H' Q) : gCons t u (v :: r) σ H Q := ⟨v, r, rfl, q⟩
/-! builtins' calls -/
end
/-! ### heaps -/
/-- all but p is as it was -/
def Kp (p : Addr) (H H' : Hp) : Prop := ∀ b o, H b = some o → b ≠ p → H' b = some o
theorem Kp.refl {p : Addr} {H : Hp} : Kp p H H := fun _ _ e _ => e
theorem Kp.of {p : Addr} {H H' : Hp} (s : Same H H') : Kp p H H' := fun b o e _ => s b o e
theorem Kp.trans {p : Addr} {H H1 H2 : Hp} (a : Kp p H H1) (b : Kp p H1 H2) : Kp p H H2 := fun c o e n => b c o (a c o e n) n
theorem Kp.upd {p : Addr} {H : Hp} {o : HO} : Kp p H (upd H p o) := fun b u e n => by rw [upd_ne n]; exact e
theorem same_new {H : Hp} {p : Addr} {o : HO} (h : H p = none) : Same H (upd H p o) := fun b x e => by
  rw [upd_ne (ne_of_none e h)]
  exact e
theorem Same.tup {K : PySem.W.Frag} {H H' : Hp} {a : Addr} {xs : List V} (e : Same H H') (h : SqT K H a xs) : SqT K H' a xs := by
  rcases h with (h | ⟨o, h⟩) | h
  · exact .inl (.inl (e _ _ h))
  · exact .inl (.inr ⟨o, e _ _ h⟩)
  · exact .inr h
/-- all tuples are as they were -/
def Tps (H H' : Hp) : Prop := ∀ a, (∀ xs, H a = some (.tup xs) → H' a = some (.tup xs)) ∧ ∀ o xs, H a = some (.frz o (.tup xs)) → H' a = some (.frz o (.tup xs))
theorem Tps.sq {K : PySem.W.Frag} {H H' : Hp} {a : Addr} {xs : List V} (e : Tps H H') (h : SqT K H a xs) : SqT K H' a xs := by
  rcases h with (h | ⟨o, h⟩) | h
  · exact .inl (.inl ((e a).1 _ h))
  · exact .inl (.inr ⟨o, (e a).2 _ _ h⟩)
  · exact .inr h
theorem Tps.refl {H : Hp} : Tps H H := fun _ => ⟨fun _ h => h, fun _ _ h => h⟩
theorem Tps.trans {H H1 H2 : Hp} (a : Tps H H1) (b : Tps H1 H2) : Tps H H2 := fun c => ⟨fun xs h => (b c).1 xs ((a c).1 xs h), fun o xs h => (b c).2 o xs ((a c).2 o xs h)⟩
theorem Tps.of {H H' : Hp} (s : Same H H') : Tps H H' := fun a => ⟨fun xs h => s _ _ h, fun o xs h => s _ _ h⟩
theorem Kp.tps {p : Addr} {H H' : Hp} (k : Kp p H H') {xs : List V} (h : H p = some (.lst xs)) : Tps H H' := fun a => ⟨fun ys e => k _ _ e (ne_of e h (by intro z; cases z)), fun o ys e => k _ _ e (ne_of e h (by intro z; cases z))⟩
theorem Kp.seq {K : PySem.W.Frag} {p b : Addr} {H H' : Hp} {xs : List V} (k : Kp p H H') (h : SqL K H b xs) (n : b ≠ p) : SqL K H' b xs := by
  rcases h with (h | ⟨o, h⟩) | h
  · exact .inl (.inl (k _ _ h n))
  · exact .inl (.inr ⟨o, k _ _ h n⟩)
  · exact .inr h
/-! ### data -/
def Shp (n : Nat) (d : PyData) : Prop := d.canLay0 = true ∧ d.depth ≤ n
theorem Shp.shaped {n : Nat} {d : PyData} (h : Shp n d) (hn : n ≤ 64) : SeqAt.shaped d = true := by
  unfold SeqAt.shaped
  rw [h.1, decide_eq_true (Nat.le_trans h.2 hn)]
  rfl
theorem Shp.eqv {n : Nat} {d : PyData} (h : Shp n d) : PyData.eqv d d = true := SeqAt.eqv_refl d h.1
theorem Shp.int (i : Int) : Shp 0 (.int i) := ⟨by simp [PyData.canLay0], by simp [PyData.depth]⟩
theorem Shp.non : Shp 0 .none := ⟨by simp [PyData.canLay0], by simp [PyData.depth]⟩
theorem Shp.bool (b : Bool) : Shp 0 (.bool b) := ⟨by simp [PyData.canLay0], by simp [PyData.depth]⟩
theorem Shp.mono {n m : Nat} {d : PyData} (h : Shp n d) (hm : n ≤ m) : Shp m d := ⟨h.1, Nat.le_trans h.2 hm⟩
theorem shpAll {n : Nat} : ∀ {ds : List PyData}, (∀ d ∈ ds, Shp n d) → PyData.canLayAll0 ds = true ∧ PyData.depthAll ds ≤ n
  | [], _ => ⟨by simp [PyData.canLayAll0], by simp [PyData.depthAll]⟩
  | d :: ds, h => by
    have h1 := h d List.mem_cons_self
    have h2 := shpAll (ds := ds) fun x hx => h x (List.mem_cons_of_mem _ hx)
    refine ⟨by rw [PyData.canLayAll0, h1.1, h2.1]; rfl, ?_⟩
    rw [PyData.depthAll]
    exact Nat.max_le.mpr ⟨h1.2, h2.2⟩
theorem Shp.tup {n : Nat} {ds : List PyData} (h : ∀ d ∈ ds, Shp n d) : Shp (n + 1) (.tuple ds) := by
  have := shpAll h
  exact ⟨by rw [PyData.canLay0]; exact this.1, by rw [PyData.depth]; omega⟩
theorem Shp.lst {n : Nat} {ds : List PyData} (h : ∀ d ∈ ds, Shp n d) : Shp (n + 1) (.list ds) := by
  have := shpAll h
  exact ⟨by rw [PyData.canLay0]; exact this.1, by rw [PyData.depth]; omega⟩
theorem dpAll_of {K : PySem.W.Frag} {H : Hp} : ∀ {xs : List V} {ds : List PyData}, xs.length = ds.length → (∀ (i : Nat) x d, xs[i]? = some x → ds[i]? = some d → Dp K H x d) → DpAll K H xs ds
  | [], [], _, _ => .nil
  | x :: xs, d :: ds, hl, h => .cons (h 0 x d rfl rfl) (dpAll_of (by simpa using hl) fun i y e h1 h2 => h (i + 1) y e (by simpa using h1) (by simpa using h2))
theorem dp_ints {K : PySem.W.Frag} {H : Hp} {a : Addr} {ns : List Int} (h : SqT K H a (ns.map V.int)) : Dp K H (.ref a) (.tuple (ns.map PyData.int)) := by
  refine .tup h (dpAll_of (by simp) fun i x d h1 h2 => ?_)
  rw [List.getElem?_map] at h1 h2
  cases e : ns[i]? with
  | none => rw [e] at h1; cases h1
  | some z =>
    rw [e] at h1 h2
    cases h1
    cases h2
    exact .int z
/-! ### slices of tuples -/
section
variable {prog : Program} {w : World} {A : Around} {E : Value → Shared → Prop} {s : Shared}
theorem tup_whole {t sl : Addr} {items : Array Value} {vl vu : Value} {lo hi : Option Int} {Q : Value → Shared → Prop} (ht : IsTup s.heap t items) (hs : s.heap.IsSliceOf sl vl vu .none) (pl : IsPart vl lo) (pu : IsPart vu hi)
    (h0 : HT.sIx items.size 0 lo = 0) (h1 : HT.sIx items.size items.size hi = items.size) (h : Q (.ref t) s) : wpAny (model prog w) A (getItem (.ref t) (.ref sl)) Q E s := by
  have hTs : s.TypeIs (.ref sl) "slice" := by
    obtain ⟨os, hos, hcs, _⟩ := id hs
    exact ⟨os, hos, hcs⟩
  unfold getItem
  try with_reducible refine wpAny_holding ?_
  first | refine wpAny_bind (wpAny_pure ?_) | skip
  refine wpAny_bind (wpAny_sequenceKey ht.typeIs (by decide) (wpAny_bind (wpAny_callSpecial?_slot (name := Str.ofString "__getitem__") ht.typeIs PyProof.Rows.slot_tuple_getitem (wpAny_call_entry PyProof.Rows.slot_tuple_getitem ht.typeIs entry_tuple_getitem ?_ (args_tuple_getitem _ _)))))
  show wpAny _ _ (Builtin.Tuple.tupleItemsOf (.ref t) >>= _) _ _ s
  refine wpAny_bind (tupleItemsOf_ ht (wpAny_bind (wpAny_typeOf hTs ?_)))
  rw [if_pos (by decide)]
  refine wpAny_bind (HT.sliceApplied_gen hs pl pu ?_)
  show wpAny _ _ (if (((HT.sIx items.size 0 lo : Nat) : Int) == 0 && (1 : Int) == 1 && (HT.sIx items.size items.size hi - HT.sIx items.size 0 lo) == items.size) = true then _ else _) _ _ s
  rw [h0, h1, if_pos (by simp)]
  unfold Builtin.Tuple.tupleIsExact
  refine wpAny_bind (wpAny_bind (wpAny_typeOf ht.typeIs (wpAny_pure ?_)))
  rw [if_pos (by decide)]
  first
    | exact wpAny_bind (wpAny_rule (wpAny_pure ⟨_, rfl, wpAny_pure h⟩))
    | exact wpAny_bind (wpAny_rule (wpAny_bind (wpAny_pure (wpAny_pure ⟨_, rfl, wpAny_pure h⟩))))
end
section
variable {X : Cx}
/-- t[lo:hi], the whole of it too (that is t itself) -/
def rSlQ (K : PySem.W.Frag) : V → Option Int → Option Int → Hp → VK → Prop := fun x lo hi H Q => ∃ a xs, x = .ref a ∧ SqT K H a xs ∧
  (cutV xs lo hi = xs → Q (.ref a) H) ∧ ∀ p, H p = none → Q (.ref p) (upd H p (.tup (cutV xs lo hi)))
theorem sl_tupQ : SlR X (rSlQ X.K) := by
  intro pins s σ H x v vl vu lo hi sl Q I rx hs pl pu h
  obtain ⟨a, xs, e, hx, q0, q1⟩ := h
  by_cases hw : HT.sIx xs.length 0 lo = 0 ∧ HT.sIx xs.length xs.length hi = xs.length
  · subst e
    cases rx
    obtain ⟨its, r, ht, hz⟩ := I.tuple hx
    have hlen : its.toArray.size = xs.length := by rw [List.size_toArray]; exact r.length.symm
    refine ⟨"tuple", _, PyProof.Rows.slot_tuple_getitem.lookup, ht.typeIs, ?_⟩
    refine tup_whole ht hs pl pu (by rw [hlen]; exact hw.1) (by rw [hlen]; exact hw.2) ⟨.ref a, H, I, rfl, q0 ?_⟩
    unfold cutV
    rw [hw.1, hw.2]
    simp
  · exact sl_tup pins s σ H x v vl vu lo hi sl Q I rx hs pl pu ⟨a, xs, e, hx, hw, q1⟩
end
/-! ### loops -/
section
variable {K : PySem.W.Frag} {a : Addr} {xs : List V} {g : TG} {tb : TS} {σ : L2.St} {H : Hp} {nx : L2.St → Hp → Prop} {rt : VK}
theorem f_list (Pv : Nat → L2.St → Hp → Prop) (h0 : Pv 0 σ H) (hl : ∀ i σ H, i ≤ xs.length → Pv i σ H → SqL K H a xs)
    (hs : ∀ i x σ H, xs[i]? = some x → Pv i σ H → g x σ H fun σ2 H2 => tb ⟨Pv (i + 1), rt, nx, Pv (i + 1)⟩ σ2 H2) (hd : ∀ σ H, Pv xs.length σ H → nx σ H) :
    ∃ W : Nat → Nat → L2.St → Hp → Prop, (∃ m, W 0 m σ H) ∧ ∀ i m σ H, W i m σ H →
      ((Itl K a).stop i H ∧ nx σ H) ∨ ((Itl K a).go i H ∧ ∃ N : L2.St → Hp → Prop, (∀ σ' H', N σ' H' → ∃ m', m' < m ∧ W (i + 1) m' σ' H') ∧ ∀ x H', (Itl K a).yld i H x H' → g x σ H' fun σ2 H2 => tb ⟨N, rt, nx, N⟩ σ2 H2) :=
  for_list (D := ⟨nx, rt, fun _ _ => False, fun _ _ => False⟩) Pv h0 hl hs hd
theorem f_tup (Pv : Nat → L2.St → Hp → Prop) (h0 : Pv 0 σ H) (hl : ∀ i σ H, i ≤ xs.length → Pv i σ H → SqT K H a xs)
    (hs : ∀ i x σ H, xs[i]? = some x → Pv i σ H → g x σ H fun σ2 H2 => tb ⟨Pv (i + 1), rt, nx, Pv (i + 1)⟩ σ2 H2) (hd : ∀ σ H, Pv xs.length σ H → nx σ H) :
    ∃ W : Nat → Nat → L2.St → Hp → Prop, (∃ m, W 0 m σ H) ∧ ∀ i m σ H, W i m σ H →
      ((Itt K a).stop i H ∧ nx σ H) ∨ ((Itt K a).go i H ∧ ∃ N : L2.St → Hp → Prop, (∀ σ' H', N σ' H' → ∃ m', m' < m ∧ W (i + 1) m' σ' H') ∧ ∀ x H', (Itt K a).yld i H x H' → g x σ H' fun σ2 H2 => tb ⟨N, rt, nx, N⟩ σ2 H2) :=
  for_tup (D := ⟨nx, rt, fun _ _ => False, fun _ _ => False⟩) Pv h0 hl hs hd
theorem f_range {lo : Int} {n : Nat} (Pv : Nat → L2.St → Hp → Prop) (h0 : Pv 0 σ H)
    (hs : ∀ i σ H, i < n → Pv i σ H → g (.int (lo + i)) σ H fun σ2 H2 => tb ⟨Pv (i + 1), rt, nx, Pv (i + 1)⟩ σ2 H2) (hd : ∀ σ H, Pv n σ H → nx σ H) :
    ∃ W : Nat → Nat → L2.St → Hp → Prop, (∃ m, W 0 m σ H) ∧ ∀ i m σ H, W i m σ H →
      ((Itr lo n).stop i H ∧ nx σ H) ∨ ((Itr lo n).go i H ∧ ∃ N : L2.St → Hp → Prop, (∀ σ' H', N σ' H' → ∃ m', m' < m ∧ W (i + 1) m' σ' H') ∧ ∀ x H', (Itr lo n).yld i H x H' → g x σ H' fun σ2 H2 => tb ⟨N, rt, nx, N⟩ σ2 H2) :=
  for_range (D := ⟨nx, rt, fun _ _ => False, fun _ _ => False⟩) Pv h0 hs hd
theorem f_rangeC {lo c : Int} {n : Nat} (Pv : Nat → L2.St → Hp → Prop) (h0 : Pv 0 σ H)
    (hs : ∀ i σ H, i < n → Pv i σ H → g (.int (lo + (i : Nat) * c)) σ H fun σ2 H2 => tb ⟨Pv (i + 1), rt, nx, Pv (i + 1)⟩ σ2 H2) (hd : ∀ σ H, Pv n σ H → nx σ H) :
    ∃ W : Nat → Nat → L2.St → Hp → Prop, (∃ m, W 0 m σ H) ∧ ∀ i m σ H, W i m σ H →
      ((Itc lo c n).stop i H ∧ nx σ H) ∨ ((Itc lo c n).go i H ∧ ∃ N : L2.St → Hp → Prop, (∀ σ' H', N σ' H' → ∃ m', m' < m ∧ W (i + 1) m' σ' H') ∧ ∀ x H', (Itc lo c n).yld i H x H' → g x σ H' fun σ2 H2 => tb ⟨N, rt, nx, N⟩ σ2 H2) :=
  for_rangeC (D := ⟨nx, rt, fun _ _ => False, fun _ _ => False⟩) Pv h0 hs hd
theorem i_rng3 {ta : TA} {R : It → Hp → Prop} (h : ta σ H fun vs H1 => ∃ (i j c : Int) (n : Nat), vs = [.int i, .int j, .int c] ∧ RgC i j c n ∧ R (Itc i c n) H1) : iRng3 ta σ H R := h
variable {tt : TT} {te : TE} {ws : List Nat} {D : Addr} {Qd : Hp → Prop} {σ' : L2.St}
theorem l_list (Pv : Nat → Hp → Prop) (h0 : Pv 0 (upd H D (.lst []))) (hl : ∀ i H, i ≤ xs.length → Pv i H → SqL K H a xs)
    (hs : ∀ i x H, xs[i]? = some x → Pv i H → g x σ' H fun σ2 H2 => wipe σ2 ws = σ' ∧ tt σ2 H2 fun b H3 =>
      if b = true then te σ2 H3 fun y H4 => ∃ acc, H4 D = some (.lst acc) ∧ acc.length < sizeLine ∧ Pv (i + 1) (upd H4 D (.lst (acc ++ [y]))) else Pv (i + 1) H3) (hd : ∀ H, Pv xs.length H → Qd H) (e : wipe σ' ws = σ' := by rfl) :
    ∃ W : Nat → Nat → Hp → Prop, (∃ m, W 0 m (upd H D (.lst []))) ∧ ∀ i m H, W i m H →
      ((Itl K a).stop i H ∧ Qd H) ∨ ((Itl K a).go i H ∧ ∃ Nx : Hp → Prop, (∀ H', Nx H' → ∃ m', m' < m ∧ W (i + 1) m' H') ∧ ∀ x H', (Itl K a).yld i H x H' → g x σ' H' fun σ2 H2 => wipe σ2 ws = σ' ∧ tt σ2 H2 fun b H3 =>
        if b = true then te σ2 H3 fun y H4 => ∃ acc, H4 D = some (.lst acc) ∧ acc.length < sizeLine ∧ Nx (upd H4 D (.lst (acc ++ [y]))) else Nx H3) := by
  have h := lc_list (K := K) (a := a) (xs := xs) (g := g) (tt := tt) (te := te) (vs := ws) (σ := σ') (H1 := H) (D := D) (Qd := Qd) Pv h0 hl (by rw [e]; exact hs) hd
  rw [e] at h
  exact h
theorem l_tup (Pv : Nat → Hp → Prop) (h0 : Pv 0 (upd H D (.lst []))) (hl : ∀ i H, i ≤ xs.length → Pv i H → SqT K H a xs)
    (hs : ∀ i x H, xs[i]? = some x → Pv i H → g x σ' H fun σ2 H2 => wipe σ2 ws = σ' ∧ tt σ2 H2 fun b H3 =>
      if b = true then te σ2 H3 fun y H4 => ∃ acc, H4 D = some (.lst acc) ∧ acc.length < sizeLine ∧ Pv (i + 1) (upd H4 D (.lst (acc ++ [y]))) else Pv (i + 1) H3) (hd : ∀ H, Pv xs.length H → Qd H) (e : wipe σ' ws = σ' := by rfl) :
    ∃ W : Nat → Nat → Hp → Prop, (∃ m, W 0 m (upd H D (.lst []))) ∧ ∀ i m H, W i m H →
      ((Itt K a).stop i H ∧ Qd H) ∨ ((Itt K a).go i H ∧ ∃ Nx : Hp → Prop, (∀ H', Nx H' → ∃ m', m' < m ∧ W (i + 1) m' H') ∧ ∀ x H', (Itt K a).yld i H x H' → g x σ' H' fun σ2 H2 => wipe σ2 ws = σ' ∧ tt σ2 H2 fun b H3 =>
        if b = true then te σ2 H3 fun y H4 => ∃ acc, H4 D = some (.lst acc) ∧ acc.length < sizeLine ∧ Nx (upd H4 D (.lst (acc ++ [y]))) else Nx H3) := by
  have h := lc_tup (K := K) (a := a) (xs := xs) (g := g) (tt := tt) (te := te) (vs := ws) (σ := σ') (H1 := H) (D := D) (Qd := Qd) Pv h0 hl (by rw [e]; exact hs) hd
  rw [e] at h
  exact h
theorem l_range {lo : Int} {n : Nat} (Pv : Nat → Hp → Prop) (h0 : Pv 0 (upd H D (.lst [])))
    (hs : ∀ i H, i < n → Pv i H → g (.int (lo + i)) σ' H fun σ2 H2 => wipe σ2 ws = σ' ∧ tt σ2 H2 fun b H3 =>
      if b = true then te σ2 H3 fun y H4 => ∃ acc, H4 D = some (.lst acc) ∧ acc.length < sizeLine ∧ Pv (i + 1) (upd H4 D (.lst (acc ++ [y]))) else Pv (i + 1) H3) (hd : ∀ H, Pv n H → Qd H) (e : wipe σ' ws = σ' := by rfl) :
    ∃ W : Nat → Nat → Hp → Prop, (∃ m, W 0 m (upd H D (.lst []))) ∧ ∀ i m H, W i m H →
      ((Itr lo n).stop i H ∧ Qd H) ∨ ((Itr lo n).go i H ∧ ∃ Nx : Hp → Prop, (∀ H', Nx H' → ∃ m', m' < m ∧ W (i + 1) m' H') ∧ ∀ x H', (Itr lo n).yld i H x H' → g x σ' H' fun σ2 H2 => wipe σ2 ws = σ' ∧ tt σ2 H2 fun b H3 =>
        if b = true then te σ2 H3 fun y H4 => ∃ acc, H4 D = some (.lst acc) ∧ acc.length < sizeLine ∧ Nx (upd H4 D (.lst (acc ++ [y]))) else Nx H3) := by
  have h := lc_range (lo := lo) (n := n) (g := g) (tt := tt) (te := te) (vs := ws) (σ := σ') (H1 := H) (D := D) (Qd := Qd) Pv h0 (by rw [e]; exact hs) hd
  rw [e] at h
  exact h
/-! a comprehension whose elements lay nothing -/
theorem l_rangeP {lo : Int} {n : Nat} (f : Nat → V) (hD : H D = none) (hn : n ≤ 1000000)
    (hs : ∀ i H' (R : VK), i < n → Same H H' → R (f i) H' → g (.int (lo + i)) σ' H' fun σ2 H2 => wipe σ2 ws = σ' ∧ tt σ2 H2 fun b H3 => if b = true then te σ2 H3 R else False)
    (hd : ∀ H', Same H H' → H' D = some (.lst ((List.range n).map f)) → Qd H') (e : wipe σ' ws = σ' := by rfl)
    (htt : ∀ (σ2 : L2.St) (H2 : Hp) (A : Hp → Prop) (B : Hp → Prop), (tt σ2 H2 fun b H3 => if b = true then A H3 else False) → tt σ2 H2 fun b H3 => if b = true then A H3 else B H3 := by intro _ _ _ _ h; exact h) (hg : ∀ x (σ2 : L2.St) (H2 : Hp) (A B : L2.St → Hp → Prop), (∀ s h, A s h → B s h) → g x σ2 H2 A → g x σ2 H2 B := by intro _ _ _ _ _ h q; exact h _ _ q) :
    ∃ W : Nat → Nat → Hp → Prop, (∃ m, W 0 m (upd H D (.lst []))) ∧ ∀ i m H, W i m H →
      ((Itr lo n).stop i H ∧ Qd H) ∨ ((Itr lo n).go i H ∧ ∃ Nx : Hp → Prop, (∀ H', Nx H' → ∃ m', m' < m ∧ W (i + 1) m' H') ∧ ∀ x H', (Itr lo n).yld i H x H' → g x σ' H' fun σ2 H2 => wipe σ2 ws = σ' ∧ tt σ2 H2 fun b H3 =>
        if b = true then te σ2 H3 fun y H4 => ∃ acc, H4 D = some (.lst acc) ∧ acc.length < sizeLine ∧ Nx (upd H4 D (.lst (acc ++ [y]))) else Nx H3) := by
  refine l_range (fun i H' => Same H H' ∧ H' D = some (.lst ((List.range i).map f))) ⟨same_new hD, upd_same⟩ (fun i H' hi h => ?_) (fun H' h => hd H' h.1 h.2) e
  obtain ⟨s, hD'⟩ := h
  refine hg _ _ _ _ _ (fun σ2 H2 q => ⟨q.1, htt _ _ _ _ q.2⟩) (hs i H' _ hi s ⟨_, hD', ?_, fun b o hb => ?_, ?_⟩)
  · rw [List.length_map, List.length_range, sizeLine_eq]; omega
  · rw [upd_ne (ne_of_none hb hD)]; exact s _ _ hb
  · rw [upd_same, List.range_succ, List.map_append] <;> rfl
theorem l_listP (f : Nat → V) (hD : H D = none) (hn : xs.length ≤ 1000000) (hx : SqL K H a xs)
    (hs : ∀ i x H' (R : VK), xs[i]? = some x → Same H H' → R (f i) H' → g x σ' H' fun σ2 H2 => wipe σ2 ws = σ' ∧ tt σ2 H2 fun b H3 => if b = true then te σ2 H3 R else False)
    (hd : ∀ H', Same H H' → H' D = some (.lst ((List.range xs.length).map f)) → Qd H') (e : wipe σ' ws = σ' := by rfl)
    (htt : ∀ (σ2 : L2.St) (H2 : Hp) (A : Hp → Prop) (B : Hp → Prop), (tt σ2 H2 fun b H3 => if b = true then A H3 else False) → tt σ2 H2 fun b H3 => if b = true then A H3 else B H3 := by intro _ _ _ _ h; exact h) (hg : ∀ x (σ2 : L2.St) (H2 : Hp) (A B : L2.St → Hp → Prop), (∀ s h, A s h → B s h) → g x σ2 H2 A → g x σ2 H2 B := by intro _ _ _ _ _ h q; exact h _ _ q) :
    ∃ W : Nat → Nat → Hp → Prop, (∃ m, W 0 m (upd H D (.lst []))) ∧ ∀ i m H, W i m H →
      ((Itl K a).stop i H ∧ Qd H) ∨ ((Itl K a).go i H ∧ ∃ Nx : Hp → Prop, (∀ H', Nx H' → ∃ m', m' < m ∧ W (i + 1) m' H') ∧ ∀ x H', (Itl K a).yld i H x H' → g x σ' H' fun σ2 H2 => wipe σ2 ws = σ' ∧ tt σ2 H2 fun b H3 =>
        if b = true then te σ2 H3 fun y H4 => ∃ acc, H4 D = some (.lst acc) ∧ acc.length < sizeLine ∧ Nx (upd H4 D (.lst (acc ++ [y]))) else Nx H3) := by
  refine l_list (xs := xs) (fun i H' => Same H H' ∧ H' D = some (.lst ((List.range i).map f))) ⟨same_new hD, upd_same⟩ (fun i H' _ h => Same.seq h.1 hx) (fun i x H' hi h => ?_) (fun H' h => hd H' h.1 h.2) e
  obtain ⟨s, hD'⟩ := h
  have hlt := (List.getElem?_eq_some_iff.mp hi).1
  refine hg _ _ _ _ _ (fun σ2 H2 q => ⟨q.1, htt _ _ _ _ q.2⟩) (hs i x H' _ hi s ⟨_, hD', ?_, fun b o hb => ?_, ?_⟩)
  · rw [List.length_map, List.length_range, sizeLine_eq]; omega
  · rw [upd_ne (ne_of_none hb hD)]; exact s _ _ hb
  · rw [upd_same, List.range_succ, List.map_append] <;> rfl
theorem l_tupP (f : Nat → V) (hD : H D = none) (hn : xs.length ≤ 1000000) (hx : SqT K H a xs)
    (hs : ∀ i x H' (R : VK), xs[i]? = some x → Same H H' → R (f i) H' → g x σ' H' fun σ2 H2 => wipe σ2 ws = σ' ∧ tt σ2 H2 fun b H3 => if b = true then te σ2 H3 R else False)
    (hd : ∀ H', Same H H' → H' D = some (.lst ((List.range xs.length).map f)) → Qd H') (e : wipe σ' ws = σ' := by rfl)
    (htt : ∀ (σ2 : L2.St) (H2 : Hp) (A : Hp → Prop) (B : Hp → Prop), (tt σ2 H2 fun b H3 => if b = true then A H3 else False) → tt σ2 H2 fun b H3 => if b = true then A H3 else B H3 := by intro _ _ _ _ h; exact h) (hg : ∀ x (σ2 : L2.St) (H2 : Hp) (A B : L2.St → Hp → Prop), (∀ s h, A s h → B s h) → g x σ2 H2 A → g x σ2 H2 B := by intro _ _ _ _ _ h q; exact h _ _ q) :
    ∃ W : Nat → Nat → Hp → Prop, (∃ m, W 0 m (upd H D (.lst []))) ∧ ∀ i m H, W i m H →
      ((Itt K a).stop i H ∧ Qd H) ∨ ((Itt K a).go i H ∧ ∃ Nx : Hp → Prop, (∀ H', Nx H' → ∃ m', m' < m ∧ W (i + 1) m' H') ∧ ∀ x H', (Itt K a).yld i H x H' → g x σ' H' fun σ2 H2 => wipe σ2 ws = σ' ∧ tt σ2 H2 fun b H3 =>
        if b = true then te σ2 H3 fun y H4 => ∃ acc, H4 D = some (.lst acc) ∧ acc.length < sizeLine ∧ Nx (upd H4 D (.lst (acc ++ [y]))) else Nx H3) := by
  refine l_tup (xs := xs) (fun i H' => Same H H' ∧ H' D = some (.lst ((List.range i).map f))) ⟨same_new hD, upd_same⟩ (fun i H' _ h => Same.tup h.1 hx) (fun i x H' hi h => ?_) (fun H' h => hd H' h.1 h.2) e
  obtain ⟨s, hD'⟩ := h
  have hlt := (List.getElem?_eq_some_iff.mp hi).1
  refine hg _ _ _ _ _ (fun σ2 H2 q => ⟨q.1, htt _ _ _ _ q.2⟩) (hs i x H' _ hi s ⟨_, hD', ?_, fun b o hb => ?_, ?_⟩)
  · rw [List.length_map, List.length_range, sizeLine_eq]; omega
  · rw [upd_ne (ne_of_none hb hD)]; exact s _ _ hb
  · rw [upd_same, List.range_succ, List.map_append] <;> rfl
end
theorem i_yes {σ : L2.St} {H : Hp} {Q : Bool → Hp → Prop} (q : Q true H) : tYes σ H Q := q
/-! ### ifs -/
theorem c_dec {P A B : Prop} [Decidable P] (h1 : P → A) (h2 : ¬ P → B) : if decide P = true then A else B := by
  by_cases h : P
  · rw [if_pos (decide_eq_true h)]; exact h1 h
  · rw [if_neg (by rw [decide_eq_false h]; exact Bool.false_ne_true)]; exact h2 h
theorem c_decN {P A B : Prop} [Decidable P] (h1 : ¬ P → A) (h2 : P → B) : if (!decide P) = true then A else B := by
  by_cases h : P
  · rw [if_neg (by rw [decide_eq_true h]; exact Bool.false_ne_true)]; exact h2 h
  · rw [if_pos (by rw [decide_eq_false h]; rfl)]; exact h1 h
theorem c_nt {A B : Prop} (h : B) : if (!true) = true then A else B := iteF h
theorem c_nf {A B : Prop} (h : A) : if (!false) = true then A else B := iteT h
theorem c_bool {b : Bool} {A B : Prop} (h1 : b = true → A) (h2 : b = false → B) : if b = true then A else B := by
  cases b
  · exact iteF (h2 rfl)
  · exact iteT (h1 rfl)
theorem c_yes {P A B : Prop} [Decidable P] (h : P) (h1 : A) : if decide P = true then A else B := by rw [if_pos (decide_eq_true h)]; exact h1
theorem c_no {P A B : Prop} [Decidable P] (h : ¬ P) (h1 : B) : if decide P = true then A else B := by rw [if_neg (by rw [decide_eq_false h]; exact Bool.false_ne_true)]; exact h1
theorem c_yesN {P A B : Prop} [Decidable P] (h : ¬ P) (h1 : A) : if (!decide P) = true then A else B := by rw [if_pos (by rw [decide_eq_false h]; rfl)]; exact h1
theorem c_noN {P A B : Prop} [Decidable P] (h : P) (h1 : B) : if (!decide P) = true then A else B := by rw [if_neg (by rw [decide_eq_true h]; exact Bool.false_ne_true)]; exact h1
section
variable {K : PySem.W.Frag} {σ : L2.St} {H : Hp} {Q : VK}
theorem i_slA {p : Addr} {xs : List V} {lo hi : Option Int} (h : SqT K H p xs) (q : ∀ (r : Addr) (H' : Hp), Same H H' → SqT K H' r (cutV xs lo hi) → Q (.ref r) H') : rSlQ K (.ref p) lo hi H Q :=
  ⟨p, xs, rfl, h, fun e => q p H (Same.refl H) (by rw [e]; exact h), fun r hr => q r _ (same_new hr) (SqT.of upd_same)⟩
theorem i_eqD {x y : V} {d e : PyData} {n m : Nat} (h1 : Dp K H x d) (h2 : Dp K H y e) (s1 : Shp n d) (s2 : Shp m e) (hn : n ≤ 64) (hm : m ≤ 64) (q : Q (.bl (PyData.eqv d e)) H) : rEqD K x y H Q := ⟨d, e, h1, h2, s1.shaped hn, s2.shaped hm, q⟩
theorem i_neD {x y : V} {d e : PyData} {n m : Nat} (h1 : Dp K H x d) (h2 : Dp K H y e) (s1 : Shp n d) (s2 : Shp m e) (hn : n ≤ 64) (hm : m ≤ 64) (q : Q (.bl (!PyData.eqv d e)) H) : rNeD K x y H Q := ⟨d, e, h1, h2, s1.shaped hn, s2.shaped hm, q⟩
/-- == and != of the same data -/
theorem i_eqS' {x y : V} {d : PyData} {n : Nat} (h1 : Dp K H x d) (h2 : Dp K H y d) (s1 : Shp n d) (hn : n ≤ 64) (q : Q (.bl true) H) : rEqD K x y H Q := i_eqD h1 h2 s1 s1 hn hn (by rw [s1.eqv]; exact q)
theorem i_neS' {x y : V} {d : PyData} {n : Nat} (h1 : Dp K H x d) (h2 : Dp K H y d) (s1 : Shp n d) (hn : n ≤ 64) (q : Q (.bl false) H) : rNeD K x y H Q := i_neD h1 h2 s1 s1 hn hn (by rw [s1.eqv]; exact q)
theorem i_while {c : TT} {tb : TS} {nx : L2.St → Hp → Prop} {rt : VK} {bk ct : L2.St → Hp → Prop} (W : Nat → L2.St → Hp → Prop) (h0 : ∃ m, W m σ H) (h : ∀ m σ H, W m σ H →
  c σ H fun b H1 => if b = true then ∃ N : L2.St → Hp → Prop, (∀ σ' H', N σ' H' → ∃ m', m' < m ∧ W m' σ' H') ∧ tb ⟨N, rt, nx, N⟩ σ H1 else nx σ H1) : tWhile c tb ⟨nx, rt, bk, ct⟩ σ H := ⟨W, h0, h⟩
theorem i_par {i j : Nat} {ta : TA} {nx : L2.St → Hp → Prop} {rt : VK} {bk ct : L2.St → Hp → Prop} (h : ta σ H fun vs H1 => ∃ v w, vs = [v, w] ∧ nx ((σ.set i (some v)).set j (some w)) H1) : tPar i j ta ⟨nx, rt, bk, ct⟩ σ H := h
theorem i_two {x y : V} {R : V → V → Prop} (q : R x y) : ∃ v w, [x, y] = [v, w] ∧ R v w := ⟨x, y, rfl, q⟩
theorem Dp.same {K : PySem.W.Frag} {H H' : Hp} (s : Same H H') : ∀ (d : PyData) (v : V), Dp K H v d → Dp K H' v d := by
  intro d v h
  exact Dp.rec (motive_1 := fun v d _ => Dp K H' v d) (motive_2 := fun vs ds _ => DpAll K H' vs ds) .non (fun b => .bl b) (fun i => .int i) (fun x => .str x) (fun h _ q => .lst (s.seq h) q) (fun h _ q => .tup (Same.tup s h) q) .nil (fun _ _ h1 h2 => .cons h1 h2) h
end
/-! ### a def that can be called -/
structure Df (K : PySem.W.Frag) (mg : Str → Option Value) (x : Str) (st : Stmt) (f : Addr) (fd : FuncData) (ps : List Str) : Prop where
  fn : Fun K x x st f fd
  mgf : mg x = some (.ref f)
  bi : Binds K fd ps []
/-- a def of the text by its promise: it lets no exception out -/
structure Cl (P : Program) (w : World) (K : PySem.W.Frag) (mg : Str → Option Value) (base : Heap) (k : Nat) (x : Str) (sp : Sp) : Prop where
  ex : ∃ (f : Addr) (fd : FuncData) (ps : List Str), FnOk P w K mg base CX0 k f fd ps sp ∧ mg x = some (.ref f) ∧ PySem.W.keepIn K (.ref f) = true ∧ Binds K fd ps []
section
variable {P : Program} {w : World} {K : PySem.W.Frag} {mg : Str → Option Value} {base : Heap}
theorem Df.ok {x : Str} {st : Stmt} {f : Addr} {fd : FuncData} {ps N : List Str} {k : Nat} {sp : Sp} (F : Df K mg x st f fd ps) (S : FnScope N ps (defScope st)) (len : ∀ vs H Q E, sp vs H Q E → vs.length = ps.length)
    (hbody : ∀ (cdv : Value) (A : Around) (outer : List Env) (s : Shared) (H : Hp) (vs : List V) (Q : VK) (E : XK), Room k (A.deeper (envOfC x (defScope st) s.heap.objs.size f cdv)) → sp vs H Q E →
      ∃ t, PSs (cxOf CX0 P w K mg base N x (defScope st) f cdv A outer s H E).nox (defBody st) t ∧ t { nx := fun _ H' => Q .non H', rt := Q } (start N vs) H) : FnOk P w K mg base CX0 (k + 1) f fd ps sp :=
  F.fn.ok S len hbody
theorem Df.cl {x : Str} {st : Stmt} {f : Addr} {fd : FuncData} {ps : List Str} {k : Nat} {sp : Sp} (F : Df K mg x st f fd ps) (o : FnOk P w K mg base CX0 k f fd ps sp) : Cl P w K mg base k x sp :=
  ⟨f, fd, ps, o, F.mgf, F.fn.kp, F.bi⟩
variable {X : Cx}
theorem pe_cl {x : Str} {sp : Sp} {j k : Nat} {e : Expr} {es : List Expr} {t : TA} {p pos : Pos} (c : Cl X.prog X.w X.K X.mg X.base k x sp) (hr : Room j X.A) (hk : k ≤ j) (hg : Gl X x) (ha : PA X (e :: es) t)
    (hdb : (x == ("__debug__" : Str)) = false := by decide) (he : starEach (e :: es) X.env = (false, eval e X.env) :: starEach es X.env := by rfl) (hpl : (backTo pos (starEach es X.env)).any (·.1) = false := by rfl) :
    PE X (.Call (.Name x p) (e :: es) [] pos) (tCall sp [] E0 t) := by
  obtain ⟨f, fd, ps, F, hm, kp, b⟩ := c.ex
  exact pe_call F (hr.mono hk) hg hm kp b .nil pass0 ha hdb he hpl
theorem pe_cl0 {x : Str} {sp : Sp} {j k : Nat} {p pos : Pos} (c : Cl X.prog X.w X.K X.mg X.base k x sp) (hr : Room j X.A) (hk : k ≤ j) (hg : Gl X x) (hdb : (x == ("__debug__" : Str)) = false := by decide) :
    PE X (.Call (.Name x p) [] [] pos) (tCall sp [] E0 tNil) := by
  obtain ⟨f, fd, ps, F, hm, kp, b⟩ := c.ex
  exact pe_call0 F (hr.mono hk) hg hm kp b .nil pass0 hdb
/-- a constant of the module's top -/
def Cn (mg : Str → Option Value) (x : Str) (v : V) : Prop := ∃ u, mg x = some u ∧ RelV v u
theorem pe_cn {x : Str} {v : V} {pos : Pos} (hg : Gl X x) (h : Cn X.mg x v) (hd : (x == ("__debug__" : Str)) = false := by decide) : PE X (.Name x pos) (tC v) := by
  obtain ⟨u, hm, r⟩ := h
  exact pe_glob hg hm r hd
section
variable {K : PySem.W.Frag} {T : String} {name : Str} {id : String} {r : V → List V → Hp → VK → Prop} {o e : Expr} {es : List Expr} {apos cpos pos : Pos} {to ta : TE} {t : TA}
theorem pe_bm0K (hK : X.K = K) (pa : PlainAttrs T) (slot : Slot T name id) (hty : typeOf (.builtin id) = pure (.type "method_descriptor")) (hm : MtR X id r) (ho : PE X o to)
    (hbase : attributeBase o name X.env (eval o X.env) = eval o X.env := by rfl) (hline : (apos.endLine == cpos.line) = true := by rfl) : PE X (.Call (.Attribute o name apos) [] [] cpos) (tBM0 K T r to) := by
  subst hK; exact pe_bm0 pa slot hty hm ho hbase hline
theorem pe_bmK (hK : X.K = K) (pa : PlainAttrs T) (slot : Slot T name id) (hty : typeOf (.builtin id) = pure (.type "method_descriptor")) (hm : MtR X id r) (ho : PE X o to) (ha : PA X (e :: es) t)
    (hbase : attributeBase o name X.env (eval o X.env) = eval o X.env := by rfl)
    (hfew : ((backTo cpos (starEach (e :: es) X.env)).all (fun x => !x.1) && (backToKw cpos (keywordEach [] X.env)).all (fun x => x.1.isSome)
      && decide ((e :: es).length + ([] : List Keyword).length + (if ([] : List Keyword).isEmpty then 0 else 1) < 30)) = true := by rfl)
    (hline : (apos.endLine == cpos.line) = true := by rfl) (hs : starEach (e :: es) X.env = (false, eval e X.env) :: starEach es X.env := by rfl) (hplain : (backTo cpos (starEach es X.env)).any (·.1) = false := by rfl) :
    PE X (.Call (.Attribute o name apos) (e :: es) [] cpos) (tBM K T r to t) := by
  subst hK; exact pe_bm pa slot hty hm ho ha hbase hfew hline hs hplain
theorem pe_fldK (hK : X.K = K) {f : Str} (he : PE X e ta) (hb : attributeBase e f X.env (eval e X.env) = eval e X.env) : PE X (.Attribute e f pos) (tFld K ta f) := by
  subst hK; exact pe_fld he hb
theorem pg_tupK (hK : X.K = K) {es : List Expr} {k : Nat} {t : TGs} {n : Nat} (hc : X.calm = true) (h : PGs X es t)
    (hn : (assignEach es X.env).length = n := by rfl) (hst : (assignEach es X.env).findIdx? (·.1) = none := by rfl) : PG X (.Tuple es k pos) (gTup K n t) := by
  subst hK; exact pg_tup hc h hn hst
end
theorem get_list : L2.PGet X (rIxL X.K) := by
  intro pins s σ H x y v u Q I rx ry h
  obtain ⟨p, xs, i, z, rfl, rfl, hq, he, q⟩ := h
  cases rx
  obtain ⟨t, rfl⟩ := ry
  obtain ⟨its, r, pl, hz⟩ := I.list hq
  obtain ⟨j, h1, h2, h3, h4, h5⟩ := atI_get he
  obtain ⟨w, ew, rw'⟩ := r.get h2
  have hl := r.length
  have hn := line63
  have fin : EP X pins σ Q w s := ⟨z, H, I, rw', q⟩
  by_cases h0 : 0 ≤ i
  · have hj : i.toNat = j := by
      rw [seqIndex_of h0 h5] at h1
      exact Option.some.inj h1
    exact wpAny_getItem_list pl.isList h0 (by omega) (by rw [hj]; simpa using ew) fin
  · have hj : (i + (its.toArray.size : Int)).toNat = j := by
      rw [seqIndex_neg (by omega) h4] at h1
      rw [List.size_toArray, ← hl]
      exact Option.some.inj h1
    exact wpAny_getItem_list_neg pl.isList (by omega) (by rw [List.size_toArray] <;> omega) (by omega) (by rw [hj]; simpa using ew) fin
end
theorem perm_erase {α : Type} : ∀ (l : List α) (i : Nat) (h : i < l.length), (l[i] :: l.eraseIdx i).Perm l
  | x :: r, 0, _ => List.Perm.refl _
  | x :: r, i + 1, h => (List.Perm.swap x (r[i]'(Nat.lt_of_succ_lt_succ h)) (r.eraseIdx i)).trans ((perm_erase r i (Nat.lt_of_succ_lt_succ h)).cons x)
theorem ints_at {ns : List Int} {i : Nat} {x : V} (h : (ns.map V.int)[i]? = some x) : ∃ z, x = .int z ∧ ns[i]? = some z ∧ ns.take (i + 1) = ns.take i ++ [z] ∧ i < ns.length := by
  rw [List.getElem?_map] at h
  cases e : ns[i]? with
  | none => rw [e] at h; cases h
  | some z =>
    rw [e] at h
    exact ⟨z, (Option.some.inj h).symm, rfl, by rw [List.take_add_one, e]; rfl, (List.getElem?_eq_some_iff.mp e).1⟩
theorem at_lt {α : Type} {xs : List α} {i : Int} (h0 : 0 ≤ i) (h : i < xs.length) : ∃ v, atI xs i = some v ∧ v ∈ xs ∧ xs[i.toNat]? = some v := by
  have hl : i.toNat < xs.length := by omega
  refine ⟨xs[i.toNat], ?_, List.getElem_mem hl, List.getElem?_eq_getElem hl⟩
  have := atI_nat (xs := xs) (j := i.toNat) (v := xs[i.toNat]) (List.getElem?_eq_getElem hl)
  rw [Int.toNat_of_nonneg h0] at this
  exact this
theorem ixN_of {n : Nat} {i : Int} (h0 : 0 ≤ i) (h : i < n) : ixN n i = some i.toNat := by
  unfold ixN
  rw [if_pos h0, if_pos h]
end Jp

/-! ### defs that ask for no guards around them: those that call repr of a container -/
namespace Jp
open PySem PySem.Spec PyProof.Rows L2
structure Gok (P : Program) (w : World) (K : PySem.W.Frag) (mg : Str → Option Value) (base : Heap) (k : Nat) (f : Addr) (fd : FuncData) (ps : List Str) (sp : Sp) : Prop where
  len : ∀ vs H Q E, sp vs H Q E → vs.length = ps.length
  go : ∀ (A : Around) (ou : List Env) (s : Shared) (H : Hp) (g : Args) (us : List Value) (vs : List V) (Q : VK) (E : XK), A.guards = some [] → Room k A → Env0 P w K mg base A ou s H → BindsTo s fd g (ps.zip us) → Vals vs us → sp vs H Q E →
    codeAny (model P w) A (.call (.ref f) g) (CR CX0 ou P w H s Q E) s
structure Cg (P : Program) (w : World) (K : PySem.W.Frag) (mg : Str → Option Value) (base : Heap) (k : Nat) (x : Str) (sp : Sp) : Prop where
  ex : ∃ (f : Addr) (fd : FuncData) (ps : List Str), Gok P w K mg base k f fd ps sp ∧ mg x = some (.ref f) ∧ PySem.W.keepIn K (.ref f) = true ∧ Binds K fd ps []
section
variable {P : Program} {w : World} {K : PySem.W.Frag} {mg : Str → Option Value} {base : Heap}
theorem Df.gok {x : Str} {st : Stmt} {f : Addr} {fd : FuncData} {ps N : List Str} {k : Nat} {sp : Sp} (F : Df K mg x st f fd ps) (S : FnScope N ps (defScope st)) (len : ∀ vs H Q E, sp vs H Q E → vs.length = ps.length)
    (body : ∀ (cdv : Value) (A : Around) (ou : List Env) (s : Shared) (H : Hp) (vs : List V) (Q : VK) (E : XK), Room k (A.deeper (envOfC x (defScope st) s.heap.objs.size f cdv)) → A.guards = some [] → sp vs H Q E →
      ∃ t, PSs (cxOf CX0 P w K mg base N x (defScope st) f cdv A ou s H E).nox (defBody st) t ∧ t { nx := fun _ H' => Q .non H', rt := Q } (start N vs) H) : Gok P w K mg base (k + 1) f fd ps sp := by
  obtain ⟨oc, od, kV, doc, pm, an, cdv, ct, osl, rfl, lk, hcd⟩ := F.fn.ex
  refine ⟨len, fun A ou s H g us vs Q E hgu rm e0 bi rv want => ?_⟩
  have many := len vs H Q E want
  have kin : K.In s.heap := e0.mod.kin.keeps fun b o z => (e0.bs b o z).1
  have noLim : s.heap.NoLimit := e0.mod.nolimit.keeps fun b o z => (e0.bs b o z).1
  have kinds : ∀ y ∈ ps.zip us, (defScope st).names.lookup y.1 = some .local ∨ ((defScope st).names.lookup y.1 = some .cell ∧ ((cellsFrom (s.heap.objs.size + 1) (defScope st).names []).lookup y.1).isSome = true) := by
    rintro ⟨n, v⟩ hy
    rcases S.par n (List.of_mem_zip hy).1 with l | c
    · exact .inl l
    · exact .inr ⟨c, PySem.W.cellsFrom_some _ _ _ (.inl c)⟩
  refine codeAny_call_function rm.depth (kin _ _ lk) rfl S.co S.gen rfl (PySem.W.codeRec_of kin hcd) (bi _ _ _ _ (wpAny_newFunctionEnv_cells S.kind kinds fun env he s1 x => ?_)); subst he
  refine ⟨noLim.keeps x.toInCall.keep, codeAny_func ?_⟩
  obtain ⟨t, ht, rd⟩ := body cdv A ou s H vs Q E (rm.deeper _) hgu want
  have inv : Inv (cxOf CX0 P w K mg base N _ (defScope st) f cdv A ou s H E) [] (start N vs) H s1 := inv_start S rm.hd e0 many rv x
  refine wpAny_mono (ht.nox.run [] s1 (start N vs) H _ inv rd) (fun fl s' hs => ?_) fun e s' z => z
  cases fl
  case ret u =>
    obtain ⟨v, σ', H', J, rr, q⟩ := hs
    exact ⟨v, H', J.os, J.bare, J.base, J.hok, rr, q⟩
  case next =>
    obtain ⟨σ', H', J, q⟩ := hs
    exact ⟨V.non, H', J.os, J.bare, J.base, J.hok, rfl, q⟩
  case brk => obtain ⟨_, _, _, q⟩ := hs; exact False.elim q
  case cont => obtain ⟨_, _, _, q⟩ := hs; exact False.elim q
theorem Df.cg {x : Str} {st : Stmt} {f : Addr} {fd : FuncData} {ps : List Str} {k : Nat} {sp : Sp} (F : Df K mg x st f fd ps) (o : Gok P w K mg base k f fd ps sp) : Cg P w K mg base k x sp :=
  ⟨f, fd, ps, o, F.mgf, F.fn.kp, F.bi⟩
end
section
variable {X : Cx}
theorem run_cg {k : Nat} {f : Addr} {fd : FuncData} {ps : List Str} {sp : Sp} {pins : List (Addr × Obj)} {σ : L2.St} {H : Hp} {s : Shared} {Q : VK} {us : List Value} {vs : List V} (F : Gok X.prog X.w X.K X.mg X.base k f fd ps sp) (rm : Room k X.A) (hgu : X.A.guards = some []) (bi : Binds X.K fd ps [])
    (I : Inv X pins σ H s) (rv : Vals vs us) (want : sp (vs ++ []) H Q E0) : wpAny (model X.prog X.w) X.A (call (.ref f) us) (EP X pins σ Q) X.xe s := by
  rw [List.append_nil] at want
  have many : (us ++ []).length = ps.length := by rw [List.append_nil, ← rv.length]; exact F.len _ _ _ _ want
  have bd := bi s us I.kIn many
  rw [List.append_nil] at bd
  refine wpAny_call (codeAny_mono (F.go X.A X.stack s H ⟨us, []⟩ us vs Q E0 hgu rm I.env0 bd rv want) fun r s' hq => ?_)
  cases r
  case error e => exact pass0 pins σ H s e s' I hq
  case ok fl =>
    cases fl
    case ret u => exact I.after hq
    all_goals exact False.elim hq
theorem pe_cg {x : Str} {sp : Sp} {j k : Nat} {e : Expr} {es : List Expr} {t : TA} {p pos : Pos} (c : Cg X.prog X.w X.K X.mg X.base k x sp) (hr : Room j X.A) (hgu : X.A.guards = some []) (hk : k ≤ j) (hg : Gl X x) (ha : PA X (e :: es) t)
    (hdb : (x == ("__debug__" : Str)) = false := by decide) (he : starEach (e :: es) X.env = (false, eval e X.env) :: starEach es X.env := by rfl) (hpl : (backTo pos (starEach es X.env)).any (·.1) = false := by rfl) :
    PE X (.Call (.Name x p) (e :: es) [] pos) (tCall sp [] E0 t) := by
  obtain ⟨f, fd, ps, F, hm, kp, b⟩ := c.ex
  refine ⟨fun pins s σ H Q I h => wpAny_Call_Name_kw (ld_glob I hg hm ?_ hdb)⟩
  refine PySem.W.callWith_K (h₀ := X.base) I.ok.mod.kin kp (thn (ha.run pos pins s σ H _ I h) fun us s1 hh => ?_) he hpl
  obtain ⟨vs, H1, I1, r, q⟩ := hh
  exact ⟨I1.kIn, run_cg F (hr.mono hk) hgu b I1 r q⟩
theorem pe_cg0 {x : Str} {sp : Sp} {j k : Nat} {p pos : Pos} (c : Cg X.prog X.w X.K X.mg X.base k x sp) (hr : Room j X.A) (hgu : X.A.guards = some []) (hk : k ≤ j) (hg : Gl X x) (hdb : (x == ("__debug__" : Str)) = false := by decide) :
    PE X (.Call (.Name x p) [] [] pos) (tCall sp [] E0 tNil) := by
  obtain ⟨f, fd, ps, F, hm, kp, b⟩ := c.ex
  exact ⟨fun pins s σ H Q I h => wpAny_Call_Name_kw (ld_glob I hg hm (PySem.W.callWith_K0 I.kIn kp (run_cg (us := []) F (hr.mono hk) hgu b I .nil h)) hdb)⟩
/-- repr of a container -/
def rReprD (K : PySem.W.Frag) : List V → Hp → VK → Prop := fun xs H Q => ∃ (a : Addr) (d : PyData), xs = [.ref a] ∧ Dp K H (.ref a) d ∧ PyData.layable0 d = true ∧ d.showable = true ∧ d.shown.length ≤ sizeLine ∧ d.depth ≤ 20 ∧ Q (.str d.shown) H
theorem c_reprD (hgu : X.A.guards = some []) (hu : X.A.units + 64 < cLine) : CallR X (.builtin "repr") (rReprD X.K) := by
  intro pins s σ H xs us Q I r h
  obtain ⟨a, d, rfl, hd, hl, hs, hz, hdp, q⟩ := h
  obtain ⟨u, rfl, ru⟩ := vals1 r
  obtain ⟨as, rd⟩ := Dp.reads I d _ u hd ru
  cases ru
  exact repr_of_reads' rd hs (PyData.noDict_hsm (PyData.hasDict_of_layable hl)) hgu (by omega) (fun _ _ e => e) (fun h' u tk hk => ⟨.str d.shown, H, I.kept hk, ⟨_, rfl⟩, q⟩) hz
end
/-- the law's call, where it stands alone -/
theorem law_cg {P : Program} {w : World} {K : PySem.W.Frag} {mg mb : Str → Option Value} {k : Nat} {fa a : Addr} {fd : FuncData} {x : Str} {sp : Sp} {s₁ : Shared} {vs : List Value} {ns : List Int}
    (KX : K.In s₁.heap) (hns : s₁.heap.Ns mainGlobals mg) (hb : s₁.heap.Ns builtinsNs mb) (hbb : ∀ x : Str, x ≠ "__name__" → mb x = bootBuiltins x) (hlim : s₁.heap.NoLimit) (hg : s₁.gens = #[])
    (ha : s₁.heap.get? a = some { cls := .type "list", data := .seq vs.toArray }) (hi : IntsAre vs ns) (hl : ns.length ≤ sizeLine) (hr : Room k callerA)
    (F : ∀ base : Heap, K.In base → base.Ns mainGlobals mg → Gok P w K mg base k fa fd [x] sp) (bind : ∀ (s : Shared) (u : Value), BindsTo s fd ⟨[u], []⟩ [(x, u)])
    (hsp : ∀ H : Hp, Only H → SqL K H a (ns.map V.int) → sp [.ref a] H (fun v _ => v = .bl true) fun _ _ _ => False) :
    codeAny (model P w) callerA (.call (.ref fa) ⟨[.ref a], []⟩) (fun r s' => r = .ok (.ret (.bool true)) ∧ OldK s₁.heap s'.heap ∧ s'.os = s₁.os ∧ AllBare s'.gens) s₁ := by
  have rv := vals_ints hi; have lenV := hi.length
  have main : ∀ H : Hp, Only H → SqL K H a (ns.map V.int) → HOk P w H s₁.heap → (∀ b, H b ≠ none → b = a) → (H a ≠ none → K.lookup a = none) → codeAny (model P w) callerA (.call (.ref fa) ⟨[.ref a], []⟩) (fun r s' => r = .ok (.ret (.bool true)) ∧ OldK s₁.heap s'.heap ∧ s'.os = s₁.os ∧ AllBare s'.gens) s₁ := by
    intro H only hS hok hA hK
    have isA : ∀ {b : Addr} {u : HO}, H b = some u → b = a := fun {b u} e => hA b (by rw [e]; exact Option.some_ne_none u)
    have notDict : ∀ {b : Addr} {o : Obj} {es : Array DictEntry} {ep : Nat}, s₁.heap.get? b = some o → o.data = .dict es ep → H b = none := by
      intro b o es ep e d
      cases q : H b with
      | none => rfl
      | some u =>
        obtain rfl := isA q
        rw [ha] at e
        cases e
        cases (show Data.seq vs.toArray _ = Data.dict es ep from d)
    have ns' : ∀ {b : Addr} {m : Str → Option Value}, s₁.heap.Ns b m → (hidT s₁.heap H).Ns b m := by
      intro b m hh
      obtain ⟨o, es, ep, e, d, r⟩ := hh
      exact ⟨o, es, ep, hidT_get e (notDict e d), d, r⟩
    have kIn : K.In (hidT s₁.heap H) := by
      intro b o e
      refine hidT_get (KX b o e) ?_
      cases q : H b with
      | none => rfl
      | some u =>
        obtain rfl := isA q
        rw [hK (by rw [q]; exact Option.some_ne_none u)] at e
        cases e
    have mod : Mod K mg (hidT s₁.heap H) := by
      obtain ⟨mc, h1, h2⟩ := hlim
      exact ⟨kIn, ns' hns, ⟨mb, ns' hb, hbb⟩, mc, ns' h1, h2⟩
    have e0 : Env0 P w K mg (hidT s₁.heap H) callerA [] s₁ H := ⟨rfl, mod, fun b o e => of_hidT e, Nat.le_of_eq (hidT_size _ _), trivial, fun b z => (nomatch (show b ∈ ([] : List Addr) from z)), hok, .of_eq hg⟩
    have run := (F _ kIn (ns' hns)).go callerA [] s₁ H ⟨[.ref a], []⟩ [.ref a] [.ref a] (fun v _ => v = .bl true) (fun _ _ _ => False) rfl hr e0 (bind s₁ (.ref a)) (.cons rfl .nil) (hsp H only hS)
    refine codeAny_mono run fun r s' h => ?_
    cases r
    case error e => exact False.elim h
    case ok fl =>
      cases fl
      case ret u =>
        obtain ⟨v, H', os, bare, un, hok', r', q⟩ := h
        obtain rfl : v = .bl true := q
        obtain rfl : u = Value.bool true := r'
        refine ⟨rfl, OldK.of_keep fun b o e => ?_, os, bare⟩
        cases q : H b with
        | none => exact un.keep b o e q (by intro z; exact (nomatch (show b ∈ ([] : List Addr) from z))) (by simp)
        | some u =>
          rcases only b with z | ⟨ob, xs, z⟩
          · rw [q] at z
            cases z
          · obtain ⟨e1, _⟩ := hok b _ z
            obtain ⟨e2, _⟩ := hok' b _ (un.frzs b ob _ z)
            rw [e] at e1
            cases e1
            exact e2
      all_goals exact False.elim h
  cases hk : K.lookup a with
  | some o =>
    have e := KX a o hk
    rw [ha] at e
    cases e
    refine main (fun _ => none) (fun _ => .inl rfl) (.inr ⟨_, vs.toArray, _, hk, rfl, rfl, rfl, by rw [List.size_toArray, lenV]; exact hl, by simpa using rv⟩) (fun b u z => (nomatch (show (none : Option HO) = some u from z))) (fun b z => absurd rfl z) fun z => absurd rfl z
  | none =>
    have at_ : ∀ b, b ≠ a → (if b = a then some (HO.frz { cls := .type "list", data := .seq vs.toArray } (.lst (ns.map V.int))) else none) = none := fun b n => if_neg n
    refine main (fun b => if b = a then some (.frz { cls := .type "list", data := .seq vs.toArray } (.lst (ns.map V.int))) else none) (fun b => ?_) (.inl (.inr ⟨_, if_pos rfl⟩)) (fun b u z => ?_) (fun b z => ?_) fun _ => hk
    · by_cases n : b = a
      · exact .inr ⟨_, _, if_pos n⟩
      · exact .inl (at_ b n)
    · by_cases n : b = a
      · have z' := (if_pos n).symm.trans z
        cases z'
        subst n
        exact ⟨ha, by rw [List.length_map]; exact hl, vs, _, rv, ha⟩
      · have z' := (at_ b n).symm.trans z
        cases z'
    · by_cases n : b = a
      · exact n
      · exact absurd (at_ b n) z
theorem walk_cg {l : PySem.W.OpenLaw} {n k : Nat} {q : Program} {loose : List Str} {XP : (Str → Option Value) → Heap → Prop} {YP : World → Heap → Prop} {d : DefRec} {K : Params → PySem.W.Frag} {sp : World → Sp} {x : Str}
    (hn : l.most = some n) (hn2 : n ≤ sizeLine) (hdf : d.params.defaults = []) (hr : Room k callerA) (hY : ∀ (w : World) (h : Heap), YP w h → (K w.params).In h)
    (F : ∀ (w : World) (mg : Str → Option Value) (fa : Addr) (h : Heap), (K w.params).In h → h.Ns mainGlobals mg → mg d.name = some (.ref fa) → ∃ fd : FuncData, (∀ (s : Shared) (u : Value), BindsTo s fd ⟨[u], []⟩ [(x, u)]) ∧ ∀ base : Heap, (K w.params).In base → base.Ns mainGlobals mg → Gok l.prog w (K w.params) mg base k fa fd [x] (sp w))
    (hsp : ∀ (w : World) (H : Hp) (a : Addr) (ns : List Int), ns.length ≤ n → (∀ z ∈ ns, Builtin.Int.intBits z ≤ 1048576) → Only H → SqL (K w.params) H a (ns.map V.int) → sp w [.ref a] H (fun v _ => v = .bl true) fun _ _ _ => False) :
    PySem.W.WalkO q loose XP YP l.row.toRowW d [] (fun f vs => PySem.call f vs) := by
  refine Att.attach_callB hn hdf fun w s₀ s₁ mg mb fa o pm cd doc a vs ns G Y _ _ _ hmg hobj hints hlen hbits hgen => ?_
  have kin := hY w _ Y
  obtain ⟨fd, hb, hF⟩ := F w mg fa _ kin G.T.g hmg
  exact law_cg kin G.T.g G.T.b G.T.builtins G.T.nolimit hgen hobj hints (Nat.le_trans hlen hn2) hr hF hb fun H hO hS => hsp w H a ns hlen hbits hO hS
/-! what can be shown -/
/-- data whose text is short -/
structure Rp (n w : Nat) (d : PyData) : Prop where
  lay : d.canLay0 = true
  dep : d.depth ≤ n
  wei : d.weight ≤ w
  short : d.intsShort 13 = true
  show_ : d.showable = true
theorem Rp.mono {n m w v : Nat} {d : PyData} (h : Rp n w d) (h1 : n ≤ m) (h2 : w ≤ v) : Rp m v d := ⟨h.lay, Nat.le_trans h.dep h1, Nat.le_trans h.wei h2, h.short, h.show_⟩
theorem Rp.non : Rp 0 0 .none := ⟨by simp [PyData.canLay0], by simp [PyData.depth], by simp [PyData.weight], by simp [PyData.intsShort], by simp [PyData.showable]⟩
theorem Rp.int {i : Int} (h : i.natAbs < 10 ^ 12) : Rp 0 40 (.int i) := by
  have e : (10 : Nat) ^ 12 < 2 ^ 40 := by decide
  have h1 : i.natAbs = 0 ∨ i.natAbs.log2 < 40 := by
    by_cases z : i.natAbs = 0
    · exact .inl z
    · exact .inr ((Nat.log2_lt z).mpr (by omega))
  refine ⟨by simp [PyData.canLay0], by simp [PyData.depth], ?_, ?_, ?_⟩
  · rw [PyData.weight]
    split
    · omega
    · rename_i hz
      rcases h1 with z | z
      · exact absurd (by simpa using z) hz
      · omega
  · rw [PyData.intsShort, PyData.shown]
    exact decide_eq_true (by rw [PySem.ofString_length]; exact int_text_length_le10 (k := 12) (by decide) h)
  · rw [PyData.showable]
    rcases h1 with z | z
    · rw [z]; decide
    · exact decide_eq_true (by omega)
theorem Rp.facts : Rp 0 40 (.str "facts") := ⟨by decide +kernel, by simp [PyData.depth], by decide +kernel, by simp [PyData.intsShort], by simp [PyData.showable]⟩
theorem rpAll {n w : Nat} : ∀ {ds : List PyData}, (∀ d ∈ ds, Rp n w d) → PyData.canLayAll0 ds = true ∧ PyData.depthAll ds ≤ n ∧ PyData.weightAll ds ≤ ds.length * (w + 1) ∧ PyData.intsShortAll 13 ds = true ∧ PyData.showableAll ds = true
  | [], _ => by simp [PyData.canLayAll0, PyData.depthAll, PyData.weightAll, PyData.intsShortAll, PyData.showableAll]
  | d :: ds, h => by
    have a := h d List.mem_cons_self
    obtain ⟨b1, b2, b3, b4, b5⟩ := rpAll (ds := ds) fun x hx => h x (List.mem_cons_of_mem _ hx)
    refine ⟨by rw [PyData.canLayAll0, a.lay, b1]; rfl, ?_, ?_, by rw [PyData.intsShortAll, a.short, b4]; rfl, by rw [PyData.showableAll, a.show_, b5]; rfl⟩
    · rw [PyData.depthAll]
      exact Nat.max_le.mpr ⟨a.dep, b2⟩
    · have := a.wei
      rw [PyData.weightAll, List.length_cons, Nat.succ_mul]
      omega
theorem Rp.tup {n w : Nat} {ds : List PyData} (h : ∀ d ∈ ds, Rp n w d) : Rp (n + 1) (ds.length * (w + 1)) (.tuple ds) := by
  obtain ⟨b1, b2, b3, b4, b5⟩ := rpAll h
  exact ⟨by rw [PyData.canLay0]; exact b1, by rw [PyData.depth]; omega, by rw [PyData.weight]; exact b3, by rw [PyData.intsShort]; exact b4, by rw [PyData.showable]; exact b5⟩
theorem Rp.layable {n w : Nat} {d : PyData} (h : Rp n w d) (hn : n ≤ 20) (hw : w ≤ 1000000) : PyData.layable0 d = true := by
  have := h.dep; have := h.wei
  unfold PyData.layable0
  rw [h.lay, decide_eq_true (show d.depth ≤ 64 by omega), decide_eq_true (show d.weight ≤ 2 ^ 20 by omega)]; rfl
theorem i_repr {K : PySem.W.Frag} {H : Hp} {Q : VK} {v : V} {ds : List PyData} {n w : Nat} (h : Dp K H v (.tuple ds)) (r : Rp n w (.tuple ds)) (hn : n ≤ 20) (hw : w ≤ 1000000) (q : Q (.str (PyData.tuple ds).shown) H) : rReprD K [v] H Q := by
  have hl := r.layable hn hw
  have hz : (PyData.tuple ds).shown.length ≤ sizeLine := by
    have := shown_le13 hl r.short
    rw [sizeLine_eq]; omega
  cases h with
  | tup a b => exact ⟨_, _, rfl, .tup a b, hl, r.show_, hz, Nat.le_trans r.dep hn, q⟩
theorem i_reprS {K : PySem.W.Frag} {H : Hp} {Q : VK} {v : V} {d : PyData} {n w : Nat} (h : Dp K H v d) (r : Rp n w d) (hn : n ≤ 20) (hw : w ≤ 1000000) (ht : ∃ ds, d = .tuple ds) (q : ∀ s, s = d.shown → Q (.str s) H) : rReprD K [v] H Q := by
  obtain ⟨ds, rfl⟩ := ht
  exact i_repr h r hn hw (q _ rfl)
end Jp

namespace Law
open PySem PySem.Spec PyProof.Rows L2 Jp
/-! ### the walk's small steps -/
local macro_rules | `(tactic| wtm_at "jset") => `(tactic| (first | (simp only [wipe, List.map_cons, List.map_nil, List.set_cons_zero, List.set_cons_succ]; done) | (simp only [wipe, List.map_cons, List.map_nil, List.set_cons_zero, List.set_cons_succ]; exact rfl) | exact rfl))
local macro_rules | `(tactic| wtm_at "jw1") => `(tactic| first
  | ((with_reducible refine' i_var ?h ?_); (case h => exact rfl))
  | with_reducible refine' i_c ?_ | with_reducible refine' i_op ?_ | with_reducible refine' i_seq ?_ | with_reducible refine' i_asg ?_
  | ((with_reducible refine' i_gNameE ?e ?_); (case e => wtm_at "jset"))
  | with_reducible refine' i_ret ?_ | with_reducible refine' i_test ?_ | with_reducible refine' i_isb ?_
  | with_reducible refine' i_cons ?_ | with_reducible refine' i_nil ?_ | with_reducible refine' i_call ?_ | with_reducible refine' i_cb ?_
  | with_reducible refine' i_rI0 ?_ | ((with_reducible refine' i_rI ?c ?_); (case c => wtm_at "jside")) | with_reducible refine' i_rU ?_
  | with_reducible refine' i_eqI ?_ | with_reducible refine' i_neI ?_ | with_reducible refine' i_eqB ?_ | with_reducible refine' i_neB ?_ | with_reducible refine' i_eqS ?_ | with_reducible refine' i_neS ?_
  | with_reducible refine' i_isN ?_ | with_reducible refine' i_notN ?_
  | with_reducible refine' i_un ?_ | with_reducible refine' i_drop ?_ | with_reducible refine' i_retN ?_ | with_reducible refine' i_next ?_
  | ((with_reducible refine' i_ixL ?h ?e ?_); (case h => wtm_at "jsq"); (case e => wtm_at "jat"))
  | ((with_reducible refine' i_ixT ?h ?e ?_); (case h => wtm_at "jsq"); (case e => wtm_at "jat"))
  | ((with_reducible refine' i_ix1 (i_ixL ?h ?e ?_)); (case h => wtm_at "jsq"); (case e => wtm_at "jat"))
  | ((with_reducible refine' i_ix2 (i_ixT ?h ?e ?_)); (case h => wtm_at "jsq"); (case e => wtm_at "jat"))
  | with_reducible refine' i_gSub ?_
  | ((with_reducible refine' i_setL ?h ?e ?_); (case h => wtm_at "jhp"); (case e => wtm_at "jixn"))
  | ((with_reducible refine' i_gTup ?h ?e ?_); (case h => wtm_at "jsq"); (case e => rfl)) | with_reducible refine' i_gCons ?_ | with_reducible refine' i_gNil ?_
  | with_reducible refine' i_int ?_ | with_reducible refine' i_intB ?_ | with_reducible refine' i_abs ?_ | with_reducible refine' i_max2 ?_ | with_reducible refine' i_min2 ?_
  | ((with_reducible refine' i_lenL ?h ?_); (case h => wtm_at "jsq")) | ((with_reducible refine' i_lenT ?h ?_); (case h => wtm_at "jsq"))
  | ((with_reducible refine' i_tupL ?h ?_); (case h => wtm_at "jsq")) | ((with_reducible refine' i_lstL ?h ?_); (case h => wtm_at "jsq")) | ((with_reducible refine' i_lstT ?h ?_); (case h => wtm_at "jsq")) | ((with_reducible refine' i_tupT ?h ?_); (case h => wtm_at "jsq"))
  | ((with_reducible refine' i_new ?h ?_); (case h => wtm_at "jlen"))
  | with_reducible refine' i_tup ?_ | with_reducible refine' i_lst ?_ | with_reducible refine' i_if ?_ | with_reducible refine' i_andV ?_ | with_reducible refine' i_orV ?_ | with_reducible refine' i_notV ?_ | with_reducible refine' i_B ?_
  | with_reducible refine' i_and ?_ | with_reducible refine' i_or ?_ | with_reducible refine' i_not ?_ | with_reducible refine' i_break ?_ | with_reducible refine' i_cont ?_
  | ((with_reducible refine' i_augE ?h ?_); (case h => exact rfl)) | with_reducible refine' i_augS ?_ | with_reducible refine' i_ipI ?_
  | with_reducible refine' i_for ?_ | with_reducible refine' i_iList ?_ | with_reducible refine' i_iTup ?_ | ((with_reducible refine' i_isL ?h ?_); (case h => wtm_at "jsq")) | ((with_reducible refine' i_isT ?h ?_); (case h => wtm_at "jsq"))
  | with_reducible refine' i_rng1 ?_ | with_reducible refine' i_rng2 ?_
  | ((with_reducible refine' i_isR1 ?h1 ?h2 ?_); (case h1 => wtm_at "jside"); (case h2 => wtm_at "jside"))
  | ((with_reducible refine' i_isR2 ?h1 ?h2 ?h3 ?h4 ?_); (case h1 => wtm_at "jside"); (case h2 => wtm_at "jside"); (case h3 => wtm_at "jside"); (case h4 => wtm_at "jside"))
  | ((with_reducible refine' i_lc ?e ?_); (case e => wtm_at "jset"))
  | with_reducible refine' i_yes ?_ | with_reducible refine' i_sl ?_ | with_reducible refine' i_par ?_ | with_reducible refine' i_two ?_ | with_reducible refine' i_noPart ?_ | with_reducible refine' i_part ?_ | with_reducible refine' i_isI ?_
  | with_reducible refine' i_bm ?_ | with_reducible refine' i_bm0 ?_ | ((with_reducible refine' i_tyL ?h ?_); (case h => wtm_at "jsq"))
  | ((with_reducible refine' i_app ?h ?e ?_); (case h => wtm_at "jhp"); (case e => wtm_at "jsmall"))
  | with_reducible refine' i_chain ?_ | ((with_reducible refine' i_cat ?h1 ?h2 ?e ?_); (case h1 => wtm_at "jhp"); (case h2 => wtm_at "jhp"); (case e => wtm_at "jlen"))
  | with_reducible refine iteT ?_ | with_reducible refine iteF ?_ | with_reducible refine' c_nt ?_ | with_reducible refine' c_nf ?_)
local macro_rules | `(tactic| wtm_at "js") => `(tactic| repeat (wtm_at "jw1"))
local macro_rules | `(tactic| wtm_at "jw") => `(tactic| repeat (first | wtm_at "jw1" | with_reducible refine' i_ifS ?_))
local macro_rules | `(tactic| wtm_at "jlen") => `(tactic| first | decide | (simp [sizeLine]; done) | omega)
/- a condition of an operation -/
local macro_rules | `(tactic| wtm_at "jside") => `(tactic| first | with_reducible assumption | omega | decide | (simp only [List.length_map]; omega) | (refine Or.inl ?_; decide) | (refine Or.inr ?_; decide) | (refine ⟨?_, ?_⟩ <;> omega) | (refine Or.inl ?_; constructor <;> omega) | (refine Or.inr ?_; constructor <;> omega) | (refine ⟨by decide, by decide, by decide⟩) | (with_reducible refine wide_div ?_ (b := 64) ?_ ?_ ?_ <;> first | omega | decide))
/- H p = some o -/
local macro_rules | `(tactic| wtm_at "jhp") => `(tactic| first | assumption | with_reducible exact upd_same | ((with_reducible refine' Eq.trans (upd_ne ?hne) ?hgo); (case hne => wtm_at "jne"); (case hgo => wtm_at "jhp")))
local macro_rules | `(tactic| wtm_at "jne") => `(tactic| first | assumption | (refine Ne.symm ?_; assumption) | (refine ne_of_none (by assumption) (by assumption)) | (refine (ne_of_none (by assumption) (by assumption)).symm))
local macro_rules | `(tactic| wtm_at "jsq") => `(tactic| first | assumption | ((with_reducible refine' SqL.of ?hh); (case hh => wtm_at "jhp")) | ((with_reducible refine' SqT.of ?hh); (case hh => wtm_at "jhp")) | ((with_reducible refine' Same.seq (same_new ?hn) ?hh); (case hn => assumption); (case hh => wtm_at "jsq")) | ((with_reducible refine' Same.tup (same_new ?hn) ?hh); (case hn => assumption); (case hh => wtm_at "jsq")))
/- the item at a place -/
local macro_rules | `(tactic| wtm_at "jat") => `(tactic| first | exact rfl | assumption)
local macro_rules | `(tactic| wtm_at "jixn") => `(tactic| first | exact rfl | assumption)
local macro_rules | `(tactic| wtm_at "jsmall") => `(tactic| first | assumption | exact small1000 (by first | assumption | omega | (simp; done) | (simp; omega)))

def top (i : Nat) : Stmt := PySem.Challenge.pw_judgedplay_k37_settled_facts.main.body.getD i (.Pass ⟨0, 0, 0, 0⟩)
abbrev s__law_begin : Stmt := top 13
abbrev N__law_begin : List Str := ["script", "cell"]
theorem sc__law_begin : FnScope N__law_begin ["script"] (defScope s__law_begin) := ⟨rfl, rfl, rfl, by decide +kernel, rfl, by decide +kernel, by decide +kernel⟩
abbrev s__law_draw : Stmt := top 14
abbrev N__law_draw : List Str := ["d", "many", "found", "size", "cell"]
theorem sc__law_draw : FnScope N__law_draw ["d", "many"] (defScope s__law_draw) := ⟨rfl, rfl, rfl, by decide +kernel, rfl, by decide +kernel, by decide +kernel⟩
abbrev s__law_pick : Stmt := top 15
abbrev N__law_pick : List Str := ["d", "row"]
theorem sc__law_pick : FnScope N__law_pick ["d", "row"] (defScope s__law_pick) := ⟨rfl, rfl, rfl, by decide +kernel, rfl, by decide +kernel, by decide +kernel⟩
abbrev s__law_new_past : Stmt := top 21
abbrev N__law_new_past : List Str := ["begin", "entered", "flag"]
theorem sc__law_new_past : FnScope N__law_new_past ["begin"] (defScope s__law_new_past) := ⟨rfl, rfl, rfl, by decide +kernel, rfl, by decide +kernel, by decide +kernel⟩
abbrev s_with_gone : Stmt := top 9
abbrev N_with_gone : List Str := ["facts", "gone", "tick", "rows", "seat"]
theorem sc_with_gone : FnScope N_with_gone ["facts", "gone"] (defScope s_with_gone) := ⟨rfl, rfl, rfl, by decide +kernel, rfl, by decide +kernel, by decide +kernel⟩
abbrev s_entry_of : Stmt := top 3
abbrev N_entry_of : List Str := ["order"]
theorem sc_entry_of : FnScope N_entry_of ["order"] (defScope s_entry_of) := ⟨rfl, rfl, rfl, by decide +kernel, rfl, by decide +kernel, by decide +kernel⟩
abbrev s_entry_tick : Stmt := top 5
abbrev N_entry_tick : List Str := ["facts", "seat", "tick", "order"]
theorem sc_entry_tick : FnScope N_entry_tick ["facts", "seat"] (defScope s_entry_tick) := ⟨rfl, rfl, rfl, by decide +kernel, rfl, by decide +kernel, by decide +kernel⟩
abbrev s_is_present : Stmt := top 6
abbrev N_is_present : List Str := ["facts", "seat", "tick", "entry"]
theorem sc_is_present : FnScope N_is_present ["facts", "seat", "tick"] (defScope s_is_present) := ⟨rfl, rfl, rfl, by decide +kernel, rfl, by decide +kernel, by decide +kernel⟩
abbrev s_speaker_at : Stmt := top 7
abbrev N_speaker_at : List Str := ["facts", "tick", "seat"]
theorem sc_speaker_at : FnScope N_speaker_at ["facts", "tick"] (defScope s_speaker_at) := ⟨rfl, rfl, rfl, by decide +kernel, rfl, by decide +kernel, by decide +kernel⟩
abbrev s_taken_hold : Stmt := top 10
abbrev N_taken_hold : List Str := ["facts", "tick", "force", "entered", "left", "start", "order"]
theorem sc_taken_hold : FnScope N_taken_hold ["facts", "tick"] (defScope s_taken_hold) := ⟨rfl, rfl, rfl, by decide +kernel, rfl, by decide +kernel, by decide +kernel⟩
abbrev s_order_of : Stmt := top 2
abbrev N_order_of : List Str := ["word", "many"]
theorem sc_order_of : FnScope N_order_of ["word", "many"] (defScope s_order_of) := ⟨rfl, rfl, rfl, by decide +kernel, rfl, by decide +kernel, by decide +kernel⟩
abbrev s_does_count : Stmt := top 8
abbrev N_does_count : List Str := ["facts", "order", "patches", "seat"]
theorem sc_does_count : FnScope N_does_count ["facts", "order", "patches"] (defScope s_does_count) := ⟨rfl, rfl, rfl, by decide +kernel, rfl, by decide +kernel, by decide +kernel⟩
abbrev s_settled_facts : Stmt := top 11
abbrev N_settled_facts : List Str := ["facts", "words", "gone", "patches", "hold", "many", "now", "tick", "speaker", "pending", "order", "noted"]
theorem sc_settled_facts : FnScope N_settled_facts ["facts", "words", "gone", "patches", "hold", "many"] (defScope s_settled_facts) := ⟨rfl, rfl, rfl, by decide +kernel, rfl, by decide +kernel, by decide +kernel⟩
abbrev s__law_is_told : Stmt := top 26
abbrev N__law_is_told : List Str := ["row", "patches", "holding", "many", "before", "words", "lacking", "after", "told"]
theorem sc__law_is_told : FnScope N__law_is_told ["row", "patches", "holding", "many"] (defScope s__law_is_told) := ⟨rfl, rfl, rfl, by decide +kernel, rfl, by decide +kernel, by decide +kernel⟩
abbrev s__law_begun : Stmt := top 20
abbrev N__law_begun : List Str := ["d", "seats", "begin", "seat", "sure"]
theorem sc__law_begun : FnScope N__law_begun ["d", "seats"] (defScope s__law_begun) := ⟨rfl, rfl, rfl, by decide +kernel, rfl, by decide +kernel, by decide +kernel⟩
abbrev s__law_force : Stmt := top 19
abbrev N__law_force : List Str := ["forces", "tick", "force", "start", "order"]
theorem sc__law_force : FnScope N__law_force ["forces", "tick"] (defScope s__law_force) := ⟨rfl, rfl, rfl, by decide +kernel, rfl, by decide +kernel, by decide +kernel⟩
abbrev s__law_behind : Stmt := top 22
abbrev N__law_behind : List Str := ["past", "holding", "tick", "entered", "one", "gone", "pending", "row", "seat", "start"]
theorem sc__law_behind : FnScope N__law_behind ["past", "holding", "tick"] (defScope s__law_behind) := ⟨rfl, rfl, rfl, by decide +kernel, rfl, by decide +kernel, by decide +kernel⟩
abbrev s__law_present : Stmt := top 16
abbrev N__law_present : List Str := ["entered", "gone", "tick", "found", "seat"]
theorem sc__law_present : FnScope N__law_present ["entered", "gone", "tick"] (defScope s__law_present) := ⟨rfl, rfl, rfl, by decide +kernel, rfl, by decide +kernel, by decide +kernel⟩
abbrev s__law_any_word : Stmt := top 23
abbrev N__law_any_word : List Str := ["d", "seats", "many", "wish"]
theorem sc__law_any_word : FnScope N__law_any_word ["d", "seats", "many"] (defScope s__law_any_word) := ⟨rfl, rfl, rfl, by decide +kernel, rfl, by decide +kernel, by decide +kernel⟩
abbrev s__law_next_words : Stmt := top 24
abbrev N__law_next_words : List Str := ["d", "past", "tick", "many", "rate", "words", "one", "lacking", "seat"]
theorem sc__law_next_words : FnScope N__law_next_words ["d", "past", "tick", "many", "rate"] (defScope s__law_next_words) := ⟨rfl, rfl, rfl, by decide +kernel, rfl, by decide +kernel, by decide +kernel⟩
abbrev s__law_order_counts : Stmt := top 17
abbrev N__law_order_counts : List Str := ["order", "patches", "entered"]
theorem sc__law_order_counts : FnScope N__law_order_counts ["order", "patches", "entered"] (defScope s__law_order_counts) := ⟨rfl, rfl, rfl, by decide +kernel, rfl, by decide +kernel, by decide +kernel⟩
abbrev s__law_take_order : Stmt := top 18
abbrev N__law_take_order : List Str := ["word", "many", "patches", "hold", "tick", "entered", "forces", "order"]
theorem sc__law_take_order : FnScope N__law_take_order ["word", "many", "patches", "hold", "tick", "entered", "forces"] (defScope s__law_take_order) := ⟨rfl, rfl, rfl, by decide +kernel, rfl, by decide +kernel, by decide +kernel⟩
abbrev s__law_go_on : Stmt := top 25
abbrev N__law_go_on : List Str := ["past", "tick", "words", "lacking", "patches", "holding", "many", "gone", "seat", "present"]
theorem sc__law_go_on : FnScope N__law_go_on ["past", "tick", "words", "lacking", "patches", "holding", "many"] (defScope s__law_go_on) := ⟨rfl, rfl, rfl, by decide +kernel, rfl, by decide +kernel, by decide +kernel⟩
abbrev s_law : Stmt := top 27
abbrev N_law : List Str := ["script", "d", "seats", "many", "patches", "holding", "rate", "past", "rows", "tick", "before", "words", "lacking", "row"]
theorem sc_law : FnScope N_law ["script"] (defScope s_law) := ⟨rfl, rfl, rfl, by decide +kernel, rfl, by decide +kernel, by decide +kernel⟩
/-- what the text's top has: built-ins that are still so, constants -/
structure Txt (mg : Str → Option Value) : Prop where
  b_int : mg "int" = none
  b_len : mg "len" = none
  b_abs : mg "abs" = none
  b_tuple : mg "tuple" = none
  b_range : mg "range" = none
  b_list : mg "list" = none
  b_repr : mg "repr" = none
  b_sorted : mg "sorted" = none
  c_FIRST_ENTRY : Cn mg "FIRST_ENTRY" (.int 4)
/-! ### the draws -/
/-- a row of draws stands at p, its cells at a -/
def DrawAt (H : Hp) (p a : Addr) : Prop := ∃ (ns : List Int) (pos pend seed : Int), H p = some (.lst [.ref a, .int pos, .int pend, .int seed]) ∧ H a = some (.lst (ns.map V.int)) ∧ a ≠ p ∧ 0 ≤ pos
theorem DrawAt.same {H H' : Hp} {p a : Addr} (d : DrawAt H p a) (s : Same H H') : DrawAt H' p a := by
  obtain ⟨ns, pos, pend, seed, h1, h2, h3, h4⟩ := d
  exact ⟨ns, pos, pend, seed, s _ _ h1, s _ _ h2, h3, h4⟩
/-- behind draws: the row stands, all else is as it was -/
structure Drew (p a : Addr) (H H' : Hp) : Prop where
  at_ : DrawAt H' p a
  kp : Kp p H H'
theorem Drew.trans {p a : Addr} {H H1 H2 : Hp} (x : Drew p a H H1) (y : Drew p a H1 H2) : Drew p a H H2 := ⟨y.at_, x.kp.trans y.kp⟩
theorem Drew.new {p a q : Addr} {H H1 : Hp} {o : HO} (x : Drew p a H H1) (h : H1 q = none) : Drew p a H (upd H1 q o) := ⟨x.at_.same (same_new h), x.kp.trans (.of (same_new h))⟩
theorem Drew.same {p a : Addr} {H H1 H2 : Hp} (x : Drew p a H H1) (s : Same H1 H2) : Drew p a H H2 := ⟨x.at_.same s, x.kp.trans (.of s)⟩
theorem DrawAt.drew {p a : Addr} {H : Hp} (d : DrawAt H p a) : Drew p a H H := ⟨d, Kp.refl⟩
theorem DrawAt.some {H : Hp} {p a : Addr} (d : DrawAt H p a) : ∃ xs, H p = some (.lst xs) := by
  obtain ⟨ns, pos, pend, seed, h1, _⟩ := d
  exact ⟨_, h1⟩
theorem DrawAt.ne_none {H : Hp} {p a q : Addr} (d : DrawAt H p a) (h : H q = none) : q ≠ p := by
  obtain ⟨xs, e⟩ := d.some
  exact (ne_of_none e h).symm
theorem DrawAt.ne_noneA {H : Hp} {p a q : Addr} (d : DrawAt H p a) (h : H q = none) : q ≠ a := by
  obtain ⟨ns, pos, pend, seed, _, h1, _⟩ := d
  exact (ne_of_none h1 h).symm
theorem Drew.free {p a q : Addr} {H H' : Hp} (w : Drew p a H H') (h : H' q = none) : H q = none := by
  cases e : H q with
  | none => rfl
  | some o =>
    by_cases hq : q = p
    · obtain ⟨xs, e'⟩ := w.at_.some
      rw [hq, e'] at h; cases h
    · rw [w.kp _ _ e hq] at h; cases h
/-- a thing of our own, made behind H, is written -/
theorem Drew.put {p a q : Addr} {H H1 : Hp} {o : HO} (x : Drew p a H H1) (d : DrawAt H p a) (h : H q = none) : Drew p a H (upd H1 q o) := by
  have n1 := d.ne_none h
  have n2 := d.ne_noneA h
  obtain ⟨ns, pos, pend, seed, h1, h2, h3, h4⟩ := x.at_
  refine ⟨⟨ns, pos, pend, seed, by rw [upd_ne n1.symm]; exact h1, by rw [upd_ne n2.symm]; exact h2, h3, h4⟩, fun b u hb hne => ?_⟩
  rw [upd_ne (ne_of_none hb h)]
  exact x.kp _ _ hb hne
theorem Drew.tps {p a : Addr} {H H' : Hp} (w : Drew p a H H') (d : DrawAt H p a) : Tps H H' := by
  obtain ⟨xs, e⟩ := d.some
  exact w.kp.tps e
def sp__law_begin (K : PySem.W.Frag) : Sp := fun vs H Q _ => ∃ (a : Addr) (ns : List Int), vs = [.ref a] ∧ SqL K H a (ns.map V.int) ∧ ns.length ≤ 63 ∧
  ∀ (p c : Addr) (H' : Hp), Same H H' → H p = none → H c = none → DrawAt H' p c → Q (.ref p) H'
theorem ok__law_begin {P : Program} {w : World} {K : PySem.W.Frag} {mg : Str → Option Value} {base : Heap} {f : Addr} {fd : FuncData} (F : Df K mg "_law_begin" s__law_begin f fd ["script"]) (T : Txt mg) : FnOk P w K mg base CX0 1 f fd ["script"] (sp__law_begin K) := by
  refine F.ok sc__law_begin (fun vs H Q E h => ?_) (fun cdv A outer s H vs Q E hr h => ?_)
  · obtain ⟨a, ns, rfl, _⟩ := h
    rfl
  · obtain ⟨a, ns, rfl, hS, hl, k⟩ := h
    refine ⟨_, (pss_one (ps_ret (pe_lst (pa_cons (pe_lc (own := [("cell", 1)]) (g := gName 1) (tt := tYes) rfl sc__law_begin.nd (pi_list (pv 0)) (blkOk_by (own := [("cell", 1)]) (N := N__law_begin) (sc := defScope s__law_begin) (by decide +kernel)) (fun _ _ _ _ _ => (pg_name (i := 1) sc__law_begin.nd rfl (Or.inl rfl))) (fun _ _ _ _ _ => pts_nil) (fun _ _ _ _ _ => (pe_callTy (T := "int") c_int (by rfl) T.b_int (by decide +kernel) (pa_cons (pv 1) pa_nil)))) (pa_cons pe_int (pa_cons pe_int (pa_cons pe_int pa_nil))))))), ?_⟩
    try dsimp only [cxOf, Cx.nox, Cx.wish]
    refine st_of (σ' := [some _, none]) rfl ?_
    wtm_at "jw"
    intro D hD
    refine l_list (xs := ns.map V.int) (fun i H1 => Same H H1 ∧ H1 D = some (.lst ((ns.take i).map V.int))) ⟨same_new hD, upd_same⟩ (fun i H1 _ h => h.1.seq hS) (fun i x H1 hi h => ?_) (fun H1 h => ?_)
    · obtain ⟨s1, h1⟩ := h
      rw [List.getElem?_map] at hi
      cases e : ns[i]? with
      | none => rw [e] at hi; cases hi
      | some z =>
        rw [e] at hi
        cases hi
        have hlt : i < ns.length := (List.getElem?_eq_some_iff.mp e).1
        wtm_at "jw"
        refine ⟨rfl, ?_⟩
        wtm_at "jw"
        refine ⟨_, h1, small1000 (by rw [List.length_map, List.length_take]; omega), ?_, ?_⟩
        · intro b o hb
          have hne : b ≠ D := ne_of_none hb hD
          rw [upd_ne hne]
          exact s1 _ _ hb
        · rw [upd_same, List.take_add_one, e, List.map_append]
          rfl
    · obtain ⟨s1, h1⟩ := h
      rw [List.length_map, List.take_length] at h1
      wtm_at "jw"
      intro p hp
      have hne : D ≠ p := ne_of_none h1 hp
      refine k p D _ (fun b o hb => ?_) (s1.free hp) hD ⟨ns, 0, 0, 11, upd_same, by rw [upd_ne hne]; exact h1, hne, by decide⟩
      rw [upd_ne (ne_of_none (s1 _ _ hb) hp)]
      exact s1 _ _ hb
def sp__law_draw (K : PySem.W.Frag) : Sp := fun vs H Q _ => ∃ (p a : Addr) (many : Int), vs = [.ref p, .int many] ∧ DrawAt H p a ∧ 0 < many ∧ many < 18446744073709551616 ∧
  ∀ (r : Int) (H' : Hp), 0 ≤ r → r < many → Drew p a H H' → Q (.int r) H'
theorem ok__law_draw {P : Program} {w : World} {K : PySem.W.Frag} {mg : Str → Option Value} {base : Heap} {f : Addr} {fd : FuncData} (F : Df K mg "_law_draw" s__law_draw f fd ["d", "many"]) (T : Txt mg) : FnOk P w K mg base CX0 1 f fd ["d", "many"] (sp__law_draw K) := by
  refine F.ok sc__law_draw (fun vs H Q E h => ?_) (fun cdv A outer s H vs Q E hr h => ?_)
  · obtain ⟨p, a, m, rfl, _⟩ := h
    rfl
  · obtain ⟨p, a, m, rfl, ⟨ns, pos, pend, seed, hp, ha, nap, h0⟩, hm0, hm1, k⟩ := h
    have fin : ∀ (z : Int) (pos' pend' seed' : Int) (H' : Hp), 0 ≤ pos' → H' p = some (.lst [.ref a, .int pos', .int pend', .int seed']) → Kp p H H' → Q (.int (z % m)) H' := fun z pos' pend' seed' H' hp' h1 h2 =>
      k _ _ (Int.emod_nonneg _ (by omega)) (Int.emod_lt_of_pos _ hm0) ⟨⟨ns, pos', pend', seed', h1, h2 _ _ ha nap, nap, hp'⟩, h2⟩
    refine ⟨_, (pss_cons (ps_if (pt_cmpR op_gt (pe_ix (r := rIxL K) ix_list (pv 0) pe_int (fun _ _ => rfl)) pe_int (nomark _)) (pss_cons (ps_set (i := 2) sc__law_draw.nd rfl (Or.inl rfl) (pe_ix (r := rIxL K) ix_list (pv 0) pe_int (fun _ _ => rfl)))
      (pss_cons (ps_asg (pe_op op_fdivW (pv 2) (pv 1)) (pg_sub (pv 0) pe_int set_list))
      (pss_one (ps_ret (pe_op op_mod (pe_callTy (T := "int") c_int (by rfl) T.b_int (by decide +kernel) (pa_cons (pv 2) pa_nil)) (pv 1)))))) pss_nil)
      (pss_cons (ps_set (i := 3) sc__law_draw.nd rfl (Or.inl rfl) pe_int)
      (pss_cons (ps_if (pt_cmpR op_lt (pe_ix (r := rIxL K) ix_list (pv 0) pe_int (fun _ _ => rfl)) (pe_callB (id := "len") (r := qLen K) c_len (by rfl) T.b_len (by decide +kernel) (pa_cons (pe_ix (r := rIxL K) ix_list (pv 0) pe_int (fun _ _ => rfl)) pa_nil)) (nomark _)) (pss_cons (ps_set (i := 4) sc__law_draw.nd rfl (Or.inl rfl) (pe_ix (r := rIx K) ix_seq (pe_ix (r := rIxL K) ix_list (pv 0) pe_int (fun _ _ => rfl)) (pe_ix (r := rIxL K) ix_list (pv 0) pe_int (fun _ _ => rfl)) (fun _ _ => rfl)))
      (pss_one (ps_set (i := 3) sc__law_draw.nd rfl (Or.inl rfl) (pe_op op_add (pe_op op_mul pe_int (pe_callB (id := "abs") c_abs (by rfl) T.b_abs (by decide +kernel) (pa_cons (pv 4) pa_nil))) (pe_callTy (T := "int") c_int (by rfl) T.b_int (by decide +kernel) (pa_cons (pe_cmpR op_lt (pv 4) pe_int (nomark _)) pa_nil)))))) pss_nil)
      (pss_cons (ps_augS (pv 0) pe_int get_list pe_int iop_add set_list)
      (pss_cons (ps_if (pt_cmpR op_ge (pv 3) (pe_op op_mul pe_int (pe_op op_pow pe_int pe_int)) (nomark _)) (pss_cons (ps_set (i := 2) sc__law_draw.nd rfl (Or.inl rfl) (pe_op op_mod (pe_callTy (T := "int") c_int (by rfl) T.b_int (by decide +kernel) (pa_cons (pe_op op_fdiv (pv 3) pe_int) pa_nil)) (pe_op op_shl pe_int pe_int)))
      (pss_cons (ps_asg (pe_op op_fdivW (pv 2) (pv 1)) (pg_sub (pv 0) pe_int set_list))
      (pss_one (ps_ret (pe_op op_mod (pe_callTy (T := "int") c_int (by rfl) T.b_int (by decide +kernel) (pa_cons (pv 2) pa_nil)) (pv 1)))))) pss_nil)
      (pss_cons (ps_asg (pe_op op_mod (pe_callTy (T := "int") c_int (by rfl) T.b_int (by decide +kernel) (pa_cons (pe_op op_add (pe_op op_add (pe_op op_add (pe_op op_mul (pe_ix (r := rIxL K) ix_list (pv 0) pe_int (fun _ _ => rfl)) pe_int) (pe_op op_mul (pe_op op_mod (pe_callTy (T := "int") c_int (by rfl) T.b_int (by decide +kernel) (pa_cons (pv 3) pa_nil)) pe_int) pe_int)) (pe_op op_mul (pe_ix (r := rIxL K) ix_list (pv 0) pe_int (fun _ _ => rfl)) pe_int)) pe_int) pa_nil)) pe_int) (pg_sub (pv 0) pe_int set_list))
      (pss_one (ps_ret (pe_op op_mod (pe_callTy (T := "int") c_int (by rfl) T.b_int (by decide +kernel) (pa_cons (pe_op op_fdiv (pe_ix (r := rIxL K) ix_list (pv 0) pe_int (fun _ _ => rfl)) pe_int) pa_nil)) (pv 1)))))))))), ?_⟩
    try dsimp only [cxOf, Cx.nox, Cx.wish]
    refine st_of (σ' := [some _, some _, none, none, none]) rfl ?_
    wtm_at "jw"
    refine c_dec (fun h => ?_) (fun h => ?_)
    · wtm_at "jw"
      exact fin _ _ _ _ _ h0 upd_same Kp.upd
    · wtm_at "jw"
      refine c_dec (fun h1 => ?_) (fun h1 => ?_)
      · obtain ⟨c, hc⟩ : ∃ c : Int, atI (ns.map V.int) pos = some (.int c) := by
          obtain ⟨v, e, hv, _⟩ := at_lt (xs := ns.map V.int) h0 h1
          obtain ⟨z, _, rfl⟩ := List.mem_map.mp hv
          exact ⟨z, e⟩
        wtm_at "jw"
        refine c_dec (fun h2 => ?_) (fun h2 => ?_)
        · wtm_at "jw"
          exact fin _ (pos + 1) _ _ _ (by omega) upd_same (Kp.upd.trans Kp.upd)
        · wtm_at "jw"
          exact fin _ (pos + 1) _ _ _ (by omega) upd_same (Kp.upd.trans Kp.upd)
      · wtm_at "jw"
        refine c_dec (fun h2 => ?_) (fun h2 => ?_)
        · wtm_at "jw"
          exact fin _ (pos + 1) _ _ _ (by omega) upd_same (Kp.upd.trans Kp.upd)
        · wtm_at "jw"
          exact fin _ (pos + 1) _ _ _ (by omega) upd_same (Kp.upd.trans Kp.upd)

def sp__law_pick (K : PySem.W.Frag) : Sp := fun vs H Q _ => ∃ (p a b : Addr) (xs : List V), vs = [.ref p, .ref b] ∧ DrawAt H p a ∧ ((b ≠ p ∧ SqL K H b xs) ∨ SqT K H b xs) ∧ 0 < xs.length ∧ xs.length < 1073741824 ∧
  ∀ (x : V) (H' : Hp), x ∈ xs → Drew p a H H' → Q x H'
theorem ok__law_pick {P : Program} {w : World} {K : PySem.W.Frag} {mg : Str → Option Value} {base : Heap} {f : Addr} {fd : FuncData} (F : Df K mg "_law_pick" s__law_pick f fd ["d", "row"]) (T : Txt mg)
    (c__law_draw : Cl P w K mg base 1 "_law_draw" (sp__law_draw K)) : FnOk P w K mg base CX0 2 f fd ["d", "row"] (sp__law_pick K) := by
  refine F.ok sc__law_pick (fun vs H Q E h => ?_) (fun cdv A outer s H vs Q E hr h => ?_)
  · obtain ⟨p, a, b, xs, rfl, _⟩ := h
    rfl
  · obtain ⟨p, a, b, xs, rfl, hd, hb, hl0, hl1, k⟩ := h
    refine ⟨_, (pss_one (ps_ret (pe_ix (r := rIx K) ix_seq (pv 1) (pe_cl c__law_draw hr (by decide) rfl (pa_cons (pv 0) (pa_cons (pe_callB (id := "len") (r := qLen K) c_len (by rfl) T.b_len (by decide +kernel) (pa_cons (pv 1) pa_nil)) pa_nil))) (fun _ _ => rfl)))), ?_⟩
    try dsimp only [cxOf, Cx.nox, Cx.wish]
    refine st_of (σ' := [some _, some _]) rfl ?_
    rcases hb with ⟨nb, hb⟩ | hb
    all_goals
      wtm_at "jw"
      refine ⟨p, a, _, rfl, hd, by omega, by omega, fun r H' hr0 hr1 w => ?_⟩
      obtain ⟨v, e, hv, _⟩ := at_lt hr0 hr1
    · have hb' := w.kp.seq hb nb
      wtm_at "jw"
      exact k _ _ hv w
    · have hb' := (w.tps hd).sq hb
      wtm_at "jw"
      exact k _ _ hv w

/-! ### pairs of ints, tuples of them -/
/-- the pairs of rows stand at rs -/
def Prw (H : Hp) (rs : List Addr) (rows : List (Int × Int)) : Prop := rs.length = rows.length ∧ ∀ (i : Nat) (r : Addr) (p : Int × Int), rs[i]? = some r → rows[i]? = some p → H r = some (.tup [.int p.1, .int p.2])
/-- a tuple of pairs -/
def Prs (H : Hp) (a : Addr) (rows : List (Int × Int)) : Prop := ∃ rs : List Addr, H a = some (.tup (rs.map V.ref)) ∧ Prw H rs rows
/-- a list of pairs -/
def LPr (H : Hp) (a : Addr) (rows : List (Int × Int)) : Prop := ∃ rs : List Addr, H a = some (.lst (rs.map V.ref)) ∧ Prw H rs rows
theorem Prw.nil {H : Hp} : Prw H [] [] := ⟨rfl, fun i r p h => by simp at h⟩
theorem Prw.tps {H H' : Hp} {rs : List Addr} {rows : List (Int × Int)} (w : Prw H rs rows) (t : Tps H H') : Prw H' rs rows := ⟨w.1, fun i r p h1 h2 => (t r).1 _ (w.2 i r p h1 h2)⟩
theorem Prw.same {H H' : Hp} {rs : List Addr} {rows : List (Int × Int)} (w : Prw H rs rows) (s : Same H H') : Prw H' rs rows := w.tps (Tps.of s)
theorem Prw.snoc {H : Hp} {rs : List Addr} {rows : List (Int × Int)} {q : Addr} {x y : Int} (w : Prw H rs rows) (h : H q = some (.tup [.int x, .int y])) : Prw H (rs ++ [q]) (rows ++ [(x, y)]) := by
  refine ⟨by simp [w.1], fun i r p h1 h2 => ?_⟩
  have hl := w.1
  by_cases hi : i < rs.length
  · rw [List.getElem?_append_left hi] at h1
    rw [List.getElem?_append_left (by omega)] at h2
    exact w.2 i r p h1 h2
  · rw [List.getElem?_append_right (by omega)] at h1
    rw [List.getElem?_append_right (by omega)] at h2
    rw [hl] at h1
    cases e : i - rows.length with
    | zero =>
      rw [e] at h1 h2
      cases h1
      cases h2
      exact h
    | succ n =>
      rw [e] at h1
      cases h1
theorem Prs.tps {H H' : Hp} {a : Addr} {rows : List (Int × Int)} (h : Prs H a rows) (t : Tps H H') : Prs H' a rows := by
  obtain ⟨rs, ha, w⟩ := h
  exact ⟨rs, (t a).1 _ ha, w.tps t⟩
theorem Prs.same {H H' : Hp} {a : Addr} {rows : List (Int × Int)} (h : Prs H a rows) (s : Same H H') : Prs H' a rows := h.tps (Tps.of s)
theorem LPr.same {H H' : Hp} {a : Addr} {rows : List (Int × Int)} (h : LPr H a rows) (s : Same H H') : LPr H' a rows := by
  obtain ⟨rs, ha, w⟩ := h
  exact ⟨rs, s _ _ ha, w.same s⟩
theorem LPr.kp {H H' : Hp} {p a : Addr} {xs : List V} {rows : List (Int × Int)} (h : LPr H a rows) (k : Kp p H H') (hp : H p = some (.lst xs)) (n : a ≠ p) : LPr H' a rows := by
  obtain ⟨rs, ha, w⟩ := h
  exact ⟨rs, k _ _ ha n, w.tps (k.tps hp)⟩
theorem Prw.put {H : Hp} {D : Addr} {rs : List Addr} {xs ys : List V} {rows : List (Int × Int)} (w : Prw H rs rows) (h : H D = some (.lst xs)) : Prw (upd H D (.lst ys)) rs rows := by
  refine ⟨w.1, fun i r p h1 h2 => ?_⟩
  have hr := w.2 i r p h1 h2
  rw [upd_ne (ne_of hr h (by intro z; cases z))]
  exact hr
/-- a new pair behind the others -/
theorem LPr.add {H : Hp} {D q : Addr} {rs : List Addr} {rows : List (Int × Int)} {x y : Int} (h : H D = some (.lst (rs.map V.ref))) (w : Prw H rs rows) (hq : H q = none) :
    LPr (upd (upd H q (.tup [.int x, .int y])) D (.lst (rs.map V.ref ++ [.ref q]))) D (rows ++ [(x, y)]) := by
  have hD : upd H q (.tup [.int x, .int y]) D = some (.lst (rs.map V.ref)) := by rw [upd_ne (ne_of_none h hq)]; exact h
  refine ⟨rs ++ [q], by rw [upd_same, List.map_append]; rfl, Prw.put (xs := rs.map V.ref) ((w.same (same_new hq)).snoc upd_same) hD⟩
/-- a pair that stands already -/
theorem LPr.add' {H : Hp} {D q : Addr} {rs : List Addr} {rows : List (Int × Int)} {x y : Int} (h : H D = some (.lst (rs.map V.ref))) (w : Prw H rs rows) (hq : H q = some (.tup [.int x, .int y])) :
    LPr (upd H D (.lst (rs.map V.ref ++ [.ref q]))) D (rows ++ [(x, y)]) :=
  ⟨rs ++ [q], by rw [upd_same, List.map_append]; rfl, (w.snoc hq).put h⟩
theorem Prw.at {H : Hp} {rs : List Addr} {rows : List (Int × Int)} {i : Nat} {v : V} (w : Prw H rs rows) (h : (rs.map V.ref)[i]? = some v) : ∃ r p, v = .ref r ∧ rs[i]? = some r ∧ rows[i]? = some p ∧ H r = some (.tup [.int p.1, .int p.2]) ∧ rows.take (i + 1) = rows.take i ++ [p] ∧ i < rows.length := by
  rw [List.getElem?_map] at h
  cases e : rs[i]? with
  | none => rw [e] at h; cases h
  | some r =>
    rw [e] at h
    have hi := (List.getElem?_eq_some_iff.mp e).1
    have hl := w.1
    have e2 : rows[i]? = some (rows[i]'(by omega)) := List.getElem?_eq_getElem (by omega)
    exact ⟨r, _, (Option.some.inj h).symm, rfl, e2, w.2 i r _ e e2, by rw [List.take_add_one, e2]; rfl, by omega⟩
def prD (p : Int × Int) : PyData := .tuple [.int p.1, .int p.2]
theorem dp_prs {K : PySem.W.Frag} {H : Hp} {a : Addr} {rows : List (Int × Int)} (h : Prs H a rows) : Dp K H (.ref a) (.tuple (rows.map prD)) := by
  obtain ⟨rs, ha, w⟩ := h
  refine .tup (SqT.of ha) (dpAll_of (by simp [w.1]) fun i x d h1 h2 => ?_)
  obtain ⟨r, p, rfl, e1, e2, hr, _⟩ := w.at h1
  rw [List.getElem?_map, e2] at h2
  cases h2
  exact dp_ints (ns := [p.1, p.2]) (SqT.of hr)
theorem shp_prs (rows : List (Int × Int)) : Shp 2 (.tuple (rows.map prD)) :=
  Shp.tup fun d hd => by
    obtain ⟨p, _, rfl⟩ := List.mem_map.mp hd
    exact Shp.tup fun e he => by
      rcases List.mem_cons.mp he with rfl | he
      · exact (Shp.int _)
      · rcases List.mem_cons.mp he with rfl | he
        · exact (Shp.int _)
        · cases he
theorem shp_ints (ns : List Int) : Shp 1 (.tuple (ns.map PyData.int)) :=
  Shp.tup fun d hd => by
    obtain ⟨p, _, rfl⟩ := List.mem_map.mp hd
    exact Shp.int _
theorem put_same {H H' : Hp} {D : Addr} {o : HO} (s : Same H H') (h : H D = none) : Same H (upd H' D o) := fun b u hb => by
  rw [upd_ne (ne_of_none hb h)]
  exact s _ _ hb
theorem tps_put {H : Hp} {D : Addr} {xs ys : List V} (h : H D = some (.lst xs)) : Tps H (upd H D (.lst ys)) := (Kp.upd (p := D)).tps h

/-! ### dicts with int keys -/
section
variable {K : PySem.W.Frag} {σ : L2.St} {H : Hp} {Q : VK}
theorem i_dget {td ty : TE} (h : td σ H fun x H1 => ty σ H1 fun y H2 => ∃ a v, x = .ref a ∧ DGet H2 a y (some v) ∧ Q v H2) : tDGet td ty σ H Q := h
theorem i_dgetI {p : Addr} {i : Int} {v : V} {kvs : List (L2.Key × V)} {R : V → Prop} (h : Rd H p (.dK kvs)) (e : valV kvs (.inl i) = some v) (q : R v) : ∃ a v', V.ref p = .ref a ∧ DGet H a (.int i) (some v') ∧ R v' :=
  ⟨p, v, rfl, .inl ⟨kvs, .inl i, h, rfl, e.symm⟩, q⟩
theorem i_din {td ty : TE} (h : ty σ H fun y H1 => td σ H1 fun x H2 => ∃ a o, x = .ref a ∧ DGet H2 a y o ∧ Q (.bl o.isSome) H2) : tDIn ty td σ H Q := h
theorem i_dinI {p : Addr} {i : Int} {kvs : List (L2.Key × V)} {R : Option V → Prop} (h : Rd H p (.dK kvs)) (q : R (valV kvs (.inl i))) : ∃ a o, V.ref p = .ref a ∧ DGet H a (.int i) o ∧ R o :=
  ⟨p, _, rfl, .inl ⟨kvs, .inl i, h, rfl, rfl⟩, q⟩
theorem i_dput {td ty tv : TE} {nx : L2.St → Hp → Prop} {rt : VK} {bk ct : L2.St → Hp → Prop} (h : tv σ H fun v H1 => td σ H1 fun x H2 => ty σ H2 fun y H3 => ∃ a H4, x = .ref a ∧ DPut H3 a y v H4 ∧ nx σ H4) : sDPut td ty tv ⟨nx, rt, bk, ct⟩ σ H := h
theorem i_dputI {p : Addr} {i : Int} {v : V} {kvs : List (L2.Key × V)} {R : Hp → Prop} (h : H p = some (.dK kvs)) (hl : kvs.length ≤ 10000) (q : R (upd H p (.dK (putK kvs (.inl i) v)))) : ∃ a H4, V.ref p = .ref a ∧ DPut H a (.int i) v H4 ∧ R H4 :=
  ⟨p, _, rfl, .inl ⟨kvs, .inl i, h, rfl, by rw [sizeLine_eq]; omega, rfl⟩, q⟩
theorem i_dnew (q : ∀ p, H p = none → Q (.ref p) (upd H p (.dK []))) : tDNewK σ H Q := q
def rSortDI : List V → Hp → VK → Prop := fun xs H Q => ∃ (a : Addr) (kvs : List (L2.Key × V)) (ks : List Int), xs = [.ref a] ∧ Rd H a (.dK kvs) ∧ kvs.map (·.1) = ks.map Sum.inl ∧ ks.length < 64 ∧ ∀ (ys : List Int) (p : Addr), ys.Perm ks → ys.Pairwise (· ≤ ·) → H p = none → Q (.ref p) (upd H p (.lst (ys.map V.int)))
theorem c_sortDI {X : Cx} (hc : X.calm = true) : CallR X (.builtin "sorted") rSortDI := call_sortedDI hc
end
/-- the dict's entries are the map m of ints -/
def DI (kvs : List (L2.Key × V)) (m : Int → Option Int) : Prop := (∀ i : Int, valV kvs (.inl i) = (m i).map V.int) ∧ ∃ ks : List Int, kvs.map (·.1) = ks.map Sum.inl ∧ ks.Nodup
theorem DI.nil : DI [] fun _ => none := ⟨fun _ => rfl, [], rfl, List.nodup_nil⟩
theorem putK_keys {kvs : List (L2.Key × V)} {k : L2.Key} {v : V} : (putK kvs k v).map (·.1) = if (valV kvs k).isSome = true then kvs.map (·.1) else kvs.map (·.1) ++ [k] := by
  unfold putK
  rw [valV_any]
  by_cases h : (valV kvs k).isSome = true
  · rw [if_pos h, if_pos h, List.map_map]
    refine List.map_congr_left fun p _ => ?_
    show (if p.1 = k then (p.1, v) else p).1 = p.1
    split <;> rfl
  · rw [if_neg h, if_neg h, List.map_append]
    rfl
theorem DI.put {kvs : List (L2.Key × V)} {m : Int → Option Int} {i v : Int} (d : DI kvs m) : DI (putK kvs (.inl i) (.int v)) (fun j => if j = i then some v else m j) := by
  obtain ⟨h, ks, hk, hn⟩ := d
  refine ⟨fun j => ?_, ?_⟩
  · rw [valV_put]
    show _ = Option.map V.int (if j = i then some v else m j)
    by_cases e : j = i
    · subst e
      rw [if_pos rfl, if_pos rfl]
      rfl
    · rw [if_neg (by intro z; exact e (Sum.inl.inj z)), if_neg e]
      exact h j
  · rw [putK_keys]
    by_cases e : (valV kvs (.inl i)).isSome = true
    · rw [if_pos e]
      exact ⟨ks, hk, hn⟩
    · rw [if_neg e, hk]
      refine ⟨ks ++ [i], by rw [List.map_append]; rfl, ?_⟩
      have hni : ¬ i ∈ ks := fun hi => by
        have e1 : valV kvs (.inl i) = none := by
          cases q : valV kvs (.inl i) with
          | none => rfl
          | some z => rw [q] at e; exact absurd rfl e
        refine valV_not e1 ?_
        rw [hk]
        exact List.mem_map.mpr ⟨i, hi, rfl⟩
      exact nd_snoc hn hni
theorem DI.mem {kvs : List (L2.Key × V)} {m : Int → Option Int} {ks : List Int} (d : DI kvs m) (hk : kvs.map (·.1) = ks.map Sum.inl) (i : Int) : i ∈ ks ↔ (m i).isSome = true := by
  have h := d.1 i
  constructor
  · intro hi
    cases e : m i with
    | some z => rfl
    | none =>
      rw [e] at h
      refine absurd ?_ (valV_not h)
      rw [hk]
      exact List.mem_map.mpr ⟨i, hi, rfl⟩
  · intro hi
    obtain ⟨z, hz⟩ := Option.isSome_iff_exists.mp hi
    rw [hz] at h
    have := valV_in h
    rw [hk] at this
    obtain ⟨j, hj, e⟩ := List.mem_map.mp this
    exact Sum.inl.inj e ▸ hj
/-- distinct ints of 0 .. n - 1 are at most n -/
theorem nodup_len : ∀ (n : Nat) (l : List Int), l.Nodup → (∀ x ∈ l, 0 ≤ x ∧ x < n) → l.length ≤ n
  | 0, l, _, h => by
    cases l with
    | nil => exact Nat.le_refl _
    | cons x r => have := h x List.mem_cons_self; omega
  | n + 1, l, hn, h => by
    by_cases hm : (n : Int) ∈ l
    · have e := List.length_erase_of_mem hm
      have := nodup_len n (l.erase (n : Int)) (hn.erase _) fun x hx => by
        have h1 := (List.Nodup.mem_erase_iff hn).mp hx
        have h2 := h x h1.2
        have : x ≠ (n : Int) := h1.1
        omega
      omega
    · have := nodup_len n l hn fun x hx => by
        have h2 := h x hx
        have : x ≠ (n : Int) := fun e => hm (e ▸ hx)
        omega
      omega
theorem DI.len {kvs : List (L2.Key × V)} {m : Int → Option Int} {n : Nat} (d : DI kvs m) (h : ∀ i, (m i).isSome = true → 0 ≤ i ∧ i < n) : kvs.length ≤ n := by
  obtain ⟨ks, hk, hn⟩ := d.2
  have e : kvs.length = ks.length := by
    have := congrArg List.length hk
    rw [List.length_map, List.length_map] at this
    exact this
  rw [e]
  exact nodup_len n ks hn fun x hx => h x ((d.mem hk x).mp hx)
/-- ints in order, all of them distinct -/
theorem lt_of_le_nodup : ∀ {l : List Int}, l.Pairwise (· ≤ ·) → l.Nodup → l.Pairwise (· < ·)
  | [], _, _ => .nil
  | a :: r, h, n => by
    rw [List.pairwise_cons] at h
    rw [List.nodup_cons] at n
    refine List.pairwise_cons.mpr ⟨fun x hx => ?_, lt_of_le_nodup h.2 n.2⟩
    have h1 := h.1 x hx
    have h2 : x ≠ a := fun e => n.1 (e ▸ hx)
    omega
theorem sorted_ext : ∀ {l1 l2 : List Int}, l1.Pairwise (· < ·) → l2.Pairwise (· < ·) → (∀ x, x ∈ l1 ↔ x ∈ l2) → l1 = l2
  | [], [], _, _, _ => rfl
  | [], b :: r, _, _, h => by have := (h b).mpr List.mem_cons_self; cases this
  | a :: r, [], _, _, h => by have := (h a).mp List.mem_cons_self; cases this
  | a :: r, b :: t, h1, h2, h => by
    rw [List.pairwise_cons] at h1 h2
    have ha := (h a).mp List.mem_cons_self
    have hb := (h b).mpr List.mem_cons_self
    have e : a = b := by
      rcases List.mem_cons.mp ha with e | ha
      · exact e
      · rcases List.mem_cons.mp hb with e | hb
        · exact e.symm
        · have := h2.1 a ha
          have := h1.1 b hb
          omega
    subst e
    rw [sorted_ext h1.2 h2.2 fun x => ⟨fun hx => ?_, fun hx => ?_⟩]
    · rcases List.mem_cons.mp ((h x).mp (List.mem_cons_of_mem _ hx)) with e | q
      · have := h1.1 x hx
        omega
      · exact q
    · rcases List.mem_cons.mp ((h x).mpr (List.mem_cons_of_mem _ hx)) with e | q
      · have := h2.1 x hx
        omega
      · exact q
theorem putK_le {kvs : List (L2.Key × V)} {k : L2.Key} {v : V} : (putK kvs k v).length ≤ kvs.length + 1 := by
  have h := congrArg List.length (putK_keys (kvs := kvs) (k := k) (v := v))
  rw [List.length_map] at h
  rw [h]
  split
  · rw [List.length_map]; omega
  · rw [List.length_append, List.length_map]; simp

/-! ### immutable data: None, bools, ints, texts, tuples of them -/
mutual
inductive TD (K : PySem.W.Frag) (H : Hp) : V → PyData → Prop
  | non : TD K H .non .none
  | bl (b : Bool) : TD K H (.bl b) (.bool b)
  | int (i : Int) : TD K H (.int i) (.int i)
  | str (x : Str) : TD K H (.str x) (.str x)
  | tup {a : Addr} {xs : List V} {ds : List PyData} : SqT K H a xs → TDs K H xs ds → TD K H (.ref a) (.tuple ds)
inductive TDs (K : PySem.W.Frag) (H : Hp) : List V → List PyData → Prop
  | nil : TDs K H [] []
  | cons {v : V} {vs : List V} {d : PyData} {ds : List PyData} : TD K H v d → TDs K H vs ds → TDs K H (v :: vs) (d :: ds)
end
def oD : Option Int → PyData
  | none => .none
  | some z => .int z
def ovO : Option Int → V
  | none => .non
  | some z => .int z
def pD (p : Int × Int) : PyData := .tuple [.int p.1, .int p.2]
section
variable {K : PySem.W.Frag} {H H' : Hp}
theorem TD.tps (t : Tps H H') {v : V} {d : PyData} (h : TD K H v d) : TD K H' v d :=
  TD.rec (motive_1 := fun v d _ => TD K H' v d) (motive_2 := fun vs ds _ => TDs K H' vs ds) .non (fun b => .bl b) (fun i => .int i) (fun x => .str x) (fun h _ q => .tup (t.sq h) q) .nil (fun _ _ h1 h2 => .cons h1 h2) h
theorem TDs.tps (t : Tps H H') {vs : List V} {ds : List PyData} (h : TDs K H vs ds) : TDs K H' vs ds :=
  TDs.rec (motive_1 := fun v d _ => TD K H' v d) (motive_2 := fun vs ds _ => TDs K H' vs ds) .non (fun b => .bl b) (fun i => .int i) (fun x => .str x) (fun h _ q => .tup (t.sq h) q) .nil (fun _ _ h1 h2 => .cons h1 h2) h
theorem TD.dp {v : V} {d : PyData} (h : TD K H v d) : Dp K H v d :=
  TD.rec (motive_1 := fun v d _ => Dp K H v d) (motive_2 := fun vs ds _ => DpAll K H vs ds) .non (fun b => .bl b) (fun i => .int i) (fun x => .str x) (fun h _ q => .tup h q) .nil (fun _ _ h1 h2 => .cons h1 h2) h
theorem TDs.dp {vs : List V} {ds : List PyData} (h : TDs K H vs ds) : DpAll K H vs ds :=
  TDs.rec (motive_1 := fun v d _ => Dp K H v d) (motive_2 := fun vs ds _ => DpAll K H vs ds) .non (fun b => .bl b) (fun i => .int i) (fun x => .str x) (fun h _ q => .tup h q) .nil (fun _ _ h1 h2 => .cons h1 h2) h
theorem TD.same (s : Same H H') {v : V} {d : PyData} (h : TD K H v d) : TD K H' v d := h.tps (Tps.of s)
theorem TDs.same (s : Same H H') {vs : List V} {ds : List PyData} (h : TDs K H vs ds) : TDs K H' vs ds := h.tps (Tps.of s)
theorem TDs.len : ∀ {vs : List V} {ds : List PyData}, TDs K H vs ds → vs.length = ds.length
  | [], _, .nil => rfl
  | v :: vs, _, .cons h t => by rw [List.length_cons, List.length_cons, TDs.len t]
theorem TDs.get : ∀ {vs : List V} {ds : List PyData} {i : Nat} {d : PyData}, TDs K H vs ds → ds[i]? = some d → ∃ v, vs[i]? = some v ∧ TD K H v d
  | _, _, _, _, .nil, e => by simp at e
  | _, _, 0, _, .cons (v := v) h t, e => by
    cases e
    exact ⟨v, rfl, h⟩
  | _, _, i + 1, _, .cons h t, e => by
    obtain ⟨v, e2, q⟩ := TDs.get (i := i) t (by simpa using e)
    exact ⟨v, by simpa using e2, q⟩
theorem TDs.at {vs : List V} {ds : List PyData} {i : Nat} {v : V} (h : TDs K H vs ds) (e : vs[i]? = some v) : ∃ d, ds[i]? = some d ∧ TD K H v d ∧ ds.take (i + 1) = ds.take i ++ [d] ∧ i < ds.length := by
  have hi := (List.getElem?_eq_some_iff.mp e).1
  have hl := h.len
  have e2 : ds[i]? = some (ds[i]'(by omega)) := List.getElem?_eq_getElem (by omega)
  obtain ⟨v', e3, q⟩ := h.get e2
  rw [e] at e3
  cases e3
  exact ⟨_, e2, q, by rw [List.take_add_one, e2]; rfl, by omega⟩
theorem TDs.mem {vs : List V} {ds : List PyData} {v : V} (h : TDs K H vs ds) (hv : v ∈ vs) : ∃ d, d ∈ ds ∧ TD K H v d := by
  obtain ⟨i, hi⟩ := List.getElem?_of_mem hv
  obtain ⟨d, e, q, _⟩ := h.at hi
  exact ⟨d, List.mem_of_getElem? e, q⟩
theorem TDs.of : ∀ {vs : List V} {ds : List PyData}, vs.length = ds.length → (∀ (i : Nat) v d, vs[i]? = some v → ds[i]? = some d → TD K H v d) → TDs K H vs ds
  | [], [], _, _ => .nil
  | v :: vs, d :: ds, hl, h => .cons (h 0 v d rfl rfl) (TDs.of (by simpa using hl) fun i y e h1 h2 => h (i + 1) y e (by simpa using h1) (by simpa using h2))
theorem TDs.app : ∀ {vs us : List V} {ds es : List PyData}, TDs K H vs ds → TDs K H us es → TDs K H (vs ++ us) (ds ++ es)
  | _, _, _, _, .nil, h => h
  | _, _, _, _, .cons h t, q => .cons h (TDs.app t q)
theorem TDs.snoc {vs : List V} {ds : List PyData} {v : V} {d : PyData} (h : TDs K H vs ds) (q : TD K H v d) : TDs K H (vs ++ [v]) (ds ++ [d]) := h.app (.cons q .nil)
theorem TDs.map {α : Type} {f : α → V} {g : α → PyData} : ∀ {l : List α}, (∀ x ∈ l, TD K H (f x) (g x)) → TDs K H (l.map f) (l.map g)
  | [], _ => .nil
  | x :: r, h => .cons (h x List.mem_cons_self) (TDs.map fun y hy => h y (List.mem_cons_of_mem _ hy))
theorem TDs.ints (ns : List Int) : TDs K H (ns.map V.int) (ns.map PyData.int) := TDs.map fun x _ => .int x
theorem TD.ovO (o : Option Int) : TD K H (ovO o) (oD o) := by cases o <;> constructor
theorem TDs.ovs (os : List (Option Int)) : TDs K H (os.map Law.ovO) (os.map oD) := TDs.map fun x _ => TD.ovO x
theorem TD.tup_inv {v : V} {ds : List PyData} (h : TD K H v (.tuple ds)) : ∃ a xs, v = .ref a ∧ SqT K H a xs ∧ TDs K H xs ds := by
  cases h with
  | tup a b => exact ⟨_, _, rfl, a, b⟩
theorem TD.int_inv {v : V} {i : Int} (h : TD K H v (.int i)) : v = .int i := by cases h; rfl
theorem TD.non_inv {v : V} (h : TD K H v .none) : v = .non := by cases h; rfl
theorem TD.str_inv {v : V} {i : Str} (h : TD K H v (.str i)) : v = .str i := by cases h; rfl
theorem TD.bl_inv {v : V} {i : Bool} (h : TD K H v (.bool i)) : v = .bl i := by cases h; rfl
theorem TD.ov_inv {v : V} {o : Option Int} (h : TD K H v (oD o)) : v = Law.ovO o := by
  cases o with
  | none => exact h.non_inv
  | some z => exact h.int_inv
theorem TDs.ints_inv : ∀ {ns : List Int} {vs : List V}, TDs K H vs (ns.map PyData.int) → vs = ns.map V.int
  | [], _, h => by cases h; rfl
  | n :: ns, _, h => by
    cases h with
    | cons a b => rw [a.int_inv, TDs.ints_inv b]; rfl
theorem TDs.ovs_inv : ∀ {os : List (Option Int)} {vs : List V}, TDs K H vs (os.map oD) → vs = os.map Law.ovO
  | [], _, h => by cases h; rfl
  | n :: ns, _, h => by
    cases h with
    | cons a b => rw [a.ov_inv, TDs.ovs_inv b]; rfl
theorem TD.pair_inv {v : V} {p : Int × Int} (h : TD K H v (pD p)) : ∃ a, v = .ref a ∧ SqT K H a [.int p.1, .int p.2] := by
  obtain ⟨a, xs, e, s, q⟩ := h.tup_inv
  rw [TDs.ints_inv (ns := [p.1, p.2]) q] at s
  exact ⟨a, e, s⟩
theorem TD.of {a : Addr} {xs : List V} {ds : List PyData} (h : H a = some (.tup xs)) (q : TDs K H xs ds) : TD K H (.ref a) (.tuple ds) := .tup (SqT.of h) q
/-- a new tuple of data -/
theorem TD.new {a : Addr} {xs : List V} {ds : List PyData} (h : H a = none) (q : TDs K H xs ds) : TD K (upd H a (.tup xs)) (.ref a) (.tuple ds) := .of upd_same (q.same (same_new h))
/-- a list of data -/
def LD (K : PySem.W.Frag) (H : Hp) (a : Addr) (ds : List PyData) : Prop := ∃ vs, H a = some (.lst vs) ∧ TDs K H vs ds
theorem LD.same (s : Same H H') {a : Addr} {ds : List PyData} (h : LD K H a ds) : LD K H' a ds := by
  obtain ⟨vs, e, q⟩ := h
  exact ⟨vs, s _ _ e, q.same s⟩
theorem LD.kp {p a : Addr} {xs : List V} {ds : List PyData} (h : LD K H a ds) (k : Kp p H H') (hp : H p = some (.lst xs)) (n : a ≠ p) : LD K H' a ds := by
  obtain ⟨vs, e, q⟩ := h
  exact ⟨vs, k _ _ e n, q.tps (k.tps hp)⟩
theorem LD.put {a : Addr} {xs vs : List V} {ds : List PyData} (h : H a = some (.lst xs)) (q : TDs K H vs ds) : LD K (upd H a (.lst vs)) a ds := ⟨vs, upd_same, q.tps (tps_put h)⟩
theorem LD.new {a : Addr} {vs : List V} {ds : List PyData} (h : H a = none) (q : TDs K H vs ds) : LD K (upd H a (.lst vs)) a ds := ⟨vs, upd_same, q.same (same_new h)⟩
theorem LD.snoc {a : Addr} {vs : List V} {v : V} {d : PyData} {ds : List PyData} (h : H a = some (.lst vs)) (q : TDs K H vs ds) (x : TD K H v d) : LD K (upd H a (.lst (vs ++ [v]))) a (ds ++ [d]) := .put h (q.snoc x)
variable {σ : L2.St} {Q : VK}
theorem i_ixD {p : V} {ds : List PyData} {i : Int} {d : PyData} (h : TD K H p (.tuple ds)) (h0 : 0 ≤ i) (e : ds[i.toNat]? = some d) (q : ∀ y, TD K H y d → Q y H) : rIxT K p (.int i) H Q := by
  obtain ⟨a, xs, rfl, s, t⟩ := h.tup_inv
  obtain ⟨y, ey, hy⟩ := t.get e
  refine ⟨a, xs, i, y, rfl, rfl, s, ?_, q y hy⟩
  have := atI_nat (xs := xs) (j := i.toNat) (v := y) ey
  rw [Int.toNat_of_nonneg h0] at this
  exact this
theorem i_ixDI {p : V} {ds : List PyData} {i j : Int} (h : TD K H p (.tuple ds)) (h0 : 0 ≤ i) (e : ds[i.toNat]? = some (.int j)) (q : Q (.int j) H) : rIxT K p (.int i) H Q :=
  i_ixD h h0 e fun y hy => by rw [hy.int_inv]; exact q
theorem i_ixDO {p : V} {ds : List PyData} {i : Int} {o : Option Int} (h : TD K H p (.tuple ds)) (h0 : 0 ≤ i) (e : ds[i.toNat]? = some (oD o)) (q : Q (ovO o) H) : rIxT K p (.int i) H Q :=
  i_ixD h h0 e fun y hy => by rw [hy.ov_inv]; exact q
theorem i_ixDS {p : V} {ds : List PyData} {i : Int} {j : Str} (h : TD K H p (.tuple ds)) (h0 : 0 ≤ i) (e : ds[i.toNat]? = some (.str j)) (q : Q (.str j) H) : rIxT K p (.int i) H Q :=
  i_ixD h h0 e fun y hy => by rw [hy.str_inv]; exact q
theorem i_lenDt {p : V} {ds : List PyData} (h : TD K H p (.tuple ds)) (q : Q (.int ds.length) H) : qLen K [p] H Q := by
  obtain ⟨a, xs, rfl, s, t⟩ := h.tup_inv
  rw [← t.len] at q
  exact i_lenT s q
theorem i_gTupD {n : Nat} {t : TGs} {v : V} {ds : List PyData} {R : L2.St → Hp → Prop} (h : TD K H v (.tuple ds)) (e : ds.length = n) (q : ∀ xs, TDs K H xs ds → t xs σ H R) : gTup K n t v σ H R := by
  obtain ⟨a, xs, rfl, s, u⟩ := h.tup_inv
  exact i_gTup s (by rw [u.len, e]) (q xs u)
theorem i_gPair {n : Nat} {t : TGs} {v : V} {p : Int × Int} {R : L2.St → Hp → Prop} (h : TD K H v (pD p)) (e : 2 = n) (q : t [.int p.1, .int p.2] σ H R) : gTup K n t v σ H R := by
  obtain ⟨a, rfl, s⟩ := h.pair_inv
  exact i_gTup s e q
theorem i_isTD {v : V} {ds : List PyData} {R : Addr → Prop} (h : TD K H v (.tuple ds)) (q : ∀ a xs, v = .ref a → SqT K H a xs → TDs K H xs ds → R a) : ∃ a', v = .ref a' ∧ (∃ xs, SqT K H a' xs) ∧ R a' := by
  obtain ⟨a, xs, e, s, t⟩ := h.tup_inv
  exact ⟨a, e, ⟨xs, s⟩, q a xs e s t⟩
theorem i_lstTD {v : V} {ds : List PyData} (h : TD K H v (.tuple ds)) (q : ∀ xs l, TDs K H xs ds → H l = none → Q (.ref l) (upd H l (.lst xs))) : rLstOf K [v] H Q := by
  obtain ⟨a, xs, rfl, s, t⟩ := h.tup_inv
  exact i_lstT s fun l hl => q xs l t hl
theorem i_tupTD {v : V} {ds : List PyData} (h : TD K H v (.tuple ds)) (q : Q v H) : rTupOf K [v] H Q := by
  obtain ⟨a, xs, rfl, s, t⟩ := h.tup_inv
  exact i_tupT s q
theorem TDs.pair_at {vs : List V} {ps : List (Int × Int)} {i : Nat} {v : V} (h : TDs K H vs (ps.map pD)) (e : vs[i]? = some v) : ∃ p, ps[i]? = some p ∧ TD K H v (pD p) ∧ ps.take (i + 1) = ps.take i ++ [p] ∧ i < ps.length := by
  obtain ⟨d, e1, t, _, hl⟩ := h.at e
  rw [List.getElem?_map] at e1
  cases e2 : ps[i]? with
  | none => rw [e2] at e1; cases e1
  | some p =>
    rw [e2] at e1
    cases e1
    exact ⟨p, rfl, t, by rw [List.take_add_one, e2]; rfl, (List.getElem?_eq_some_iff.mp e2).1⟩
theorem i_eqNI {j : Int} (q : Q (.bl false) H) : rEq .non (.int j) H Q := ⟨rfl, by
  have e : decide (V.non = V.int j) = false := by simp
  rw [e]; exact q⟩
/-! shapes -/
theorem Shp.str {x : Str} (h : PyData.canLay0 (.str x) = true) : Shp 0 (.str x) := ⟨h, by simp [PyData.depth]⟩
theorem Shp.oD (o : Option Int) : Shp 0 (oD o) := by
  cases o with
  | none => exact Shp.non
  | some z => exact Shp.int z
theorem Shp.ovs (os : List (Option Int)) : Shp 1 (.tuple (os.map Law.oD)) := Shp.tup fun d hd => by
  obtain ⟨x, _, rfl⟩ := List.mem_map.mp hd
  exact Shp.oD x
theorem Shp.pD (p : Int × Int) : Shp 1 (pD p) := Shp.tup fun d hd => by
  rcases List.mem_cons.mp hd with rfl | hd
  · exact Shp.int _
  · rcases List.mem_cons.mp hd with rfl | hd
    · exact Shp.int _
    · cases hd
theorem Shp.prs (ps : List (Int × Int)) : Shp 2 (.tuple (ps.map Law.pD)) := Shp.tup fun d hd => by
  obtain ⟨x, _, rfl⟩ := List.mem_map.mp hd
  exact Shp.pD x
/-! dicts with text keys -/
theorem i_disp {trs : List (TE × TE)} (h : ∀ p, H p = none → tPairs trs σ (upd H p (.dK [])) fun ps H2 => H2 p = some (.dK []) ∧ ∃ kvs : List (L2.Key × V), ps = kvs.map (fun kv => (kV kv.1, kv.2)) ∧ kvs.length ≤ 15 ∧ Q (.ref p) (upd H2 p (.dK (mergeK [] kvs)))) : tDisp trs σ H Q := h
theorem i_pNil {R : List (V × V) → Hp → Prop} (h : R [] H) : tPairs [] σ H R := h
theorem i_pCons {tk tv : TE} {r : List (TE × TE)} {R : List (V × V) → Hp → Prop} (h : tk σ H fun x H1 => tv σ H1 fun y H2 => tPairs r σ H2 fun ps H3 => R ((x, y) :: ps) H3) : tPairs ((tk, tv) :: r) σ H R := h
theorem i_dgetS {p : Addr} {i : Str} {v : V} {kvs : List (L2.Key × V)} {R : V → Prop} (h : Rd H p (.dK kvs)) (e : valV kvs (.inr i) = some v) (q : R v) : ∃ a v', V.ref p = .ref a ∧ DGet H a (.str i) (some v') ∧ R v' :=
  ⟨p, v, rfl, .inl ⟨kvs, .inr i, h, rfl, e.symm⟩, q⟩
end
/- data at the heap of the goal -/
local macro_rules | `(tactic| wtm_at "jtd") => `(tactic| first | assumption | ((with_reducible refine' TD.same (same_new ?hn) ?hh); (case hn => assumption); (case hh => wtm_at "jtd")))
local macro_rules | `(tactic| wtm_at "jw1") => `(tactic| first
  | ((with_reducible refine' i_ixDI ?h ?h0 ?e ?_); (case h => wtm_at "jtd"); (case h0 => wtm_at "jside"); (case e => wtm_at "jat"))
  | ((with_reducible refine' i_ixDO ?h ?h0 ?e ?_); (case h => wtm_at "jtd"); (case h0 => wtm_at "jside"); (case e => wtm_at "jat"))
  | ((with_reducible refine' i_ixDS ?h ?h0 ?e ?_); (case h => wtm_at "jtd"); (case h0 => wtm_at "jside"); (case e => wtm_at "jat"))
  | ((with_reducible refine' i_ix2 (i_ixDI ?h ?h0 ?e ?_)); (case h => wtm_at "jtd"); (case h0 => wtm_at "jside"); (case e => wtm_at "jat"))
  | ((with_reducible refine' i_ix2 (i_ixDO ?h ?h0 ?e ?_)); (case h => wtm_at "jtd"); (case h0 => wtm_at "jside"); (case e => wtm_at "jat"))
  | ((with_reducible refine' i_ixD ?h ?h0 ?e ?_); (case h => wtm_at "jtd"); (case h0 => wtm_at "jside"); (case e => wtm_at "jat"); intro _ _)
  | ((with_reducible refine' i_ix2 (i_ixD ?h ?h0 ?e ?_)); (case h => wtm_at "jtd"); (case h0 => wtm_at "jside"); (case e => wtm_at "jat"); intro _ _)
  | ((with_reducible refine' i_lenDt ?h ?_); (case h => wtm_at "jtd"))
  | with_reducible refine' i_eqNI ?_
  | ((with_reducible refine' i_gPair ?h ?e ?_); (case h => wtm_at "jtd"); (case e => rfl))
  | with_reducible refine' i_pNil ?_ | with_reducible refine' i_pCons ?_)

/-! ### draws and picks, said shortly -/
section
variable {K : PySem.W.Frag} {p a B : Addr} {H0 H : Hp} {Q : VK} {E : XK}
theorem drawL {m : Int} (w : Drew p a H0 H) (h0 : 0 < m) (h1 : m < 18446744073709551616) (q : ∀ z H', 0 ≤ z → z < m → Drew p a H H' → Drew p a H0 H' → Q (.int z) H') : sp__law_draw K [.ref p, .int m] H Q E :=
  ⟨p, a, m, rfl, w.at_, h0, h1, fun z H' z0 z1 e => q z H' z0 z1 e (w.trans e)⟩
theorem pickL {xs : List V} (P : Int → Prop) (ns : List Int) (w : Drew p a H0 H) (hB : H B = none) (e : xs = ns.map V.int) (h0 : 0 < ns.length) (h1 : ns.length < 1000) (hP : ∀ z ∈ ns, P z)
    (q : ∀ z H', P z → Drew p a H H' → Drew p a H0 H' → Q (.int z) H') : sp__law_pick K [.ref p, .ref B] (upd H B (.lst xs)) Q E := by
  subst e
  refine ⟨p, a, B, ns.map V.int, rfl, w.at_.same (same_new hB), .inl ⟨w.at_.ne_none hB, SqL.of upd_same⟩, by rw [List.length_map]; exact h0, by rw [List.length_map]; omega, fun x H' hx e => ?_⟩
  obtain ⟨z, hz, rfl⟩ := List.mem_map.mp hx
  have e1 := (w.at_.drew.new (o := .lst (ns.map V.int)) hB).trans e
  exact q z H' (hP z hz) e1 (w.trans e1)
theorem pickV {xs : List V} (w : Drew p a H0 H) (hB : H B = none) (h0 : 0 < xs.length) (h1 : xs.length < 1000) (q : ∀ x H', x ∈ xs → Drew p a H H' → Drew p a H0 H' → Q x H') : sp__law_pick K [.ref p, .ref B] (upd H B (.lst xs)) Q E := by
  refine ⟨p, a, B, xs, rfl, w.at_.same (same_new hB), .inl ⟨w.at_.ne_none hB, SqL.of upd_same⟩, h0, by omega, fun x H' hx e => ?_⟩
  have e1 := (w.at_.drew.new (o := .lst xs) hB).trans e
  exact q x H' hx e1 (w.trans e1)
/-- a pick out of a list that stands -/
theorem pickS {xs : List V} (w : Drew p a H0 H) (hB : H B = some (.lst xs)) (n : B ≠ p) (h0 : 0 < xs.length) (h1 : xs.length < 1000000) (q : ∀ x H', x ∈ xs → Drew p a H H' → Drew p a H0 H' → Q x H') : sp__law_pick K [.ref p, .ref B] H Q E :=
  ⟨p, a, B, xs, rfl, w.at_, .inl ⟨n, SqL.of hB⟩, h0, by omega, fun x H' hx e => q x H' hx e (w.trans e)⟩
theorem pickT {xs : List V} (w : Drew p a H0 H) (hB : SqT K H B xs) (h0 : 0 < xs.length) (h1 : xs.length < 1000000) (q : ∀ x H', x ∈ xs → Drew p a H H' → Drew p a H0 H' → Q x H') : sp__law_pick K [.ref p, .ref B] H Q E :=
  ⟨p, a, B, xs, rfl, w.at_, .inr hB, h0, by omega, fun x H' hx e => q x H' hx e (w.trans e)⟩
end
theorem all_two {P : Int → Prop} {x y : Int} (h1 : P x) (h2 : P y) : ∀ z ∈ [x, y], P z := by simp; exact ⟨h1, h2⟩

/-! ### the history of entries, orders and gone seats -/
def og (os : List (Option Int)) (i : Nat) : Option Int := (os[i]?).getD none
def here (e g : Option Int) (t : Int) : Bool := match e with
  | none => false
  | some x => decide (x ≤ t) && (match g with | none => true | some y => decide (t < y))
theorem ov_at {os : List (Option Int)} {j : Int} {i : Nat} (hj : j = (i : Int)) (h : i < os.length) : atI (os.map ovO) j = some (ovO (og os i)) := by
  subst hj
  refine atI_nat ?_
  rw [List.getElem?_map, List.getElem?_eq_getElem h]
  unfold og
  rw [List.getElem?_eq_getElem h]
  rfl
theorem od_at {os : List (Option Int)} {i : Nat} (h : i < os.length) : (os.map oD)[i]? = some (oD (og os i)) := by
  rw [List.getElem?_map, List.getElem?_eq_getElem h]
  unfold og
  rw [List.getElem?_eq_getElem h]
  rfl
def presL (en go : List (Option Int)) (t : Int) (n : Nat) : List Nat := (List.range n).filter fun s => here (og en s) (og go s) t
theorem presL_succ (en go : List (Option Int)) (t : Int) (n : Nat) : presL en go t (n + 1) = if here (og en n) (og go n) t = true then presL en go t n ++ [n] else presL en go t n := by
  unfold presL
  rw [List.range_succ, List.filter_append]
  by_cases h : here (og en n) (og go n) t = true
  · rw [if_pos h, List.filter_cons_of_pos (p := fun s => here (og en s) (og go s) t) h]; rfl
  · rw [if_neg h, List.filter_cons_of_neg (p := fun s => here (og en s) (og go s) t) h]; simp
theorem presL_len (en go : List (Option Int)) (t : Int) (n : Nat) : (presL en go t n).length ≤ n := by
  have := List.length_filter_le (fun s => here (og en s) (og go s) t) (List.range n)
  rw [List.length_range] at this
  exact this
def iN (n : Nat) : V := .int (n : Int)
def sp__law_present (K : PySem.W.Frag) : Sp := fun vs H Q _ => ∃ (e g : Addr) (en go : List (Option Int)) (t : Int), vs = [.ref e, .ref g, .int t] ∧ H e = some (.lst (en.map ovO)) ∧ H g = some (.lst (go.map ovO)) ∧ en.length = go.length ∧ en.length ≤ 100 ∧
  ∀ r H', Same H H' → H r = none → H' r = some (.lst ((presL en go t en.length).map iN)) → Q (.ref r) H'
theorem ok__law_present {P : Program} {w : World} {K : PySem.W.Frag} {mg : Str → Option Value} {base : Heap} {f : Addr} {fd : FuncData} (F : Df K mg "_law_present" s__law_present f fd ["entered", "gone", "tick"]) (T : Txt mg) : FnOk P w K mg base CX0 1 f fd ["entered", "gone", "tick"] (sp__law_present K) := by
  refine F.ok sc__law_present (fun vs H Q E h => ?_) (fun cdv A outer s H vs Q E hr h => ?_)
  · obtain ⟨e, g, en, go, t, rfl, _⟩ := h
    rfl
  · obtain ⟨e, g, en, go, t, rfl, he, hg, hl, hn, q⟩ := h
    refine ⟨_, (pss_cons (ps_set (i := 3) sc__law_present.nd rfl (Or.inl rfl) (pe_lst pa_nil))
      (pss_cons (ps_for PassesOwn.never rfl (pi_range1 rfl T.b_range (pa_cons (pe_callB (id := "len") (r := qLen K) c_len (by rfl) T.b_len (by decide +kernel) (pa_cons (pv 0) pa_nil)) pa_nil)) (pg_name (i := 4) sc__law_present.nd rfl (Or.inl rfl)) (pss_one (ps_if (PW.pt (pw_and (pt_cmpR o_notN (pe_ix (r := rIxL K) ix_list (pv 0) (pv 4) (fun _ _ => rfl)) pe_non (nomark _)) (pw_and1 (pt_cmpR op_le (pe_ix (r := rIxL K) ix_list (pv 0) (pv 4) (fun _ _ => rfl)) (pv 2) (nomark _))))) (pss_one (ps_if (PW.pt (pw_or (pt_cmpR o_isN (pe_ix (r := rIxL K) ix_list (pv 1) (pv 4) (fun _ _ => rfl)) pe_non (nomark _)) (pw_or1 (pt_cmpR op_gt (pe_ix (r := rIxL K) ix_list (pv 1) (pv 4) (fun _ _ => rfl)) (pv 2) (nomark _))))) (pss_one (ps_expr (pe_bmK (K := K) rfl PySem.F.plainAttrs_list PySem.F.slot_list_append PySem.F.type_list_append mt_append (pv 3) (pa_cons (pv 4) pa_nil)))) pss_nil)) pss_nil)))
      (pss_one (ps_ret (pv 3))))), ?_⟩
    try dsimp only [cxOf, Cx.nox, Cx.wish]
    refine st_of (σ' := [some _, some _, some _, none, none]) rfl ?_
    wtm_at "jw"
    intro D hD
    have he0 := same_new (o := .lst []) hD _ _ he
    wtm_at "jw"
    refine f_range (fun i σ H' => Same H H' ∧ H' D = some (.lst ((presL en go t i).map iN)) ∧ ∃ v, σ = [some (.ref e), some (.ref g), some (.int t), some (.ref D), v]) ⟨same_new hD, upd_same, none, rfl⟩ (fun i σ H' hi h => ?_) (fun σ H' h => ?_)
    · obtain ⟨s1, hD1, v, rfl⟩ := h
      rw [List.length_map] at hi
      have hi' : i < en.length := by omega
      have he1 := s1 _ _ he
      have hg1 := s1 _ _ hg
      have hsz : ((presL en go t i).map iN).length < sizeLine := small1000 (by have := presL_len en go t i; rw [List.length_map]; omega)
      have ae := ov_at (os := en) (j := 0 + (i : Int)) (i := i) (by omega) hi'
      have ag := ov_at (os := go) (j := 0 + (i : Int)) (i := i) (by omega) (by omega)
      have no : ¬ here (og en i) (og go i) t = true → presL en go t (i + 1) = presL en go t i := fun h => by rw [presL_succ, if_neg h]
      have yes : here (og en i) (og go i) t = true → upd H' D (.lst ((presL en go t i).map iN ++ [.int (0 + (i : Int))])) D = some (.lst ((presL en go t (i + 1)).map iN)) := fun h => by
        rw [upd_same, presL_succ, if_pos h, List.map_append, Int.zero_add]; rfl
      cases e1 : og en i with
      | none =>
        replace ae : atI (en.map ovO) (0 + (i : Int)) = some V.non := by rw [ae, e1]; rfl
        wtm_at "jw"
        refine c_noN rfl ?_
        wtm_at "jw"
        exact ⟨s1, by rw [no (by rw [e1]; simp [here])]; exact hD1, _, rfl⟩
      | some x =>
        replace ae : atI (en.map ovO) (0 + (i : Int)) = some (V.int x) := by rw [ae, e1]; rfl
        wtm_at "jw"
        refine c_yesN (fun h => by cases h) ?_
        wtm_at "jw"
        refine c_dec (fun h1 => ?_) (fun h1 => ?_)
        · cases e2 : og go i with
          | none =>
            replace ag : atI (go.map ovO) (0 + (i : Int)) = some V.non := by rw [ag, e2]; rfl
            wtm_at "jw"
            refine c_yes rfl ?_
            wtm_at "jw"
            exact ⟨put_same s1 hD, yes (by rw [e1, e2]; simp [here, h1]), _, rfl⟩
          | some y =>
            replace ag : atI (go.map ovO) (0 + (i : Int)) = some (V.int y) := by rw [ag, e2]; rfl
            wtm_at "jw"
            refine c_no (fun h => by cases h) ?_
            wtm_at "jw"
            refine c_dec (fun h2 => ?_) (fun h2 => ?_)
            · wtm_at "jw"
              exact ⟨put_same s1 hD, yes (by rw [e1, e2]; simp [here, h1]; omega), _, rfl⟩
            · wtm_at "jw"
              exact ⟨s1, by rw [no (by rw [e1, e2]; simp [here, h1]; omega)]; exact hD1, _, rfl⟩
        · wtm_at "jw"
          exact ⟨s1, by rw [no (by rw [e1]; simp [here, h1])]; exact hD1, _, rfl⟩
    · obtain ⟨s1, hD1, v, rfl⟩ := h
      rw [List.length_map, Int.toNat_natCast] at hD1
      wtm_at "jw"
      exact q D H' s1 hD hD1
def cnts (o pa : Int) (en : List (Option Int)) : Bool := if o = 0 then false else if o < 4 then decide (o ≤ pa) else decide (o - 4 < en.length) && (og en (o - 4).toNat).isNone
def sp__law_order_counts (K : PySem.W.Frag) : Sp := fun vs H Q _ => ∃ (o pa : Int) (e : Addr) (en : List (Option Int)), vs = [.int o, .int pa, .ref e] ∧ H e = some (.lst (en.map ovO)) ∧ 0 ≤ o ∧ Q (.bl (cnts o pa en)) H
theorem ok__law_order_counts {P : Program} {w : World} {K : PySem.W.Frag} {mg : Str → Option Value} {base : Heap} {f : Addr} {fd : FuncData} (F : Df K mg "_law_order_counts" s__law_order_counts f fd ["order", "patches", "entered"]) (T : Txt mg) : FnOk P w K mg base CX0 1 f fd ["order", "patches", "entered"] (sp__law_order_counts K) := by
  refine F.ok sc__law_order_counts (fun vs H Q E h => ?_) (fun cdv A outer s H vs Q E hr h => ?_)
  · obtain ⟨o, pa, e, en, rfl, _⟩ := h
    rfl
  · obtain ⟨o, pa, e, en, rfl, he, h0, q⟩ := h
    unfold cnts at q
    refine ⟨_, (pss_cons (ps_if (pt_cmpR op_eq (pv 0) pe_int (nomark _)) (pss_one (ps_ret pe_bl)) pss_nil)
      (pss_cons (ps_if (pt_cmpR op_lt (pv 0) pe_int (nomark _)) (pss_one (ps_ret (pe_cmpR op_le (pv 0) (pv 1) (nomark _)))) pss_nil)
      (pss_one (ps_ret (pe_and (pe_cmpR op_lt (pe_op op_sub (pv 0) pe_int) (pe_callB (id := "len") (r := qLen K) c_len (by rfl) T.b_len (by decide +kernel) (pa_cons (pv 2) pa_nil)) (nomark _)) (pe_one (pe_cmpR o_isN (pe_ix (r := rIxL K) ix_list (pv 2) (pe_op op_sub (pv 0) pe_int) (fun _ _ => rfl)) pe_non (nomark _)))))))), ?_⟩
    try dsimp only [cxOf, Cx.nox, Cx.wish]
    refine st_of (σ' := [some _, some _, some _]) rfl ?_
    wtm_at "jw"
    refine c_dec (fun h1 => ?_) (fun h1 => ?_)
    · rw [if_pos h1] at q
      wtm_at "jw"
      exact q
    · rw [if_neg h1] at q
      wtm_at "jw"
      refine c_dec (fun h2 => ?_) (fun h2 => ?_)
      · rw [if_pos h2] at q
        wtm_at "jw"
        exact q
      · rw [if_neg h2] at q
        wtm_at "jw"
        rw [List.length_map]
        refine c_dec (fun h3 => ?_) (fun h3 => ?_)
        · rw [decide_eq_true h3, Bool.true_and] at q
          have ae := ov_at (os := en) (j := o - 4) (i := (o - 4).toNat) (by omega) (by omega)
          wtm_at "jw"
          cases e1 : og en (o - 4).toNat with
          | none => rw [e1] at q; exact q
          | some x => rw [e1] at q; exact q
        · rw [decide_eq_false h3, Bool.false_and] at q
          exact q
def takeE (o pa ho t : Int) (en : List (Option Int)) : List (Option Int) := if cnts o pa en = true then (if o < 4 then en else en.set (o - 4).toNat (some (t + ho))) else en
def takeF (o pa ho t : Int) (en : List (Option Int)) (fo : List (Int × Int)) : List (Int × Int) := if cnts o pa en = true then (if o < 4 then fo ++ [(t + ho, o)] else fo) else fo
def sp__law_take_order (K : PySem.W.Frag) : Sp := fun vs H Q _ => ∃ (w m pa ho t : Int) (e f : Addr) (en : List (Option Int)) (fo : List (Int × Int)), vs = [.int w, .int m, .int pa, .int ho, .int t, .ref e, .ref f] ∧ H e = some (.lst (en.map ovO)) ∧ LPr H f fo ∧ e ≠ f ∧ 0 ≤ w ∧ 0 < m ∧ m < 1000 ∧ fo.length ≤ 100 ∧
  ∀ H', (∀ b o, H b = some o → b ≠ e → b ≠ f → H' b = some o) → Tps H H' → H' e = some (.lst ((takeE (w / m) pa ho t en).map ovO)) → LPr H' f (takeF (w / m) pa ho t en fo) → Q .non H'
theorem ok__law_take_order {P : Program} {w : World} {K : PySem.W.Frag} {mg : Str → Option Value} {base : Heap} {f : Addr} {fd : FuncData} (F : Df K mg "_law_take_order" s__law_take_order f fd ["word", "many", "patches", "hold", "tick", "entered", "forces"]) (T : Txt mg)
    (c__law_order_counts : Cl P w K mg base 1 "_law_order_counts" (sp__law_order_counts K)) : FnOk P w K mg base CX0 2 f fd ["word", "many", "patches", "hold", "tick", "entered", "forces"] (sp__law_take_order K) := by
  refine F.ok sc__law_take_order (fun vs H Q E h => ?_) (fun cdv A outer s H vs Q E hr h => ?_)
  · obtain ⟨w, m, pa, ho, t, e, f, en, fo, rfl, _⟩ := h
    rfl
  · obtain ⟨w, m, pa, ho, t, e, f, en, fo, rfl, he, hf, nef, w0, m0, m1, hl, q⟩ := h
    have o0 : 0 ≤ w / m := Int.ediv_nonneg w0 (by omega)
    refine ⟨_, (pss_cons (ps_set (i := 7) sc__law_take_order.nd rfl (Or.inl rfl) (pe_op op_fdiv (pv 0) (pv 1)))
      (pss_one (ps_if (pt_val (pe_cl c__law_order_counts hr (by decide) rfl (pa_cons (pv 7) (pa_cons (pv 2) (pa_cons (pv 5) pa_nil))))) (pss_one (ps_if (pt_cmpR op_lt (pv 7) pe_int (nomark _)) (pss_one (ps_expr (pe_bmK (K := K) rfl PySem.F.plainAttrs_list PySem.F.slot_list_append PySem.F.type_list_append mt_append (pv 6) (pa_cons (pe_tup (pa_cons (pe_op op_add (pv 4) (pv 3)) (pa_cons (pv 7) pa_nil))) pa_nil)))) (pss_one (ps_asg (pe_op op_add (pv 4) (pv 3)) (pg_sub (pv 5) (pe_op op_sub (pv 7) pe_int) set_list))))) pss_nil))), ?_⟩
    try dsimp only [cxOf, Cx.nox, Cx.wish]
    refine st_of (σ' := [some _, some _, some _, some _, some _, some _, some _, none]) rfl ?_
    wtm_at "jw"
    generalize w / m = o at o0 q ⊢
    refine ⟨o, pa, e, en, rfl, he, o0, ?_⟩
    unfold takeE takeF at q
    wtm_at "jw"
    refine c_bool (fun h1 => ?_) (fun h1 => ?_)
    · rw [if_pos h1, if_pos h1] at q
      wtm_at "jw"
      refine c_dec (fun h2 => ?_) (fun h2 => ?_)
      · rw [if_pos h2, if_pos h2] at q
        obtain ⟨rs, hf1, hw⟩ := hf
        wtm_at "jw"
        intro u hu
        have hf2 := same_new (o := .tup [V.int (t + ho), V.int o]) hu _ _ hf1
        have hsz : (rs.map V.ref).length < sizeLine := small1000 (by rw [List.length_map, hw.1]; omega)
        wtm_at "jw"
        refine q _ (fun b o' hb _ n2 => ?_) ((Tps.of (same_new hu)).trans (tps_put hf2)) ?_ (LPr.add hf1 hw hu)
        · rw [upd_ne n2]; exact same_new hu _ _ hb
        · rw [upd_ne nef]; exact same_new hu _ _ he
      · rw [if_neg h2, if_neg h2] at q
        have hb : o - 4 < en.length := by
          unfold cnts at h1
          rw [if_neg (by omega), if_neg h2] at h1
          simp only [Bool.and_eq_true, decide_eq_true_eq] at h1
          exact h1.1
        have ix := ixN_of (n := (en.map ovO).length) (i := o - 4) (by omega) (by rw [List.length_map]; exact hb)
        wtm_at "jw"
        refine q _ (fun b o' hb n1 _ => ?_) (tps_put he) ?_ (LPr.kp hf Kp.upd he nef.symm)
        · rw [upd_ne n1]; exact hb
        · rw [upd_same, List.map_set]; rfl
    · rw [if_neg (by rw [h1]; exact Bool.false_ne_true), if_neg (by rw [h1]; exact Bool.false_ne_true)] at q
      wtm_at "jw"
      exact q H (fun b o hb _ _ => hb) Tps.refl he hf
def forceL (fo : List (Int × Int)) (t : Int) : Int := fo.foldl (fun a p => if p.1 ≤ t then p.2 else a) 0
theorem foldl_take {α β : Type} (f : β → α → β) (b : β) {l : List α} {i : Nat} {x : α} (h : l.take (i + 1) = l.take i ++ [x]) : (l.take (i + 1)).foldl f b = f ((l.take i).foldl f b) x := by
  rw [h, List.foldl_append]; rfl
def sp__law_force (K : PySem.W.Frag) : Sp := fun vs H Q _ => ∃ (f : Addr) (fo : List (Int × Int)) (t : Int), vs = [.ref f, .int t] ∧ LPr H f fo ∧ Q (.int (forceL fo t)) H
theorem ok__law_force {P : Program} {w : World} {K : PySem.W.Frag} {mg : Str → Option Value} {base : Heap} {f : Addr} {fd : FuncData} (F : Df K mg "_law_force" s__law_force f fd ["forces", "tick"]) (T : Txt mg) : FnOk P w K mg base CX0 1 f fd ["forces", "tick"] (sp__law_force K) := by
  refine F.ok sc__law_force (fun vs H Q E h => ?_) (fun cdv A outer s H vs Q E hr h => ?_)
  · obtain ⟨f, fo, t, rfl, _⟩ := h
    rfl
  · obtain ⟨f, fo, t, rfl, ⟨rs, hf, hw⟩, q⟩ := h
    refine ⟨_, (pss_cons (ps_set (i := 2) sc__law_force.nd rfl (Or.inl rfl) pe_int)
      (pss_cons (ps_for PassesOwn.never rfl (pi_list (pv 0)) (pg_tupK (K := K) rfl rfl (pgs_cons (pg_name (i := 3) sc__law_force.nd rfl (Or.inl rfl)) (pgs_cons (pg_name (i := 4) sc__law_force.nd rfl (Or.inl rfl)) pgs_nil))) (pss_one (ps_if (pt_cmpR op_le (pv 3) (pv 1) (nomark _)) (pss_one (ps_set (i := 2) sc__law_force.nd rfl (Or.inl rfl) (pv 4))) pss_nil)))
      (pss_one (ps_ret (pv 2))))), ?_⟩
    try dsimp only [cxOf, Cx.nox, Cx.wish]
    refine st_of (σ' := [some _, some _, none, none, none]) rfl ?_
    wtm_at "jw"
    refine f_list (xs := rs.map V.ref) (fun i σ H' => H' = H ∧ ∃ v1 v2, σ = [some (.ref f), some (.int t), some (.int (forceL (fo.take i) t)), v1, v2]) ⟨rfl, none, none, rfl⟩ (fun i σ H' _ h => by rw [h.1]; exact SqL.of hf) (fun i x σ H' hi h => ?_) (fun σ H' h => ?_)
    · obtain ⟨rfl, v1, v2, rfl⟩ := h
      obtain ⟨r, p, rfl, e1, e2, hr1, e3, hlt⟩ := hw.at hi
      have ef : forceL (fo.take (i + 1)) t = if p.1 ≤ t then p.2 else forceL (fo.take i) t := foldl_take _ _ e3
      wtm_at "jw"
      refine c_dec (fun h => ?_) (fun h => ?_)
      · wtm_at "jw"
        exact ⟨rfl, some (.int p.1), some (.int p.2), by rw [ef, if_pos h]⟩
      · wtm_at "jw"
        exact ⟨rfl, some (.int p.1), some (.int p.2), by rw [ef, if_neg h]⟩
    · obtain ⟨rfl, v1, v2, rfl⟩ := h
      rw [List.length_map, hw.1, List.take_length]
      wtm_at "jw"
      exact q
def sp__law_begun (K : PySem.W.Frag) : Sp := fun vs H Q _ => ∃ (p a : Addr) (n : Nat), vs = [.ref p, .int (n : Int)] ∧ DrawAt H p a ∧ 0 < n ∧ n ≤ 4 ∧
  ∀ (r : Addr) (bs : List Int) (H' : Hp), Drew p a H H' → H' r = some (.tup (bs.map V.int)) → bs.length = n → (∀ b ∈ bs, b = 0 ∨ b = 1) → Q (.ref r) H'
theorem ok__law_begun {P : Program} {w : World} {K : PySem.W.Frag} {mg : Str → Option Value} {base : Heap} {f : Addr} {fd : FuncData} (F : Df K mg "_law_begun" s__law_begun f fd ["d", "seats"]) (T : Txt mg)
    (c__law_draw : Cl P w K mg base 1 "_law_draw" (sp__law_draw K))
    (c__law_pick : Cl P w K mg base 2 "_law_pick" (sp__law_pick K)) : FnOk P w K mg base CX0 3 f fd ["d", "seats"] (sp__law_begun K) := by
  refine F.ok sc__law_begun (fun vs H Q E h => ?_) (fun cdv A outer s H vs Q E hr h => ?_)
  · obtain ⟨p, a, n, rfl, _⟩ := h
    rfl
  · obtain ⟨p, a, n, rfl, hd, n0, n4, q⟩ := h
    refine ⟨_, (pss_cons (ps_setLc (i := 2) (own := [("seat", 3)]) (g := gName 3) (tt := tYes) rfl sc__law_begun.nd rfl rfl (sw_true rfl rfl rfl (by decide +kernel)) (pi_range1 rfl T.b_range (pa_cons (pv 1) pa_nil)) (blkOk_by (own := [("seat", 3)]) (N := N__law_begun) (sc := defScope s__law_begun) (by decide +kernel)) (fun _ _ _ _ _ => (pg_name (i := 3) sc__law_begun.nd rfl (Or.inl rfl))) (fun _ _ _ _ _ => pts_nil) (fun _ _ _ _ _ => (pe_cl c__law_pick hr (by decide) rfl (pa_cons (pv 0) (pa_cons (pe_lst (pa_cons pe_int (pa_cons pe_int (pa_cons pe_int pa_nil)))) pa_nil)))))
      (pss_cons (ps_set (i := 4) sc__law_begun.nd rfl (Or.inl rfl) (pe_cl c__law_draw hr (by decide) rfl (pa_cons (pv 0) (pa_cons (pv 1) pa_nil))))
      (pss_cons (ps_asg pe_int (pg_sub (pv 2) (pv 4) set_list))
      (pss_one (ps_ret (pe_callTy (T := "tuple") (r := rTupOf K) c_tup (by rfl) T.b_tuple (by decide +kernel) (pa_cons (pv 2) pa_nil))))))), ?_⟩
    try dsimp only [cxOf, Cx.nox, Cx.wish]
    refine st_of (σ' := [some _, some _, none, none, none]) rfl ?_
    wtm_at "jw"
    intro D hD
    have nD := hd.ne_none hD
    refine l_range (fun i H' => Drew p a H H' ∧ ∃ bs : List Int, H' D = some (.lst (bs.map V.int)) ∧ bs.length = i ∧ ∀ b ∈ bs, b = 0 ∨ b = 1) ⟨hd.drew.new hD, [], upd_same, rfl, by simp⟩ (fun i H' hi h => ?_) (fun H' h => ?_)
    · obtain ⟨d1, bs, hD1, hl, hb⟩ := h
      wtm_at "jw"
      refine ⟨rfl, ?_⟩
      wtm_at "jw"
      intro B hB
      wtm_at "jw"
      refine pickL (fun z => z = 0 ∨ z = 1) [1, 1, 0] d1 hB rfl (by decide) (by decide) (by simp) fun z H2 hz e d2 => ?_
      have hD2 := e.kp _ _ hD1 nD
      refine ⟨_, hD2, small1000 (by rw [List.length_map]; omega), d2.put hd hD, bs ++ [z], by rw [upd_same, List.map_append]; rfl, by simp [hl], fun b hb' => ?_⟩
      rcases List.mem_append.mp hb' with h | h
      · exact hb b h
      · rw [List.mem_singleton.mp h]; exact hz
    · obtain ⟨d1, bs, hD1, hl, hb⟩ := h
      wtm_at "jw"
      refine drawL d1 (by omega) (by omega) fun z H2 z0 z1 e d2 => ?_
      have hD2 := e.kp _ _ hD1 nD
      have ix := ixN_of (n := (bs.map V.int).length) (i := z) z0 (by rw [List.length_map]; omega)
      wtm_at "jw"
      intro r hr'
      refine q r (bs.set z.toNat 1) _ ((d2.put hd hD).new hr') ?_ (by rw [List.length_set, hl]; omega) fun b hb' => ?_
      · rw [upd_same, List.map_set]
      · rcases List.mem_or_eq_of_mem_set hb' with h | h
        · exact hb b h
        · exact .inr h
theorem Drew.step {p a e f : Addr} {H H3 H4 : Hp} (d : Drew p a H H3) (hd : DrawAt H p a) (he : H e = none) (hf : H f = none) (k : ∀ b o, H3 b = some o → b ≠ e → b ≠ f → H4 b = some o) : Drew p a H H4 := by
  have n1 := hd.ne_none he
  have n2 := hd.ne_none hf
  have m1 := hd.ne_noneA he
  have m2 := hd.ne_noneA hf
  obtain ⟨ns, pos, pend, seed, h1, h2, h3, h4⟩ := d.at_
  refine ⟨⟨ns, pos, pend, seed, k _ _ h1 n1.symm n2.symm, k _ _ h2 m1.symm m2.symm, h3, h4⟩, fun b u hb hne => ?_⟩
  exact k _ _ (d.kp _ _ hb hne) (ne_of_none hb he) (ne_of_none hb hf)
theorem LPr.drew {p a f : Addr} {H H' : Hp} {fo : List (Int × Int)} (h : LPr H f fo) (d : DrawAt H p a) (e : Drew p a H H') (n : f ≠ p) : LPr H' f fo := by
  obtain ⟨xs, hp⟩ := d.some
  exact h.kp e.kp hp n
def entB (bs : List Int) : List (Option Int) := bs.map fun b => if b = 1 then some 0 else none
def nonB (bs : List Int) : List (Option Int) := bs.map fun _ => none
theorem takeE_len {o pa ho t : Int} {en : List (Option Int)} : (takeE o pa ho t en).length = en.length := by
  unfold takeE
  split
  · split
    · rfl
    · rw [List.length_set]
  · rfl
theorem takeF_len {o pa ho t : Int} {en : List (Option Int)} {fo : List (Int × Int)} : (takeF o pa ho t en fo).length ≤ fo.length + 1 := by
  unfold takeF
  split
  · split
    · simp
    · omega
  · omega
theorem takeF_small {o pa ho t : Int} {en : List (Option Int)} {fo : List (Int × Int)} (h0 : 0 ≤ o) (h : ∀ q ∈ fo, 1 ≤ q.2 ∧ q.2 ≤ 3) : ∀ q ∈ takeF o pa ho t en fo, 1 ≤ q.2 ∧ q.2 ≤ 3 := by
  unfold takeF
  split
  · rename_i hc
    split
    · intro q hq
      rcases List.mem_append.mp hq with hq | hq
      · exact h q hq
      · rw [List.mem_singleton.mp hq]
        have : o ≠ 0 := fun z => by subst z; simp [cnts] at hc
        show 1 ≤ o ∧ o ≤ 3
        omega
    · exact h
  · exact h
def pastK (e g f : Addr) : List (L2.Key × V) := [(.inr "entered", .ref e), (.inr "gone", .ref g), (.inr "forces", .ref f)]
theorem past_e (e g f : Addr) : valV (pastK e g f) (.inr "entered") = some (.ref e) := rfl
theorem past_g (e g f : Addr) : valV (pastK e g f) (.inr "gone") = some (.ref g) := rfl
theorem past_f (e g f : Addr) : valV (pastK e g f) (.inr "forces") = some (.ref f) := rfl
theorem past_m (e g f : Addr) : mergeK [] (pastK e g f) = pastK e g f := rfl

def cutE (t : Int) : Option Int → Option Int
  | some x => if x ≤ t then some x else none
  | none => none
def cutG (t : Int) : Option Int → Option Int
  | some x => if x < t then some x else none
  | none => none
def pendF (fo : List (Int × Int)) (ho t : Int) : List (Int × Int) := fo.filter fun p => decide (t < p.1) && decide (p.1 < t + ho)
def pendE (en : List (Option Int)) (ho t : Int) : Nat → List (Int × Int)
  | 0 => []
  | n + 1 => pendE en ho t n ++ (match og en n with
    | some x => if t < x ∧ x < t + ho then [(x, 4 + (n : Int))] else []
    | none => [])
def SortsTo (ps L : List (Int × Int)) : Prop := ps.Perm L ∧ ps.Pairwise fun p q => SrtO.lexB q p = false
def factsD (t f : Int) (en go : List (Option Int)) (pend : List (Int × Int)) : PyData := .tuple [.str "facts", .int t, .int f, .tuple (en.map oD), .tuple (go.map oD), .tuple (pend.map pD)]
theorem Prw.tds {K : PySem.W.Frag} {H : Hp} {rs : List Addr} {rows : List (Int × Int)} (w : Prw H rs rows) : TDs K H (rs.map V.ref) (rows.map pD) := by
  refine TDs.of (by simp [w.1]) fun i x d h1 h2 => ?_
  obtain ⟨r, p, rfl, e1, e2, hr, _⟩ := w.at h1
  rw [List.getElem?_map, e2] at h2
  cases h2
  exact TD.of (xs := [.int p.1, .int p.2]) hr (TDs.ints [p.1, p.2])
theorem og_take {os : List (Option Int)} {x : V} {i : Nat} (h : (os.map ovO)[i]? = some x) : x = ovO (og os i) ∧ os.take (i + 1) = os.take i ++ [og os i] ∧ i < os.length := by
  rw [List.getElem?_map] at h
  unfold og
  cases e : os[i]? with
  | none => rw [e] at h; cases h
  | some o =>
    rw [e] at h
    exact ⟨(Option.some.inj h).symm, by rw [List.take_add_one, e]; rfl, (List.getElem?_eq_some_iff.mp e).1⟩
/-- the pair at an address -/
def kP (H : Hp) : V → Int × Int
  | .ref t => match H t with
    | some (.tup [.int i, .int j]) => (i, j)
    | _ => (0, 0)
  | _ => (0, 0)
def adr : V → Addr
  | .ref t => t
  | _ => 0
theorem kP_of {H : Hp} {t : Addr} {p : Int × Int} (h : H t = some (.tup [.int p.1, .int p.2])) : kP H (.ref t) = p := by
  simp only [kP, h]
theorem Prw.keys {H : Hp} : ∀ {rs : List Addr} {rows : List (Int × Int)}, Prw H rs rows → (rs.map V.ref).map (kP H) = rows
  | [], [], _ => rfl
  | r :: rs, p :: rows, h => by
    rw [List.map_cons, List.map_cons, kP_of (h.2 0 r p rfl rfl), Prw.keys (rs := rs) (rows := rows) ⟨by simpa using h.1, fun i r' p' h1 h2 => h.2 (i + 1) r' p' (by simpa using h1) (by simpa using h2)⟩]
  | [], _ :: _, h => by cases h.1
  | _ :: _, [], h => by cases h.1
/-- sorted(a list of pairs) -/
theorem i_sortP {K : PySem.W.Frag} {H : Hp} {Q : VK} {a : Addr} {rows : List (Int × Int)} (h : LPr H a rows)
    (q : ∀ r H' ps, Same H H' → SortsTo ps rows → H r = none → LPr H' r ps → Q (.ref r) H') : rSortedPO K [.ref a] H Q := by
  obtain ⟨rs, ha, w⟩ := h
  have mem : ∀ x ∈ rs.map V.ref, ∃ t, x = V.ref t ∧ H t = some (.tup [.int (kP H x).1, .int (kP H x).2]) := fun x hx => by
    obtain ⟨i, hi⟩ := List.getElem?_of_mem hx
    obtain ⟨r, p, rfl, _, _, hr, _⟩ := w.at hi
    exact ⟨r, rfl, by rw [kP_of hr]; exact hr⟩
  refine ⟨a, rs.map V.ref, kP H, rfl, SqL.of ha, mem, fun ys p srt stb hp => ?_⟩
  have pm := stb.perm
  have e1 : (ys.map adr).map V.ref = ys := by
    rw [List.map_map]
    conv => rhs; rw [← List.map_id ys]
    refine List.map_congr_left fun y hy => ?_
    obtain ⟨t, rfl, _⟩ := mem y (pm.mem_iff.mp hy)
    rfl
  refine q p _ (ys.map (kP H)) (same_new hp) ⟨?_, ?_⟩ hp ⟨ys.map adr, by rw [upd_same, e1], ?_⟩
  · have := pm.map (kP H)
    rw [w.keys] at this
    exact this
  · rw [List.pairwise_map]
    exact srt
  · refine Prw.same (H := H) ⟨by simp, fun i r' p' h1 h2 => ?_⟩ (same_new hp)
    rw [List.getElem?_map] at h1 h2
    cases e : ys[i]? with
    | none => rw [e] at h1; cases h1
    | some y =>
      rw [e] at h1 h2
      cases h1
      cases h2
      obtain ⟨t, rfl, ht⟩ := mem y (pm.mem_iff.mp (List.mem_of_getElem? e))
      exact ht
theorem pendE_len (en : List (Option Int)) (ho t : Int) : ∀ n, (pendE en ho t n).length ≤ n
  | 0 => Nat.le_refl _
  | n + 1 => by
    have ih := pendE_len en ho t n
    rw [pendE, List.length_append]
    split
    · split <;> simp <;> omega
    · simp; omega
def sp__law_behind (K : PySem.W.Frag) : Sp := fun vs H Q _ => ∃ (r e g f : Addr) (en go : List (Option Int)) (fo : List (Int × Int)) (ho t : Int), vs = [.ref r, .int ho, .int t] ∧ H r = some (.dK (pastK e g f)) ∧ H e = some (.lst (en.map ovO)) ∧ H g = some (.lst (go.map ovO)) ∧ LPr H f fo ∧ en.length ≤ 100 ∧ go.length ≤ 100 ∧ fo.length ≤ 100 ∧
  ∀ (v : V) (H' : Hp) (pend : List (Int × Int)), Same H H' → SortsTo pend (pendF fo ho t ++ pendE en ho t en.length) → TD K H' v (factsD t (forceL fo t) (en.map (cutE t)) (go.map (cutG t)) pend) → Q v H'
theorem ok__law_behind {P : Program} {w : World} {K : PySem.W.Frag} {mg : Str → Option Value} {base : Heap} {f : Addr} {fd : FuncData} (F : Df K mg "_law_behind" s__law_behind f fd ["past", "holding", "tick"]) (T : Txt mg)
    (c__law_force : Cl P w K mg base 1 "_law_force" (sp__law_force K)) : FnOk P w K mg base CX0 2 f fd ["past", "holding", "tick"] (sp__law_behind K) := by
  refine F.ok sc__law_behind (fun vs H Q E h => ?_) (fun cdv A outer s H vs Q E hr h => ?_)
  · obtain ⟨r, e, g, f, en, go, fo, ho, t, rfl, _⟩ := h
    rfl
  · obtain ⟨r, e, g, f, en, go, fo, ho, t, rfl, hr0, he, hg, hf, len, lgo, lfo, q⟩ := h
    have hu := hu_of hr
    refine ⟨_, (pss_cons (ps_setLc (i := 3) (own := [("one", 4)]) (g := gName 4) (tt := tYes) rfl sc__law_behind.nd rfl rfl (sw_true rfl rfl rfl (by decide +kernel)) (pi_list (pe_dget hu (pv 0) pe_str (fun _ _ => rfl))) (blkOk_by (own := [("one", 4)]) (N := N__law_behind) (sc := defScope s__law_behind) (by decide +kernel)) (fun _ _ _ _ _ => (pg_name (i := 4) sc__law_behind.nd rfl (Or.inl rfl))) (fun _ _ _ _ _ => pts_nil) (fun _ _ _ _ _ => (pe_ifExp (PW.pt (pw_and (pt_cmpR o_notN (pv 4) pe_non (nomark _)) (pw_and1 (pt_cmpR op_le (pv 4) (pv 2) (nomark _))))) (pv 4) pe_non)))
      (pss_cons (ps_setLc (i := 5) (own := [("one", 4)]) (g := gName 4) (tt := tYes) rfl sc__law_behind.nd rfl rfl (sw_true rfl rfl rfl (by decide +kernel)) (pi_list (pe_dget hu (pv 0) pe_str (fun _ _ => rfl))) (blkOk_by (own := [("one", 4)]) (N := N__law_behind) (sc := defScope s__law_behind) (by decide +kernel)) (fun _ _ _ _ _ => (pg_name (i := 4) sc__law_behind.nd rfl (Or.inl rfl))) (fun _ _ _ _ _ => pts_nil) (fun _ _ _ _ _ => (pe_ifExp (PW.pt (pw_and (pt_cmpR o_notN (pv 4) pe_non (nomark _)) (pw_and1 (pt_cmpR op_lt (pv 4) (pv 2) (nomark _))))) (pv 4) pe_non)))
      (pss_cons (ps_setLc (i := 6) (own := [("row", 7)]) (g := gName 7) rfl sc__law_behind.nd rfl rfl (sw_true rfl rfl rfl (by decide +kernel)) (pi_list (pe_dget hu (pv 0) pe_str (fun _ _ => rfl))) (blkOk_by (own := [("row", 7)]) (N := N__law_behind) (sc := defScope s__law_behind) (by decide +kernel)) (fun _ _ _ _ _ => (pg_name (i := 7) sc__law_behind.nd rfl (Or.inl rfl))) (fun _ _ _ _ _ => pts_one (pt_chain op_lt op_lt (pv 2) (pe_ix (r := rIxT K) ix_tup (pv 7) pe_int (fun _ _ => rfl)) (pe_op op_add (pv 2) (pv 1)))) (fun _ _ _ _ _ => (pv 7)))
      (pss_cons (ps_for PassesOwn.never rfl (pi_range1 rfl T.b_range (pa_cons (pe_callB (id := "len") (r := qLen K) c_len (by rfl) T.b_len (by decide +kernel) (pa_cons (pv 3) pa_nil)) pa_nil)) (pg_name (i := 8) sc__law_behind.nd rfl (Or.inl rfl)) (pss_cons (ps_set (i := 9) sc__law_behind.nd rfl (Or.inl rfl) (pe_ix (r := rIxL K) ix_list (pe_dget hu (pv 0) pe_str (fun _ _ => rfl)) (pv 8) (fun _ _ => rfl)))
      (pss_one (ps_if (PW.pt (pw_and (pt_cmpR o_notN (pv 9) pe_non (nomark _)) (pw_and1 (pt_chain op_lt op_lt (pv 2) (pv 9) (pe_op op_add (pv 2) (pv 1)))))) (pss_one (ps_expr (pe_bmK (K := K) rfl PySem.F.plainAttrs_list PySem.F.slot_list_append PySem.F.type_list_append mt_append (pv 6) (pa_cons (pe_tup (pa_cons (pv 9) (pa_cons (pe_op op_add pe_int (pv 8)) pa_nil))) pa_nil)))) pss_nil))))
      (pss_one (ps_ret (pe_tup (pa_cons pe_str (pa_cons (pv 2) (pa_cons (pe_cl c__law_force hr (by decide) rfl (pa_cons (pe_dget hu (pv 0) pe_str (fun _ _ => rfl)) (pa_cons (pv 2) pa_nil))) (pa_cons (pe_callTy (T := "tuple") (r := rTupOf K) c_tup (by rfl) T.b_tuple (by decide +kernel) (pa_cons (pv 3) pa_nil)) (pa_cons (pe_callTy (T := "tuple") (r := rTupOf K) c_tup (by rfl) T.b_tuple (by decide +kernel) (pa_cons (pv 5) pa_nil)) (pa_cons (pe_callTy (T := "tuple") (r := rTupOf K) c_tup (by rfl) T.b_tuple (by decide +kernel) (pa_cons (pe_callB (id := "sorted") (r := rSortedPO K) cr_sortedPO (by rfl) T.b_sorted (by decide +kernel) (pa_cons (pv 6) pa_nil)) pa_nil)) pa_nil))))))))))))), ?_⟩
    try dsimp only [cxOf, Cx.nox, Cx.wish]
    refine st_of (σ' := [some _, some _, some _, none, none, none, none, none, none, none]) rfl ?_
    wtm_at "jw"
    refine i_dget ?_
    wtm_at "jw"
    refine i_dgetS (.inl hr0) (past_e e g f) ?_
    wtm_at "jw"
    intro E hE
    refine l_list (xs := en.map ovO) (fun i H' => Same H H' ∧ H' E = some (.lst (((en.take i).map (cutE t)).map ovO))) ⟨same_new hE, upd_same⟩ (fun i H' _ h => SqL.of (h.1 _ _ he)) (fun i x H' hi h => ?_) (fun H1 h => ?_)
    · obtain ⟨s1, hE1⟩ := h
      obtain ⟨rfl, e2, hlt⟩ := og_take hi
      have hsz : (((en.take i).map (cutE t)).map ovO).length < sizeLine := small1000 (by rw [List.length_map, List.length_map, List.length_take]; omega)
      have fin : ∀ (o : Option Int), cutE t (og en i) = o → upd H' E (.lst (((en.take i).map (cutE t)).map ovO ++ [ovO o])) E = some (.lst (((en.take (i + 1)).map (cutE t)).map ovO)) := fun o h => by
        rw [upd_same, e2, List.map_append, List.map_append, List.map_singleton, List.map_singleton, h]
      wtm_at "jw"
      refine ⟨rfl, ?_⟩
      cases e1 : og en i with
      | none =>
        unfold ovO
        wtm_at "jw"
        refine c_noN rfl ?_
        wtm_at "jw"
        exact ⟨_, hE1, hsz, put_same s1 hE, fin none (by rw [e1]; rfl)⟩
      | some x =>
        unfold ovO
        wtm_at "jw"
        refine c_yesN (fun h => by cases h) ?_
        wtm_at "jw"
        refine c_dec (fun h1 => ?_) (fun h1 => ?_)
        · wtm_at "jw"
          exact ⟨_, hE1, hsz, put_same s1 hE, fin (some x) (by rw [e1]; simp [cutE, h1])⟩
        · wtm_at "jw"
          exact ⟨_, hE1, hsz, put_same s1 hE, fin none (by rw [e1]; simp [cutE, h1])⟩
    obtain ⟨s1, hE1⟩ := h
    rw [List.length_map, List.take_length] at hE1
    have hr1 := s1 _ _ hr0
    have hg1 := s1 _ _ hg
    wtm_at "jw"
    refine i_dget ?_
    wtm_at "jw"
    refine i_dgetS (.inl hr1) (past_g e g f) ?_
    wtm_at "jw"
    intro G hG
    refine l_list (xs := go.map ovO) (fun i H' => Same H1 H' ∧ H' G = some (.lst (((go.take i).map (cutG t)).map ovO))) ⟨same_new hG, upd_same⟩ (fun i H' _ h => SqL.of (h.1 _ _ hg1)) (fun i x H' hi h => ?_) (fun H2 h => ?_)
    · obtain ⟨s2, hG1⟩ := h
      obtain ⟨rfl, e2, hlt⟩ := og_take hi
      have hsz : (((go.take i).map (cutG t)).map ovO).length < sizeLine := small1000 (by rw [List.length_map, List.length_map, List.length_take]; omega)
      have fin : ∀ (o : Option Int), cutG t (og go i) = o → upd H' G (.lst (((go.take i).map (cutG t)).map ovO ++ [ovO o])) G = some (.lst (((go.take (i + 1)).map (cutG t)).map ovO)) := fun o h => by
        rw [upd_same, e2, List.map_append, List.map_append, List.map_singleton, List.map_singleton, h]
      wtm_at "jw"
      refine ⟨rfl, ?_⟩
      cases e1 : og go i with
      | none =>
        unfold ovO
        wtm_at "jw"
        refine c_noN rfl ?_
        wtm_at "jw"
        exact ⟨_, hG1, hsz, put_same s2 hG, fin none (by rw [e1]; rfl)⟩
      | some x =>
        unfold ovO
        wtm_at "jw"
        refine c_yesN (fun h => by cases h) ?_
        wtm_at "jw"
        refine c_dec (fun h1 => ?_) (fun h1 => ?_)
        · wtm_at "jw"
          exact ⟨_, hG1, hsz, put_same s2 hG, fin (some x) (by rw [e1]; simp [cutG, h1])⟩
        · wtm_at "jw"
          exact ⟨_, hG1, hsz, put_same s2 hG, fin none (by rw [e1]; simp [cutG, h1])⟩
    obtain ⟨s2, hG1⟩ := h
    rw [List.length_map, List.take_length] at hG1
    have s12 := s1.trans s2
    have hr2 := s2 _ _ hr1
    obtain ⟨rs, hf1, hw1⟩ := hf.same s12
    wtm_at "jw"
    refine i_dget ?_
    wtm_at "jw"
    refine i_dgetS (.inl hr2) (past_f e g f) ?_
    wtm_at "jw"
    intro D hD
    refine l_list (xs := rs.map V.ref) (fun i H' => Same H2 H' ∧ LPr H' D (pendF (fo.take i) ho t)) ⟨same_new hD, [], upd_same, .nil⟩ (fun i H' _ h => SqL.of (h.1 _ _ hf1)) (fun i x H' hi h => ?_) (fun H3 h => ?_)
    · obtain ⟨s3, rs', hD1, hw2⟩ := h
      obtain ⟨r', p, rfl, e1, e2, hr', e3, hlt⟩ := (hw1.same s3).at hi
      have hsz : (rs'.map V.ref).length < sizeLine := small1000 (by
        have := List.length_filter_le (fun p => decide (t < p.1) && decide (p.1 < t + ho)) (fo.take i)
        rw [List.length_map, hw2.1]
        unfold pendF
        rw [List.length_take] at this
        omega)
      have yes : t < p.1 → p.1 < t + ho → pendF (fo.take (i + 1)) ho t = pendF (fo.take i) ho t ++ [p] := fun h1 h2 => by
        unfold pendF
        rw [e3, List.filter_append]
        simp [h1, h2]
      have no : ¬ (t < p.1 ∧ p.1 < t + ho) → pendF (fo.take (i + 1)) ho t = pendF (fo.take i) ho t := fun h1 => by
        unfold pendF
        rw [e3, List.filter_append]
        simp
        omega
      wtm_at "jw"
      refine ⟨rfl, ?_⟩
      wtm_at "jw"
      refine c_dec (fun h1 => ?_) (fun h1 => ?_)
      · wtm_at "jw"
        refine c_dec (fun h2 => ?_) (fun h2 => ?_)
        · wtm_at "jw"
          refine ⟨_, hD1, hsz, put_same s3 hD, ?_⟩
          rw [yes h1 h2]
          exact LPr.add' hD1 hw2 hr'
        · exact ⟨s3, by rw [no (by omega)]; exact ⟨rs', hD1, hw2⟩⟩
      · wtm_at "jw"
        exact ⟨s3, by rw [no (by omega)]; exact ⟨rs', hD1, hw2⟩⟩
    obtain ⟨s3, hD1⟩ := h
    rw [List.length_map, hw1.1, List.take_length] at hD1
    have hE3 := s3 _ _ (s2 _ _ hE1)
    have hG3 := s3 _ _ hG1
    have s13 := s12.trans s3
    have hD0 : H D = none := s12.free hD
    wtm_at "jw"
    rw [List.length_map, List.length_map, Int.toNat_natCast]
    have hDE : D ≠ E := (ne_of_none (s2 _ _ hE1) hD).symm
    have hDG : D ≠ G := (ne_of_none hG1 hD).symm
    refine f_range (fun i σ H' => Same H H' ∧ H' E = some (.lst ((en.map (cutE t)).map ovO)) ∧ H' G = some (.lst ((go.map (cutG t)).map ovO)) ∧ LPr H' D (pendF fo ho t ++ pendE en ho t i) ∧ ∃ (v1 v2 v3 v4 : Option V), σ = [some (.ref r), some (.int ho), some (.int t), some (.ref E), v1, some (.ref G), some (.ref D), v2, v3, v4])
      ⟨s13, hE3, hG3, by rw [pendE, List.append_nil]; exact hD1, _, _, _, _, rfl⟩ (fun i σ H' hi h => ?_) (fun σ H' h => ?_)
    · obtain ⟨s4, hE4, hG4, ⟨rs', hD4, hw4⟩, v1, v2, v3, v4, rfl⟩ := h
      have hr4 := s4 _ _ hr0
      have he4 := s4 _ _ he
      have ae := ov_at (os := en) (j := 0 + (i : Int)) (i := i) (by omega) hi
      have hsz : (rs'.map V.ref).length < sizeLine := small1000 (by
        have := List.length_filter_le (fun p => decide (t < p.1) && decide (p.1 < t + ho)) fo
        have h2 := pendE_len en ho t i
        rw [List.length_map, hw4.1, List.length_append]
        unfold pendF
        omega)
      cases e1 : og en i with
      | none =>
        replace ae : atI (en.map ovO) (0 + (i : Int)) = some V.non := by rw [ae, e1]; rfl
        have e2 : pendE en ho t (i + 1) = pendE en ho t i := by rw [pendE, e1]; simp
        rw [e2]
        wtm_at "jw"
        refine i_dget ?_
        wtm_at "jw"
        refine i_dgetS (.inl hr4) (past_e e g f) ?_
        wtm_at "jw"
        refine c_noN rfl ?_
        wtm_at "jw"
        exact ⟨s4, hE4, hG4, ⟨rs', hD4, hw4⟩, _, _, _, _, rfl⟩
      | some x =>
        replace ae : atI (en.map ovO) (0 + (i : Int)) = some (V.int x) := by rw [ae, e1]; rfl
        have e2 : pendE en ho t (i + 1) = pendE en ho t i ++ (if t < x ∧ x < t + ho then [(x, 4 + (i : Int))] else []) := by rw [pendE, e1]
        rw [e2]
        wtm_at "jw"
        refine i_dget ?_
        wtm_at "jw"
        refine i_dgetS (.inl hr4) (past_e e g f) ?_
        wtm_at "jw"
        refine c_yesN (fun h => by cases h) ?_
        wtm_at "jw"
        refine c_dec (fun h1 => ?_) (fun h1 => ?_)
        · wtm_at "jw"
          refine c_dec (fun h2 => ?_) (fun h2 => ?_)
          · rw [if_pos ⟨h1, h2⟩, ← List.append_assoc]
            wtm_at "jw"
            intro u hu
            have hD5 := same_new (o := .tup [V.int x, V.int (4 + (0 + (i : Int)))]) hu _ _ hD4
            wtm_at "jw"
            have hn := LPr.add hD4 hw4 (x := x) (y := 4 + (i : Int)) hu
            rw [Int.zero_add] at hD5 ⊢
            have s5 := s4.trans (same_new (o := .tup [V.int x, V.int (4 + (i : Int))]) hu)
            exact ⟨put_same s5 hD0, by rw [upd_ne hDE.symm]; exact same_new hu _ _ hE4, by rw [upd_ne hDG.symm]; exact same_new hu _ _ hG4, hn, _, _, _, _, rfl⟩
          · rw [if_neg (by omega), List.append_nil]
            wtm_at "jw"
            exact ⟨s4, hE4, hG4, ⟨rs', hD4, hw4⟩, _, _, _, _, rfl⟩
        · rw [if_neg (by omega), List.append_nil]
          wtm_at "jw"
          exact ⟨s4, hE4, hG4, ⟨rs', hD4, hw4⟩, _, _, _, _, rfl⟩
    · obtain ⟨s4, hE4, hG4, hD4, v1, v2, v3, v4, rfl⟩ := h
      have hr4 := s4 _ _ hr0
      have hf4 := hf.same s4
      wtm_at "jw"
      refine i_dget ?_
      wtm_at "jw"
      refine i_dgetS (.inl hr4) (past_f e g f) ?_
      wtm_at "jw"
      refine ⟨f, fo, t, rfl, hf4, ?_⟩
      wtm_at "jw"
      intro T1 hT1
      have s5 := same_new (o := .tup ((en.map (cutE t)).map ovO)) hT1
      have k1 : TD K (upd H' T1 (.tup ((en.map (cutE t)).map ovO))) (.ref T1) (.tuple ((en.map (cutE t)).map oD)) := TD.new hT1 (TDs.ovs _)
      have hG5 := s5 _ _ hG4
      have hD5 := hD4.same s5
      generalize upd H' T1 (.tup ((en.map (cutE t)).map ovO)) = H5 at s5 k1 hG5 hD5 ⊢
      wtm_at "jw"
      intro T2 hT2
      have s6 := same_new (o := .tup ((go.map (cutG t)).map ovO)) hT2
      have k2 : TD K (upd H5 T2 (.tup ((go.map (cutG t)).map ovO))) (.ref T2) (.tuple ((go.map (cutG t)).map oD)) := TD.new hT2 (TDs.ovs _)
      have k1' := k1.same s6
      have hD6 := hD5.same s6
      generalize upd H5 T2 (.tup ((go.map (cutG t)).map ovO)) = H6 at s6 k1' k2 hD6 ⊢
      wtm_at "jw"
      refine i_sortP hD6 fun R H7 pend s7 srt nR hR => ?_
      obtain ⟨rs7, hR7, hw7⟩ := hR
      have k1'' := k1'.same s7
      have k2' := k2.same s7
      wtm_at "jw"
      intro T3 hT3
      have s8 := same_new (o := .tup (rs7.map V.ref)) hT3
      have k3 : TD K (upd H7 T3 (.tup (rs7.map V.ref))) (.ref T3) (.tuple (pend.map pD)) := TD.new hT3 hw7.tds
      have k1a := k1''.same s8
      have k2a := k2'.same s8
      generalize upd H7 T3 (.tup (rs7.map V.ref)) = H8 at s8 k3 k1a k2a ⊢
      wtm_at "jw"
      intro T4 hT4
      exact q _ _ pend ((((s4.trans s5).trans s6).trans s7).trans (s8.trans (same_new hT4))) srt
        (TD.new hT4 (.cons (.str _) (.cons (.int _) (.cons (.int _) (.cons k1a (.cons k2a (.cons k3 .nil)))))))
theorem LD.drew {K : PySem.W.Frag} {p a f : Addr} {H H' : Hp} {ds : List PyData} (h : LD K H f ds) (d : DrawAt H p a) (e : Drew p a H H') (n : f ≠ p) : LD K H' f ds := by
  obtain ⟨xs, hp⟩ := d.some
  exact h.kp e.kp hp n
theorem og_map {f : Option Int → Option Int} (hf : f none = none) (os : List (Option Int)) (i : Nat) : og (os.map f) i = f (og os i) := by
  unfold og
  rw [List.getElem?_map]
  cases os[i]? with
  | none => exact hf.symm
  | some o => rfl
/-- the entry tick as the law finds it -/
def entP (e : Option Int) (s : Nat) (pend : List (Int × Int)) : Option Int := pend.foldl (fun a p => if p.2 = 4 + (s : Int) then some p.1 else a) e
/-- the entry tick as the program finds it -/
def entT (e : Option Int) (s : Nat) (pend : List (Int × Int)) : Option Int := match e with
  | some x => some x
  | none => (pend.find? fun p => decide (p.2 = 4 + (s : Int))).map (·.1)
theorem foldl_filter (s : Nat) : ∀ (l : List (Int × Int)) (e : Option Int), l.foldl (fun a p => if p.2 = 4 + (s : Int) then some p.1 else a) e = (l.filter fun p => decide (p.2 = 4 + (s : Int))).foldl (fun a p => if p.2 = 4 + (s : Int) then some p.1 else a) e
  | [], _ => rfl
  | p :: r, e => by
    rw [List.foldl_cons, foldl_filter s r]
    by_cases h : p.2 = 4 + (s : Int)
    · rw [List.filter_cons_of_pos (p := fun p : Int × Int => decide (p.2 = 4 + (s : Int))) (by simp [h]), List.foldl_cons]
    · rw [List.filter_cons_of_neg (p := fun p : Int × Int => decide (p.2 = 4 + (s : Int))) (by simp [h]), if_neg h]
def mine (en : List (Option Int)) (ho t : Int) (s : Nat) : List (Int × Int) := match og en s with
  | some x => if t < x ∧ x < t + ho then [(x, 4 + (s : Int))] else []
  | none => []
theorem mine_or (en : List (Option Int)) (ho t : Int) (s : Nat) : mine en ho t s = [] ∨ ∃ x, og en s = some x ∧ t < x ∧ x < t + ho ∧ mine en ho t s = [(x, 4 + (s : Int))] := by
  unfold mine
  cases e : og en s with
  | none => exact .inl rfl
  | some x =>
    by_cases h : t < x ∧ x < t + ho
    · exact .inr ⟨x, rfl, h.1, h.2, if_pos h⟩
    · exact .inl (if_neg h)
theorem pendE_filter (en : List (Option Int)) (ho t : Int) (s : Nat) : ∀ n, (pendE en ho t n).filter (fun p => decide (p.2 = 4 + (s : Int))) = if s < n then mine en ho t s else []
  | 0 => rfl
  | n + 1 => by
    rw [show pendE en ho t (n + 1) = pendE en ho t n ++ mine en ho t n from rfl, List.filter_append, pendE_filter en ho t s n]
    by_cases hn : n = s
    · subst hn
      rw [if_neg (by omega), if_pos (by omega), List.nil_append]
      rcases mine_or en ho t n with h | ⟨x, _, _, _, h⟩
      · rw [h]; rfl
      · rw [h, List.filter_cons_of_pos (p := fun p : Int × Int => decide (p.2 = 4 + (n : Int))) (by simp)]; rfl
    · have : (mine en ho t n).filter (fun p => decide (p.2 = 4 + (s : Int))) = [] := by
        rcases mine_or en ho t n with h | ⟨x, _, _, _, h⟩
        · rw [h]; rfl
        · rw [h, List.filter_cons_of_neg (p := fun p : Int × Int => decide (p.2 = 4 + (s : Int))) (by simp; omega)]; rfl
      rw [this, List.append_nil]
      by_cases h : s < n
      · rw [if_pos h, if_pos (by omega)]
      · rw [if_neg h, if_neg (by omega)]
theorem pend_filter {pend fo : List (Int × Int)} {en : List (Option Int)} {ho t : Int} {s : Nat} (h : SortsTo pend (pendF fo ho t ++ pendE en ho t en.length)) (hfo : ∀ q ∈ fo, 1 ≤ q.2 ∧ q.2 ≤ 3) (hs : s < en.length) :
    pend.filter (fun p => decide (p.2 = 4 + (s : Int))) = mine en ho t s := by
  have pm := h.1.filter (fun p => decide (p.2 = 4 + (s : Int)))
  rw [List.filter_append, pendE_filter, if_pos hs] at pm
  have e0 : (pendF fo ho t).filter (fun p => decide (p.2 = 4 + (s : Int))) = [] := by
    rw [List.filter_eq_nil_iff]
    intro q hq
    have := hfo q (List.mem_filter.mp hq).1
    simp
    omega
  rw [e0, List.nil_append] at pm
  rcases mine_or en ho t s with e | ⟨x, _, _, _, e⟩
  · rw [e] at pm ⊢
    exact pm.eq_nil
  · rw [e] at pm ⊢
    exact List.perm_singleton.mp pm
/-- both find the same -/
theorem ent_eq {pend fo : List (Int × Int)} {en : List (Option Int)} {ho t : Int} {s : Nat} (h : SortsTo pend (pendF fo ho t ++ pendE en ho t en.length)) (hfo : ∀ q ∈ fo, 1 ≤ q.2 ∧ q.2 ≤ 3) (hs : s < en.length) :
    entP (og (en.map (cutE t)) s) s pend = entT (og (en.map (cutE t)) s) s pend := by
  have hf := pend_filter h hfo hs
  have hh : pend.find? (fun p => decide (p.2 = 4 + (s : Int))) = (pend.filter fun p => decide (p.2 = 4 + (s : Int))).head? := (List.head?_filter ..).symm
  unfold entP
  rw [foldl_filter, hf, og_map rfl]
  unfold entT
  rw [hh, hf]
  rcases mine_or en ho t s with e | ⟨x, ex, x1, x2, e⟩
  · rw [e]
    cases cutE t (og en s) <;> rfl
  · rw [e, ex]
    unfold cutE
    simp only
    rw [if_neg (by omega)]
    simp
/-- facts of n seats, in which both find the same -/
def FOk (n : Nat) (d : PyData) : Prop := ∃ (t f : Int) (en go : List (Option Int)) (pend : List (Int × Int)), d = factsD t f en go pend ∧ en.length = n ∧ go.length = n ∧ ∀ s < n, entP (og en s) s pend = entT (og en s) s pend
theorem fok_of {pend fo : List (Int × Int)} {en go : List (Option Int)} {ho t f : Int} {n : Nat} (h : SortsTo pend (pendF fo ho t ++ pendE en ho t en.length)) (hfo : ∀ q ∈ fo, 1 ≤ q.2 ∧ q.2 ≤ 3) (h1 : en.length = n) (h2 : go.length = n) :
    FOk n (factsD t f (en.map (cutE t)) (go.map (cutG t)) pend) :=
  ⟨_, _, _, _, _, rfl, by rw [List.length_map, h1], by rw [List.length_map, h2], fun s hs => ent_eq h hfo (by omega)⟩

/-! ### the program -/
def entO (o : Int) : Option Int := if 4 ≤ o then some (o - 4) else none
def sp_entry_of (K : PySem.W.Frag) : Sp := fun vs H Q _ => ∃ (o : Int), vs = [.int o] ∧ Q (ovO (entO o)) H
theorem ok_entry_of {P : Program} {w : World} {K : PySem.W.Frag} {mg : Str → Option Value} {base : Heap} {f : Addr} {fd : FuncData} (F : Df K mg "entry_of" s_entry_of f fd ["order"]) (T : Txt mg) : FnOk P w K mg base CX0 1 f fd ["order"] (sp_entry_of K) := by
  refine F.ok sc_entry_of (fun vs H Q E h => ?_) (fun cdv A outer s H vs Q E hr h => ?_)
  · obtain ⟨o, rfl, _⟩ := h
    rfl
  · obtain ⟨o, rfl, q⟩ := h
    unfold entO at q
    refine ⟨_, (pss_cons (ps_if (pt_cmpR op_ge (pv 0) (pe_cn rfl T.c_FIRST_ENTRY) (nomark _)) (pss_one (ps_ret (pe_op op_sub (pv 0) (pe_cn rfl T.c_FIRST_ENTRY)))) pss_nil)
      (pss_one (ps_ret pe_non))), ?_⟩
    try dsimp only [cxOf, Cx.nox, Cx.wish]
    refine st_of (σ' := [some _]) rfl ?_
    wtm_at "jw"
    refine c_dec (fun h => ?_) (fun h => ?_)
    · rw [if_pos (by omega)] at q
      wtm_at "jw"
      exact q
    · rw [if_neg (by omega)] at q
      wtm_at "jw"
      exact q
theorem find_at {P : Int × Int → Bool} {l : List (Int × Int)} {i : Nat} {p : Int × Int} (h : (l.take i).find? P = none) (e : l[i]? = some p) (hp : P p = true) : l.find? P = some p := by
  have e2 : l = l.take i ++ p :: l.drop (i + 1) := by
    have := (List.take_append_drop (i + 1) l).symm
    rw [List.take_add_one, e] at this
    simpa using this
  rw [e2, List.find?_append, h]
  simp [hp]
def sp_entry_tick (K : PySem.W.Frag) : Sp := fun vs H Q _ => ∃ (x : V) (s : Nat) (t f : Int) (en go : List (Option Int)) (pend : List (Int × Int)), vs = [x, .int (s : Int)] ∧ TD K H x (factsD t f en go pend) ∧ s < en.length ∧ Q (ovO (entT (og en s) s pend)) H
theorem ok_entry_tick {P : Program} {w : World} {K : PySem.W.Frag} {mg : Str → Option Value} {base : Heap} {f : Addr} {fd : FuncData} (F : Df K mg "entry_tick" s_entry_tick f fd ["facts", "seat"]) (T : Txt mg)
    (c_entry_of : Cl P w K mg base 1 "entry_of" (sp_entry_of K)) : FnOk P w K mg base CX0 2 f fd ["facts", "seat"] (sp_entry_tick K) := by
  refine F.ok sc_entry_tick (fun vs H Q E h => ?_) (fun cdv A outer s H vs Q E hr h => ?_)
  · obtain ⟨x, s, t, f, en, go, pend, rfl, _⟩ := h
    rfl
  · obtain ⟨x, n, t, f, en, go, pend, rfl, hx, hs, q⟩ := h
    refine ⟨_, (pss_cons (ps_if (pt_cmpR o_notN (pe_ix (r := rIx K) ix_seq (pe_ix (r := rIxT K) ix_tup (pv 0) pe_int (fun _ _ => rfl)) (pv 1) (fun _ _ => rfl)) pe_non (nomark _)) (pss_one (ps_ret (pe_ix (r := rIx K) ix_seq (pe_ix (r := rIxT K) ix_tup (pv 0) pe_int (fun _ _ => rfl)) (pv 1) (fun _ _ => rfl)))) pss_nil)
      (pss_cons (ps_for PassesOwn.never rfl (pi_tup (pe_ix (r := rIxT K) ix_tup (pv 0) pe_int (fun _ _ => rfl))) (pg_tupK (K := K) rfl rfl (pgs_cons (pg_name (i := 2) sc_entry_tick.nd rfl (Or.inl rfl)) (pgs_cons (pg_name (i := 3) sc_entry_tick.nd rfl (Or.inl rfl)) pgs_nil))) (pss_one (ps_if (pt_cmpR op_eq (pe_cl c_entry_of hr (by decide) rfl (pa_cons (pv 3) pa_nil)) (pv 1) (nomark _)) (pss_one (ps_ret (pv 2))) pss_nil)))
      (pss_one (ps_ret pe_non)))), ?_⟩
    try dsimp only [cxOf, Cx.nox, Cx.wish]
    refine st_of (σ' := [some _, some _, none, none]) rfl ?_
    have oe := od_at (os := en) hs
    cases e1 : og en n with
    | some y =>
      rw [e1] at oe q
      have oe : (en.map oD)[n]? = some (.int y) := oe
      wtm_at "jw"
      refine c_yesN (fun h => by cases h) ?_
      wtm_at "jw"
      exact q
    | none =>
      rw [e1] at oe q
      have oe : (en.map oD)[n]? = some PyData.none := oe
      have oe2 : (en.map oD)[n]? = some (oD none) := oe
      wtm_at "jw"
      refine c_noN rfl ?_
      wtm_at "jw"
      refine i_isTD (by assumption) fun a xs ea hS hT => ?_
      refine f_tup (xs := xs) (fun i σ H' => H' = H ∧ (pend.take i).find? (fun p => decide (p.2 = 4 + (n : Int))) = none ∧ ∃ v1 v2, σ = [some x, some (.int (n : Int)), v1, v2]) ⟨rfl, rfl, none, none, rfl⟩ (fun i σ H' _ h => by rw [h.1]; exact hS) (fun i y σ H' hi h => ?_) (fun σ H' h => ?_)
      · obtain ⟨rfl, hno, v1, v2, rfl⟩ := h
        obtain ⟨p, ep, hp, etk, hlt⟩ := hT.pair_at hi
        wtm_at "jw"
        refine ⟨p.2, rfl, ?_⟩
        unfold entO
        by_cases h4 : 4 ≤ p.2
        · rw [if_pos h4]
          unfold ovO
          wtm_at "jw"
          refine c_dec (fun h => ?_) (fun h => ?_)
          · wtm_at "jw"
            unfold entT at q
            simp only at q
            rw [find_at hno ep (by simp; omega)] at q
            exact q
          · wtm_at "jw"
            refine ⟨rfl, ?_, _, _, rfl⟩
            rw [etk, List.find?_append, hno]
            simp
            omega
        · rw [if_neg h4]
          unfold ovO
          wtm_at "jw"
          refine ⟨rfl, ?_, _, _, rfl⟩
          rw [etk, List.find?_append, hno]
          simp
          omega
      · obtain ⟨rfl, hno, v1, v2, rfl⟩ := h
        rw [hT.len, List.length_map, List.take_length] at hno
        unfold entT at q
        simp only at q
        rw [hno] at q
        wtm_at "jw"
        exact q
def sp_is_present (K : PySem.W.Frag) : Sp := fun vs H Q _ => ∃ (x : V) (s : Nat) (tick : Int) (t f : Int) (en go : List (Option Int)) (pend : List (Int × Int)), vs = [x, .int (s : Int), .int tick] ∧ TD K H x (factsD t f en go pend) ∧ s < en.length ∧ s < go.length ∧ Q (.bl (here (entT (og en s) s pend) (og go s) tick)) H
theorem ok_is_present {P : Program} {w : World} {K : PySem.W.Frag} {mg : Str → Option Value} {base : Heap} {f : Addr} {fd : FuncData} (F : Df K mg "is_present" s_is_present f fd ["facts", "seat", "tick"]) (T : Txt mg)
    (c_entry_tick : Cl P w K mg base 2 "entry_tick" (sp_entry_tick K)) : FnOk P w K mg base CX0 3 f fd ["facts", "seat", "tick"] (sp_is_present K) := by
  refine F.ok sc_is_present (fun vs H Q E h => ?_) (fun cdv A outer s H vs Q E hr h => ?_)
  · obtain ⟨x, s, tick, t, f, en, go, pend, rfl, _⟩ := h
    rfl
  · obtain ⟨x, n, tick, t, f, en, go, pend, rfl, hx, hs, hg, q⟩ := h
    refine ⟨_, (pss_cons (ps_set (i := 3) sc_is_present.nd rfl (Or.inl rfl) (pe_cl c_entry_tick hr (by decide) rfl (pa_cons (pv 0) (pa_cons (pv 1) pa_nil))))
      (pss_cons (ps_if (PW.pt (pw_or (pt_cmpR o_isN (pv 3) pe_non (nomark _)) (pw_or1 (pt_cmpR op_gt (pv 3) (pv 2) (nomark _))))) (pss_one (ps_ret pe_bl)) pss_nil)
      (pss_one (ps_ret (pe_or (pe_cmpR o_isN (pe_ix (r := rIx K) ix_seq (pe_ix (r := rIxT K) ix_tup (pv 0) pe_int (fun _ _ => rfl)) (pv 1) (fun _ _ => rfl)) pe_non (nomark _)) (pe_one (pe_cmpR op_gt (pe_ix (r := rIx K) ix_seq (pe_ix (r := rIxT K) ix_tup (pv 0) pe_int (fun _ _ => rfl)) (pv 1) (fun _ _ => rfl)) (pv 2) (nomark _)))))))), ?_⟩
    try dsimp only [cxOf, Cx.nox, Cx.wish]
    refine st_of (σ' := [some _, some _, some _, none]) rfl ?_
    wtm_at "jw"
    refine ⟨x, n, t, f, en, go, pend, rfl, hx, hs, ?_⟩
    have oe := od_at (os := go) hg
    cases e1 : entT (og en n) n pend with
    | none =>
      rw [e1] at q
      unfold ovO
      wtm_at "jw"
      refine c_yes rfl ?_
      wtm_at "jw"
      exact q
    | some y =>
      rw [e1] at q
      unfold ovO
      wtm_at "jw"
      refine c_no (fun h => by cases h) ?_
      wtm_at "jw"
      refine c_dec (fun h => ?_) (fun h => ?_)
      · have : here (some y) (og go n) tick = false := by simp [here]; omega
        rw [this] at q
        wtm_at "jw"
        exact q
      · cases e2 : og go n with
        | none =>
          rw [e2] at oe q
          have oe : (go.map oD)[n]? = some (oD none) := oe
          have : here (some y) none tick = true := by simp [here]; omega
          rw [this] at q
          wtm_at "jw"
          refine c_yes rfl ?_
          wtm_at "jw"
          exact q
        | some l =>
          rw [e2] at oe q
          have oe : (go.map oD)[n]? = some (.int l) := oe
          have : here (some y) (some l) tick = decide (tick < l) := by simp [here]; omega
          rw [this] at q
          wtm_at "jw"
          refine c_no (fun h => by cases h) ?_
          wtm_at "jw"
          exact q

/-! ### the facts -/
def ob : Option Int → Prop
  | none => True
  | some z => z.natAbs < 10 ^ 12
theorem rp_o {o : Option Int} (h : ob o) : Rp 0 40 (oD o) := by
  cases o with
  | none => exact Rp.non.mono (by decide) (by decide)
  | some z => exact Rp.int h
theorem rp_os {os : List (Option Int)} (h : ∀ o ∈ os, ob o) (hl : os.length ≤ 100) : Rp 1 5000 (.tuple (os.map oD)) := by
  refine (Rp.tup (n := 0) (w := 40) fun d hd => ?_).mono (Nat.le_refl _) ?_
  · obtain ⟨o, ho, rfl⟩ := List.mem_map.mp hd
    exact rp_o (h o ho)
  · rw [List.length_map]; omega
theorem rp_ints {ns : List Int} (h : ∀ z ∈ ns, z.natAbs < 10 ^ 12) (hl : ns.length ≤ 100) : Rp 1 5000 (.tuple (ns.map PyData.int)) := by
  refine (Rp.tup (n := 0) (w := 40) fun d hd => ?_).mono (Nat.le_refl _) ?_
  · obtain ⟨o, ho, rfl⟩ := List.mem_map.mp hd
    exact Rp.int (h o ho)
  · rw [List.length_map]; omega
theorem rp_prs {ps : List (Int × Int)} (h : ∀ p ∈ ps, p.1.natAbs < 10 ^ 12 ∧ p.2.natAbs < 10 ^ 12) (hl : ps.length ≤ 200) : Rp 2 20000 (.tuple (ps.map pD)) := by
  refine (Rp.tup (n := 1) (w := 82) fun d hd => ?_).mono (Nat.le_refl _) ?_
  · obtain ⟨p, hp, rfl⟩ := List.mem_map.mp hd
    have := h p hp
    exact Rp.tup (n := 0) (w := 40) (ds := [.int p.1, .int p.2]) fun d hd => by
      rcases List.mem_cons.mp hd with rfl | hd
      · exact Rp.int this.1
      · rw [List.mem_singleton.mp hd]; exact Rp.int this.2
  · rw [List.length_map]; omega
theorem rp_facts {t f : Int} {en go : List (Option Int)} {pend : List (Int × Int)} (ht : t.natAbs < 10 ^ 12) (hf : f.natAbs < 10 ^ 12) (he : ∀ o ∈ en, ob o) (hg : ∀ o ∈ go, ob o) (hp : ∀ p ∈ pend, p.1.natAbs < 10 ^ 12 ∧ p.2.natAbs < 10 ^ 12)
    (l1 : en.length ≤ 100) (l2 : go.length ≤ 100) (l3 : pend.length ≤ 200) : Rp 3 120006 (factsD t f en go pend) := by
  refine (Rp.tup (n := 2) (w := 20000) (ds := [.str "facts", .int t, .int f, .tuple (en.map oD), .tuple (go.map oD), .tuple (pend.map pD)]) ?_).mono (Nat.le_refl _) (by simp)
  simp only [List.forall_mem_cons]
  exact ⟨Rp.facts.mono (by decide) (by decide), (Rp.int ht).mono (by decide) (by decide), (Rp.int hf).mono (by decide) (by decide), (rp_os he l1).mono (by decide) (by decide), (rp_os hg l2).mono (by decide) (by decide), rp_prs hp l3, by simp⟩
theorem shp_facts (t f : Int) (en go : List (Option Int)) (pend : List (Int × Int)) : Shp 3 (factsD t f en go pend) := by
  refine Shp.tup (ds := [.str "facts", .int t, .int f, .tuple (en.map oD), .tuple (go.map oD), .tuple (pend.map pD)]) ?_
  simp only [List.forall_mem_cons]
  exact ⟨(Shp.str (by decide +kernel)).mono (by decide), (Shp.int _).mono (by decide), (Shp.int _).mono (by decide), (Shp.ovs _).mono (by decide), (Shp.ovs _).mono (by decide), Shp.prs _, by simp⟩

theorem inV_ints (z : Int) (ns : List Int) : inV (.int z) (ns.map V.int) = decide (z ∈ ns) := by
  unfold inV
  rw [List.any_map, Bool.eq_iff_iff, List.any_eq_true, decide_eq_true_eq]
  constructor
  · rintro ⟨y, hy, e⟩
    have : y = z := by simpa [eqV] using e
    exact this ▸ hy
  · intro h
    exact ⟨z, h, by simp [eqV]⟩
theorem flat_ints (ns : List Int) : (ns.map V.int).all flatV = true := by
  rw [List.all_map, List.all_eq_true]
  intro x _
  rfl
section
variable {K : PySem.W.Frag} {H : Hp} {Q : VK} {p : Addr} {z : Int} {ns : List Int}
theorem i_inT (h : SqT K H p (ns.map V.int)) (q : Q (.bl (decide (z ∈ ns))) H) : rIn K false (.int z) (.ref p) H Q := ⟨p, _, rfl, .inr h, rfl, flat_ints ns, by rw [inV_ints]; exact q⟩
theorem i_inL (h : SqL K H p (ns.map V.int)) (q : Q (.bl (decide (z ∈ ns))) H) : rIn K false (.int z) (.ref p) H Q := ⟨p, _, rfl, .inl h, rfl, flat_ints ns, by rw [inV_ints]; exact q⟩
theorem i_ninT (h : SqT K H p (ns.map V.int)) (q : Q (.bl (!decide (z ∈ ns))) H) : rIn K true (.int z) (.ref p) H Q := ⟨p, _, rfl, .inr h, rfl, flat_ints ns, by rw [inV_ints]; exact q⟩
theorem i_ninL (h : SqL K H p (ns.map V.int)) (q : Q (.bl (!decide (z ∈ ns))) H) : rIn K true (.int z) (.ref p) H Q := ⟨p, _, rfl, .inl h, rfl, flat_ints ns, by rw [inV_ints]; exact q⟩
end

def perL (ent : Nat → Option Int) (go : List (Option Int)) (t : Int) (n : Nat) : List Nat := (List.range n).filter fun s => here (ent s) (og go s) t
theorem perL_succ (ent : Nat → Option Int) (go : List (Option Int)) (t : Int) (n : Nat) : perL ent go t (n + 1) = if here (ent n) (og go n) t = true then perL ent go t n ++ [n] else perL ent go t n := by
  unfold perL
  rw [List.range_succ, List.filter_append]
  by_cases h : here (ent n) (og go n) t = true
  · rw [if_pos h, List.filter_cons_of_pos (p := fun s => here (ent s) (og go s) t) h]; rfl
  · rw [if_neg h, List.filter_cons_of_neg (p := fun s => here (ent s) (og go s) t) h]; simp
theorem perL_len (ent : Nat → Option Int) (go : List (Option Int)) (t : Int) (n : Nat) : (perL ent go t n).length ≤ n := by
  have := List.length_filter_le (fun s => here (ent s) (og go s) t) (List.range n)
  rw [List.length_range] at this
  exact this
theorem perL_lt {ent : Nat → Option Int} {go : List (Option Int)} {t : Int} {n s : Nat} (h : s ∈ perL ent go t n) : s < n := by
  unfold perL at h
  rw [List.mem_filter, List.mem_range] at h
  exact h.1
theorem perL_eq {e1 e2 : Nat → Option Int} {go : List (Option Int)} {t : Int} {n : Nat} (h : ∀ s < n, e1 s = e2 s) : perL e1 go t n = perL e2 go t n := by
  unfold perL
  refine List.filter_congr fun s hs => ?_
  rw [h s (List.mem_range.mp hs)]
def iD (n : Nat) : PyData := .int (n : Int)

def headO (l : List Nat) : Option Int := match l with
  | [] => none
  | n :: _ => some (n : Int)
def sp_speaker_at (K : PySem.W.Frag) : Sp := fun vs H Q _ => ∃ (x : V) (tick t f : Int) (en go : List (Option Int)) (pend : List (Int × Int)), vs = [x, .int tick] ∧ TD K H x (factsD t f en go pend) ∧ en.length = go.length ∧ en.length ≤ 100 ∧
  Q (ovO (headO (perL (fun s => entT (og en s) s pend) go tick en.length))) H
theorem perL_split (ent : Nat → Option Int) (go : List (Option Int)) (t : Int) : ∀ (n m : Nat), n ≤ m → ∃ r, perL ent go t m = perL ent go t n ++ r
  | n, 0, h => by
    have : n = 0 := by omega
    subst this
    exact ⟨[], by simp⟩
  | n, m + 1, h => by
    by_cases e : n = m + 1
    · subst e; exact ⟨[], by simp⟩
    · obtain ⟨r, hr⟩ := perL_split ent go t n m (by omega)
      rw [perL_succ]
      split
      · exact ⟨r ++ [m], by rw [hr, List.append_assoc]⟩
      · exact ⟨r, hr⟩
theorem ok_speaker_at {P : Program} {w : World} {K : PySem.W.Frag} {mg : Str → Option Value} {base : Heap} {f : Addr} {fd : FuncData} (F : Df K mg "speaker_at" s_speaker_at f fd ["facts", "tick"]) (T : Txt mg)
    (c_is_present : Cl P w K mg base 3 "is_present" (sp_is_present K)) : FnOk P w K mg base CX0 4 f fd ["facts", "tick"] (sp_speaker_at K) := by
  refine F.ok sc_speaker_at (fun vs H Q E h => ?_) (fun cdv A outer s H vs Q E hr h => ?_)
  · obtain ⟨x, tick, t, f, en, go, pend, rfl, _⟩ := h
    rfl
  · obtain ⟨x, tick, t, f, en, go, pend, rfl, hx, hl, hn, q⟩ := h
    refine ⟨_, (pss_cons (ps_for PassesOwn.never rfl (pi_range1 rfl T.b_range (pa_cons (pe_callB (id := "len") (r := qLen K) c_len (by rfl) T.b_len (by decide +kernel) (pa_cons (pe_ix (r := rIxT K) ix_tup (pv 0) pe_int (fun _ _ => rfl)) pa_nil)) pa_nil)) (pg_name (i := 2) sc_speaker_at.nd rfl (Or.inl rfl)) (pss_one (ps_if (pt_val (pe_cl c_is_present hr (by decide) rfl (pa_cons (pv 0) (pa_cons (pv 2) (pa_cons (pv 1) pa_nil))))) (pss_one (ps_ret (pv 2))) pss_nil)))
      (pss_one (ps_ret pe_non))), ?_⟩
    try dsimp only [cxOf, Cx.nox, Cx.wish]
    refine st_of (σ' := [some _, some _, none]) rfl ?_
    wtm_at "jw"
    rw [List.length_map, Int.toNat_natCast]
    refine f_range (fun i σ H' => H' = H ∧ perL (fun s => entT (og en s) s pend) go tick i = [] ∧ ∃ v1, σ = [some x, some (.int tick), v1]) ⟨rfl, rfl, none, rfl⟩ (fun i σ H' hi h => ?_) (fun σ H' h => ?_)
    · obtain ⟨rfl, hno, v1, rfl⟩ := h
      wtm_at "jw"
      rw [Int.zero_add]
      refine ⟨x, i, tick, t, f, en, go, pend, rfl, hx, hi, by omega, ?_⟩
      wtm_at "jw"
      refine c_bool (fun h => ?_) (fun h => ?_)
      · wtm_at "jw"
        obtain ⟨r, hr'⟩ := perL_split (fun s => entT (og en s) s pend) go tick (i + 1) en.length (by omega)
        rw [hr', perL_succ, if_pos h, hno] at q
        exact q
      · wtm_at "jw"
        exact ⟨rfl, by rw [perL_succ, if_neg (by rw [h]; exact Bool.false_ne_true), hno], _, rfl⟩
    · obtain ⟨rfl, hno, v1, rfl⟩ := h
      rw [hno] at q
      wtm_at "jw"
      exact q

/-! ### the settling of a tick -/
/-- what is so of the history ahead of the tick t -/
structure Pst (n : Nat) (t ho : Int) (en go : List (Option Int)) (fo : List (Int × Int)) : Prop where
  le : en.length = n
  lg : go.length = n
  t0 : 0 ≤ t
  h3 : 3 ≤ ho
  f1 : ∀ p ∈ fo, ho ≤ p.1 ∧ p.1 < t + ho ∧ 1 ≤ p.2 ∧ p.2 ≤ 3
  f2 : fo.Pairwise fun p q => p.1 < q.1
  e1 : ∀ s x, og en s = some x → 0 ≤ x ∧ x < t + ho
  e2 : ∀ s x, og en s = some x → 0 < x → ∀ p ∈ fo, p.1 ≠ x
  e3 : ∀ s u x, og en s = some x → og en u = some x → 0 < x → s = u
  g1 : ∀ s x, og go s = some x → 0 ≤ x ∧ x < t
theorem mem_pendE {en : List (Option Int)} {ho t : Int} {p : Int × Int} : ∀ {n : Nat}, p ∈ pendE en ho t n ↔ ∃ s, s < n ∧ og en s = some p.1 ∧ t < p.1 ∧ p.1 < t + ho ∧ p.2 = 4 + (s : Int)
  | 0 => by simp [pendE]
  | n + 1 => by
    rw [pendE, List.mem_append, mem_pendE (n := n)]
    constructor
    · rintro (⟨s, h1, h2⟩ | h)
      · exact ⟨s, by omega, h2⟩
      · cases e : og en n with
        | none => rw [e] at h; cases h
        | some x =>
          rw [e] at h
          simp only at h
          split at h
          · rename_i hx
            rw [List.mem_singleton] at h
            subst h
            exact ⟨n, by omega, e, hx.1, hx.2, rfl⟩
          · cases h
    · rintro ⟨s, h1, h2, h3, h4, h5⟩
      by_cases hs : s < n
      · exact .inl ⟨s, hs, h2, h3, h4, h5⟩
      · have : s = n := by omega
        subst this
        right
        rw [h2]
        simp only
        rw [if_pos ⟨h3, h4⟩, List.mem_singleton]
        exact Prod.ext rfl h5
theorem pendE_nodup (en : List (Option Int)) (ho t : Int) : ∀ n, (pendE en ho t n).Nodup
  | 0 => List.nodup_nil
  | n + 1 => by
    rw [pendE]
    refine List.nodup_append.mpr ⟨pendE_nodup en ho t n, ?_, ?_⟩
    · split
      · split
        · simp
        · exact List.nodup_nil
      · exact List.nodup_nil
    · intro p hp q hq e
      subst e
      obtain ⟨s, h1, _, _, _, h5⟩ := mem_pendE.mp hp
      split at hq
      · split at hq
        · rw [List.mem_singleton] at hq
          rw [hq] at h5
          simp only at h5
          omega
        · cases hq
      · cases hq
theorem nodup_of_lt {fo : List (Int × Int)} (h : fo.Pairwise fun p q => p.1 < q.1) : fo.Nodup := h.imp fun {a b} hab e => by subst e; omega
/-- all that is pending -/
def pendL (en : List (Option Int)) (fo : List (Int × Int)) (ho t : Int) (n : Nat) : List (Int × Int) := pendF fo ho t ++ pendE en ho t n
theorem mem_pendL {n : Nat} {t ho : Int} {en : List (Option Int)} {fo : List (Int × Int)} {p : Int × Int} : p ∈ pendL en fo ho t n ↔ (p ∈ fo ∧ t < p.1 ∧ p.1 < t + ho) ∨ ∃ s, s < n ∧ og en s = some p.1 ∧ t < p.1 ∧ p.1 < t + ho ∧ p.2 = 4 + (s : Int) := by
  unfold pendL pendF
  rw [List.mem_append, mem_pendE, List.mem_filter]
  simp
theorem pendL_nodup {n : Nat} {t ho : Int} {en : List (Option Int)} {fo : List (Int × Int)} (h1 : fo.Nodup) (h2 : ∀ p ∈ fo, p.2 ≤ 3) : (pendL en fo ho t n).Nodup := by
  unfold pendL pendF
  refine List.nodup_append.mpr ⟨h1.filter _, pendE_nodup en ho t n, fun p hp q hq e => ?_⟩
  subst e
  have := h2 p (List.mem_filter.mp hp).1
  obtain ⟨s, _, _, _, _, h5⟩ := mem_pendE.mp hq
  omega
/-- two sorted rows with the same pairs, none of them twice -/
theorem sorted_eq {l m : List (Int × Int)} (hl : l.Pairwise fun p q => SrtO.lexB q p = false) (hm : m.Pairwise fun p q => SrtO.lexB q p = false) (nl : l.Nodup) (nm : m.Nodup) (h : ∀ p, p ∈ l ↔ p ∈ m) : l = m := by
  refine List.Perm.eq_of_pairwise (le := fun p q => SrtO.lexB q p = false) (fun a b _ _ h1 h2 => ?_) hl hm ((List.perm_ext_iff_of_nodup nl nm).mpr h)
  have a1 := SrtO.lexB_no.mp h1
  have a2 := SrtO.lexB_no.mp h2
  exact Prod.ext (by omega) (by omega)
/-! the program's three folds -/
def leftL (t : Int) (ps : List (Int × Int)) : List (Int × Int) := ps.filter fun p => decide (t < p.1)
def forceP (f t : Int) (ps : List (Int × Int)) : Int := ps.foldl (fun a p => if t < p.1 then a else if p.2 < 4 then p.2 else a) f
def entF (e : List (Option Int)) (t : Int) (ps : List (Int × Int)) : List (Option Int) := ps.foldl (fun a p => if t < p.1 then a else if p.2 < 4 then a else a.set (p.2 - 4).toNat (some p.1)) e
def hitL (t : Int) (ps : List (Int × Int)) : List (Int × Int) := ps.filter fun p => decide (p.1 ≤ t)
theorem forceP_hit (t : Int) : ∀ (ps : List (Int × Int)) (f : Int), forceP f t ps = forceP f t (hitL t ps)
  | [], _ => rfl
  | p :: r, f => by
    unfold forceP hitL
    rw [List.foldl_cons]
    have ih := forceP_hit t r
    unfold forceP hitL at ih
    by_cases h : t < p.1
    · rw [if_pos h, List.filter_cons_of_neg (by simp; omega)]
      exact ih _
    · rw [List.filter_cons_of_pos (by simp; omega), List.foldl_cons]
      exact ih _
theorem entF_hit (t : Int) : ∀ (ps : List (Int × Int)) (e : List (Option Int)), entF e t ps = entF e t (hitL t ps)
  | [], _ => rfl
  | p :: r, e => by
    unfold entF hitL
    rw [List.foldl_cons]
    have ih := entF_hit t r
    unfold entF hitL at ih
    by_cases h : t < p.1
    · rw [if_pos h, List.filter_cons_of_neg (by simp; omega)]
      exact ih _
    · rw [List.filter_cons_of_pos (by simp; omega), List.foldl_cons]
      exact ih _
theorem nodup_one {α : Type} {l : List α} (n : l.Nodup) (h : ∀ x ∈ l, ∀ y ∈ l, x = y) : l = [] ∨ ∃ x, l = [x] := by
  cases l with
  | nil => exact .inl rfl
  | cons x r =>
    cases r with
    | nil => exact .inr ⟨x, rfl⟩
    | cons y r =>
      have := h x (by simp) y (by simp)
      subst this
      simp at n
theorem forceL_same {fo : List (Int × Int)} {t u : Int} (h : ∀ p ∈ fo, p.1 ≤ t ↔ p.1 ≤ u) : forceL fo t = forceL fo u := by
  unfold forceL
  suffices hh : ∀ (l : List (Int × Int)) (a : Int), (∀ p ∈ l, p.1 ≤ t ↔ p.1 ≤ u) → l.foldl (fun a p => if p.1 ≤ t then p.2 else a) a = l.foldl (fun a p => if p.1 ≤ u then p.2 else a) a from hh fo 0 h
  intro l
  induction l with
  | nil => intro a _; rfl
  | cons p r ih =>
    intro a hl
    rw [List.foldl_cons, List.foldl_cons, ih _ fun q hq => hl q (List.mem_cons_of_mem _ hq)]
    have := hl p List.mem_cons_self
    by_cases hp : p.1 ≤ t
    · rw [if_pos hp, if_pos (this.mp hp)]
    · rw [if_neg hp, if_neg fun z => hp (this.mpr z)]
theorem forceL_app (fo : List (Int × Int)) (p : Int × Int) (t : Int) : forceL (fo ++ [p]) t = if p.1 ≤ t then p.2 else forceL fo t := by
  unfold forceL
  rw [List.foldl_append]; rfl
theorem forceL_big {t : Int} : ∀ {r : List (Int × Int)} (a : Int), (∀ p ∈ r, t < p.1) → r.foldl (fun a p => if p.1 ≤ t then p.2 else a) a = a
  | [], _, _ => rfl
  | p :: r, a, h => by
    rw [List.foldl_cons, if_neg (by have := h p List.mem_cons_self; omega)]
    exact forceL_big a fun q hq => h q (List.mem_cons_of_mem _ hq)
theorem forceL_mem {fo : List (Int × Int)} {p : Int × Int} (h : fo.Pairwise fun p q => p.1 < q.1) (hp : p ∈ fo) : forceL fo p.1 = p.2 := by
  obtain ⟨a, b, rfl⟩ := List.append_of_mem hp
  have h2 := (List.pairwise_append.mp h).2.1
  rw [List.pairwise_cons] at h2
  unfold forceL
  rw [List.foldl_append, List.foldl_cons, if_pos (Int.le_refl _)]
  exact forceL_big _ h2.1
theorem list_ext {l m : List (Option Int)} (hl : l.length = m.length) (h : ∀ s, s < l.length → og l s = og m s) : l = m := by
  refine List.ext_getElem? fun i => ?_
  by_cases hi : i < l.length
  · have := h i hi
    unfold og at this
    rw [List.getElem?_eq_getElem hi, List.getElem?_eq_getElem (by omega)] at this ⊢
    simpa using this
  · rw [List.getElem?_eq_none (by omega), List.getElem?_eq_none (by omega)]
theorem og_set {l : List (Option Int)} {i s : Nat} {v : Option Int} (hi : i < l.length) : og (l.set i v) s = if s = i then v else og l s := by
  unfold og
  rw [List.getElem?_set]
  by_cases h : i = s
  · subst h
    simp [hi]
  · rw [if_neg h, if_neg (fun z => h z.symm)]
section
variable {n : Nat} {t ho : Int} {en go : List (Option Int)} {fo pend : List (Int × Int)}
theorem Pst.mem (P : Pst n t ho en go fo) (h : SortsTo pend (pendL en fo ho t n)) {p : Int × Int} : p ∈ pend ↔ (p ∈ fo ∧ t < p.1) ∨ ∃ s, s < n ∧ og en s = some p.1 ∧ t < p.1 ∧ p.2 = 4 + (s : Int) := by
  rw [h.1.mem_iff, mem_pendL]
  constructor
  · rintro (⟨a, b, c⟩ | ⟨s, a, b, c, d, e⟩)
    · exact .inl ⟨a, b⟩
    · exact .inr ⟨s, a, b, c, e⟩
  · rintro (⟨a, b⟩ | ⟨s, a, b, c, e⟩)
    · exact .inl ⟨a, b, (P.f1 p a).2.1⟩
    · exact .inr ⟨s, a, b, c, (P.e1 s p.1 b).2, e⟩
theorem Pst.nodup (P : Pst n t ho en go fo) (h : SortsTo pend (pendL en fo ho t n)) : pend.Nodup :=
  h.1.nodup_iff.mpr (pendL_nodup (nodup_of_lt P.f2) fun p hp => (P.f1 p hp).2.2.2)
theorem Pst.ent (P : Pst n t ho en go fo) (h : SortsTo pend (pendL en fo ho t n)) {s : Nat} (hs : s < n) : entT (og (en.map (cutE t)) s) s pend = og en s := by
  rw [og_map rfl]
  have none_of : (∀ x, og en s = some x → x ≤ t) → pend.find? (fun p => decide (p.2 = 4 + (s : Int))) = none := by
    intro hh
    rw [List.find?_eq_none]
    intro p hp
    rcases (P.mem h).mp hp with ⟨a, b⟩ | ⟨u, a, b, c, e⟩
    · have := (P.f1 p a).2.2.2
      simp; omega
    · simp
      intro z
      have : u = s := by omega
      subst this
      have := hh _ b
      omega
  cases e : og en s with
  | none =>
    show Option.map (·.1) (pend.find? _) = none
    rw [none_of (fun x hx => by rw [e] at hx; cases hx)]; rfl
  | some x =>
    by_cases hx : x ≤ t
    · unfold cutE
      simp only
      rw [if_pos hx]
      rfl
    · have hm : (x, 4 + (s : Int)) ∈ pend := (P.mem h).mpr (.inr ⟨s, hs, e, by omega, rfl⟩)
      unfold cutE
      simp only
      rw [if_neg hx]
      show Option.map (·.1) (pend.find? _) = some x
      cases ef : pend.find? (fun p => decide (p.2 = 4 + (s : Int))) with
      | none =>
        have := List.find?_eq_none.mp ef _ hm
        simp at this
      | some q =>
        have h1 := List.find?_some ef
        have h2 := List.mem_of_find?_eq_some ef
        rcases (P.mem h).mp h2 with ⟨a, b⟩ | ⟨u, a, b, c, e2⟩
        · have := (P.f1 q a).2.2.2
          simp at h1; omega
        · simp at h1
          have : u = s := by omega
          subst this
          rw [e] at b
          simp only [Option.map_some]
          exact b.symm
theorem Pst.cutG (P : Pst n t ho en go fo) : go.map (cutG t) = go := by
  refine list_ext (by rw [List.length_map]) fun s hs => ?_
  rw [og_map rfl]
  cases e : og go s with
  | none => rfl
  | some x =>
    have := (P.g1 s x e).2
    show (if x < t then some x else none) = some x
    rw [if_pos this]
/-- the tick's hits: at most one -/
theorem Pst.hit (P : Pst n t ho en go fo) (h : SortsTo pend (pendL en fo ho t n)) : hitL (t + 1) pend = [] ∨ ∃ p, hitL (t + 1) pend = [p] := by
  refine nodup_one ((P.nodup h).filter _) fun x hx y hy => ?_
  unfold hitL at hx hy
  rw [List.mem_filter] at hx hy
  have x1 : x.1 ≤ t + 1 := by simpa using hx.2
  have y1 : y.1 ≤ t + 1 := by simpa using hy.2
  have t0 := P.t0
  rcases (P.mem h).mp hx.1 with ⟨a, b⟩ | ⟨u, a, b, c, e⟩ <;> rcases (P.mem h).mp hy.1 with ⟨a', b'⟩ | ⟨u', a', b', c', e'⟩
  · have ee : x.1 = y.1 := by omega
    obtain ⟨l, m, rfl⟩ := List.append_of_mem a
    have hp := List.pairwise_append.mp P.f2
    rcases List.mem_append.mp a' with z | z
    · have := hp.2.2 y z x List.mem_cons_self
      omega
    · rcases List.mem_cons.mp z with z | z
      · exact z.symm
      · have := (List.pairwise_cons.mp hp.2.1).1 y z
        omega
  · exact absurd (show x.1 = y.1 by omega) (P.e2 u' y.1 b' (by omega) x a)
  · exact absurd (show y.1 = x.1 by omega) (P.e2 u x.1 b (by omega) y a')
  · have ee : x.1 = y.1 := by omega
    rw [← ee] at b'
    have := P.e3 u u' x.1 b b' (by omega)
    subst this
    exact Prod.ext ee (by omega)
/-- what the program makes of the pending rows is what the history says at the next tick -/
theorem Pst.force (P : Pst n t ho en go fo) (h : SortsTo pend (pendL en fo ho t n)) : forceP (forceL fo t) (t + 1) pend = forceL fo (t + 1) := by
  rw [forceP_hit]
  rcases P.hit h with e | ⟨p, e⟩
  · rw [e]
    show forceL fo t = _
    refine forceL_same fun p hp => ⟨fun z => by omega, fun z => ?_⟩
    by_cases hh : p.1 ≤ t
    · exact hh
    · have : p ∈ hitL (t + 1) pend := by
        unfold hitL
        rw [List.mem_filter]
        exact ⟨(P.mem h).mpr (.inl ⟨hp, by omega⟩), by simpa using z⟩
      rw [e] at this; cases this
  · have hm : p ∈ hitL (t + 1) pend := by rw [e]; simp
    have hm2 := hm
    unfold hitL at hm
    rw [List.mem_filter] at hm
    have p1 : p.1 ≤ t + 1 := by simpa using hm.2
    rw [e]
    show (if t + 1 < p.1 then forceL fo t else if p.2 < 4 then p.2 else forceL fo t) = _
    rw [if_neg (by omega)]
    rcases (P.mem h).mp hm.1 with ⟨a, b⟩ | ⟨u, a, b, c, e2⟩
    · have := (P.f1 p a).2.2.2
      rw [if_pos (by omega)]
      have e3 := forceL_mem P.f2 a
      rw [show p.1 = t + 1 by omega] at e3
      exact e3.symm
    · rw [if_neg (by omega)]
      refine forceL_same fun q hq => ⟨fun z => by omega, fun z => ?_⟩
      by_cases hh : q.1 ≤ t
      · exact hh
      · exact absurd (show q.1 = p.1 by omega) (P.e2 u p.1 b (by have := P.t0; omega) q hq)
theorem Pst.entered (P : Pst n t ho en go fo) (h : SortsTo pend (pendL en fo ho t n)) : entF (en.map (cutE t)) (t + 1) pend = en.map (cutE (t + 1)) := by
  rw [entF_hit]
  have base : ∀ s x, og en s = some x → x ≤ t + 1 → t < x → (x, 4 + (s : Int)) ∈ hitL (t + 1) pend := by
    intro s x hx h1 h2
    unfold hitL
    rw [List.mem_filter]
    have hs : s < n := by
      rw [← P.le]
      unfold og at hx
      rcases Nat.lt_or_ge s en.length with z | z
      · exact z
      · rw [List.getElem?_eq_none z] at hx; cases hx
    exact ⟨(P.mem h).mpr (.inr ⟨s, hs, hx, h2, rfl⟩), by simpa using h1⟩
  rcases P.hit h with e | ⟨p, e⟩
  · rw [e]
    show en.map (cutE t) = _
    refine list_ext (by simp) fun s hs => ?_
    rw [og_map rfl, og_map rfl]
    cases e2 : og en s with
    | none => rfl
    | some x =>
      unfold cutE
      simp only
      by_cases hx : x ≤ t
      · rw [if_pos hx, if_pos (by omega)]
      · rw [if_neg hx]
        by_cases hx2 : x ≤ t + 1
        · have := base s x e2 hx2 (by omega)
          rw [e] at this; cases this
        · rw [if_neg hx2]
  · have hm : p ∈ hitL (t + 1) pend := by rw [e]; simp
    unfold hitL at hm
    rw [List.mem_filter] at hm
    have p1 : p.1 ≤ t + 1 := by simpa using hm.2
    have only : ∀ s x, og en s = some x → x ≤ t + 1 → t < x → (x, 4 + (s : Int)) = p := fun s x a b c => by
      have := base s x a b c
      rw [e] at this
      exact List.mem_singleton.mp this
    rw [e]
    show (if t + 1 < p.1 then en.map (cutE t) else if p.2 < 4 then en.map (cutE t) else (en.map (cutE t)).set (p.2 - 4).toNat (some p.1)) = _
    rw [if_neg (by omega)]
    rcases (P.mem h).mp hm.1 with ⟨a, b⟩ | ⟨u, a, b, c, e2⟩
    · have := (P.f1 p a).2.2.2
      rw [if_pos (by omega)]
      refine list_ext (by simp) fun s hs => ?_
      rw [og_map rfl, og_map rfl]
      cases e2 : og en s with
      | none => rfl
      | some x =>
        unfold cutE
        simp only
        by_cases hx : x ≤ t
        · rw [if_pos hx, if_pos (by omega)]
        · rw [if_neg hx]
          by_cases hx2 : x ≤ t + 1
          · have e3 := congrArg Prod.snd (only s x e2 hx2 (by omega))
            simp only at e3
            omega
          · rw [if_neg hx2]
    · rw [if_neg (by omega)]
      have hu : (p.2 - 4).toNat = u := by omega
      rw [hu]
      refine list_ext (by simp) fun s hs => ?_
      rw [og_set (by rw [List.length_map, P.le]; exact a), og_map rfl, og_map rfl]
      by_cases hsu : s = u
      · subst hsu
        rw [if_pos rfl, b]
        unfold cutE
        simp only
        rw [if_pos p1]
      · rw [if_neg hsu]
        cases e3 : og en s with
        | none => rfl
        | some x =>
          unfold cutE
          simp only
          by_cases hx : x ≤ t
          · rw [if_pos hx, if_pos (by omega)]
          · rw [if_neg hx]
            by_cases hx2 : x ≤ t + 1
            · have e4 := congrArg Prod.snd (only s x e3 hx2 (by omega))
              simp only at e4
              omega
            · rw [if_neg hx2]
end
section
variable {n : Nat} {t ho : Int} {en go : List (Option Int)} {fo pend : List (Int × Int)}
/-- the history behind the tick: seats go, then an order may take hold -/
def goneL (go : List (Option Int)) (lack : List Nat) (t : Int) : List (Option Int) := lack.foldl (fun a s => a.set s (some t)) go
theorem goneL_len (lack : List Nat) (t : Int) : ∀ go, (goneL go lack t).length = go.length := by
  induction lack with
  | nil => intro go; rfl
  | cons s r ih =>
    intro go
    show (goneL (go.set s (some t)) r t).length = _
    rw [ih, List.length_set]
theorem goneL_og (t : Int) : ∀ (lack : List Nat) (go : List (Option Int)) (s : Nat), (∀ u ∈ lack, u < go.length) → og (goneL go lack t) s = if s ∈ lack then some t else og go s
  | [], go, s, _ => by simp [goneL]
  | u :: r, go, s, h => by
    show og (goneL (go.set u (some t)) r t) s = _
    rw [goneL_og t r _ s fun v hv => by rw [List.length_set]; exact h v (List.mem_cons_of_mem _ hv), og_set (h u List.mem_cons_self)]
    by_cases h1 : s ∈ r
    · rw [if_pos h1, if_pos (List.mem_cons_of_mem _ h1)]
    · rw [if_neg h1]
      by_cases h2 : s = u
      · rw [if_pos h2, if_pos (by rw [h2]; exact List.mem_cons_self)]
      · rw [if_neg h2, if_neg (by simp [h1, h2])]
theorem cnts_pos {o pa : Int} {en : List (Option Int)} (h : cnts o pa en = true) : o ≠ 0 := fun z => by subst z; simp [cnts] at h
theorem cnts_entry {o pa : Int} {en : List (Option Int)} (h : cnts o pa en = true) (h4 : ¬ o < 4) : (o - 4).toNat < en.length ∧ og en (o - 4).toNat = none := by
  unfold cnts at h
  rw [if_neg (cnts_pos h), if_neg h4] at h
  simp only [Bool.and_eq_true, decide_eq_true_eq, Option.isNone_iff_eq_none] at h
  exact ⟨by omega, h.2⟩
/-- the next tick's history is as it must be -/
theorem Pst.next (P : Pst n t ho en go fo) {lack : List Nat} (hl : ∀ u ∈ lack, u < n) {o pa : Int} (h0 : 0 ≤ o) : Pst n (t + 1) ho (takeE o pa ho t en) (goneL go lack t) (takeF o pa ho t en fo) ∧ Pst n (t + 1) ho en (goneL go lack t) fo := by
  have t0 := P.t0
  have h3 := P.h3
  have G : ∀ s x, og (goneL go lack t) s = some x → 0 ≤ x ∧ x < t + 1 := fun s x h => by
    rw [goneL_og t lack go s fun u hu => by rw [P.lg]; exact hl u hu] at h
    split at h
    · cases h; omega
    · have := P.g1 s x h; omega
  have plain : Pst n (t + 1) ho en (goneL go lack t) fo := ⟨P.le, by rw [goneL_len, P.lg], by omega, h3, fun p hp => ⟨(P.f1 p hp).1, by have := (P.f1 p hp).2.1; omega, (P.f1 p hp).2.2⟩, P.f2,
    fun s x h => ⟨(P.e1 s x h).1, by have := (P.e1 s x h).2; omega⟩, P.e2, P.e3, G⟩
  refine ⟨?_, plain⟩
  unfold takeE takeF
  by_cases hc : cnts o pa en = true
  · rw [if_pos hc, if_pos hc]
    have o0 := cnts_pos hc
    by_cases h4 : o < 4
    · rw [if_pos h4, if_pos h4]
      refine ⟨P.le, plain.lg, plain.t0, h3, fun p hp => ?_, ?_, plain.e1, fun s x h hx p hp => ?_, P.e3, G⟩
      · rcases List.mem_append.mp hp with hp | hp
        · exact plain.f1 p hp
        · rw [List.mem_singleton.mp hp]
          show ho ≤ t + ho ∧ t + ho < t + 1 + ho ∧ 1 ≤ o ∧ o ≤ 3
          omega
      · refine List.pairwise_append.mpr ⟨P.f2, List.pairwise_singleton _ _, fun p hp q hq => ?_⟩
        rw [List.mem_singleton.mp hq]
        exact (P.f1 p hp).2.1
      · rcases List.mem_append.mp hp with hp | hp
        · exact P.e2 s x h hx p hp
        · rw [List.mem_singleton.mp hp]
          have := (P.e1 s x h).2
          show t + ho ≠ x
          omega
    · rw [if_neg h4, if_neg h4]
      obtain ⟨c1, c2⟩ := cnts_entry hc h4
      have at_ : ∀ s x, og (en.set (o - 4).toNat (some (t + ho))) s = some x → (s = (o - 4).toNat ∧ x = t + ho) ∨ (s ≠ (o - 4).toNat ∧ og en s = some x) := fun s x h => by
        rw [og_set c1] at h
        split at h
        · rename_i z
          cases h
          exact .inl ⟨z, rfl⟩
        · rename_i z
          exact .inr ⟨z, h⟩
      refine ⟨by rw [List.length_set, P.le], plain.lg, plain.t0, h3, plain.f1, P.f2, fun s x h => ?_, fun s x h hx p hp => ?_, fun s u x h1 h2 hx => ?_, G⟩
      · rcases at_ s x h with ⟨_, rfl⟩ | ⟨_, h⟩
        · omega
        · exact plain.e1 s x h
      · rcases at_ s x h with ⟨_, rfl⟩ | ⟨_, h⟩
        · have := (P.f1 p hp).2.1; omega
        · exact P.e2 s x h hx p hp
      · rcases at_ s x h1 with ⟨a, e⟩ | ⟨a, h1⟩ <;> rcases at_ u x h2 with ⟨b, e'⟩ | ⟨b, h2⟩
        · rw [a, b]
        · have := (P.e1 u x h2).2; omega
        · have := (P.e1 s x h1).2; omega
        · exact P.e3 s u x h1 h2 hx
  · rw [if_neg hc, if_neg hc]
    exact plain
theorem leftL_mem {t : Int} {ps : List (Int × Int)} {p : Int × Int} : p ∈ leftL t ps ↔ p ∈ ps ∧ t < p.1 := by
  unfold leftL
  rw [List.mem_filter]
  simp
theorem sorted_snoc {l : List (Int × Int)} {p : Int × Int} (h : l.Pairwise fun p q => SrtO.lexB q p = false) (hp : ∀ q ∈ l, q.1 < p.1) : (l ++ [p]).Pairwise fun p q => SrtO.lexB q p = false := by
  refine List.pairwise_append.mpr ⟨h, List.pairwise_singleton _ _, fun q hq r hr => ?_⟩
  rw [List.mem_singleton.mp hr]
  refine SrtO.lexB_no.mpr ?_
  have := hp q hq
  omega
/-- the pending rows behind the tick -/
theorem Pst.left (P : Pst n t ho en go fo) (h : SortsTo pend (pendL en fo ho t n)) {pend' : List (Int × Int)} (h' : SortsTo pend' (pendL en fo ho (t + 1) n)) : leftL (t + 1) pend = pend' := by
  have P2 := (P.next (lack := []) (fun _ h => (nomatch h)) (o := 0) (pa := 0) (Int.le_refl _)).2
  refine sorted_eq (h.2.filter _) h'.2 ((P.nodup h).filter _) (P2.nodup h') fun p => ?_
  rw [leftL_mem, P.mem h, P2.mem h']
  constructor
  · rintro ⟨⟨a, b⟩ | ⟨s, a, b, c, e⟩, z⟩
    · exact .inl ⟨a, z⟩
    · exact .inr ⟨s, a, b, z, e⟩
  · rintro (⟨a, b⟩ | ⟨s, a, b, c, e⟩)
    · exact ⟨.inl ⟨a, by omega⟩, b⟩
    · exact ⟨.inr ⟨s, a, b, by omega, e⟩, c⟩
theorem Pst.leftO (P : Pst n t ho en go fo) (h : SortsTo pend (pendL en fo ho t n)) {o pa : Int} (h0 : 0 ≤ o) (hc : cnts o pa en = true) {pend' : List (Int × Int)}
    (h' : SortsTo pend' (pendL (takeE o pa ho t en) (takeF o pa ho t en fo) ho (t + 1) n)) : leftL (t + 1) (pend ++ [(t + ho, o)]) = pend' := by
  have P2 := (P.next (lack := []) (fun _ h => (nomatch h)) (o := o) (pa := pa) h0).1
  have h3 := P.h3
  have big : ∀ p ∈ pend, p.1 < t + ho := fun p hp => by
    rcases (P.mem h).mp hp with ⟨a, b⟩ | ⟨s, a, b, c, e⟩
    · exact (P.f1 p a).2.1
    · exact (P.e1 s p.1 b).2
  have nd : (pend ++ [(t + ho, o)]).Nodup := by
    refine List.nodup_append.mpr ⟨P.nodup h, by simp, fun p hp q hq e => ?_⟩
    subst e
    rw [List.mem_singleton] at hq
    have := big p hp
    rw [hq] at this
    simp only at this
    omega
  refine sorted_eq ((sorted_snoc (p := (t + ho, o)) h.2 big).filter _) h'.2 (nd.filter _) (P2.nodup h') fun p => ?_
  rw [leftL_mem, List.mem_append, P.mem h, P2.mem h']
  unfold takeE takeF
  rw [if_pos hc, if_pos hc]
  by_cases h4 : o < 4
  · rw [if_pos h4, if_pos h4]
    constructor
    · rintro ⟨(⟨a, b⟩ | ⟨s, a, b, c, e⟩) | hp, z⟩
      · exact .inl ⟨List.mem_append.mpr (.inl a), z⟩
      · exact .inr ⟨s, a, b, z, e⟩
      · exact .inl ⟨List.mem_append.mpr (.inr hp), z⟩
    · rintro (⟨a, b⟩ | ⟨s, a, b, c, e⟩)
      · rcases List.mem_append.mp a with a | a
        · exact ⟨.inl (.inl ⟨a, by omega⟩), b⟩
        · exact ⟨.inr a, b⟩
      · exact ⟨.inl (.inr ⟨s, a, b, by omega, e⟩), c⟩
  · rw [if_neg h4, if_neg h4]
    obtain ⟨c1, c2⟩ := cnts_entry hc h4
    have hn : (o - 4).toNat < n := by rw [← P.le]; exact c1
    constructor
    · rintro ⟨(⟨a, b⟩ | ⟨s, a, b, c, e⟩) | hp, z⟩
      · exact .inl ⟨a, z⟩
      · refine .inr ⟨s, a, ?_, z, e⟩
        rw [og_set c1, if_neg (fun w => by rw [w, c2] at b; cases b)]
        exact b
      · rw [List.mem_singleton] at hp
        refine .inr ⟨(o - 4).toNat, hn, ?_, z, ?_⟩
        · rw [og_set c1, if_pos rfl, hp]
        · rw [hp]
          show o = 4 + (((o - 4).toNat : Nat) : Int)
          omega
    · rintro (⟨a, b⟩ | ⟨s, a, b, c, e⟩)
      · exact ⟨.inl (.inl ⟨a, by omega⟩), b⟩
      · rw [og_set c1] at b
        split at b
        · rename_i z
          refine ⟨.inr (List.mem_singleton.mpr (Prod.ext (Option.some.inj b).symm ?_)), c⟩
          show p.2 = o
          omega
        · exact ⟨.inl (.inr ⟨s, a, b, by omega, e⟩), c⟩
theorem foldl_snoc_big {α : Type} (f : α → Int × Int → α) (a : α) (ps : List (Int × Int)) (p : Int × Int) (h : ∀ b, f b p = b) : (ps ++ [p]).foldl f a = ps.foldl f a := by
  rw [List.foldl_append]
  show f _ p = _
  exact h _
theorem Pst.forceO (P : Pst n t ho en go fo) (h : SortsTo pend (pendL en fo ho t n)) {o pa : Int} : forceP (forceL fo t) (t + 1) (pend ++ [(t + ho, o)]) = forceL (takeF o pa ho t en fo) (t + 1) ∧ forceL (takeF o pa ho t en fo) (t + 1) = forceL fo (t + 1) := by
  have h3 := P.h3
  have e1 : forceL (takeF o pa ho t en fo) (t + 1) = forceL fo (t + 1) := by
    unfold takeF
    split
    · split
      · rw [forceL_app, if_neg (by show ¬ t + ho ≤ t + 1; omega)]
      · rfl
    · rfl
  refine ⟨?_, e1⟩
  rw [e1, ← P.force h]
  exact foldl_snoc_big _ _ _ _ fun b => if_pos (by show t + 1 < t + ho; omega)
theorem Pst.enteredO (P : Pst n t ho en go fo) (h : SortsTo pend (pendL en fo ho t n)) {o pa : Int} : entF (en.map (cutE t)) (t + 1) (pend ++ [(t + ho, o)]) = (takeE o pa ho t en).map (cutE (t + 1)) ∧ (takeE o pa ho t en).map (cutE (t + 1)) = en.map (cutE (t + 1)) := by
  have h3 := P.h3
  have e1 : (takeE o pa ho t en).map (cutE (t + 1)) = en.map (cutE (t + 1)) := by
    unfold takeE
    split
    · rename_i hc
      split
      · rfl
      · rename_i h4
        obtain ⟨c1, c2⟩ := cnts_entry hc h4
        refine list_ext (by simp) fun s hs => ?_
        rw [og_map rfl, og_map rfl, og_set c1]
        split
        · rename_i z
          rw [z, c2]
          show (if t + ho ≤ t + 1 then some (t + ho) else none) = none
          rw [if_neg (by omega)]
        · rfl
    · rfl
  refine ⟨?_, e1⟩
  rw [e1, ← P.entered h]
  exact foldl_snoc_big _ _ _ _ fun b => if_pos (by show t + 1 < t + ho; omega)
end
theorem forceL_small {fo : List (Int × Int)} {t : Int} (h : ∀ p ∈ fo, 1 ≤ p.2 ∧ p.2 ≤ 3) : 0 ≤ forceL fo t ∧ forceL fo t ≤ 3 := by
  unfold forceL
  suffices hh : ∀ (l : List (Int × Int)) (a : Int), 0 ≤ a → a ≤ 3 → (∀ p ∈ l, 1 ≤ p.2 ∧ p.2 ≤ 3) → 0 ≤ l.foldl (fun a p => if p.1 ≤ t then p.2 else a) a ∧ l.foldl (fun a p => if p.1 ≤ t then p.2 else a) a ≤ 3 from hh fo 0 (by decide) (by decide) h
  intro l
  induction l with
  | nil => intro a h0 h1 _; exact ⟨h0, h1⟩
  | cons p r ih =>
    intro a h0 h1 hl
    have hp := hl p List.mem_cons_self
    rw [List.foldl_cons]
    refine ih _ ?_ ?_ fun q hq => hl q (List.mem_cons_of_mem _ hq)
    · split <;> omega
    · split <;> omega
/-- one step of the program's folds -/
theorem forceP_snoc (f t : Int) (ps : List (Int × Int)) (p : Int × Int) : forceP f t (ps ++ [p]) = if t < p.1 then forceP f t ps else if p.2 < 4 then p.2 else forceP f t ps := by
  unfold forceP
  rw [List.foldl_append]; rfl
theorem entF_snoc (e : List (Option Int)) (t : Int) (ps : List (Int × Int)) (p : Int × Int) : entF e t (ps ++ [p]) = if t < p.1 then entF e t ps else if p.2 < 4 then entF e t ps else (entF e t ps).set (p.2 - 4).toNat (some p.1) := by
  unfold entF
  rw [List.foldl_append]; rfl
theorem leftL_snoc (t : Int) (ps : List (Int × Int)) (p : Int × Int) : leftL t (ps ++ [p]) = if t < p.1 then leftL t ps ++ [p] else leftL t ps := by
  unfold leftL
  rw [List.filter_append]
  by_cases h : t < p.1
  · rw [if_pos h, List.filter_cons_of_pos (by simpa using h)]; rfl
  · rw [if_neg h, List.filter_cons_of_neg (by simpa using h)]; simp
theorem entF_len (t : Int) : ∀ (ps : List (Int × Int)) (e : List (Option Int)), (entF e t ps).length = e.length
  | [], _ => rfl
  | p :: r, e => by
    unfold entF
    rw [List.foldl_cons]
    have ih := entF_len t r
    unfold entF at ih
    rw [ih]
    split
    · rfl
    · split
      · rfl
      · rw [List.length_set]
theorem leftL_len (t : Int) (ps : List (Int × Int)) : (leftL t ps).length ≤ ps.length := List.length_filter_le _ _
theorem pendE_le (en : List (Option Int)) (ho t : Int) : ∀ n, (pendE en ho t n).length ≤ n
  | 0 => Nat.le_refl _
  | n + 1 => by
    have ih := pendE_le en ho t n
    rw [pendE, List.length_append]
    split
    · split <;> simp <;> omega
    · simp; omega
theorem pend_len {n : Nat} {t ho : Int} {en : List (Option Int)} {fo pend : List (Int × Int)} (h : SortsTo pend (pendL en fo ho t n)) : pend.length ≤ fo.length + n := by
  rw [h.1.length_eq]
  unfold pendL pendF
  rw [List.length_append]
  have h1 := List.length_filter_le (fun p : Int × Int => decide (t < p.1) && decide (p.1 < t + ho)) fo
  have h2 := pendE_le en ho t n
  omega
/-- the history behind the tick, by its first speaker -/
def presH (en go : List (Option Int)) (t : Int) (n : Nat) : List Nat := (List.range n).filter fun s => here (og en s) (og go s) t
def nxE (ws : List Int) (m pa ho t : Int) (en go : List (Option Int)) (n : Nat) : List (Option Int) := match presH en go t n with
  | [] => en
  | s :: _ => takeE (ws[s]?.getD 0 / m) pa ho t en
def nxF (ws : List Int) (m pa ho t : Int) (en go : List (Option Int)) (fo : List (Int × Int)) (n : Nat) : List (Int × Int) := match presH en go t n with
  | [] => fo
  | s :: _ => takeF (ws[s]?.getD 0 / m) pa ho t en fo
theorem ws_nonneg {ws : List Int} {m : Int} (h : ∀ z ∈ ws, 0 ≤ z) (hm : 0 < m) (s : Nat) : 0 ≤ ws[s]?.getD 0 / m := by
  refine Int.ediv_nonneg ?_ (Int.le_of_lt hm)
  cases e : ws[s]? with
  | none => exact Int.le_refl _
  | some z => exact h z (List.mem_of_getElem? e)
theorem Pst.nx {n : Nat} {t ho : Int} {en go : List (Option Int)} {fo : List (Int × Int)} (P : Pst n t ho en go fo) {lack : List Nat} (hl : ∀ u ∈ lack, u < n) {ws : List Int} {m pa : Int} (hw : ∀ z ∈ ws, 0 ≤ z) (hm : 0 < m) :
    Pst n (t + 1) ho (nxE ws m pa ho t en (goneL go lack t) n) (goneL go lack t) (nxF ws m pa ho t en (goneL go lack t) fo n) := by
  unfold nxE nxF
  split
  · exact (P.next hl (o := 0) (pa := 0) (Int.le_refl _)).2
  · rename_i s r e
    exact (P.next hl (pa := pa) (ws_nonneg hw hm s)).1
theorem nxF_len {ws : List Int} {m pa ho t : Int} {en go : List (Option Int)} {fo : List (Int × Int)} {n : Nat} : (nxF ws m pa ho t en go fo n).length ≤ fo.length + 1 := by
  unfold nxF
  split
  · omega
  · unfold takeF
    split
    · split
      · simp
      · omega
    · omega

def sp_order_of (K : PySem.W.Frag) : Sp := fun vs H Q _ => ∃ (w m : Int), vs = [.int w, .int m] ∧ 0 < m ∧ m < 1000 ∧ Q (.int (w / m)) H
theorem ok_order_of {P : Program} {w : World} {K : PySem.W.Frag} {mg : Str → Option Value} {base : Heap} {f : Addr} {fd : FuncData} (F : Df K mg "order_of" s_order_of f fd ["word", "many"]) (T : Txt mg) : FnOk P w K mg base CX0 1 f fd ["word", "many"] (sp_order_of K) := by
  refine F.ok sc_order_of (fun vs H Q E h => ?_) (fun cdv A outer s H vs Q E hr h => ?_)
  · obtain ⟨w, m, rfl, _⟩ := h
    rfl
  · obtain ⟨w, m, rfl, m0, m1, q⟩ := h
    refine ⟨_, (pss_one (ps_ret (pe_op op_fdiv (pv 0) (pv 1)))), ?_⟩
    try dsimp only [cxOf, Cx.nox, Cx.wish]
    refine st_of (σ' := [some _, some _]) rfl ?_
    wtm_at "jw"
    exact q
def sp_does_count (K : PySem.W.Frag) : Sp := fun vs H Q _ => ∃ (x : V) (o pa t f : Int) (en go e0 : List (Option Int)) (pend : List (Int × Int)), vs = [x, .int o, .int pa] ∧ TD K H x (factsD t f en go pend) ∧ 0 ≤ o ∧ e0.length = en.length ∧ (∀ s < en.length, entT (og en s) s pend = og e0 s) ∧ Q (.bl (cnts o pa e0)) H
theorem ok_does_count {P : Program} {w : World} {K : PySem.W.Frag} {mg : Str → Option Value} {base : Heap} {f : Addr} {fd : FuncData} (F : Df K mg "does_count" s_does_count f fd ["facts", "order", "patches"]) (T : Txt mg)
    (c_entry_tick : Cl P w K mg base 2 "entry_tick" (sp_entry_tick K)) : FnOk P w K mg base CX0 3 f fd ["facts", "order", "patches"] (sp_does_count K) := by
  refine F.ok sc_does_count (fun vs H Q E h => ?_) (fun cdv A outer s H vs Q E hr h => ?_)
  · obtain ⟨x, o, pa, t, f, en, go, e0, pend, rfl, _⟩ := h
    rfl
  · obtain ⟨x, o, pa, t, f, en, go, e0, pend, rfl, hx, h0, hl, he, q⟩ := h
    unfold cnts at q
    refine ⟨_, (pss_cons (ps_if (pt_cmpR op_eq (pv 1) pe_int (nomark _)) (pss_one (ps_ret pe_bl)) pss_nil)
      (pss_cons (ps_if (pt_cmpR op_lt (pv 1) (pe_cn rfl T.c_FIRST_ENTRY) (nomark _)) (pss_one (ps_ret (pe_cmpR op_le (pv 1) (pv 2) (nomark _)))) pss_nil)
      (pss_cons (ps_set (i := 3) sc_does_count.nd rfl (Or.inl rfl) (pe_op op_sub (pv 1) (pe_cn rfl T.c_FIRST_ENTRY)))
      (pss_one (ps_ret (pe_and (pe_cmpR op_lt (pv 3) (pe_callB (id := "len") (r := qLen K) c_len (by rfl) T.b_len (by decide +kernel) (pa_cons (pe_ix (r := rIxT K) ix_tup (pv 0) pe_int (fun _ _ => rfl)) pa_nil)) (nomark _)) (pe_one (pe_cmpR o_isN (pe_cl c_entry_tick hr (by decide) rfl (pa_cons (pv 0) (pa_cons (pv 3) pa_nil))) pe_non (nomark _))))))))), ?_⟩
    try dsimp only [cxOf, Cx.nox, Cx.wish]
    refine st_of (σ' := [some _, some _, some _, none]) rfl ?_
    wtm_at "jw"
    refine c_dec (fun h1 => ?_) (fun h1 => ?_)
    · rw [if_pos h1] at q
      wtm_at "jw"
      exact q
    · rw [if_neg h1] at q
      wtm_at "jw"
      refine c_dec (fun h2 => ?_) (fun h2 => ?_)
      · rw [if_pos h2] at q
        wtm_at "jw"
        exact q
      · rw [if_neg h2] at q
        wtm_at "jw"
        rw [List.length_map]
        refine c_dec (fun h3 => ?_) (fun h3 => ?_)
        · rw [decide_eq_true (show o - 4 < (e0.length : Int) by omega), Bool.true_and] at q
          obtain ⟨s, hs⟩ : ∃ s : Nat, o - 4 = (s : Int) := ⟨(o - 4).toNat, by omega⟩
          rw [hs] at q ⊢
          wtm_at "jw"
          refine ⟨x, s, t, f, en, go, pend, rfl, hx, by omega, ?_⟩
          rw [he s (by omega)]
          rw [Int.toNat_natCast] at q
          wtm_at "jw"
          cases e1 : og e0 s with
          | none => rw [e1] at q; exact q
          | some x => rw [e1] at q; exact q
        · rw [decide_eq_false (show ¬ o - 4 < (e0.length : Int) by omega), Bool.false_and] at q
          exact q
def sp_with_gone (K : PySem.W.Frag) : Sp := fun vs H Q _ => ∃ (x y : V) (t f : Int) (en go : List (Option Int)) (pend : List (Int × Int)) (lack : List Nat), vs = [x, y] ∧ TD K H x (factsD t f en go pend) ∧ TD K H y (.tuple (lack.map iD)) ∧ go.length ≤ 100 ∧ (∀ u ∈ lack, u < go.length) ∧
  ∀ v H', Same H H' → TD K H' v (factsD t f en (goneL go lack t) pend) → Q v H'
theorem iD_ints (l : List Nat) : l.map iD = (l.map fun (s : Nat) => (s : Int)).map PyData.int := by
  rw [List.map_map]; rfl
theorem ok_with_gone {P : Program} {w : World} {K : PySem.W.Frag} {mg : Str → Option Value} {base : Heap} {f : Addr} {fd : FuncData} (F : Df K mg "with_gone" s_with_gone f fd ["facts", "gone"]) (T : Txt mg) : FnOk P w K mg base CX0 1 f fd ["facts", "gone"] (sp_with_gone K) := by
  refine F.ok sc_with_gone (fun vs H Q E h => ?_) (fun cdv A outer s H vs Q E hr h => ?_)
  · obtain ⟨x, y, t, f, en, go, pend, lack, rfl, _⟩ := h
    rfl
  · obtain ⟨x, y, t, f, en, go, pend, lack, rfl, hx, hy, hl, hlk, q⟩ := h
    obtain ⟨ya, ys, rfl, hyS, hyT⟩ := hy.tup_inv
    rw [iD_ints] at hyT
    rw [hyT.ints_inv] at hyS
    refine ⟨_, (pss_cons (ps_set (i := 2) sc_with_gone.nd rfl (Or.inr rfl) (pe_ix (r := rIxT K) ix_tup (pv 0) pe_int (fun _ _ => rfl)))
      (pss_cons (ps_setLc (i := 3) (own := [("seat", 4)]) (g := gName 4) (tt := tYes) rfl sc_with_gone.nd rfl rfl (sw_true rfl rfl rfl (by decide +kernel)) (pi_range1 rfl T.b_range (pa_cons (pe_callB (id := "len") (r := qLen K) c_len (by rfl) T.b_len (by decide +kernel) (pa_cons (pe_ix (r := rIxT K) ix_tup (pv 0) pe_int (fun _ _ => rfl)) pa_nil)) pa_nil)) (blkOk_by (own := [("seat", 4)]) (N := N_with_gone) (sc := defScope s_with_gone) (by decide +kernel)) (fun _ _ _ _ _ => (pg_name (i := 4) sc_with_gone.nd rfl (Or.inl rfl))) (fun _ _ _ _ _ => pts_nil) (fun _ _ _ _ _ => (pe_ifExp (pt_cmpR (r := rIn K false) op_in_seq (pv 4) (pv 1) rfl) (pv 2) (pe_ix (r := rIx K) ix_seq (pe_ix (r := rIxT K) ix_tup (pv 0) pe_int (fun _ _ => rfl)) (pv 4) (fun _ _ => rfl)))))
      (pss_one (ps_ret (pe_tup (pa_cons (pe_ix (r := rIxT K) ix_tup (pv 0) pe_int (fun _ _ => rfl)) (pa_cons (pv 2) (pa_cons (pe_ix (r := rIxT K) ix_tup (pv 0) pe_int (fun _ _ => rfl)) (pa_cons (pe_ix (r := rIxT K) ix_tup (pv 0) pe_int (fun _ _ => rfl)) (pa_cons (pe_callTy (T := "tuple") (r := rTupOf K) c_tup (by rfl) T.b_tuple (by decide +kernel) (pa_cons (pv 3) pa_nil)) (pa_cons (pe_ix (r := rIxT K) ix_tup (pv 0) pe_int (fun _ _ => rfl)) pa_nil))))))))))), ?_⟩
    try dsimp only [cxOf, Cx.nox, Cx.wish]
    refine st_of (σ' := [some _, some _, none, none, none]) rfl ?_
    wtm_at "jw"
    rw [List.length_map, Int.toNat_natCast]
    intro D hD
    refine l_range (fun i H' => Same H H' ∧ H' D = some (.lst (((goneL go lack t).take i).map ovO))) ⟨same_new hD, by rw [upd_same]; rfl⟩ (fun i H' hi h => ?_) (fun H1 h => ?_)
    · obtain ⟨s1, hD1⟩ := h
      have hx1 := hx.same s1
      have hy1 := Same.tup s1 hyS
      have hsz : (((goneL go lack t).take i).map ovO).length < sizeLine := small1000 (by rw [List.length_map, List.length_take, goneL_len]; omega)
      have oe := od_at (os := go) hi
      have tk : (goneL go lack t).take (i + 1) = (goneL go lack t).take i ++ [if i ∈ lack then some t else og go i] := by
        rw [← goneL_og t lack go i hlk, List.take_add_one, List.getElem?_eq_getElem (by rw [goneL_len]; exact hi)]
        unfold og
        rw [List.getElem?_eq_getElem (by rw [goneL_len]; exact hi)]
        rfl
      have im : ((i : Int) ∈ lack.map fun (s : Nat) => (s : Int)) ↔ i ∈ lack := by
        rw [List.mem_map]
        constructor
        · rintro ⟨s, hs, e⟩
          have : s = i := by omega
          exact this ▸ hs
        · intro h; exact ⟨i, h, rfl⟩
      wtm_at "jw"
      refine ⟨rfl, ?_⟩
      wtm_at "jw"
      rw [Int.zero_add]
      refine i_inT hy1 ?_
      wtm_at "jw"
      refine c_dec (fun h => ?_) (fun h => ?_)
      · wtm_at "jw"
        exact ⟨_, hD1, hsz, put_same s1 hD, by rw [upd_same, tk, List.map_append, if_pos (im.mp h)]; rfl⟩
      · wtm_at "jw"
        exact ⟨_, hD1, hsz, put_same s1 hD, by rw [upd_same, tk, List.map_append, if_neg fun z => h (im.mpr z)]; rfl⟩
    obtain ⟨s1, hD1⟩ := h
    rw [List.take_of_length_le (by rw [goneL_len]; exact Nat.le_refl _)] at hD1
    have hx1 := hx.same s1
    wtm_at "jw"
    rename_i y3 h3
    intro T hT
    have s2 := same_new (o := .tup ((goneL go lack t).map ovO)) hT
    have kT : TD K (upd H1 T (.tup ((goneL go lack t).map ovO))) (.ref T) (.tuple ((goneL go lack t).map oD)) := TD.new hT (TDs.ovs _)
    have k3 : TD K _ y3 (.tuple (en.map oD)) := TD.same s2 h3
    have hx2 := hx1.same s2
    generalize upd H1 T (.tup ((goneL go lack t).map ovO)) = H2 at s2 kT k3 hx2 ⊢
    wtm_at "jw"
    rename_i y5 h5
    intro R hR
    exact q _ _ ((s1.trans s2).trans (same_new hR)) (TD.new hR (.cons (.str _) (.cons (.int _) (.cons (.int _) (.cons k3 (.cons kT (.cons h5 .nil)))))))
def sp_taken_hold (K : PySem.W.Frag) : Sp := fun vs H Q _ => ∃ (x : V) (t' t f : Int) (en go : List (Option Int)) (ps : List (Int × Int)), vs = [x, .int t'] ∧ TD K H x (factsD t f en go ps) ∧ en.length ≤ 100 ∧ ps.length ≤ 200 ∧ (∀ p ∈ ps, p.2 < 4 ∨ (p.2 - 4).toNat < en.length) ∧
  ∀ v H', Same H H' → TD K H' v (factsD t' (forceP f t' ps) (entF en t' ps) go (leftL t' ps)) → Q v H'
theorem ok_taken_hold {P : Program} {w : World} {K : PySem.W.Frag} {mg : Str → Option Value} {base : Heap} {f : Addr} {fd : FuncData} (F : Df K mg "taken_hold" s_taken_hold f fd ["facts", "tick"]) (T : Txt mg)
    (c_entry_of : Cl P w K mg base 1 "entry_of" (sp_entry_of K)) : FnOk P w K mg base CX0 2 f fd ["facts", "tick"] (sp_taken_hold K) := by
  refine F.ok sc_taken_hold (fun vs H Q E h => ?_) (fun cdv A outer s H vs Q E hr h => ?_)
  · obtain ⟨x, t', t, f, en, go, ps, rfl, _⟩ := h
    rfl
  · obtain ⟨x, t', t, f, en, go, ps, rfl, hx, hl, lp, hp, q⟩ := h
    refine ⟨_, (pss_cons (ps_set (i := 2) sc_taken_hold.nd rfl (Or.inl rfl) (pe_ix (r := rIxT K) ix_tup (pv 0) pe_int (fun _ _ => rfl)))
      (pss_cons (ps_set (i := 3) sc_taken_hold.nd rfl (Or.inl rfl) (pe_callTy (T := "list") (r := rLstOf K) c_lst (by rfl) T.b_list (by decide +kernel) (pa_cons (pe_ix (r := rIxT K) ix_tup (pv 0) pe_int (fun _ _ => rfl)) pa_nil)))
      (pss_cons (ps_set (i := 4) sc_taken_hold.nd rfl (Or.inl rfl) (pe_lst pa_nil))
      (pss_cons (ps_for PassesOwn.never rfl (pi_tup (pe_ix (r := rIxT K) ix_tup (pv 0) pe_int (fun _ _ => rfl))) (pg_tupK (K := K) rfl rfl (pgs_cons (pg_name (i := 5) sc_taken_hold.nd rfl (Or.inl rfl)) (pgs_cons (pg_name (i := 6) sc_taken_hold.nd rfl (Or.inl rfl)) pgs_nil))) (pss_one (ps_if (pt_cmpR op_gt (pv 5) (pv 1) (nomark _)) (pss_one (ps_expr (pe_bmK (K := K) rfl PySem.F.plainAttrs_list PySem.F.slot_list_append PySem.F.type_list_append mt_append (pv 4) (pa_cons (pe_tup (pa_cons (pv 5) (pa_cons (pv 6) pa_nil))) pa_nil)))) (pss_one (ps_if (pt_cmpR o_isN (pe_cl c_entry_of hr (by decide) rfl (pa_cons (pv 6) pa_nil)) pe_non (nomark _)) (pss_one (ps_set (i := 2) sc_taken_hold.nd rfl (Or.inl rfl) (pv 6))) (pss_one (ps_asg (pv 5) (pg_sub (pv 3) (pe_cl c_entry_of hr (by decide) rfl (pa_cons (pv 6) pa_nil)) set_list))))))))
      (pss_one (ps_ret (pe_tup (pa_cons pe_str (pa_cons (pv 1) (pa_cons (pv 2) (pa_cons (pe_callTy (T := "tuple") (r := rTupOf K) c_tup (by rfl) T.b_tuple (by decide +kernel) (pa_cons (pv 3) pa_nil)) (pa_cons (pe_ix (r := rIxT K) ix_tup (pv 0) pe_int (fun _ _ => rfl)) (pa_cons (pe_callTy (T := "tuple") (r := rTupOf K) c_tup (by rfl) T.b_tuple (by decide +kernel) (pa_cons (pv 4) pa_nil)) pa_nil))))))))))))), ?_⟩
    try dsimp only [cxOf, Cx.nox, Cx.wish]
    refine st_of (σ' := [some _, some _, none, none, none, none, none]) rfl ?_
    wtm_at "jw"
    refine i_lstTD (by assumption) fun xs E tE hE => ?_
    rw [tE.ovs_inv]
    have s1 := same_new (o := .lst (en.map ovO)) hE
    have hE1 := upd_same (H := H) (a := E) (o := .lst (en.map ovO))
    generalize upd H E (.lst (en.map ovO)) = H1 at s1 hE1 ⊢
    wtm_at "jw"
    intro L hL
    have s2 := s1.trans (same_new (o := .lst []) hL)
    have nEL : E ≠ L := ne_of_none hE1 hL
    have hL0 := s1.free hL
    have hE2 := same_new (o := .lst []) hL _ _ hE1
    have hL2 : LPr (upd H1 L (.lst [])) L [] := ⟨[], upd_same, .nil⟩
    generalize upd H1 L (.lst []) = H2 at s2 hE2 hL2 ⊢
    have hx2 := hx.same s2
    wtm_at "jw"
    refine i_isTD (by assumption) fun a xs ea hS hT => ?_
    refine f_tup (xs := xs) (fun i σ H' => Same H H' ∧ H' E = some (.lst ((entF en t' (ps.take i)).map ovO)) ∧ LPr H' L (leftL t' (ps.take i)) ∧ ∃ v1 v2, σ = [some x, some (.int t'), some (.int (forceP f t' (ps.take i))), some (.ref E), some (.ref L), v1, v2] ∧ SqT K H' a xs ∧ TDs K H' xs (ps.map pD))
      ⟨s2, hE2, hL2, none, none, rfl, hS, hT⟩ (fun i σ H' _ h => by obtain ⟨_, _, _, _, _, _, h, _⟩ := h; exact h) (fun i y σ H' hi h => ?_) (fun σ H' h => ?_)
    · obtain ⟨s3, hE3, hL3, v1, v2, rfl, hS3, hT3⟩ := h
      obtain ⟨p, ep, hy, etk, hlt⟩ := hT3.pair_at hi
      have hpp := hp p (List.mem_of_getElem? ep)
      have ef := forceP_snoc f t' (ps.take i) p
      have ee := entF_snoc en t' (ps.take i) p
      have el := leftL_snoc t' (ps.take i) p
      rw [← etk] at ef ee el
      have ll := leftL_len t' (ps.take i)
      rw [List.length_take] at ll
      obtain ⟨rs, hL3', hw⟩ := hL3
      have hsz : (rs.map V.ref).length < sizeLine := small1000 (by rw [List.length_map, hw.1]; omega)
      wtm_at "jw"
      refine c_dec (fun h => ?_) (fun h => ?_)
      · rw [if_pos (by omega)] at ef ee el
        wtm_at "jw"
        intro u hu
        have hL4 := same_new (o := .tup [V.int p.1, V.int p.2]) hu _ _ hL3'
        wtm_at "jw"
        have t4 : Tps H' (upd (upd H' u (.tup [V.int p.1, V.int p.2])) L (.lst (rs.map V.ref ++ [.ref u]))) := (Tps.of (same_new hu)).trans (tps_put hL4)
        refine ⟨put_same (s3.trans (same_new hu)) hL0, ?_, ?_, some (.int p.1), some (.int p.2), ?_, t4.sq hS3, hT3.tps t4⟩
        · rw [upd_ne nEL, ee]; exact same_new hu _ _ hE3
        · rw [el]; exact LPr.add hL3' hw hu
        · rw [ef]
      · rw [if_neg (by omega)] at ef ee el
        wtm_at "jw"
        refine ⟨p.2, rfl, ?_⟩
        unfold entO
        by_cases h4 : p.2 < 4
        · rw [if_pos h4] at ef ee
          rw [if_neg (by omega)]
          unfold ovO
          wtm_at "jw"
          refine c_yes rfl ?_
          wtm_at "jw"
          exact ⟨s3, by rw [ee]; exact hE3, by rw [el]; exact ⟨rs, hL3', hw⟩, some (.int p.1), some (.int p.2), by rw [ef], hS3, hT3⟩
        · rw [if_neg h4] at ef ee
          rw [if_pos (by omega)]
          unfold ovO
          wtm_at "jw"
          refine c_no (fun h => by cases h) ?_
          have ix := ixN_of (n := ((entF en t' (ps.take i)).map ovO).length) (i := p.2 - 4) (by omega) (by rw [List.length_map, entF_len]; omega)
          wtm_at "jw"
          refine ⟨p.2, rfl, ?_⟩
          unfold entO
          rw [if_pos (by omega)]
          unfold ovO
          wtm_at "jw"
          have t4 : Tps H' (upd H' E (.lst (((entF en t' (ps.take i)).map ovO).set (p.2 - 4).toNat (V.int p.1)))) := tps_put hE3
          refine ⟨put_same s3 hE, ?_, ?_, some (.int p.1), some (.int p.2), ?_, t4.sq hS3, hT3.tps t4⟩
          · rw [upd_same, ee, List.map_set]; rfl
          · rw [el]; exact LPr.kp ⟨rs, hL3', hw⟩ Kp.upd hE3 nEL.symm
          · rw [ef]
    · obtain ⟨s3, hE3, ⟨rs, hL3, hw⟩, v1, v2, rfl, hS3, hT3⟩ := h
      rw [hT.len, List.length_map, List.take_length] at hE3 hw ⊢
      have hx3 := hx.same s3
      wtm_at "jw"
      intro T1 hT1
      have s4 := same_new (o := .tup ((entF en t' ps).map ovO)) hT1
      have k1 : TD K (upd H' T1 (.tup ((entF en t' ps).map ovO))) (.ref T1) (.tuple ((entF en t' ps).map oD)) := TD.new hT1 (TDs.ovs _)
      have hL4 := s4 _ _ hL3
      have hw4 := hw.same s4
      have hx4 := hx3.same s4
      generalize upd H' T1 (.tup ((entF en t' ps).map ovO)) = H4 at s4 k1 hL4 hw4 hx4 ⊢
      wtm_at "jw"
      rename_i y4 h4
      intro T2 hT2
      have s5 := same_new (o := .tup (rs.map V.ref)) hT2
      have k2 : TD K (upd H4 T2 (.tup (rs.map V.ref))) (.ref T2) (.tuple ((leftL t' ps).map pD)) := TD.new hT2 hw4.tds
      have k1' := k1.same s5
      have k4 : TD K _ y4 (.tuple (go.map oD)) := TD.same s5 h4
      generalize upd H4 T2 (.tup (rs.map V.ref)) = H5 at s5 k2 k1' k4 ⊢
      wtm_at "jw"
      intro R hR
      exact q _ _ (((s3.trans s4).trans s5).trans (same_new hR)) (TD.new hR (.cons (.str _) (.cons (.int _) (.cons (.int _) (.cons k1' (.cons k4 (.cons k2 .nil)))))))
/-- what the pending rows must be, behind the noting -/
structure Noted (n : Nat) (t ho : Int) (ws : List Int) (m pa : Int) (en go : List (Option Int)) (fo pend' ps : List (Int × Int)) : Prop where
  left : leftL (t + 1) ps = pend'
  force : forceP (forceL fo t) (t + 1) ps = forceL (nxF ws m pa ho t en go fo n) (t + 1)
  ent : entF (en.map (cutE t)) (t + 1) ps = (nxE ws m pa ho t en go n).map (cutE (t + 1))
  ok : ∀ p ∈ ps, p.2 < 4 ∨ (p.2 - 4).toNat < n
  len : ps.length ≤ 150
theorem headO_nil {l : List Nat} (h : headO l = none) : l = [] := by
  cases l with
  | nil => rfl
  | cons a r => cases h
theorem headO_cons {l : List Nat} {z : Int} (h : headO l = some z) : ∃ s r, l = s :: r ∧ z = (s : Int) := by
  cases l with
  | nil => cases h
  | cons a r => exact ⟨a, r, rfl, (Option.some.inj h).symm⟩
theorem pend_ok {n : Nat} {t ho : Int} {en go : List (Option Int)} {fo pend : List (Int × Int)} (P : Pst n t ho en go fo) (h : SortsTo pend (pendL en fo ho t n)) : ∀ p ∈ pend, p.2 < 4 ∨ (p.2 - 4).toNat < n := fun p hp => by
  rcases (P.mem h).mp hp with ⟨a, _⟩ | ⟨s, a, _, _, e⟩
  · have := (P.f1 p a).2.2.2
    exact .inl (by omega)
  · exact .inr (by omega)
theorem noted_plain {n : Nat} {t ho : Int} {ws : List Int} {m pa : Int} {en go : List (Option Int)} {fo pend pend' : List (Int × Int)} {g0 : List (Option Int)} (P : Pst n t ho en g0 fo) (h : SortsTo pend (pendL en fo ho t n)) (hl : pend.length ≤ 140)
    (h' : SortsTo pend' (pendL (nxE ws m pa ho t en go n) (nxF ws m pa ho t en go fo n) ho (t + 1) n)) (e1 : nxE ws m pa ho t en go n = en) (e2 : nxF ws m pa ho t en go fo n = fo) : Noted n t ho ws m pa en go fo pend' pend := by
  rw [e1, e2] at h'
  exact ⟨P.left h h', by rw [e2]; exact P.force h, by rw [e1]; exact P.entered h, pend_ok P h, by omega⟩
theorem noted_with {n : Nat} {t ho : Int} {ws : List Int} {m pa o : Int} {en go : List (Option Int)} {fo pend pend' : List (Int × Int)} {g0 : List (Option Int)} (P : Pst n t ho en g0 fo) (h : SortsTo pend (pendL en fo ho t n)) (hl : pend.length ≤ 140)
    (h' : SortsTo pend' (pendL (nxE ws m pa ho t en go n) (nxF ws m pa ho t en go fo n) ho (t + 1) n)) (e1 : nxE ws m pa ho t en go n = takeE o pa ho t en) (e2 : nxF ws m pa ho t en go fo n = takeF o pa ho t en fo) (h0 : 0 ≤ o) (hc : cnts o pa en = true) :
    Noted n t ho ws m pa en go fo pend' (pend ++ [(t + ho, o)]) := by
  rw [e1, e2] at h'
  refine ⟨P.leftO h h0 hc h', by rw [e2]; exact (P.forceO h).1, by rw [e1]; exact (P.enteredO h).1, fun p hp => ?_, by simp; omega⟩
  rcases List.mem_append.mp hp with hp | hp
  · exact pend_ok P h p hp
  · rw [List.mem_singleton.mp hp]
    by_cases h4 : o < 4
    · exact .inl h4
    · exact .inr (by have := (cnts_entry hc h4).1; rw [P.le] at this; exact this)
def sp_settled_facts (K : PySem.W.Frag) : Sp := fun vs H Q _ => ∃ (x y g : V) (n : Nat) (pa ho m t : Int) (en go : List (Option Int)) (fo pend pend' : List (Int × Int)) (ws : List Int) (lack : List Nat), vs = [x, y, g, .int pa, .int ho, .int m] ∧
  TD K H x (factsD t (forceL fo t) (en.map (cutE t)) go pend) ∧ TD K H y (.tuple (ws.map PyData.int)) ∧ TD K H g (.tuple (lack.map iD)) ∧ Pst n t ho en go fo ∧ SortsTo pend (pendL en fo ho t n) ∧ n ≤ 10 ∧ pend.length ≤ 140 ∧ ws.length = n ∧ (∀ z ∈ ws, 0 ≤ z) ∧ (∀ u ∈ lack, u < n) ∧ 0 < m ∧ m < 1000 ∧
  SortsTo pend' (pendL (nxE ws m pa ho t en (goneL go lack t) n) (nxF ws m pa ho t en (goneL go lack t) fo n) ho (t + 1) n) ∧
  ∀ v H', Same H H' → TD K H' v (factsD (t + 1) (forceL (nxF ws m pa ho t en (goneL go lack t) fo n) (t + 1)) ((nxE ws m pa ho t en (goneL go lack t) n).map (cutE (t + 1))) (goneL go lack t) pend') → Q v H'
theorem ok_settled_facts {P : Program} {w : World} {K : PySem.W.Frag} {mg : Str → Option Value} {base : Heap} {f : Addr} {fd : FuncData} (F : Df K mg "settled_facts" s_settled_facts f fd ["facts", "words", "gone", "patches", "hold", "many"]) (T : Txt mg)
    (c_with_gone : Cl P w K mg base 1 "with_gone" (sp_with_gone K))
    (c_speaker_at : Cl P w K mg base 4 "speaker_at" (sp_speaker_at K))
    (c_taken_hold : Cl P w K mg base 2 "taken_hold" (sp_taken_hold K))
    (c_order_of : Cl P w K mg base 1 "order_of" (sp_order_of K))
    (c_does_count : Cl P w K mg base 3 "does_count" (sp_does_count K)) : FnOk P w K mg base CX0 5 f fd ["facts", "words", "gone", "patches", "hold", "many"] (sp_settled_facts K) := by
  refine F.ok sc_settled_facts (fun vs H Q E h => ?_) (fun cdv A outer s H vs Q E hr h => ?_)
  · obtain ⟨x, y, g, n, pa, ho, m, t, en, go, fo, pend, pend', ws, lack, rfl, _⟩ := h
    rfl
  · obtain ⟨x, y, g, n, pa, ho, m, t, en, go, fo, pend, pend', ws, lack, rfl, hx, hy, hg, P, hs, n10, hpl, hwl, hw0, hlk, m0, m1, hs', q⟩ := h
    have P2 := (P.next (o := 0) (pa := 0) hlk (Int.le_refl _)).2
    have ents : ∀ s < n, entT (og (en.map (cutE t)) s) s pend = og en s := fun s h => P.ent hs h
    have le := P.le
    have lg := P.lg
    have lg' := goneL_len lack t go
    refine ⟨_, (pss_cons (ps_set (i := 6) sc_settled_facts.nd rfl (Or.inl rfl) (pe_cl c_with_gone hr (by decide) rfl (pa_cons (pv 0) (pa_cons (pv 2) pa_nil))))
      (pss_cons (ps_set (i := 7) sc_settled_facts.nd rfl (Or.inl rfl) (pe_ix (r := rIxT K) ix_tup (pv 0) pe_int (fun _ _ => rfl)))
      (pss_cons (ps_set (i := 8) sc_settled_facts.nd rfl (Or.inl rfl) (pe_cl c_speaker_at hr (by decide) rfl (pa_cons (pv 6) (pa_cons (pv 7) pa_nil))))
      (pss_cons (ps_set (i := 9) sc_settled_facts.nd rfl (Or.inl rfl) (pe_ix (r := rIxT K) ix_tup (pv 6) pe_int (fun _ _ => rfl)))
      (pss_cons (ps_if (pt_cmpR o_notN (pv 8) pe_non (nomark _)) (pss_cons (ps_set (i := 10) sc_settled_facts.nd rfl (Or.inl rfl) (pe_cl c_order_of hr (by decide) rfl (pa_cons (pe_ix (r := rIxT K) ix_tup (pv 1) (pv 8) (fun _ _ => rfl)) (pa_cons (pv 5) pa_nil))))
      (pss_one (ps_if (pt_val (pe_cl c_does_count hr (by decide) rfl (pa_cons (pv 6) (pa_cons (pv 10) (pa_cons (pv 3) pa_nil))))) (pss_one (ps_set (i := 9) sc_settled_facts.nd rfl (Or.inl rfl) (pe_op (r := rCatA K) op_catA (pv 9) (pe_tup (pa_cons (pe_tup (pa_cons (pe_op op_add (pv 7) (pv 4)) (pa_cons (pv 10) pa_nil))) pa_nil))))) pss_nil))) pss_nil)
      (pss_cons (ps_set (i := 11) sc_settled_facts.nd rfl (Or.inl rfl) (pe_tup (pa_cons (pe_ix (r := rIxT K) ix_tup (pv 6) pe_int (fun _ _ => rfl)) (pa_cons (pe_ix (r := rIxT K) ix_tup (pv 6) pe_int (fun _ _ => rfl)) (pa_cons (pe_ix (r := rIxT K) ix_tup (pv 6) pe_int (fun _ _ => rfl)) (pa_cons (pe_ix (r := rIxT K) ix_tup (pv 6) pe_int (fun _ _ => rfl)) (pa_cons (pe_ix (r := rIxT K) ix_tup (pv 6) pe_int (fun _ _ => rfl)) (pa_cons (pv 9) pa_nil))))))))
      (pss_one (ps_ret (pe_cl c_taken_hold hr (by decide) rfl (pa_cons (pv 11) (pa_cons (pe_op op_add (pv 7) pe_int) pa_nil))))))))))), ?_⟩
    try dsimp only [cxOf, Cx.nox, Cx.wish]
    refine st_of (σ' := [some _, some _, some _, some _, some _, some _, none, none, none, none, none, none]) rfl ?_
    wtm_at "jw"
    refine ⟨x, g, t, _, _, go, pend, lack, rfl, hx, hg, by omega, by rw [lg]; exact hlk, fun nw H1 s1 hnw => ?_⟩
    have hx1 := hx.same s1
    have hy1 := hy.same s1
    generalize hgo : goneL go lack t = go' at hs' q hnw P2 lg'
    wtm_at "jw"
    refine ⟨nw, t, t, _, _, go', pend, rfl, hnw, by rw [List.length_map]; omega, by rw [List.length_map]; omega, ?_⟩
    rw [List.length_map, le, show perL (fun s => entT (og (en.map (cutE t)) s) s pend) go' t n = presH en go' t n from perL_eq ents]
    wtm_at "js"
    rename_i y5 h5
    refine i_ifC (fun σ' H' => ∃ (pv : V) (ps : List (Int × Int)) (ov v1 : Option V), Same H1 H' ∧ TD K H' pv (.tuple (ps.map pD)) ∧ Noted n t ho ws m pa en go' fo pend' ps ∧
      σ' = [some x, some y, some g, some (.int pa), some (.int ho), some (.int m), some nw, some (.int t), v1, some pv, ov, none]) (fun σ' H' h => ?_) (fun N hN => ?_)
    · obtain ⟨pv, ps, ov, v1, s2, hpv, nt, rfl⟩ := h
      have hnw2 := hnw.same s2
      wtm_at "jw"
      rename_i y3 h3 y4 h4
      intro R hR
      have s3 := same_new (o := .tup [V.str "facts", V.int t, V.int (forceL fo t), y3, y4, pv]) hR
      have hnd : TD K (upd H' R (.tup [V.str "facts", V.int t, V.int (forceL fo t), y3, y4, pv])) (.ref R) (factsD t (forceL fo t) (en.map (cutE t)) go' ps) := TD.new hR (.cons (.str _) (.cons (.int _) (.cons (.int _) (.cons h3 (.cons h4 (.cons hpv .nil))))))
      generalize upd H' R (.tup [V.str "facts", V.int t, V.int (forceL fo t), y3, y4, pv]) = H3 at s3 hnd ⊢
      wtm_at "jw"
      refine ⟨.ref R, t + 1, t, _, _, go', ps, rfl, hnd, by rw [List.length_map]; omega, by have := nt.len; omega, by rw [List.length_map, le]; exact nt.ok, fun v H4 s4 hv => ?_⟩
      rw [nt.left, nt.force, nt.ent] at hv
      exact q v H4 (((s1.trans s2).trans s3).trans s4) hv
    · cases e1 : headO (presH en go' t n) with
      | none =>
        have e2 := headO_nil e1
        unfold ovO
        wtm_at "jw"
        refine c_noN rfl ?_
        wtm_at "jw"
        exact hN _ _ ⟨y5, pend, _, _, Same.refl _, h5, noted_plain P hs hpl hs' (by unfold nxE; rw [e2]) (by unfold nxF; rw [e2]), rfl⟩
      | some z =>
        obtain ⟨sp, r, e2, rfl⟩ := headO_cons e1
        have hsn : sp < n := by
          have : sp ∈ presH en go' t n := by rw [e2]; exact List.mem_cons_self
          unfold presH at this
          rw [List.mem_filter, List.mem_range] at this
          exact this.1
        have n1 : nxE ws m pa ho t en go' n = takeE (ws[sp]?.getD 0 / m) pa ho t en := by unfold nxE; rw [e2]
        have n2 : nxF ws m pa ho t en go' fo n = takeF (ws[sp]?.getD 0 / m) pa ho t en fo := by unfold nxF; rw [e2]
        have o0 := ws_nonneg hw0 m0 sp
        have aw : (ws.map PyData.int)[(sp : Int).toNat]? = some (.int (ws[sp]?.getD 0)) := by
          rw [Int.toNat_natCast, List.getElem?_map, List.getElem?_eq_getElem (by omega)]; rfl
        unfold ovO
        wtm_at "jw"
        refine c_yesN (fun h => by cases h) ?_
        wtm_at "jw"
        refine ⟨_, m, rfl, m0, m1, ?_⟩
        generalize ws[sp]?.getD 0 / m = o at n1 n2 o0 ⊢
        wtm_at "jw"
        refine ⟨nw, o, pa, t, _, _, go', en, pend, rfl, hnw, o0, by rw [List.length_map], fun s hs => ents s (by rw [List.length_map] at hs; omega), ?_⟩
        wtm_at "jw"
        refine c_bool (fun h => ?_) (fun h => ?_)
        · wtm_at "jw"
          intro u hu
          wtm_at "jw"
          intro w hw
          have s2 : Same H1 (upd (upd H1 u (.tup [V.int (t + ho), V.int o])) w (.tup [.ref u])) := (same_new hu).trans (same_new hw)
          have k1 : TD K (upd (upd H1 u (.tup [V.int (t + ho), V.int o])) w (.tup [.ref u])) (.ref w) (.tuple ([(t + ho, o)].map pD)) := TD.new hw (.cons (TD.new hu (TDs.ints [t + ho, o])) .nil)
          have k2 := h5.same s2
          generalize upd (upd H1 u (.tup [V.int (t + ho), V.int o])) w (.tup [.ref u]) = H2 at s2 k1 k2 ⊢
          obtain ⟨wa, wxs, ew, hwS, hwT⟩ := k1.tup_inv
          obtain ⟨pa', pxs, ep, hpS, hpT⟩ := k2.tup_inv
          cases ew
          subst ep
          wtm_at "jw"
          refine i_catA hpS hwS (by rw [hpT.len, hwT.len, List.length_map, sizeLine_eq]; simp; omega) fun rr H3 keep hrr => ?_
          have s3 : Same H2 H3 := keep
          wtm_at "jw"
          refine hN _ _ ⟨.ref rr, pend ++ [(t + ho, o)], _, _, s2.trans s3, .tup hrr ?_, noted_with P hs hpl hs' n1 n2 o0 h, rfl⟩
          rw [List.map_append]
          exact (hpT.app hwT).same s3
        · wtm_at "jw"
          have f1 : ¬ cnts o pa en = true := by rw [h]; exact Bool.false_ne_true
          exact hN _ _ ⟨y5, pend, _, _, Same.refl _, h5, noted_plain P hs hpl hs' (by rw [n1]; unfold takeE; rw [if_neg f1]) (by rw [n2]; unfold takeF; rw [if_neg f1]), rfl⟩
def row37 (t : Int) (f f' : Int) (en en' go go' : List (Option Int)) (pend pend' : List (Int × Int)) (ws : List Int) (lack : List Nat) : PyData := .tuple [factsD t f en go pend, .tuple (ws.map PyData.int), .tuple (lack.map iD), factsD (t + 1) f' en' go' pend']
def RowOk (n : Nat) (pa ho m : Int) (d : PyData) : Prop := ∃ (t : Int) (en go : List (Option Int)) (fo pend pend' : List (Int × Int)) (ws : List Int) (lack : List Nat),
  d = row37 t (forceL fo t) (forceL (nxF ws m pa ho t en (goneL go lack t) fo n) (t + 1)) (en.map (cutE t)) ((nxE ws m pa ho t en (goneL go lack t) n).map (cutE (t + 1))) go (goneL go lack t) pend pend' ws lack ∧
  Pst n t ho en go fo ∧ SortsTo pend (pendL en fo ho t n) ∧ pend.length ≤ 140 ∧ ws.length = n ∧ (∀ z ∈ ws, 0 ≤ z) ∧ (∀ u ∈ lack, u < n) ∧
  SortsTo pend' (pendL (nxE ws m pa ho t en (goneL go lack t) n) (nxF ws m pa ho t en (goneL go lack t) fo n) ho (t + 1) n) ∧ pend'.length ≤ 140 ∧ t ≤ 100 ∧ ho ≤ 100
theorem rp_pst {n : Nat} {t ho : Int} {en go : List (Option Int)} {fo pend : List (Int × Int)} (P : Pst n t ho en go fo) (h : SortsTo pend (pendL en fo ho t n)) (hl : pend.length ≤ 140) (n10 : n ≤ 10) (t1 : t ≤ 200) (h1 : ho ≤ 100) :
    Rp 3 120006 (factsD t (forceL fo t) (en.map (cutE t)) go pend) := by
  have t0 := P.t0
  have h3 := P.h3
  have fl := forceL_small (t := t) fun p hp => (P.f1 p hp).2.2
  have ogm : ∀ (os : List (Option Int)) (o : Option Int), o ∈ os → ∃ s, og os s = o := fun os o ho => by
    obtain ⟨i, hi⟩ := List.getElem?_of_mem ho
    exact ⟨i, by unfold og; rw [hi]; rfl⟩
  refine rp_facts (by omega) (by omega) (fun o ho => ?_) (fun o ho => ?_) (fun p hp => ?_) (by rw [List.length_map, P.le]; omega) (by rw [P.lg]; omega) (by omega)
  · obtain ⟨o', ho', rfl⟩ := List.mem_map.mp ho
    obtain ⟨s, hs⟩ := ogm en o' ho'
    cases o' with
    | none => exact True.intro
    | some x =>
      have := P.e1 s x hs
      show ob (if x ≤ t then some x else none)
      split
      · show x.natAbs < _; omega
      · exact True.intro
  · obtain ⟨s, hs⟩ := ogm go o ho
    cases o with
    | none => exact True.intro
    | some x =>
      have := P.g1 s x hs
      show x.natAbs < _
      omega
  · rcases (P.mem h).mp hp with ⟨a, _⟩ | ⟨s, a, b, c, e⟩
    · have := P.f1 p a
      omega
    · have := P.e1 s p.1 b
      omega
def sp__law_is_told (K : PySem.W.Frag) : Sp := fun vs H Q _ => ∃ (x : V) (n : Nat) (pa ho m : Int) (d : PyData), vs = [x, .int pa, .int ho, .int m] ∧ TD K H x d ∧ RowOk n pa ho m d ∧ n ≤ 10 ∧ 0 < m ∧ m < 1000 ∧ ∀ H', Same H H' → Q (.bl true) H'
theorem ok__law_is_told {P : Program} {w : World} {K : PySem.W.Frag} {mg : Str → Option Value} {base : Heap} {f : Addr} {fd : FuncData} (F : Df K mg "_law_is_told" s__law_is_told f fd ["row", "patches", "holding", "many"]) (T : Txt mg)
    (c_settled_facts : Cl P w K mg base 5 "settled_facts" (sp_settled_facts K)) : Gok P w K mg base 6 f fd ["row", "patches", "holding", "many"] (sp__law_is_told K) := by
  refine F.gok sc__law_is_told (fun vs H Q E h => ?_) (fun cdv A outer s H vs Q E hr hG h => ?_)
  · obtain ⟨x, n, pa, ho, m, d, rfl, _⟩ := h
    rfl
  · obtain ⟨x, n, pa, ho, m, d, rfl, hx, ⟨t, en, go, fo, pend, pend', ws, lack, rfl, P, hs, hpl, hwl, hw0, hlk, hs', hpl', t1, h1⟩, n10, m0, m1, q⟩ := h
    refine ⟨_, (pss_cons (ps_asg (pv 0) (pg_tupK (K := K) rfl rfl (pgs_cons (pg_name (i := 4) sc__law_is_told.nd rfl (Or.inl rfl)) (pgs_cons (pg_name (i := 5) sc__law_is_told.nd rfl (Or.inl rfl)) (pgs_cons (pg_name (i := 6) sc__law_is_told.nd rfl (Or.inl rfl)) (pgs_cons (pg_name (i := 7) sc__law_is_told.nd rfl (Or.inl rfl)) pgs_nil))))))
      (pss_cons (ps_set (i := 8) sc__law_is_told.nd rfl (Or.inl rfl) (pe_cl c_settled_facts hr (by decide) rfl (pa_cons (pv 4) (pa_cons (pv 5) (pa_cons (pv 6) (pa_cons (pv 1) (pa_cons (pv 2) (pa_cons (pv 3) pa_nil))))))))
      (pss_one (ps_ret (pe_and (pe_cmpR (r := rEqD K) (op_eqD hr.units) (pv 8) (pv 7) (nomark _)) (pe_one (pe_cmpR op_eq (pe_callB (id := "repr") (r := rReprD K) (c_reprD hG hr.units) (by rfl) T.b_repr (by decide +kernel) (pa_cons (pv 8) pa_nil)) (pe_callB (id := "repr") (r := rReprD K) (c_reprD hG hr.units) (by rfl) T.b_repr (by decide +kernel) (pa_cons (pv 7) pa_nil)) (nomark _)))))))), ?_⟩
    try dsimp only [cxOf, Cx.nox, Cx.wish]
    refine st_of (σ' := [some _, some _, some _, some _, none, none, none, none, none]) rfl ?_
    wtm_at "jw"
    refine i_gTupD hx rfl fun xs hxs => ?_
    rcases hxs with _ | ⟨h1, _ | ⟨h2, _ | ⟨h3, _ | ⟨h4, _ | _⟩⟩⟩⟩
    wtm_at "jw"
    refine ⟨_, _, _, n, pa, ho, m, t, en, go, fo, pend, pend', ws, lack, rfl, h1, h2, h3, P, hs, n10, hpl, hwl, hw0, hlk, m0, m1, hs', fun v H1 s1 hv => ?_⟩
    have h4' := h4.same s1
    have rp := rp_pst (P.nx hlk (ws := ws) (pa := pa) hw0 m0) hs' hpl' n10 (by omega) (by omega)
    wtm_at "jw"
    refine i_eqS' hv.dp h4'.dp (shp_facts _ _ _ _ _) (by decide) ?_
    wtm_at "jw"
    refine i_reprS hv.dp rp (by decide) (by decide) ⟨_, rfl⟩ fun r1 er1 => ?_
    wtm_at "jw"
    refine i_reprS h4'.dp rp (by decide) (by decide) ⟨_, rfl⟩ fun r2 er2 => ?_
    wtm_at "jw"
    rw [decide_eq_true (er1.trans er2.symm)]
    exact q _ s1
def sp__law_new_past (K : PySem.W.Frag) : Sp := fun vs H Q _ => ∃ (b : Addr) (bs : List Int), vs = [.ref b] ∧ SqT K H b (bs.map V.int) ∧ bs.length ≤ 10 ∧
  ∀ r e g f H', Same H H' → H' r = some (.dK (pastK e g f)) → H' e = some (.lst ((entB bs).map ovO)) → H' g = some (.lst ((nonB bs).map ovO)) → LPr H' f [] → H r = none → H e = none → H g = none → H f = none → e ≠ g → e ≠ f → g ≠ f → Q (.ref r) H'
theorem ok__law_new_past {P : Program} {w : World} {K : PySem.W.Frag} {mg : Str → Option Value} {base : Heap} {f : Addr} {fd : FuncData} (F : Df K mg "_law_new_past" s__law_new_past f fd ["begin"]) (T : Txt mg) : FnOk P w K mg base CX0 1 f fd ["begin"] (sp__law_new_past K) := by
  refine F.ok sc__law_new_past (fun vs H Q E h => ?_) (fun cdv A outer s H vs Q E hr h => ?_)
  · obtain ⟨b, bs, rfl, _⟩ := h
    rfl
  · obtain ⟨b, bs, rfl, hb, hl, q⟩ := h
    refine ⟨_, (pss_cons (ps_setLc (i := 1) (own := [("flag", 2)]) (g := gName 2) (tt := tYes) rfl sc__law_new_past.nd rfl rfl (sw_true rfl rfl rfl (by decide +kernel)) (pi_tup (pv 0)) (blkOk_by (own := [("flag", 2)]) (N := N__law_new_past) (sc := defScope s__law_new_past) (by decide +kernel)) (fun _ _ _ _ _ => (pg_name (i := 2) sc__law_new_past.nd rfl (Or.inl rfl))) (fun _ _ _ _ _ => pts_nil) (fun _ _ _ _ _ => (pe_ifExp (pt_cmpR op_eq (pv 2) pe_int (nomark _)) pe_int pe_non)))
      (pss_one (ps_ret (pe_disp (pps_cons pe_str (pv 1) (pps_cons pe_str (pe_lc (own := [("flag", 2)]) (g := gName 2) (tt := tYes) rfl sc__law_new_past.nd (pi_tup (pv 0)) (blkOk_by (own := [("flag", 2)]) (N := N__law_new_past) (sc := defScope s__law_new_past) (by decide +kernel)) (fun _ _ _ _ _ => (pg_name (i := 2) sc__law_new_past.nd rfl (Or.inl rfl))) (fun _ _ _ _ _ => pts_nil) (fun _ _ _ _ _ => pe_non)) (pps_cons pe_str (pe_lst pa_nil) pps_nil))) (by rfl) (by rfl) (fun z => by cases z) (by decide))))), ?_⟩
    try dsimp only [cxOf, Cx.nox, Cx.wish]
    refine st_of (σ' := [some _, none, none]) rfl ?_
    wtm_at "jw"
    intro E hE
    refine l_tup (xs := bs.map V.int) (fun i H' => Same H H' ∧ H' E = some (.lst ((entB (bs.take i)).map ovO))) ⟨same_new hE, upd_same⟩ (fun i H' _ h => Same.tup h.1 hb) (fun i x H' hi h => ?_) (fun H1 h => ?_)
    · obtain ⟨s1, hE1⟩ := h
      obtain ⟨z, rfl, e1, e2, hlt⟩ := ints_at hi
      have hsz : ((entB (bs.take i)).map ovO).length < sizeLine := small1000 (by unfold entB; rw [List.length_map, List.length_map, List.length_take]; omega)
      wtm_at "jw"
      refine ⟨rfl, ?_⟩
      wtm_at "jw"
      refine c_dec (fun h => ?_) (fun h => ?_)
      · wtm_at "jw"
        exact ⟨_, hE1, hsz, put_same s1 hE, by rw [upd_same, e2]; unfold entB; rw [List.map_append, List.map_append, List.map_singleton, if_pos h]; rfl⟩
      · wtm_at "jw"
        exact ⟨_, hE1, hsz, put_same s1 hE, by rw [upd_same, e2]; unfold entB; rw [List.map_append, List.map_append, List.map_singleton, if_neg h]; rfl⟩
    obtain ⟨s1, hE1⟩ := h
    rw [List.length_map, List.take_length] at hE1
    wtm_at "jw"
    refine i_disp fun R hR => ?_
    have s2 := s1.trans (same_new (o := .dK []) hR)
    have hR2 := upd_same (H := H1) (a := R) (o := .dK [])
    have hE2 := same_new (o := .dK []) hR _ _ hE1
    have hR0 := s1.free hR
    generalize upd H1 R (.dK []) = H2 at s2 hR2 hE2 ⊢
    have hb2 := Same.tup s2 hb
    wtm_at "jw"
    intro G hG
    refine l_tup (xs := bs.map V.int) (fun i H' => Same H2 H' ∧ H' G = some (.lst ((nonB (bs.take i)).map ovO))) ⟨same_new hG, upd_same⟩ (fun i H' _ h => Same.tup h.1 hb2) (fun i x H' hi h => ?_) (fun H3 h => ?_)
    · obtain ⟨s3, hG1⟩ := h
      obtain ⟨z, rfl, e1, e2, hlt⟩ := ints_at hi
      have hsz : ((nonB (bs.take i)).map ovO).length < sizeLine := small1000 (by unfold nonB; rw [List.length_map, List.length_map, List.length_take]; omega)
      wtm_at "jw"
      refine ⟨rfl, ?_⟩
      wtm_at "jw"
      exact ⟨_, hG1, hsz, put_same s3 hG, by rw [upd_same, e2]; unfold nonB; rw [List.map_append, List.map_append, List.map_singleton]; rfl⟩
    obtain ⟨s3, hG3⟩ := h
    rw [List.length_map, List.take_length] at hG3
    have nEG : E ≠ G := ne_of_none hE2 hG
    have hE3 := s3 _ _ hE2
    have hR3 := s3 _ _ hR2
    wtm_at "jw"
    intro F hF
    have s4 := (s2.trans s3).trans (same_new (o := .lst []) hF)
    have nEF : E ≠ F := ne_of_none hE3 hF
    have nGF : G ≠ F := ne_of_none hG3 hF
    have hE4 := same_new (o := .lst []) hF _ _ hE3
    have hG4 := same_new (o := .lst []) hF _ _ hG3
    have hR4 := same_new (o := .lst []) hF _ _ hR3
    have hF4 : LPr (upd H3 F (.lst [])) F [] := ⟨[], upd_same, .nil⟩
    have hG0 := s2.free hG
    have hF0 := (s2.trans s3).free hF
    generalize upd H3 F (.lst []) = H4 at s4 hE4 hG4 hR4 hF4 ⊢
    wtm_at "jw"
    refine ⟨hR4, pastK E G F, rfl, by simp [pastK], ?_⟩
    rw [past_m]
    have nRE : E ≠ R := ne_of hE4 hR4 (by intro z; cases z)
    have nRG : G ≠ R := ne_of hG4 hR4 (by intro z; cases z)
    obtain ⟨rs, hF4', hw⟩ := hF4
    have nRF : F ≠ R := ne_of hF4' hR4 (by intro z; cases z)
    refine q R E G F _ (put_same s4 hR0) upd_same (by rw [upd_ne nRE]; exact hE4) (by rw [upd_ne nRG]; exact hG4) ⟨rs, by rw [upd_ne nRF]; exact hF4', ?_⟩ hR0 hE hG0 hF0 nEG nEF nGF
    have : rs = [] := by
      have := hw.1
      cases rs with
      | nil => rfl
      | cons a b => cases this
    subst this
    exact .nil
def sp__law_any_word (K : PySem.W.Frag) : Sp := fun vs H Q _ => ∃ (p a : Addr) (n : Nat) (m : Int), vs = [.ref p, .int (n : Int), .int m] ∧ DrawAt H p a ∧ 0 < n ∧ n ≤ 4 ∧ 0 < m ∧ m ≤ 10 ∧ ∀ z H', Drew p a H H' → 0 ≤ z → Q (.int z) H'
theorem ok__law_any_word {P : Program} {w : World} {K : PySem.W.Frag} {mg : Str → Option Value} {base : Heap} {f : Addr} {fd : FuncData} (F : Df K mg "_law_any_word" s__law_any_word f fd ["d", "seats", "many"]) (T : Txt mg)
    (c__law_pick : Cl P w K mg base 2 "_law_pick" (sp__law_pick K))
    (c__law_draw : Cl P w K mg base 1 "_law_draw" (sp__law_draw K)) : FnOk P w K mg base CX0 3 f fd ["d", "seats", "many"] (sp__law_any_word K) := by
  refine F.ok sc__law_any_word (fun vs H Q E h => ?_) (fun cdv A outer s H vs Q E hr h => ?_)
  · obtain ⟨p, a, n, m, rfl, _⟩ := h
    rfl
  · obtain ⟨p, a, n, m, rfl, hd, n0, n1, m0, m1, q⟩ := h
    have w0 := hd.drew
    refine ⟨_, (pss_cons (ps_set (i := 3) sc__law_any_word.nd rfl (Or.inl rfl) (pe_cl c__law_pick hr (by decide) rfl (pa_cons (pv 0) (pa_cons (pe_lst (pa_cons pe_int (pa_cons pe_int (pa_cons (pe_cl c__law_draw hr (by decide) rfl (pa_cons (pv 0) (pa_cons pe_int pa_nil))) (pa_cons (pe_op op_add pe_int (pe_cl c__law_draw hr (by decide) rfl (pa_cons (pv 0) (pa_cons (pv 1) pa_nil)))) (pa_cons (pe_op op_add pe_int (pe_cl c__law_draw hr (by decide) rfl (pa_cons (pv 0) (pa_cons pe_int pa_nil)))) pa_nil)))))) pa_nil))))
      (pss_one (ps_ret (pe_op op_add (pe_cl c__law_draw hr (by decide) rfl (pa_cons (pv 0) (pa_cons (pv 2) pa_nil))) (pe_op op_mul (pv 2) (pv 3)))))), ?_⟩
    try dsimp only [cxOf, Cx.nox, Cx.wish]
    refine st_of (σ' := [some _, some _, some _, none]) rfl ?_
    wtm_at "jw"
    refine drawL w0 (by decide) (by decide) fun z1 H1 z10 z11 _ w1 => ?_
    wtm_at "jw"
    refine drawL w1 (by omega) (by omega) fun z2 H2 z20 z21 _ w2 => ?_
    wtm_at "jw"
    refine drawL w2 (by decide) (by decide) fun z3 H3 z30 z31 _ w3 => ?_
    wtm_at "jw"
    intro B hB
    wtm_at "jw"
    refine pickL (fun z => 0 ≤ z ∧ z ≤ 100) [0, 0, z1, 4 + z2, 1 + z3] w3 hB rfl (by simp) (by simp) (by simp; omega) fun wish H4 hw _ w4 => ?_
    wtm_at "jw"
    refine drawL w4 m0 (by omega) fun z5 H5 z50 z51 _ w5 => ?_
    wtm_at "jw"
    exact q _ _ w5 (by have := Int.mul_nonneg (Int.le_of_lt m0) hw.1; omega)
def sp__law_next_words (K : PySem.W.Frag) : Sp := fun vs H Q _ => ∃ (p a r e g f : Addr) (n : Nat) (en go : List (Option Int)) (t m rate : Int), vs = [.ref p, .ref r, .int t, .int m, .int rate] ∧ DrawAt H p a ∧ H r = some (.dK (pastK e g f)) ∧ H e = some (.lst (en.map ovO)) ∧ H g = some (.lst (go.map ovO)) ∧ r ≠ p ∧ e ≠ p ∧ g ≠ p ∧
  en.length = n ∧ go.length = n ∧ 0 < n ∧ n ≤ 4 ∧ 0 < m ∧ m ≤ 10 ∧ 0 < rate ∧ rate < 100 ∧
  ∀ (v : V) (ws : List Int) (lack : List Nat) (H' : Hp), Drew p a H H' → TD K H' v (.tuple [.tuple (ws.map PyData.int), .tuple (lack.map iD)]) → ws.length = n → (∀ z ∈ ws, 0 ≤ z) → (∀ u ∈ lack, u < n) → Q v H'
theorem ok__law_next_words {P : Program} {w : World} {K : PySem.W.Frag} {mg : Str → Option Value} {base : Heap} {f : Addr} {fd : FuncData} (F : Df K mg "_law_next_words" s__law_next_words f fd ["d", "past", "tick", "many", "rate"]) (T : Txt mg)
    (c__law_present : Cl P w K mg base 1 "_law_present" (sp__law_present K))
    (c__law_draw : Cl P w K mg base 1 "_law_draw" (sp__law_draw K))
    (c__law_any_word : Cl P w K mg base 3 "_law_any_word" (sp__law_any_word K)) : FnOk P w K mg base CX0 4 f fd ["d", "past", "tick", "many", "rate"] (sp__law_next_words K) := by
  refine F.ok sc__law_next_words (fun vs H Q E h => ?_) (fun cdv A outer s H vs Q E hr h => ?_)
  · obtain ⟨p, a, r, e, g, f, n, en, go, t, m, rate, rfl, _⟩ := h
    rfl
  · obtain ⟨p, a, r, e, g, f, n, en, go, t, m, rate, rfl, hd, hr0, he, hg, nr, ne, ng, len, lgo, n0, n4, m0, m1, r0, r1, q⟩ := h
    have hu := hu_of hr
    refine ⟨_, (pss_cons (ps_setLc (i := 5) (own := [("one", 6)]) (g := gName 6) (tt := tYes) rfl sc__law_next_words.nd rfl rfl (sw_true rfl rfl rfl (by decide +kernel)) (pi_list (pe_dget hu (pv 1) pe_str (fun _ _ => rfl))) (blkOk_by (own := [("one", 6)]) (N := N__law_next_words) (sc := defScope s__law_next_words) (by decide +kernel)) (fun _ _ _ _ _ => (pg_name (i := 6) sc__law_next_words.nd rfl (Or.inl rfl))) (fun _ _ _ _ _ => pts_nil) (fun _ _ _ _ _ => pe_int))
      (pss_cons (ps_set (i := 7) sc__law_next_words.nd rfl (Or.inl rfl) (pe_lst pa_nil))
      (pss_cons (ps_for PassesOwn.never rfl (pi_list (pe_cl c__law_present hr (by decide) rfl (pa_cons (pe_dget hu (pv 1) pe_str (fun _ _ => rfl)) (pa_cons (pe_dget hu (pv 1) pe_str (fun _ _ => rfl)) (pa_cons (pv 2) pa_nil))))) (pg_name (i := 8) sc__law_next_words.nd rfl (Or.inl rfl)) (pss_one (ps_if (pt_cmpR op_eq (pe_cl c__law_draw hr (by decide) rfl (pa_cons (pv 0) (pa_cons (pv 4) pa_nil))) pe_int (nomark _)) (pss_one (ps_expr (pe_bmK (K := K) rfl PySem.F.plainAttrs_list PySem.F.slot_list_append PySem.F.type_list_append mt_append (pv 7) (pa_cons (pv 8) pa_nil)))) (pss_one (ps_asg (pe_cl c__law_any_word hr (by decide) rfl (pa_cons (pv 0) (pa_cons (pe_callB (id := "len") (r := qLen K) c_len (by rfl) T.b_len (by decide +kernel) (pa_cons (pv 5) pa_nil)) (pa_cons (pv 3) pa_nil)))) (pg_sub (pv 5) (pv 8) set_list))))))
      (pss_one (ps_ret (pe_tup (pa_cons (pe_callTy (T := "tuple") (r := rTupOf K) c_tup (by rfl) T.b_tuple (by decide +kernel) (pa_cons (pv 5) pa_nil)) (pa_cons (pe_callTy (T := "tuple") (r := rTupOf K) c_tup (by rfl) T.b_tuple (by decide +kernel) (pa_cons (pv 7) pa_nil)) pa_nil)))))))), ?_⟩
    try dsimp only [cxOf, Cx.nox, Cx.wish]
    refine st_of (σ' := [some _, some _, some _, some _, some _, none, none, none, none]) rfl ?_
    wtm_at "jw"
    refine i_dget ?_
    wtm_at "jw"
    refine i_dgetS (.inl hr0) (past_g e g f) ?_
    wtm_at "jw"
    intro W hW
    refine l_listP (xs := go.map ovO) (fun _ => V.int 0) hW (by rw [List.length_map]; omega) (SqL.of hg) (fun i x H' R hi s hR => ?_) (fun H1 s1 hW1 => ?_)
    · wtm_at "jw"
      refine ⟨rfl, ?_⟩
      wtm_at "jw"
      exact hR
    have hW1' : H1 W = some (.lst ((List.replicate n (0 : Int)).map V.int)) := by
      rw [hW1, List.map_const', List.length_range, List.length_map, lgo, List.map_replicate]
    wtm_at "jw"
    intro L hL
    have w1 := hd.drew.same (s1.trans (same_new (o := .lst []) hL))
    have s2 := s1.trans (same_new (o := .lst []) hL)
    have hL0 := s1.free hL
    have nWL : W ≠ L := ne_of_none hW1' hL
    have nW := hd.ne_none hW
    have nL := hd.ne_none hL0
    have hW2 := same_new (o := .lst []) hL _ _ hW1'
    have hL2 := upd_same (H := H1) (a := L) (o := .lst [])
    generalize upd H1 L (.lst []) = H2 at w1 s2 hW2 hL2 ⊢
    have hr2 := s2 _ _ hr0
    have he2 := s2 _ _ he
    have hg2 := s2 _ _ hg
    wtm_at "jw"
    refine i_dget ?_
    wtm_at "jw"
    refine i_dgetS (.inl hr2) (past_e e g f) ?_
    wtm_at "jw"
    refine i_dget ?_
    wtm_at "jw"
    refine i_dgetS (.inl hr2) (past_g e g f) ?_
    wtm_at "jw"
    refine ⟨e, g, en, go, t, rfl, he2, hg2, by omega, by omega, fun rr H3 s3 nrr hrr => ?_⟩
    have w3 := w1.same s3
    have nrr0 := w1.free nrr
    have nrp := hd.ne_none nrr0
    have nrW : rr ≠ W := (ne_of_none hW2 nrr).symm
    have nrL : rr ≠ L := (ne_of_none hL2 nrr).symm
    have hW3 := s3 _ _ hW2
    have hL3 := s3 _ _ hL2
    wtm_at "jw"
    refine f_list (xs := (presL en go t en.length).map iN) (fun k σ H' => Drew p a H H' ∧ H' rr = some (.lst ((presL en go t en.length).map iN)) ∧ ∃ (ws : List Int) (lack : List Nat) (v5 v7 : Option V), H' W = some (.lst (ws.map V.int)) ∧ H' L = some (.lst (lack.map iN)) ∧ ws.length = n ∧ (∀ z ∈ ws, 0 ≤ z) ∧ (∀ u ∈ lack, u < n) ∧ lack.length ≤ k ∧
        σ = [some (.ref p), some (.ref r), some (.int t), some (.int m), some (.int rate), some (.ref W), v5, some (.ref L), v7])
      ⟨w3, hrr, List.replicate n 0, [], _, _, hW3, hL3, by simp, by intro z hz; rw [List.eq_of_mem_replicate hz]; exact Int.le_refl _, by simp, Nat.le_refl _, rfl⟩ (fun k σ H' _ h => SqL.of h.2.1) (fun k x σ H' hk h => ?_) (fun σ H' h => ?_)
    · obtain ⟨w4, hr4, ws, lack, v5, v7, hW4, hL4, hwl, hw0, hlk, hll, rfl⟩ := h
      rw [List.getElem?_map] at hk
      obtain ⟨y, hy, rfl⟩ : ∃ y, (presL en go t en.length)[k]? = some y ∧ x = iN y := by
        cases e : (presL en go t en.length)[k]? with
        | none => rw [e] at hk; cases hk
        | some y => rw [e] at hk; exact ⟨y, rfl, (Option.some.inj hk).symm⟩
      have hkl : k < n := by
        have h1 := (List.getElem?_eq_some_iff.mp hy).1
        have h2 := presL_len en go t en.length
        omega
      have hyl : y < n := by
        have := List.mem_of_getElem? hy
        unfold presL at this
        rw [List.mem_filter, List.mem_range] at this
        omega
      unfold iN
      wtm_at "jw"
      refine drawL w4 r0 (by omega) fun z H5 z0 z1 e5 w5 => ?_
      have hr5 := e5.kp _ _ hr4 nrp
      have hW5 := e5.kp _ _ hW4 nW
      have hL5 := e5.kp _ _ hL4 nL
      have hsz : (lack.map iN).length < sizeLine := small1000 (by rw [List.length_map]; omega)
      wtm_at "jw"
      refine c_dec (fun h => ?_) (fun h => ?_)
      · wtm_at "jw"
        refine ⟨w5.put hd hL0, by rw [upd_ne nrL]; exact hr5, ws, lack ++ [y], _, _, by rw [upd_ne nWL]; exact hW5, by rw [upd_same, List.map_append]; rfl, hwl, hw0, fun u hu => ?_, by simp; omega, rfl⟩
        rcases List.mem_append.mp hu with hu | hu
        · exact hlk u hu
        · rw [List.mem_singleton.mp hu]; exact hyl
      · wtm_at "jw"
        rw [List.length_map, hwl]
        refine ⟨p, a, n, m, rfl, w5.at_, n0, n4, m0, m1, fun w H6 e6 w0' => ?_⟩
        have w6 := w5.trans e6
        have hr6 := e6.kp _ _ hr5 nrp
        have hW6 := e6.kp _ _ hW5 nW
        have hL6 := e6.kp _ _ hL5 nL
        have ix := ixN_of (n := (ws.map V.int).length) (i := (y : Int)) (by omega) (by rw [List.length_map]; omega)
        wtm_at "jw"
        refine ⟨w6.put hd hW, by rw [upd_ne nrW]; exact hr6, ws.set y w, lack, _, _, ?_, by rw [upd_ne nWL.symm]; exact hL6, by rw [List.length_set, hwl], fun z hz => ?_, hlk, by omega, rfl⟩
        · rw [upd_same, List.map_set]; rfl
        · rcases List.mem_or_eq_of_mem_set hz with hz | rfl
          · exact hw0 z hz
          · exact w0'
    · obtain ⟨w4, hr4, ws, lack, v5, v7, hW4, hL4, hwl, hw0, hlk, hll, rfl⟩ := h
      wtm_at "jw"
      intro T1 hT1
      have s5 := same_new (o := .tup (ws.map V.int)) hT1
      have k1 : TD K (upd H' T1 (.tup (ws.map V.int))) (.ref T1) (.tuple (ws.map PyData.int)) := TD.new hT1 (TDs.ints _)
      have hL5 := s5 _ _ hL4
      have w5 := w4.same s5
      generalize upd H' T1 (.tup (ws.map V.int)) = H5 at s5 k1 hL5 w5 ⊢
      wtm_at "jw"
      intro T2 hT2
      have s6 := same_new (o := .tup (lack.map iN)) hT2
      have k2 : TD K (upd H5 T2 (.tup (lack.map iN))) (.ref T2) (.tuple (lack.map iD)) := TD.new hT2 (TDs.map fun n _ => .int n)
      have k1' := k1.same s6
      have w6 := w5.same s6
      generalize upd H5 T2 (.tup (lack.map iN)) = H6 at s6 k2 k1' w6 ⊢
      wtm_at "jw"
      intro R hR
      exact q _ ws lack _ (w6.same (same_new hR)) (TD.new hR (.cons k1' (.cons k2 .nil))) hwl hw0 hlk
theorem headO_pres (en go : List (Option Int)) (t : Int) (n : Nat) : presL en go t n = presH en go t n := rfl
def sp__law_go_on (K : PySem.W.Frag) : Sp := fun vs H Q _ => ∃ (r e g f : Addr) (y z : V) (n : Nat) (en go : List (Option Int)) (fo : List (Int × Int)) (ws : List Int) (lack : List Nat) (t pa ho m : Int), vs = [.ref r, .int t, y, z, .int pa, .int ho, .int m] ∧
  H r = some (.dK (pastK e g f)) ∧ H e = some (.lst (en.map ovO)) ∧ H g = some (.lst (go.map ovO)) ∧ LPr H f fo ∧ e ≠ g ∧ e ≠ f ∧ g ≠ f ∧ TD K H y (.tuple (ws.map PyData.int)) ∧ TD K H z (.tuple (lack.map iD)) ∧ en.length = n ∧ go.length = n ∧ n ≤ 4 ∧ ws.length = n ∧ (∀ z ∈ ws, 0 ≤ z) ∧ (∀ u ∈ lack, u < n) ∧ 0 < m ∧ m < 1000 ∧ fo.length ≤ 90 ∧
  ∀ H', (∀ b o, H b = some o → b ≠ e → b ≠ g → b ≠ f → H' b = some o) → Tps H H' → H' e = some (.lst ((nxE ws m pa ho t en (goneL go lack t) n).map ovO)) → H' g = some (.lst ((goneL go lack t).map ovO)) → LPr H' f (nxF ws m pa ho t en (goneL go lack t) fo n) → Q .non H'
theorem ok__law_go_on {P : Program} {w : World} {K : PySem.W.Frag} {mg : Str → Option Value} {base : Heap} {f : Addr} {fd : FuncData} (F : Df K mg "_law_go_on" s__law_go_on f fd ["past", "tick", "words", "lacking", "patches", "holding", "many"]) (T : Txt mg)
    (c__law_present : Cl P w K mg base 1 "_law_present" (sp__law_present K))
    (c__law_take_order : Cl P w K mg base 2 "_law_take_order" (sp__law_take_order K)) : FnOk P w K mg base CX0 3 f fd ["past", "tick", "words", "lacking", "patches", "holding", "many"] (sp__law_go_on K) := by
  refine F.ok sc__law_go_on (fun vs H Q E h => ?_) (fun cdv A outer s H vs Q E hr h => ?_)
  · obtain ⟨r, e, g, f, y, z, n, en, go, fo, ws, lack, t, pa, ho, m, rfl, _⟩ := h
    rfl
  · obtain ⟨r, e, g, f, y, z, n, en, go, fo, ws, lack, t, pa, ho, m, rfl, hr0, he, hg, hf, neg, nef, ngf, hy, hz, len, lgo, n4, hwl, hw0, hlk, m0, m1, lfo, q⟩ := h
    have nrg : r ≠ g := ne_of hr0 hg (by intro z; cases z)
    obtain ⟨za, zs, rfl, hzS, hzT⟩ := hz.tup_inv
    rw [iD_ints] at hzT
    have ezs := hzT.ints_inv
    rw [List.map_map] at ezs
    have ezs' : zs = lack.map iN := ezs
    subst ezs'
    have hu := hu_of hr
    refine ⟨_, (pss_cons (ps_set (i := 7) sc__law_go_on.nd rfl (Or.inl rfl) (pe_dget hu (pv 0) pe_str (fun _ _ => rfl)))
      (pss_cons (ps_for PassesOwn.never rfl (pi_tup (pv 3)) (pg_name (i := 8) sc__law_go_on.nd rfl (Or.inl rfl)) (pss_one (ps_asg (pv 1) (pg_sub (pv 7) (pv 8) set_list))))
      (pss_cons (ps_set (i := 9) sc__law_go_on.nd rfl (Or.inl rfl) (pe_cl c__law_present hr (by decide) rfl (pa_cons (pe_dget hu (pv 0) pe_str (fun _ _ => rfl)) (pa_cons (pv 7) (pa_cons (pv 1) pa_nil)))))
      (pss_one (ps_if (pt_cmpR op_gt (pe_callB (id := "len") (r := qLen K) c_len (by rfl) T.b_len (by decide +kernel) (pa_cons (pv 9) pa_nil)) pe_int (nomark _)) (pss_one (ps_expr (pe_cl c__law_take_order hr (by decide) rfl (pa_cons (pe_ix (r := rIxT K) ix_tup (pv 2) (pe_ix (r := rIxL K) ix_list (pv 9) pe_int (fun _ _ => rfl)) (fun _ _ => rfl)) (pa_cons (pv 6) (pa_cons (pv 4) (pa_cons (pv 5) (pa_cons (pv 1) (pa_cons (pe_dget hu (pv 0) pe_str (fun _ _ => rfl)) (pa_cons (pe_dget hu (pv 0) pe_str (fun _ _ => rfl)) pa_nil)))))))))) pss_nil))))), ?_⟩
    try dsimp only [cxOf, Cx.nox, Cx.wish]
    refine st_of (σ' := [some _, some _, some _, some _, some _, some _, some _, none, none, none]) rfl ?_
    wtm_at "jw"
    refine i_dget ?_
    wtm_at "jw"
    refine i_dgetS (.inl hr0) (past_g e g f) ?_
    wtm_at "jw"
    refine f_tup (xs := lack.map iN) (fun k σ H' => (∀ b o, H b = some o → b ≠ g → H' b = some o) ∧ Tps H H' ∧ H' g = some (.lst ((goneL go (lack.take k) t).map ovO)) ∧ ∃ v8, σ = [some (.ref r), some (.int t), some y, some (.ref za), some (.int pa), some (.int ho), some (.int m), some (.ref g), v8, none])
      ⟨fun b o h _ => h, Tps.refl, hg, none, rfl⟩ (fun k σ H' _ h => h.2.1.sq hzS) (fun k x σ H' hk h => ?_) (fun σ H' h => ?_)
    · obtain ⟨kp, tp, hg1, v8, rfl⟩ := h
      rw [List.getElem?_map] at hk
      obtain ⟨u, hu, rfl⟩ : ∃ u, lack[k]? = some u ∧ x = iN u := by
        cases e : lack[k]? with
        | none => rw [e] at hk; cases hk
        | some y => rw [e] at hk; exact ⟨y, rfl, (Option.some.inj hk).symm⟩
      have hun := hlk u (List.mem_of_getElem? hu)
      have ix := ixN_of (n := ((goneL go (lack.take k) t).map ovO).length) (i := (u : Int)) (by omega) (by rw [List.length_map, goneL_len]; omega)
      have eg : goneL go (lack.take (k + 1)) t = (goneL go (lack.take k) t).set u (some t) := by
        unfold goneL
        rw [List.take_add_one, hu, List.foldl_append]; rfl
      unfold iN
      wtm_at "jw"
      refine ⟨fun b o hb n => by rw [upd_ne n]; exact kp b o hb n, tp.trans (tps_put hg1), ?_, _, rfl⟩
      rw [upd_same, eg, List.map_set]; rfl
    · obtain ⟨kp, tp, hg1, v8, rfl⟩ := h
      rw [List.length_map, List.take_length] at hg1
      have hr1 := kp _ _ hr0 nrg
      have he1 := kp _ _ he neg
      have hf1 : LPr H' f fo := by
        obtain ⟨rs, hf0, hw⟩ := hf
        exact ⟨rs, kp _ _ hf0 ngf.symm, hw.tps tp⟩
      have hy1 := hy.tps tp
      wtm_at "jw"
      refine i_dget ?_
      wtm_at "jw"
      refine i_dgetS (.inl hr1) (past_e e g f) ?_
      wtm_at "jw"
      refine ⟨e, g, en, goneL go lack t, t, rfl, he1, hg1, by rw [goneL_len]; omega, by omega, fun rr H2 s2 nrr hrr => ?_⟩
      rw [len] at hrr
      have hr2 := s2 _ _ hr1
      have he2 := s2 _ _ he1
      have hg2 := s2 _ _ hg1
      have hf2 := hf1.same s2
      have hy2 := hy1.same s2
      rw [headO_pres] at hrr
      wtm_at "jw"
      rw [List.length_map]
      cases e1 : presH en (goneL go lack t) t n with
      | nil =>
        refine c_no (by simp) ?_
        wtm_at "jw"
        exact q H2 (fun b o hb _ n2 _ => s2 _ _ (kp _ _ hb n2)) (tp.trans (Tps.of s2)) (by unfold nxE; rw [e1]; exact he2) hg2 (by unfold nxF; rw [e1]; exact hf2)
      | cons sp rs =>
        have hsn : sp < n := by
          have : sp ∈ presH en (goneL go lack t) t n := by rw [e1]; exact List.mem_cons_self
          unfold presH at this
          rw [List.mem_filter, List.mem_range] at this
          exact this.1
        rw [e1] at hrr
        have aw : (ws.map PyData.int)[(sp : Int).toNat]? = some (.int (ws[sp]?.getD 0)) := by
          rw [Int.toNat_natCast, List.getElem?_map, List.getElem?_eq_getElem (by omega)]; rfl
        have a0 : atI ((sp :: rs).map iN) 0 = some (.int (sp : Int)) := atI_nat (xs := (sp :: rs).map iN) (j := 0) rfl
        have w0 : 0 ≤ ws[sp]?.getD 0 := by
          rw [List.getElem?_eq_getElem (by omega)]
          exact hw0 _ (List.getElem_mem _)
        refine c_yes (by simp) ?_
        wtm_at "jw"
        refine i_dget ?_
        wtm_at "jw"
        refine i_dgetS (.inl hr2) (past_e e g f) ?_
        wtm_at "jw"
        refine i_dget ?_
        wtm_at "jw"
        refine i_dgetS (.inl hr2) (past_f e g f) ?_
        wtm_at "jw"
        refine ⟨_, m, pa, ho, t, e, f, en, fo, rfl, he2, hf2, nef, w0, m0, m1, by omega, fun H3 keep t3 he3 hf3 => ?_⟩
        wtm_at "jw"
        exact q H3 (fun b o hb n1 n2 n3 => keep _ _ (s2 _ _ (kp _ _ hb n2)) n1 n3) ((tp.trans (Tps.of s2)).trans t3) (by unfold nxE; rw [e1]; exact he3) (keep _ _ hg2 neg.symm ngf) (by unfold nxF; rw [e1]; exact hf3)
theorem Drew.step3 {p a e f g : Addr} {H H3 H4 : Hp} (d : Drew p a H H3) (hd : DrawAt H p a) (he : H e = none) (hg : H g = none) (hf : H f = none) (k : ∀ b o, H3 b = some o → b ≠ e → b ≠ g → b ≠ f → H4 b = some o) : Drew p a H H4 := by
  have n1 := hd.ne_none he
  have n2 := hd.ne_none hf
  have n3 := hd.ne_none hg
  have m1 := hd.ne_noneA he
  have m2 := hd.ne_noneA hf
  have m3 := hd.ne_noneA hg
  obtain ⟨ns, pos, pend, seed, h1, h2, h3, h4⟩ := d.at_
  refine ⟨⟨ns, pos, pend, seed, k _ _ h1 n1.symm n3.symm n2.symm, k _ _ h2 m1.symm m3.symm m2.symm, h3, h4⟩, fun b u hb hne => ?_⟩
  exact k _ _ (d.kp _ _ hb hne) (ne_of_none hb he) (ne_of_none hb hg) (ne_of_none hb hf)
theorem og_entB {bs : List Int} {s : Nat} {x : Int} (h : og (entB bs) s = some x) : x = 0 := by
  unfold og entB at h
  rw [List.getElem?_map] at h
  cases e : bs[s]? with
  | none => rw [e] at h; cases h
  | some b =>
    rw [e] at h
    simp only [Option.map_some, Option.getD_some] at h
    split at h
    · exact (Option.some.inj h).symm
    · cases h
theorem og_nonB {bs : List Int} {s : Nat} : og (nonB bs) s = none := by
  unfold og nonB
  rw [List.getElem?_map]
  cases bs[s]? <;> rfl
theorem pst_start {n : Nat} {ho : Int} {bs : List Int} (hl : bs.length = n) (h3 : 3 ≤ ho) : Pst n 0 ho (entB bs) (nonB bs) [] :=
  ⟨by simp [entB, hl], by simp [nonB, hl], Int.le_refl _, h3, by simp, .nil, fun s x h => by have := og_entB h; omega, fun s x h hx => by have := og_entB h; omega, fun s u x h _ hx => by have := og_entB h; omega, fun s x h => by rw [og_nonB] at h; cases h⟩
def sp_law (K : PySem.W.Frag) : Sp := fun vs H Q _ => ∃ (a : Addr) (ns : List Int), vs = [.ref a] ∧ SqL K H a (ns.map V.int) ∧ ns.length ≤ 63 ∧ ∀ H', Q (.bl true) H'
theorem ok_law {P : Program} {w : World} {K : PySem.W.Frag} {mg : Str → Option Value} {base : Heap} {f : Addr} {fd : FuncData} (F : Df K mg "law" s_law f fd ["script"]) (T : Txt mg)
    (c__law_begin : Cl P w K mg base 1 "_law_begin" (sp__law_begin K))
    (c__law_draw : Cl P w K mg base 1 "_law_draw" (sp__law_draw K))
    (c__law_pick : Cl P w K mg base 2 "_law_pick" (sp__law_pick K))
    (c__law_new_past : Cl P w K mg base 1 "_law_new_past" (sp__law_new_past K))
    (c__law_is_told : Cg P w K mg base 6 "_law_is_told" (sp__law_is_told K))
    (c__law_begun : Cl P w K mg base 3 "_law_begun" (sp__law_begun K))
    (c__law_behind : Cl P w K mg base 2 "_law_behind" (sp__law_behind K))
    (c__law_next_words : Cl P w K mg base 4 "_law_next_words" (sp__law_next_words K))
    (c__law_go_on : Cl P w K mg base 3 "_law_go_on" (sp__law_go_on K)) : Gok P w K mg base 7 f fd ["script"] (sp_law K) := by
  refine F.gok sc_law (fun vs H Q E h => ?_) (fun cdv A outer s H vs Q E hr hG h => ?_)
  · obtain ⟨a, ns, rfl, _⟩ := h
    rfl
  · obtain ⟨a, ns, rfl, hS, hl, k⟩ := h
    refine ⟨_, (pss_cons (ps_set (i := 1) sc_law.nd rfl (Or.inl rfl) (pe_cl c__law_begin hr (by decide) rfl (pa_cons (pv 0) pa_nil)))
      (pss_cons (ps_set (i := 2) sc_law.nd rfl (Or.inl rfl) (pe_op op_add pe_int (pe_cl c__law_draw hr (by decide) rfl (pa_cons (pv 1) (pa_cons pe_int pa_nil)))))
      (pss_cons (ps_set (i := 3) sc_law.nd rfl (Or.inl rfl) (pe_op op_add pe_int (pe_cl c__law_draw hr (by decide) rfl (pa_cons (pv 1) (pa_cons pe_int pa_nil)))))
      (pss_cons (ps_set (i := 4) sc_law.nd rfl (Or.inl rfl) (pe_cl c__law_draw hr (by decide) rfl (pa_cons (pv 1) (pa_cons pe_int pa_nil))))
      (pss_cons (ps_set (i := 5) sc_law.nd rfl (Or.inl rfl) (pe_op op_add pe_int (pe_op op_mul pe_int (pe_op op_add (pe_cl c__law_pick hr (by decide) rfl (pa_cons (pv 1) (pa_cons (pe_lst (pa_cons pe_int (pa_cons pe_int (pa_cons pe_int (pa_cons pe_int (pa_cons pe_int pa_nil)))))) pa_nil))) (pe_cl c__law_pick hr (by decide) rfl (pa_cons (pv 1) (pa_cons (pe_lst (pa_cons pe_int (pa_cons pe_int (pa_cons pe_int (pa_cons pe_int (pa_cons pe_int pa_nil)))))) pa_nil)))))))
      (pss_cons (ps_set (i := 6) sc_law.nd rfl (Or.inl rfl) (pe_cl c__law_pick hr (by decide) rfl (pa_cons (pv 1) (pa_cons (pe_lst (pa_cons pe_int (pa_cons pe_int (pa_cons pe_int (pa_cons pe_int (pa_cons pe_int pa_nil)))))) pa_nil))))
      (pss_cons (ps_set (i := 7) sc_law.nd rfl (Or.inl rfl) (pe_cl c__law_new_past hr (by decide) rfl (pa_cons (pe_cl c__law_begun hr (by decide) rfl (pa_cons (pv 1) (pa_cons (pv 2) pa_nil))) pa_nil)))
      (pss_cons (ps_set (i := 8) sc_law.nd rfl (Or.inl rfl) (pe_lst pa_nil))
      (pss_cons (ps_for PassesOwn.never rfl (pi_range1 rfl T.b_range (pa_cons (pe_op op_add pe_int (pe_cl c__law_draw hr (by decide) rfl (pa_cons (pv 1) (pa_cons pe_int pa_nil)))) pa_nil)) (pg_name (i := 9) sc_law.nd rfl (Or.inl rfl)) (pss_cons (ps_set (i := 10) sc_law.nd rfl (Or.inl rfl) (pe_cl c__law_behind hr (by decide) rfl (pa_cons (pv 7) (pa_cons (pv 5) (pa_cons (pv 9) pa_nil)))))
      (pss_cons (ps_asg (pe_cl c__law_next_words hr (by decide) rfl (pa_cons (pv 1) (pa_cons (pv 7) (pa_cons (pv 9) (pa_cons (pv 3) (pa_cons (pv 6) pa_nil)))))) (pg_tupK (K := K) rfl rfl (pgs_cons (pg_name (i := 11) sc_law.nd rfl (Or.inl rfl)) (pgs_cons (pg_name (i := 12) sc_law.nd rfl (Or.inl rfl)) pgs_nil))))
      (pss_cons (ps_expr (pe_cl c__law_go_on hr (by decide) rfl (pa_cons (pv 7) (pa_cons (pv 9) (pa_cons (pv 11) (pa_cons (pv 12) (pa_cons (pv 4) (pa_cons (pv 5) (pa_cons (pv 3) pa_nil)))))))))
      (pss_cons (ps_set (i := 13) sc_law.nd rfl (Or.inl rfl) (pe_tup (pa_cons (pv 10) (pa_cons (pv 11) (pa_cons (pv 12) (pa_cons (pe_cl c__law_behind hr (by decide) rfl (pa_cons (pv 7) (pa_cons (pv 5) (pa_cons (pe_op op_add (pv 9) pe_int) pa_nil)))) pa_nil))))))
      (pss_cons (ps_if (pt_not (pt_val (pe_cg c__law_is_told hr hG (by decide) rfl (pa_cons (pv 13) (pa_cons (pv 4) (pa_cons (pv 5) (pa_cons (pv 3) pa_nil))))))) (pss_one (ps_ret pe_bl)) pss_nil)
      (pss_one (ps_expr (pe_bmK (K := K) rfl PySem.F.plainAttrs_list PySem.F.slot_list_append PySem.F.type_list_append mt_append (pv 8) (pa_cons (pv 13) pa_nil))))))))))
      (pss_one (ps_ret (pe_cg c__law_is_told hr hG (by decide) rfl (pa_cons (pe_cl c__law_pick hr (by decide) rfl (pa_cons (pv 1) (pa_cons (pv 8) pa_nil))) (pa_cons (pv 4) (pa_cons (pv 5) (pa_cons (pv 3) pa_nil)))))))))))))))), ?_⟩
    try dsimp only [cxOf, Cx.nox, Cx.wish]
    refine st_of (σ' := [some _, none, none, none, none, none, none, none, none, none, none, none, none, none]) rfl ?_
    wtm_at "jw"
    refine ⟨a, ns, rfl, hS, hl, fun p c H0 s0 hp hc d0 => ?_⟩
    have w0 := d0.drew
    wtm_at "jw"
    refine drawL w0 (by decide) (by decide) fun z1 H1 z10 z11 _ w1 => ?_
    wtm_at "jw"
    refine drawL w1 (by decide) (by decide) fun z2 H2 z20 z21 _ w2 => ?_
    wtm_at "jw"
    refine drawL w2 (by decide) (by decide) fun pa H3 pa0 pa1 _ w3 => ?_
    wtm_at "jw"
    intro B1 hB1
    wtm_at "jw"
    refine pickL (fun z => 0 ≤ z ∧ z ≤ 3) [0, 0, 1, 2, 3] w3 hB1 rfl (by decide) (by decide) (by decide) fun y1 H4 hy1 _ w4 => ?_
    wtm_at "jw"
    intro B2 hB2
    wtm_at "jw"
    refine pickL (fun z => 0 ≤ z ∧ z ≤ 3) [0, 1, 0, 2, 3] w4 hB2 rfl (by decide) (by decide) (by decide) fun y2 H5 hy2 _ w5 => ?_
    wtm_at "jw"
    intro B3 hB3
    wtm_at "jw"
    refine pickL (fun z => 0 < z ∧ z < 100) [1, 12, 30, 60, 5] w5 hB3 rfl (by decide) (by decide) (by decide) fun rate H6 hrate _ w6 => ?_
    obtain ⟨n, hn⟩ : ∃ n : Nat, 1 + z1 = (n : Int) := ⟨(1 + z1).toNat, by omega⟩
    obtain ⟨ho, hho⟩ : ∃ ho, 3 + 3 * (y1 + y2) = ho := ⟨_, rfl⟩
    have ho3 : 3 ≤ ho ∧ ho ≤ 100 := by omega
    obtain ⟨m, hm⟩ : ∃ m, 2 + z2 = m := ⟨_, rfl⟩
    have m4 : 0 < m ∧ m ≤ 10 := by omega
    wtm_at "jw"
    rw [hn, hho, hm]
    refine ⟨p, c, n, rfl, w6.at_, by omega, by omega, fun bg bs H7 e hbg hbl hbs => ?_⟩
    have w7 := w6.trans e
    wtm_at "jw"
    refine ⟨bg, bs, rfl, SqT.of hbg, by omega, fun r e g f H8 s8 hr8 he8 hg8 hf8 nr ne ng nf neg nef ngf => ?_⟩
    have w8 := w7.same s8
    have r0 := w7.free nr
    have e0 := w7.free ne
    have g0 := w7.free ng
    have f0 := w7.free nf
    have nrp := d0.ne_none r0
    have nep := d0.ne_none e0
    have ngp := d0.ne_none g0
    have nfp := d0.ne_none f0
    have nre : e ≠ r := ne_of he8 hr8 (by intro z; cases z)
    have nrg : g ≠ r := ne_of hg8 hr8 (by intro z; cases z)
    have nrf : f ≠ r := by
      obtain ⟨rs, hf', _⟩ := hf8
      exact ne_of hf' hr8 (by intro z; cases z)
    wtm_at "jw"
    intro RO hRO
    have w9 := w8.new (o := .lst []) hRO
    have RO0 := w8.free hRO
    have nRO := d0.ne_none RO0
    have s9 := same_new (o := .lst []) hRO
    have nROe : RO ≠ e := (ne_of_none he8 hRO).symm
    have nROg : RO ≠ g := (ne_of_none hg8 hRO).symm
    have nROr : RO ≠ r := (ne_of_none hr8 hRO).symm
    have nROf : RO ≠ f := by
      obtain ⟨rs, hf', _⟩ := hf8
      exact (ne_of_none hf' hRO).symm
    have hr9 := s9 _ _ hr8
    have he9 := s9 _ _ he8
    have hg9 := s9 _ _ hg8
    have hf9 := hf8.same s9
    have hR9 : LD K (upd H8 RO (.lst [])) RO [] := .new hRO .nil
    generalize upd H8 RO (.lst []) = H9 at w9 s9 hr9 he9 hg9 hf9 hR9 ⊢
    wtm_at "jw"
    refine drawL w9 (by decide) (by decide) fun z4 H10 z40 z41 e10 w10 => ?_
    have hr10 := e10.kp _ _ hr9 nrp
    have he10 := e10.kp _ _ he9 nep
    have hg10 := e10.kp _ _ hg9 ngp
    have hf10 := hf9.drew w9.at_ e10 nfp
    have hR10 := hR9.drew w9.at_ e10 nRO
    wtm_at "jw"
    refine f_range (fun i σ H' => Drew p c H0 H' ∧ ∃ (en go : List (Option Int)) (fo : List (Int × Int)) (ds : List PyData) (v1 v2 v3 v4 v5 : Option V), H' r = some (.dK (pastK e g f)) ∧ H' e = some (.lst (en.map ovO)) ∧ H' g = some (.lst (go.map ovO)) ∧ LPr H' f fo ∧ LD K H' RO ds ∧
        Pst n (i : Int) ho en go fo ∧ (∀ d ∈ ds, RowOk n pa ho m d) ∧ ds.length = i ∧ fo.length ≤ i ∧ σ = [some (.ref a), some (.ref p), some (.int (n : Int)), some (.int m), some (.int pa), some (.int ho), some (.int rate), some (.ref r), some (.ref RO), v1, v2, v3, v4, v5])
      ⟨w10, entB bs, nonB bs, [], [], none, none, none, none, none, hr10, he10, hg10, hf10, hR10, pst_start hbl ho3.1, by simp, rfl, Nat.le_refl _, rfl⟩ (fun i σ H' hi h => ?_) (fun σ H' h => ?_)
    · obtain ⟨w11, en, go, fo, ds, v1, v2, v3, v4, v5, hr11, he11, hg11, hf11, hR11, P, hds, hdl, lfo, rfl⟩ := h
      have le := P.le
      have lg := P.lg
      have i25 : i < 25 := by omega
      wtm_at "jw"
      rw [Int.zero_add]
      refine ⟨r, e, g, f, en, go, fo, ho, (i : Int), rfl, hr11, he11, hg11, hf11, by omega, by omega, by omega, fun bv H12 pend s12 srt1 hbv => ?_⟩
      rw [le] at srt1
      rw [P.cutG] at hbv
      have w12 := w11.same s12
      have hr12 := s12 _ _ hr11
      have he12 := s12 _ _ he11
      have hg12 := s12 _ _ hg11
      have hf12 := hf11.same s12
      have hR12 := hR11.same s12
      wtm_at "jw"
      refine ⟨p, c, r, e, g, f, n, en, go, _, m, rate, rfl, w12.at_, hr12, he12, hg12, nrp, nep, ngp, le, lg, by omega, by omega, m4.1, m4.2, hrate.1, hrate.2, fun wl ws lack H13 e13 hwl hwsl hw0 hlk => ?_⟩
      have w13 := w12.trans e13
      have hr13 := e13.kp _ _ hr12 nrp
      have he13 := e13.kp _ _ he12 nep
      have hg13 := e13.kp _ _ hg12 ngp
      have hf13 := hf12.drew w12.at_ e13 nfp
      have hR13 := hR12.drew w12.at_ e13 nRO
      have hbv13 := hbv.tps (e13.tps w12.at_)
      wtm_at "jw"
      refine i_gTupD hwl rfl fun xs hxs => ?_
      rcases hxs with _ | ⟨k1, _ | ⟨k2, _ | _⟩⟩
      wtm_at "jw"
      refine ⟨r, e, g, f, _, _, n, en, go, fo, ws, lack, (i : Int), pa, ho, m, rfl, hr13, he13, hg13, hf13, neg, nef, ngf, k1, k2, le, lg, by omega, hwsl, hw0, hlk, m4.1, by omega, by omega, fun H14 keep tp he14 hg14 hf14 => ?_⟩
      have w14 := w13.step3 d0 e0 g0 f0 keep
      have hr14 := keep _ _ hr13 nre.symm nrg.symm nrf.symm
      have hR14 : LD K H14 RO ds := by
        obtain ⟨us, hus, tus⟩ := hR13
        exact ⟨us, keep _ _ hus nROe nROg nROf, tus.tps tp⟩
      have hbv14 := hbv13.tps tp
      have k1' := k1.tps tp
      have k2' := k2.tps tp
      have P2 := P.nx hlk (ws := ws) (pa := pa) hw0 m4.1
      have lf2 : (nxF ws m pa ho (i : Int) en (goneL go lack (i : Int)) fo n).length ≤ i + 1 := Nat.le_trans nxF_len (by omega)
      wtm_at "jw"
      refine ⟨r, e, g, f, _, _, _, ho, (i : Int) + 1, rfl, hr14, he14, hg14, hf14, by rw [P2.le]; omega, by rw [P2.lg]; omega, by omega, fun av H15 pend' s15 srt2 hav => ?_⟩
      rw [P2.le] at srt2
      rw [P2.cutG] at hav
      have w15 := w14.same s15
      have hr15 := s15 _ _ hr14
      have he15 := s15 _ _ he14
      have hg15 := s15 _ _ hg14
      have hf15 := hf14.same s15
      have hR15 := hR14.same s15
      have hbv15 := hbv14.same s15
      have k1'' := k1'.same s15
      have k2'' := k2'.same s15
      wtm_at "jw"
      rename_i wv lv
      intro u hu
      have su := same_new (o := .tup [bv, wv, lv, av]) hu
      have hrow := TD.new (K := K) (xs := [bv, wv, lv, av]) hu (.cons hbv15 (.cons k1'' (.cons k2'' (.cons hav .nil))))
      have ok : RowOk n pa ho m (.tuple [factsD (i : Int) (forceL fo (i : Int)) (en.map (cutE (i : Int))) go pend, .tuple (ws.map PyData.int), .tuple (lack.map iD), factsD ((i : Int) + 1) (forceL (nxF ws m pa ho (i : Int) en (goneL go lack (i : Int)) fo n) ((i : Int) + 1)) ((nxE ws m pa ho (i : Int) en (goneL go lack (i : Int)) n).map (cutE ((i : Int) + 1))) (goneL go lack (i : Int)) pend']) :=
        ⟨(i : Int), en, go, fo, pend, pend', ws, lack, rfl, P, srt1, by have := pend_len srt1; omega, hwsl, hw0, hlk, srt2, by have := pend_len srt2; omega, by omega, ho3.2⟩
      have w16 := w15.same su
      have hr16 := su _ _ hr15
      have he16 := su _ _ he15
      have hg16 := su _ _ hg15
      have hf16 := hf15.same su
      have hR16 := hR15.same su
      generalize upd H15 u (.tup [bv, wv, lv, av]) = H16 at su hrow w16 hr16 he16 hg16 hf16 hR16 ⊢
      generalize PyData.tuple [factsD (i : Int) (forceL fo (i : Int)) (en.map (cutE (i : Int))) go pend, .tuple (ws.map PyData.int), .tuple (lack.map iD), factsD ((i : Int) + 1) (forceL (nxF ws m pa ho (i : Int) en (goneL go lack (i : Int)) fo n) ((i : Int) + 1)) ((nxE ws m pa ho (i : Int) en (goneL go lack (i : Int)) n).map (cutE ((i : Int) + 1))) (goneL go lack (i : Int)) pend'] = rd at hrow ok
      wtm_at "jw"
      refine ⟨_, n, pa, ho, m, rd, rfl, hrow, ok, by omega, m4.1, by omega, fun H17 s17 => ?_⟩
      have w17 := w16.same s17
      obtain ⟨us, hus, tus⟩ := hR16.same s17
      have hsz : us.length < sizeLine := small1000 (by have := tus.len; omega)
      wtm_at "jw"
      refine ⟨w17.put d0 RO0, _, _, _, ds ++ [rd], _, _, _, _, _, ?_, ?_, ?_, ?_, LD.snoc hus tus (hrow.same s17), P2, fun d hd => ?_, by simp [hdl], lf2, rfl⟩
      · rw [upd_ne nROr.symm]; exact s17 _ _ hr16
      · rw [upd_ne nROe.symm]; exact s17 _ _ he16
      · rw [upd_ne nROg.symm]; exact s17 _ _ hg16
      · exact (hf16.same s17).kp Kp.upd hus nROf.symm
      · rcases List.mem_append.mp hd with hd | hd
        · exact hds d hd
        · rw [List.mem_singleton.mp hd]; exact ok
    · obtain ⟨w11, en, go, fo, ds, v1, v2, v3, v4, v5, hr11, he11, hg11, hf11, ⟨us, hus, tus⟩, P, hds, hdl, lfo, rfl⟩ := h
      have l3 := tus.len
      wtm_at "jw"
      refine pickS w11 hus nRO (by omega) (by omega) fun x H17 hx e17 w17 => ?_
      obtain ⟨d, hd, hxd⟩ := tus.mem hx
      wtm_at "jw"
      refine ⟨x, n, pa, ho, m, d, rfl, hxd.tps (e17.tps w11.at_), hds d hd, by omega, m4.1, by omega, fun H18 s18 => ?_⟩
      exact k _
theorem law_hands {K : PySem.W.Frag} {H : Hp} (a : Addr) (ns : List Int) (hl : ns.length ≤ 63) (hb : ∀ z ∈ ns, Builtin.Int.intBits z ≤ 1048576) (h : SqL K H a (ns.map V.int)) :
    sp_law K [.ref a] H (fun v _ => v = .bl true) fun _ _ _ => False := ⟨a, ns, rfl, h, hl, fun _ => rfl⟩
theorem all_mk {l : PySem.W.OpenLaw} {w : World} {K : PySem.W.Frag} {h : Heap} {mg : Str → Option Value} {fa : Addr} (X : K.In h) (G : h.Ns mainGlobals mg) (hfa : mg "law" = some (.ref fa))
    {f__law_begin : Addr} {od__law_begin an__law_begin : Option Addr} {sl__law_begin : Array (Option Value)} {oc__law_begin kV__law_begin dc__law_begin pm__law_begin cd__law_begin ct__law_begin : Value}
    {f__law_draw : Addr} {od__law_draw an__law_draw : Option Addr} {sl__law_draw : Array (Option Value)} {oc__law_draw kV__law_draw dc__law_draw pm__law_draw cd__law_draw ct__law_draw : Value}
    {f__law_pick : Addr} {od__law_pick an__law_pick : Option Addr} {sl__law_pick : Array (Option Value)} {oc__law_pick kV__law_pick dc__law_pick pm__law_pick cd__law_pick ct__law_pick : Value}
    {f__law_new_past : Addr} {od__law_new_past an__law_new_past : Option Addr} {sl__law_new_past : Array (Option Value)} {oc__law_new_past kV__law_new_past dc__law_new_past pm__law_new_past cd__law_new_past ct__law_new_past : Value}
    {f_with_gone : Addr} {od_with_gone an_with_gone : Option Addr} {sl_with_gone : Array (Option Value)} {oc_with_gone kV_with_gone dc_with_gone pm_with_gone cd_with_gone ct_with_gone : Value}
    {f_entry_of : Addr} {od_entry_of an_entry_of : Option Addr} {sl_entry_of : Array (Option Value)} {oc_entry_of kV_entry_of dc_entry_of pm_entry_of cd_entry_of ct_entry_of : Value}
    {f_entry_tick : Addr} {od_entry_tick an_entry_tick : Option Addr} {sl_entry_tick : Array (Option Value)} {oc_entry_tick kV_entry_tick dc_entry_tick pm_entry_tick cd_entry_tick ct_entry_tick : Value}
    {f_is_present : Addr} {od_is_present an_is_present : Option Addr} {sl_is_present : Array (Option Value)} {oc_is_present kV_is_present dc_is_present pm_is_present cd_is_present ct_is_present : Value}
    {f_speaker_at : Addr} {od_speaker_at an_speaker_at : Option Addr} {sl_speaker_at : Array (Option Value)} {oc_speaker_at kV_speaker_at dc_speaker_at pm_speaker_at cd_speaker_at ct_speaker_at : Value}
    {f_taken_hold : Addr} {od_taken_hold an_taken_hold : Option Addr} {sl_taken_hold : Array (Option Value)} {oc_taken_hold kV_taken_hold dc_taken_hold pm_taken_hold cd_taken_hold ct_taken_hold : Value}
    {f_order_of : Addr} {od_order_of an_order_of : Option Addr} {sl_order_of : Array (Option Value)} {oc_order_of kV_order_of dc_order_of pm_order_of cd_order_of ct_order_of : Value}
    {f_does_count : Addr} {od_does_count an_does_count : Option Addr} {sl_does_count : Array (Option Value)} {oc_does_count kV_does_count dc_does_count pm_does_count cd_does_count ct_does_count : Value}
    {f_settled_facts : Addr} {od_settled_facts an_settled_facts : Option Addr} {sl_settled_facts : Array (Option Value)} {oc_settled_facts kV_settled_facts dc_settled_facts pm_settled_facts cd_settled_facts ct_settled_facts : Value}
    {f__law_is_told : Addr} {od__law_is_told an__law_is_told : Option Addr} {sl__law_is_told : Array (Option Value)} {oc__law_is_told kV__law_is_told dc__law_is_told pm__law_is_told cd__law_is_told ct__law_is_told : Value}
    {f__law_begun : Addr} {od__law_begun an__law_begun : Option Addr} {sl__law_begun : Array (Option Value)} {oc__law_begun kV__law_begun dc__law_begun pm__law_begun cd__law_begun ct__law_begun : Value}
    {f__law_force : Addr} {od__law_force an__law_force : Option Addr} {sl__law_force : Array (Option Value)} {oc__law_force kV__law_force dc__law_force pm__law_force cd__law_force ct__law_force : Value}
    {f__law_behind : Addr} {od__law_behind an__law_behind : Option Addr} {sl__law_behind : Array (Option Value)} {oc__law_behind kV__law_behind dc__law_behind pm__law_behind cd__law_behind ct__law_behind : Value}
    {f__law_present : Addr} {od__law_present an__law_present : Option Addr} {sl__law_present : Array (Option Value)} {oc__law_present kV__law_present dc__law_present pm__law_present cd__law_present ct__law_present : Value}
    {f__law_any_word : Addr} {od__law_any_word an__law_any_word : Option Addr} {sl__law_any_word : Array (Option Value)} {oc__law_any_word kV__law_any_word dc__law_any_word pm__law_any_word cd__law_any_word ct__law_any_word : Value}
    {f__law_next_words : Addr} {od__law_next_words an__law_next_words : Option Addr} {sl__law_next_words : Array (Option Value)} {oc__law_next_words kV__law_next_words dc__law_next_words pm__law_next_words cd__law_next_words ct__law_next_words : Value}
    {f__law_order_counts : Addr} {od__law_order_counts an__law_order_counts : Option Addr} {sl__law_order_counts : Array (Option Value)} {oc__law_order_counts kV__law_order_counts dc__law_order_counts pm__law_order_counts cd__law_order_counts ct__law_order_counts : Value}
    {f__law_take_order : Addr} {od__law_take_order an__law_take_order : Option Addr} {sl__law_take_order : Array (Option Value)} {oc__law_take_order kV__law_take_order dc__law_take_order pm__law_take_order cd__law_take_order ct__law_take_order : Value}
    {f__law_go_on : Addr} {od__law_go_on an__law_go_on : Option Addr} {sl__law_go_on : Array (Option Value)} {oc__law_go_on kV__law_go_on dc__law_go_on pm__law_go_on cd__law_go_on ct__law_go_on : Value}
    {f_law : Addr} {od_law an_law : Option Addr} {sl_law : Array (Option Value)} {oc_law kV_law dc_law pm_law cd_law ct_law : Value}
    (a__law_begin : PySem.W.nsIn K mainGlobals "_law_begin" = some (some (.ref f__law_begin))) (l__law_begin : K.lookup f__law_begin = some ⟨oc__law_begin, od__law_begin, .func (PySem.W.fnOf "_law_begin" "_law_begin" (defArgs s__law_begin) (defBody s__law_begin) (defScope s__law_begin) .none kV__law_begin dc__law_begin pm__law_begin an__law_begin cd__law_begin ct__law_begin), sl__law_begin⟩) (c__law_begin : PySem.W.codeIn K cd__law_begin "_law_begin" = true) (k__law_begin : PySem.W.keepIn K (.ref f__law_begin) = true)
    (a__law_draw : PySem.W.nsIn K mainGlobals "_law_draw" = some (some (.ref f__law_draw))) (l__law_draw : K.lookup f__law_draw = some ⟨oc__law_draw, od__law_draw, .func (PySem.W.fnOf "_law_draw" "_law_draw" (defArgs s__law_draw) (defBody s__law_draw) (defScope s__law_draw) .none kV__law_draw dc__law_draw pm__law_draw an__law_draw cd__law_draw ct__law_draw), sl__law_draw⟩) (c__law_draw : PySem.W.codeIn K cd__law_draw "_law_draw" = true) (k__law_draw : PySem.W.keepIn K (.ref f__law_draw) = true)
    (a__law_pick : PySem.W.nsIn K mainGlobals "_law_pick" = some (some (.ref f__law_pick))) (l__law_pick : K.lookup f__law_pick = some ⟨oc__law_pick, od__law_pick, .func (PySem.W.fnOf "_law_pick" "_law_pick" (defArgs s__law_pick) (defBody s__law_pick) (defScope s__law_pick) .none kV__law_pick dc__law_pick pm__law_pick an__law_pick cd__law_pick ct__law_pick), sl__law_pick⟩) (c__law_pick : PySem.W.codeIn K cd__law_pick "_law_pick" = true) (k__law_pick : PySem.W.keepIn K (.ref f__law_pick) = true)
    (a__law_new_past : PySem.W.nsIn K mainGlobals "_law_new_past" = some (some (.ref f__law_new_past))) (l__law_new_past : K.lookup f__law_new_past = some ⟨oc__law_new_past, od__law_new_past, .func (PySem.W.fnOf "_law_new_past" "_law_new_past" (defArgs s__law_new_past) (defBody s__law_new_past) (defScope s__law_new_past) .none kV__law_new_past dc__law_new_past pm__law_new_past an__law_new_past cd__law_new_past ct__law_new_past), sl__law_new_past⟩) (c__law_new_past : PySem.W.codeIn K cd__law_new_past "_law_new_past" = true) (k__law_new_past : PySem.W.keepIn K (.ref f__law_new_past) = true)
    (a_with_gone : PySem.W.nsIn K mainGlobals "with_gone" = some (some (.ref f_with_gone))) (l_with_gone : K.lookup f_with_gone = some ⟨oc_with_gone, od_with_gone, .func (PySem.W.fnOf "with_gone" "with_gone" (defArgs s_with_gone) (defBody s_with_gone) (defScope s_with_gone) .none kV_with_gone dc_with_gone pm_with_gone an_with_gone cd_with_gone ct_with_gone), sl_with_gone⟩) (c_with_gone : PySem.W.codeIn K cd_with_gone "with_gone" = true) (k_with_gone : PySem.W.keepIn K (.ref f_with_gone) = true)
    (a_entry_of : PySem.W.nsIn K mainGlobals "entry_of" = some (some (.ref f_entry_of))) (l_entry_of : K.lookup f_entry_of = some ⟨oc_entry_of, od_entry_of, .func (PySem.W.fnOf "entry_of" "entry_of" (defArgs s_entry_of) (defBody s_entry_of) (defScope s_entry_of) .none kV_entry_of dc_entry_of pm_entry_of an_entry_of cd_entry_of ct_entry_of), sl_entry_of⟩) (c_entry_of : PySem.W.codeIn K cd_entry_of "entry_of" = true) (k_entry_of : PySem.W.keepIn K (.ref f_entry_of) = true)
    (a_entry_tick : PySem.W.nsIn K mainGlobals "entry_tick" = some (some (.ref f_entry_tick))) (l_entry_tick : K.lookup f_entry_tick = some ⟨oc_entry_tick, od_entry_tick, .func (PySem.W.fnOf "entry_tick" "entry_tick" (defArgs s_entry_tick) (defBody s_entry_tick) (defScope s_entry_tick) .none kV_entry_tick dc_entry_tick pm_entry_tick an_entry_tick cd_entry_tick ct_entry_tick), sl_entry_tick⟩) (c_entry_tick : PySem.W.codeIn K cd_entry_tick "entry_tick" = true) (k_entry_tick : PySem.W.keepIn K (.ref f_entry_tick) = true)
    (a_is_present : PySem.W.nsIn K mainGlobals "is_present" = some (some (.ref f_is_present))) (l_is_present : K.lookup f_is_present = some ⟨oc_is_present, od_is_present, .func (PySem.W.fnOf "is_present" "is_present" (defArgs s_is_present) (defBody s_is_present) (defScope s_is_present) .none kV_is_present dc_is_present pm_is_present an_is_present cd_is_present ct_is_present), sl_is_present⟩) (c_is_present : PySem.W.codeIn K cd_is_present "is_present" = true) (k_is_present : PySem.W.keepIn K (.ref f_is_present) = true)
    (a_speaker_at : PySem.W.nsIn K mainGlobals "speaker_at" = some (some (.ref f_speaker_at))) (l_speaker_at : K.lookup f_speaker_at = some ⟨oc_speaker_at, od_speaker_at, .func (PySem.W.fnOf "speaker_at" "speaker_at" (defArgs s_speaker_at) (defBody s_speaker_at) (defScope s_speaker_at) .none kV_speaker_at dc_speaker_at pm_speaker_at an_speaker_at cd_speaker_at ct_speaker_at), sl_speaker_at⟩) (c_speaker_at : PySem.W.codeIn K cd_speaker_at "speaker_at" = true) (k_speaker_at : PySem.W.keepIn K (.ref f_speaker_at) = true)
    (a_taken_hold : PySem.W.nsIn K mainGlobals "taken_hold" = some (some (.ref f_taken_hold))) (l_taken_hold : K.lookup f_taken_hold = some ⟨oc_taken_hold, od_taken_hold, .func (PySem.W.fnOf "taken_hold" "taken_hold" (defArgs s_taken_hold) (defBody s_taken_hold) (defScope s_taken_hold) .none kV_taken_hold dc_taken_hold pm_taken_hold an_taken_hold cd_taken_hold ct_taken_hold), sl_taken_hold⟩) (c_taken_hold : PySem.W.codeIn K cd_taken_hold "taken_hold" = true) (k_taken_hold : PySem.W.keepIn K (.ref f_taken_hold) = true)
    (a_order_of : PySem.W.nsIn K mainGlobals "order_of" = some (some (.ref f_order_of))) (l_order_of : K.lookup f_order_of = some ⟨oc_order_of, od_order_of, .func (PySem.W.fnOf "order_of" "order_of" (defArgs s_order_of) (defBody s_order_of) (defScope s_order_of) .none kV_order_of dc_order_of pm_order_of an_order_of cd_order_of ct_order_of), sl_order_of⟩) (c_order_of : PySem.W.codeIn K cd_order_of "order_of" = true) (k_order_of : PySem.W.keepIn K (.ref f_order_of) = true)
    (a_does_count : PySem.W.nsIn K mainGlobals "does_count" = some (some (.ref f_does_count))) (l_does_count : K.lookup f_does_count = some ⟨oc_does_count, od_does_count, .func (PySem.W.fnOf "does_count" "does_count" (defArgs s_does_count) (defBody s_does_count) (defScope s_does_count) .none kV_does_count dc_does_count pm_does_count an_does_count cd_does_count ct_does_count), sl_does_count⟩) (c_does_count : PySem.W.codeIn K cd_does_count "does_count" = true) (k_does_count : PySem.W.keepIn K (.ref f_does_count) = true)
    (a_settled_facts : PySem.W.nsIn K mainGlobals "settled_facts" = some (some (.ref f_settled_facts))) (l_settled_facts : K.lookup f_settled_facts = some ⟨oc_settled_facts, od_settled_facts, .func (PySem.W.fnOf "settled_facts" "settled_facts" (defArgs s_settled_facts) (defBody s_settled_facts) (defScope s_settled_facts) .none kV_settled_facts dc_settled_facts pm_settled_facts an_settled_facts cd_settled_facts ct_settled_facts), sl_settled_facts⟩) (c_settled_facts : PySem.W.codeIn K cd_settled_facts "settled_facts" = true) (k_settled_facts : PySem.W.keepIn K (.ref f_settled_facts) = true)
    (a__law_is_told : PySem.W.nsIn K mainGlobals "_law_is_told" = some (some (.ref f__law_is_told))) (l__law_is_told : K.lookup f__law_is_told = some ⟨oc__law_is_told, od__law_is_told, .func (PySem.W.fnOf "_law_is_told" "_law_is_told" (defArgs s__law_is_told) (defBody s__law_is_told) (defScope s__law_is_told) .none kV__law_is_told dc__law_is_told pm__law_is_told an__law_is_told cd__law_is_told ct__law_is_told), sl__law_is_told⟩) (c__law_is_told : PySem.W.codeIn K cd__law_is_told "_law_is_told" = true) (k__law_is_told : PySem.W.keepIn K (.ref f__law_is_told) = true)
    (a__law_begun : PySem.W.nsIn K mainGlobals "_law_begun" = some (some (.ref f__law_begun))) (l__law_begun : K.lookup f__law_begun = some ⟨oc__law_begun, od__law_begun, .func (PySem.W.fnOf "_law_begun" "_law_begun" (defArgs s__law_begun) (defBody s__law_begun) (defScope s__law_begun) .none kV__law_begun dc__law_begun pm__law_begun an__law_begun cd__law_begun ct__law_begun), sl__law_begun⟩) (c__law_begun : PySem.W.codeIn K cd__law_begun "_law_begun" = true) (k__law_begun : PySem.W.keepIn K (.ref f__law_begun) = true)
    (a__law_force : PySem.W.nsIn K mainGlobals "_law_force" = some (some (.ref f__law_force))) (l__law_force : K.lookup f__law_force = some ⟨oc__law_force, od__law_force, .func (PySem.W.fnOf "_law_force" "_law_force" (defArgs s__law_force) (defBody s__law_force) (defScope s__law_force) .none kV__law_force dc__law_force pm__law_force an__law_force cd__law_force ct__law_force), sl__law_force⟩) (c__law_force : PySem.W.codeIn K cd__law_force "_law_force" = true) (k__law_force : PySem.W.keepIn K (.ref f__law_force) = true)
    (a__law_behind : PySem.W.nsIn K mainGlobals "_law_behind" = some (some (.ref f__law_behind))) (l__law_behind : K.lookup f__law_behind = some ⟨oc__law_behind, od__law_behind, .func (PySem.W.fnOf "_law_behind" "_law_behind" (defArgs s__law_behind) (defBody s__law_behind) (defScope s__law_behind) .none kV__law_behind dc__law_behind pm__law_behind an__law_behind cd__law_behind ct__law_behind), sl__law_behind⟩) (c__law_behind : PySem.W.codeIn K cd__law_behind "_law_behind" = true) (k__law_behind : PySem.W.keepIn K (.ref f__law_behind) = true)
    (a__law_present : PySem.W.nsIn K mainGlobals "_law_present" = some (some (.ref f__law_present))) (l__law_present : K.lookup f__law_present = some ⟨oc__law_present, od__law_present, .func (PySem.W.fnOf "_law_present" "_law_present" (defArgs s__law_present) (defBody s__law_present) (defScope s__law_present) .none kV__law_present dc__law_present pm__law_present an__law_present cd__law_present ct__law_present), sl__law_present⟩) (c__law_present : PySem.W.codeIn K cd__law_present "_law_present" = true) (k__law_present : PySem.W.keepIn K (.ref f__law_present) = true)
    (a__law_any_word : PySem.W.nsIn K mainGlobals "_law_any_word" = some (some (.ref f__law_any_word))) (l__law_any_word : K.lookup f__law_any_word = some ⟨oc__law_any_word, od__law_any_word, .func (PySem.W.fnOf "_law_any_word" "_law_any_word" (defArgs s__law_any_word) (defBody s__law_any_word) (defScope s__law_any_word) .none kV__law_any_word dc__law_any_word pm__law_any_word an__law_any_word cd__law_any_word ct__law_any_word), sl__law_any_word⟩) (c__law_any_word : PySem.W.codeIn K cd__law_any_word "_law_any_word" = true) (k__law_any_word : PySem.W.keepIn K (.ref f__law_any_word) = true)
    (a__law_next_words : PySem.W.nsIn K mainGlobals "_law_next_words" = some (some (.ref f__law_next_words))) (l__law_next_words : K.lookup f__law_next_words = some ⟨oc__law_next_words, od__law_next_words, .func (PySem.W.fnOf "_law_next_words" "_law_next_words" (defArgs s__law_next_words) (defBody s__law_next_words) (defScope s__law_next_words) .none kV__law_next_words dc__law_next_words pm__law_next_words an__law_next_words cd__law_next_words ct__law_next_words), sl__law_next_words⟩) (c__law_next_words : PySem.W.codeIn K cd__law_next_words "_law_next_words" = true) (k__law_next_words : PySem.W.keepIn K (.ref f__law_next_words) = true)
    (a__law_order_counts : PySem.W.nsIn K mainGlobals "_law_order_counts" = some (some (.ref f__law_order_counts))) (l__law_order_counts : K.lookup f__law_order_counts = some ⟨oc__law_order_counts, od__law_order_counts, .func (PySem.W.fnOf "_law_order_counts" "_law_order_counts" (defArgs s__law_order_counts) (defBody s__law_order_counts) (defScope s__law_order_counts) .none kV__law_order_counts dc__law_order_counts pm__law_order_counts an__law_order_counts cd__law_order_counts ct__law_order_counts), sl__law_order_counts⟩) (c__law_order_counts : PySem.W.codeIn K cd__law_order_counts "_law_order_counts" = true) (k__law_order_counts : PySem.W.keepIn K (.ref f__law_order_counts) = true)
    (a__law_take_order : PySem.W.nsIn K mainGlobals "_law_take_order" = some (some (.ref f__law_take_order))) (l__law_take_order : K.lookup f__law_take_order = some ⟨oc__law_take_order, od__law_take_order, .func (PySem.W.fnOf "_law_take_order" "_law_take_order" (defArgs s__law_take_order) (defBody s__law_take_order) (defScope s__law_take_order) .none kV__law_take_order dc__law_take_order pm__law_take_order an__law_take_order cd__law_take_order ct__law_take_order), sl__law_take_order⟩) (c__law_take_order : PySem.W.codeIn K cd__law_take_order "_law_take_order" = true) (k__law_take_order : PySem.W.keepIn K (.ref f__law_take_order) = true)
    (a__law_go_on : PySem.W.nsIn K mainGlobals "_law_go_on" = some (some (.ref f__law_go_on))) (l__law_go_on : K.lookup f__law_go_on = some ⟨oc__law_go_on, od__law_go_on, .func (PySem.W.fnOf "_law_go_on" "_law_go_on" (defArgs s__law_go_on) (defBody s__law_go_on) (defScope s__law_go_on) .none kV__law_go_on dc__law_go_on pm__law_go_on an__law_go_on cd__law_go_on ct__law_go_on), sl__law_go_on⟩) (c__law_go_on : PySem.W.codeIn K cd__law_go_on "_law_go_on" = true) (k__law_go_on : PySem.W.keepIn K (.ref f__law_go_on) = true)
    (a_law : PySem.W.nsIn K mainGlobals "law" = some (some (.ref f_law))) (l_law : K.lookup f_law = some ⟨oc_law, od_law, .func (PySem.W.fnOf "law" "law" (defArgs s_law) (defBody s_law) (defScope s_law) .none kV_law dc_law pm_law an_law cd_law ct_law), sl_law⟩) (c_law : PySem.W.codeIn K cd_law "law" = true) (k_law : PySem.W.keepIn K (.ref f_law) = true)
    (z_int : PySem.W.nsIn K mainGlobals "int" = some none)
    (z_len : PySem.W.nsIn K mainGlobals "len" = some none)
    (z_abs : PySem.W.nsIn K mainGlobals "abs" = some none)
    (z_tuple : PySem.W.nsIn K mainGlobals "tuple" = some none)
    (z_range : PySem.W.nsIn K mainGlobals "range" = some none)
    (z_list : PySem.W.nsIn K mainGlobals "list" = some none)
    (z_repr : PySem.W.nsIn K mainGlobals "repr" = some none)
    (z_sorted : PySem.W.nsIn K mainGlobals "sorted" = some none)
    {u_FIRST_ENTRY : Value} (n_FIRST_ENTRY : PySem.W.nsIn K mainGlobals "FIRST_ENTRY" = some (some u_FIRST_ENTRY)) (r_FIRST_ENTRY : RelV (.int 4) u_FIRST_ENTRY)
    : ∃ fd : FuncData, (∀ (s : Shared) (v : Value), BindsTo s fd ⟨[v], []⟩ [("script", v)]) ∧ ∀ base : Heap, K.In base → base.Ns mainGlobals mg → Gok l.prog w K mg base 7 fa fd ["script"] (sp_law K) := by
  have e := hfa.symm.trans (PySem.W.mg_of X G a_law)
  cases e
  have T : Txt mg := ⟨PySem.W.mg_none_of X G z_int, PySem.W.mg_none_of X G z_len, PySem.W.mg_none_of X G z_abs, PySem.W.mg_none_of X G z_tuple, PySem.W.mg_none_of X G z_range, PySem.W.mg_none_of X G z_list, PySem.W.mg_none_of X G z_repr, PySem.W.mg_none_of X G z_sorted, ⟨_, PySem.W.mg_of X G n_FIRST_ENTRY, r_FIRST_ENTRY⟩⟩
  have F__law_begin := fun_mk (st := s__law_begin) l__law_begin c__law_begin k__law_begin
  have D__law_begin : Df K mg "_law_begin" s__law_begin f__law_begin _ ["script"] := ⟨F__law_begin, PySem.W.mg_of X G a__law_begin, F__law_begin.binds (ps := ["script"]) fun _ _ _ _ _ _ us hl => match us, hl with | [_], _ => rfl⟩
  have F__law_draw := fun_mk (st := s__law_draw) l__law_draw c__law_draw k__law_draw
  have D__law_draw : Df K mg "_law_draw" s__law_draw f__law_draw _ ["d", "many"] := ⟨F__law_draw, PySem.W.mg_of X G a__law_draw, F__law_draw.binds (ps := ["d", "many"]) fun _ _ _ _ _ _ us hl => match us, hl with | [_, _], _ => rfl⟩
  have F__law_pick := fun_mk (st := s__law_pick) l__law_pick c__law_pick k__law_pick
  have D__law_pick : Df K mg "_law_pick" s__law_pick f__law_pick _ ["d", "row"] := ⟨F__law_pick, PySem.W.mg_of X G a__law_pick, F__law_pick.binds (ps := ["d", "row"]) fun _ _ _ _ _ _ us hl => match us, hl with | [_, _], _ => rfl⟩
  have F__law_new_past := fun_mk (st := s__law_new_past) l__law_new_past c__law_new_past k__law_new_past
  have D__law_new_past : Df K mg "_law_new_past" s__law_new_past f__law_new_past _ ["begin"] := ⟨F__law_new_past, PySem.W.mg_of X G a__law_new_past, F__law_new_past.binds (ps := ["begin"]) fun _ _ _ _ _ _ us hl => match us, hl with | [_], _ => rfl⟩
  have F_with_gone := fun_mk (st := s_with_gone) l_with_gone c_with_gone k_with_gone
  have D_with_gone : Df K mg "with_gone" s_with_gone f_with_gone _ ["facts", "gone"] := ⟨F_with_gone, PySem.W.mg_of X G a_with_gone, F_with_gone.binds (ps := ["facts", "gone"]) fun _ _ _ _ _ _ us hl => match us, hl with | [_, _], _ => rfl⟩
  have F_entry_of := fun_mk (st := s_entry_of) l_entry_of c_entry_of k_entry_of
  have D_entry_of : Df K mg "entry_of" s_entry_of f_entry_of _ ["order"] := ⟨F_entry_of, PySem.W.mg_of X G a_entry_of, F_entry_of.binds (ps := ["order"]) fun _ _ _ _ _ _ us hl => match us, hl with | [_], _ => rfl⟩
  have F_entry_tick := fun_mk (st := s_entry_tick) l_entry_tick c_entry_tick k_entry_tick
  have D_entry_tick : Df K mg "entry_tick" s_entry_tick f_entry_tick _ ["facts", "seat"] := ⟨F_entry_tick, PySem.W.mg_of X G a_entry_tick, F_entry_tick.binds (ps := ["facts", "seat"]) fun _ _ _ _ _ _ us hl => match us, hl with | [_, _], _ => rfl⟩
  have F_is_present := fun_mk (st := s_is_present) l_is_present c_is_present k_is_present
  have D_is_present : Df K mg "is_present" s_is_present f_is_present _ ["facts", "seat", "tick"] := ⟨F_is_present, PySem.W.mg_of X G a_is_present, F_is_present.binds (ps := ["facts", "seat", "tick"]) fun _ _ _ _ _ _ us hl => match us, hl with | [_, _, _], _ => rfl⟩
  have F_speaker_at := fun_mk (st := s_speaker_at) l_speaker_at c_speaker_at k_speaker_at
  have D_speaker_at : Df K mg "speaker_at" s_speaker_at f_speaker_at _ ["facts", "tick"] := ⟨F_speaker_at, PySem.W.mg_of X G a_speaker_at, F_speaker_at.binds (ps := ["facts", "tick"]) fun _ _ _ _ _ _ us hl => match us, hl with | [_, _], _ => rfl⟩
  have F_taken_hold := fun_mk (st := s_taken_hold) l_taken_hold c_taken_hold k_taken_hold
  have D_taken_hold : Df K mg "taken_hold" s_taken_hold f_taken_hold _ ["facts", "tick"] := ⟨F_taken_hold, PySem.W.mg_of X G a_taken_hold, F_taken_hold.binds (ps := ["facts", "tick"]) fun _ _ _ _ _ _ us hl => match us, hl with | [_, _], _ => rfl⟩
  have F_order_of := fun_mk (st := s_order_of) l_order_of c_order_of k_order_of
  have D_order_of : Df K mg "order_of" s_order_of f_order_of _ ["word", "many"] := ⟨F_order_of, PySem.W.mg_of X G a_order_of, F_order_of.binds (ps := ["word", "many"]) fun _ _ _ _ _ _ us hl => match us, hl with | [_, _], _ => rfl⟩
  have F_does_count := fun_mk (st := s_does_count) l_does_count c_does_count k_does_count
  have D_does_count : Df K mg "does_count" s_does_count f_does_count _ ["facts", "order", "patches"] := ⟨F_does_count, PySem.W.mg_of X G a_does_count, F_does_count.binds (ps := ["facts", "order", "patches"]) fun _ _ _ _ _ _ us hl => match us, hl with | [_, _, _], _ => rfl⟩
  have F_settled_facts := fun_mk (st := s_settled_facts) l_settled_facts c_settled_facts k_settled_facts
  have D_settled_facts : Df K mg "settled_facts" s_settled_facts f_settled_facts _ ["facts", "words", "gone", "patches", "hold", "many"] := ⟨F_settled_facts, PySem.W.mg_of X G a_settled_facts, F_settled_facts.binds (ps := ["facts", "words", "gone", "patches", "hold", "many"]) fun _ _ _ _ _ _ us hl => match us, hl with | [_, _, _, _, _, _], _ => rfl⟩
  have F__law_is_told := fun_mk (st := s__law_is_told) l__law_is_told c__law_is_told k__law_is_told
  have D__law_is_told : Df K mg "_law_is_told" s__law_is_told f__law_is_told _ ["row", "patches", "holding", "many"] := ⟨F__law_is_told, PySem.W.mg_of X G a__law_is_told, F__law_is_told.binds (ps := ["row", "patches", "holding", "many"]) fun _ _ _ _ _ _ us hl => match us, hl with | [_, _, _, _], _ => rfl⟩
  have F__law_begun := fun_mk (st := s__law_begun) l__law_begun c__law_begun k__law_begun
  have D__law_begun : Df K mg "_law_begun" s__law_begun f__law_begun _ ["d", "seats"] := ⟨F__law_begun, PySem.W.mg_of X G a__law_begun, F__law_begun.binds (ps := ["d", "seats"]) fun _ _ _ _ _ _ us hl => match us, hl with | [_, _], _ => rfl⟩
  have F__law_force := fun_mk (st := s__law_force) l__law_force c__law_force k__law_force
  have D__law_force : Df K mg "_law_force" s__law_force f__law_force _ ["forces", "tick"] := ⟨F__law_force, PySem.W.mg_of X G a__law_force, F__law_force.binds (ps := ["forces", "tick"]) fun _ _ _ _ _ _ us hl => match us, hl with | [_, _], _ => rfl⟩
  have F__law_behind := fun_mk (st := s__law_behind) l__law_behind c__law_behind k__law_behind
  have D__law_behind : Df K mg "_law_behind" s__law_behind f__law_behind _ ["past", "holding", "tick"] := ⟨F__law_behind, PySem.W.mg_of X G a__law_behind, F__law_behind.binds (ps := ["past", "holding", "tick"]) fun _ _ _ _ _ _ us hl => match us, hl with | [_, _, _], _ => rfl⟩
  have F__law_present := fun_mk (st := s__law_present) l__law_present c__law_present k__law_present
  have D__law_present : Df K mg "_law_present" s__law_present f__law_present _ ["entered", "gone", "tick"] := ⟨F__law_present, PySem.W.mg_of X G a__law_present, F__law_present.binds (ps := ["entered", "gone", "tick"]) fun _ _ _ _ _ _ us hl => match us, hl with | [_, _, _], _ => rfl⟩
  have F__law_any_word := fun_mk (st := s__law_any_word) l__law_any_word c__law_any_word k__law_any_word
  have D__law_any_word : Df K mg "_law_any_word" s__law_any_word f__law_any_word _ ["d", "seats", "many"] := ⟨F__law_any_word, PySem.W.mg_of X G a__law_any_word, F__law_any_word.binds (ps := ["d", "seats", "many"]) fun _ _ _ _ _ _ us hl => match us, hl with | [_, _, _], _ => rfl⟩
  have F__law_next_words := fun_mk (st := s__law_next_words) l__law_next_words c__law_next_words k__law_next_words
  have D__law_next_words : Df K mg "_law_next_words" s__law_next_words f__law_next_words _ ["d", "past", "tick", "many", "rate"] := ⟨F__law_next_words, PySem.W.mg_of X G a__law_next_words, F__law_next_words.binds (ps := ["d", "past", "tick", "many", "rate"]) fun _ _ _ _ _ _ us hl => match us, hl with | [_, _, _, _, _], _ => rfl⟩
  have F__law_order_counts := fun_mk (st := s__law_order_counts) l__law_order_counts c__law_order_counts k__law_order_counts
  have D__law_order_counts : Df K mg "_law_order_counts" s__law_order_counts f__law_order_counts _ ["order", "patches", "entered"] := ⟨F__law_order_counts, PySem.W.mg_of X G a__law_order_counts, F__law_order_counts.binds (ps := ["order", "patches", "entered"]) fun _ _ _ _ _ _ us hl => match us, hl with | [_, _, _], _ => rfl⟩
  have F__law_take_order := fun_mk (st := s__law_take_order) l__law_take_order c__law_take_order k__law_take_order
  have D__law_take_order : Df K mg "_law_take_order" s__law_take_order f__law_take_order _ ["word", "many", "patches", "hold", "tick", "entered", "forces"] := ⟨F__law_take_order, PySem.W.mg_of X G a__law_take_order, F__law_take_order.binds (ps := ["word", "many", "patches", "hold", "tick", "entered", "forces"]) fun _ _ _ _ _ _ us hl => match us, hl with | [_, _, _, _, _, _, _], _ => rfl⟩
  have F__law_go_on := fun_mk (st := s__law_go_on) l__law_go_on c__law_go_on k__law_go_on
  have D__law_go_on : Df K mg "_law_go_on" s__law_go_on f__law_go_on _ ["past", "tick", "words", "lacking", "patches", "holding", "many"] := ⟨F__law_go_on, PySem.W.mg_of X G a__law_go_on, F__law_go_on.binds (ps := ["past", "tick", "words", "lacking", "patches", "holding", "many"]) fun _ _ _ _ _ _ us hl => match us, hl with | [_, _, _, _, _, _, _], _ => rfl⟩
  have F_law := fun_mk (st := s_law) l_law c_law k_law
  have D_law : Df K mg "law" s_law _ _ ["script"] := ⟨F_law, PySem.W.mg_of X G a_law, F_law.binds (ps := ["script"]) fun _ _ _ _ _ _ us hl => match us, hl with | [_], _ => rfl⟩
  refine ⟨PySem.W.fnOf "law" "law" (defArgs s_law) (defBody s_law) (defScope s_law) .none kV_law dc_law pm_law an_law cd_law ct_law, fun s v => .of_eq rfl, fun base _ _ => ?_⟩
  have C__law_begin : Cl l.prog w K mg base 1 "_law_begin" (sp__law_begin K) := D__law_begin.cl (ok__law_begin D__law_begin T )
  have C__law_draw : Cl l.prog w K mg base 1 "_law_draw" (sp__law_draw K) := D__law_draw.cl (ok__law_draw D__law_draw T )
  have C__law_pick : Cl l.prog w K mg base 2 "_law_pick" (sp__law_pick K) := D__law_pick.cl (ok__law_pick D__law_pick T C__law_draw)
  have C__law_new_past : Cl l.prog w K mg base 1 "_law_new_past" (sp__law_new_past K) := D__law_new_past.cl (ok__law_new_past D__law_new_past T )
  have C_with_gone : Cl l.prog w K mg base 1 "with_gone" (sp_with_gone K) := D_with_gone.cl (ok_with_gone D_with_gone T )
  have C_entry_of : Cl l.prog w K mg base 1 "entry_of" (sp_entry_of K) := D_entry_of.cl (ok_entry_of D_entry_of T )
  have C_entry_tick : Cl l.prog w K mg base 2 "entry_tick" (sp_entry_tick K) := D_entry_tick.cl (ok_entry_tick D_entry_tick T C_entry_of)
  have C_is_present : Cl l.prog w K mg base 3 "is_present" (sp_is_present K) := D_is_present.cl (ok_is_present D_is_present T C_entry_tick)
  have C_speaker_at : Cl l.prog w K mg base 4 "speaker_at" (sp_speaker_at K) := D_speaker_at.cl (ok_speaker_at D_speaker_at T C_is_present)
  have C_taken_hold : Cl l.prog w K mg base 2 "taken_hold" (sp_taken_hold K) := D_taken_hold.cl (ok_taken_hold D_taken_hold T C_entry_of)
  have C_order_of : Cl l.prog w K mg base 1 "order_of" (sp_order_of K) := D_order_of.cl (ok_order_of D_order_of T )
  have C_does_count : Cl l.prog w K mg base 3 "does_count" (sp_does_count K) := D_does_count.cl (ok_does_count D_does_count T C_entry_tick)
  have C_settled_facts : Cl l.prog w K mg base 5 "settled_facts" (sp_settled_facts K) := D_settled_facts.cl (ok_settled_facts D_settled_facts T C_with_gone C_speaker_at C_taken_hold C_order_of C_does_count)
  have C__law_is_told : Cg l.prog w K mg base 6 "_law_is_told" (sp__law_is_told K) := D__law_is_told.cg (ok__law_is_told D__law_is_told T C_settled_facts)
  have C__law_begun : Cl l.prog w K mg base 3 "_law_begun" (sp__law_begun K) := D__law_begun.cl (ok__law_begun D__law_begun T C__law_draw C__law_pick)
  have C__law_force : Cl l.prog w K mg base 1 "_law_force" (sp__law_force K) := D__law_force.cl (ok__law_force D__law_force T )
  have C__law_behind : Cl l.prog w K mg base 2 "_law_behind" (sp__law_behind K) := D__law_behind.cl (ok__law_behind D__law_behind T C__law_force)
  have C__law_present : Cl l.prog w K mg base 1 "_law_present" (sp__law_present K) := D__law_present.cl (ok__law_present D__law_present T )
  have C__law_any_word : Cl l.prog w K mg base 3 "_law_any_word" (sp__law_any_word K) := D__law_any_word.cl (ok__law_any_word D__law_any_word T C__law_pick C__law_draw)
  have C__law_next_words : Cl l.prog w K mg base 4 "_law_next_words" (sp__law_next_words K) := D__law_next_words.cl (ok__law_next_words D__law_next_words T C__law_present C__law_draw C__law_any_word)
  have C__law_order_counts : Cl l.prog w K mg base 1 "_law_order_counts" (sp__law_order_counts K) := D__law_order_counts.cl (ok__law_order_counts D__law_order_counts T )
  have C__law_take_order : Cl l.prog w K mg base 2 "_law_take_order" (sp__law_take_order K) := D__law_take_order.cl (ok__law_take_order D__law_take_order T C__law_order_counts)
  have C__law_go_on : Cl l.prog w K mg base 3 "_law_go_on" (sp__law_go_on K) := D__law_go_on.cl (ok__law_go_on D__law_go_on T C__law_present C__law_take_order)
  exact ok_law D_law T C__law_begin C__law_draw C__law_pick C__law_new_past C__law_is_told C__law_begun C__law_behind C__law_next_words C__law_go_on
theorem walk {l : PySem.W.OpenLaw} {q : Program} {loose : List Str} {XP : (Str → Option Value) → Heap → Prop} {YP : World → Heap → Prop} {d : DefRec} {K : Params → PySem.W.Frag} (hn : l.most = some 63) (hdf : d.params.defaults = [])
    (hY : ∀ (w : World) (h : Heap), YP w h → (K w.params).In h)
    (F : ∀ (w : World) (mg : Str → Option Value) (fa : Addr) (h : Heap), (K w.params).In h → h.Ns mainGlobals mg → mg d.name = some (.ref fa) →
      ∃ fd : FuncData, (∀ (s : Shared) (u : Value), BindsTo s fd ⟨[u], []⟩ [("script", u)]) ∧ ∀ base : Heap, (K w.params).In base → base.Ns mainGlobals mg → Gok l.prog w (K w.params) mg base 7 fa fd ["script"] (sp_law (K w.params))) :
    PySem.W.WalkO q loose XP YP l.row.toRowW d [] (fun f vs => PySem.call f vs) :=
  Jp.walk_cg (n := 63) (k := 7) (x := "script") (sp := fun w => sp_law (K w.params)) hn (by decide) hdf ⟨rfl, by decide, by decide⟩ hY F fun _ _ a ns hl hb _ hS => law_hands a ns hl hb hS
end Law
open PySem PySem.W PyProof.Rows in
set_option maxRecDepth 100000 in
set_option maxHeartbeats 0 in
theorem PySem.Challenge.cw_judgedplay_k37_settled_facts_holds : PySem.Challenge.rw_judgedplay_k37_settled_facts.Holds := by
  w_on; o_law; k_head; (case hw => w_witness2)
  k_fill
  refine Law.walk (l := PySem.Challenge.rw_judgedplay_k37_settled_facts) rfl rfl (fun w h Y => PySem.W.kIn_of Y) ?F
  case F =>
    intro w mg fa h KX G hmg
    refine' Law.all_mk KX G hmg ?a__law_begin ?l__law_begin ?c__law_begin ?k__law_begin ?a__law_draw ?l__law_draw ?c__law_draw ?k__law_draw ?a__law_pick ?l__law_pick ?c__law_pick ?k__law_pick ?a__law_new_past ?l__law_new_past ?c__law_new_past ?k__law_new_past ?a_with_gone ?l_with_gone ?c_with_gone ?k_with_gone ?a_entry_of ?l_entry_of ?c_entry_of ?k_entry_of ?a_entry_tick ?l_entry_tick ?c_entry_tick ?k_entry_tick ?a_is_present ?l_is_present ?c_is_present ?k_is_present ?a_speaker_at ?l_speaker_at ?c_speaker_at ?k_speaker_at ?a_taken_hold ?l_taken_hold ?c_taken_hold ?k_taken_hold ?a_order_of ?l_order_of ?c_order_of ?k_order_of ?a_does_count ?l_does_count ?c_does_count ?k_does_count ?a_settled_facts ?l_settled_facts ?c_settled_facts ?k_settled_facts ?a__law_is_told ?l__law_is_told ?c__law_is_told ?k__law_is_told ?a__law_begun ?l__law_begun ?c__law_begun ?k__law_begun ?a__law_force ?l__law_force ?c__law_force ?k__law_force ?a__law_behind ?l__law_behind ?c__law_behind ?k__law_behind ?a__law_present ?l__law_present ?c__law_present ?k__law_present ?a__law_any_word ?l__law_any_word ?c__law_any_word ?k__law_any_word ?a__law_next_words ?l__law_next_words ?c__law_next_words ?k__law_next_words ?a__law_order_counts ?l__law_order_counts ?c__law_order_counts ?k__law_order_counts ?a__law_take_order ?l__law_take_order ?c__law_take_order ?k__law_take_order ?a__law_go_on ?l__law_go_on ?c__law_go_on ?k__law_go_on ?a_law ?l_law ?c_law ?k_law ?z_int ?z_len ?z_abs ?z_tuple ?z_range ?z_list ?z_repr ?z_sorted ?n_FIRST_ENTRY ?r_FIRST_ENTRY
    (case a__law_begin => k_is)
    (case l__law_begin => k_is)
    (case c__law_begin => k_is)
    (case k__law_begin => k_is)
    (case a__law_draw => k_is)
    (case l__law_draw => k_is)
    (case c__law_draw => k_is)
    (case k__law_draw => k_is)
    (case a__law_pick => k_is)
    (case l__law_pick => k_is)
    (case c__law_pick => k_is)
    (case k__law_pick => k_is)
    (case a__law_new_past => k_is)
    (case l__law_new_past => k_is)
    (case c__law_new_past => k_is)
    (case k__law_new_past => k_is)
    (case a_with_gone => k_is)
    (case l_with_gone => k_is)
    (case c_with_gone => k_is)
    (case k_with_gone => k_is)
    (case a_entry_of => k_is)
    (case l_entry_of => k_is)
    (case c_entry_of => k_is)
    (case k_entry_of => k_is)
    (case a_entry_tick => k_is)
    (case l_entry_tick => k_is)
    (case c_entry_tick => k_is)
    (case k_entry_tick => k_is)
    (case a_is_present => k_is)
    (case l_is_present => k_is)
    (case c_is_present => k_is)
    (case k_is_present => k_is)
    (case a_speaker_at => k_is)
    (case l_speaker_at => k_is)
    (case c_speaker_at => k_is)
    (case k_speaker_at => k_is)
    (case a_taken_hold => k_is)
    (case l_taken_hold => k_is)
    (case c_taken_hold => k_is)
    (case k_taken_hold => k_is)
    (case a_order_of => k_is)
    (case l_order_of => k_is)
    (case c_order_of => k_is)
    (case k_order_of => k_is)
    (case a_does_count => k_is)
    (case l_does_count => k_is)
    (case c_does_count => k_is)
    (case k_does_count => k_is)
    (case a_settled_facts => k_is)
    (case l_settled_facts => k_is)
    (case c_settled_facts => k_is)
    (case k_settled_facts => k_is)
    (case a__law_is_told => k_is)
    (case l__law_is_told => k_is)
    (case c__law_is_told => k_is)
    (case k__law_is_told => k_is)
    (case a__law_begun => k_is)
    (case l__law_begun => k_is)
    (case c__law_begun => k_is)
    (case k__law_begun => k_is)
    (case a__law_force => k_is)
    (case l__law_force => k_is)
    (case c__law_force => k_is)
    (case k__law_force => k_is)
    (case a__law_behind => k_is)
    (case l__law_behind => k_is)
    (case c__law_behind => k_is)
    (case k__law_behind => k_is)
    (case a__law_present => k_is)
    (case l__law_present => k_is)
    (case c__law_present => k_is)
    (case k__law_present => k_is)
    (case a__law_any_word => k_is)
    (case l__law_any_word => k_is)
    (case c__law_any_word => k_is)
    (case k__law_any_word => k_is)
    (case a__law_next_words => k_is)
    (case l__law_next_words => k_is)
    (case c__law_next_words => k_is)
    (case k__law_next_words => k_is)
    (case a__law_order_counts => k_is)
    (case l__law_order_counts => k_is)
    (case c__law_order_counts => k_is)
    (case k__law_order_counts => k_is)
    (case a__law_take_order => k_is)
    (case l__law_take_order => k_is)
    (case c__law_take_order => k_is)
    (case k__law_take_order => k_is)
    (case a__law_go_on => k_is)
    (case l__law_go_on => k_is)
    (case c__law_go_on => k_is)
    (case k__law_go_on => k_is)
    (case a_law => k_is)
    (case l_law => k_is)
    (case c_law => k_is)
    (case k_law => k_is)
    (case z_int => k_is)
    (case z_len => k_is)
    (case z_abs => k_is)
    (case z_tuple => k_is)
    (case z_range => k_is)
    (case z_list => k_is)
    (case z_repr => k_is)
    (case z_sorted => k_is)
    (case n_FIRST_ENTRY => k_is)
    (case r_FIRST_ENTRY => first | exact ⟨_, rfl⟩ | rfl)
#print axioms PySem.Challenge.cw_judgedplay_k37_settled_facts_holds
