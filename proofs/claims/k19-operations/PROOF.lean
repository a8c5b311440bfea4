import PyProof.Rows.All
import Wide.All
import OpenK.AllK
import Wide.FinOn
import HandS.ForMost
import HandS.Wide
import HandS.WideBits
import HandS.IsInst
import HandS.TupAny
import HandS.Deep
import HandS.EndBits
import HandS.More
import HandS.Walk
import PySem.Challenge.RW_judgedplay_k19_operations
set_option Elab.async false
set_option linter.all false
set_option maxRecDepth 100000
set_option maxHeartbeats 4000000
/-! ### my own layer: introduction forms for the readings -/
namespace Jp
open PySem PySem.Spec PyProof.Rows L2
/-! rules by names -/
section
variable {X : Cx}
def rInt1 : List V → Hp → VK → Prop := fun xs H Q => (∃ i, xs = [.int i] ∧ Q (.int i) H) ∨ ∃ k, xs = [.bl k] ∧ Q (.int (if k then 1 else 0)) H
theorem c_int : CallR X (.type "int") rInt1 := call_int1
def rAbs : List V → Hp → VK → Prop := fun xs H Q => ∃ i, xs = [.int i] ∧ Q (.int (if i < 0 then -i else i)) H
theorem c_abs : CallR X (.builtin "abs") rAbs := call_abs
def rMax2 : List V → Hp → VK → Prop := fun xs H Q => ∃ i j, xs = [.int i, .int j] ∧ Q (.int (if j > i then j else i)) H
theorem c_max2 (hc : X.calm = true) : CallR X (.builtin "max") rMax2 := call_max2 hc
def rMin2 : List V → Hp → VK → Prop := fun xs H Q => ∃ i j, xs = [.int i, .int j] ∧ Q (.int (if j < i then j else i)) H
theorem c_min2 (hc : X.calm = true) : CallR X (.builtin "min") rMin2 := call_min2 hc
def qLen (K : PySem.W.Frag) : List V → Hp → VK → Prop := fun xs H Q => ∃ x n, xs = [x] ∧ LenV K x H n ∧ Q (.int (n : Nat)) H
theorem c_len : CallR X (.builtin "len") (qLen X.K) := call_len
def rLenD : List V → Hp → VK → Prop := fun xs H Q => ∃ a kvs, xs = [V.ref a] ∧ H a = some (.dK kvs) ∧ Q (.int kvs.length) H
theorem c_lenD : CallR X (.builtin "len") rLenD := call_lenD
def rTupOf (K : PySem.W.Frag) : List V → Hp → VK → Prop := fun xs H Q => ∃ p ys, xs = [.ref p] ∧ ((SqL K H p ys ∧ ∀ l, H l = none → Q (.ref l) (upd H l (.tup ys))) ∨ (SqT K H p ys ∧ Q (.ref p) H))
theorem c_tup : CallR X (.type "tuple") (rTupOf X.K) := call_tuple_of
def rLstOf (K : PySem.W.Frag) : List V → Hp → VK → Prop := fun xs H Q => ∃ p ys, xs = [.ref p] ∧ (SqL K H p ys ∨ SqT K H p ys) ∧ ∀ l, H l = none → Q (.ref l) (upd H l (.lst ys))
theorem c_lst : CallR X (.type "list") (rLstOf X.K) := call_list_of
def rBool1 : List V → Hp → VK → Prop := fun xs H Q => (∃ i, xs = [.int i] ∧ Q (.bl (i != 0)) H) ∨ ∃ k, xs = [.bl k] ∧ Q (.bl k) H
theorem c_bool1 : CallR X (.type "bool") rBool1 := call_bool1
def rIsNon : R2 := fun x y H Q => y = .non ∧ Q (.bl (decide (x = .non))) H
theorem o_isN : OpR X (compareOp .Is) rIsNon := op_isN
def rNotNon : R2 := fun x y H Q => y = .non ∧ Q (.bl (!decide (x = .non))) H
theorem o_notN : OpR X (compareOp .IsNot) rNotNon := op_notN
def rAddStr : R2 := fun x y H Q => ∃ i j, x = .str i ∧ y = .str j ∧ i.length + j.length ≤ sizeLine ∧ Q (.str (i ++ j)) H
theorem o_addS : OpR X (binaryOp .Add) rAddStr := op_add_str
theorem o_iaddS : OpR X (inplaceOp .Add) rAddStr := iop_add_str
end
section
variable {K : PySem.W.Frag} {σ : L2.St} {H : Hp} {Q : VK}
theorem i_isN {x : V} (q : Q (.bl (decide (x = .non))) H) : rIsNon x .non H Q := ⟨rfl, q⟩
theorem i_notN {x : V} (q : Q (.bl (!decide (x = .non))) H) : rNotNon x .non H Q := ⟨rfl, q⟩
theorem i_int {i : Int} (q : Q (.int i) H) : rInt1 [.int i] H Q := .inl ⟨i, rfl, q⟩
theorem i_intB {k : Bool} (q : Q (.int (if k then 1 else 0)) H) : rInt1 [.bl k] H Q := .inr ⟨k, rfl, q⟩
theorem i_abs {i : Int} (q : Q (.int (if i < 0 then -i else i)) H) : rAbs [.int i] H Q := ⟨i, rfl, q⟩
theorem i_max2 {i j : Int} (q : Q (.int (if j > i then j else i)) H) : rMax2 [.int i, .int j] H Q := ⟨i, j, rfl, q⟩
theorem i_min2 {i j : Int} (q : Q (.int (if j < i then j else i)) H) : rMin2 [.int i, .int j] H Q := ⟨i, j, rfl, q⟩
theorem i_lenL {p : Addr} {xs : List V} (h : SqL K H p xs) (q : Q (.int xs.length) H) : qLen K [.ref p] H Q := ⟨.ref p, xs.length, rfl, .inl ⟨xs, h, rfl⟩, q⟩
theorem i_lenT {p : Addr} {xs : List V} (h : SqT K H p xs) (q : Q (.int xs.length) H) : qLen K [.ref p] H Q := ⟨.ref p, xs.length, rfl, .inr ⟨xs, h, rfl⟩, q⟩
theorem i_lenS {x : Str} (h : x.length ≤ sizeLine) (q : Q (.int x.length) H) : qLen K [.str x] H Q := ⟨.str x, x.length, rfl, ⟨h, rfl⟩, q⟩
theorem i_lenD {p : Addr} {kvs : List (L2.Key × V)} (h : H p = some (.dK kvs)) (q : Q (.int kvs.length) H) : rLenD [.ref p] H Q := ⟨p, kvs, rfl, h, q⟩
theorem i_tupL {p : Addr} {ys : List V} (h : SqL K H p ys) (q : ∀ l, H l = none → Q (.ref l) (upd H l (.tup ys))) : rTupOf K [.ref p] H Q := ⟨p, ys, rfl, .inl ⟨h, q⟩⟩
theorem i_tupT {p : Addr} {ys : List V} (h : SqT K H p ys) (q : Q (.ref p) H) : rTupOf K [.ref p] H Q := ⟨p, ys, rfl, .inr ⟨h, q⟩⟩
theorem i_lstL {p : Addr} {ys : List V} (h : SqL K H p ys) (q : ∀ l, H l = none → Q (.ref l) (upd H l (.lst ys))) : rLstOf K [.ref p] H Q := ⟨p, ys, rfl, .inl h, q⟩
theorem i_lstT {p : Addr} {ys : List V} (h : SqT K H p ys) (q : ∀ l, H l = none → Q (.ref l) (upd H l (.lst ys))) : rLstOf K [.ref p] H Q := ⟨p, ys, rfl, .inr h, q⟩
theorem i_catA {p b : Addr} {xs ys : List V} (h1 : SqT K H p xs) (h2 : SqT K H b ys) (hl : xs.length + ys.length ≤ sizeLine) (q : ∀ (r : Addr) (H' : Hp), (∀ b o, H b = some o → H' b = some o) → SqT K H' r (xs ++ ys) → Q (.ref r) H') : rCatA K (.ref p) (.ref b) H Q := by
  refine ⟨p, b, xs, ys, rfl, rfl, h1, h2, hl, fun e => ?_, fun _ e => ?_, fun _ _ r hr => ?_⟩
  · subst e; exact q b H (fun _ _ h => h) h2
  · subst e; exact q p H (fun _ _ h => h) (by rw [List.append_nil]; exact h1)
  · exact q r _ (fun b o e => by rw [upd_ne (ne_of_none e hr)]; exact e) (.inl (.inl upd_same))
theorem i_catI {p b : Addr} {ns ms : List Int} (h1 : SqT K H p (ns.map V.int)) (h2 : SqT K H b (ms.map V.int)) (hl : ns.length + ms.length ≤ 10000) (q : ∀ (r : Addr) (H' : Hp), (∀ b o, H b = some o → H' b = some o) → SqT K H' r ((ns ++ ms).map V.int) → Q (.ref r) H') : rCatA K (.ref p) (.ref b) H Q :=
  i_catA h1 h2 (by rw [List.length_map, List.length_map]; exact Nat.le_trans hl (by decide)) fun r H' s t => q r H' s (by rw [List.map_append]; exact t)
/-- ns[lo:hi] -/
def cutI (ns : List Int) (lo hi : Option Int) : List Int := (ns.drop (HT.sIx ns.length 0 lo)).take (HT.sIx ns.length ns.length hi - HT.sIx ns.length 0 lo)
theorem cutI_len (ns : List Int) (lo hi : Option Int) : (cutI ns lo hi).length ≤ ns.length := by
  unfold cutI
  rw [List.length_take, List.length_drop]
  omega
theorem i_slI {p : Addr} {ns : List Int} {lo hi : Option Int} (h : SqT K H p (ns.map V.int)) (hw : ¬ (HT.sIx ns.length 0 lo = 0 ∧ HT.sIx ns.length ns.length hi = ns.length))
    (q : ∀ (r : Addr) (H' : Hp), (∀ b o, H b = some o → H' b = some o) → SqT K H' r ((cutI ns lo hi).map V.int) → Q (.ref r) H') : rSlT K (.ref p) lo hi H Q := by
  refine ⟨p, _, rfl, h, by rw [List.length_map]; exact hw, fun r hr => q r _ (fun b o e => by rw [upd_ne (ne_of_none e hr)]; exact e) (.inl (.inl ?_))⟩
  rw [upd_same]
  unfold cutV cutI
  rw [List.length_map, List.map_take, List.map_drop]
theorem i_sl {r : V → Option Int → Option Int → Hp → VK → Prop} {te : TE} {tl th : TO} (h : te σ H fun x H1 => tl σ H1 fun l H2 => th σ H2 fun u H3 => r x l u H3 Q) : tSl r te tl th σ H Q := h
theorem i_noPart {Q : Option Int → Hp → Prop} (q : Q none H) : tNoPart σ H Q := q
theorem i_part {t : TE} {Q : Option Int → Hp → Prop} (h : t σ H fun x H1 => ∃ i, x = .int i ∧ Q (some i) H1) : tPart t σ H Q := h
theorem i_cat {p b : Addr} {xs zs : List V} (h1 : H p = some (.lst xs)) (h2 : H b = some (.lst zs)) (hl : xs.length + zs.length ≤ sizeLine) (q : ∀ r, H r = none → Q (.ref r) (upd H r (.lst (xs ++ zs)))) : rCat (.ref p) (.ref b) H Q := ⟨p, b, xs, zs, rfl, rfl, h1, h2, hl, q⟩
theorem i_cat' {p b : Addr} {xs zs : List V} (e1 : H p = some (.lst xs)) (e2 : H b = some (.lst zs)) (hl : xs.length + zs.length ≤ 10000) (q : ∀ r H', (∀ b o, H b = some o → H' b = some o) → H r = none → H' r = some (.lst (xs ++ zs)) → Q (.ref r) H') : rCat (.ref p) (.ref b) H Q :=
  i_cat e1 e2 (by rw [sizeLine_eq]; omega) fun r hr => q r _ (fun b o e => by rw [upd_ne (ne_of_none e hr)]; exact e) hr upd_same
theorem i_slL {p : Addr} {xs : List V} {lo hi : Option Int} (h : SqL K H p xs) (q : ∀ r H', (∀ b o, H b = some o → H' b = some o) → H r = none → H' r = some (.lst (cutV xs lo hi)) → Q (.ref r) H') : rSlL K (.ref p) lo hi H Q :=
  ⟨p, xs, rfl, h, fun r hr => q r _ (fun b o e => by rw [upd_ne (ne_of_none e hr)]; exact e) hr upd_same⟩
theorem i_chain {r r' : R2} {ta tb tc : TE} (h : ta σ H fun x H1 => tb σ H1 fun y H2 => r x y H2 fun z H3 => ∃ k, z = .bl k ∧ (if k = true then tc σ H3 fun w' H4 => r' y w' H4 Q else Q (.bl false) H3)) : tChain r r' ta tb tc σ H Q := h
theorem i_popAt {p : Addr} {xs : List V} {i : Int} {y : V} (h : H p = some (.lst xs)) (h0 : 0 ≤ i) (h1 : i < xs.length) (h2 : xs.length ≤ 1000000) (e : xs[i.toNat]? = some y) (q : Q y (upd H p (.lst (xs.eraseIdx i.toNat)))) : rPopAt (.ref p) [.int i] H Q :=
  ⟨p, xs, i, i.toNat, y, rfl, rfl, h, by omega, by omega, seqIndex_of h0 h1, e, q⟩
theorem i_isI {i : Int} {Q : Int → Prop} (q : Q i) : ∃ i', V.int i = .int i' ∧ Q i' := ⟨i, rfl, q⟩
theorem i_bm {T : String} {r : V → List V → Hp → VK → Prop} {to : TE} {t : TA} (h : to σ H fun x H1 => tyV K T x H1 ∧ t σ H1 fun xs H2 => r x xs H2 Q) : tBM K T r to t σ H Q := h
theorem i_bm0 {T : String} {r : V → List V → Hp → VK → Prop} {to : TE} (h : to σ H fun x H1 => tyV K T x H1 ∧ r x [] H1 Q) : tBM0 K T r to σ H Q := h
theorem i_tyL {p : Addr} {xs : List V} {R : Prop} (s : SqL K H p xs) (q : R) : tyV K "list" (.ref p) H ∧ R := ⟨.inl ⟨rfl, xs, s⟩, q⟩
theorem i_app {p : Addr} {xs : List V} {y : V} (h : H p = some (.lst xs)) (hl : xs.length < sizeLine) (q : Q .non (upd H p (.lst (xs ++ [y])))) : rAppend (.ref p) [y] H Q := ⟨p, xs, y, rfl, rfl, h, hl, q⟩
theorem i_addS {x y : Str} (h : x.length + y.length ≤ sizeLine) (q : Q (.str (x ++ y)) H) : rAddStr (.str x) (.str y) H Q := ⟨x, y, rfl, rfl, h, q⟩
theorem i_isi {x : V} {n : String} {t : Value} {b : Bool} (ty : TyX K H x t) (e : PySem.W.kitOne K t (.type n) = some b) (q : Q (.bl b) H) : rIsi K [x, .ty n] H Q := ⟨x, .ty n, t, .type n, b, rfl, .ty n, ty, e, q⟩
theorem i_var {i : Nat} {v : V} (h : σ[i]? = some (some v)) (q : Q v H) : tVar i σ H Q := ⟨v, h, q⟩
theorem i_c {v : V} (q : Q v H) : tC v σ H Q := q
theorem i_op {r : R2} {ta tb : TE} (h : ta σ H fun x H1 => tb σ H1 fun y H2 => r x y H2 Q) : tOp r ta tb σ H Q := h
theorem i_un {r : V → Hp → VK → Prop} {ta : TE} (h : ta σ H fun x H1 => r x H1 Q) : tUn r ta σ H Q := h
theorem i_rI0 {g : Int → Int → V} {i j : Int} (q : Q (g i j) H) : rI0 g (.int i) (.int j) H Q := ⟨i, j, rfl, rfl, q⟩
theorem i_rI {C : Int → Int → Prop} {g : Int → Int → V} {i j : Int} (c : C i j) (q : Q (g i j) H) : rI C g (.int i) (.int j) H Q := ⟨i, j, rfl, rfl, c, q⟩
theorem i_rU {g : Int → V} {i : Int} (q : Q (g i) H) : rU g (.int i) H Q := ⟨i, rfl, q⟩
theorem i_eqI {i j : Int} (q : Q (.bl (decide (i = j))) H) : rEq (.int i) (.int j) H Q := ⟨rfl, by
  have e : decide (V.int i = V.int j) = decide (i = j) := by simp
  rw [e]; exact q⟩
theorem i_neI {i j : Int} (q : Q (.bl (!decide (i = j))) H) : rNe (.int i) (.int j) H Q := ⟨rfl, by
  have e : decide (V.int i = V.int j) = decide (i = j) := by simp
  rw [e]; exact q⟩
theorem i_eqB {i j : Bool} (q : Q (.bl (decide (i = j))) H) : rEq (.bl i) (.bl j) H Q := ⟨rfl, by
  have e : decide (V.bl i = V.bl j) = decide (i = j) := by simp
  rw [e]; exact q⟩
theorem i_neB {i j : Bool} (q : Q (.bl (!decide (i = j))) H) : rNe (.bl i) (.bl j) H Q := ⟨rfl, by
  have e : decide (V.bl i = V.bl j) = decide (i = j) := by simp
  rw [e]; exact q⟩
theorem i_eqS {i j : Str} (q : Q (.bl (decide (i = j))) H) : rEq (.str i) (.str j) H Q := ⟨rfl, by
  have e : decide (V.str i = V.str j) = decide (i = j) := by simp
  rw [e]; exact q⟩
theorem i_neS {i j : Str} (q : Q (.bl (!decide (i = j))) H) : rNe (.str i) (.str j) H Q := ⟨rfl, by
  have e : decide (V.str i = V.str j) = decide (i = j) := by simp
  rw [e]; exact q⟩
/-! index -/
theorem i_ixL {p : Addr} {xs : List V} {i : Int} {v : V} (h : SqL K H p xs) (e : atI xs i = some v) (q : Q v H) : rIxL K (.ref p) (.int i) H Q := ⟨p, xs, i, v, rfl, rfl, h, e, q⟩
theorem i_ixT {p : Addr} {xs : List V} {i : Int} {v : V} (h : SqT K H p xs) (e : atI xs i = some v) (q : Q v H) : rIxT K (.ref p) (.int i) H Q := ⟨p, xs, i, v, rfl, rfl, h, e, q⟩
theorem i_ix1 {x y : V} (h : rIxL K x y H Q) : rIx K x y H Q := .inl h
theorem i_ix2 {x y : V} (h : rIxT K x y H Q) : rIx K x y H Q := .inr (.inl h)
/-! arguments, calls, displays -/
theorem i_nil {Q : List V → Hp → Prop} (q : Q [] H) : tNil σ H Q := q
theorem i_cons {ta : TE} {tr : TA} {Q : List V → Hp → Prop} (h : ta σ H fun x H1 => tr σ H1 fun xs H2 => Q (x :: xs) H2) : tCons ta tr σ H Q := h
theorem i_call {sp : Sp} {E : XK} {t : TA} (h : t σ H fun vs H1 => sp (vs ++ []) H1 Q E) : tCall sp [] E t σ H Q := h
theorem i_cb {r : List V → Hp → VK → Prop} {t : TA} (h : t σ H fun vs H1 => r vs H1 Q) : tCB r t σ H Q := h
theorem i_tup {t : TA} (h : t σ H fun xs H1 => xs.length ≤ sizeLine ∧ ∀ p, H1 p = none → Q (.ref p) (upd H1 p (.tup xs))) : tTup t σ H Q := h
theorem i_lst {t : TA} (h : t σ H fun xs H1 => xs.length ≤ sizeLine ∧ ∀ p, H1 p = none → Q (.ref p) (upd H1 p (.lst xs))) : tLst t σ H Q := h
theorem i_new {n : Nat} {R : Addr → Prop} (h : n ≤ sizeLine) (q : ∀ p, H p = none → R p) : n ≤ sizeLine ∧ ∀ p, H p = none → R p := ⟨h, q⟩
theorem i_if {c : TT} {ta tb : TE} (h : c σ H fun b H1 => if b = true then ta σ H1 Q else tb σ H1 Q) : tIf c ta tb σ H Q := h
theorem i_andV {ta tb : TE} (h : ta σ H fun x H1 => ∃ c, x = .bl c ∧ if c = true then tb σ H1 Q else Q (.bl false) H1) : tAndV ta tb σ H Q := h
theorem i_orV {ta tb : TE} (h : ta σ H fun x H1 => ∃ c, x = .bl c ∧ if c = true then Q (.bl true) H1 else tb σ H1 Q) : tOrV ta tb σ H Q := h
theorem i_notV {ta : TE} (h : ta σ H fun x H1 => ∃ c, x = .bl c ∧ Q (.bl (!c)) H1) : tNotV ta σ H Q := h
/-! tests -/
theorem i_test {t : TE} {Q : Bool → Hp → Prop} (h : t σ H fun x H1 => ∃ k, x = .bl k ∧ Q k H1) : tTest t σ H Q := h
theorem i_B {t : TE} {Q : Bool → Hp → Prop} (h : t σ H fun x H1 => ∃ k, x = .bl k ∧ Q k H1) : tB t σ H Q := h
theorem i_isb {k : Bool} {Q : Bool → Prop} (q : Q k) : ∃ k', V.bl k = .bl k' ∧ Q k' := ⟨k, rfl, q⟩
theorem i_and {t u : TT} {Q : Bool → Hp → Prop} (h : t σ H fun c H1 => if c = true then u σ H1 Q else Q false H1) : tAnd t u σ H Q := h
theorem i_or {t u : TT} {Q : Bool → Hp → Prop} (h : t σ H fun c H1 => if c = true then Q true H1 else u σ H1 Q) : tOr t u σ H Q := h
theorem i_not {t : TT} {Q : Bool → Hp → Prop} (h : t σ H fun c H1 => Q (!c) H1) : tNot t σ H Q := h
/-! statements -/
section
variable {nx : L2.St → Hp → Prop} {rt : VK} {bk ct : L2.St → Hp → Prop}
theorem i_seq {t u : TS} (h : t ⟨u ⟨nx, rt, bk, ct⟩, rt, bk, ct⟩ σ H) : tSeq t u ⟨nx, rt, bk, ct⟩ σ H := h
theorem i_next (h : nx σ H) : tNext ⟨nx, rt, bk, ct⟩ σ H := h
theorem i_asg {te : TE} {g : TG} (h : te σ H fun x H1 => g x σ H1 nx) : tAsg te g ⟨nx, rt, bk, ct⟩ σ H := h
theorem i_drop {te : TE} (h : te σ H fun _ H1 => nx σ H1) : tDrop te ⟨nx, rt, bk, ct⟩ σ H := h
theorem i_ret {te : TE} (h : te σ H rt) : tRet te ⟨nx, rt, bk, ct⟩ σ H := h
theorem i_retN (h : rt .non H) : tRetN ⟨nx, rt, bk, ct⟩ σ H := h
theorem i_ifS {c : TT} {t u : TS} (h : c σ H fun b H1 => if b = true then t ⟨nx, rt, bk, ct⟩ σ H1 else u ⟨nx, rt, bk, ct⟩ σ H1) : tIfS c t u ⟨nx, rt, bk, ct⟩ σ H := h
theorem i_ifC {c : TT} {t u : TS} (J : L2.St → Hp → Prop) (h1 : ∀ σ' H', J σ' H' → nx σ' H') (h2 : ∀ N : L2.St → Hp → Prop, (∀ σ' H', J σ' H' → N σ' H') → tIfS c t u ⟨N, rt, bk, ct⟩ σ H) : tIfS c t u ⟨nx, rt, bk, ct⟩ σ H := h2 _ h1
theorem i_break (h : bk σ H) : tBreak ⟨nx, rt, bk, ct⟩ σ H := h
theorem i_cont (h : ct σ H) : tCont ⟨nx, rt, bk, ct⟩ σ H := h
theorem i_augE {i : Nat} {te : TE} {ti : TIp} {x : V} (e : σ[i]? = some (some x)) (h : te σ H fun y H1 => ti x y H1 fun z H2 => gName i z σ H2 nx) : tAug i te ti ⟨nx, rt, bk, ct⟩ σ H := ⟨x, e, h⟩
theorem i_augS {to ti te : TE} {tget : V → V → Hp → VK → Prop} {tip : TIp} {tset : TSet} (h : to σ H fun o H1 => ti σ H1 fun i H2 => tget o i H2 fun x H3 => te σ H3 fun y H4 => tip x y H4 fun z H5 => tset o i z H5 fun H6 => nx σ H6) : tAugS to ti te tget tip tset ⟨nx, rt, bk, ct⟩ σ H := h
theorem i_ipI {f : Int → Int → Int} {i j : Int} (q : Q (.int (f i j)) H) : ipI f (.int i) (.int j) H Q := ⟨i, j, rfl, rfl, q⟩
theorem i_for {wi : TI} {g : TG} {tb : TS} (h : wi σ H fun J H1 => ∃ W : Nat → Nat → L2.St → Hp → Prop, (∃ m, W 0 m σ H1) ∧ ∀ i m σ H, W i m σ H →
  (J.stop i H ∧ nx σ H) ∨ (J.go i H ∧ ∃ N : L2.St → Hp → Prop, (∀ σ' H', N σ' H' → ∃ m', m' < m ∧ W (i + 1) m' σ' H') ∧ ∀ x H', J.yld i H x H' → g x σ H' fun σ2 H2 => tb ⟨N, rt, nx, N⟩ σ2 H2)) : tFor wi g tb ⟨nx, rt, bk, ct⟩ σ H := h
theorem i_iList {tl : TE} {R : It → Hp → Prop} (h : tl σ H fun x H1 => ∃ a, x = .ref a ∧ (∃ xs, SqL K H1 a xs) ∧ R (Itl K a) H1) : iList K tl σ H R := h
theorem i_iTup {tl : TE} {R : It → Hp → Prop} (h : tl σ H fun x H1 => ∃ a, x = .ref a ∧ (∃ xs, SqT K H1 a xs) ∧ R (Itt K a) H1) : iTup K tl σ H R := h
theorem i_isL {a : Addr} {xs : List V} {R : Addr → Prop} (s : SqL K H a xs) (h : R a) : ∃ a', V.ref a = .ref a' ∧ (∃ xs, SqL K H a' xs) ∧ R a' := ⟨a, rfl, ⟨xs, s⟩, h⟩
theorem i_isT {a : Addr} {xs : List V} {R : Addr → Prop} (s : SqT K H a xs) (h : R a) : ∃ a', V.ref a = .ref a' ∧ (∃ xs, SqT K H a' xs) ∧ R a' := ⟨a, rfl, ⟨xs, s⟩, h⟩
theorem i_rng1 {ta : TA} {R : It → Hp → Prop} (h : ta σ H fun vs H1 => ∃ j : Int, vs = [.int j] ∧ -(2 ^ 62) ≤ j ∧ j < 2 ^ 62 ∧ R (Itr 0 j.toNat) H1) : iRng1 ta σ H R := h
theorem i_rng2 {ta : TA} {R : It → Hp → Prop} (h : ta σ H fun vs H1 => ∃ i j : Int, vs = [.int i, .int j] ∧ (-(2 ^ 62) ≤ i ∧ i < 2 ^ 62 ∧ -(2 ^ 62) ≤ j ∧ j < 2 ^ 62) ∧ R (Itr i (j - i).toNat) H1) : iRng2 ta σ H R := h
theorem i_isR1 {j : Int} {R : Int → Prop} (h1 : -(2 ^ 62) ≤ j) (h2 : j < 2 ^ 62) (h : R j) : ∃ j' : Int, [V.int j] = [.int j'] ∧ -(2 ^ 62) ≤ j' ∧ j' < 2 ^ 62 ∧ R j' := ⟨j, rfl, h1, h2, h⟩
theorem i_isR2 {i j : Int} {R : Int → Int → Prop} (h1 : -(2 ^ 62) ≤ i) (h2 : i < 2 ^ 62) (h3 : -(2 ^ 62) ≤ j) (h4 : j < 2 ^ 62) (h : R i j) : ∃ i' j' : Int, [V.int i, V.int j] = [.int i', .int j'] ∧ (-(2 ^ 62) ≤ i' ∧ i' < 2 ^ 62 ∧ -(2 ^ 62) ≤ j' ∧ j' < 2 ^ 62) ∧ R i' j' := ⟨i, j, rfl, ⟨h1, h2, h3, h4⟩, h⟩
end
/-! comprehensions -/
theorem i_lc {wi : TI} {g : TG} {tt : TT} {te : TE} {ws : List Nat} {σ' : L2.St} (e : wipe σ ws = σ') (h : wi σ H fun J H1 => ∀ D, H1 D = none → ∃ W : Nat → Nat → Hp → Prop, (∃ m, W 0 m (upd H1 D (.lst []))) ∧ ∀ i m H, W i m H →
  (J.stop i H ∧ Q (.ref D) H) ∨ (J.go i H ∧ ∃ Nx : Hp → Prop, (∀ H', Nx H' → ∃ m', m' < m ∧ W (i + 1) m' H') ∧ ∀ x H', J.yld i H x H' → g x σ' H' fun σ2 H2 => wipe σ2 ws = σ' ∧ tt σ2 H2 fun b H3 =>
    if b = true then te σ2 H3 fun y H4 => ∃ acc, H4 D = some (.lst acc) ∧ acc.length < sizeLine ∧ Nx (upd H4 D (.lst (acc ++ [y]))) else Nx H3)) : tLc wi g tt te ws σ H Q := by subst e; exact h
/-! targets -/
theorem i_gNameE {i : Nat} {v : V} {σ' : L2.St} {Q : L2.St → Hp → Prop} (e : σ.set i (some v) = σ') (q : Q σ' H) : gName i v σ H Q := by subst e; exact q
theorem st_of {t : TS} {D : Ends} {σ σ' : L2.St} {H : Hp} (e : σ = σ') (h : t D σ' H) : t D σ H := by subst e; exact h
theorem i_gName {i : Nat} {v : V} {Q : L2.St → Hp → Prop} (q : Q (σ.set i (some v)) H) : gName i v σ H Q := q
theorem i_gSub {to ti : TE} {t : TSet} {v : V} {Q : L2.St → Hp → Prop} (h : to σ H fun o H1 => ti σ H1 fun i H2 => t o i v H2 fun H3 => Q σ H3) : gSub to ti t v σ H Q := h
theorem i_setL {p : Addr} {xs : List V} {k : Int} {j : Nat} {v : V} {Q : Hp → Prop} (h : H p = some (.lst xs)) (e : ixN xs.length k = some j) (q : Q (upd H p (.lst (xs.set j v)))) : rSetL (.ref p) (.int k) v H Q := ⟨p, xs, k, j, rfl, rfl, h, e, q⟩
theorem i_gTup {n : Nat} {t : TGs} {a : Addr} {xs : List V} {Q : L2.St → Hp → Prop} (h : SqT K H a xs) (e : xs.length = n) (q : t xs σ H Q) : gTup K n t (.ref a) σ H Q := ⟨a, xs, rfl, h, e, q⟩
theorem i_gNil {Q : L2.St → Hp → Prop} (q : Q σ H) : gNil [] σ H Q := ⟨rfl, q⟩
theorem i_gCons {t : TG} {u : TGs} {v : V} {r : List V} {Q : L2.St → Hp → Prop} (q : t v σ H fun σ' H' => u r σ' H' Q) : gCons t u (v :: r) σ H Q := ⟨v, r, rfl, q⟩
/-! builtins' calls -/
end
/-! ### heaps -/
/-- all but p is as it was -/
def Kp (p : Addr) (H H' : Hp) : Prop := ∀ b o, H b = some o → b ≠ p → H' b = some o
theorem Kp.refl {p : Addr} {H : Hp} : Kp p H H := fun _ _ e _ => e
theorem Kp.of {p : Addr} {H H' : Hp} (s : Same H H') : Kp p H H' := fun b o e _ => s b o e
theorem Kp.trans {p : Addr} {H H1 H2 : Hp} (a : Kp p H H1) (b : Kp p H1 H2) : Kp p H H2 := fun c o e n => b c o (a c o e n) n
theorem Kp.upd {p : Addr} {H : Hp} {o : HO} : Kp p H (upd H p o) := fun b u e n => by rw [upd_ne n]; exact e
theorem same_new {H : Hp} {p : Addr} {o : HO} (h : H p = none) : Same H (upd H p o) := fun b x e => by
  rw [upd_ne (ne_of_none e h)]
  exact e
theorem Same.tup {K : PySem.W.Frag} {H H' : Hp} {a : Addr} {xs : List V} (e : Same H H') (h : SqT K H a xs) : SqT K H' a xs := by
  rcases h with (h | ⟨o, h⟩) | h
  · exact .inl (.inl (e _ _ h))
  · exact .inl (.inr ⟨o, e _ _ h⟩)
  · exact .inr h
/-- all tuples are as they were -/
def Tps (H H' : Hp) : Prop := ∀ a, (∀ xs, H a = some (.tup xs) → H' a = some (.tup xs)) ∧ ∀ o xs, H a = some (.frz o (.tup xs)) → H' a = some (.frz o (.tup xs))
theorem Tps.sq {K : PySem.W.Frag} {H H' : Hp} {a : Addr} {xs : List V} (e : Tps H H') (h : SqT K H a xs) : SqT K H' a xs := by
  rcases h with (h | ⟨o, h⟩) | h
  · exact .inl (.inl ((e a).1 _ h))
  · exact .inl (.inr ⟨o, (e a).2 _ _ h⟩)
  · exact .inr h
theorem Tps.refl {H : Hp} : Tps H H := fun _ => ⟨fun _ h => h, fun _ _ h => h⟩
theorem Tps.trans {H H1 H2 : Hp} (a : Tps H H1) (b : Tps H1 H2) : Tps H H2 := fun c => ⟨fun xs h => (b c).1 xs ((a c).1 xs h), fun o xs h => (b c).2 o xs ((a c).2 o xs h)⟩
theorem Tps.of {H H' : Hp} (s : Same H H') : Tps H H' := fun a => ⟨fun xs h => s _ _ h, fun o xs h => s _ _ h⟩
theorem Kp.tps {p : Addr} {H H' : Hp} (k : Kp p H H') {xs : List V} (h : H p = some (.lst xs)) : Tps H H' := fun a => ⟨fun ys e => k _ _ e (ne_of e h (by intro z; cases z)), fun o ys e => k _ _ e (ne_of e h (by intro z; cases z))⟩
theorem Kp.seq {K : PySem.W.Frag} {p b : Addr} {H H' : Hp} {xs : List V} (k : Kp p H H') (h : SqL K H b xs) (n : b ≠ p) : SqL K H' b xs := by
  rcases h with (h | ⟨o, h⟩) | h
  · exact .inl (.inl (k _ _ h n))
  · exact .inl (.inr ⟨o, k _ _ h n⟩)
  · exact .inr h
/-! ### data -/
def Shp (n : Nat) (d : PyData) : Prop := d.canLay0 = true ∧ d.depth ≤ n
theorem Shp.shaped {n : Nat} {d : PyData} (h : Shp n d) (hn : n ≤ 64) : SeqAt.shaped d = true := by
  unfold SeqAt.shaped
  rw [h.1, decide_eq_true (Nat.le_trans h.2 hn)]
  rfl
theorem Shp.eqv {n : Nat} {d : PyData} (h : Shp n d) : PyData.eqv d d = true := SeqAt.eqv_refl d h.1
theorem Shp.int (i : Int) : Shp 0 (.int i) := ⟨by simp [PyData.canLay0], by simp [PyData.depth]⟩
theorem Shp.non : Shp 0 .none := ⟨by simp [PyData.canLay0], by simp [PyData.depth]⟩
theorem Shp.bool (b : Bool) : Shp 0 (.bool b) := ⟨by simp [PyData.canLay0], by simp [PyData.depth]⟩
theorem Shp.mono {n m : Nat} {d : PyData} (h : Shp n d) (hm : n ≤ m) : Shp m d := ⟨h.1, Nat.le_trans h.2 hm⟩
theorem shpAll {n : Nat} : ∀ {ds : List PyData}, (∀ d ∈ ds, Shp n d) → PyData.canLayAll0 ds = true ∧ PyData.depthAll ds ≤ n
  | [], _ => ⟨by simp [PyData.canLayAll0], by simp [PyData.depthAll]⟩
  | d :: ds, h => by
    have h1 := h d List.mem_cons_self
    have h2 := shpAll (ds := ds) fun x hx => h x (List.mem_cons_of_mem _ hx)
    refine ⟨by rw [PyData.canLayAll0, h1.1, h2.1]; rfl, ?_⟩
    rw [PyData.depthAll]
    exact Nat.max_le.mpr ⟨h1.2, h2.2⟩
theorem Shp.tup {n : Nat} {ds : List PyData} (h : ∀ d ∈ ds, Shp n d) : Shp (n + 1) (.tuple ds) := by
  have := shpAll h
  exact ⟨by rw [PyData.canLay0]; exact this.1, by rw [PyData.depth]; omega⟩
theorem Shp.lst {n : Nat} {ds : List PyData} (h : ∀ d ∈ ds, Shp n d) : Shp (n + 1) (.list ds) := by
  have := shpAll h
  exact ⟨by rw [PyData.canLay0]; exact this.1, by rw [PyData.depth]; omega⟩
theorem dpAll_of {K : PySem.W.Frag} {H : Hp} : ∀ {xs : List V} {ds : List PyData}, xs.length = ds.length → (∀ (i : Nat) x d, xs[i]? = some x → ds[i]? = some d → Dp K H x d) → DpAll K H xs ds
  | [], [], _, _ => .nil
  | x :: xs, d :: ds, hl, h => .cons (h 0 x d rfl rfl) (dpAll_of (by simpa using hl) fun i y e h1 h2 => h (i + 1) y e (by simpa using h1) (by simpa using h2))
theorem dp_ints {K : PySem.W.Frag} {H : Hp} {a : Addr} {ns : List Int} (h : SqT K H a (ns.map V.int)) : Dp K H (.ref a) (.tuple (ns.map PyData.int)) := by
  refine .tup h (dpAll_of (by simp) fun i x d h1 h2 => ?_)
  rw [List.getElem?_map] at h1 h2
  cases e : ns[i]? with
  | none => rw [e] at h1; cases h1
  | some z =>
    rw [e] at h1 h2
    cases h1
    cases h2
    exact .int z
/-! ### slices of tuples -/
section
variable {prog : Program} {w : World} {A : Around} {E : Value → Shared → Prop} {s : Shared}
theorem tup_whole {t sl : Addr} {items : Array Value} {vl vu : Value} {lo hi : Option Int} {Q : Value → Shared → Prop} (ht : IsTup s.heap t items) (hs : s.heap.IsSliceOf sl vl vu .none) (pl : IsPart vl lo) (pu : IsPart vu hi)
    (h0 : HT.sIx items.size 0 lo = 0) (h1 : HT.sIx items.size items.size hi = items.size) (h : Q (.ref t) s) : wpAny (model prog w) A (getItem (.ref t) (.ref sl)) Q E s := by
  have hTs : s.TypeIs (.ref sl) "slice" := by
    obtain ⟨os, hos, hcs, _⟩ := id hs
    exact ⟨os, hos, hcs⟩
  unfold getItem
  try with_reducible refine wpAny_holding ?_
  first | refine wpAny_bind (wpAny_pure ?_) | skip
  refine wpAny_bind (wpAny_sequenceKey ht.typeIs (by decide) (wpAny_bind (wpAny_callSpecial?_slot (name := Str.ofString "__getitem__") ht.typeIs PyProof.Rows.slot_tuple_getitem (wpAny_call_entry PyProof.Rows.slot_tuple_getitem ht.typeIs entry_tuple_getitem ?_ (args_tuple_getitem _ _)))))
  show wpAny _ _ (Builtin.Tuple.tupleItemsOf (.ref t) >>= _) _ _ s
  refine wpAny_bind (tupleItemsOf_ ht (wpAny_bind (wpAny_typeOf hTs ?_)))
  rw [if_pos (by decide)]
  refine wpAny_bind (HT.sliceApplied_gen hs pl pu ?_)
  show wpAny _ _ (if (((HT.sIx items.size 0 lo : Nat) : Int) == 0 && (1 : Int) == 1 && (HT.sIx items.size items.size hi - HT.sIx items.size 0 lo) == items.size) = true then _ else _) _ _ s
  rw [h0, h1, if_pos (by simp)]
  unfold Builtin.Tuple.tupleIsExact
  refine wpAny_bind (wpAny_bind (wpAny_typeOf ht.typeIs (wpAny_pure ?_)))
  rw [if_pos (by decide)]
  first
    | exact wpAny_bind (wpAny_rule (wpAny_pure ⟨_, rfl, wpAny_pure h⟩))
    | exact wpAny_bind (wpAny_rule (wpAny_bind (wpAny_pure (wpAny_pure ⟨_, rfl, wpAny_pure h⟩))))
end
section
variable {X : Cx}
/-- t[lo:hi], the whole of it too (that is t itself) -/
def rSlQ (K : PySem.W.Frag) : V → Option Int → Option Int → Hp → VK → Prop := fun x lo hi H Q => ∃ a xs, x = .ref a ∧ SqT K H a xs ∧
  (cutV xs lo hi = xs → Q (.ref a) H) ∧ ∀ p, H p = none → Q (.ref p) (upd H p (.tup (cutV xs lo hi)))
theorem sl_tupQ : SlR X (rSlQ X.K) := by
  intro pins s σ H x v vl vu lo hi sl Q I rx hs pl pu h
  obtain ⟨a, xs, e, hx, q0, q1⟩ := h
  by_cases hw : HT.sIx xs.length 0 lo = 0 ∧ HT.sIx xs.length xs.length hi = xs.length
  · subst e
    cases rx
    obtain ⟨its, r, ht, hz⟩ := I.tuple hx
    have hlen : its.toArray.size = xs.length := by rw [List.size_toArray]; exact r.length.symm
    refine ⟨"tuple", _, PyProof.Rows.slot_tuple_getitem.lookup, ht.typeIs, ?_⟩
    refine tup_whole ht hs pl pu (by rw [hlen]; exact hw.1) (by rw [hlen]; exact hw.2) ⟨.ref a, H, I, rfl, q0 ?_⟩
    unfold cutV
    rw [hw.1, hw.2]
    simp
  · exact sl_tup pins s σ H x v vl vu lo hi sl Q I rx hs pl pu ⟨a, xs, e, hx, hw, q1⟩
end
/-! ### loops -/
section
variable {K : PySem.W.Frag} {a : Addr} {xs : List V} {g : TG} {tb : TS} {σ : L2.St} {H : Hp} {nx : L2.St → Hp → Prop} {rt : VK}
theorem f_list (Pv : Nat → L2.St → Hp → Prop) (h0 : Pv 0 σ H) (hl : ∀ i σ H, i ≤ xs.length → Pv i σ H → SqL K H a xs)
    (hs : ∀ i x σ H, xs[i]? = some x → Pv i σ H → g x σ H fun σ2 H2 => tb ⟨Pv (i + 1), rt, nx, Pv (i + 1)⟩ σ2 H2) (hd : ∀ σ H, Pv xs.length σ H → nx σ H) :
    ∃ W : Nat → Nat → L2.St → Hp → Prop, (∃ m, W 0 m σ H) ∧ ∀ i m σ H, W i m σ H →
      ((Itl K a).stop i H ∧ nx σ H) ∨ ((Itl K a).go i H ∧ ∃ N : L2.St → Hp → Prop, (∀ σ' H', N σ' H' → ∃ m', m' < m ∧ W (i + 1) m' σ' H') ∧ ∀ x H', (Itl K a).yld i H x H' → g x σ H' fun σ2 H2 => tb ⟨N, rt, nx, N⟩ σ2 H2) :=
  for_list (D := ⟨nx, rt, fun _ _ => False, fun _ _ => False⟩) Pv h0 hl hs hd
theorem f_tup (Pv : Nat → L2.St → Hp → Prop) (h0 : Pv 0 σ H) (hl : ∀ i σ H, i ≤ xs.length → Pv i σ H → SqT K H a xs)
    (hs : ∀ i x σ H, xs[i]? = some x → Pv i σ H → g x σ H fun σ2 H2 => tb ⟨Pv (i + 1), rt, nx, Pv (i + 1)⟩ σ2 H2) (hd : ∀ σ H, Pv xs.length σ H → nx σ H) :
    ∃ W : Nat → Nat → L2.St → Hp → Prop, (∃ m, W 0 m σ H) ∧ ∀ i m σ H, W i m σ H →
      ((Itt K a).stop i H ∧ nx σ H) ∨ ((Itt K a).go i H ∧ ∃ N : L2.St → Hp → Prop, (∀ σ' H', N σ' H' → ∃ m', m' < m ∧ W (i + 1) m' σ' H') ∧ ∀ x H', (Itt K a).yld i H x H' → g x σ H' fun σ2 H2 => tb ⟨N, rt, nx, N⟩ σ2 H2) :=
  for_tup (D := ⟨nx, rt, fun _ _ => False, fun _ _ => False⟩) Pv h0 hl hs hd
theorem f_range {lo : Int} {n : Nat} (Pv : Nat → L2.St → Hp → Prop) (h0 : Pv 0 σ H)
    (hs : ∀ i σ H, i < n → Pv i σ H → g (.int (lo + i)) σ H fun σ2 H2 => tb ⟨Pv (i + 1), rt, nx, Pv (i + 1)⟩ σ2 H2) (hd : ∀ σ H, Pv n σ H → nx σ H) :
    ∃ W : Nat → Nat → L2.St → Hp → Prop, (∃ m, W 0 m σ H) ∧ ∀ i m σ H, W i m σ H →
      ((Itr lo n).stop i H ∧ nx σ H) ∨ ((Itr lo n).go i H ∧ ∃ N : L2.St → Hp → Prop, (∀ σ' H', N σ' H' → ∃ m', m' < m ∧ W (i + 1) m' σ' H') ∧ ∀ x H', (Itr lo n).yld i H x H' → g x σ H' fun σ2 H2 => tb ⟨N, rt, nx, N⟩ σ2 H2) :=
  for_range (D := ⟨nx, rt, fun _ _ => False, fun _ _ => False⟩) Pv h0 hs hd
theorem f_rangeC {lo c : Int} {n : Nat} (Pv : Nat → L2.St → Hp → Prop) (h0 : Pv 0 σ H)
    (hs : ∀ i σ H, i < n → Pv i σ H → g (.int (lo + (i : Nat) * c)) σ H fun σ2 H2 => tb ⟨Pv (i + 1), rt, nx, Pv (i + 1)⟩ σ2 H2) (hd : ∀ σ H, Pv n σ H → nx σ H) :
    ∃ W : Nat → Nat → L2.St → Hp → Prop, (∃ m, W 0 m σ H) ∧ ∀ i m σ H, W i m σ H →
      ((Itc lo c n).stop i H ∧ nx σ H) ∨ ((Itc lo c n).go i H ∧ ∃ N : L2.St → Hp → Prop, (∀ σ' H', N σ' H' → ∃ m', m' < m ∧ W (i + 1) m' σ' H') ∧ ∀ x H', (Itc lo c n).yld i H x H' → g x σ H' fun σ2 H2 => tb ⟨N, rt, nx, N⟩ σ2 H2) :=
  for_rangeC (D := ⟨nx, rt, fun _ _ => False, fun _ _ => False⟩) Pv h0 hs hd
theorem i_rng3 {ta : TA} {R : It → Hp → Prop} (h : ta σ H fun vs H1 => ∃ (i j c : Int) (n : Nat), vs = [.int i, .int j, .int c] ∧ RgC i j c n ∧ R (Itc i c n) H1) : iRng3 ta σ H R := h
variable {tt : TT} {te : TE} {ws : List Nat} {D : Addr} {Qd : Hp → Prop} {σ' : L2.St}
theorem l_list (Pv : Nat → Hp → Prop) (h0 : Pv 0 (upd H D (.lst []))) (hl : ∀ i H, i ≤ xs.length → Pv i H → SqL K H a xs)
    (hs : ∀ i x H, xs[i]? = some x → Pv i H → g x σ' H fun σ2 H2 => wipe σ2 ws = σ' ∧ tt σ2 H2 fun b H3 =>
      if b = true then te σ2 H3 fun y H4 => ∃ acc, H4 D = some (.lst acc) ∧ acc.length < sizeLine ∧ Pv (i + 1) (upd H4 D (.lst (acc ++ [y]))) else Pv (i + 1) H3) (hd : ∀ H, Pv xs.length H → Qd H) (e : wipe σ' ws = σ' := by rfl) :
    ∃ W : Nat → Nat → Hp → Prop, (∃ m, W 0 m (upd H D (.lst []))) ∧ ∀ i m H, W i m H →
      ((Itl K a).stop i H ∧ Qd H) ∨ ((Itl K a).go i H ∧ ∃ Nx : Hp → Prop, (∀ H', Nx H' → ∃ m', m' < m ∧ W (i + 1) m' H') ∧ ∀ x H', (Itl K a).yld i H x H' → g x σ' H' fun σ2 H2 => wipe σ2 ws = σ' ∧ tt σ2 H2 fun b H3 =>
        if b = true then te σ2 H3 fun y H4 => ∃ acc, H4 D = some (.lst acc) ∧ acc.length < sizeLine ∧ Nx (upd H4 D (.lst (acc ++ [y]))) else Nx H3) := by
  have h := lc_list (K := K) (a := a) (xs := xs) (g := g) (tt := tt) (te := te) (vs := ws) (σ := σ') (H1 := H) (D := D) (Qd := Qd) Pv h0 hl (by rw [e]; exact hs) hd
  rw [e] at h
  exact h
theorem l_tup (Pv : Nat → Hp → Prop) (h0 : Pv 0 (upd H D (.lst []))) (hl : ∀ i H, i ≤ xs.length → Pv i H → SqT K H a xs)
    (hs : ∀ i x H, xs[i]? = some x → Pv i H → g x σ' H fun σ2 H2 => wipe σ2 ws = σ' ∧ tt σ2 H2 fun b H3 =>
      if b = true then te σ2 H3 fun y H4 => ∃ acc, H4 D = some (.lst acc) ∧ acc.length < sizeLine ∧ Pv (i + 1) (upd H4 D (.lst (acc ++ [y]))) else Pv (i + 1) H3) (hd : ∀ H, Pv xs.length H → Qd H) (e : wipe σ' ws = σ' := by rfl) :
    ∃ W : Nat → Nat → Hp → Prop, (∃ m, W 0 m (upd H D (.lst []))) ∧ ∀ i m H, W i m H →
      ((Itt K a).stop i H ∧ Qd H) ∨ ((Itt K a).go i H ∧ ∃ Nx : Hp → Prop, (∀ H', Nx H' → ∃ m', m' < m ∧ W (i + 1) m' H') ∧ ∀ x H', (Itt K a).yld i H x H' → g x σ' H' fun σ2 H2 => wipe σ2 ws = σ' ∧ tt σ2 H2 fun b H3 =>
        if b = true then te σ2 H3 fun y H4 => ∃ acc, H4 D = some (.lst acc) ∧ acc.length < sizeLine ∧ Nx (upd H4 D (.lst (acc ++ [y]))) else Nx H3) := by
  have h := lc_tup (K := K) (a := a) (xs := xs) (g := g) (tt := tt) (te := te) (vs := ws) (σ := σ') (H1 := H) (D := D) (Qd := Qd) Pv h0 hl (by rw [e]; exact hs) hd
  rw [e] at h
  exact h
theorem l_range {lo : Int} {n : Nat} (Pv : Nat → Hp → Prop) (h0 : Pv 0 (upd H D (.lst [])))
    (hs : ∀ i H, i < n → Pv i H → g (.int (lo + i)) σ' H fun σ2 H2 => wipe σ2 ws = σ' ∧ tt σ2 H2 fun b H3 =>
      if b = true then te σ2 H3 fun y H4 => ∃ acc, H4 D = some (.lst acc) ∧ acc.length < sizeLine ∧ Pv (i + 1) (upd H4 D (.lst (acc ++ [y]))) else Pv (i + 1) H3) (hd : ∀ H, Pv n H → Qd H) (e : wipe σ' ws = σ' := by rfl) :
    ∃ W : Nat → Nat → Hp → Prop, (∃ m, W 0 m (upd H D (.lst []))) ∧ ∀ i m H, W i m H →
      ((Itr lo n).stop i H ∧ Qd H) ∨ ((Itr lo n).go i H ∧ ∃ Nx : Hp → Prop, (∀ H', Nx H' → ∃ m', m' < m ∧ W (i + 1) m' H') ∧ ∀ x H', (Itr lo n).yld i H x H' → g x σ' H' fun σ2 H2 => wipe σ2 ws = σ' ∧ tt σ2 H2 fun b H3 =>
        if b = true then te σ2 H3 fun y H4 => ∃ acc, H4 D = some (.lst acc) ∧ acc.length < sizeLine ∧ Nx (upd H4 D (.lst (acc ++ [y]))) else Nx H3) := by
  have h := lc_range (lo := lo) (n := n) (g := g) (tt := tt) (te := te) (vs := ws) (σ := σ') (H1 := H) (D := D) (Qd := Qd) Pv h0 (by rw [e]; exact hs) hd
  rw [e] at h
  exact h
/-! a comprehension whose elements lay nothing -/
theorem l_rangeP {lo : Int} {n : Nat} (f : Nat → V) (hD : H D = none) (hn : n ≤ 1000000)
    (hs : ∀ i H' (R : VK), i < n → Same H H' → R (f i) H' → g (.int (lo + i)) σ' H' fun σ2 H2 => wipe σ2 ws = σ' ∧ tt σ2 H2 fun b H3 => if b = true then te σ2 H3 R else False)
    (hd : ∀ H', Same H H' → H' D = some (.lst ((List.range n).map f)) → Qd H') (e : wipe σ' ws = σ' := by rfl)
    (htt : ∀ (σ2 : L2.St) (H2 : Hp) (A : Hp → Prop) (B : Hp → Prop), (tt σ2 H2 fun b H3 => if b = true then A H3 else False) → tt σ2 H2 fun b H3 => if b = true then A H3 else B H3 := by intro _ _ _ _ h; exact h) (hg : ∀ x (σ2 : L2.St) (H2 : Hp) (A B : L2.St → Hp → Prop), (∀ s h, A s h → B s h) → g x σ2 H2 A → g x σ2 H2 B := by intro _ _ _ _ _ h q; exact h _ _ q) :
    ∃ W : Nat → Nat → Hp → Prop, (∃ m, W 0 m (upd H D (.lst []))) ∧ ∀ i m H, W i m H →
      ((Itr lo n).stop i H ∧ Qd H) ∨ ((Itr lo n).go i H ∧ ∃ Nx : Hp → Prop, (∀ H', Nx H' → ∃ m', m' < m ∧ W (i + 1) m' H') ∧ ∀ x H', (Itr lo n).yld i H x H' → g x σ' H' fun σ2 H2 => wipe σ2 ws = σ' ∧ tt σ2 H2 fun b H3 =>
        if b = true then te σ2 H3 fun y H4 => ∃ acc, H4 D = some (.lst acc) ∧ acc.length < sizeLine ∧ Nx (upd H4 D (.lst (acc ++ [y]))) else Nx H3) := by
  refine l_range (fun i H' => Same H H' ∧ H' D = some (.lst ((List.range i).map f))) ⟨same_new hD, upd_same⟩ (fun i H' hi h => ?_) (fun H' h => hd H' h.1 h.2) e
  obtain ⟨s, hD'⟩ := h
  refine hg _ _ _ _ _ (fun σ2 H2 q => ⟨q.1, htt _ _ _ _ q.2⟩) (hs i H' _ hi s ⟨_, hD', ?_, fun b o hb => ?_, ?_⟩)
  · rw [List.length_map, List.length_range, sizeLine_eq]; omega
  · rw [upd_ne (ne_of_none hb hD)]; exact s _ _ hb
  · rw [upd_same, List.range_succ, List.map_append] <;> rfl
theorem l_listP (f : Nat → V) (hD : H D = none) (hn : xs.length ≤ 1000000) (hx : SqL K H a xs)
    (hs : ∀ i x H' (R : VK), xs[i]? = some x → Same H H' → R (f i) H' → g x σ' H' fun σ2 H2 => wipe σ2 ws = σ' ∧ tt σ2 H2 fun b H3 => if b = true then te σ2 H3 R else False)
    (hd : ∀ H', Same H H' → H' D = some (.lst ((List.range xs.length).map f)) → Qd H') (e : wipe σ' ws = σ' := by rfl)
    (htt : ∀ (σ2 : L2.St) (H2 : Hp) (A : Hp → Prop) (B : Hp → Prop), (tt σ2 H2 fun b H3 => if b = true then A H3 else False) → tt σ2 H2 fun b H3 => if b = true then A H3 else B H3 := by intro _ _ _ _ h; exact h) (hg : ∀ x (σ2 : L2.St) (H2 : Hp) (A B : L2.St → Hp → Prop), (∀ s h, A s h → B s h) → g x σ2 H2 A → g x σ2 H2 B := by intro _ _ _ _ _ h q; exact h _ _ q) :
    ∃ W : Nat → Nat → Hp → Prop, (∃ m, W 0 m (upd H D (.lst []))) ∧ ∀ i m H, W i m H →
      ((Itl K a).stop i H ∧ Qd H) ∨ ((Itl K a).go i H ∧ ∃ Nx : Hp → Prop, (∀ H', Nx H' → ∃ m', m' < m ∧ W (i + 1) m' H') ∧ ∀ x H', (Itl K a).yld i H x H' → g x σ' H' fun σ2 H2 => wipe σ2 ws = σ' ∧ tt σ2 H2 fun b H3 =>
        if b = true then te σ2 H3 fun y H4 => ∃ acc, H4 D = some (.lst acc) ∧ acc.length < sizeLine ∧ Nx (upd H4 D (.lst (acc ++ [y]))) else Nx H3) := by
  refine l_list (xs := xs) (fun i H' => Same H H' ∧ H' D = some (.lst ((List.range i).map f))) ⟨same_new hD, upd_same⟩ (fun i H' _ h => Same.seq h.1 hx) (fun i x H' hi h => ?_) (fun H' h => hd H' h.1 h.2) e
  obtain ⟨s, hD'⟩ := h
  have hlt := (List.getElem?_eq_some_iff.mp hi).1
  refine hg _ _ _ _ _ (fun σ2 H2 q => ⟨q.1, htt _ _ _ _ q.2⟩) (hs i x H' _ hi s ⟨_, hD', ?_, fun b o hb => ?_, ?_⟩)
  · rw [List.length_map, List.length_range, sizeLine_eq]; omega
  · rw [upd_ne (ne_of_none hb hD)]; exact s _ _ hb
  · rw [upd_same, List.range_succ, List.map_append] <;> rfl
theorem l_tupP (f : Nat → V) (hD : H D = none) (hn : xs.length ≤ 1000000) (hx : SqT K H a xs)
    (hs : ∀ i x H' (R : VK), xs[i]? = some x → Same H H' → R (f i) H' → g x σ' H' fun σ2 H2 => wipe σ2 ws = σ' ∧ tt σ2 H2 fun b H3 => if b = true then te σ2 H3 R else False)
    (hd : ∀ H', Same H H' → H' D = some (.lst ((List.range xs.length).map f)) → Qd H') (e : wipe σ' ws = σ' := by rfl)
    (htt : ∀ (σ2 : L2.St) (H2 : Hp) (A : Hp → Prop) (B : Hp → Prop), (tt σ2 H2 fun b H3 => if b = true then A H3 else False) → tt σ2 H2 fun b H3 => if b = true then A H3 else B H3 := by intro _ _ _ _ h; exact h) (hg : ∀ x (σ2 : L2.St) (H2 : Hp) (A B : L2.St → Hp → Prop), (∀ s h, A s h → B s h) → g x σ2 H2 A → g x σ2 H2 B := by intro _ _ _ _ _ h q; exact h _ _ q) :
    ∃ W : Nat → Nat → Hp → Prop, (∃ m, W 0 m (upd H D (.lst []))) ∧ ∀ i m H, W i m H →
      ((Itt K a).stop i H ∧ Qd H) ∨ ((Itt K a).go i H ∧ ∃ Nx : Hp → Prop, (∀ H', Nx H' → ∃ m', m' < m ∧ W (i + 1) m' H') ∧ ∀ x H', (Itt K a).yld i H x H' → g x σ' H' fun σ2 H2 => wipe σ2 ws = σ' ∧ tt σ2 H2 fun b H3 =>
        if b = true then te σ2 H3 fun y H4 => ∃ acc, H4 D = some (.lst acc) ∧ acc.length < sizeLine ∧ Nx (upd H4 D (.lst (acc ++ [y]))) else Nx H3) := by
  refine l_tup (xs := xs) (fun i H' => Same H H' ∧ H' D = some (.lst ((List.range i).map f))) ⟨same_new hD, upd_same⟩ (fun i H' _ h => Same.tup h.1 hx) (fun i x H' hi h => ?_) (fun H' h => hd H' h.1 h.2) e
  obtain ⟨s, hD'⟩ := h
  have hlt := (List.getElem?_eq_some_iff.mp hi).1
  refine hg _ _ _ _ _ (fun σ2 H2 q => ⟨q.1, htt _ _ _ _ q.2⟩) (hs i x H' _ hi s ⟨_, hD', ?_, fun b o hb => ?_, ?_⟩)
  · rw [List.length_map, List.length_range, sizeLine_eq]; omega
  · rw [upd_ne (ne_of_none hb hD)]; exact s _ _ hb
  · rw [upd_same, List.range_succ, List.map_append] <;> rfl
end
theorem i_yes {σ : L2.St} {H : Hp} {Q : Bool → Hp → Prop} (q : Q true H) : tYes σ H Q := q
/-! ### ifs -/
theorem c_dec {P A B : Prop} [Decidable P] (h1 : P → A) (h2 : ¬ P → B) : if decide P = true then A else B := by
  by_cases h : P
  · rw [if_pos (decide_eq_true h)]; exact h1 h
  · rw [if_neg (by rw [decide_eq_false h]; exact Bool.false_ne_true)]; exact h2 h
theorem c_decN {P A B : Prop} [Decidable P] (h1 : ¬ P → A) (h2 : P → B) : if (!decide P) = true then A else B := by
  by_cases h : P
  · rw [if_neg (by rw [decide_eq_true h]; exact Bool.false_ne_true)]; exact h2 h
  · rw [if_pos (by rw [decide_eq_false h]; rfl)]; exact h1 h
theorem c_nt {A B : Prop} (h : B) : if (!true) = true then A else B := iteF h
theorem c_nf {A B : Prop} (h : A) : if (!false) = true then A else B := iteT h
theorem c_bool {b : Bool} {A B : Prop} (h1 : b = true → A) (h2 : b = false → B) : if b = true then A else B := by
  cases b
  · exact iteF (h2 rfl)
  · exact iteT (h1 rfl)
theorem c_yes {P A B : Prop} [Decidable P] (h : P) (h1 : A) : if decide P = true then A else B := by rw [if_pos (decide_eq_true h)]; exact h1
theorem c_no {P A B : Prop} [Decidable P] (h : ¬ P) (h1 : B) : if decide P = true then A else B := by rw [if_neg (by rw [decide_eq_false h]; exact Bool.false_ne_true)]; exact h1
theorem c_yesN {P A B : Prop} [Decidable P] (h : ¬ P) (h1 : A) : if (!decide P) = true then A else B := by rw [if_pos (by rw [decide_eq_false h]; rfl)]; exact h1
theorem c_noN {P A B : Prop} [Decidable P] (h : P) (h1 : B) : if (!decide P) = true then A else B := by rw [if_neg (by rw [decide_eq_true h]; exact Bool.false_ne_true)]; exact h1
section
variable {K : PySem.W.Frag} {σ : L2.St} {H : Hp} {Q : VK}
theorem i_slA {p : Addr} {xs : List V} {lo hi : Option Int} (h : SqT K H p xs) (q : ∀ (r : Addr) (H' : Hp), Same H H' → SqT K H' r (cutV xs lo hi) → Q (.ref r) H') : rSlQ K (.ref p) lo hi H Q :=
  ⟨p, xs, rfl, h, fun e => q p H (Same.refl H) (by rw [e]; exact h), fun r hr => q r _ (same_new hr) (SqT.of upd_same)⟩
theorem i_eqD {x y : V} {d e : PyData} {n m : Nat} (h1 : Dp K H x d) (h2 : Dp K H y e) (s1 : Shp n d) (s2 : Shp m e) (hn : n ≤ 64) (hm : m ≤ 64) (q : Q (.bl (PyData.eqv d e)) H) : rEqD K x y H Q := ⟨d, e, h1, h2, s1.shaped hn, s2.shaped hm, q⟩
theorem i_neD {x y : V} {d e : PyData} {n m : Nat} (h1 : Dp K H x d) (h2 : Dp K H y e) (s1 : Shp n d) (s2 : Shp m e) (hn : n ≤ 64) (hm : m ≤ 64) (q : Q (.bl (!PyData.eqv d e)) H) : rNeD K x y H Q := ⟨d, e, h1, h2, s1.shaped hn, s2.shaped hm, q⟩
/-- == and != of the same data -/
theorem i_eqS' {x y : V} {d : PyData} {n : Nat} (h1 : Dp K H x d) (h2 : Dp K H y d) (s1 : Shp n d) (hn : n ≤ 64) (q : Q (.bl true) H) : rEqD K x y H Q := i_eqD h1 h2 s1 s1 hn hn (by rw [s1.eqv]; exact q)
theorem i_neS' {x y : V} {d : PyData} {n : Nat} (h1 : Dp K H x d) (h2 : Dp K H y d) (s1 : Shp n d) (hn : n ≤ 64) (q : Q (.bl false) H) : rNeD K x y H Q := i_neD h1 h2 s1 s1 hn hn (by rw [s1.eqv]; exact q)
theorem i_while {c : TT} {tb : TS} {nx : L2.St → Hp → Prop} {rt : VK} {bk ct : L2.St → Hp → Prop} (W : Nat → L2.St → Hp → Prop) (h0 : ∃ m, W m σ H) (h : ∀ m σ H, W m σ H →
  c σ H fun b H1 => if b = true then ∃ N : L2.St → Hp → Prop, (∀ σ' H', N σ' H' → ∃ m', m' < m ∧ W m' σ' H') ∧ tb ⟨N, rt, nx, N⟩ σ H1 else nx σ H1) : tWhile c tb ⟨nx, rt, bk, ct⟩ σ H := ⟨W, h0, h⟩
theorem i_par {i j : Nat} {ta : TA} {nx : L2.St → Hp → Prop} {rt : VK} {bk ct : L2.St → Hp → Prop} (h : ta σ H fun vs H1 => ∃ v w, vs = [v, w] ∧ nx ((σ.set i (some v)).set j (some w)) H1) : tPar i j ta ⟨nx, rt, bk, ct⟩ σ H := h
theorem i_two {x y : V} {R : V → V → Prop} (q : R x y) : ∃ v w, [x, y] = [v, w] ∧ R v w := ⟨x, y, rfl, q⟩
theorem Dp.same {K : PySem.W.Frag} {H H' : Hp} (s : Same H H') : ∀ (d : PyData) (v : V), Dp K H v d → Dp K H' v d := by
  intro d v h
  exact Dp.rec (motive_1 := fun v d _ => Dp K H' v d) (motive_2 := fun vs ds _ => DpAll K H' vs ds) .non (fun b => .bl b) (fun i => .int i) (fun x => .str x) (fun h _ q => .lst (s.seq h) q) (fun h _ q => .tup (Same.tup s h) q) .nil (fun _ _ h1 h2 => .cons h1 h2) h
end
/-! ### a def that can be called -/
structure Df (K : PySem.W.Frag) (mg : Str → Option Value) (x : Str) (st : Stmt) (f : Addr) (fd : FuncData) (ps : List Str) : Prop where
  fn : Fun K x x st f fd
  mgf : mg x = some (.ref f)
  bi : Binds K fd ps []
/-- a def of the text by its promise: it lets no exception out -/
structure Cl (P : Program) (w : World) (K : PySem.W.Frag) (mg : Str → Option Value) (base : Heap) (k : Nat) (x : Str) (sp : Sp) : Prop where
  ex : ∃ (f : Addr) (fd : FuncData) (ps : List Str), FnOk P w K mg base CX0 k f fd ps sp ∧ mg x = some (.ref f) ∧ PySem.W.keepIn K (.ref f) = true ∧ Binds K fd ps []
section
variable {P : Program} {w : World} {K : PySem.W.Frag} {mg : Str → Option Value} {base : Heap}
theorem Df.ok {x : Str} {st : Stmt} {f : Addr} {fd : FuncData} {ps N : List Str} {k : Nat} {sp : Sp} (F : Df K mg x st f fd ps) (S : FnScope N ps (defScope st)) (len : ∀ vs H Q E, sp vs H Q E → vs.length = ps.length)
    (hbody : ∀ (cdv : Value) (A : Around) (outer : List Env) (s : Shared) (H : Hp) (vs : List V) (Q : VK) (E : XK), Room k (A.deeper (envOfC x (defScope st) s.heap.objs.size f cdv)) → sp vs H Q E →
      ∃ t, PSs (cxOf CX0 P w K mg base N x (defScope st) f cdv A outer s H E).nox (defBody st) t ∧ t { nx := fun _ H' => Q .non H', rt := Q } (start N vs) H) : FnOk P w K mg base CX0 (k + 1) f fd ps sp :=
  F.fn.ok S len hbody
theorem Df.cl {x : Str} {st : Stmt} {f : Addr} {fd : FuncData} {ps : List Str} {k : Nat} {sp : Sp} (F : Df K mg x st f fd ps) (o : FnOk P w K mg base CX0 k f fd ps sp) : Cl P w K mg base k x sp :=
  ⟨f, fd, ps, o, F.mgf, F.fn.kp, F.bi⟩
variable {X : Cx}
theorem pe_cl {x : Str} {sp : Sp} {j k : Nat} {e : Expr} {es : List Expr} {t : TA} {p pos : Pos} (c : Cl X.prog X.w X.K X.mg X.base k x sp) (hr : Room j X.A) (hk : k ≤ j) (hg : Gl X x) (ha : PA X (e :: es) t)
    (hdb : (x == ("__debug__" : Str)) = false := by decide) (he : starEach (e :: es) X.env = (false, eval e X.env) :: starEach es X.env := by rfl) (hpl : (backTo pos (starEach es X.env)).any (·.1) = false := by rfl) :
    PE X (.Call (.Name x p) (e :: es) [] pos) (tCall sp [] E0 t) := by
  obtain ⟨f, fd, ps, F, hm, kp, b⟩ := c.ex
  exact pe_call F (hr.mono hk) hg hm kp b .nil pass0 ha hdb he hpl
theorem pe_cl0 {x : Str} {sp : Sp} {j k : Nat} {p pos : Pos} (c : Cl X.prog X.w X.K X.mg X.base k x sp) (hr : Room j X.A) (hk : k ≤ j) (hg : Gl X x) (hdb : (x == ("__debug__" : Str)) = false := by decide) :
    PE X (.Call (.Name x p) [] [] pos) (tCall sp [] E0 tNil) := by
  obtain ⟨f, fd, ps, F, hm, kp, b⟩ := c.ex
  exact pe_call0 F (hr.mono hk) hg hm kp b .nil pass0 hdb
/-- a constant of the module's top -/
def Cn (mg : Str → Option Value) (x : Str) (v : V) : Prop := ∃ u, mg x = some u ∧ RelV v u
theorem pe_cn {x : Str} {v : V} {pos : Pos} (hg : Gl X x) (h : Cn X.mg x v) (hd : (x == ("__debug__" : Str)) = false := by decide) : PE X (.Name x pos) (tC v) := by
  obtain ⟨u, hm, r⟩ := h
  exact pe_glob hg hm r hd
section
variable {K : PySem.W.Frag} {T : String} {name : Str} {id : String} {r : V → List V → Hp → VK → Prop} {o e : Expr} {es : List Expr} {apos cpos pos : Pos} {to ta : TE} {t : TA}
theorem pe_bm0K (hK : X.K = K) (pa : PlainAttrs T) (slot : Slot T name id) (hty : typeOf (.builtin id) = pure (.type "method_descriptor")) (hm : MtR X id r) (ho : PE X o to)
    (hbase : attributeBase o name X.env (eval o X.env) = eval o X.env := by rfl) (hline : (apos.endLine == cpos.line) = true := by rfl) : PE X (.Call (.Attribute o name apos) [] [] cpos) (tBM0 K T r to) := by
  subst hK; exact pe_bm0 pa slot hty hm ho hbase hline
theorem pe_bmK (hK : X.K = K) (pa : PlainAttrs T) (slot : Slot T name id) (hty : typeOf (.builtin id) = pure (.type "method_descriptor")) (hm : MtR X id r) (ho : PE X o to) (ha : PA X (e :: es) t)
    (hbase : attributeBase o name X.env (eval o X.env) = eval o X.env := by rfl)
    (hfew : ((backTo cpos (starEach (e :: es) X.env)).all (fun x => !x.1) && (backToKw cpos (keywordEach [] X.env)).all (fun x => x.1.isSome)
      && decide ((e :: es).length + ([] : List Keyword).length + (if ([] : List Keyword).isEmpty then 0 else 1) < 30)) = true := by rfl)
    (hline : (apos.endLine == cpos.line) = true := by rfl) (hs : starEach (e :: es) X.env = (false, eval e X.env) :: starEach es X.env := by rfl) (hplain : (backTo cpos (starEach es X.env)).any (·.1) = false := by rfl) :
    PE X (.Call (.Attribute o name apos) (e :: es) [] cpos) (tBM K T r to t) := by
  subst hK; exact pe_bm pa slot hty hm ho ha hbase hfew hline hs hplain
theorem pe_fldK (hK : X.K = K) {f : Str} (he : PE X e ta) (hb : attributeBase e f X.env (eval e X.env) = eval e X.env) : PE X (.Attribute e f pos) (tFld K ta f) := by
  subst hK; exact pe_fld he hb
theorem pg_tupK (hK : X.K = K) {es : List Expr} {k : Nat} {t : TGs} {n : Nat} (hc : X.calm = true) (h : PGs X es t)
    (hn : (assignEach es X.env).length = n := by rfl) (hst : (assignEach es X.env).findIdx? (·.1) = none := by rfl) : PG X (.Tuple es k pos) (gTup K n t) := by
  subst hK; exact pg_tup hc h hn hst
end
theorem get_list : L2.PGet X (rIxL X.K) := by
  intro pins s σ H x y v u Q I rx ry h
  obtain ⟨p, xs, i, z, rfl, rfl, hq, he, q⟩ := h
  cases rx
  obtain ⟨t, rfl⟩ := ry
  obtain ⟨its, r, pl, hz⟩ := I.list hq
  obtain ⟨j, h1, h2, h3, h4, h5⟩ := atI_get he
  obtain ⟨w, ew, rw'⟩ := r.get h2
  have hl := r.length
  have hn := line63
  have fin : EP X pins σ Q w s := ⟨z, H, I, rw', q⟩
  by_cases h0 : 0 ≤ i
  · have hj : i.toNat = j := by
      rw [seqIndex_of h0 h5] at h1
      exact Option.some.inj h1
    exact wpAny_getItem_list pl.isList h0 (by omega) (by rw [hj]; simpa using ew) fin
  · have hj : (i + (its.toArray.size : Int)).toNat = j := by
      rw [seqIndex_neg (by omega) h4] at h1
      rw [List.size_toArray, ← hl]
      exact Option.some.inj h1
    exact wpAny_getItem_list_neg pl.isList (by omega) (by rw [List.size_toArray] <;> omega) (by omega) (by rw [hj]; simpa using ew) fin
end
theorem perm_erase {α : Type} : ∀ (l : List α) (i : Nat) (h : i < l.length), (l[i] :: l.eraseIdx i).Perm l
  | x :: r, 0, _ => List.Perm.refl _
  | x :: r, i + 1, h => (List.Perm.swap x (r[i]'(Nat.lt_of_succ_lt_succ h)) (r.eraseIdx i)).trans ((perm_erase r i (Nat.lt_of_succ_lt_succ h)).cons x)
theorem ints_at {ns : List Int} {i : Nat} {x : V} (h : (ns.map V.int)[i]? = some x) : ∃ z, x = .int z ∧ ns[i]? = some z ∧ ns.take (i + 1) = ns.take i ++ [z] ∧ i < ns.length := by
  rw [List.getElem?_map] at h
  cases e : ns[i]? with
  | none => rw [e] at h; cases h
  | some z =>
    rw [e] at h
    exact ⟨z, (Option.some.inj h).symm, rfl, by rw [List.take_add_one, e]; rfl, (List.getElem?_eq_some_iff.mp e).1⟩
theorem at_lt {α : Type} {xs : List α} {i : Int} (h0 : 0 ≤ i) (h : i < xs.length) : ∃ v, atI xs i = some v ∧ v ∈ xs ∧ xs[i.toNat]? = some v := by
  have hl : i.toNat < xs.length := by omega
  refine ⟨xs[i.toNat], ?_, List.getElem_mem hl, List.getElem?_eq_getElem hl⟩
  have := atI_nat (xs := xs) (j := i.toNat) (v := xs[i.toNat]) (List.getElem?_eq_getElem hl)
  rw [Int.toNat_of_nonneg h0] at this
  exact this
theorem ixN_of {n : Nat} {i : Int} (h0 : 0 ≤ i) (h : i < n) : ixN n i = some i.toNat := by
  unfold ixN
  rw [if_pos h0, if_pos h]
end Jp

namespace Law
open PySem PySem.Spec PyProof.Rows L2 Jp
/-! ### the walk's small steps -/
local macro_rules | `(tactic| wtm_at "jset") => `(tactic| (first | (simp only [wipe, List.map_cons, List.map_nil, List.set_cons_zero, List.set_cons_succ]; done) | (simp only [wipe, List.map_cons, List.map_nil, List.set_cons_zero, List.set_cons_succ]; exact rfl) | exact rfl))
local macro_rules | `(tactic| wtm_at "jw1") => `(tactic| first
  | ((with_reducible refine' i_var ?h ?_); (case h => exact rfl))
  | with_reducible refine' i_c ?_ | with_reducible refine' i_op ?_ | with_reducible refine' i_seq ?_ | with_reducible refine' i_asg ?_
  | ((with_reducible refine' i_gNameE ?e ?_); (case e => wtm_at "jset"))
  | with_reducible refine' i_ret ?_ | with_reducible refine' i_test ?_ | with_reducible refine' i_isb ?_
  | with_reducible refine' i_cons ?_ | with_reducible refine' i_nil ?_ | with_reducible refine' i_call ?_ | with_reducible refine' i_cb ?_
  | with_reducible refine' i_rI0 ?_ | ((with_reducible refine' i_rI ?c ?_); (case c => wtm_at "jside")) | with_reducible refine' i_rU ?_
  | with_reducible refine' i_eqI ?_ | with_reducible refine' i_neI ?_ | with_reducible refine' i_eqB ?_ | with_reducible refine' i_neB ?_ | with_reducible refine' i_eqS ?_ | with_reducible refine' i_neS ?_
  | with_reducible refine' i_isN ?_ | with_reducible refine' i_notN ?_
  | with_reducible refine' i_un ?_ | with_reducible refine' i_drop ?_ | with_reducible refine' i_retN ?_ | with_reducible refine' i_next ?_
  | ((with_reducible refine' i_ixL ?h ?e ?_); (case h => wtm_at "jsq"); (case e => wtm_at "jat"))
  | ((with_reducible refine' i_ixT ?h ?e ?_); (case h => wtm_at "jsq"); (case e => wtm_at "jat"))
  | ((with_reducible refine' i_ix1 (i_ixL ?h ?e ?_)); (case h => wtm_at "jsq"); (case e => wtm_at "jat"))
  | ((with_reducible refine' i_ix2 (i_ixT ?h ?e ?_)); (case h => wtm_at "jsq"); (case e => wtm_at "jat"))
  | with_reducible refine' i_gSub ?_
  | ((with_reducible refine' i_setL ?h ?e ?_); (case h => wtm_at "jhp"); (case e => wtm_at "jixn"))
  | ((with_reducible refine' i_gTup ?h ?e ?_); (case h => wtm_at "jsq"); (case e => rfl)) | with_reducible refine' i_gCons ?_ | with_reducible refine' i_gNil ?_
  | with_reducible refine' i_int ?_ | with_reducible refine' i_intB ?_ | with_reducible refine' i_abs ?_ | with_reducible refine' i_max2 ?_ | with_reducible refine' i_min2 ?_
  | ((with_reducible refine' i_lenL ?h ?_); (case h => wtm_at "jsq")) | ((with_reducible refine' i_lenT ?h ?_); (case h => wtm_at "jsq"))
  | ((with_reducible refine' i_tupL ?h ?_); (case h => wtm_at "jsq")) | ((with_reducible refine' i_lstL ?h ?_); (case h => wtm_at "jsq")) | ((with_reducible refine' i_lstT ?h ?_); (case h => wtm_at "jsq")) | ((with_reducible refine' i_tupT ?h ?_); (case h => wtm_at "jsq"))
  | ((with_reducible refine' i_new ?h ?_); (case h => wtm_at "jlen"))
  | with_reducible refine' i_tup ?_ | with_reducible refine' i_lst ?_ | with_reducible refine' i_if ?_ | with_reducible refine' i_andV ?_ | with_reducible refine' i_orV ?_ | with_reducible refine' i_notV ?_ | with_reducible refine' i_B ?_
  | with_reducible refine' i_and ?_ | with_reducible refine' i_or ?_ | with_reducible refine' i_not ?_ | with_reducible refine' i_break ?_ | with_reducible refine' i_cont ?_
  | ((with_reducible refine' i_augE ?h ?_); (case h => exact rfl)) | with_reducible refine' i_augS ?_ | with_reducible refine' i_ipI ?_
  | with_reducible refine' i_for ?_ | with_reducible refine' i_iList ?_ | with_reducible refine' i_iTup ?_ | ((with_reducible refine' i_isL ?h ?_); (case h => wtm_at "jsq")) | ((with_reducible refine' i_isT ?h ?_); (case h => wtm_at "jsq"))
  | with_reducible refine' i_rng1 ?_ | with_reducible refine' i_rng2 ?_
  | ((with_reducible refine' i_isR1 ?h1 ?h2 ?_); (case h1 => wtm_at "jside"); (case h2 => wtm_at "jside"))
  | ((with_reducible refine' i_isR2 ?h1 ?h2 ?h3 ?h4 ?_); (case h1 => wtm_at "jside"); (case h2 => wtm_at "jside"); (case h3 => wtm_at "jside"); (case h4 => wtm_at "jside"))
  | ((with_reducible refine' i_lc ?e ?_); (case e => wtm_at "jset"))
  | with_reducible refine' i_yes ?_ | with_reducible refine' i_sl ?_ | with_reducible refine' i_par ?_ | with_reducible refine' i_two ?_ | with_reducible refine' i_noPart ?_ | with_reducible refine' i_part ?_ | with_reducible refine' i_isI ?_
  | with_reducible refine' i_bm ?_ | with_reducible refine' i_bm0 ?_ | ((with_reducible refine' i_tyL ?h ?_); (case h => wtm_at "jsq"))
  | ((with_reducible refine' i_app ?h ?e ?_); (case h => wtm_at "jhp"); (case e => wtm_at "jsmall"))
  | with_reducible refine' i_chain ?_ | ((with_reducible refine' i_cat ?h1 ?h2 ?e ?_); (case h1 => wtm_at "jhp"); (case h2 => wtm_at "jhp"); (case e => wtm_at "jlen"))
  | with_reducible refine iteT ?_ | with_reducible refine iteF ?_ | with_reducible refine' c_nt ?_ | with_reducible refine' c_nf ?_)
local macro_rules | `(tactic| wtm_at "js") => `(tactic| repeat (wtm_at "jw1"))
local macro_rules | `(tactic| wtm_at "jw") => `(tactic| repeat (first | wtm_at "jw1" | with_reducible refine' i_ifS ?_))
local macro_rules | `(tactic| wtm_at "jlen") => `(tactic| first | decide | (simp [sizeLine]; done) | omega)
/- a condition of an operation -/
local macro_rules | `(tactic| wtm_at "jside") => `(tactic| first | with_reducible assumption | omega | decide | (simp only [List.length_map]; omega) | (refine Or.inl ?_; decide) | (refine Or.inr ?_; decide) | (refine ⟨?_, ?_⟩ <;> omega) | (refine Or.inl ?_; constructor <;> omega) | (refine Or.inr ?_; constructor <;> omega) | (refine ⟨by decide, by decide, by decide⟩) | (with_reducible refine wide_div ?_ (b := 64) ?_ ?_ ?_ <;> first | omega | decide))
/- H p = some o -/
local macro_rules | `(tactic| wtm_at "jhp") => `(tactic| first | assumption | with_reducible exact upd_same | ((with_reducible refine' Eq.trans (upd_ne ?hne) ?hgo); (case hne => wtm_at "jne"); (case hgo => wtm_at "jhp")))
local macro_rules | `(tactic| wtm_at "jne") => `(tactic| first | assumption | (refine Ne.symm ?_; assumption) | (refine ne_of_none (by assumption) (by assumption)) | (refine (ne_of_none (by assumption) (by assumption)).symm))
local macro_rules | `(tactic| wtm_at "jsq") => `(tactic| first | assumption | ((with_reducible refine' SqL.of ?hh); (case hh => wtm_at "jhp")) | ((with_reducible refine' SqT.of ?hh); (case hh => wtm_at "jhp")) | ((with_reducible refine' Same.seq (same_new ?hn) ?hh); (case hn => assumption); (case hh => wtm_at "jsq")) | ((with_reducible refine' Same.tup (same_new ?hn) ?hh); (case hn => assumption); (case hh => wtm_at "jsq")))
/- the item at a place -/
local macro_rules | `(tactic| wtm_at "jat") => `(tactic| first | exact rfl | assumption)
local macro_rules | `(tactic| wtm_at "jixn") => `(tactic| first | exact rfl | assumption)
local macro_rules | `(tactic| wtm_at "jsmall") => `(tactic| first | assumption | exact small1000 (by first | assumption | omega | (simp; done) | (simp; omega)))

def top (i : Nat) : Stmt := PySem.Challenge.pw_judgedplay_k19_operations.main.body.getD i (.Pass ⟨0, 0, 0, 0⟩)
abbrev s__law_begin : Stmt := top 13
abbrev N__law_begin : List Str := ["script", "cell"]
theorem sc__law_begin : FnScope N__law_begin ["script"] (defScope s__law_begin) := ⟨rfl, rfl, rfl, by decide +kernel, rfl, by decide +kernel, by decide +kernel⟩
abbrev s__law_is_int : Stmt := top 16
abbrev N__law_is_int : List Str := ["thing"]
theorem sc__law_is_int : FnScope N__law_is_int ["thing"] (defScope s__law_is_int) := ⟨rfl, rfl, rfl, by decide +kernel, rfl, by decide +kernel, by decide +kernel⟩
abbrev s__law_same : Stmt := top 25
abbrev N__law_same : List Str := ["told", "due"]
theorem sc__law_same : FnScope N__law_same ["told", "due"] (defScope s__law_same) := ⟨rfl, rfl, rfl, by decide +kernel, rfl, by decide +kernel, by decide +kernel⟩
abbrev s_compared : Stmt := top 9
abbrev N_compared : List Str := ["op", "left", "right"]
theorem sc_compared : FnScope N_compared ["op", "left", "right"] (defScope s_compared) := ⟨rfl, rfl, rfl, by decide +kernel, rfl, by decide +kernel, by decide +kernel⟩
abbrev s_clamp : Stmt := top 5
abbrev N_clamp : List Str := ["number"]
theorem sc_clamp : FnScope N_clamp ["number"] (defScope s_clamp) := ⟨rfl, rfl, rfl, by decide +kernel, rfl, by decide +kernel, by decide +kernel⟩
abbrev s_fixed_result : Stmt := top 7
abbrev N_fixed_result : List Str := ["op", "left", "right"]
theorem sc_fixed_result : FnScope N_fixed_result ["op", "left", "right"] (defScope s_fixed_result) := ⟨rfl, rfl, rfl, by decide +kernel, rfl, by decide +kernel, by decide +kernel⟩
abbrev s_clamp_count : Stmt := top 6
abbrev N_clamp_count : List Str := ["number"]
theorem sc_clamp_count : FnScope N_clamp_count ["number"] (defScope s_clamp_count) := ⟨rfl, rfl, rfl, by decide +kernel, rfl, by decide +kernel, by decide +kernel⟩
abbrev s_count_result : Stmt := top 8
abbrev N_count_result : List Str := ["op", "left", "right"]
theorem sc_count_result : FnScope N_count_result ["op", "left", "right"] (defScope s_count_result) := ⟨rfl, rfl, rfl, by decide +kernel, rfl, by decide +kernel, by decide +kernel⟩
abbrev s_result : Stmt := top 10
abbrev N_result : List Str := ["op", "left", "right"]
theorem sc_result : FnScope N_result ["op", "left", "right"] (defScope s_result) := ⟨rfl, rfl, rfl, by decide +kernel, rfl, by decide +kernel, by decide +kernel⟩
abbrev s__law_ends : Stmt := top 18
abbrev N__law_ends : List Str := ["kind"]
theorem sc__law_ends : FnScope N__law_ends ["kind"] (defScope s__law_ends) := ⟨rfl, rfl, rfl, by decide +kernel, rfl, by decide +kernel, by decide +kernel⟩
abbrev s__law_hold : Stmt := top 17
abbrev N__law_hold : List Str := ["low", "number", "high"]
theorem sc__law_hold : FnScope N__law_hold ["low", "number", "high"] (defScope s__law_hold) := ⟨rfl, rfl, rfl, by decide +kernel, rfl, by decide +kernel, by decide +kernel⟩
abbrev s__law_due_of_two : Stmt := top 23
abbrev N__law_due_of_two : List Str := ["op", "l", "r", "exact", "low", "high"]
theorem sc__law_due_of_two : FnScope N__law_due_of_two ["op", "l", "r"] (defScope s__law_due_of_two) := ⟨rfl, rfl, rfl, by decide +kernel, rfl, by decide +kernel, by decide +kernel⟩
abbrev s_single : Stmt := top 11
abbrev N_single : List Str := ["op", "value"]
theorem sc_single : FnScope N_single ["op", "value"] (defScope s_single) := ⟨rfl, rfl, rfl, by decide +kernel, rfl, by decide +kernel, by decide +kernel⟩
abbrev s__law_due_of_one : Stmt := top 24
abbrev N__law_due_of_one : List Str := ["op", "v"]
theorem sc__law_due_of_one : FnScope N__law_due_of_one ["op", "v"] (defScope s__law_due_of_one) := ⟨rfl, rfl, rfl, by decide +kernel, rfl, by decide +kernel, by decide +kernel⟩
abbrev s__law_are_right : Stmt := top 26
abbrev N__law_are_right : List Str := ["pairs", "alone", "numbers", "op", "l", "r", "v", "number"]
theorem sc__law_are_right : FnScope N__law_are_right ["pairs", "alone", "numbers"] (defScope s__law_are_right) := ⟨rfl, rfl, rfl, by decide +kernel, rfl, by decide +kernel, by decide +kernel⟩
abbrev s__law_draw : Stmt := top 14
abbrev N__law_draw : List Str := ["d", "many", "found", "size", "cell"]
theorem sc__law_draw : FnScope N__law_draw ["d", "many"] (defScope s__law_draw) := ⟨rfl, rfl, rfl, by decide +kernel, rfl, by decide +kernel, by decide +kernel⟩
abbrev s__law_pick : Stmt := top 15
abbrev N__law_pick : List Str := ["d", "row"]
theorem sc__law_pick : FnScope N__law_pick ["d", "row"] (defScope s__law_pick) := ⟨rfl, rfl, rfl, by decide +kernel, rfl, by decide +kernel, by decide +kernel⟩
abbrev s__law_operand : Stmt := top 19
abbrev N__law_operand : List Str := ["d", "kind", "low", "high", "size"]
theorem sc__law_operand : FnScope N__law_operand ["d", "kind"] (defScope s__law_operand) := ⟨rfl, rfl, rfl, by decide +kernel, rfl, by decide +kernel, by decide +kernel⟩
abbrev s__law_second : Stmt := top 20
abbrev N__law_second : List Str := ["d", "op", "kind", "l", "low", "high", "way", "goal", "found"]
theorem sc__law_second : FnScope N__law_second ["d", "op", "kind", "l"] (defScope s__law_second) := ⟨rfl, rfl, rfl, by decide +kernel, rfl, by decide +kernel, by decide +kernel⟩
abbrev s__law_pair : Stmt := top 21
abbrev N__law_pair : List Str := ["d", "op", "kind", "l"]
theorem sc__law_pair : FnScope N__law_pair ["d", "op"] (defScope s__law_pair) := ⟨rfl, rfl, rfl, by decide +kernel, rfl, by decide +kernel, by decide +kernel⟩
abbrev s__law_alone : Stmt := top 22
abbrev N__law_alone : List Str := ["d", "op", "turn"]
theorem sc__law_alone : FnScope N__law_alone ["d", "op", "turn"] (defScope s__law_alone) := ⟨rfl, rfl, rfl, by decide +kernel, rfl, by decide +kernel, by decide +kernel⟩
abbrev s_law : Stmt := top 27
abbrev N_law : List Str := ["script", "d", "pairs", "op", "turn", "alone", "numbers"]
theorem sc_law : FnScope N_law ["script"] (defScope s_law) := ⟨rfl, rfl, rfl, by decide +kernel, rfl, by decide +kernel, by decide +kernel⟩
/-- what the text's top has: built-ins that are still so, constants -/
structure Txt (mg : Str → Option Value) : Prop where
  b_int : mg "int" = none
  b_isinstance : mg "isinstance" = none
  b_bool : mg "bool" = none
  b_min : mg "min" = none
  b_max : mg "max" = none
  b_len : mg "len" = none
  b_abs : mg "abs" = none
  b_range : mg "range" = none
  c_LOW : Cn mg "LOW" (.int (-32768))
  c_HIGH : Cn mg "HIGH" (.int 32767)
  c_PART : Cn mg "PART" (.int 16)
  c_MOST_COUNT : Cn mg "MOST_COUNT" (.int 255)
/-! ### the draws -/
/-- a row of draws stands at p, its cells at a -/
def DrawAt (H : Hp) (p a : Addr) : Prop := ∃ (ns : List Int) (pos pend seed : Int), H p = some (.lst [.ref a, .int pos, .int pend, .int seed]) ∧ H a = some (.lst (ns.map V.int)) ∧ a ≠ p ∧ 0 ≤ pos
theorem DrawAt.same {H H' : Hp} {p a : Addr} (d : DrawAt H p a) (s : Same H H') : DrawAt H' p a := by
  obtain ⟨ns, pos, pend, seed, h1, h2, h3, h4⟩ := d
  exact ⟨ns, pos, pend, seed, s _ _ h1, s _ _ h2, h3, h4⟩
/-- behind draws: the row stands, all else is as it was -/
structure Drew (p a : Addr) (H H' : Hp) : Prop where
  at_ : DrawAt H' p a
  kp : Kp p H H'
theorem Drew.trans {p a : Addr} {H H1 H2 : Hp} (x : Drew p a H H1) (y : Drew p a H1 H2) : Drew p a H H2 := ⟨y.at_, x.kp.trans y.kp⟩
theorem Drew.new {p a q : Addr} {H H1 : Hp} {o : HO} (x : Drew p a H H1) (h : H1 q = none) : Drew p a H (upd H1 q o) := ⟨x.at_.same (same_new h), x.kp.trans (.of (same_new h))⟩
theorem Drew.same {p a : Addr} {H H1 H2 : Hp} (x : Drew p a H H1) (s : Same H1 H2) : Drew p a H H2 := ⟨x.at_.same s, x.kp.trans (.of s)⟩
theorem DrawAt.drew {p a : Addr} {H : Hp} (d : DrawAt H p a) : Drew p a H H := ⟨d, Kp.refl⟩
theorem DrawAt.some {H : Hp} {p a : Addr} (d : DrawAt H p a) : ∃ xs, H p = some (.lst xs) := by
  obtain ⟨ns, pos, pend, seed, h1, _⟩ := d
  exact ⟨_, h1⟩
theorem DrawAt.ne_none {H : Hp} {p a q : Addr} (d : DrawAt H p a) (h : H q = none) : q ≠ p := by
  obtain ⟨xs, e⟩ := d.some
  exact (ne_of_none e h).symm
theorem DrawAt.ne_noneA {H : Hp} {p a q : Addr} (d : DrawAt H p a) (h : H q = none) : q ≠ a := by
  obtain ⟨ns, pos, pend, seed, _, h1, _⟩ := d
  exact (ne_of_none h1 h).symm
theorem Drew.free {p a q : Addr} {H H' : Hp} (w : Drew p a H H') (h : H' q = none) : H q = none := by
  cases e : H q with
  | none => rfl
  | some o =>
    by_cases hq : q = p
    · obtain ⟨xs, e'⟩ := w.at_.some
      rw [hq, e'] at h; cases h
    · rw [w.kp _ _ e hq] at h; cases h
/-- a thing of our own, made behind H, is written -/
theorem Drew.put {p a q : Addr} {H H1 : Hp} {o : HO} (x : Drew p a H H1) (d : DrawAt H p a) (h : H q = none) : Drew p a H (upd H1 q o) := by
  have n1 := d.ne_none h
  have n2 := d.ne_noneA h
  obtain ⟨ns, pos, pend, seed, h1, h2, h3, h4⟩ := x.at_
  refine ⟨⟨ns, pos, pend, seed, by rw [upd_ne n1.symm]; exact h1, by rw [upd_ne n2.symm]; exact h2, h3, h4⟩, fun b u hb hne => ?_⟩
  rw [upd_ne (ne_of_none hb h)]
  exact x.kp _ _ hb hne
theorem Drew.tps {p a : Addr} {H H' : Hp} (w : Drew p a H H') (d : DrawAt H p a) : Tps H H' := by
  obtain ⟨xs, e⟩ := d.some
  exact w.kp.tps e
def sp__law_begin (K : PySem.W.Frag) : Sp := fun vs H Q _ => ∃ (a : Addr) (ns : List Int), vs = [.ref a] ∧ SqL K H a (ns.map V.int) ∧ ns.length ≤ 63 ∧
  ∀ (p c : Addr) (H' : Hp), Same H H' → H p = none → H c = none → DrawAt H' p c → Q (.ref p) H'
theorem ok__law_begin {P : Program} {w : World} {K : PySem.W.Frag} {mg : Str → Option Value} {base : Heap} {f : Addr} {fd : FuncData} (F : Df K mg "_law_begin" s__law_begin f fd ["script"]) (T : Txt mg) : FnOk P w K mg base CX0 1 f fd ["script"] (sp__law_begin K) := by
  refine F.ok sc__law_begin (fun vs H Q E h => ?_) (fun cdv A outer s H vs Q E hr h => ?_)
  · obtain ⟨a, ns, rfl, _⟩ := h
    rfl
  · obtain ⟨a, ns, rfl, hS, hl, k⟩ := h
    refine ⟨_, (pss_one (ps_ret (pe_lst (pa_cons (pe_lc (own := [("cell", 1)]) (g := gName 1) (tt := tYes) rfl sc__law_begin.nd (pi_list (pv 0)) (blkOk_by (own := [("cell", 1)]) (N := N__law_begin) (sc := defScope s__law_begin) (by decide +kernel)) (fun _ _ _ _ _ => (pg_name (i := 1) sc__law_begin.nd rfl (Or.inl rfl))) (fun _ _ _ _ _ => pts_nil) (fun _ _ _ _ _ => (pe_callTy (T := "int") c_int (by rfl) T.b_int (by decide +kernel) (pa_cons (pv 1) pa_nil)))) (pa_cons pe_int (pa_cons pe_int (pa_cons pe_int pa_nil))))))), ?_⟩
    try dsimp only [cxOf, Cx.nox, Cx.wish]
    refine st_of (σ' := [some _, none]) rfl ?_
    wtm_at "jw"
    intro D hD
    refine l_list (xs := ns.map V.int) (fun i H1 => Same H H1 ∧ H1 D = some (.lst ((ns.take i).map V.int))) ⟨same_new hD, upd_same⟩ (fun i H1 _ h => h.1.seq hS) (fun i x H1 hi h => ?_) (fun H1 h => ?_)
    · obtain ⟨s1, h1⟩ := h
      rw [List.getElem?_map] at hi
      cases e : ns[i]? with
      | none => rw [e] at hi; cases hi
      | some z =>
        rw [e] at hi
        cases hi
        have hlt : i < ns.length := (List.getElem?_eq_some_iff.mp e).1
        wtm_at "jw"
        refine ⟨rfl, ?_⟩
        wtm_at "jw"
        refine ⟨_, h1, small1000 (by rw [List.length_map, List.length_take]; omega), ?_, ?_⟩
        · intro b o hb
          have hne : b ≠ D := ne_of_none hb hD
          rw [upd_ne hne]
          exact s1 _ _ hb
        · rw [upd_same, List.take_add_one, e, List.map_append]
          rfl
    · obtain ⟨s1, h1⟩ := h
      rw [List.length_map, List.take_length] at h1
      wtm_at "jw"
      intro p hp
      have hne : D ≠ p := ne_of_none h1 hp
      refine k p D _ (fun b o hb => ?_) (s1.free hp) hD ⟨ns, 0, 0, 11, upd_same, by rw [upd_ne hne]; exact h1, hne, by decide⟩
      rw [upd_ne (ne_of_none (s1 _ _ hb) hp)]
      exact s1 _ _ hb
def sp__law_draw (K : PySem.W.Frag) : Sp := fun vs H Q _ => ∃ (p a : Addr) (many : Int), vs = [.ref p, .int many] ∧ DrawAt H p a ∧ 0 < many ∧ many < 18446744073709551616 ∧
  ∀ (r : Int) (H' : Hp), 0 ≤ r → r < many → Drew p a H H' → Q (.int r) H'
theorem ok__law_draw {P : Program} {w : World} {K : PySem.W.Frag} {mg : Str → Option Value} {base : Heap} {f : Addr} {fd : FuncData} (F : Df K mg "_law_draw" s__law_draw f fd ["d", "many"]) (T : Txt mg) : FnOk P w K mg base CX0 1 f fd ["d", "many"] (sp__law_draw K) := by
  refine F.ok sc__law_draw (fun vs H Q E h => ?_) (fun cdv A outer s H vs Q E hr h => ?_)
  · obtain ⟨p, a, m, rfl, _⟩ := h
    rfl
  · obtain ⟨p, a, m, rfl, ⟨ns, pos, pend, seed, hp, ha, nap, h0⟩, hm0, hm1, k⟩ := h
    have fin : ∀ (z : Int) (pos' pend' seed' : Int) (H' : Hp), 0 ≤ pos' → H' p = some (.lst [.ref a, .int pos', .int pend', .int seed']) → Kp p H H' → Q (.int (z % m)) H' := fun z pos' pend' seed' H' hp' h1 h2 =>
      k _ _ (Int.emod_nonneg _ (by omega)) (Int.emod_lt_of_pos _ hm0) ⟨⟨ns, pos', pend', seed', h1, h2 _ _ ha nap, nap, hp'⟩, h2⟩
    refine ⟨_, (pss_cons (ps_if (pt_cmpR op_gt (pe_ix (r := rIxL K) ix_list (pv 0) pe_int (fun _ _ => rfl)) pe_int (nomark _)) (pss_cons (ps_set (i := 2) sc__law_draw.nd rfl (Or.inl rfl) (pe_ix (r := rIxL K) ix_list (pv 0) pe_int (fun _ _ => rfl)))
      (pss_cons (ps_asg (pe_op op_fdivW (pv 2) (pv 1)) (pg_sub (pv 0) pe_int set_list))
      (pss_one (ps_ret (pe_op op_mod (pe_callTy (T := "int") c_int (by rfl) T.b_int (by decide +kernel) (pa_cons (pv 2) pa_nil)) (pv 1)))))) pss_nil)
      (pss_cons (ps_set (i := 3) sc__law_draw.nd rfl (Or.inl rfl) pe_int)
      (pss_cons (ps_if (pt_cmpR op_lt (pe_ix (r := rIxL K) ix_list (pv 0) pe_int (fun _ _ => rfl)) (pe_callB (id := "len") (r := qLen K) c_len (by rfl) T.b_len (by decide +kernel) (pa_cons (pe_ix (r := rIxL K) ix_list (pv 0) pe_int (fun _ _ => rfl)) pa_nil)) (nomark _)) (pss_cons (ps_set (i := 4) sc__law_draw.nd rfl (Or.inl rfl) (pe_ix (r := rIx K) ix_seq (pe_ix (r := rIxL K) ix_list (pv 0) pe_int (fun _ _ => rfl)) (pe_ix (r := rIxL K) ix_list (pv 0) pe_int (fun _ _ => rfl)) (fun _ _ => rfl)))
      (pss_one (ps_set (i := 3) sc__law_draw.nd rfl (Or.inl rfl) (pe_op op_add (pe_op op_mul pe_int (pe_callB (id := "abs") c_abs (by rfl) T.b_abs (by decide +kernel) (pa_cons (pv 4) pa_nil))) (pe_callTy (T := "int") c_int (by rfl) T.b_int (by decide +kernel) (pa_cons (pe_cmpR op_lt (pv 4) pe_int (nomark _)) pa_nil)))))) pss_nil)
      (pss_cons (ps_augS (pv 0) pe_int get_list pe_int iop_add set_list)
      (pss_cons (ps_if (pt_cmpR op_ge (pv 3) (pe_op op_mul pe_int (pe_op op_pow pe_int pe_int)) (nomark _)) (pss_cons (ps_set (i := 2) sc__law_draw.nd rfl (Or.inl rfl) (pe_op op_mod (pe_callTy (T := "int") c_int (by rfl) T.b_int (by decide +kernel) (pa_cons (pe_op op_fdiv (pv 3) pe_int) pa_nil)) (pe_op op_shl pe_int pe_int)))
      (pss_cons (ps_asg (pe_op op_fdivW (pv 2) (pv 1)) (pg_sub (pv 0) pe_int set_list))
      (pss_one (ps_ret (pe_op op_mod (pe_callTy (T := "int") c_int (by rfl) T.b_int (by decide +kernel) (pa_cons (pv 2) pa_nil)) (pv 1)))))) pss_nil)
      (pss_cons (ps_asg (pe_op op_mod (pe_callTy (T := "int") c_int (by rfl) T.b_int (by decide +kernel) (pa_cons (pe_op op_add (pe_op op_add (pe_op op_add (pe_op op_mul (pe_ix (r := rIxL K) ix_list (pv 0) pe_int (fun _ _ => rfl)) pe_int) (pe_op op_mul (pe_op op_mod (pe_callTy (T := "int") c_int (by rfl) T.b_int (by decide +kernel) (pa_cons (pv 3) pa_nil)) pe_int) pe_int)) (pe_op op_mul (pe_ix (r := rIxL K) ix_list (pv 0) pe_int (fun _ _ => rfl)) pe_int)) pe_int) pa_nil)) pe_int) (pg_sub (pv 0) pe_int set_list))
      (pss_one (ps_ret (pe_op op_mod (pe_callTy (T := "int") c_int (by rfl) T.b_int (by decide +kernel) (pa_cons (pe_op op_fdiv (pe_ix (r := rIxL K) ix_list (pv 0) pe_int (fun _ _ => rfl)) pe_int) pa_nil)) (pv 1)))))))))), ?_⟩
    try dsimp only [cxOf, Cx.nox, Cx.wish]
    refine st_of (σ' := [some _, some _, none, none, none]) rfl ?_
    wtm_at "jw"
    refine c_dec (fun h => ?_) (fun h => ?_)
    · wtm_at "jw"
      exact fin _ _ _ _ _ h0 upd_same Kp.upd
    · wtm_at "jw"
      refine c_dec (fun h1 => ?_) (fun h1 => ?_)
      · obtain ⟨c, hc⟩ : ∃ c : Int, atI (ns.map V.int) pos = some (.int c) := by
          obtain ⟨v, e, hv, _⟩ := at_lt (xs := ns.map V.int) h0 h1
          obtain ⟨z, _, rfl⟩ := List.mem_map.mp hv
          exact ⟨z, e⟩
        wtm_at "jw"
        refine c_dec (fun h2 => ?_) (fun h2 => ?_)
        · wtm_at "jw"
          exact fin _ (pos + 1) _ _ _ (by omega) upd_same (Kp.upd.trans Kp.upd)
        · wtm_at "jw"
          exact fin _ (pos + 1) _ _ _ (by omega) upd_same (Kp.upd.trans Kp.upd)
      · wtm_at "jw"
        refine c_dec (fun h2 => ?_) (fun h2 => ?_)
        · wtm_at "jw"
          exact fin _ (pos + 1) _ _ _ (by omega) upd_same (Kp.upd.trans Kp.upd)
        · wtm_at "jw"
          exact fin _ (pos + 1) _ _ _ (by omega) upd_same (Kp.upd.trans Kp.upd)

def sp__law_pick (K : PySem.W.Frag) : Sp := fun vs H Q _ => ∃ (p a b : Addr) (xs : List V), vs = [.ref p, .ref b] ∧ DrawAt H p a ∧ ((b ≠ p ∧ SqL K H b xs) ∨ SqT K H b xs) ∧ 0 < xs.length ∧ xs.length < 1073741824 ∧
  ∀ (x : V) (H' : Hp), x ∈ xs → Drew p a H H' → Q x H'
theorem ok__law_pick {P : Program} {w : World} {K : PySem.W.Frag} {mg : Str → Option Value} {base : Heap} {f : Addr} {fd : FuncData} (F : Df K mg "_law_pick" s__law_pick f fd ["d", "row"]) (T : Txt mg)
    (c__law_draw : Cl P w K mg base 1 "_law_draw" (sp__law_draw K)) : FnOk P w K mg base CX0 2 f fd ["d", "row"] (sp__law_pick K) := by
  refine F.ok sc__law_pick (fun vs H Q E h => ?_) (fun cdv A outer s H vs Q E hr h => ?_)
  · obtain ⟨p, a, b, xs, rfl, _⟩ := h
    rfl
  · obtain ⟨p, a, b, xs, rfl, hd, hb, hl0, hl1, k⟩ := h
    refine ⟨_, (pss_one (ps_ret (pe_ix (r := rIx K) ix_seq (pv 1) (pe_cl c__law_draw hr (by decide) rfl (pa_cons (pv 0) (pa_cons (pe_callB (id := "len") (r := qLen K) c_len (by rfl) T.b_len (by decide +kernel) (pa_cons (pv 1) pa_nil)) pa_nil))) (fun _ _ => rfl)))), ?_⟩
    try dsimp only [cxOf, Cx.nox, Cx.wish]
    refine st_of (σ' := [some _, some _]) rfl ?_
    rcases hb with ⟨nb, hb⟩ | hb
    all_goals
      wtm_at "jw"
      refine ⟨p, a, _, rfl, hd, by omega, by omega, fun r H' hr0 hr1 w => ?_⟩
      obtain ⟨v, e, hv, _⟩ := at_lt hr0 hr1
    · have hb' := w.kp.seq hb nb
      wtm_at "jw"
      exact k _ _ hv w
    · have hb' := (w.tps hd).sq hb
      wtm_at "jw"
      exact k _ _ hv w

def sp__law_is_int (K : PySem.W.Frag) : Sp := fun vs H Q _ => ∃ (i : Int), vs = [.int i] ∧ Q (.bl true) H
theorem ok__law_is_int {P : Program} {w : World} {K : PySem.W.Frag} {mg : Str → Option Value} {base : Heap} {f : Addr} {fd : FuncData} (F : Df K mg "_law_is_int" s__law_is_int f fd ["thing"]) (T : Txt mg) : FnOk P w K mg base CX0 1 f fd ["thing"] (sp__law_is_int K) := by
  refine F.ok sc__law_is_int (fun vs H Q E h => ?_) (fun cdv A outer s H vs Q E hr h => ?_)
  · obtain ⟨i, rfl, _⟩ := h
    rfl
  · obtain ⟨i, rfl, k⟩ := h
    refine ⟨_, (pss_one (ps_ret (pe_and (pe_callB (id := "isinstance") (r := rIsi K) call_isi (by rfl) T.b_isinstance (by decide +kernel) (pa_cons (pv 0) (pa_cons (pe_bltn (v := .ty "int") (u := Value.type "int") (by rfl) T.b_int (by decide +kernel) rfl) pa_nil))) (pe_one (pe_not (pe_callB (id := "isinstance") (r := rIsi K) call_isi (by rfl) T.b_isinstance (by decide +kernel) (pa_cons (pv 0) (pa_cons (pe_bltn (v := .ty "bool") (u := Value.type "bool") (by rfl) T.b_bool (by decide +kernel) rfl) pa_nil)))))))), ?_⟩
    try dsimp only [cxOf, Cx.nox, Cx.wish]
    refine st_of (σ' := [some _]) rfl ?_
    wtm_at "jw"
    refine i_isi (.base (.int i)) rfl ?_
    wtm_at "jw"
    refine i_isi (.base (.int i)) rfl ?_
    wtm_at "jw"
    exact k

/-! ### pairs of ints, tuples of them -/
/-- the pairs of rows stand at rs -/
def Prw (H : Hp) (rs : List Addr) (rows : List (Int × Int)) : Prop := rs.length = rows.length ∧ ∀ (i : Nat) (r : Addr) (p : Int × Int), rs[i]? = some r → rows[i]? = some p → H r = some (.tup [.int p.1, .int p.2])
/-- a tuple of pairs -/
def Prs (H : Hp) (a : Addr) (rows : List (Int × Int)) : Prop := ∃ rs : List Addr, H a = some (.tup (rs.map V.ref)) ∧ Prw H rs rows
/-- a list of pairs -/
def LPr (H : Hp) (a : Addr) (rows : List (Int × Int)) : Prop := ∃ rs : List Addr, H a = some (.lst (rs.map V.ref)) ∧ Prw H rs rows
theorem Prw.nil {H : Hp} : Prw H [] [] := ⟨rfl, fun i r p h => by simp at h⟩
theorem Prw.tps {H H' : Hp} {rs : List Addr} {rows : List (Int × Int)} (w : Prw H rs rows) (t : Tps H H') : Prw H' rs rows := ⟨w.1, fun i r p h1 h2 => (t r).1 _ (w.2 i r p h1 h2)⟩
theorem Prw.same {H H' : Hp} {rs : List Addr} {rows : List (Int × Int)} (w : Prw H rs rows) (s : Same H H') : Prw H' rs rows := w.tps (Tps.of s)
theorem Prw.snoc {H : Hp} {rs : List Addr} {rows : List (Int × Int)} {q : Addr} {x y : Int} (w : Prw H rs rows) (h : H q = some (.tup [.int x, .int y])) : Prw H (rs ++ [q]) (rows ++ [(x, y)]) := by
  refine ⟨by simp [w.1], fun i r p h1 h2 => ?_⟩
  have hl := w.1
  by_cases hi : i < rs.length
  · rw [List.getElem?_append_left hi] at h1
    rw [List.getElem?_append_left (by omega)] at h2
    exact w.2 i r p h1 h2
  · rw [List.getElem?_append_right (by omega)] at h1
    rw [List.getElem?_append_right (by omega)] at h2
    rw [hl] at h1
    cases e : i - rows.length with
    | zero =>
      rw [e] at h1 h2
      cases h1
      cases h2
      exact h
    | succ n =>
      rw [e] at h1
      cases h1
theorem Prs.tps {H H' : Hp} {a : Addr} {rows : List (Int × Int)} (h : Prs H a rows) (t : Tps H H') : Prs H' a rows := by
  obtain ⟨rs, ha, w⟩ := h
  exact ⟨rs, (t a).1 _ ha, w.tps t⟩
theorem Prs.same {H H' : Hp} {a : Addr} {rows : List (Int × Int)} (h : Prs H a rows) (s : Same H H') : Prs H' a rows := h.tps (Tps.of s)
theorem LPr.same {H H' : Hp} {a : Addr} {rows : List (Int × Int)} (h : LPr H a rows) (s : Same H H') : LPr H' a rows := by
  obtain ⟨rs, ha, w⟩ := h
  exact ⟨rs, s _ _ ha, w.same s⟩
theorem LPr.kp {H H' : Hp} {p a : Addr} {xs : List V} {rows : List (Int × Int)} (h : LPr H a rows) (k : Kp p H H') (hp : H p = some (.lst xs)) (n : a ≠ p) : LPr H' a rows := by
  obtain ⟨rs, ha, w⟩ := h
  exact ⟨rs, k _ _ ha n, w.tps (k.tps hp)⟩
theorem Prw.put {H : Hp} {D : Addr} {rs : List Addr} {xs ys : List V} {rows : List (Int × Int)} (w : Prw H rs rows) (h : H D = some (.lst xs)) : Prw (upd H D (.lst ys)) rs rows := by
  refine ⟨w.1, fun i r p h1 h2 => ?_⟩
  have hr := w.2 i r p h1 h2
  rw [upd_ne (ne_of hr h (by intro z; cases z))]
  exact hr
/-- a new pair behind the others -/
theorem LPr.add {H : Hp} {D q : Addr} {rs : List Addr} {rows : List (Int × Int)} {x y : Int} (h : H D = some (.lst (rs.map V.ref))) (w : Prw H rs rows) (hq : H q = none) :
    LPr (upd (upd H q (.tup [.int x, .int y])) D (.lst (rs.map V.ref ++ [.ref q]))) D (rows ++ [(x, y)]) := by
  have hD : upd H q (.tup [.int x, .int y]) D = some (.lst (rs.map V.ref)) := by rw [upd_ne (ne_of_none h hq)]; exact h
  refine ⟨rs ++ [q], by rw [upd_same, List.map_append]; rfl, Prw.put (xs := rs.map V.ref) ((w.same (same_new hq)).snoc upd_same) hD⟩
/-- a pair that stands already -/
theorem LPr.add' {H : Hp} {D q : Addr} {rs : List Addr} {rows : List (Int × Int)} {x y : Int} (h : H D = some (.lst (rs.map V.ref))) (w : Prw H rs rows) (hq : H q = some (.tup [.int x, .int y])) :
    LPr (upd H D (.lst (rs.map V.ref ++ [.ref q]))) D (rows ++ [(x, y)]) :=
  ⟨rs ++ [q], by rw [upd_same, List.map_append]; rfl, (w.snoc hq).put h⟩
theorem Prw.at {H : Hp} {rs : List Addr} {rows : List (Int × Int)} {i : Nat} {v : V} (w : Prw H rs rows) (h : (rs.map V.ref)[i]? = some v) : ∃ r p, v = .ref r ∧ rs[i]? = some r ∧ rows[i]? = some p ∧ H r = some (.tup [.int p.1, .int p.2]) ∧ rows.take (i + 1) = rows.take i ++ [p] ∧ i < rows.length := by
  rw [List.getElem?_map] at h
  cases e : rs[i]? with
  | none => rw [e] at h; cases h
  | some r =>
    rw [e] at h
    have hi := (List.getElem?_eq_some_iff.mp e).1
    have hl := w.1
    have e2 : rows[i]? = some (rows[i]'(by omega)) := List.getElem?_eq_getElem (by omega)
    exact ⟨r, _, (Option.some.inj h).symm, rfl, e2, w.2 i r _ e e2, by rw [List.take_add_one, e2]; rfl, by omega⟩
def prD (p : Int × Int) : PyData := .tuple [.int p.1, .int p.2]
theorem dp_prs {K : PySem.W.Frag} {H : Hp} {a : Addr} {rows : List (Int × Int)} (h : Prs H a rows) : Dp K H (.ref a) (.tuple (rows.map prD)) := by
  obtain ⟨rs, ha, w⟩ := h
  refine .tup (SqT.of ha) (dpAll_of (by simp [w.1]) fun i x d h1 h2 => ?_)
  obtain ⟨r, p, rfl, e1, e2, hr, _⟩ := w.at h1
  rw [List.getElem?_map, e2] at h2
  cases h2
  exact dp_ints (ns := [p.1, p.2]) (SqT.of hr)
theorem shp_prs (rows : List (Int × Int)) : Shp 2 (.tuple (rows.map prD)) :=
  Shp.tup fun d hd => by
    obtain ⟨p, _, rfl⟩ := List.mem_map.mp hd
    exact Shp.tup fun e he => by
      rcases List.mem_cons.mp he with rfl | he
      · exact (Shp.int _)
      · rcases List.mem_cons.mp he with rfl | he
        · exact (Shp.int _)
        · cases he
theorem shp_ints (ns : List Int) : Shp 1 (.tuple (ns.map PyData.int)) :=
  Shp.tup fun d hd => by
    obtain ⟨p, _, rfl⟩ := List.mem_map.mp hd
    exact Shp.int _
theorem put_same {H H' : Hp} {D : Addr} {o : HO} (s : Same H H') (h : H D = none) : Same H (upd H' D o) := fun b u hb => by
  rw [upd_ne (ne_of_none hb h)]
  exact s _ _ hb
theorem tps_put {H : Hp} {D : Addr} {xs ys : List V} (h : H D = some (.lst xs)) : Tps H (upd H D (.lst ys)) := (Kp.upd (p := D)).tps h

/-! ### dicts with int keys -/
section
variable {K : PySem.W.Frag} {σ : L2.St} {H : Hp} {Q : VK}
theorem i_dget {td ty : TE} (h : td σ H fun x H1 => ty σ H1 fun y H2 => ∃ a v, x = .ref a ∧ DGet H2 a y (some v) ∧ Q v H2) : tDGet td ty σ H Q := h
theorem i_dgetI {p : Addr} {i : Int} {v : V} {kvs : List (L2.Key × V)} {R : V → Prop} (h : Rd H p (.dK kvs)) (e : valV kvs (.inl i) = some v) (q : R v) : ∃ a v', V.ref p = .ref a ∧ DGet H a (.int i) (some v') ∧ R v' :=
  ⟨p, v, rfl, .inl ⟨kvs, .inl i, h, rfl, e.symm⟩, q⟩
theorem i_din {td ty : TE} (h : ty σ H fun y H1 => td σ H1 fun x H2 => ∃ a o, x = .ref a ∧ DGet H2 a y o ∧ Q (.bl o.isSome) H2) : tDIn ty td σ H Q := h
theorem i_dinI {p : Addr} {i : Int} {kvs : List (L2.Key × V)} {R : Option V → Prop} (h : Rd H p (.dK kvs)) (q : R (valV kvs (.inl i))) : ∃ a o, V.ref p = .ref a ∧ DGet H a (.int i) o ∧ R o :=
  ⟨p, _, rfl, .inl ⟨kvs, .inl i, h, rfl, rfl⟩, q⟩
theorem i_dput {td ty tv : TE} {nx : L2.St → Hp → Prop} {rt : VK} {bk ct : L2.St → Hp → Prop} (h : tv σ H fun v H1 => td σ H1 fun x H2 => ty σ H2 fun y H3 => ∃ a H4, x = .ref a ∧ DPut H3 a y v H4 ∧ nx σ H4) : sDPut td ty tv ⟨nx, rt, bk, ct⟩ σ H := h
theorem i_dputI {p : Addr} {i : Int} {v : V} {kvs : List (L2.Key × V)} {R : Hp → Prop} (h : H p = some (.dK kvs)) (hl : kvs.length ≤ 10000) (q : R (upd H p (.dK (putK kvs (.inl i) v)))) : ∃ a H4, V.ref p = .ref a ∧ DPut H a (.int i) v H4 ∧ R H4 :=
  ⟨p, _, rfl, .inl ⟨kvs, .inl i, h, rfl, by rw [sizeLine_eq]; omega, rfl⟩, q⟩
theorem i_dnew (q : ∀ p, H p = none → Q (.ref p) (upd H p (.dK []))) : tDNewK σ H Q := q
def rSortDI : List V → Hp → VK → Prop := fun xs H Q => ∃ (a : Addr) (kvs : List (L2.Key × V)) (ks : List Int), xs = [.ref a] ∧ Rd H a (.dK kvs) ∧ kvs.map (·.1) = ks.map Sum.inl ∧ ks.length < 64 ∧ ∀ (ys : List Int) (p : Addr), ys.Perm ks → ys.Pairwise (· ≤ ·) → H p = none → Q (.ref p) (upd H p (.lst (ys.map V.int)))
theorem c_sortDI {X : Cx} (hc : X.calm = true) : CallR X (.builtin "sorted") rSortDI := call_sortedDI hc
end
/-- the dict's entries are the map m of ints -/
def DI (kvs : List (L2.Key × V)) (m : Int → Option Int) : Prop := (∀ i : Int, valV kvs (.inl i) = (m i).map V.int) ∧ ∃ ks : List Int, kvs.map (·.1) = ks.map Sum.inl ∧ ks.Nodup
theorem DI.nil : DI [] fun _ => none := ⟨fun _ => rfl, [], rfl, List.nodup_nil⟩
theorem putK_keys {kvs : List (L2.Key × V)} {k : L2.Key} {v : V} : (putK kvs k v).map (·.1) = if (valV kvs k).isSome = true then kvs.map (·.1) else kvs.map (·.1) ++ [k] := by
  unfold putK
  rw [valV_any]
  by_cases h : (valV kvs k).isSome = true
  · rw [if_pos h, if_pos h, List.map_map]
    refine List.map_congr_left fun p _ => ?_
    show (if p.1 = k then (p.1, v) else p).1 = p.1
    split <;> rfl
  · rw [if_neg h, if_neg h, List.map_append]
    rfl
theorem DI.put {kvs : List (L2.Key × V)} {m : Int → Option Int} {i v : Int} (d : DI kvs m) : DI (putK kvs (.inl i) (.int v)) (fun j => if j = i then some v else m j) := by
  obtain ⟨h, ks, hk, hn⟩ := d
  refine ⟨fun j => ?_, ?_⟩
  · rw [valV_put]
    show _ = Option.map V.int (if j = i then some v else m j)
    by_cases e : j = i
    · subst e
      rw [if_pos rfl, if_pos rfl]
      rfl
    · rw [if_neg (by intro z; exact e (Sum.inl.inj z)), if_neg e]
      exact h j
  · rw [putK_keys]
    by_cases e : (valV kvs (.inl i)).isSome = true
    · rw [if_pos e]
      exact ⟨ks, hk, hn⟩
    · rw [if_neg e, hk]
      refine ⟨ks ++ [i], by rw [List.map_append]; rfl, ?_⟩
      have hni : ¬ i ∈ ks := fun hi => by
        have e1 : valV kvs (.inl i) = none := by
          cases q : valV kvs (.inl i) with
          | none => rfl
          | some z => rw [q] at e; exact absurd rfl e
        refine valV_not e1 ?_
        rw [hk]
        exact List.mem_map.mpr ⟨i, hi, rfl⟩
      exact nd_snoc hn hni
theorem DI.mem {kvs : List (L2.Key × V)} {m : Int → Option Int} {ks : List Int} (d : DI kvs m) (hk : kvs.map (·.1) = ks.map Sum.inl) (i : Int) : i ∈ ks ↔ (m i).isSome = true := by
  have h := d.1 i
  constructor
  · intro hi
    cases e : m i with
    | some z => rfl
    | none =>
      rw [e] at h
      refine absurd ?_ (valV_not h)
      rw [hk]
      exact List.mem_map.mpr ⟨i, hi, rfl⟩
  · intro hi
    obtain ⟨z, hz⟩ := Option.isSome_iff_exists.mp hi
    rw [hz] at h
    have := valV_in h
    rw [hk] at this
    obtain ⟨j, hj, e⟩ := List.mem_map.mp this
    exact Sum.inl.inj e ▸ hj
/-- distinct ints of 0 .. n - 1 are at most n -/
theorem nodup_len : ∀ (n : Nat) (l : List Int), l.Nodup → (∀ x ∈ l, 0 ≤ x ∧ x < n) → l.length ≤ n
  | 0, l, _, h => by
    cases l with
    | nil => exact Nat.le_refl _
    | cons x r => have := h x List.mem_cons_self; omega
  | n + 1, l, hn, h => by
    by_cases hm : (n : Int) ∈ l
    · have e := List.length_erase_of_mem hm
      have := nodup_len n (l.erase (n : Int)) (hn.erase _) fun x hx => by
        have h1 := (List.Nodup.mem_erase_iff hn).mp hx
        have h2 := h x h1.2
        have : x ≠ (n : Int) := h1.1
        omega
      omega
    · have := nodup_len n l hn fun x hx => by
        have h2 := h x hx
        have : x ≠ (n : Int) := fun e => hm (e ▸ hx)
        omega
      omega
theorem DI.len {kvs : List (L2.Key × V)} {m : Int → Option Int} {n : Nat} (d : DI kvs m) (h : ∀ i, (m i).isSome = true → 0 ≤ i ∧ i < n) : kvs.length ≤ n := by
  obtain ⟨ks, hk, hn⟩ := d.2
  have e : kvs.length = ks.length := by
    have := congrArg List.length hk
    rw [List.length_map, List.length_map] at this
    exact this
  rw [e]
  exact nodup_len n ks hn fun x hx => h x ((d.mem hk x).mp hx)
/-- ints in order, all of them distinct -/
theorem lt_of_le_nodup : ∀ {l : List Int}, l.Pairwise (· ≤ ·) → l.Nodup → l.Pairwise (· < ·)
  | [], _, _ => .nil
  | a :: r, h, n => by
    rw [List.pairwise_cons] at h
    rw [List.nodup_cons] at n
    refine List.pairwise_cons.mpr ⟨fun x hx => ?_, lt_of_le_nodup h.2 n.2⟩
    have h1 := h.1 x hx
    have h2 : x ≠ a := fun e => n.1 (e ▸ hx)
    omega
theorem sorted_ext : ∀ {l1 l2 : List Int}, l1.Pairwise (· < ·) → l2.Pairwise (· < ·) → (∀ x, x ∈ l1 ↔ x ∈ l2) → l1 = l2
  | [], [], _, _, _ => rfl
  | [], b :: r, _, _, h => by have := (h b).mpr List.mem_cons_self; cases this
  | a :: r, [], _, _, h => by have := (h a).mp List.mem_cons_self; cases this
  | a :: r, b :: t, h1, h2, h => by
    rw [List.pairwise_cons] at h1 h2
    have ha := (h a).mp List.mem_cons_self
    have hb := (h b).mpr List.mem_cons_self
    have e : a = b := by
      rcases List.mem_cons.mp ha with e | ha
      · exact e
      · rcases List.mem_cons.mp hb with e | hb
        · exact e.symm
        · have := h2.1 a ha
          have := h1.1 b hb
          omega
    subst e
    rw [sorted_ext h1.2 h2.2 fun x => ⟨fun hx => ?_, fun hx => ?_⟩]
    · rcases List.mem_cons.mp ((h x).mp (List.mem_cons_of_mem _ hx)) with e | q
      · have := h1.1 x hx
        omega
      · exact q
    · rcases List.mem_cons.mp ((h x).mpr (List.mem_cons_of_mem _ hx)) with e | q
      · have := h2.1 x hx
        omega
      · exact q
theorem putK_le {kvs : List (L2.Key × V)} {k : L2.Key} {v : V} : (putK kvs k v).length ≤ kvs.length + 1 := by
  have h := congrArg List.length (putK_keys (kvs := kvs) (k := k) (v := v))
  rw [List.length_map] at h
  rw [h]
  split
  · rw [List.length_map]; omega
  · rw [List.length_append, List.length_map]; simp

/-! ### immutable data: None, bools, ints, texts, tuples of them -/
mutual
inductive TD (K : PySem.W.Frag) (H : Hp) : V → PyData → Prop
  | non : TD K H .non .none
  | bl (b : Bool) : TD K H (.bl b) (.bool b)
  | int (i : Int) : TD K H (.int i) (.int i)
  | str (x : Str) : TD K H (.str x) (.str x)
  | tup {a : Addr} {xs : List V} {ds : List PyData} : SqT K H a xs → TDs K H xs ds → TD K H (.ref a) (.tuple ds)
inductive TDs (K : PySem.W.Frag) (H : Hp) : List V → List PyData → Prop
  | nil : TDs K H [] []
  | cons {v : V} {vs : List V} {d : PyData} {ds : List PyData} : TD K H v d → TDs K H vs ds → TDs K H (v :: vs) (d :: ds)
end
def oD : Option Int → PyData
  | none => .none
  | some z => .int z
def ovO : Option Int → V
  | none => .non
  | some z => .int z
def pD (p : Int × Int) : PyData := .tuple [.int p.1, .int p.2]
section
variable {K : PySem.W.Frag} {H H' : Hp}
theorem TD.tps (t : Tps H H') {v : V} {d : PyData} (h : TD K H v d) : TD K H' v d :=
  TD.rec (motive_1 := fun v d _ => TD K H' v d) (motive_2 := fun vs ds _ => TDs K H' vs ds) .non (fun b => .bl b) (fun i => .int i) (fun x => .str x) (fun h _ q => .tup (t.sq h) q) .nil (fun _ _ h1 h2 => .cons h1 h2) h
theorem TDs.tps (t : Tps H H') {vs : List V} {ds : List PyData} (h : TDs K H vs ds) : TDs K H' vs ds :=
  TDs.rec (motive_1 := fun v d _ => TD K H' v d) (motive_2 := fun vs ds _ => TDs K H' vs ds) .non (fun b => .bl b) (fun i => .int i) (fun x => .str x) (fun h _ q => .tup (t.sq h) q) .nil (fun _ _ h1 h2 => .cons h1 h2) h
theorem TD.dp {v : V} {d : PyData} (h : TD K H v d) : Dp K H v d :=
  TD.rec (motive_1 := fun v d _ => Dp K H v d) (motive_2 := fun vs ds _ => DpAll K H vs ds) .non (fun b => .bl b) (fun i => .int i) (fun x => .str x) (fun h _ q => .tup h q) .nil (fun _ _ h1 h2 => .cons h1 h2) h
theorem TDs.dp {vs : List V} {ds : List PyData} (h : TDs K H vs ds) : DpAll K H vs ds :=
  TDs.rec (motive_1 := fun v d _ => Dp K H v d) (motive_2 := fun vs ds _ => DpAll K H vs ds) .non (fun b => .bl b) (fun i => .int i) (fun x => .str x) (fun h _ q => .tup h q) .nil (fun _ _ h1 h2 => .cons h1 h2) h
theorem TD.same (s : Same H H') {v : V} {d : PyData} (h : TD K H v d) : TD K H' v d := h.tps (Tps.of s)
theorem TDs.same (s : Same H H') {vs : List V} {ds : List PyData} (h : TDs K H vs ds) : TDs K H' vs ds := h.tps (Tps.of s)
theorem TDs.len : ∀ {vs : List V} {ds : List PyData}, TDs K H vs ds → vs.length = ds.length
  | [], _, .nil => rfl
  | v :: vs, _, .cons h t => by rw [List.length_cons, List.length_cons, TDs.len t]
theorem TDs.get : ∀ {vs : List V} {ds : List PyData} {i : Nat} {d : PyData}, TDs K H vs ds → ds[i]? = some d → ∃ v, vs[i]? = some v ∧ TD K H v d
  | _, _, _, _, .nil, e => by simp at e
  | _, _, 0, _, .cons (v := v) h t, e => by
    cases e
    exact ⟨v, rfl, h⟩
  | _, _, i + 1, _, .cons h t, e => by
    obtain ⟨v, e2, q⟩ := TDs.get (i := i) t (by simpa using e)
    exact ⟨v, by simpa using e2, q⟩
theorem TDs.at {vs : List V} {ds : List PyData} {i : Nat} {v : V} (h : TDs K H vs ds) (e : vs[i]? = some v) : ∃ d, ds[i]? = some d ∧ TD K H v d ∧ ds.take (i + 1) = ds.take i ++ [d] ∧ i < ds.length := by
  have hi := (List.getElem?_eq_some_iff.mp e).1
  have hl := h.len
  have e2 : ds[i]? = some (ds[i]'(by omega)) := List.getElem?_eq_getElem (by omega)
  obtain ⟨v', e3, q⟩ := h.get e2
  rw [e] at e3
  cases e3
  exact ⟨_, e2, q, by rw [List.take_add_one, e2]; rfl, by omega⟩
theorem TDs.mem {vs : List V} {ds : List PyData} {v : V} (h : TDs K H vs ds) (hv : v ∈ vs) : ∃ d, d ∈ ds ∧ TD K H v d := by
  obtain ⟨i, hi⟩ := List.getElem?_of_mem hv
  obtain ⟨d, e, q, _⟩ := h.at hi
  exact ⟨d, List.mem_of_getElem? e, q⟩
theorem TDs.of : ∀ {vs : List V} {ds : List PyData}, vs.length = ds.length → (∀ (i : Nat) v d, vs[i]? = some v → ds[i]? = some d → TD K H v d) → TDs K H vs ds
  | [], [], _, _ => .nil
  | v :: vs, d :: ds, hl, h => .cons (h 0 v d rfl rfl) (TDs.of (by simpa using hl) fun i y e h1 h2 => h (i + 1) y e (by simpa using h1) (by simpa using h2))
theorem TDs.app : ∀ {vs us : List V} {ds es : List PyData}, TDs K H vs ds → TDs K H us es → TDs K H (vs ++ us) (ds ++ es)
  | _, _, _, _, .nil, h => h
  | _, _, _, _, .cons h t, q => .cons h (TDs.app t q)
theorem TDs.snoc {vs : List V} {ds : List PyData} {v : V} {d : PyData} (h : TDs K H vs ds) (q : TD K H v d) : TDs K H (vs ++ [v]) (ds ++ [d]) := h.app (.cons q .nil)
theorem TDs.map {α : Type} {f : α → V} {g : α → PyData} : ∀ {l : List α}, (∀ x ∈ l, TD K H (f x) (g x)) → TDs K H (l.map f) (l.map g)
  | [], _ => .nil
  | x :: r, h => .cons (h x List.mem_cons_self) (TDs.map fun y hy => h y (List.mem_cons_of_mem _ hy))
theorem TDs.ints (ns : List Int) : TDs K H (ns.map V.int) (ns.map PyData.int) := TDs.map fun x _ => .int x
theorem TD.ovO (o : Option Int) : TD K H (ovO o) (oD o) := by cases o <;> constructor
theorem TDs.ovs (os : List (Option Int)) : TDs K H (os.map Law.ovO) (os.map oD) := TDs.map fun x _ => TD.ovO x
theorem TD.tup_inv {v : V} {ds : List PyData} (h : TD K H v (.tuple ds)) : ∃ a xs, v = .ref a ∧ SqT K H a xs ∧ TDs K H xs ds := by
  cases h with
  | tup a b => exact ⟨_, _, rfl, a, b⟩
theorem TD.int_inv {v : V} {i : Int} (h : TD K H v (.int i)) : v = .int i := by cases h; rfl
theorem TD.non_inv {v : V} (h : TD K H v .none) : v = .non := by cases h; rfl
theorem TD.str_inv {v : V} {i : Str} (h : TD K H v (.str i)) : v = .str i := by cases h; rfl
theorem TD.bl_inv {v : V} {i : Bool} (h : TD K H v (.bool i)) : v = .bl i := by cases h; rfl
theorem TD.ov_inv {v : V} {o : Option Int} (h : TD K H v (oD o)) : v = Law.ovO o := by
  cases o with
  | none => exact h.non_inv
  | some z => exact h.int_inv
theorem TDs.ints_inv : ∀ {ns : List Int} {vs : List V}, TDs K H vs (ns.map PyData.int) → vs = ns.map V.int
  | [], _, h => by cases h; rfl
  | n :: ns, _, h => by
    cases h with
    | cons a b => rw [a.int_inv, TDs.ints_inv b]; rfl
theorem TDs.ovs_inv : ∀ {os : List (Option Int)} {vs : List V}, TDs K H vs (os.map oD) → vs = os.map Law.ovO
  | [], _, h => by cases h; rfl
  | n :: ns, _, h => by
    cases h with
    | cons a b => rw [a.ov_inv, TDs.ovs_inv b]; rfl
theorem TD.pair_inv {v : V} {p : Int × Int} (h : TD K H v (pD p)) : ∃ a, v = .ref a ∧ SqT K H a [.int p.1, .int p.2] := by
  obtain ⟨a, xs, e, s, q⟩ := h.tup_inv
  rw [TDs.ints_inv (ns := [p.1, p.2]) q] at s
  exact ⟨a, e, s⟩
theorem TD.of {a : Addr} {xs : List V} {ds : List PyData} (h : H a = some (.tup xs)) (q : TDs K H xs ds) : TD K H (.ref a) (.tuple ds) := .tup (SqT.of h) q
/-- a new tuple of data -/
theorem TD.new {a : Addr} {xs : List V} {ds : List PyData} (h : H a = none) (q : TDs K H xs ds) : TD K (upd H a (.tup xs)) (.ref a) (.tuple ds) := .of upd_same (q.same (same_new h))
/-- a list of data -/
def LD (K : PySem.W.Frag) (H : Hp) (a : Addr) (ds : List PyData) : Prop := ∃ vs, H a = some (.lst vs) ∧ TDs K H vs ds
theorem LD.same (s : Same H H') {a : Addr} {ds : List PyData} (h : LD K H a ds) : LD K H' a ds := by
  obtain ⟨vs, e, q⟩ := h
  exact ⟨vs, s _ _ e, q.same s⟩
theorem LD.kp {p a : Addr} {xs : List V} {ds : List PyData} (h : LD K H a ds) (k : Kp p H H') (hp : H p = some (.lst xs)) (n : a ≠ p) : LD K H' a ds := by
  obtain ⟨vs, e, q⟩ := h
  exact ⟨vs, k _ _ e n, q.tps (k.tps hp)⟩
theorem LD.put {a : Addr} {xs vs : List V} {ds : List PyData} (h : H a = some (.lst xs)) (q : TDs K H vs ds) : LD K (upd H a (.lst vs)) a ds := ⟨vs, upd_same, q.tps (tps_put h)⟩
theorem LD.new {a : Addr} {vs : List V} {ds : List PyData} (h : H a = none) (q : TDs K H vs ds) : LD K (upd H a (.lst vs)) a ds := ⟨vs, upd_same, q.same (same_new h)⟩
theorem LD.snoc {a : Addr} {vs : List V} {v : V} {d : PyData} {ds : List PyData} (h : H a = some (.lst vs)) (q : TDs K H vs ds) (x : TD K H v d) : LD K (upd H a (.lst (vs ++ [v]))) a (ds ++ [d]) := .put h (q.snoc x)
variable {σ : L2.St} {Q : VK}
theorem i_tyLD {p : Addr} {ds : List PyData} {R : Prop} (s : LD K H p ds) (q : R) : tyV K "list" (.ref p) H ∧ R := by
  obtain ⟨vs, e, _⟩ := s
  exact i_tyL (SqL.of e) q
theorem i_lenLD {p : Addr} {ds : List PyData} (s : LD K H p ds) (q : Q (.int ds.length) H) : qLen K [.ref p] H Q := by
  obtain ⟨vs, e, t⟩ := s
  rw [← t.len] at q
  exact i_lenL (SqL.of e) q
theorem i_ixD {p : V} {ds : List PyData} {i : Int} {d : PyData} (h : TD K H p (.tuple ds)) (h0 : 0 ≤ i) (e : ds[i.toNat]? = some d) (q : ∀ y, TD K H y d → Q y H) : rIxT K p (.int i) H Q := by
  obtain ⟨a, xs, rfl, s, t⟩ := h.tup_inv
  obtain ⟨y, ey, hy⟩ := t.get e
  refine ⟨a, xs, i, y, rfl, rfl, s, ?_, q y hy⟩
  have := atI_nat (xs := xs) (j := i.toNat) (v := y) ey
  rw [Int.toNat_of_nonneg h0] at this
  exact this
theorem i_ixDI {p : V} {ds : List PyData} {i j : Int} (h : TD K H p (.tuple ds)) (h0 : 0 ≤ i) (e : ds[i.toNat]? = some (.int j)) (q : Q (.int j) H) : rIxT K p (.int i) H Q :=
  i_ixD h h0 e fun y hy => by rw [hy.int_inv]; exact q
theorem i_ixDO {p : V} {ds : List PyData} {i : Int} {o : Option Int} (h : TD K H p (.tuple ds)) (h0 : 0 ≤ i) (e : ds[i.toNat]? = some (oD o)) (q : Q (ovO o) H) : rIxT K p (.int i) H Q :=
  i_ixD h h0 e fun y hy => by rw [hy.ov_inv]; exact q
theorem i_ixDS {p : V} {ds : List PyData} {i : Int} {j : Str} (h : TD K H p (.tuple ds)) (h0 : 0 ≤ i) (e : ds[i.toNat]? = some (.str j)) (q : Q (.str j) H) : rIxT K p (.int i) H Q :=
  i_ixD h h0 e fun y hy => by rw [hy.str_inv]; exact q
theorem i_lenDt {p : V} {ds : List PyData} (h : TD K H p (.tuple ds)) (q : Q (.int ds.length) H) : qLen K [p] H Q := by
  obtain ⟨a, xs, rfl, s, t⟩ := h.tup_inv
  rw [← t.len] at q
  exact i_lenT s q
theorem i_gTupD {n : Nat} {t : TGs} {v : V} {ds : List PyData} {R : L2.St → Hp → Prop} (h : TD K H v (.tuple ds)) (e : ds.length = n) (q : ∀ xs, TDs K H xs ds → t xs σ H R) : gTup K n t v σ H R := by
  obtain ⟨a, xs, rfl, s, u⟩ := h.tup_inv
  exact i_gTup s (by rw [u.len, e]) (q xs u)
theorem i_gPair {n : Nat} {t : TGs} {v : V} {p : Int × Int} {R : L2.St → Hp → Prop} (h : TD K H v (pD p)) (e : 2 = n) (q : t [.int p.1, .int p.2] σ H R) : gTup K n t v σ H R := by
  obtain ⟨a, rfl, s⟩ := h.pair_inv
  exact i_gTup s e q
theorem i_isTD {v : V} {ds : List PyData} {R : Addr → Prop} (h : TD K H v (.tuple ds)) (q : ∀ a xs, v = .ref a → SqT K H a xs → TDs K H xs ds → R a) : ∃ a', v = .ref a' ∧ (∃ xs, SqT K H a' xs) ∧ R a' := by
  obtain ⟨a, xs, e, s, t⟩ := h.tup_inv
  exact ⟨a, e, ⟨xs, s⟩, q a xs e s t⟩
theorem i_lstTD {v : V} {ds : List PyData} (h : TD K H v (.tuple ds)) (q : ∀ xs l, TDs K H xs ds → H l = none → Q (.ref l) (upd H l (.lst xs))) : rLstOf K [v] H Q := by
  obtain ⟨a, xs, rfl, s, t⟩ := h.tup_inv
  exact i_lstT s fun l hl => q xs l t hl
theorem i_tupTD {v : V} {ds : List PyData} (h : TD K H v (.tuple ds)) (q : Q v H) : rTupOf K [v] H Q := by
  obtain ⟨a, xs, rfl, s, t⟩ := h.tup_inv
  exact i_tupT s q
theorem TDs.pair_at {vs : List V} {ps : List (Int × Int)} {i : Nat} {v : V} (h : TDs K H vs (ps.map pD)) (e : vs[i]? = some v) : ∃ p, ps[i]? = some p ∧ TD K H v (pD p) ∧ ps.take (i + 1) = ps.take i ++ [p] ∧ i < ps.length := by
  obtain ⟨d, e1, t, _, hl⟩ := h.at e
  rw [List.getElem?_map] at e1
  cases e2 : ps[i]? with
  | none => rw [e2] at e1; cases e1
  | some p =>
    rw [e2] at e1
    cases e1
    exact ⟨p, rfl, t, by rw [List.take_add_one, e2]; rfl, (List.getElem?_eq_some_iff.mp e2).1⟩
theorem i_eqNI {j : Int} (q : Q (.bl false) H) : rEq .non (.int j) H Q := ⟨rfl, by
  have e : decide (V.non = V.int j) = false := by simp
  rw [e]; exact q⟩
/-! shapes -/
theorem Shp.str {x : Str} (h : PyData.canLay0 (.str x) = true) : Shp 0 (.str x) := ⟨h, by simp [PyData.depth]⟩
theorem Shp.oD (o : Option Int) : Shp 0 (oD o) := by
  cases o with
  | none => exact Shp.non
  | some z => exact Shp.int z
theorem Shp.ovs (os : List (Option Int)) : Shp 1 (.tuple (os.map Law.oD)) := Shp.tup fun d hd => by
  obtain ⟨x, _, rfl⟩ := List.mem_map.mp hd
  exact Shp.oD x
theorem Shp.pD (p : Int × Int) : Shp 1 (pD p) := Shp.tup fun d hd => by
  rcases List.mem_cons.mp hd with rfl | hd
  · exact Shp.int _
  · rcases List.mem_cons.mp hd with rfl | hd
    · exact Shp.int _
    · cases hd
theorem Shp.prs (ps : List (Int × Int)) : Shp 2 (.tuple (ps.map Law.pD)) := Shp.tup fun d hd => by
  obtain ⟨x, _, rfl⟩ := List.mem_map.mp hd
  exact Shp.pD x
/-! dicts with text keys -/
theorem i_disp {trs : List (TE × TE)} (h : ∀ p, H p = none → tPairs trs σ (upd H p (.dK [])) fun ps H2 => H2 p = some (.dK []) ∧ ∃ kvs : List (L2.Key × V), ps = kvs.map (fun kv => (kV kv.1, kv.2)) ∧ kvs.length ≤ 15 ∧ Q (.ref p) (upd H2 p (.dK (mergeK [] kvs)))) : tDisp trs σ H Q := h
theorem i_pNil {R : List (V × V) → Hp → Prop} (h : R [] H) : tPairs [] σ H R := h
theorem i_pCons {tk tv : TE} {r : List (TE × TE)} {R : List (V × V) → Hp → Prop} (h : tk σ H fun x H1 => tv σ H1 fun y H2 => tPairs r σ H2 fun ps H3 => R ((x, y) :: ps) H3) : tPairs ((tk, tv) :: r) σ H R := h
theorem i_dgetS {p : Addr} {i : Str} {v : V} {kvs : List (L2.Key × V)} {R : V → Prop} (h : Rd H p (.dK kvs)) (e : valV kvs (.inr i) = some v) (q : R v) : ∃ a v', V.ref p = .ref a ∧ DGet H a (.str i) (some v') ∧ R v' :=
  ⟨p, v, rfl, .inl ⟨kvs, .inr i, h, rfl, e.symm⟩, q⟩
end
/- data at the heap of the goal -/
local macro_rules | `(tactic| wtm_at "jtd") => `(tactic| first | assumption | ((with_reducible refine' TD.same (same_new ?hn) ?hh); (case hn => assumption); (case hh => wtm_at "jtd")))
local macro_rules | `(tactic| wtm_at "jw1") => `(tactic| first
  | ((with_reducible refine' i_ixDI ?h ?h0 ?e ?_); (case h => wtm_at "jtd"); (case h0 => wtm_at "jside"); (case e => wtm_at "jat"))
  | ((with_reducible refine' i_ixDO ?h ?h0 ?e ?_); (case h => wtm_at "jtd"); (case h0 => wtm_at "jside"); (case e => wtm_at "jat"))
  | ((with_reducible refine' i_ixDS ?h ?h0 ?e ?_); (case h => wtm_at "jtd"); (case h0 => wtm_at "jside"); (case e => wtm_at "jat"))
  | ((with_reducible refine' i_ix2 (i_ixDI ?h ?h0 ?e ?_)); (case h => wtm_at "jtd"); (case h0 => wtm_at "jside"); (case e => wtm_at "jat"))
  | ((with_reducible refine' i_ix2 (i_ixDO ?h ?h0 ?e ?_)); (case h => wtm_at "jtd"); (case h0 => wtm_at "jside"); (case e => wtm_at "jat"))
  | ((with_reducible refine' i_ixD ?h ?h0 ?e ?_); (case h => wtm_at "jtd"); (case h0 => wtm_at "jside"); (case e => wtm_at "jat"); intro _ _)
  | ((with_reducible refine' i_ix2 (i_ixD ?h ?h0 ?e ?_)); (case h => wtm_at "jtd"); (case h0 => wtm_at "jside"); (case e => wtm_at "jat"); intro _ _)
  | ((with_reducible refine' i_lenDt ?h ?_); (case h => wtm_at "jtd"))
  | with_reducible refine' i_eqNI ?_
  | ((with_reducible refine' i_tyLD ?h ?_); (case h => assumption))
  | ((with_reducible refine' i_lenLD ?h ?_); (case h => assumption))
  | ((with_reducible refine' i_gPair ?h ?e ?_); (case h => wtm_at "jtd"); (case e => rfl))
  | with_reducible refine' i_pNil ?_ | with_reducible refine' i_pCons ?_)

/-! ### draws and picks, said shortly -/
section
variable {K : PySem.W.Frag} {p a B : Addr} {H0 H : Hp} {Q : VK} {E : XK}
theorem drawL {m : Int} (w : Drew p a H0 H) (h0 : 0 < m) (h1 : m < 18446744073709551616) (q : ∀ z H', 0 ≤ z → z < m → Drew p a H H' → Drew p a H0 H' → Q (.int z) H') : sp__law_draw K [.ref p, .int m] H Q E :=
  ⟨p, a, m, rfl, w.at_, h0, h1, fun z H' z0 z1 e => q z H' z0 z1 e (w.trans e)⟩
theorem pickL {xs : List V} (P : Int → Prop) (ns : List Int) (w : Drew p a H0 H) (hB : H B = none) (e : xs = ns.map V.int) (h0 : 0 < ns.length) (h1 : ns.length < 1000) (hP : ∀ z ∈ ns, P z)
    (q : ∀ z H', P z → Drew p a H H' → Drew p a H0 H' → Q (.int z) H') : sp__law_pick K [.ref p, .ref B] (upd H B (.lst xs)) Q E := by
  subst e
  refine ⟨p, a, B, ns.map V.int, rfl, w.at_.same (same_new hB), .inl ⟨w.at_.ne_none hB, SqL.of upd_same⟩, by rw [List.length_map]; exact h0, by rw [List.length_map]; omega, fun x H' hx e => ?_⟩
  obtain ⟨z, hz, rfl⟩ := List.mem_map.mp hx
  have e1 := (w.at_.drew.new (o := .lst (ns.map V.int)) hB).trans e
  exact q z H' (hP z hz) e1 (w.trans e1)
theorem pickV {xs : List V} (w : Drew p a H0 H) (hB : H B = none) (h0 : 0 < xs.length) (h1 : xs.length < 1000) (q : ∀ x H', x ∈ xs → Drew p a H H' → Drew p a H0 H' → Q x H') : sp__law_pick K [.ref p, .ref B] (upd H B (.lst xs)) Q E := by
  refine ⟨p, a, B, xs, rfl, w.at_.same (same_new hB), .inl ⟨w.at_.ne_none hB, SqL.of upd_same⟩, h0, by omega, fun x H' hx e => ?_⟩
  have e1 := (w.at_.drew.new (o := .lst xs) hB).trans e
  exact q x H' hx e1 (w.trans e1)
/-- a pick out of a list that stands -/
theorem pickS {xs : List V} (w : Drew p a H0 H) (hB : H B = some (.lst xs)) (n : B ≠ p) (h0 : 0 < xs.length) (h1 : xs.length < 1000000) (q : ∀ x H', x ∈ xs → Drew p a H H' → Drew p a H0 H' → Q x H') : sp__law_pick K [.ref p, .ref B] H Q E :=
  ⟨p, a, B, xs, rfl, w.at_, .inl ⟨n, SqL.of hB⟩, h0, by omega, fun x H' hx e => q x H' hx e (w.trans e)⟩
theorem pickT {xs : List V} (w : Drew p a H0 H) (hB : SqT K H B xs) (h0 : 0 < xs.length) (h1 : xs.length < 1000000) (q : ∀ x H', x ∈ xs → Drew p a H H' → Drew p a H0 H' → Q x H') : sp__law_pick K [.ref p, .ref B] H Q E :=
  ⟨p, a, B, xs, rfl, w.at_, .inr hB, h0, by omega, fun x H' hx e => q x H' hx e (w.trans e)⟩
end
theorem LD.drew {K : PySem.W.Frag} {p a f : Addr} {H H' : Hp} {ds : List PyData} (h : LD K H f ds) (d : DrawAt H p a) (e : Drew p a H H') (n : f ≠ p) : LD K H' f ds := by
  obtain ⟨xs, hp⟩ := d.some
  exact h.kp e.kp hp n
theorem LPr.drew {p a f : Addr} {H H' : Hp} {fo : List (Int × Int)} (h : LPr H f fo) (d : DrawAt H p a) (e : Drew p a H H') (n : f ≠ p) : LPr H' f fo := by
  obtain ⟨xs, hp⟩ := d.some
  exact h.kp e.kp hp n
/-- a pure choice of two -/
theorem i_ifP {σ : L2.St} {H : Hp} {Q : VK} {c : TT} {ta tb : TE} (P : V → Prop) (hc : ∀ R : Bool → Hp → Prop, (∀ b, R b H) → c σ H R) (ha : ∀ R : VK, (∀ v, P v → R v H) → ta σ H R) (hb : ∀ R : VK, (∀ v, P v → R v H) → tb σ H R) (q : ∀ v, P v → Q v H) : tIf c ta tb σ H Q :=
  hc _ fun b => by
    cases b
    · exact hb _ q
    · exact ha _ q
theorem all_two {P : Int → Prop} {x y : Int} (h1 : P x) (h2 : P y) : ∀ z ∈ [x, y], P z := by simp; exact ⟨h1, h2⟩

theorem inV_ints (z : Int) (ns : List Int) : inV (.int z) (ns.map V.int) = decide (z ∈ ns) := by
  unfold inV
  rw [List.any_map, Bool.eq_iff_iff, List.any_eq_true, decide_eq_true_eq]
  constructor
  · rintro ⟨y, hy, e⟩
    have : y = z := by simpa [eqV] using e
    exact this ▸ hy
  · intro h
    exact ⟨z, h, by simp [eqV]⟩
theorem flat_ints (ns : List Int) : (ns.map V.int).all flatV = true := by
  rw [List.all_map, List.all_eq_true]
  intro x _
  rfl
section
variable {K : PySem.W.Frag} {H : Hp} {Q : VK} {p : Addr} {z : Int} {ns : List Int}
theorem i_inT (h : SqT K H p (ns.map V.int)) (q : Q (.bl (decide (z ∈ ns))) H) : rIn K false (.int z) (.ref p) H Q := ⟨p, _, rfl, .inr h, rfl, flat_ints ns, by rw [inV_ints]; exact q⟩
theorem i_inL (h : SqL K H p (ns.map V.int)) (q : Q (.bl (decide (z ∈ ns))) H) : rIn K false (.int z) (.ref p) H Q := ⟨p, _, rfl, .inl h, rfl, flat_ints ns, by rw [inV_ints]; exact q⟩
theorem i_ninT (h : SqT K H p (ns.map V.int)) (q : Q (.bl (!decide (z ∈ ns))) H) : rIn K true (.int z) (.ref p) H Q := ⟨p, _, rfl, .inr h, rfl, flat_ints ns, by rw [inV_ints]; exact q⟩
theorem i_ninL (h : SqL K H p (ns.map V.int)) (q : Q (.bl (!decide (z ∈ ns))) H) : rIn K true (.int z) (.ref p) H Q := ⟨p, _, rfl, .inl h, rfl, flat_ints ns, by rw [inV_ints]; exact q⟩
end

/-! ### texts as tags: tests that are decided -/
theorem c_boolT {b : Bool} {A B : Prop} (h : b = true) (x : A) : if b = true then A else B := by rw [if_pos h]; exact x
theorem c_boolF {b : Bool} {A B : Prop} (h : b = false) (x : B) : if b = true then A else B := by rw [if_neg (by rw [h]; exact Bool.false_ne_true)]; exact x
theorem c_boolTN {b : Bool} {A B : Prop} (h : b = false) (x : A) : if (!b) = true then A else B := by rw [h]; exact iteT x
theorem c_boolFN {b : Bool} {A B : Prop} (h : b = true) (x : B) : if (!b) = true then A else B := by rw [h]; exact iteF x
section
variable {K : PySem.W.Frag} {H : Hp} {Q : VK} {p : Addr} {x : V} {xs : List V}
theorem i_inV (h : SqT K H p xs) (fx : flatV x = true) (fs : xs.all flatV = true) (q : Q (.bl (inV x xs)) H) : rIn K false x (.ref p) H Q := ⟨p, xs, rfl, .inr h, fx, fs, q⟩
theorem i_ninV (h : SqT K H p xs) (fx : flatV x = true) (fs : xs.all flatV = true) (q : Q (.bl (!inV x xs)) H) : rIn K true x (.ref p) H Q := ⟨p, xs, rfl, .inr h, fx, fs, q⟩
theorem i_ixS {z : Str} {i : Int} {c : Nat} (hz : z.length ≤ sizeLine) (e : atI z.cps.toList i = some c) (q : Q (.str ⟨#[c]⟩) H) : rIxS (.str z) (.int i) H Q := ⟨z, i, c, rfl, rfl, hz, e, q⟩
end
local macro_rules | `(tactic| wtm_at "jsame") => `(tactic| first | exact Same.refl _ | assumption | ((refine Same.trans ?aa (same_new ?hh)); (case hh => assumption); (case aa => wtm_at "jsame")))
local macro_rules | `(tactic| wtm_at "jo") => `(tactic| repeat (first
  | wtm_at "jw1"
  | with_reducible refine' i_ifS ?_
  | (with_reducible refine' i_inV (SqT.of upd_same) rfl rfl ?_)
  | (with_reducible refine' i_ninV (SqT.of upd_same) rfl rfl ?_)
  | (with_reducible refine' c_boolT ?h ?_; (case h => decide +kernel)) | (with_reducible refine' c_boolF ?h ?_; (case h => decide +kernel))
  | (with_reducible refine' c_boolTN ?h ?_; (case h => decide +kernel)) | (with_reducible refine' c_boolFN ?h ?_; (case h => decide +kernel))
  | (with_reducible refine' c_yes ?h ?_; (case h => decide +kernel)) | (with_reducible refine' c_no ?h ?_; (case h => decide +kernel))
  | (intro _ _)))

/-! ### the operations -/
def hol (lo n hi : Int) : Int := if hi < (if lo > n then lo else n) then hi else (if lo > n then lo else n)
theorem hol_eq {lo n hi : Int} (h : lo ≤ hi) : hol lo n hi = if n < lo then lo else if n > hi then hi else n := by
  unfold hol
  repeat' split
  all_goals omega
theorem hol_in {lo n hi : Int} (h : lo ≤ hi) : lo ≤ hol lo n hi ∧ hol lo n hi ≤ hi := by
  rw [hol_eq h]
  repeat' split
  all_goals omega
inductive Op2 | fadd | fsub | fmul | cadd | csub | cmul | least | most | lt | le | eq | ne
def Op2.nm : Op2 → Str
  | .fadd => "fadd" | .fsub => "fsub" | .fmul => "fmul" | .cadd => "cadd" | .csub => "csub" | .cmul => "cmul" | .least => "least" | .most => "most" | .lt => "lt" | .le => "le" | .eq => "eq" | .ne => "ne"
def Op2.res : Op2 → Int → Int → Int
  | .fadd, l, r => hol (-32768) (l + r) 32767
  | .fsub, l, r => hol (-32768) (l - r) 32767
  | .fmul, l, r => hol (-32768) (l * r / 16) 32767
  | .cadd, l, r => hol 0 (l + r) 255
  | .csub, l, r => hol 0 (l - r) 255
  | .cmul, l, r => hol 0 (l * r) 255
  | .least, l, r => if r < l then r else l
  | .most, l, r => if r > l then r else l
  | .lt, l, r => if l < r then 1 else 0
  | .le, l, r => if l ≤ r then 1 else 0
  | .eq, l, r => if l = r then 1 else 0
  | .ne, l, r => if l = r then 0 else 1
inductive Op1 | fneg | not | fix | whole
def Op1.nm : Op1 → Str
  | .fneg => "fneg" | .not => "not" | .fix => "fix" | .whole => "whole"
def Op1.res : Op1 → Int → Int
  | .fneg, v => hol (-32768) (0 - v) 32767
  | .not, v => 1 - v
  | .fix, v => 16 * v
  | .whole, v => hol 0 (v / 16) 255
def sp_clamp (K : PySem.W.Frag) : Sp := fun vs H Q _ => ∃ (n : Int), vs = [.int n] ∧ Q (.int (hol (-32768) n 32767)) H
theorem ok_clamp {P : Program} {w : World} {K : PySem.W.Frag} {mg : Str → Option Value} {base : Heap} {f : Addr} {fd : FuncData} (F : Df K mg "clamp" s_clamp f fd ["number"]) (T : Txt mg) : FnOk P w K mg base CX0 1 f fd ["number"] (sp_clamp K) := by
  refine F.ok sc_clamp (fun vs H Q E h => ?_) (fun cdv A outer s H vs Q E hr h => ?_)
  · obtain ⟨n, rfl, _⟩ := h
    rfl
  · obtain ⟨n, rfl, q⟩ := h
    rw [hol_eq (by decide)] at q
    refine ⟨_, (pss_cons (ps_if (pt_cmpR op_lt (pv 0) (pe_cn rfl T.c_LOW) (nomark _)) (pss_one (ps_ret (pe_cn rfl T.c_LOW))) pss_nil)
      (pss_cons (ps_if (pt_cmpR op_gt (pv 0) (pe_cn rfl T.c_HIGH) (nomark _)) (pss_one (ps_ret (pe_cn rfl T.c_HIGH))) pss_nil)
      (pss_one (ps_ret (pv 0))))), ?_⟩
    try dsimp only [cxOf, Cx.nox, Cx.wish]
    refine st_of (σ' := [some _]) rfl ?_
    wtm_at "jw"
    refine c_dec (fun h => ?_) (fun h => ?_)
    · rw [if_pos h] at q
      wtm_at "jw"
      exact q
    · rw [if_neg h] at q
      wtm_at "jw"
      refine c_dec (fun h => ?_) (fun h => ?_)
      · rw [if_pos h] at q
        wtm_at "jw"
        exact q
      · rw [if_neg h] at q
        wtm_at "jw"
        exact q
def sp_clamp_count (K : PySem.W.Frag) : Sp := fun vs H Q _ => ∃ (n : Int), vs = [.int n] ∧ Q (.int (hol 0 n 255)) H
theorem ok_clamp_count {P : Program} {w : World} {K : PySem.W.Frag} {mg : Str → Option Value} {base : Heap} {f : Addr} {fd : FuncData} (F : Df K mg "clamp_count" s_clamp_count f fd ["number"]) (T : Txt mg) : FnOk P w K mg base CX0 1 f fd ["number"] (sp_clamp_count K) := by
  refine F.ok sc_clamp_count (fun vs H Q E h => ?_) (fun cdv A outer s H vs Q E hr h => ?_)
  · obtain ⟨n, rfl, _⟩ := h
    rfl
  · obtain ⟨n, rfl, q⟩ := h
    rw [hol_eq (by decide)] at q
    refine ⟨_, (pss_cons (ps_if (pt_cmpR op_lt (pv 0) pe_int (nomark _)) (pss_one (ps_ret pe_int)) pss_nil)
      (pss_cons (ps_if (pt_cmpR op_gt (pv 0) (pe_cn rfl T.c_MOST_COUNT) (nomark _)) (pss_one (ps_ret (pe_cn rfl T.c_MOST_COUNT))) pss_nil)
      (pss_one (ps_ret (pv 0))))), ?_⟩
    try dsimp only [cxOf, Cx.nox, Cx.wish]
    refine st_of (σ' := [some _]) rfl ?_
    wtm_at "jw"
    refine c_dec (fun h => ?_) (fun h => ?_)
    · rw [if_pos h] at q
      wtm_at "jw"
      exact q
    · rw [if_neg h] at q
      wtm_at "jw"
      refine c_dec (fun h => ?_) (fun h => ?_)
      · rw [if_pos h] at q
        wtm_at "jw"
        exact q
      · rw [if_neg h] at q
        wtm_at "jw"
        exact q
def sp__law_hold (K : PySem.W.Frag) : Sp := fun vs H Q _ => ∃ (lo n hi : Int), vs = [.int lo, .int n, .int hi] ∧ Q (.int (hol lo n hi)) H
theorem ok__law_hold {P : Program} {w : World} {K : PySem.W.Frag} {mg : Str → Option Value} {base : Heap} {f : Addr} {fd : FuncData} (F : Df K mg "_law_hold" s__law_hold f fd ["low", "number", "high"]) (T : Txt mg) : FnOk P w K mg base CX0 1 f fd ["low", "number", "high"] (sp__law_hold K) := by
  refine F.ok sc__law_hold (fun vs H Q E h => ?_) (fun cdv A outer s H vs Q E hr h => ?_)
  · obtain ⟨lo, n, hi, rfl, _⟩ := h
    rfl
  · obtain ⟨lo, n, hi, rfl, q⟩ := h
    unfold hol at q
    refine ⟨_, (pss_one (ps_ret (pe_callB (id := "min") (c_min2 rfl) (by rfl) T.b_min (by decide +kernel) (pa_cons (pe_callB (id := "max") (c_max2 rfl) (by rfl) T.b_max (by decide +kernel) (pa_cons (pv 1) (pa_cons (pv 0) pa_nil))) (pa_cons (pv 2) pa_nil))))), ?_⟩
    try dsimp only [cxOf, Cx.nox, Cx.wish]
    refine st_of (σ' := [some _, some _, some _]) rfl ?_
    wtm_at "jw"
    exact q
def Sml (l : Int) : Prop := -40000 ≤ l ∧ l ≤ 40000
def sp_fixed_result (K : PySem.W.Frag) : Sp := fun vs H Q _ => ∃ (o : Op2) (l r : Int), vs = [.str o.nm, .int l, .int r] ∧ Sml l ∧ Sml r ∧ (o = .fadd ∨ o = .fsub ∨ o = .fmul) ∧ Q (.int (o.res l r)) H
theorem ok_fixed_result {P : Program} {w : World} {K : PySem.W.Frag} {mg : Str → Option Value} {base : Heap} {f : Addr} {fd : FuncData} (F : Df K mg "fixed_result" s_fixed_result f fd ["op", "left", "right"]) (T : Txt mg)
    (c_clamp : Cl P w K mg base 1 "clamp" (sp_clamp K)) : FnOk P w K mg base CX0 2 f fd ["op", "left", "right"] (sp_fixed_result K) := by
  refine F.ok sc_fixed_result (fun vs H Q E h => ?_) (fun cdv A outer s H vs Q E hr h => ?_)
  · obtain ⟨o, l, r, rfl, _⟩ := h
    rfl
  · obtain ⟨o, l, r, rfl, ⟨l0, l1⟩, ⟨r0, r1⟩, ho, q⟩ := h
    refine ⟨_, (pss_cons (ps_if (pt_cmpR op_eq (pv 0) pe_str (nomark _)) (pss_one (ps_ret (pe_cl c_clamp hr (by decide) rfl (pa_cons (pe_op op_add (pv 1) (pv 2)) pa_nil)))) pss_nil)
      (pss_cons (ps_if (pt_cmpR op_eq (pv 0) pe_str (nomark _)) (pss_one (ps_ret (pe_cl c_clamp hr (by decide) rfl (pa_cons (pe_op op_sub (pv 1) (pv 2)) pa_nil)))) pss_nil)
      (pss_one (ps_ret (pe_cl c_clamp hr (by decide) rfl (pa_cons (pe_op op_fdiv (pe_op op_mul (pv 1) (pv 2)) (pe_cn rfl T.c_PART)) pa_nil)))))), ?_⟩
    try dsimp only [cxOf, Cx.nox, Cx.wish]
    refine st_of (σ' := [some _, some _, some _]) rfl ?_
    rcases ho with rfl | rfl | rfl
    all_goals
      wtm_at "jo"
      refine ⟨_, rfl, ?_⟩
      exact q
def sp_count_result (K : PySem.W.Frag) : Sp := fun vs H Q _ => ∃ (o : Op2) (l r : Int), vs = [.str o.nm, .int l, .int r] ∧ Sml l ∧ Sml r ∧ (o = .cadd ∨ o = .csub ∨ o = .cmul) ∧ Q (.int (o.res l r)) H
theorem ok_count_result {P : Program} {w : World} {K : PySem.W.Frag} {mg : Str → Option Value} {base : Heap} {f : Addr} {fd : FuncData} (F : Df K mg "count_result" s_count_result f fd ["op", "left", "right"]) (T : Txt mg)
    (c_clamp_count : Cl P w K mg base 1 "clamp_count" (sp_clamp_count K)) : FnOk P w K mg base CX0 2 f fd ["op", "left", "right"] (sp_count_result K) := by
  refine F.ok sc_count_result (fun vs H Q E h => ?_) (fun cdv A outer s H vs Q E hr h => ?_)
  · obtain ⟨o, l, r, rfl, _⟩ := h
    rfl
  · obtain ⟨o, l, r, rfl, ⟨l0, l1⟩, ⟨r0, r1⟩, ho, q⟩ := h
    refine ⟨_, (pss_cons (ps_if (pt_cmpR op_eq (pv 0) pe_str (nomark _)) (pss_one (ps_ret (pe_cl c_clamp_count hr (by decide) rfl (pa_cons (pe_op op_add (pv 1) (pv 2)) pa_nil)))) pss_nil)
      (pss_cons (ps_if (pt_cmpR op_eq (pv 0) pe_str (nomark _)) (pss_one (ps_ret (pe_cl c_clamp_count hr (by decide) rfl (pa_cons (pe_op op_sub (pv 1) (pv 2)) pa_nil)))) pss_nil)
      (pss_one (ps_ret (pe_cl c_clamp_count hr (by decide) rfl (pa_cons (pe_op op_mul (pv 1) (pv 2)) pa_nil)))))), ?_⟩
    try dsimp only [cxOf, Cx.nox, Cx.wish]
    refine st_of (σ' := [some _, some _, some _]) rfl ?_
    rcases ho with rfl | rfl | rfl
    all_goals
      wtm_at "jo"
      refine ⟨_, rfl, ?_⟩
      exact q
def sp_compared (K : PySem.W.Frag) : Sp := fun vs H Q _ => ∃ (o : Op2) (l r : Int), vs = [.str o.nm, .int l, .int r] ∧ (o = .lt ∨ o = .le ∨ o = .eq ∨ o = .ne) ∧ Q (.int (o.res l r)) H
theorem ok_compared {P : Program} {w : World} {K : PySem.W.Frag} {mg : Str → Option Value} {base : Heap} {f : Addr} {fd : FuncData} (F : Df K mg "compared" s_compared f fd ["op", "left", "right"]) (T : Txt mg) : FnOk P w K mg base CX0 1 f fd ["op", "left", "right"] (sp_compared K) := by
  refine F.ok sc_compared (fun vs H Q E h => ?_) (fun cdv A outer s H vs Q E hr h => ?_)
  · obtain ⟨o, l, r, rfl, _⟩ := h
    rfl
  · obtain ⟨o, l, r, rfl, ho, q⟩ := h
    refine ⟨_, (pss_cons (ps_if (pt_cmpR op_eq (pv 0) pe_str (nomark _)) (pss_one (ps_ret (pe_ifExp (pt_cmpR op_lt (pv 1) (pv 2) (nomark _)) pe_int pe_int))) pss_nil)
      (pss_cons (ps_if (pt_cmpR op_eq (pv 0) pe_str (nomark _)) (pss_one (ps_ret (pe_ifExp (pt_cmpR op_le (pv 1) (pv 2) (nomark _)) pe_int pe_int))) pss_nil)
      (pss_cons (ps_if (pt_cmpR op_eq (pv 0) pe_str (nomark _)) (pss_one (ps_ret (pe_ifExp (pt_cmpR op_eq (pv 1) (pv 2) (nomark _)) pe_int pe_int))) pss_nil)
      (pss_one (ps_ret (pe_ifExp (pt_cmpR op_ne (pv 1) (pv 2) (nomark _)) pe_int pe_int)))))), ?_⟩
    try dsimp only [cxOf, Cx.nox, Cx.wish]
    refine st_of (σ' := [some _, some _, some _]) rfl ?_
    rcases ho with rfl | rfl | rfl | rfl
    all_goals
      unfold Op2.res at q
      simp only at q
      wtm_at "jo"
    · refine c_dec (fun h => ?_) (fun h => ?_)
      · rw [if_pos h] at q; exact q
      · rw [if_neg h] at q; exact q
    · refine c_dec (fun h => ?_) (fun h => ?_)
      · rw [if_pos h] at q; exact q
      · rw [if_neg h] at q; exact q
    · refine c_dec (fun h => ?_) (fun h => ?_)
      · rw [if_pos h] at q; exact q
      · rw [if_neg h] at q; exact q
    · refine c_decN (fun h => ?_) (fun h => ?_)
      · rw [if_neg h] at q; exact q
      · rw [if_pos h] at q; exact q
def sp_result (K : PySem.W.Frag) : Sp := fun vs H Q _ => ∃ (o : Op2) (l r : Int), vs = [.str o.nm, .int l, .int r] ∧ Sml l ∧ Sml r ∧ ∀ H', Same H H' → Q (.int (o.res l r)) H'
theorem ok_result {P : Program} {w : World} {K : PySem.W.Frag} {mg : Str → Option Value} {base : Heap} {f : Addr} {fd : FuncData} (F : Df K mg "result" s_result f fd ["op", "left", "right"]) (T : Txt mg)
    (c_compared : Cl P w K mg base 1 "compared" (sp_compared K))
    (c_fixed_result : Cl P w K mg base 2 "fixed_result" (sp_fixed_result K))
    (c_count_result : Cl P w K mg base 2 "count_result" (sp_count_result K)) : FnOk P w K mg base CX0 3 f fd ["op", "left", "right"] (sp_result K) := by
  refine F.ok sc_result (fun vs H Q E h => ?_) (fun cdv A outer s H vs Q E hr h => ?_)
  · obtain ⟨o, l, r, rfl, _⟩ := h
    rfl
  · obtain ⟨o, l, r, rfl, hl, hr', q⟩ := h
    refine ⟨_, (pss_cons (ps_if (pt_cmpR (r := rIn K false) op_in_seq (pv 0) (pe_tup (pa_cons pe_str (pa_cons pe_str (pa_cons pe_str pa_nil)))) rfl) (pss_one (ps_ret (pe_cl c_fixed_result hr (by decide) rfl (pa_cons (pv 0) (pa_cons (pv 1) (pa_cons (pv 2) pa_nil)))))) pss_nil)
      (pss_cons (ps_if (pt_cmpR (r := rIn K false) op_in_seq (pv 0) (pe_tup (pa_cons pe_str (pa_cons pe_str (pa_cons pe_str pa_nil)))) rfl) (pss_one (ps_ret (pe_cl c_count_result hr (by decide) rfl (pa_cons (pv 0) (pa_cons (pv 1) (pa_cons (pv 2) pa_nil)))))) pss_nil)
      (pss_cons (ps_if (pt_cmpR op_eq (pv 0) pe_str (nomark _)) (pss_one (ps_ret (pe_ifExp (pt_cmpR op_le (pv 1) (pv 2) (nomark _)) (pv 1) (pv 2)))) pss_nil)
      (pss_cons (ps_if (pt_cmpR op_eq (pv 0) pe_str (nomark _)) (pss_one (ps_ret (pe_ifExp (pt_cmpR op_ge (pv 1) (pv 2) (nomark _)) (pv 1) (pv 2)))) pss_nil)
      (pss_one (ps_ret (pe_cl c_compared hr (by decide) rfl (pa_cons (pv 0) (pa_cons (pv 1) (pa_cons (pv 2) pa_nil)))))))))), ?_⟩
    try dsimp only [cxOf, Cx.nox, Cx.wish]
    refine st_of (σ' := [some _, some _, some _]) rfl ?_
    cases o
    all_goals wtm_at "jo"
    · exact ⟨.fadd, l, r, rfl, hl, hr', .inl rfl, q _ (by wtm_at "jsame")⟩
    · exact ⟨.fsub, l, r, rfl, hl, hr', .inr (.inl rfl), q _ (by wtm_at "jsame")⟩
    · exact ⟨.fmul, l, r, rfl, hl, hr', .inr (.inr rfl), q _ (by wtm_at "jsame")⟩
    · exact ⟨.cadd, l, r, rfl, hl, hr', .inl rfl, q _ (by wtm_at "jsame")⟩
    · exact ⟨.csub, l, r, rfl, hl, hr', .inr (.inl rfl), q _ (by wtm_at "jsame")⟩
    · exact ⟨.cmul, l, r, rfl, hl, hr', .inr (.inr rfl), q _ (by wtm_at "jsame")⟩
    · refine c_dec (fun h => ?_) (fun h => ?_)
      · wtm_at "jo"
        rw [show Op2.res .least l r = l by show (if r < l then r else l) = l; rw [if_neg (by omega)]] at q
        exact q _ (by wtm_at "jsame")
      · wtm_at "jo"
        rw [show Op2.res .least l r = r by show (if r < l then r else l) = r; rw [if_pos (by omega)]] at q
        exact q _ (by wtm_at "jsame")
    · refine c_dec (fun h => ?_) (fun h => ?_)
      · wtm_at "jo"
        rw [show Op2.res .most l r = l by show (if r > l then r else l) = l; rw [if_neg (by omega)]] at q
        exact q _ (by wtm_at "jsame")
      · wtm_at "jo"
        rw [show Op2.res .most l r = r by show (if r > l then r else l) = r; rw [if_pos (by omega)]] at q
        exact q _ (by wtm_at "jsame")
    · exact ⟨.lt, l, r, rfl, .inl rfl, q _ (by wtm_at "jsame")⟩
    · exact ⟨.le, l, r, rfl, .inr (.inl rfl), q _ (by wtm_at "jsame")⟩
    · exact ⟨.eq, l, r, rfl, .inr (.inr (.inl rfl)), q _ (by wtm_at "jsame")⟩
    · exact ⟨.ne, l, r, rfl, .inr (.inr (.inr rfl)), q _ (by wtm_at "jsame")⟩
def sp_single (K : PySem.W.Frag) : Sp := fun vs H Q _ => ∃ (o : Op1) (v : Int), vs = [.str o.nm, .int v] ∧ Q (.int (o.res v)) H
theorem ok_single {P : Program} {w : World} {K : PySem.W.Frag} {mg : Str → Option Value} {base : Heap} {f : Addr} {fd : FuncData} (F : Df K mg "single" s_single f fd ["op", "value"]) (T : Txt mg)
    (c_clamp_count : Cl P w K mg base 1 "clamp_count" (sp_clamp_count K))
    (c_clamp : Cl P w K mg base 1 "clamp" (sp_clamp K)) : FnOk P w K mg base CX0 2 f fd ["op", "value"] (sp_single K) := by
  refine F.ok sc_single (fun vs H Q E h => ?_) (fun cdv A outer s H vs Q E hr h => ?_)
  · obtain ⟨o, v, rfl, _⟩ := h
    rfl
  · obtain ⟨o, v, rfl, q⟩ := h
    refine ⟨_, (pss_cons (ps_if (pt_cmpR op_eq (pv 0) pe_str (nomark _)) (pss_one (ps_ret (pe_cl c_clamp hr (by decide) rfl (pa_cons (pe_un un_neg (pv 1)) pa_nil)))) pss_nil)
      (pss_cons (ps_if (pt_cmpR op_eq (pv 0) pe_str (nomark _)) (pss_one (ps_ret (pe_op op_sub pe_int (pv 1)))) pss_nil)
      (pss_cons (ps_if (pt_cmpR op_eq (pv 0) pe_str (nomark _)) (pss_one (ps_ret (pe_op op_mul (pe_cn rfl T.c_PART) (pv 1)))) pss_nil)
      (pss_one (ps_ret (pe_cl c_clamp_count hr (by decide) rfl (pa_cons (pe_op op_fdiv (pv 1) (pe_cn rfl T.c_PART)) pa_nil))))))), ?_⟩
    try dsimp only [cxOf, Cx.nox, Cx.wish]
    refine st_of (σ' := [some _, some _]) rfl ?_
    cases o
    all_goals wtm_at "jo"
    · refine ⟨_, rfl, ?_⟩
      rw [show Op1.res .fneg v = hol (-32768) (-v) 32767 by show hol (-32768) (0 - v) 32767 = _; rw [show 0 - v = -v by omega]] at q
      exact q
    · exact q
    · exact q
    · exact ⟨_, rfl, q⟩
def sp__law_due_of_one (K : PySem.W.Frag) : Sp := sp_single K
theorem ok__law_due_of_one {P : Program} {w : World} {K : PySem.W.Frag} {mg : Str → Option Value} {base : Heap} {f : Addr} {fd : FuncData} (F : Df K mg "_law_due_of_one" s__law_due_of_one f fd ["op", "v"]) (T : Txt mg)
    (c__law_hold : Cl P w K mg base 1 "_law_hold" (sp__law_hold K)) : FnOk P w K mg base CX0 2 f fd ["op", "v"] (sp__law_due_of_one K) := by
  refine F.ok sc__law_due_of_one (fun vs H Q E h => ?_) (fun cdv A outer s H vs Q E hr h => ?_)
  · obtain ⟨o, v, rfl, _⟩ := h
    rfl
  · obtain ⟨o, v, rfl, q⟩ := h
    refine ⟨_, (pss_cons (ps_if (pt_cmpR op_eq (pv 0) pe_str (nomark _)) (pss_one (ps_ret (pe_cl c__law_hold hr (by decide) rfl (pa_cons (pe_un un_neg pe_int) (pa_cons (pe_op op_sub pe_int (pv 1)) (pa_cons pe_int pa_nil)))))) pss_nil)
      (pss_cons (ps_if (pt_cmpR op_eq (pv 0) pe_str (nomark _)) (pss_one (ps_ret (pe_op op_sub pe_int (pv 1)))) pss_nil)
      (pss_cons (ps_if (pt_cmpR op_eq (pv 0) pe_str (nomark _)) (pss_one (ps_ret (pe_op op_mul pe_int (pv 1)))) pss_nil)
      (pss_one (ps_ret (pe_cl c__law_hold hr (by decide) rfl (pa_cons pe_int (pa_cons (pe_op op_fdiv (pv 1) pe_int) (pa_cons pe_int pa_nil))))))))), ?_⟩
    try dsimp only [cxOf, Cx.nox, Cx.wish]
    refine st_of (σ' := [some _, some _]) rfl ?_
    cases o
    all_goals wtm_at "jo"
    · exact ⟨_, _, _, rfl, q⟩
    · exact q
    · exact q
    · exact ⟨_, _, _, rfl, q⟩
def endsP : Bool → Int × Int
  | true => (0, 255)
  | false => (-32768, 32767)
def kdS : Bool → Str
  | true => "count"
  | false => "fixed"
def sp__law_ends (K : PySem.W.Frag) : Sp := fun vs H Q _ => ∃ (b : Bool), vs = [.str (kdS b)] ∧ ∀ v H', Same H H' → TD K H' v (pD (endsP b)) → Q v H'
theorem ok__law_ends {P : Program} {w : World} {K : PySem.W.Frag} {mg : Str → Option Value} {base : Heap} {f : Addr} {fd : FuncData} (F : Df K mg "_law_ends" s__law_ends f fd ["kind"]) (T : Txt mg) : FnOk P w K mg base CX0 1 f fd ["kind"] (sp__law_ends K) := by
  refine F.ok sc__law_ends (fun vs H Q E h => ?_) (fun cdv A outer s H vs Q E hr h => ?_)
  · obtain ⟨b, rfl, _⟩ := h
    rfl
  · obtain ⟨b, rfl, q⟩ := h
    refine ⟨_, (pss_cons (ps_if (pt_cmpR op_eq (pv 0) pe_str (nomark _)) (pss_one (ps_ret (pe_tup (pa_cons pe_int (pa_cons pe_int pa_nil))))) pss_nil)
      (pss_one (ps_ret (pe_tup (pa_cons (pe_un un_neg pe_int) (pa_cons pe_int pa_nil)))))), ?_⟩
    try dsimp only [cxOf, Cx.nox, Cx.wish]
    refine st_of (σ' := [some _]) rfl ?_
    cases b
    · wtm_at "jw"
      refine c_no (by decide +kernel) ?_
      wtm_at "jw"
      intro p hp
      exact q _ _ (same_new hp) (TD.new (xs := [.int (-32768), .int 32767]) hp (TDs.ints [-32768, 32767]))
    · wtm_at "jw"
      refine c_yes (by decide +kernel) ?_
      wtm_at "jw"
      intro p hp
      exact q _ _ (same_new hp) (TD.new (xs := [.int 0, .int 255]) hp (TDs.ints [0, 255]))
def sp__law_due_of_two (K : PySem.W.Frag) : Sp := sp_result K
theorem int_of_dec {P : Prop} [Decidable P] : (if decide P = true then (1 : Int) else 0) = if P then 1 else 0 := by
  by_cases h : P
  · rw [decide_eq_true h, if_pos rfl, if_pos h]
  · rw [decide_eq_false h, if_neg Bool.false_ne_true, if_neg h]
theorem int_of_decN {P : Prop} [Decidable P] : (if (!decide P) = true then (1 : Int) else 0) = if P then 0 else 1 := by
  by_cases h : P
  · rw [decide_eq_true h, if_pos h]; rfl
  · rw [decide_eq_false h, if_neg h]; rfl
theorem ok__law_due_of_two {P : Program} {w : World} {K : PySem.W.Frag} {mg : Str → Option Value} {base : Heap} {f : Addr} {fd : FuncData} (F : Df K mg "_law_due_of_two" s__law_due_of_two f fd ["op", "l", "r"]) (T : Txt mg)
    (c__law_ends : Cl P w K mg base 1 "_law_ends" (sp__law_ends K))
    (c__law_hold : Cl P w K mg base 1 "_law_hold" (sp__law_hold K)) : FnOk P w K mg base CX0 2 f fd ["op", "l", "r"] (sp__law_due_of_two K) := by
  refine F.ok sc__law_due_of_two (fun vs H Q E h => ?_) (fun cdv A outer s H vs Q E hr h => ?_)
  · obtain ⟨o, l, r, rfl, _⟩ := h
    rfl
  · obtain ⟨o, l, r, rfl, ⟨l0, l1⟩, ⟨r0, r1⟩, q⟩ := h
    have hu := hu_of hr
    refine ⟨_, (pss_cons (ps_if (pt_cmpR (r := rIn K false) op_in_seq (pv 0) (pe_tup (pa_cons pe_str (pa_cons pe_str (pa_cons pe_str (pa_cons pe_str pa_nil))))) rfl) (pss_one (ps_ret (pe_callTy (T := "int") c_int (by rfl) T.b_int (by decide +kernel) (pa_cons (pe_dget hu (pe_disp (pps_cons pe_str (pe_cmpR op_lt (pv 1) (pv 2) (nomark _)) (pps_cons pe_str (pe_cmpR op_le (pv 1) (pv 2) (nomark _)) (pps_cons pe_str (pe_cmpR op_eq (pv 1) (pv 2) (nomark _)) (pps_cons pe_str (pe_cmpR op_ne (pv 1) (pv 2) (nomark _)) pps_nil)))) (by rfl) (by rfl) (fun z => by cases z) (by decide)) (pv 0) (fun _ _ => rfl)) pa_nil)))) pss_nil)
      (pss_cons (ps_if (pt_cmpR op_eq (pv 0) pe_str (nomark _)) (pss_one (ps_ret (pe_callB (id := "min") (c_min2 rfl) (by rfl) T.b_min (by decide +kernel) (pa_cons (pv 1) (pa_cons (pv 2) pa_nil))))) pss_nil)
      (pss_cons (ps_if (pt_cmpR op_eq (pv 0) pe_str (nomark _)) (pss_one (ps_ret (pe_callB (id := "max") (c_max2 rfl) (by rfl) T.b_max (by decide +kernel) (pa_cons (pv 1) (pa_cons (pv 2) pa_nil))))) pss_nil)
      (pss_cons (ps_set (i := 3) sc__law_due_of_two.nd rfl (Or.inl rfl) (pe_op op_add (pv 1) (pv 2)))
      (pss_cons (ps_if (pt_cmpR (r := rIn K false) op_in_seq (pv 0) (pe_tup (pa_cons pe_str (pa_cons pe_str pa_nil))) rfl) (pss_one (ps_set (i := 3) sc__law_due_of_two.nd rfl (Or.inl rfl) (pe_op op_sub (pv 1) (pv 2)))) (pss_one (ps_if (pt_cmpR op_eq (pv 0) pe_str (nomark _)) (pss_one (ps_set (i := 3) sc__law_due_of_two.nd rfl (Or.inl rfl) (pe_op op_mul (pv 1) (pv 2)))) (pss_one (ps_if (pt_cmpR op_eq (pv 0) pe_str (nomark _)) (pss_one (ps_set (i := 3) sc__law_due_of_two.nd rfl (Or.inl rfl) (pe_op op_fdiv (pe_op op_mul (pv 1) (pv 2)) pe_int))) pss_nil)))))
      (pss_cons (ps_asg (pe_cl c__law_ends hr (by decide) rfl (pa_cons (pe_ifExp (pt_cmpR op_eq (pe_ix ix_str (pv 0) pe_int (fun _ _ => rfl)) pe_str (nomark _)) pe_str pe_str) pa_nil)) (pg_tupK (K := K) rfl rfl (pgs_cons (pg_name (i := 4) sc__law_due_of_two.nd rfl (Or.inl rfl)) (pgs_cons (pg_name (i := 5) sc__law_due_of_two.nd rfl (Or.inl rfl)) pgs_nil))))
      (pss_one (ps_ret (pe_cl c__law_hold hr (by decide) rfl (pa_cons (pv 4) (pa_cons (pv 3) (pa_cons (pv 5) pa_nil)))))))))))), ?_⟩
    try dsimp only [cxOf, Cx.nox, Cx.wish]
    refine st_of (σ' := [some _, some _, some _, none, none, none]) rfl ?_
    cases o
    case least =>
      wtm_at "jo"
      exact q _ (by wtm_at "jsame")
    case most =>
      wtm_at "jo"
      exact q _ (by wtm_at "jsame")
    case lt =>
      wtm_at "jo"
      refine ⟨upd_same, [(.inr "lt", .bl (decide (l < r))), (.inr "le", .bl (decide (l ≤ r))), (.inr "eq", .bl (decide (l = r))), (.inr "ne", .bl (!decide (l = r)))], rfl, by simp, ?_⟩
      rw [upd_upd]
      wtm_at "jo"
      refine i_dgetS (.inl upd_same) (v := .bl (decide (l < r))) rfl ?_
      wtm_at "jo"
      rw [int_of_dec]
      exact q _ (by wtm_at "jsame")
    case le =>
      wtm_at "jo"
      refine ⟨upd_same, [(.inr "lt", .bl (decide (l < r))), (.inr "le", .bl (decide (l ≤ r))), (.inr "eq", .bl (decide (l = r))), (.inr "ne", .bl (!decide (l = r)))], rfl, by simp, ?_⟩
      rw [upd_upd]
      wtm_at "jo"
      refine i_dgetS (.inl upd_same) (v := .bl (decide (l ≤ r))) rfl ?_
      wtm_at "jo"
      rw [int_of_dec]
      exact q _ (by wtm_at "jsame")
    case eq =>
      wtm_at "jo"
      refine ⟨upd_same, [(.inr "lt", .bl (decide (l < r))), (.inr "le", .bl (decide (l ≤ r))), (.inr "eq", .bl (decide (l = r))), (.inr "ne", .bl (!decide (l = r)))], rfl, by simp, ?_⟩
      rw [upd_upd]
      wtm_at "jo"
      refine i_dgetS (.inl upd_same) (v := .bl (decide (l = r))) rfl ?_
      wtm_at "jo"
      rw [int_of_dec]
      exact q _ (by wtm_at "jsame")
    case ne =>
      wtm_at "jo"
      refine ⟨upd_same, [(.inr "lt", .bl (decide (l < r))), (.inr "le", .bl (decide (l ≤ r))), (.inr "eq", .bl (decide (l = r))), (.inr "ne", .bl (!decide (l = r)))], rfl, by simp, ?_⟩
      rw [upd_upd]
      wtm_at "jo"
      refine i_dgetS (.inl upd_same) (v := .bl (!decide (l = r))) rfl ?_
      wtm_at "jo"
      rw [int_of_decN]
      exact q _ (by wtm_at "jsame")
    all_goals wtm_at "jo"
    iterate 3
      refine i_ixS (c := 102) (by rw [sizeLine_eq]; decide +kernel) (by decide +kernel) ?_
      wtm_at "jo"
      refine ⟨false, rfl, fun v H' s hv => ?_⟩
      wtm_at "jo"
      refine ⟨_, _, _, rfl, ?_⟩
      exact q _ (Same.trans (by wtm_at "jsame") s)
    iterate 3
      refine i_ixS (c := 99) (by rw [sizeLine_eq]; decide +kernel) (by decide +kernel) ?_
      wtm_at "jo"
      refine ⟨true, rfl, fun v H' s hv => ?_⟩
      wtm_at "jo"
      refine ⟨_, _, _, rfl, ?_⟩
      exact q _ (Same.trans (by wtm_at "jsame") s)
/-! ### the draws of operands -/
def sp__law_operand (K : PySem.W.Frag) : Sp := fun vs H Q _ => ∃ (p a : Addr) (b : Bool), vs = [.ref p, .str (kdS b)] ∧ DrawAt H p a ∧ ∀ z H', (endsP b).1 ≤ z → z ≤ (endsP b).2 → Drew p a H H' → Q (.int z) H'
theorem ok__law_operand {P : Program} {w : World} {K : PySem.W.Frag} {mg : Str → Option Value} {base : Heap} {f : Addr} {fd : FuncData} (F : Df K mg "_law_operand" s__law_operand f fd ["d", "kind"]) (T : Txt mg)
    (c__law_ends : Cl P w K mg base 1 "_law_ends" (sp__law_ends K))
    (c__law_pick : Cl P w K mg base 2 "_law_pick" (sp__law_pick K))
    (c__law_draw : Cl P w K mg base 1 "_law_draw" (sp__law_draw K)) : FnOk P w K mg base CX0 3 f fd ["d", "kind"] (sp__law_operand K) := by
  refine F.ok sc__law_operand (fun vs H Q E h => ?_) (fun cdv A outer s H vs Q E hr h => ?_)
  · obtain ⟨p, a, b, rfl, _⟩ := h
    rfl
  · obtain ⟨p, a, b, rfl, d0, q⟩ := h
    refine ⟨_, (pss_cons (ps_asg (pe_cl c__law_ends hr (by decide) rfl (pa_cons (pv 1) pa_nil)) (pg_tupK (K := K) rfl rfl (pgs_cons (pg_name (i := 2) sc__law_operand.nd rfl (Or.inl rfl)) (pgs_cons (pg_name (i := 3) sc__law_operand.nd rfl (Or.inl rfl)) pgs_nil))))
      (pss_cons (ps_if (pt_cmpR op_eq (pe_cl c__law_draw hr (by decide) rfl (pa_cons (pv 0) (pa_cons pe_int pa_nil))) pe_int (nomark _)) (pss_one (ps_ret (pe_cl c__law_pick hr (by decide) rfl (pa_cons (pv 0) (pa_cons (pe_lst (pa_cons (pv 2) (pa_cons (pv 3) (pa_cons (pe_op op_add (pv 2) pe_int) (pa_cons (pe_op op_sub (pv 3) pe_int) (pa_cons pe_int (pa_cons pe_int (pa_cons pe_int pa_nil)))))))) pa_nil))))) pss_nil)
      (pss_cons (ps_set (i := 4) sc__law_operand.nd rfl (Or.inl rfl) (pe_cl c__law_pick hr (by decide) rfl (pa_cons (pv 0) (pa_cons (pe_lst (pa_cons pe_int (pa_cons pe_int (pa_cons pe_int pa_nil)))) pa_nil))))
      (pss_cons (ps_set (i := 2) sc__law_operand.nd rfl (Or.inl rfl) (pe_callB (id := "max") (c_max2 rfl) (by rfl) T.b_max (by decide +kernel) (pa_cons (pv 2) (pa_cons (pe_op op_sub pe_int (pv 4)) pa_nil))))
      (pss_cons (ps_set (i := 3) sc__law_operand.nd rfl (Or.inl rfl) (pe_callB (id := "min") (c_min2 rfl) (by rfl) T.b_min (by decide +kernel) (pa_cons (pv 3) (pa_cons (pv 4) pa_nil))))
      (pss_one (ps_ret (pe_op op_add (pv 2) (pe_cl c__law_draw hr (by decide) rfl (pa_cons (pv 0) (pa_cons (pe_op op_add (pe_op op_sub (pv 3) (pv 2)) pe_int) pa_nil))))))))))), ?_⟩
    try dsimp only [cxOf, Cx.nox, Cx.wish]
    refine st_of (σ' := [some _, some _, none, none, none]) rfl ?_
    wtm_at "jw"
    refine ⟨b, rfl, fun v H1 s1 hv => ?_⟩
    have w1 := d0.drew.same s1
    have hb : (endsP b).1 ≤ 0 ∧ 255 ≤ (endsP b).2 ∧ -32768 ≤ (endsP b).1 ∧ (endsP b).2 ≤ 32767 := by cases b <;> decide
    generalize endsP b = e at hv hb q
    wtm_at "jw"
    refine drawL w1 (by decide) (by decide) fun z H2 _ _ _ w2 => ?_
    wtm_at "jw"
    refine c_dec (fun h => ?_) (fun h => ?_)
    · wtm_at "jw"
      intro B hB
      wtm_at "jw"
      refine pickL (fun z => e.1 ≤ z ∧ z ≤ e.2) [e.1, e.2, e.1 + 1, e.2 - 1, 0, 1, 16] w2 hB rfl (by simp) (by simp) (by simp; omega) fun y H3 hy _ w3 => ?_
      exact q _ _ hy.1 hy.2 w3
    · wtm_at "jw"
      intro B hB
      wtm_at "jw"
      refine pickL (fun z => 32 ≤ z ∧ z ≤ 40000) [32, 1024, 40000] w2 hB rfl (by simp) (by simp) (by simp) fun y H3 hy _ w3 => ?_
      wtm_at "jw"
      obtain ⟨lo, hlo⟩ : ∃ z, (if (0 - y) > e.1 then 0 - y else e.1) = z := ⟨_, rfl⟩
      obtain ⟨hi, hhi⟩ : ∃ z, (if y < e.2 then y else e.2) = z := ⟨_, rfl⟩
      rw [hlo, hhi]
      have hh : e.1 ≤ lo ∧ lo ≤ 0 ∧ 32 ≤ hi ∧ hi ≤ e.2 := by
        subst hlo
        subst hhi
        repeat' split
        all_goals omega
      wtm_at "jw"
      refine drawL w3 (by omega) (by omega) fun u H4 u0 u1 _ w4 => ?_
      wtm_at "jw"
      exact q (lo + u) _ (by omega) (by omega) w4
theorem operL {K : PySem.W.Frag} {p a : Addr} {b : Bool} {H0 H : Hp} {Q : VK} {E : XK} (w : Drew p a H0 H) (q : ∀ z H', (endsP b).1 ≤ z → z ≤ (endsP b).2 → Drew p a H H' → Drew p a H0 H' → Q (.int z) H') : sp__law_operand K [.ref p, .str (kdS b)] H Q E :=
  ⟨p, a, b, rfl, w.at_, fun z H' h1 h2 e => q z H' h1 h2 e (w.trans e)⟩
def sp__law_second (K : PySem.W.Frag) : Sp := fun vs H Q _ => ∃ (p a : Addr) (b : Bool) (op : Str) (l : Int), vs = [.ref p, .str op, .str (kdS b), .int l] ∧ DrawAt H p a ∧ Sml l ∧ ∀ z H', (endsP b).1 ≤ z → z ≤ (endsP b).2 → Drew p a H H' → Q (.int z) H'
theorem ok__law_second {P : Program} {w : World} {K : PySem.W.Frag} {mg : Str → Option Value} {base : Heap} {f : Addr} {fd : FuncData} (F : Df K mg "_law_second" s__law_second f fd ["d", "op", "kind", "l"]) (T : Txt mg)
    (c__law_ends : Cl P w K mg base 1 "_law_ends" (sp__law_ends K))
    (c__law_draw : Cl P w K mg base 1 "_law_draw" (sp__law_draw K))
    (c__law_hold : Cl P w K mg base 1 "_law_hold" (sp__law_hold K))
    (c__law_operand : Cl P w K mg base 3 "_law_operand" (sp__law_operand K))
    (c__law_pick : Cl P w K mg base 2 "_law_pick" (sp__law_pick K)) : FnOk P w K mg base CX0 4 f fd ["d", "op", "kind", "l"] (sp__law_second K) := by
  refine F.ok sc__law_second (fun vs H Q E h => ?_) (fun cdv A outer s H vs Q E hr h => ?_)
  · obtain ⟨p, a, b, op, l, rfl, _⟩ := h
    rfl
  · obtain ⟨p, a, b, op, l, rfl, d0, ⟨l0, l1⟩, q⟩ := h
    refine ⟨_, (pss_cons (ps_asg (pe_cl c__law_ends hr (by decide) rfl (pa_cons (pv 2) pa_nil)) (pg_tupK (K := K) rfl rfl (pgs_cons (pg_name (i := 4) sc__law_second.nd rfl (Or.inl rfl)) (pgs_cons (pg_name (i := 5) sc__law_second.nd rfl (Or.inl rfl)) pgs_nil))))
      (pss_cons (ps_set (i := 6) sc__law_second.nd rfl (Or.inl rfl) (pe_cl c__law_draw hr (by decide) rfl (pa_cons (pv 0) (pa_cons pe_int pa_nil))))
      (pss_cons (ps_if (pt_cmpR op_eq (pv 6) pe_int (nomark _)) (pss_one (ps_ret (pe_cl c__law_operand hr (by decide) rfl (pa_cons (pv 0) (pa_cons (pv 2) pa_nil))))) pss_nil)
      (pss_cons (ps_if (PW.pt (pw_or (pt_cmpR op_eq (pv 6) pe_int (nomark _)) (pw_or1 (pt_cmpR (r := rIn K false) op_in_seq (pv 1) (pe_tup (pa_cons pe_str (pa_cons pe_str (pa_cons pe_str (pa_cons pe_str (pa_cons pe_str (pa_cons pe_str pa_nil))))))) rfl)))) (pss_one (ps_ret (pe_cl c__law_hold hr (by decide) rfl (pa_cons (pv 4) (pa_cons (pe_op op_sub (pe_op op_add (pv 3) (pe_cl c__law_draw hr (by decide) rfl (pa_cons (pv 0) (pa_cons pe_int pa_nil)))) pe_int) (pa_cons (pv 5) pa_nil)))))) pss_nil)
      (pss_cons (ps_set (i := 7) sc__law_second.nd rfl (Or.inl rfl) (pe_op op_sub (pe_op op_add (pe_cl c__law_pick hr (by decide) rfl (pa_cons (pv 0) (pa_cons (pe_lst (pa_cons (pv 4) (pa_cons (pv 5) pa_nil))) pa_nil))) (pe_cl c__law_draw hr (by decide) rfl (pa_cons (pv 0) (pa_cons pe_int pa_nil)))) pe_int))
      (pss_cons (ps_set (i := 8) sc__law_second.nd rfl (Or.inl rfl) (pe_op op_sub (pv 7) (pv 3)))
      (pss_cons (ps_if (pt_cmpR (r := rIn K false) op_in_seq (pv 1) (pe_tup (pa_cons pe_str (pa_cons pe_str pa_nil))) rfl) (pss_one (ps_set (i := 8) sc__law_second.nd rfl (Or.inl rfl) (pe_op op_sub (pv 3) (pv 7)))) (pss_one (ps_if (pt_cmpR op_eq (pv 1) pe_str (nomark _)) (pss_one (ps_set (i := 8) sc__law_second.nd rfl (Or.inl rfl) (pe_op op_add (pe_op op_fdiv (pv 7) (pe_callB (id := "max") (c_max2 rfl) (by rfl) T.b_max (by decide +kernel) (pa_cons pe_int (pa_cons (pv 3) pa_nil)))) (pe_cl c__law_draw hr (by decide) rfl (pa_cons (pv 0) (pa_cons pe_int pa_nil)))))) (pss_one (ps_if (PW.pt (pw_and (pt_cmpR op_eq (pv 1) pe_str (nomark _)) (pw_and1 (pt_cmpR op_ne (pv 3) pe_int (nomark _))))) (pss_one (ps_set (i := 8) sc__law_second.nd rfl (Or.inl rfl) (pe_op op_sub (pe_op op_add (pe_op op_fdivN (pe_op op_mul pe_int (pv 7)) (pv 3)) (pe_cl c__law_draw hr (by decide) rfl (pa_cons (pv 0) (pa_cons pe_int pa_nil)))) pe_int))) pss_nil)))))
      (pss_one (ps_ret (pe_cl c__law_hold hr (by decide) rfl (pa_cons (pv 4) (pa_cons (pv 8) (pa_cons (pv 5) pa_nil))))))))))))), ?_⟩
    try dsimp only [cxOf, Cx.nox, Cx.wish]
    refine st_of (σ' := [some _, some _, some _, some _, none, none, none, none, none]) rfl ?_
    wtm_at "jw"
    refine ⟨b, rfl, fun v H1 s1 hv => ?_⟩
    have w1 := d0.drew.same s1
    have hb : (endsP b).1 ≤ 0 ∧ 255 ≤ (endsP b).2 ∧ -32768 ≤ (endsP b).1 ∧ (endsP b).2 ≤ 32767 := by cases b <;> decide
    wtm_at "jw"
    refine drawL w1 (by decide) (by decide) fun way H2 _ _ _ w2 => ?_
    wtm_at "jw"
    have fin : ∀ (n : Int) (H' : Hp), Drew p a H H' → Q (.int (hol (endsP b).1 n (endsP b).2)) H' := fun n H' w => by
      have := hol_in (n := n) (show (endsP b).1 ≤ (endsP b).2 by omega)
      exact q _ _ this.1 this.2 w
    refine c_dec (fun h => ?_) (fun h => ?_)
    · wtm_at "jw"
      refine operL w2 fun z H3 h1 h2 _ w3 => ?_
      exact q _ _ h1 h2 w3
    · generalize endsP b = e at hb fin
      have ret : ∀ H3, Drew p a H H3 → Drew p a H H3 := fun _ h => h
      wtm_at "jw"
      refine c_dec (fun h1 => ?_) (fun h1 => ?_)
      · wtm_at "jw"
        refine drawL w2 (by decide) (by decide) fun z H3 _ _ _ w3 => ?_
        wtm_at "jw"
        refine ⟨_, _, _, rfl, ?_⟩
        exact fin _ _ w3
      · wtm_at "jw"
        intro T1 hT1
        have w3 := w2.new (o := .tup [V.str "least", V.str "most", V.str "lt", V.str "le", V.str "eq", V.str "ne"]) hT1
        wtm_at "jw"
        refine i_inV (SqT.of upd_same) rfl rfl ?_
        generalize upd H2 T1 (.tup [V.str "least", V.str "most", V.str "lt", V.str "le", V.str "eq", V.str "ne"]) = H3 at w3 ⊢
        wtm_at "jw"
        refine c_bool (fun h2 => ?_) (fun h2 => ?_)
        · wtm_at "jw"
          refine drawL w3 (by decide) (by decide) fun z H3 _ _ _ w3 => ?_
          wtm_at "jw"
          refine ⟨_, _, _, rfl, ?_⟩
          exact fin _ _ w3
        · wtm_at "jw"
          intro B hB
          wtm_at "jw"
          refine pickL (fun z => -32768 ≤ z ∧ z ≤ 32767) [e.1, e.2] w3 hB rfl (by simp) (by simp) (by simp; omega) fun y H4 hy _ w4 => ?_
          wtm_at "jw"
          refine drawL w4 (by decide) (by decide) fun z H5 z0 z1 _ w5 => ?_
          wtm_at "jw"
          intro T2 hT2
          have w6 := w5.new (o := .tup [V.str "fsub", V.str "csub"]) hT2
          wtm_at "jw"
          refine i_inV (SqT.of upd_same) rfl rfl ?_
          generalize upd H5 T2 (.tup [V.str "fsub", V.str "csub"]) = H6 at w6 ⊢
          wtm_at "jw"
          refine c_bool (fun h3 => ?_) (fun h3 => ?_)
          · wtm_at "jw"
            refine ⟨_, _, _, rfl, ?_⟩
            exact fin _ _ w6
          · wtm_at "jw"
            refine c_dec (fun h4 => ?_) (fun h4 => ?_)
            · have hm : 0 < (if l > 1 then l else 1) ∧ (if l > 1 then l else 1) < 1073741824 := by split <;> omega
              wtm_at "jw"
              refine drawL w6 (by decide) (by decide) fun u H7 _ _ _ w7 => ?_
              wtm_at "jw"
              refine ⟨_, _, _, rfl, ?_⟩
              exact fin _ _ w7
            · wtm_at "jw"
              refine c_dec (fun h5 => ?_) (fun h5 => ?_)
              · wtm_at "jw"
                refine c_decN (fun h6 => ?_) (fun h6 => ?_)
                · wtm_at "jw"
                  refine drawL w6 (by decide) (by decide) fun u H7 _ _ _ w7 => ?_
                  wtm_at "jw"
                  refine ⟨_, _, _, rfl, ?_⟩
                  exact fin _ _ w7
                · wtm_at "jw"
                  refine ⟨_, _, _, rfl, ?_⟩
                  exact fin _ _ w6
              · wtm_at "jw"
                refine ⟨_, _, _, rfl, ?_⟩
                exact fin _ _ w6
def PairD (d : PyData) : Prop := ∃ (o : Op2) (l r : Int), d = .tuple [.str o.nm, .int l, .int r] ∧ Sml l ∧ Sml r
def AlD (d : PyData) : Prop := ∃ (o : Op1) (v : Int), d = .tuple [.str o.nm, .int v]
def sp__law_pair (K : PySem.W.Frag) : Sp := fun vs H Q _ => ∃ (p a : Addr) (o : Op2), vs = [.ref p, .str o.nm] ∧ DrawAt H p a ∧ ∀ v d H', Drew p a H H' → TD K H' v d → PairD d → Q v H'
theorem ok__law_pair {P : Program} {w : World} {K : PySem.W.Frag} {mg : Str → Option Value} {base : Heap} {f : Addr} {fd : FuncData} (F : Df K mg "_law_pair" s__law_pair f fd ["d", "op"]) (T : Txt mg)
    (c__law_pick : Cl P w K mg base 2 "_law_pick" (sp__law_pick K))
    (c__law_operand : Cl P w K mg base 3 "_law_operand" (sp__law_operand K))
    (c__law_second : Cl P w K mg base 4 "_law_second" (sp__law_second K)) : FnOk P w K mg base CX0 5 f fd ["d", "op"] (sp__law_pair K) := by
  refine F.ok sc__law_pair (fun vs H Q E h => ?_) (fun cdv A outer s H vs Q E hr h => ?_)
  · obtain ⟨p, a, o, rfl, _⟩ := h
    rfl
  · obtain ⟨p, a, o, rfl, d0, q⟩ := h
    refine ⟨_, (pss_cons (ps_set (i := 2) sc__law_pair.nd rfl (Or.inl rfl) (pe_cl c__law_pick hr (by decide) rfl (pa_cons (pv 0) (pa_cons (pe_lst (pa_cons pe_str (pa_cons pe_str pa_nil))) pa_nil))))
      (pss_cons (ps_if (pt_cmpR (r := rIn K false) op_in_seq (pv 1) (pe_tup (pa_cons pe_str (pa_cons pe_str (pa_cons pe_str pa_nil)))) rfl) (pss_one (ps_set (i := 2) sc__law_pair.nd rfl (Or.inl rfl) pe_str)) (pss_one (ps_if (pt_cmpR (r := rIn K false) op_in_seq (pv 1) (pe_tup (pa_cons pe_str (pa_cons pe_str (pa_cons pe_str pa_nil)))) rfl) (pss_one (ps_set (i := 2) sc__law_pair.nd rfl (Or.inl rfl) pe_str)) pss_nil)))
      (pss_cons (ps_set (i := 3) sc__law_pair.nd rfl (Or.inl rfl) (pe_cl c__law_operand hr (by decide) rfl (pa_cons (pv 0) (pa_cons (pv 2) pa_nil))))
      (pss_one (ps_ret (pe_tup (pa_cons (pv 1) (pa_cons (pv 3) (pa_cons (pe_cl c__law_second hr (by decide) rfl (pa_cons (pv 0) (pa_cons (pv 1) (pa_cons (pv 2) (pa_cons (pv 3) pa_nil))))) pa_nil))))))))), ?_⟩
    try dsimp only [cxOf, Cx.nox, Cx.wish]
    refine st_of (σ' := [some _, some _, none, none]) rfl ?_
    wtm_at "jw"
    intro B hB
    wtm_at "jw"
    refine pickV d0.drew hB (by simp) (by simp) fun x H1 hx _ w1 => ?_
    obtain ⟨b, rfl⟩ : ∃ b : Bool, x = .str (kdS b) := by
      simp only [List.mem_cons, List.not_mem_nil, or_false] at hx
      rcases hx with h | h
      · exact ⟨false, h⟩
      · exact ⟨true, h⟩
    wtm_at "js"
    refine i_ifC (fun σ' H' => Drew p a H H' ∧ ∃ b : Bool, σ' = [some (.ref p), some (.str o.nm), some (.str (kdS b)), none]) (fun σ' H' h => ?_) (fun N hN => ?_)
    · obtain ⟨w2, b, rfl⟩ := h
      have hb : -32768 ≤ (endsP b).1 ∧ (endsP b).2 ≤ 32767 := by cases b <;> decide
      wtm_at "jw"
      refine operL w2 fun l H3 l0 l1 _ w3 => ?_
      wtm_at "jw"
      refine ⟨p, a, b, o.nm, l, rfl, w3.at_, ⟨by omega, by omega⟩, fun r H4 r0 r1 e4 => ?_⟩
      have w4 := w3.trans e4
      wtm_at "jw"
      intro u hu
      exact q _ _ _ (w4.new hu) (TD.new (xs := [.str o.nm, .int l, .int r]) (ds := [.str o.nm, .int l, .int r]) hu (.cons (.str _) (.cons (.int _) (.cons (.int _) .nil)))) ⟨o, l, r, rfl, ⟨by omega, by omega⟩, ⟨by omega, by omega⟩⟩
    · wtm_at "jw"
      intro T1 hT1
      have w2 := w1.new (o := .tup [V.str "fadd", V.str "fsub", V.str "fmul"]) hT1
      wtm_at "jw"
      refine i_inV (SqT.of upd_same) rfl (by decide +kernel) ?_
      generalize upd H1 T1 (.tup [V.str "fadd", V.str "fsub", V.str "fmul"]) = H2 at w2 ⊢
      wtm_at "jw"
      refine c_bool (fun h3 => ?_) (fun h3 => ?_)
      · wtm_at "jw"
        exact hN _ _ ⟨w2, false, rfl⟩
      · wtm_at "jw"
        intro T2 hT2
        have w3 := w2.new (o := .tup [V.str "cadd", V.str "csub", V.str "cmul"]) hT2
        wtm_at "jw"
        refine i_inV (SqT.of upd_same) rfl (by decide +kernel) ?_
        generalize upd H2 T2 (.tup [V.str "cadd", V.str "csub", V.str "cmul"]) = H3 at w3 ⊢
        wtm_at "jw"
        refine c_bool (fun h4 => ?_) (fun h4 => ?_)
        · wtm_at "jw"
          exact hN _ _ ⟨w3, true, rfl⟩
        · wtm_at "jw"
          exact hN _ _ ⟨w3, b, rfl⟩
def sp__law_alone (K : PySem.W.Frag) : Sp := fun vs H Q _ => ∃ (p a : Addr) (o : Op1) (t : Int), vs = [.ref p, .str o.nm, .int t] ∧ DrawAt H p a ∧ ∀ v d H', Drew p a H H' → TD K H' v d → AlD d → Q v H'
theorem ok__law_alone {P : Program} {w : World} {K : PySem.W.Frag} {mg : Str → Option Value} {base : Heap} {f : Addr} {fd : FuncData} (F : Df K mg "_law_alone" s__law_alone f fd ["d", "op", "turn"]) (T : Txt mg)
    (c__law_operand : Cl P w K mg base 3 "_law_operand" (sp__law_operand K))
    (c__law_pick : Cl P w K mg base 2 "_law_pick" (sp__law_pick K)) : FnOk P w K mg base CX0 4 f fd ["d", "op", "turn"] (sp__law_alone K) := by
  refine F.ok sc__law_alone (fun vs H Q E h => ?_) (fun cdv A outer s H vs Q E hr h => ?_)
  · obtain ⟨p, a, o, t, rfl, _⟩ := h
    rfl
  · obtain ⟨p, a, o, t, rfl, d0, q⟩ := h
    have fin : ∀ (n : Int) (H3 : Hp), Drew p a H H3 → ∀ u, H3 u = none → Q (.ref u) (upd H3 u (.tup [.str o.nm, .int n])) := fun n H3 w u hu =>
      q _ _ _ (w.new hu) (TD.new (xs := [.str o.nm, .int n]) (ds := [.str o.nm, .int n]) hu (.cons (.str _) (.cons (.int _) .nil))) ⟨o, n, rfl⟩
    have w0 := d0.drew
    refine ⟨_, (pss_cons (ps_if (pt_cmpR op_eq (pv 1) pe_str (nomark _)) (pss_one (ps_ret (pe_tup (pa_cons (pv 1) (pa_cons (pe_op op_mod (pe_callTy (T := "int") c_int (by rfl) T.b_int (by decide +kernel) (pa_cons (pv 2) pa_nil)) pe_int) pa_nil))))) pss_nil)
      (pss_cons (ps_if (pt_cmpR op_eq (pv 1) pe_str (nomark _)) (pss_one (ps_ret (pe_tup (pa_cons (pv 1) (pa_cons (pe_cl c__law_operand hr (by decide) rfl (pa_cons (pv 0) (pa_cons pe_str pa_nil))) pa_nil))))) pss_nil)
      (pss_cons (ps_if (PW.pt (pw_and (pt_cmpR op_eq (pv 1) pe_str (nomark _)) (pw_and1 (pt_cmpR op_lt (pv 2) pe_int (nomark _))))) (pss_one (ps_ret (pe_tup (pa_cons (pv 1) (pa_cons (pe_cl c__law_pick hr (by decide) rfl (pa_cons (pv 0) (pa_cons (pe_lst (pa_cons (pe_un un_neg pe_int) (pa_cons (pe_un un_neg pe_int) (pa_cons (pe_un un_neg pe_int) (pa_cons (pe_un un_neg pe_int) (pa_cons pe_int (pa_cons pe_int (pa_cons pe_int (pa_cons pe_int (pa_cons pe_int (pa_cons pe_int (pa_cons pe_int pa_nil)))))))))))) pa_nil))) pa_nil))))) pss_nil)
      (pss_cons (ps_if (pt_cmpR op_eq (pv 2) pe_int (nomark _)) (pss_one (ps_ret (pe_tup (pa_cons (pv 1) (pa_cons (pe_cl c__law_pick hr (by decide) rfl (pa_cons (pv 0) (pa_cons (pe_lst (pa_cons (pe_un un_neg pe_int) (pa_cons (pe_un un_neg pe_int) (pa_cons pe_int pa_nil)))) pa_nil))) pa_nil))))) pss_nil)
      (pss_one (ps_ret (pe_tup (pa_cons (pv 1) (pa_cons (pe_cl c__law_operand hr (by decide) rfl (pa_cons (pv 0) (pa_cons pe_str pa_nil))) pa_nil))))))))), ?_⟩
    try dsimp only [cxOf, Cx.nox, Cx.wish]
    refine st_of (σ' := [some _, some _, some _]) rfl ?_
    wtm_at "jw"
    refine c_dec (fun h1 => ?_) (fun h1 => ?_)
    · wtm_at "jw"
      intro u hu
      exact fin _ _ w0 u hu
    · wtm_at "jw"
      refine c_dec (fun h2 => ?_) (fun h2 => ?_)
      · wtm_at "jw"
        refine operL (b := true) w0 fun l H3 _ _ _ w3 => ?_
        wtm_at "jw"
        intro u hu
        exact fin _ _ w3 u hu
      · have rest : ∀ (R : Prop), (R → R) → R → R := fun _ f r => f r
        have tail : ∀ H3, Drew p a H H3 → Drew p a H H3 := fun _ h => h
        wtm_at "jw"
        refine c_dec (fun h3 => ?_) (fun h3 => ?_)
        · wtm_at "jw"
          refine c_dec (fun h4 => ?_) (fun h4 => ?_)
          · wtm_at "jw"
            intro B hB
            wtm_at "jw"
            refine pickL (fun _ => True) [-1, -15, -16, -17, 15, 16, 17, 4079, 4080, 4095, 4096] w0 hB rfl (by simp) (by simp) (by simp) fun y H4 _ _ w4 => ?_
            wtm_at "jw"
            intro u hu
            exact fin _ _ w4 u hu
          · wtm_at "jw"
            refine c_dec (fun h5 => ?_) (fun h5 => ?_)
            · wtm_at "jw"
              intro B hB
              wtm_at "jw"
              refine pickL (fun _ => True) [-32768, -32767, 32767] w0 hB rfl (by simp) (by simp) (by simp) fun y H4 _ _ w4 => ?_
              wtm_at "jw"
              intro u hu
              exact fin _ _ w4 u hu
            · wtm_at "jw"
              refine operL (b := false) w0 fun l H3 _ _ _ w3 => ?_
              wtm_at "jw"
              intro u hu
              exact fin _ _ w3 u hu
        · wtm_at "jw"
          refine c_dec (fun h5 => ?_) (fun h5 => ?_)
          · wtm_at "jw"
            intro B hB
            wtm_at "jw"
            refine pickL (fun _ => True) [-32768, -32767, 32767] w0 hB rfl (by simp) (by simp) (by simp) fun y H4 _ _ w4 => ?_
            wtm_at "jw"
            intro u hu
            exact fin _ _ w4 u hu
          · wtm_at "jw"
            refine operL (b := false) w0 fun l H3 _ _ _ w3 => ?_
            wtm_at "jw"
            intro u hu
            exact fin _ _ w3 u hu
def sp__law_same (K : PySem.W.Frag) : Sp := fun vs H Q _ => ∃ (n : Int), vs = [.int n, .int n] ∧ Q (.bl true) H
theorem ok__law_same {P : Program} {w : World} {K : PySem.W.Frag} {mg : Str → Option Value} {base : Heap} {f : Addr} {fd : FuncData} (F : Df K mg "_law_same" s__law_same f fd ["told", "due"]) (T : Txt mg)
    (c__law_is_int : Cl P w K mg base 1 "_law_is_int" (sp__law_is_int K)) : FnOk P w K mg base CX0 2 f fd ["told", "due"] (sp__law_same K) := by
  refine F.ok sc__law_same (fun vs H Q E h => ?_) (fun cdv A outer s H vs Q E hr h => ?_)
  · obtain ⟨n, rfl, _⟩ := h
    rfl
  · obtain ⟨n, rfl, q⟩ := h
    refine ⟨_, (pss_one (ps_ret (pe_and (pe_cl c__law_is_int hr (by decide) rfl (pa_cons (pv 0) pa_nil)) (pe_one (pe_cmpR op_eq (pv 0) (pv 1) (nomark _)))))), ?_⟩
    try dsimp only [cxOf, Cx.nox, Cx.wish]
    refine st_of (σ' := [some _, some _]) rfl ?_
    wtm_at "jw"
    refine ⟨n, rfl, ?_⟩
    wtm_at "jw"
    rw [decide_eq_true rfl]
    exact q
def sp__law_are_right (K : PySem.W.Frag) : Sp := fun vs H Q _ => ∃ (P A N : Addr) (ds es : List PyData) (ns : List Int), vs = [.ref P, .ref A, .ref N] ∧ LD K H P ds ∧ LD K H A es ∧ H N = some (.lst (ns.map V.int)) ∧ (∀ d ∈ ds, PairD d) ∧ (∀ d ∈ es, AlD d) ∧ ∀ H', Same H H' → Q (.bl true) H'
theorem ok__law_are_right {P : Program} {w : World} {K : PySem.W.Frag} {mg : Str → Option Value} {base : Heap} {f : Addr} {fd : FuncData} (F : Df K mg "_law_are_right" s__law_are_right f fd ["pairs", "alone", "numbers"]) (T : Txt mg)
    (c__law_same : Cl P w K mg base 2 "_law_same" (sp__law_same K))
    (c_result : Cl P w K mg base 3 "result" (sp_result K))
    (c__law_due_of_two : Cl P w K mg base 2 "_law_due_of_two" (sp__law_due_of_two K))
    (c_single : Cl P w K mg base 2 "single" (sp_single K))
    (c__law_due_of_one : Cl P w K mg base 2 "_law_due_of_one" (sp__law_due_of_one K))
    (c_clamp : Cl P w K mg base 1 "clamp" (sp_clamp K))
    (c__law_hold : Cl P w K mg base 1 "_law_hold" (sp__law_hold K))
    (c_clamp_count : Cl P w K mg base 1 "clamp_count" (sp_clamp_count K)) : FnOk P w K mg base CX0 4 f fd ["pairs", "alone", "numbers"] (sp__law_are_right K) := by
  refine F.ok sc__law_are_right (fun vs H Q E h => ?_) (fun cdv A outer s H vs Q E hr h => ?_)
  · obtain ⟨P, A, N, ds, es, ns, rfl, _⟩ := h
    rfl
  · obtain ⟨P, A, N, ds, es, ns, rfl, ⟨us, hus, tus⟩, ⟨ws, hws, tws⟩, hN, hds, hes, q⟩ := h
    refine ⟨_, (pss_cons (ps_for PassesOwn.never rfl (pi_list (pv 0)) (pg_tupK (K := K) rfl rfl (pgs_cons (pg_name (i := 3) sc__law_are_right.nd rfl (Or.inl rfl)) (pgs_cons (pg_name (i := 4) sc__law_are_right.nd rfl (Or.inl rfl)) (pgs_cons (pg_name (i := 5) sc__law_are_right.nd rfl (Or.inl rfl)) pgs_nil)))) (pss_cons (ps_if (pt_not (pt_val (pe_cl c__law_same hr (by decide) rfl (pa_cons (pe_cl c_result hr (by decide) rfl (pa_cons (pv 3) (pa_cons (pv 4) (pa_cons (pv 5) pa_nil)))) (pa_cons (pe_cl c__law_due_of_two hr (by decide) rfl (pa_cons (pv 3) (pa_cons (pv 4) (pa_cons (pv 5) pa_nil)))) pa_nil))))) (pss_one (ps_ret pe_bl)) pss_nil)
      (pss_one (ps_if (pt_not (pt_val (pe_cl c__law_same hr (by decide) rfl (pa_cons (pe_cl c_result hr (by decide) rfl (pa_cons (pv 3) (pa_cons (pv 5) (pa_cons (pv 4) pa_nil)))) (pa_cons (pe_cl c__law_due_of_two hr (by decide) rfl (pa_cons (pv 3) (pa_cons (pv 5) (pa_cons (pv 4) pa_nil)))) pa_nil))))) (pss_one (ps_ret pe_bl)) pss_nil))))
      (pss_cons (ps_for PassesOwn.never rfl (pi_list (pv 1)) (pg_tupK (K := K) rfl rfl (pgs_cons (pg_name (i := 3) sc__law_are_right.nd rfl (Or.inl rfl)) (pgs_cons (pg_name (i := 6) sc__law_are_right.nd rfl (Or.inl rfl)) pgs_nil))) (pss_one (ps_if (pt_not (pt_val (pe_cl c__law_same hr (by decide) rfl (pa_cons (pe_cl c_single hr (by decide) rfl (pa_cons (pv 3) (pa_cons (pv 6) pa_nil))) (pa_cons (pe_cl c__law_due_of_one hr (by decide) rfl (pa_cons (pv 3) (pa_cons (pv 6) pa_nil))) pa_nil))))) (pss_one (ps_ret pe_bl)) pss_nil)))
      (pss_cons (ps_for PassesOwn.never rfl (pi_list (pv 2)) (pg_name (i := 7) sc__law_are_right.nd rfl (Or.inl rfl)) (pss_cons (ps_if (pt_not (pt_val (pe_cl c__law_same hr (by decide) rfl (pa_cons (pe_cl c_clamp hr (by decide) rfl (pa_cons (pv 7) pa_nil)) (pa_cons (pe_cl c__law_hold hr (by decide) rfl (pa_cons (pe_un un_neg pe_int) (pa_cons (pv 7) (pa_cons pe_int pa_nil)))) pa_nil))))) (pss_one (ps_ret pe_bl)) pss_nil)
      (pss_one (ps_if (pt_not (pt_val (pe_cl c__law_same hr (by decide) rfl (pa_cons (pe_cl c_clamp_count hr (by decide) rfl (pa_cons (pv 7) pa_nil)) (pa_cons (pe_cl c__law_hold hr (by decide) rfl (pa_cons pe_int (pa_cons (pv 7) (pa_cons pe_int pa_nil)))) pa_nil))))) (pss_one (ps_ret pe_bl)) pss_nil))))
      (pss_one (ps_ret pe_bl))))), ?_⟩
    try dsimp only [cxOf, Cx.nox, Cx.wish]
    refine st_of (σ' := [some _, some _, some _, none, none, none, none, none]) rfl ?_
    wtm_at "jw"
    refine f_list (xs := us) (fun i σ H' => Same H H' ∧ ∃ (v3 v4 v5 v6 v7 : Option V), σ = [some (.ref P), some (.ref A), some (.ref N), v3, v4, v5, v6, v7]) ⟨Same.refl _, none, none, none, none, none, rfl⟩ (fun i σ H' _ h => SqL.of (h.1 _ _ hus)) (fun i x σ H' hi h => ?_) (fun σ H' h => ?_)
    · obtain ⟨s1, v3, v4, v5, v6, v7, rfl⟩ := h
      obtain ⟨d, hd, hxd, _, _⟩ := (tus.same s1).at hi
      obtain ⟨o, l, r, rfl, hl, hr'⟩ := hds d (List.mem_of_getElem? hd)
      wtm_at "jw"
      refine i_gTupD hxd rfl fun zs hzs => ?_
      rcases hzs with _ | ⟨k1, _ | ⟨k2, _ | ⟨k3, _ | _⟩⟩⟩
      obtain rfl := k1.str_inv
      obtain rfl := k2.int_inv
      obtain rfl := k3.int_inv
      wtm_at "jw"
      refine ⟨o, l, r, rfl, hl, hr', fun H2 s2 => ?_⟩
      wtm_at "jw"
      refine ⟨o, l, r, rfl, hl, hr', fun H3 s3 => ?_⟩
      wtm_at "jw"
      refine ⟨_, rfl, ?_⟩
      wtm_at "jw"
      refine ⟨o, r, l, rfl, hr', hl, fun H4 s4 => ?_⟩
      wtm_at "jw"
      refine ⟨o, r, l, rfl, hr', hl, fun H5 s5 => ?_⟩
      wtm_at "jw"
      refine ⟨_, rfl, ?_⟩
      wtm_at "jw"
      exact ⟨(((s1.trans s2).trans s3).trans s4).trans s5, _, _, _, _, _, rfl⟩
    · obtain ⟨s1, v3, v4, v5, v6, v7, rfl⟩ := h
      have hws1 := s1 _ _ hws
      wtm_at "jw"
      refine f_list (xs := ws) (fun i σ H' => Same H H' ∧ ∃ (v3 v4 v5 v6 v7 : Option V), σ = [some (.ref P), some (.ref A), some (.ref N), v3, v4, v5, v6, v7]) ⟨s1, _, _, _, _, _, rfl⟩ (fun i σ H' _ h => SqL.of (h.1 _ _ hws)) (fun i x σ H' hi h => ?_) (fun σ H' h => ?_)
      · obtain ⟨s1, v3, v4, v5, v6, v7, rfl⟩ := h
        obtain ⟨d, hd, hxd, _, _⟩ := (tws.same s1).at hi
        obtain ⟨o, v, rfl⟩ := hes d (List.mem_of_getElem? hd)
        wtm_at "jw"
        refine i_gTupD hxd rfl fun zs hzs => ?_
        rcases hzs with _ | ⟨k1, _ | ⟨k2, _ | _⟩⟩
        obtain rfl := k1.str_inv
        obtain rfl := k2.int_inv
        wtm_at "jw"
        refine ⟨o, v, rfl, ?_⟩
        wtm_at "jw"
        refine ⟨o, v, rfl, ?_⟩
        wtm_at "jw"
        refine ⟨_, rfl, ?_⟩
        wtm_at "jw"
        exact ⟨s1, _, _, _, _, _, rfl⟩
      · obtain ⟨s1, v3, v4, v5, v6, v7, rfl⟩ := h
        have hN1 := s1 _ _ hN
        wtm_at "jw"
        refine f_list (xs := ns.map V.int) (fun i σ H' => Same H H' ∧ ∃ (v3 v4 v5 v6 v7 : Option V), σ = [some (.ref P), some (.ref A), some (.ref N), v3, v4, v5, v6, v7]) ⟨s1, _, _, _, _, _, rfl⟩ (fun i σ H' _ h => SqL.of (h.1 _ _ hN)) (fun i x σ H' hi h => ?_) (fun σ H' h => ?_)
        · obtain ⟨s1, v3, v4, v5, v6, v7, rfl⟩ := h
          obtain ⟨z, rfl, _⟩ := ints_at hi
          wtm_at "jw"
          refine ⟨z, rfl, ?_⟩
          wtm_at "jw"
          refine ⟨_, _, _, rfl, ?_⟩
          wtm_at "jw"
          refine ⟨_, rfl, ?_⟩
          wtm_at "jw"
          refine ⟨z, rfl, ?_⟩
          wtm_at "jw"
          refine ⟨_, _, _, rfl, ?_⟩
          wtm_at "jw"
          refine ⟨_, rfl, ?_⟩
          wtm_at "jw"
          exact ⟨s1, _, _, _, _, _, rfl⟩
        · obtain ⟨s1, v3, v4, v5, v6, v7, rfl⟩ := h
          wtm_at "jw"
          exact q _ s1
theorem TDs.rev {K : PySem.W.Frag} {H : Hp} : ∀ {vs : List V} {ds : List PyData}, TDs K H vs ds → TDs K H vs.reverse ds.reverse
  | _, _, .nil => .nil
  | _, _, .cons (v := v) (vs := vs) (d := d) (ds := ds) h t => by
    rw [List.reverse_cons, List.reverse_cons]
    exact (TDs.rev t).snoc h
theorem i_rev {H : Hp} {Q : VK} {p : Addr} {xs : List V} (h : H p = some (.lst xs)) (q : Q .non (upd H p (.lst xs.reverse))) : rReverse (.ref p) [] H Q := ⟨p, xs, rfl, rfl, h, q⟩
def opsV : List V := [V.str "fadd", V.str "fsub", V.str "fmul", V.str "cadd", V.str "csub", V.str "cmul", V.str "least", V.str "most", V.str "lt", V.str "le", V.str "eq", V.str "ne"]
theorem ops_mem {x : V} (h : x ∈ opsV) : ∃ o : Op2, x = .str o.nm := by
  unfold opsV at h
  simp only [List.mem_cons, List.not_mem_nil, or_false] at h
  rcases h with h | h | h | h | h | h | h | h | h | h | h | h
  · exact ⟨.fadd, h⟩
  · exact ⟨.fsub, h⟩
  · exact ⟨.fmul, h⟩
  · exact ⟨.cadd, h⟩
  · exact ⟨.csub, h⟩
  · exact ⟨.cmul, h⟩
  · exact ⟨.least, h⟩
  · exact ⟨.most, h⟩
  · exact ⟨.lt, h⟩
  · exact ⟨.le, h⟩
  · exact ⟨.eq, h⟩
  · exact ⟨.ne, h⟩
def ops1V : List V := [V.str "fneg", V.str "not", V.str "fix", V.str "whole"]
theorem ops1_mem {x : V} (h : x ∈ ops1V) : ∃ o : Op1, x = .str o.nm := by
  unfold ops1V at h
  simp only [List.mem_cons, List.not_mem_nil, or_false] at h
  rcases h with h | h | h | h
  · exact ⟨.fneg, h⟩
  · exact ⟨.not, h⟩
  · exact ⟨.fix, h⟩
  · exact ⟨.whole, h⟩
theorem all_snoc {α : Type} {P : α → Prop} {l : List α} {x : α} (h : ∀ y ∈ l, P y) (hx : P x) : ∀ y ∈ l ++ [x], P y := fun y hy => by
  rcases List.mem_append.mp hy with hy | hy
  · exact h y hy
  · rw [List.mem_singleton.mp hy]; exact hx
def sp_law (K : PySem.W.Frag) : Sp := fun vs H Q _ => ∃ (a : Addr) (ns : List Int), vs = [.ref a] ∧ SqL K H a (ns.map V.int) ∧ ns.length ≤ 63 ∧ ∀ H', Q (.bl true) H'
theorem ok_law {P : Program} {w : World} {K : PySem.W.Frag} {mg : Str → Option Value} {base : Heap} {f : Addr} {fd : FuncData} (F : Df K mg "law" s_law f fd ["script"]) (T : Txt mg)
    (c__law_begin : Cl P w K mg base 1 "_law_begin" (sp__law_begin K))
    (c__law_are_right : Cl P w K mg base 4 "_law_are_right" (sp__law_are_right K))
    (c__law_pick : Cl P w K mg base 2 "_law_pick" (sp__law_pick K))
    (c__law_draw : Cl P w K mg base 1 "_law_draw" (sp__law_draw K))
    (c__law_pair : Cl P w K mg base 5 "_law_pair" (sp__law_pair K))
    (c__law_alone : Cl P w K mg base 4 "_law_alone" (sp__law_alone K)) : FnOk P w K mg base CX0 6 f fd ["script"] (sp_law K) := by
  refine F.ok sc_law (fun vs H Q E h => ?_) (fun cdv A outer s H vs Q E hr h => ?_)
  · obtain ⟨a, ns, rfl, _⟩ := h
    rfl
  · obtain ⟨a, ns, rfl, hS, hl, k⟩ := h
    refine ⟨_, (pss_cons (ps_set (i := 1) sc_law.nd rfl (Or.inl rfl) (pe_cl c__law_begin hr (by decide) rfl (pa_cons (pv 0) pa_nil)))
      (pss_cons (ps_set (i := 2) sc_law.nd rfl (Or.inl rfl) (pe_lst pa_nil))
      (pss_cons (ps_for PassesOwn.never rfl (pi_list (pe_lst (pa_cons pe_str (pa_cons pe_str (pa_cons pe_str (pa_cons pe_str (pa_cons pe_str (pa_cons pe_str (pa_cons pe_str (pa_cons pe_str (pa_cons pe_str (pa_cons pe_str (pa_cons pe_str (pa_cons pe_str pa_nil)))))))))))))) (pg_name (i := 3) sc_law.nd rfl (Or.inl rfl)) (pss_one (ps_for PassesOwn.never rfl (pi_range1 rfl T.b_range (pa_cons pe_int pa_nil)) (pg_name (i := 4) sc_law.nd rfl (Or.inl rfl)) (pss_one (ps_expr (pe_bmK (K := K) rfl PySem.F.plainAttrs_list PySem.F.slot_list_append PySem.F.type_list_append mt_append (pv 2) (pa_cons (pe_cl c__law_pair hr (by decide) rfl (pa_cons (pv 1) (pa_cons (pv 3) pa_nil))) pa_nil)))))))
      (pss_cons (ps_set (i := 5) sc_law.nd rfl (Or.inl rfl) (pe_lst pa_nil))
      (pss_cons (ps_for PassesOwn.never rfl (pi_list (pe_lst (pa_cons pe_str (pa_cons pe_str (pa_cons pe_str (pa_cons pe_str pa_nil)))))) (pg_name (i := 3) sc_law.nd rfl (Or.inl rfl)) (pss_one (ps_for PassesOwn.never rfl (pi_range1 rfl T.b_range (pa_cons pe_int pa_nil)) (pg_name (i := 4) sc_law.nd rfl (Or.inl rfl)) (pss_one (ps_expr (pe_bmK (K := K) rfl PySem.F.plainAttrs_list PySem.F.slot_list_append PySem.F.type_list_append mt_append (pv 5) (pa_cons (pe_cl c__law_alone hr (by decide) rfl (pa_cons (pv 1) (pa_cons (pv 3) (pa_cons (pv 4) pa_nil)))) pa_nil)))))))
      (pss_cons (ps_set (i := 6) sc_law.nd rfl (Or.inl rfl) (pe_lst (pa_cons (pe_cl c__law_pick hr (by decide) rfl (pa_cons (pv 1) (pa_cons (pe_lst (pa_cons (pe_un un_neg pe_int) (pa_cons (pe_un un_neg pe_int) (pa_cons (pe_un un_neg pe_int) (pa_cons pe_int pa_nil))))) pa_nil))) (pa_cons (pe_cl c__law_pick hr (by decide) rfl (pa_cons (pv 1) (pa_cons (pe_lst (pa_cons pe_int (pa_cons pe_int (pa_cons pe_int (pa_cons pe_int pa_nil))))) pa_nil))) pa_nil))))
      (pss_cons (ps_set (i := 6) sc_law.nd rfl (Or.inl rfl) (pe_op op_cat (pv 6) (pe_lst (pa_cons (pe_op op_sub (pe_cl c__law_draw hr (by decide) rfl (pa_cons (pv 1) (pa_cons pe_int pa_nil))) pe_int) (pa_cons (pe_op op_sub (pe_cl c__law_draw hr (by decide) rfl (pa_cons (pv 1) (pa_cons pe_int pa_nil))) pe_int) pa_nil)))))
      (pss_cons (ps_expr (pe_bmK (K := K) rfl PySem.F.plainAttrs_list PySem.F.slot_list_append PySem.F.type_list_append mt_append (pv 6) (pa_cons (pe_op op_mul (pe_cl c__law_draw hr (by decide) rfl (pa_cons (pv 1) (pa_cons pe_int pa_nil))) (pe_op op_sub (pe_cl c__law_draw hr (by decide) rfl (pa_cons (pv 1) (pa_cons pe_int pa_nil))) pe_int)) pa_nil)))
      (pss_cons (ps_if (pt_not (pt_val (pe_cl c__law_are_right hr (by decide) rfl (pa_cons (pv 2) (pa_cons (pv 5) (pa_cons (pv 6) pa_nil)))))) (pss_one (ps_ret pe_bl)) pss_nil)
      (pss_cons (ps_expr (pe_bm0K (K := K) rfl PySem.F.plainAttrs_list PySem.F.slot_list_reverse PySem.F.type_list_reverse mt_reverse (pv 2)))
      (pss_cons (ps_expr (pe_bm0K (K := K) rfl PySem.F.plainAttrs_list PySem.F.slot_list_reverse PySem.F.type_list_reverse mt_reverse (pv 5)))
      (pss_one (ps_ret (pe_cl c__law_are_right hr (by decide) rfl (pa_cons (pv 2) (pa_cons (pv 5) (pa_cons (pv 6) pa_nil))))))))))))))))), ?_⟩
    try dsimp only [cxOf, Cx.nox, Cx.wish]
    refine st_of (σ' := [some _, none, none, none, none, none, none]) rfl ?_
    wtm_at "jw"
    refine ⟨a, ns, rfl, hS, hl, fun p c H0 s0 hp hc d0 => ?_⟩
    have w0 := d0.drew
    wtm_at "jw"
    intro P hP
    have w1 := w0.new (o := .lst []) hP
    have hP1 : LD K (upd H0 P (.lst [])) P [] := .new hP .nil
    have nP := d0.ne_none hP
    generalize upd H0 P (.lst []) = H1 at w1 hP1 ⊢
    wtm_at "jw"
    intro L hL
    have w2 := w1.new (o := .lst opsV) hL
    have hP2 := hP1.same (same_new (o := .lst opsV) hL)
    have hL2 := upd_same (H := H1) (a := L) (o := .lst opsV)
    have L0 := w1.free hL
    have nL := d0.ne_none L0
    have nLP : L ≠ P := by
      obtain ⟨us, hus, _⟩ := hP1
      exact (ne_of_none hus hL).symm
    rw [show [V.str "fadd", V.str "fsub", V.str "fmul", V.str "cadd", V.str "csub", V.str "cmul", V.str "least", V.str "most", V.str "lt", V.str "le", V.str "eq", V.str "ne"] = opsV from rfl]
    generalize upd H1 L (.lst opsV) = H2 at w2 hP2 hL2 ⊢
    wtm_at "jw"
    refine f_list (xs := opsV) (fun i σ H' => Drew p c H0 H' ∧ H' L = some (.lst opsV) ∧ ∃ (ds : List PyData) (v3 v4 : Option V), LD K H' P ds ∧ (∀ d ∈ ds, PairD d) ∧ ds.length = 3 * i ∧ σ = [some (.ref a), some (.ref p), some (.ref P), v3, v4, none, none])
      ⟨w2, hL2, [], none, none, hP2, by simp, rfl, rfl⟩ (fun i σ H' _ h => SqL.of h.2.1) (fun i x σ H' hi h => ?_) (fun σ H' h => ?_)
    · obtain ⟨w3, hL3, ds, v3, v4, hP3, hds, hdl, rfl⟩ := h
      have hi12 : i < 12 := (List.getElem?_eq_some_iff.mp hi).1
      obtain ⟨o, rfl⟩ := ops_mem (List.mem_of_getElem? hi)
      wtm_at "jw"
      refine f_range (fun j σ H' => Drew p c H0 H' ∧ H' L = some (.lst opsV) ∧ ∃ (ds : List PyData) (v4 : Option V), LD K H' P ds ∧ (∀ d ∈ ds, PairD d) ∧ ds.length = 3 * i + j ∧ σ = [some (.ref a), some (.ref p), some (.ref P), some (.str o.nm), v4, none, none])
        ⟨w3, hL3, ds, _, hP3, hds, by omega, rfl⟩ (fun j σ H' hj h => ?_) (fun σ H' h => ?_)
      · obtain ⟨w4, hL4, ds, v4, hP4, hds, hdl, rfl⟩ := h
        have hj3 : j < 3 := by omega
        wtm_at "jw"
        refine ⟨p, c, o, rfl, w4.at_, fun v d H5 e5 hv hd => ?_⟩
        have w5 := w4.trans e5
        obtain ⟨us, hus, tus⟩ := hP4.drew w4.at_ e5 nP
        have hL5 := e5.kp _ _ hL4 nL
        have hsz : us.length < sizeLine := small1000 (by have := tus.len; omega)
        wtm_at "jw"
        exact ⟨w5.put d0 hP, by rw [upd_ne nLP]; exact hL5, _, _, LD.snoc hus tus hv, all_snoc hds hd, by simp; omega, rfl⟩
      · obtain ⟨w4, hL4, ds, v4, hP4, hds, hdl, rfl⟩ := h
        exact ⟨w4, hL4, ds, _, _, hP4, hds, by rw [hdl]; show 3 * i + 3 = 3 * (i + 1); omega, rfl⟩
    obtain ⟨w3, hL3, ds, v3, v4, hP3, hds, hdl, rfl⟩ := h
    wtm_at "jw"
    intro A hA
    have w4 := w3.new (o := .lst []) hA
    have hA4 : LD K (upd H' A (.lst [])) A [] := .new hA .nil
    have hP4 := hP3.same (same_new (o := .lst []) hA)
    have A0 := w3.free hA
    have nA := d0.ne_none A0
    have nAP : A ≠ P := by
      obtain ⟨us, hus, _⟩ := hP3
      exact (ne_of_none hus hA).symm
    generalize upd H' A (.lst []) = H4 at w4 hA4 hP4 ⊢
    wtm_at "jw"
    intro M hM
    have w5 := w4.new (o := .lst ops1V) hM
    have hP5 := hP4.same (same_new (o := .lst ops1V) hM)
    have hA5 := hA4.same (same_new (o := .lst ops1V) hM)
    have hM5 := upd_same (H := H4) (a := M) (o := .lst ops1V)
    have M0 := w4.free hM
    have nM := d0.ne_none M0
    have nMA : M ≠ A := by
      obtain ⟨us, hus, _⟩ := hA4
      exact (ne_of_none hus hM).symm
    rw [show [V.str "fneg", V.str "not", V.str "fix", V.str "whole"] = ops1V from rfl]
    generalize upd H4 M (.lst ops1V) = H5 at w5 hP5 hA5 hM5 ⊢
    wtm_at "jw"
    refine f_list (xs := ops1V) (fun i σ H' => Drew p c H0 H' ∧ H' M = some (.lst ops1V) ∧ LD K H' P ds ∧ ∃ (es : List PyData) (v3 v4 : Option V), LD K H' A es ∧ (∀ d ∈ es, AlD d) ∧ es.length = 4 * i ∧ σ = [some (.ref a), some (.ref p), some (.ref P), v3, v4, some (.ref A), none])
      ⟨w5, hM5, hP5, [], _, _, hA5, by simp, rfl, rfl⟩ (fun i σ H' _ h => SqL.of h.2.1) (fun i x σ H' hi h => ?_) (fun σ H' h => ?_)
    · obtain ⟨w6, hM6, hP6, es, v3, v4, hA6, hes, hel, rfl⟩ := h
      have hi4 : i < 4 := (List.getElem?_eq_some_iff.mp hi).1
      obtain ⟨o, rfl⟩ := ops1_mem (List.mem_of_getElem? hi)
      wtm_at "jw"
      refine f_range (fun j σ H' => Drew p c H0 H' ∧ H' M = some (.lst ops1V) ∧ LD K H' P ds ∧ ∃ (es : List PyData) (v4 : Option V), LD K H' A es ∧ (∀ d ∈ es, AlD d) ∧ es.length = 4 * i + j ∧ σ = [some (.ref a), some (.ref p), some (.ref P), some (.str o.nm), v4, some (.ref A), none])
        ⟨w6, hM6, hP6, es, _, hA6, hes, by omega, rfl⟩ (fun j σ H' hj h => ?_) (fun σ H' h => ?_)
      · obtain ⟨w7, hM7, hP7, es, v4, hA7, hes, hel, rfl⟩ := h
        have hj3 : j < 4 := by omega
        wtm_at "jw"
        refine ⟨p, c, o, _, rfl, w7.at_, fun v d H8 e8 hv hd => ?_⟩
        have w8 := w7.trans e8
        obtain ⟨us, hus, tus⟩ := hA7.drew w7.at_ e8 nA
        have hP8 := hP7.drew w7.at_ e8 nP
        have hM8 := e8.kp _ _ hM7 nM
        have hsz : us.length < sizeLine := small1000 (by have := tus.len; omega)
        wtm_at "jw"
        exact ⟨w8.put d0 A0, by rw [upd_ne nMA]; exact hM8, hP8.kp Kp.upd hus nAP.symm, _, _, LD.snoc hus tus hv, all_snoc hes hd, by simp; omega, rfl⟩
      · obtain ⟨w7, hM7, hP7, es, v4, hA7, hes, hel, rfl⟩ := h
        exact ⟨w7, hM7, hP7, es, _, _, hA7, hes, by rw [hel]; show 4 * i + 4 = 4 * (i + 1); omega, rfl⟩
    obtain ⟨w6, hM6, hP6, es, v3, v4, hA6, hes, hel, rfl⟩ := h
    wtm_at "jw"
    intro B1 hB1
    wtm_at "jw"
    refine pickL (fun _ => True) [-32769, -32768, -1, 0] w6 hB1 rfl (by simp) (by simp) (by simp) fun n1 H7 _ e7 w7 => ?_
    have hP7 := hP6.drew w6.at_ e7 nP
    have hA7 := hA6.drew w6.at_ e7 nA
    wtm_at "jw"
    intro B2 hB2
    wtm_at "jw"
    refine pickL (fun _ => True) [255, 256, 32767, 32768] w7 hB2 rfl (by simp) (by simp) (by simp) fun n2 H8 _ e8 w8 => ?_
    have hP8 := hP7.drew w7.at_ e8 nP
    have hA8 := hA7.drew w7.at_ e8 nA
    wtm_at "jw"
    intro N hN
    have w9 := w8.new (o := .lst [.int n1, .int n2]) hN
    have hN9 : upd H8 N (.lst [.int n1, .int n2]) N = some (.lst (([n1, n2] : List Int).map V.int)) := upd_same
    have hP9 := hP8.same (same_new (o := .lst [.int n1, .int n2]) hN)
    have hA9 := hA8.same (same_new (o := .lst [.int n1, .int n2]) hN)
    have nN := d0.ne_none (w8.free hN)
    generalize upd H8 N (.lst [.int n1, .int n2]) = H9 at w9 hN9 hP9 hA9 ⊢
    wtm_at "jw"
    refine drawL w9 (by decide) (by decide) fun n3 H10 _ _ e10 w10 => ?_
    have hP10 := hP9.drew w9.at_ e10 nP
    have hA10 := hA9.drew w9.at_ e10 nA
    have hN10 := e10.kp _ _ hN9 nN
    wtm_at "jw"
    refine drawL w10 (by decide) (by decide) fun n4 H11 _ _ e11 w11 => ?_
    have hP11 := hP10.drew w10.at_ e11 nP
    have hA11 := hA10.drew w10.at_ e11 nA
    have hN11 := e11.kp _ _ hN10 nN
    wtm_at "jw"
    intro N2 hN2
    have s12 := same_new (o := .lst [.int (n3 - 170), .int (n4 - 40000)]) hN2
    have hN12 := s12 _ _ hN11
    have hR12 : upd H11 N2 (.lst [.int (n3 - 170), .int (n4 - 40000)]) N2 = some (.lst (([n3 - 170, n4 - 40000] : List Int).map V.int)) := upd_same
    have w12 := w11.same s12
    have hP12 := hP11.same s12
    have hA12 := hA11.same s12
    generalize upd H11 N2 (.lst [.int (n3 - 170), .int (n4 - 40000)]) = H12 at s12 hN12 hR12 w12 hP12 hA12 ⊢
    wtm_at "jw"
    intro R nR
    rw [← List.map_append]
    have s13 := same_new (o := .lst (([n1, n2] ++ [n3 - 170, n4 - 40000] : List Int).map V.int)) nR
    have hR13 := upd_same (H := H12) (a := R) (o := .lst (([n1, n2] ++ [n3 - 170, n4 - 40000] : List Int).map V.int))
    generalize upd H12 R (.lst (([n1, n2] ++ [n3 - 170, n4 - 40000] : List Int).map V.int)) = H13 at s13 hR13 ⊢
    have w13 := w12.same s13
    have hP13 := hP12.same s13
    have hA13 := hA12.same s13
    have nRp := d0.ne_none (w12.free nR)
    have R0 := w12.free nR
    have nRP : R ≠ P := by
      obtain ⟨us, hus, _⟩ := hP12
      exact (ne_of_none hus nR).symm
    have nRA : R ≠ A := by
      obtain ⟨us, hus, _⟩ := hA12
      exact (ne_of_none hus nR).symm
    wtm_at "jw"
    refine drawL w13 (by decide) (by decide) fun n5 H14 n50 n51 e14 w14 => ?_
    have hP14 := hP13.drew w13.at_ e14 nP
    have hA14 := hA13.drew w13.at_ e14 nA
    have hR14 := e14.kp _ _ hR13 nRp
    wtm_at "jw"
    refine drawL w14 (by decide) (by decide) fun n6 H15 n60 n61 e15 w15 => ?_
    have hP15 := hP14.drew w14.at_ e15 nP
    have hA15 := hA14.drew w14.at_ e15 nA
    have hR15 := e15.kp _ _ hR14 nRp
    have hsz : (([n1, n2] ++ [n3 - 170, n4 - 40000] : List Int).map V.int).length < sizeLine := small1000 (by simp)
    wtm_at "jw"
    have hR16 : upd H15 R (.lst (([n1, n2] ++ [n3 - 170, n4 - 40000] : List Int).map V.int ++ [.int (n5 * (n6 - 32768))])) R = some (.lst (([n1, n2] ++ [n3 - 170, n4 - 40000] ++ [n5 * (n6 - 32768)] : List Int).map V.int)) := by rw [upd_same, List.map_append (l₂ := [n5 * (n6 - 32768)])]; rfl
    have hP16 : LD K (upd H15 R (.lst (([n1, n2] ++ [n3 - 170, n4 - 40000] : List Int).map V.int ++ [.int (n5 * (n6 - 32768))]))) P ds := hP15.kp Kp.upd hR15 nRP.symm
    have hA16 : LD K (upd H15 R (.lst (([n1, n2] ++ [n3 - 170, n4 - 40000] : List Int).map V.int ++ [.int (n5 * (n6 - 32768))]))) A es := hA15.kp Kp.upd hR15 nRA.symm
    generalize upd H15 R (.lst (([n1, n2] ++ [n3 - 170, n4 - 40000] : List Int).map V.int ++ [.int (n5 * (n6 - 32768))])) = H16 at hR16 hP16 hA16 ⊢
    refine ⟨P, A, R, ds, es, _, rfl, hP16, hA16, hR16, hds, hes, fun H17 s17 => ?_⟩
    obtain ⟨us, hus, tus⟩ := hP16.same s17
    obtain ⟨ws, hws, tws⟩ := hA16.same s17
    have hR17 := s17 _ _ hR16
    wtm_at "jw"
    refine i_rev hus ?_
    have hws' : upd H17 P (.lst us.reverse) A = some (.lst ws) := by rw [upd_ne nAP]; exact hws
    have hP18 := LD.put (K := K) hus tus.rev
    have tws' := tws.tps (tps_put (ys := us.reverse) hus)
    have hR18 : upd H17 P (.lst us.reverse) R = some (.lst (([n1, n2] ++ [n3 - 170, n4 - 40000] ++ [n5 * (n6 - 32768)] : List Int).map V.int)) := by rw [upd_ne nRP]; exact hR17
    generalize upd H17 P (.lst us.reverse) = H18 at hws' hP18 tws' hR18 ⊢
    wtm_at "jw"
    refine i_rev hws' ?_
    have hA19 := LD.put (K := K) hws' tws'.rev
    have hP19 : LD K (upd H18 A (.lst ws.reverse)) P ds.reverse := hP18.kp Kp.upd hws' nAP.symm
    have hR19 : upd H18 A (.lst ws.reverse) R = some (.lst (([n1, n2] ++ [n3 - 170, n4 - 40000] ++ [n5 * (n6 - 32768)] : List Int).map V.int)) := by rw [upd_ne nRA]; exact hR18
    generalize upd H18 A (.lst ws.reverse) = H19 at hA19 hP19 hR19 ⊢
    wtm_at "jw"
    refine ⟨P, A, R, ds.reverse, es.reverse, _, rfl, hP19, hA19, hR19, fun d hd => hds d (List.mem_reverse.mp hd), fun d hd => hes d (List.mem_reverse.mp hd), fun H20 s20 => ?_⟩
    exact k _
theorem law_hands {K : PySem.W.Frag} {H : Hp} (a : Addr) (ns : List Int) (hl : ns.length ≤ 63) (hb : ∀ z ∈ ns, Builtin.Int.intBits z ≤ 1048576) (h : SqL K H a (ns.map V.int)) :
    sp_law K [.ref a] H (fun v _ => v = .bl true) fun _ _ _ => False := ⟨a, ns, rfl, h, hl, fun _ => rfl⟩
theorem all_mk {l : PySem.W.OpenLaw} {w : World} {K : PySem.W.Frag} {h : Heap} {mg : Str → Option Value} {fa : Addr} (X : K.In h) (G : h.Ns mainGlobals mg) (hfa : mg "law" = some (.ref fa))
    {f__law_begin : Addr} {od__law_begin an__law_begin : Option Addr} {sl__law_begin : Array (Option Value)} {oc__law_begin kV__law_begin dc__law_begin pm__law_begin cd__law_begin ct__law_begin : Value}
    {f__law_is_int : Addr} {od__law_is_int an__law_is_int : Option Addr} {sl__law_is_int : Array (Option Value)} {oc__law_is_int kV__law_is_int dc__law_is_int pm__law_is_int cd__law_is_int ct__law_is_int : Value}
    {f__law_same : Addr} {od__law_same an__law_same : Option Addr} {sl__law_same : Array (Option Value)} {oc__law_same kV__law_same dc__law_same pm__law_same cd__law_same ct__law_same : Value}
    {f_compared : Addr} {od_compared an_compared : Option Addr} {sl_compared : Array (Option Value)} {oc_compared kV_compared dc_compared pm_compared cd_compared ct_compared : Value}
    {f_clamp : Addr} {od_clamp an_clamp : Option Addr} {sl_clamp : Array (Option Value)} {oc_clamp kV_clamp dc_clamp pm_clamp cd_clamp ct_clamp : Value}
    {f_fixed_result : Addr} {od_fixed_result an_fixed_result : Option Addr} {sl_fixed_result : Array (Option Value)} {oc_fixed_result kV_fixed_result dc_fixed_result pm_fixed_result cd_fixed_result ct_fixed_result : Value}
    {f_clamp_count : Addr} {od_clamp_count an_clamp_count : Option Addr} {sl_clamp_count : Array (Option Value)} {oc_clamp_count kV_clamp_count dc_clamp_count pm_clamp_count cd_clamp_count ct_clamp_count : Value}
    {f_count_result : Addr} {od_count_result an_count_result : Option Addr} {sl_count_result : Array (Option Value)} {oc_count_result kV_count_result dc_count_result pm_count_result cd_count_result ct_count_result : Value}
    {f_result : Addr} {od_result an_result : Option Addr} {sl_result : Array (Option Value)} {oc_result kV_result dc_result pm_result cd_result ct_result : Value}
    {f__law_ends : Addr} {od__law_ends an__law_ends : Option Addr} {sl__law_ends : Array (Option Value)} {oc__law_ends kV__law_ends dc__law_ends pm__law_ends cd__law_ends ct__law_ends : Value}
    {f__law_hold : Addr} {od__law_hold an__law_hold : Option Addr} {sl__law_hold : Array (Option Value)} {oc__law_hold kV__law_hold dc__law_hold pm__law_hold cd__law_hold ct__law_hold : Value}
    {f__law_due_of_two : Addr} {od__law_due_of_two an__law_due_of_two : Option Addr} {sl__law_due_of_two : Array (Option Value)} {oc__law_due_of_two kV__law_due_of_two dc__law_due_of_two pm__law_due_of_two cd__law_due_of_two ct__law_due_of_two : Value}
    {f_single : Addr} {od_single an_single : Option Addr} {sl_single : Array (Option Value)} {oc_single kV_single dc_single pm_single cd_single ct_single : Value}
    {f__law_due_of_one : Addr} {od__law_due_of_one an__law_due_of_one : Option Addr} {sl__law_due_of_one : Array (Option Value)} {oc__law_due_of_one kV__law_due_of_one dc__law_due_of_one pm__law_due_of_one cd__law_due_of_one ct__law_due_of_one : Value}
    {f__law_are_right : Addr} {od__law_are_right an__law_are_right : Option Addr} {sl__law_are_right : Array (Option Value)} {oc__law_are_right kV__law_are_right dc__law_are_right pm__law_are_right cd__law_are_right ct__law_are_right : Value}
    {f__law_draw : Addr} {od__law_draw an__law_draw : Option Addr} {sl__law_draw : Array (Option Value)} {oc__law_draw kV__law_draw dc__law_draw pm__law_draw cd__law_draw ct__law_draw : Value}
    {f__law_pick : Addr} {od__law_pick an__law_pick : Option Addr} {sl__law_pick : Array (Option Value)} {oc__law_pick kV__law_pick dc__law_pick pm__law_pick cd__law_pick ct__law_pick : Value}
    {f__law_operand : Addr} {od__law_operand an__law_operand : Option Addr} {sl__law_operand : Array (Option Value)} {oc__law_operand kV__law_operand dc__law_operand pm__law_operand cd__law_operand ct__law_operand : Value}
    {f__law_second : Addr} {od__law_second an__law_second : Option Addr} {sl__law_second : Array (Option Value)} {oc__law_second kV__law_second dc__law_second pm__law_second cd__law_second ct__law_second : Value}
    {f__law_pair : Addr} {od__law_pair an__law_pair : Option Addr} {sl__law_pair : Array (Option Value)} {oc__law_pair kV__law_pair dc__law_pair pm__law_pair cd__law_pair ct__law_pair : Value}
    {f__law_alone : Addr} {od__law_alone an__law_alone : Option Addr} {sl__law_alone : Array (Option Value)} {oc__law_alone kV__law_alone dc__law_alone pm__law_alone cd__law_alone ct__law_alone : Value}
    {f_law : Addr} {od_law an_law : Option Addr} {sl_law : Array (Option Value)} {oc_law kV_law dc_law pm_law cd_law ct_law : Value}
    (a__law_begin : PySem.W.nsIn K mainGlobals "_law_begin" = some (some (.ref f__law_begin))) (l__law_begin : K.lookup f__law_begin = some ⟨oc__law_begin, od__law_begin, .func (PySem.W.fnOf "_law_begin" "_law_begin" (defArgs s__law_begin) (defBody s__law_begin) (defScope s__law_begin) .none kV__law_begin dc__law_begin pm__law_begin an__law_begin cd__law_begin ct__law_begin), sl__law_begin⟩) (c__law_begin : PySem.W.codeIn K cd__law_begin "_law_begin" = true) (k__law_begin : PySem.W.keepIn K (.ref f__law_begin) = true)
    (a__law_is_int : PySem.W.nsIn K mainGlobals "_law_is_int" = some (some (.ref f__law_is_int))) (l__law_is_int : K.lookup f__law_is_int = some ⟨oc__law_is_int, od__law_is_int, .func (PySem.W.fnOf "_law_is_int" "_law_is_int" (defArgs s__law_is_int) (defBody s__law_is_int) (defScope s__law_is_int) .none kV__law_is_int dc__law_is_int pm__law_is_int an__law_is_int cd__law_is_int ct__law_is_int), sl__law_is_int⟩) (c__law_is_int : PySem.W.codeIn K cd__law_is_int "_law_is_int" = true) (k__law_is_int : PySem.W.keepIn K (.ref f__law_is_int) = true)
    (a__law_same : PySem.W.nsIn K mainGlobals "_law_same" = some (some (.ref f__law_same))) (l__law_same : K.lookup f__law_same = some ⟨oc__law_same, od__law_same, .func (PySem.W.fnOf "_law_same" "_law_same" (defArgs s__law_same) (defBody s__law_same) (defScope s__law_same) .none kV__law_same dc__law_same pm__law_same an__law_same cd__law_same ct__law_same), sl__law_same⟩) (c__law_same : PySem.W.codeIn K cd__law_same "_law_same" = true) (k__law_same : PySem.W.keepIn K (.ref f__law_same) = true)
    (a_compared : PySem.W.nsIn K mainGlobals "compared" = some (some (.ref f_compared))) (l_compared : K.lookup f_compared = some ⟨oc_compared, od_compared, .func (PySem.W.fnOf "compared" "compared" (defArgs s_compared) (defBody s_compared) (defScope s_compared) .none kV_compared dc_compared pm_compared an_compared cd_compared ct_compared), sl_compared⟩) (c_compared : PySem.W.codeIn K cd_compared "compared" = true) (k_compared : PySem.W.keepIn K (.ref f_compared) = true)
    (a_clamp : PySem.W.nsIn K mainGlobals "clamp" = some (some (.ref f_clamp))) (l_clamp : K.lookup f_clamp = some ⟨oc_clamp, od_clamp, .func (PySem.W.fnOf "clamp" "clamp" (defArgs s_clamp) (defBody s_clamp) (defScope s_clamp) .none kV_clamp dc_clamp pm_clamp an_clamp cd_clamp ct_clamp), sl_clamp⟩) (c_clamp : PySem.W.codeIn K cd_clamp "clamp" = true) (k_clamp : PySem.W.keepIn K (.ref f_clamp) = true)
    (a_fixed_result : PySem.W.nsIn K mainGlobals "fixed_result" = some (some (.ref f_fixed_result))) (l_fixed_result : K.lookup f_fixed_result = some ⟨oc_fixed_result, od_fixed_result, .func (PySem.W.fnOf "fixed_result" "fixed_result" (defArgs s_fixed_result) (defBody s_fixed_result) (defScope s_fixed_result) .none kV_fixed_result dc_fixed_result pm_fixed_result an_fixed_result cd_fixed_result ct_fixed_result), sl_fixed_result⟩) (c_fixed_result : PySem.W.codeIn K cd_fixed_result "fixed_result" = true) (k_fixed_result : PySem.W.keepIn K (.ref f_fixed_result) = true)
    (a_clamp_count : PySem.W.nsIn K mainGlobals "clamp_count" = some (some (.ref f_clamp_count))) (l_clamp_count : K.lookup f_clamp_count = some ⟨oc_clamp_count, od_clamp_count, .func (PySem.W.fnOf "clamp_count" "clamp_count" (defArgs s_clamp_count) (defBody s_clamp_count) (defScope s_clamp_count) .none kV_clamp_count dc_clamp_count pm_clamp_count an_clamp_count cd_clamp_count ct_clamp_count), sl_clamp_count⟩) (c_clamp_count : PySem.W.codeIn K cd_clamp_count "clamp_count" = true) (k_clamp_count : PySem.W.keepIn K (.ref f_clamp_count) = true)
    (a_count_result : PySem.W.nsIn K mainGlobals "count_result" = some (some (.ref f_count_result))) (l_count_result : K.lookup f_count_result = some ⟨oc_count_result, od_count_result, .func (PySem.W.fnOf "count_result" "count_result" (defArgs s_count_result) (defBody s_count_result) (defScope s_count_result) .none kV_count_result dc_count_result pm_count_result an_count_result cd_count_result ct_count_result), sl_count_result⟩) (c_count_result : PySem.W.codeIn K cd_count_result "count_result" = true) (k_count_result : PySem.W.keepIn K (.ref f_count_result) = true)
    (a_result : PySem.W.nsIn K mainGlobals "result" = some (some (.ref f_result))) (l_result : K.lookup f_result = some ⟨oc_result, od_result, .func (PySem.W.fnOf "result" "result" (defArgs s_result) (defBody s_result) (defScope s_result) .none kV_result dc_result pm_result an_result cd_result ct_result), sl_result⟩) (c_result : PySem.W.codeIn K cd_result "result" = true) (k_result : PySem.W.keepIn K (.ref f_result) = true)
    (a__law_ends : PySem.W.nsIn K mainGlobals "_law_ends" = some (some (.ref f__law_ends))) (l__law_ends : K.lookup f__law_ends = some ⟨oc__law_ends, od__law_ends, .func (PySem.W.fnOf "_law_ends" "_law_ends" (defArgs s__law_ends) (defBody s__law_ends) (defScope s__law_ends) .none kV__law_ends dc__law_ends pm__law_ends an__law_ends cd__law_ends ct__law_ends), sl__law_ends⟩) (c__law_ends : PySem.W.codeIn K cd__law_ends "_law_ends" = true) (k__law_ends : PySem.W.keepIn K (.ref f__law_ends) = true)
    (a__law_hold : PySem.W.nsIn K mainGlobals "_law_hold" = some (some (.ref f__law_hold))) (l__law_hold : K.lookup f__law_hold = some ⟨oc__law_hold, od__law_hold, .func (PySem.W.fnOf "_law_hold" "_law_hold" (defArgs s__law_hold) (defBody s__law_hold) (defScope s__law_hold) .none kV__law_hold dc__law_hold pm__law_hold an__law_hold cd__law_hold ct__law_hold), sl__law_hold⟩) (c__law_hold : PySem.W.codeIn K cd__law_hold "_law_hold" = true) (k__law_hold : PySem.W.keepIn K (.ref f__law_hold) = true)
    (a__law_due_of_two : PySem.W.nsIn K mainGlobals "_law_due_of_two" = some (some (.ref f__law_due_of_two))) (l__law_due_of_two : K.lookup f__law_due_of_two = some ⟨oc__law_due_of_two, od__law_due_of_two, .func (PySem.W.fnOf "_law_due_of_two" "_law_due_of_two" (defArgs s__law_due_of_two) (defBody s__law_due_of_two) (defScope s__law_due_of_two) .none kV__law_due_of_two dc__law_due_of_two pm__law_due_of_two an__law_due_of_two cd__law_due_of_two ct__law_due_of_two), sl__law_due_of_two⟩) (c__law_due_of_two : PySem.W.codeIn K cd__law_due_of_two "_law_due_of_two" = true) (k__law_due_of_two : PySem.W.keepIn K (.ref f__law_due_of_two) = true)
    (a_single : PySem.W.nsIn K mainGlobals "single" = some (some (.ref f_single))) (l_single : K.lookup f_single = some ⟨oc_single, od_single, .func (PySem.W.fnOf "single" "single" (defArgs s_single) (defBody s_single) (defScope s_single) .none kV_single dc_single pm_single an_single cd_single ct_single), sl_single⟩) (c_single : PySem.W.codeIn K cd_single "single" = true) (k_single : PySem.W.keepIn K (.ref f_single) = true)
    (a__law_due_of_one : PySem.W.nsIn K mainGlobals "_law_due_of_one" = some (some (.ref f__law_due_of_one))) (l__law_due_of_one : K.lookup f__law_due_of_one = some ⟨oc__law_due_of_one, od__law_due_of_one, .func (PySem.W.fnOf "_law_due_of_one" "_law_due_of_one" (defArgs s__law_due_of_one) (defBody s__law_due_of_one) (defScope s__law_due_of_one) .none kV__law_due_of_one dc__law_due_of_one pm__law_due_of_one an__law_due_of_one cd__law_due_of_one ct__law_due_of_one), sl__law_due_of_one⟩) (c__law_due_of_one : PySem.W.codeIn K cd__law_due_of_one "_law_due_of_one" = true) (k__law_due_of_one : PySem.W.keepIn K (.ref f__law_due_of_one) = true)
    (a__law_are_right : PySem.W.nsIn K mainGlobals "_law_are_right" = some (some (.ref f__law_are_right))) (l__law_are_right : K.lookup f__law_are_right = some ⟨oc__law_are_right, od__law_are_right, .func (PySem.W.fnOf "_law_are_right" "_law_are_right" (defArgs s__law_are_right) (defBody s__law_are_right) (defScope s__law_are_right) .none kV__law_are_right dc__law_are_right pm__law_are_right an__law_are_right cd__law_are_right ct__law_are_right), sl__law_are_right⟩) (c__law_are_right : PySem.W.codeIn K cd__law_are_right "_law_are_right" = true) (k__law_are_right : PySem.W.keepIn K (.ref f__law_are_right) = true)
    (a__law_draw : PySem.W.nsIn K mainGlobals "_law_draw" = some (some (.ref f__law_draw))) (l__law_draw : K.lookup f__law_draw = some ⟨oc__law_draw, od__law_draw, .func (PySem.W.fnOf "_law_draw" "_law_draw" (defArgs s__law_draw) (defBody s__law_draw) (defScope s__law_draw) .none kV__law_draw dc__law_draw pm__law_draw an__law_draw cd__law_draw ct__law_draw), sl__law_draw⟩) (c__law_draw : PySem.W.codeIn K cd__law_draw "_law_draw" = true) (k__law_draw : PySem.W.keepIn K (.ref f__law_draw) = true)
    (a__law_pick : PySem.W.nsIn K mainGlobals "_law_pick" = some (some (.ref f__law_pick))) (l__law_pick : K.lookup f__law_pick = some ⟨oc__law_pick, od__law_pick, .func (PySem.W.fnOf "_law_pick" "_law_pick" (defArgs s__law_pick) (defBody s__law_pick) (defScope s__law_pick) .none kV__law_pick dc__law_pick pm__law_pick an__law_pick cd__law_pick ct__law_pick), sl__law_pick⟩) (c__law_pick : PySem.W.codeIn K cd__law_pick "_law_pick" = true) (k__law_pick : PySem.W.keepIn K (.ref f__law_pick) = true)
    (a__law_operand : PySem.W.nsIn K mainGlobals "_law_operand" = some (some (.ref f__law_operand))) (l__law_operand : K.lookup f__law_operand = some ⟨oc__law_operand, od__law_operand, .func (PySem.W.fnOf "_law_operand" "_law_operand" (defArgs s__law_operand) (defBody s__law_operand) (defScope s__law_operand) .none kV__law_operand dc__law_operand pm__law_operand an__law_operand cd__law_operand ct__law_operand), sl__law_operand⟩) (c__law_operand : PySem.W.codeIn K cd__law_operand "_law_operand" = true) (k__law_operand : PySem.W.keepIn K (.ref f__law_operand) = true)
    (a__law_second : PySem.W.nsIn K mainGlobals "_law_second" = some (some (.ref f__law_second))) (l__law_second : K.lookup f__law_second = some ⟨oc__law_second, od__law_second, .func (PySem.W.fnOf "_law_second" "_law_second" (defArgs s__law_second) (defBody s__law_second) (defScope s__law_second) .none kV__law_second dc__law_second pm__law_second an__law_second cd__law_second ct__law_second), sl__law_second⟩) (c__law_second : PySem.W.codeIn K cd__law_second "_law_second" = true) (k__law_second : PySem.W.keepIn K (.ref f__law_second) = true)
    (a__law_pair : PySem.W.nsIn K mainGlobals "_law_pair" = some (some (.ref f__law_pair))) (l__law_pair : K.lookup f__law_pair = some ⟨oc__law_pair, od__law_pair, .func (PySem.W.fnOf "_law_pair" "_law_pair" (defArgs s__law_pair) (defBody s__law_pair) (defScope s__law_pair) .none kV__law_pair dc__law_pair pm__law_pair an__law_pair cd__law_pair ct__law_pair), sl__law_pair⟩) (c__law_pair : PySem.W.codeIn K cd__law_pair "_law_pair" = true) (k__law_pair : PySem.W.keepIn K (.ref f__law_pair) = true)
    (a__law_alone : PySem.W.nsIn K mainGlobals "_law_alone" = some (some (.ref f__law_alone))) (l__law_alone : K.lookup f__law_alone = some ⟨oc__law_alone, od__law_alone, .func (PySem.W.fnOf "_law_alone" "_law_alone" (defArgs s__law_alone) (defBody s__law_alone) (defScope s__law_alone) .none kV__law_alone dc__law_alone pm__law_alone an__law_alone cd__law_alone ct__law_alone), sl__law_alone⟩) (c__law_alone : PySem.W.codeIn K cd__law_alone "_law_alone" = true) (k__law_alone : PySem.W.keepIn K (.ref f__law_alone) = true)
    (a_law : PySem.W.nsIn K mainGlobals "law" = some (some (.ref f_law))) (l_law : K.lookup f_law = some ⟨oc_law, od_law, .func (PySem.W.fnOf "law" "law" (defArgs s_law) (defBody s_law) (defScope s_law) .none kV_law dc_law pm_law an_law cd_law ct_law), sl_law⟩) (c_law : PySem.W.codeIn K cd_law "law" = true) (k_law : PySem.W.keepIn K (.ref f_law) = true)
    (z_int : PySem.W.nsIn K mainGlobals "int" = some none)
    (z_isinstance : PySem.W.nsIn K mainGlobals "isinstance" = some none)
    (z_bool : PySem.W.nsIn K mainGlobals "bool" = some none)
    (z_min : PySem.W.nsIn K mainGlobals "min" = some none)
    (z_max : PySem.W.nsIn K mainGlobals "max" = some none)
    (z_len : PySem.W.nsIn K mainGlobals "len" = some none)
    (z_abs : PySem.W.nsIn K mainGlobals "abs" = some none)
    (z_range : PySem.W.nsIn K mainGlobals "range" = some none)
    {u_LOW : Value} (n_LOW : PySem.W.nsIn K mainGlobals "LOW" = some (some u_LOW)) (r_LOW : RelV (.int (-32768)) u_LOW)
    {u_HIGH : Value} (n_HIGH : PySem.W.nsIn K mainGlobals "HIGH" = some (some u_HIGH)) (r_HIGH : RelV (.int 32767) u_HIGH)
    {u_PART : Value} (n_PART : PySem.W.nsIn K mainGlobals "PART" = some (some u_PART)) (r_PART : RelV (.int 16) u_PART)
    {u_MOST_COUNT : Value} (n_MOST_COUNT : PySem.W.nsIn K mainGlobals "MOST_COUNT" = some (some u_MOST_COUNT)) (r_MOST_COUNT : RelV (.int 255) u_MOST_COUNT)
    : ∃ fd : FuncData, (∀ (s : Shared) (v : Value), BindsTo s fd ⟨[v], []⟩ [("script", v)]) ∧ ∀ base : Heap, K.In base → base.Ns mainGlobals mg → FnOk l.prog w K mg base CX0 6 fa fd ["script"] (sp_law K) := by
  have e := hfa.symm.trans (PySem.W.mg_of X G a_law)
  cases e
  have T : Txt mg := ⟨PySem.W.mg_none_of X G z_int, PySem.W.mg_none_of X G z_isinstance, PySem.W.mg_none_of X G z_bool, PySem.W.mg_none_of X G z_min, PySem.W.mg_none_of X G z_max, PySem.W.mg_none_of X G z_len, PySem.W.mg_none_of X G z_abs, PySem.W.mg_none_of X G z_range, ⟨_, PySem.W.mg_of X G n_LOW, r_LOW⟩, ⟨_, PySem.W.mg_of X G n_HIGH, r_HIGH⟩, ⟨_, PySem.W.mg_of X G n_PART, r_PART⟩, ⟨_, PySem.W.mg_of X G n_MOST_COUNT, r_MOST_COUNT⟩⟩
  have F__law_begin := fun_mk (st := s__law_begin) l__law_begin c__law_begin k__law_begin
  have D__law_begin : Df K mg "_law_begin" s__law_begin f__law_begin _ ["script"] := ⟨F__law_begin, PySem.W.mg_of X G a__law_begin, F__law_begin.binds (ps := ["script"]) fun _ _ _ _ _ _ us hl => match us, hl with | [_], _ => rfl⟩
  have F__law_is_int := fun_mk (st := s__law_is_int) l__law_is_int c__law_is_int k__law_is_int
  have D__law_is_int : Df K mg "_law_is_int" s__law_is_int f__law_is_int _ ["thing"] := ⟨F__law_is_int, PySem.W.mg_of X G a__law_is_int, F__law_is_int.binds (ps := ["thing"]) fun _ _ _ _ _ _ us hl => match us, hl with | [_], _ => rfl⟩
  have F__law_same := fun_mk (st := s__law_same) l__law_same c__law_same k__law_same
  have D__law_same : Df K mg "_law_same" s__law_same f__law_same _ ["told", "due"] := ⟨F__law_same, PySem.W.mg_of X G a__law_same, F__law_same.binds (ps := ["told", "due"]) fun _ _ _ _ _ _ us hl => match us, hl with | [_, _], _ => rfl⟩
  have F_compared := fun_mk (st := s_compared) l_compared c_compared k_compared
  have D_compared : Df K mg "compared" s_compared f_compared _ ["op", "left", "right"] := ⟨F_compared, PySem.W.mg_of X G a_compared, F_compared.binds (ps := ["op", "left", "right"]) fun _ _ _ _ _ _ us hl => match us, hl with | [_, _, _], _ => rfl⟩
  have F_clamp := fun_mk (st := s_clamp) l_clamp c_clamp k_clamp
  have D_clamp : Df K mg "clamp" s_clamp f_clamp _ ["number"] := ⟨F_clamp, PySem.W.mg_of X G a_clamp, F_clamp.binds (ps := ["number"]) fun _ _ _ _ _ _ us hl => match us, hl with | [_], _ => rfl⟩
  have F_fixed_result := fun_mk (st := s_fixed_result) l_fixed_result c_fixed_result k_fixed_result
  have D_fixed_result : Df K mg "fixed_result" s_fixed_result f_fixed_result _ ["op", "left", "right"] := ⟨F_fixed_result, PySem.W.mg_of X G a_fixed_result, F_fixed_result.binds (ps := ["op", "left", "right"]) fun _ _ _ _ _ _ us hl => match us, hl with | [_, _, _], _ => rfl⟩
  have F_clamp_count := fun_mk (st := s_clamp_count) l_clamp_count c_clamp_count k_clamp_count
  have D_clamp_count : Df K mg "clamp_count" s_clamp_count f_clamp_count _ ["number"] := ⟨F_clamp_count, PySem.W.mg_of X G a_clamp_count, F_clamp_count.binds (ps := ["number"]) fun _ _ _ _ _ _ us hl => match us, hl with | [_], _ => rfl⟩
  have F_count_result := fun_mk (st := s_count_result) l_count_result c_count_result k_count_result
  have D_count_result : Df K mg "count_result" s_count_result f_count_result _ ["op", "left", "right"] := ⟨F_count_result, PySem.W.mg_of X G a_count_result, F_count_result.binds (ps := ["op", "left", "right"]) fun _ _ _ _ _ _ us hl => match us, hl with | [_, _, _], _ => rfl⟩
  have F_result := fun_mk (st := s_result) l_result c_result k_result
  have D_result : Df K mg "result" s_result f_result _ ["op", "left", "right"] := ⟨F_result, PySem.W.mg_of X G a_result, F_result.binds (ps := ["op", "left", "right"]) fun _ _ _ _ _ _ us hl => match us, hl with | [_, _, _], _ => rfl⟩
  have F__law_ends := fun_mk (st := s__law_ends) l__law_ends c__law_ends k__law_ends
  have D__law_ends : Df K mg "_law_ends" s__law_ends f__law_ends _ ["kind"] := ⟨F__law_ends, PySem.W.mg_of X G a__law_ends, F__law_ends.binds (ps := ["kind"]) fun _ _ _ _ _ _ us hl => match us, hl with | [_], _ => rfl⟩
  have F__law_hold := fun_mk (st := s__law_hold) l__law_hold c__law_hold k__law_hold
  have D__law_hold : Df K mg "_law_hold" s__law_hold f__law_hold _ ["low", "number", "high"] := ⟨F__law_hold, PySem.W.mg_of X G a__law_hold, F__law_hold.binds (ps := ["low", "number", "high"]) fun _ _ _ _ _ _ us hl => match us, hl with | [_, _, _], _ => rfl⟩
  have F__law_due_of_two := fun_mk (st := s__law_due_of_two) l__law_due_of_two c__law_due_of_two k__law_due_of_two
  have D__law_due_of_two : Df K mg "_law_due_of_two" s__law_due_of_two f__law_due_of_two _ ["op", "l", "r"] := ⟨F__law_due_of_two, PySem.W.mg_of X G a__law_due_of_two, F__law_due_of_two.binds (ps := ["op", "l", "r"]) fun _ _ _ _ _ _ us hl => match us, hl with | [_, _, _], _ => rfl⟩
  have F_single := fun_mk (st := s_single) l_single c_single k_single
  have D_single : Df K mg "single" s_single f_single _ ["op", "value"] := ⟨F_single, PySem.W.mg_of X G a_single, F_single.binds (ps := ["op", "value"]) fun _ _ _ _ _ _ us hl => match us, hl with | [_, _], _ => rfl⟩
  have F__law_due_of_one := fun_mk (st := s__law_due_of_one) l__law_due_of_one c__law_due_of_one k__law_due_of_one
  have D__law_due_of_one : Df K mg "_law_due_of_one" s__law_due_of_one f__law_due_of_one _ ["op", "v"] := ⟨F__law_due_of_one, PySem.W.mg_of X G a__law_due_of_one, F__law_due_of_one.binds (ps := ["op", "v"]) fun _ _ _ _ _ _ us hl => match us, hl with | [_, _], _ => rfl⟩
  have F__law_are_right := fun_mk (st := s__law_are_right) l__law_are_right c__law_are_right k__law_are_right
  have D__law_are_right : Df K mg "_law_are_right" s__law_are_right f__law_are_right _ ["pairs", "alone", "numbers"] := ⟨F__law_are_right, PySem.W.mg_of X G a__law_are_right, F__law_are_right.binds (ps := ["pairs", "alone", "numbers"]) fun _ _ _ _ _ _ us hl => match us, hl with | [_, _, _], _ => rfl⟩
  have F__law_draw := fun_mk (st := s__law_draw) l__law_draw c__law_draw k__law_draw
  have D__law_draw : Df K mg "_law_draw" s__law_draw f__law_draw _ ["d", "many"] := ⟨F__law_draw, PySem.W.mg_of X G a__law_draw, F__law_draw.binds (ps := ["d", "many"]) fun _ _ _ _ _ _ us hl => match us, hl with | [_, _], _ => rfl⟩
  have F__law_pick := fun_mk (st := s__law_pick) l__law_pick c__law_pick k__law_pick
  have D__law_pick : Df K mg "_law_pick" s__law_pick f__law_pick _ ["d", "row"] := ⟨F__law_pick, PySem.W.mg_of X G a__law_pick, F__law_pick.binds (ps := ["d", "row"]) fun _ _ _ _ _ _ us hl => match us, hl with | [_, _], _ => rfl⟩
  have F__law_operand := fun_mk (st := s__law_operand) l__law_operand c__law_operand k__law_operand
  have D__law_operand : Df K mg "_law_operand" s__law_operand f__law_operand _ ["d", "kind"] := ⟨F__law_operand, PySem.W.mg_of X G a__law_operand, F__law_operand.binds (ps := ["d", "kind"]) fun _ _ _ _ _ _ us hl => match us, hl with | [_, _], _ => rfl⟩
  have F__law_second := fun_mk (st := s__law_second) l__law_second c__law_second k__law_second
  have D__law_second : Df K mg "_law_second" s__law_second f__law_second _ ["d", "op", "kind", "l"] := ⟨F__law_second, PySem.W.mg_of X G a__law_second, F__law_second.binds (ps := ["d", "op", "kind", "l"]) fun _ _ _ _ _ _ us hl => match us, hl with | [_, _, _, _], _ => rfl⟩
  have F__law_pair := fun_mk (st := s__law_pair) l__law_pair c__law_pair k__law_pair
  have D__law_pair : Df K mg "_law_pair" s__law_pair f__law_pair _ ["d", "op"] := ⟨F__law_pair, PySem.W.mg_of X G a__law_pair, F__law_pair.binds (ps := ["d", "op"]) fun _ _ _ _ _ _ us hl => match us, hl with | [_, _], _ => rfl⟩
  have F__law_alone := fun_mk (st := s__law_alone) l__law_alone c__law_alone k__law_alone
  have D__law_alone : Df K mg "_law_alone" s__law_alone f__law_alone _ ["d", "op", "turn"] := ⟨F__law_alone, PySem.W.mg_of X G a__law_alone, F__law_alone.binds (ps := ["d", "op", "turn"]) fun _ _ _ _ _ _ us hl => match us, hl with | [_, _, _], _ => rfl⟩
  have F_law := fun_mk (st := s_law) l_law c_law k_law
  have D_law : Df K mg "law" s_law _ _ ["script"] := ⟨F_law, PySem.W.mg_of X G a_law, F_law.binds (ps := ["script"]) fun _ _ _ _ _ _ us hl => match us, hl with | [_], _ => rfl⟩
  refine ⟨PySem.W.fnOf "law" "law" (defArgs s_law) (defBody s_law) (defScope s_law) .none kV_law dc_law pm_law an_law cd_law ct_law, fun s v => .of_eq rfl, fun base _ _ => ?_⟩
  have C__law_begin : Cl l.prog w K mg base 1 "_law_begin" (sp__law_begin K) := D__law_begin.cl (ok__law_begin D__law_begin T )
  have C__law_is_int : Cl l.prog w K mg base 1 "_law_is_int" (sp__law_is_int K) := D__law_is_int.cl (ok__law_is_int D__law_is_int T )
  have C__law_same : Cl l.prog w K mg base 2 "_law_same" (sp__law_same K) := D__law_same.cl (ok__law_same D__law_same T C__law_is_int)
  have C_compared : Cl l.prog w K mg base 1 "compared" (sp_compared K) := D_compared.cl (ok_compared D_compared T )
  have C_clamp : Cl l.prog w K mg base 1 "clamp" (sp_clamp K) := D_clamp.cl (ok_clamp D_clamp T )
  have C_fixed_result : Cl l.prog w K mg base 2 "fixed_result" (sp_fixed_result K) := D_fixed_result.cl (ok_fixed_result D_fixed_result T C_clamp)
  have C_clamp_count : Cl l.prog w K mg base 1 "clamp_count" (sp_clamp_count K) := D_clamp_count.cl (ok_clamp_count D_clamp_count T )
  have C_count_result : Cl l.prog w K mg base 2 "count_result" (sp_count_result K) := D_count_result.cl (ok_count_result D_count_result T C_clamp_count)
  have C_result : Cl l.prog w K mg base 3 "result" (sp_result K) := D_result.cl (ok_result D_result T C_compared C_fixed_result C_count_result)
  have C__law_ends : Cl l.prog w K mg base 1 "_law_ends" (sp__law_ends K) := D__law_ends.cl (ok__law_ends D__law_ends T )
  have C__law_hold : Cl l.prog w K mg base 1 "_law_hold" (sp__law_hold K) := D__law_hold.cl (ok__law_hold D__law_hold T )
  have C__law_due_of_two : Cl l.prog w K mg base 2 "_law_due_of_two" (sp__law_due_of_two K) := D__law_due_of_two.cl (ok__law_due_of_two D__law_due_of_two T C__law_ends C__law_hold)
  have C_single : Cl l.prog w K mg base 2 "single" (sp_single K) := D_single.cl (ok_single D_single T C_clamp_count C_clamp)
  have C__law_due_of_one : Cl l.prog w K mg base 2 "_law_due_of_one" (sp__law_due_of_one K) := D__law_due_of_one.cl (ok__law_due_of_one D__law_due_of_one T C__law_hold)
  have C__law_are_right : Cl l.prog w K mg base 4 "_law_are_right" (sp__law_are_right K) := D__law_are_right.cl (ok__law_are_right D__law_are_right T C__law_same C_result C__law_due_of_two C_single C__law_due_of_one C_clamp C__law_hold C_clamp_count)
  have C__law_draw : Cl l.prog w K mg base 1 "_law_draw" (sp__law_draw K) := D__law_draw.cl (ok__law_draw D__law_draw T )
  have C__law_pick : Cl l.prog w K mg base 2 "_law_pick" (sp__law_pick K) := D__law_pick.cl (ok__law_pick D__law_pick T C__law_draw)
  have C__law_operand : Cl l.prog w K mg base 3 "_law_operand" (sp__law_operand K) := D__law_operand.cl (ok__law_operand D__law_operand T C__law_ends C__law_pick C__law_draw)
  have C__law_second : Cl l.prog w K mg base 4 "_law_second" (sp__law_second K) := D__law_second.cl (ok__law_second D__law_second T C__law_ends C__law_draw C__law_hold C__law_operand C__law_pick)
  have C__law_pair : Cl l.prog w K mg base 5 "_law_pair" (sp__law_pair K) := D__law_pair.cl (ok__law_pair D__law_pair T C__law_pick C__law_operand C__law_second)
  have C__law_alone : Cl l.prog w K mg base 4 "_law_alone" (sp__law_alone K) := D__law_alone.cl (ok__law_alone D__law_alone T C__law_operand C__law_pick)
  exact ok_law D_law T C__law_begin C__law_are_right C__law_pick C__law_draw C__law_pair C__law_alone
theorem walk {l : PySem.W.OpenLaw} {q : Program} {loose : List Str} {XP : (Str → Option Value) → Heap → Prop} {YP : World → Heap → Prop} {d : DefRec} {K : Params → PySem.W.Frag} (hn : l.most = some 63) (hdf : d.params.defaults = [])
    (hY : ∀ (w : World) (h : Heap), YP w h → (K w.params).In h)
    (F : ∀ (w : World) (mg : Str → Option Value) (fa : Addr) (h : Heap), (K w.params).In h → h.Ns mainGlobals mg → mg d.name = some (.ref fa) →
      ∃ fd : FuncData, (∀ (s : Shared) (u : Value), BindsTo s fd ⟨[u], []⟩ [("script", u)]) ∧ ∀ base : Heap, (K w.params).In base → base.Ns mainGlobals mg → FnOk l.prog w (K w.params) mg base CX0 6 fa fd ["script"] (sp_law (K w.params))) :
    PySem.W.WalkO q loose XP YP l.row.toRowW d [] (fun f vs => PySem.call f vs) :=
  L2.walk_ofB (n := 63) (k := 6) (x := "script") (CX := fun _ => CX0) (sp := fun w => sp_law (K w.params)) hn (by decide) hdf ⟨rfl, by decide, by decide⟩ hY F (fun _ _ a ns hl hb _ hS => law_hands a ns hl hb hS) fun _ _ _ _ _ z => z
end Law
open PySem PySem.W PyProof.Rows in
set_option maxRecDepth 100000 in
set_option maxHeartbeats 0 in
theorem PySem.Challenge.cw_judgedplay_k19_operations_holds : PySem.Challenge.rw_judgedplay_k19_operations.Holds := by
  w_on; o_law; k_head; (case hw => w_witness2)
  k_fill
  refine Law.walk (l := PySem.Challenge.rw_judgedplay_k19_operations) rfl rfl (fun w h Y => PySem.W.kIn_of Y) ?F
  case F =>
    intro w mg fa h KX G hmg
    refine' Law.all_mk KX G hmg ?a__law_begin ?l__law_begin ?c__law_begin ?k__law_begin ?a__law_is_int ?l__law_is_int ?c__law_is_int ?k__law_is_int ?a__law_same ?l__law_same ?c__law_same ?k__law_same ?a_compared ?l_compared ?c_compared ?k_compared ?a_clamp ?l_clamp ?c_clamp ?k_clamp ?a_fixed_result ?l_fixed_result ?c_fixed_result ?k_fixed_result ?a_clamp_count ?l_clamp_count ?c_clamp_count ?k_clamp_count ?a_count_result ?l_count_result ?c_count_result ?k_count_result ?a_result ?l_result ?c_result ?k_result ?a__law_ends ?l__law_ends ?c__law_ends ?k__law_ends ?a__law_hold ?l__law_hold ?c__law_hold ?k__law_hold ?a__law_due_of_two ?l__law_due_of_two ?c__law_due_of_two ?k__law_due_of_two ?a_single ?l_single ?c_single ?k_single ?a__law_due_of_one ?l__law_due_of_one ?c__law_due_of_one ?k__law_due_of_one ?a__law_are_right ?l__law_are_right ?c__law_are_right ?k__law_are_right ?a__law_draw ?l__law_draw ?c__law_draw ?k__law_draw ?a__law_pick ?l__law_pick ?c__law_pick ?k__law_pick ?a__law_operand ?l__law_operand ?c__law_operand ?k__law_operand ?a__law_second ?l__law_second ?c__law_second ?k__law_second ?a__law_pair ?l__law_pair ?c__law_pair ?k__law_pair ?a__law_alone ?l__law_alone ?c__law_alone ?k__law_alone ?a_law ?l_law ?c_law ?k_law ?z_int ?z_isinstance ?z_bool ?z_min ?z_max ?z_len ?z_abs ?z_range ?n_LOW ?r_LOW ?n_HIGH ?r_HIGH ?n_PART ?r_PART ?n_MOST_COUNT ?r_MOST_COUNT
    (case a__law_begin => k_is)
    (case l__law_begin => k_is)
    (case c__law_begin => k_is)
    (case k__law_begin => k_is)
    (case a__law_is_int => k_is)
    (case l__law_is_int => k_is)
    (case c__law_is_int => k_is)
    (case k__law_is_int => k_is)
    (case a__law_same => k_is)
    (case l__law_same => k_is)
    (case c__law_same => k_is)
    (case k__law_same => k_is)
    (case a_compared => k_is)
    (case l_compared => k_is)
    (case c_compared => k_is)
    (case k_compared => k_is)
    (case a_clamp => k_is)
    (case l_clamp => k_is)
    (case c_clamp => k_is)
    (case k_clamp => k_is)
    (case a_fixed_result => k_is)
    (case l_fixed_result => k_is)
    (case c_fixed_result => k_is)
    (case k_fixed_result => k_is)
    (case a_clamp_count => k_is)
    (case l_clamp_count => k_is)
    (case c_clamp_count => k_is)
    (case k_clamp_count => k_is)
    (case a_count_result => k_is)
    (case l_count_result => k_is)
    (case c_count_result => k_is)
    (case k_count_result => k_is)
    (case a_result => k_is)
    (case l_result => k_is)
    (case c_result => k_is)
    (case k_result => k_is)
    (case a__law_ends => k_is)
    (case l__law_ends => k_is)
    (case c__law_ends => k_is)
    (case k__law_ends => k_is)
    (case a__law_hold => k_is)
    (case l__law_hold => k_is)
    (case c__law_hold => k_is)
    (case k__law_hold => k_is)
    (case a__law_due_of_two => k_is)
    (case l__law_due_of_two => k_is)
    (case c__law_due_of_two => k_is)
    (case k__law_due_of_two => k_is)
    (case a_single => k_is)
    (case l_single => k_is)
    (case c_single => k_is)
    (case k_single => k_is)
    (case a__law_due_of_one => k_is)
    (case l__law_due_of_one => k_is)
    (case c__law_due_of_one => k_is)
    (case k__law_due_of_one => k_is)
    (case a__law_are_right => k_is)
    (case l__law_are_right => k_is)
    (case c__law_are_right => k_is)
    (case k__law_are_right => k_is)
    (case a__law_draw => k_is)
    (case l__law_draw => k_is)
    (case c__law_draw => k_is)
    (case k__law_draw => k_is)
    (case a__law_pick => k_is)
    (case l__law_pick => k_is)
    (case c__law_pick => k_is)
    (case k__law_pick => k_is)
    (case a__law_operand => k_is)
    (case l__law_operand => k_is)
    (case c__law_operand => k_is)
    (case k__law_operand => k_is)
    (case a__law_second => k_is)
    (case l__law_second => k_is)
    (case c__law_second => k_is)
    (case k__law_second => k_is)
    (case a__law_pair => k_is)
    (case l__law_pair => k_is)
    (case c__law_pair => k_is)
    (case k__law_pair => k_is)
    (case a__law_alone => k_is)
    (case l__law_alone => k_is)
    (case c__law_alone => k_is)
    (case k__law_alone => k_is)
    (case a_law => k_is)
    (case l_law => k_is)
    (case c_law => k_is)
    (case k_law => k_is)
    (case z_int => k_is)
    (case z_isinstance => k_is)
    (case z_bool => k_is)
    (case z_min => k_is)
    (case z_max => k_is)
    (case z_len => k_is)
    (case z_abs => k_is)
    (case z_range => k_is)
    (case n_LOW => k_is)
    (case r_LOW => first | exact ⟨_, rfl⟩ | rfl)
    (case n_HIGH => k_is)
    (case r_HIGH => first | exact ⟨_, rfl⟩ | rfl)
    (case n_PART => k_is)
    (case r_PART => first | exact ⟨_, rfl⟩ | rfl)
    (case n_MOST_COUNT => k_is)
    (case r_MOST_COUNT => first | exact ⟨_, rfl⟩ | rfl)
#print axioms PySem.Challenge.cw_judgedplay_k19_operations_holds
