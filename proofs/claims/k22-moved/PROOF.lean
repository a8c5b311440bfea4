import PyProof.Rows.All
import Wide.All
import OpenK.AllK
import Wide.FinOn
import HandS.ForMost
import HandS.Wide
import HandS.WideBits
import HandS.IsInst
import HandS.TupAny
import HandS.Deep
import HandS.EndBits
import HandS.More
import HandS.Walk
import PySem.Challenge.RW_judgedplay_k22_moved
set_option Elab.async false
set_option linter.all false
set_option maxRecDepth 100000
set_option maxHeartbeats 4000000
/-! ### my own layer: introduction forms for the readings -/
namespace Jp
open PySem PySem.Spec PyProof.Rows L2
/-! rules by names -/
section
variable {X : Cx}
def rInt1 : List V → Hp → VK → Prop := fun xs H Q => (∃ i, xs = [.int i] ∧ Q (.int i) H) ∨ ∃ k, xs = [.bl k] ∧ Q (.int (if k then 1 else 0)) H
theorem c_int : CallR X (.type "int") rInt1 := call_int1
def rAbs : List V → Hp → VK → Prop := fun xs H Q => ∃ i, xs = [.int i] ∧ Q (.int (if i < 0 then -i else i)) H
theorem c_abs : CallR X (.builtin "abs") rAbs := call_abs
def rMax2 : List V → Hp → VK → Prop := fun xs H Q => ∃ i j, xs = [.int i, .int j] ∧ Q (.int (if j > i then j else i)) H
theorem c_max2 (hc : X.calm = true) : CallR X (.builtin "max") rMax2 := call_max2 hc
def rMin2 : List V → Hp → VK → Prop := fun xs H Q => ∃ i j, xs = [.int i, .int j] ∧ Q (.int (if j < i then j else i)) H
theorem c_min2 (hc : X.calm = true) : CallR X (.builtin "min") rMin2 := call_min2 hc
def qLen (K : PySem.W.Frag) : List V → Hp → VK → Prop := fun xs H Q => ∃ x n, xs = [x] ∧ LenV K x H n ∧ Q (.int (n : Nat)) H
theorem c_len : CallR X (.builtin "len") (qLen X.K) := call_len
def rLenD : List V → Hp → VK → Prop := fun xs H Q => ∃ a kvs, xs = [V.ref a] ∧ H a = some (.dK kvs) ∧ Q (.int kvs.length) H
theorem c_lenD : CallR X (.builtin "len") rLenD := call_lenD
def rTupOf (K : PySem.W.Frag) : List V → Hp → VK → Prop := fun xs H Q => ∃ p ys, xs = [.ref p] ∧ ((SqL K H p ys ∧ ∀ l, H l = none → Q (.ref l) (upd H l (.tup ys))) ∨ (SqT K H p ys ∧ Q (.ref p) H))
theorem c_tup : CallR X (.type "tuple") (rTupOf X.K) := call_tuple_of
def rLstOf (K : PySem.W.Frag) : List V → Hp → VK → Prop := fun xs H Q => ∃ p ys, xs = [.ref p] ∧ (SqL K H p ys ∨ SqT K H p ys) ∧ ∀ l, H l = none → Q (.ref l) (upd H l (.lst ys))
theorem c_lst : CallR X (.type "list") (rLstOf X.K) := call_list_of
def rBool1 : List V → Hp → VK → Prop := fun xs H Q => (∃ i, xs = [.int i] ∧ Q (.bl (i != 0)) H) ∨ ∃ k, xs = [.bl k] ∧ Q (.bl k) H
theorem c_bool1 : CallR X (.type "bool") rBool1 := call_bool1
def rIsNon : R2 := fun x y H Q => y = .non ∧ Q (.bl (decide (x = .non))) H
theorem o_isN : OpR X (compareOp .Is) rIsNon := op_isN
def rNotNon : R2 := fun x y H Q => y = .non ∧ Q (.bl (!decide (x = .non))) H
theorem o_notN : OpR X (compareOp .IsNot) rNotNon := op_notN
def rAddStr : R2 := fun x y H Q => ∃ i j, x = .str i ∧ y = .str j ∧ i.length + j.length ≤ sizeLine ∧ Q (.str (i ++ j)) H
theorem o_addS : OpR X (binaryOp .Add) rAddStr := op_add_str
theorem o_iaddS : OpR X (inplaceOp .Add) rAddStr := iop_add_str
end
section
variable {K : PySem.W.Frag} {σ : L2.St} {H : Hp} {Q : VK}
theorem i_isN {x : V} (q : Q (.bl (decide (x = .non))) H) : rIsNon x .non H Q := ⟨rfl, q⟩
theorem i_notN {x : V} (q : Q (.bl (!decide (x = .non))) H) : rNotNon x .non H Q := ⟨rfl, q⟩
theorem i_int {i : Int} (q : Q (.int i) H) : rInt1 [.int i] H Q := .inl ⟨i, rfl, q⟩
theorem i_intB {k : Bool} (q : Q (.int (if k then 1 else 0)) H) : rInt1 [.bl k] H Q := .inr ⟨k, rfl, q⟩
theorem i_abs {i : Int} (q : Q (.int (if i < 0 then -i else i)) H) : rAbs [.int i] H Q := ⟨i, rfl, q⟩
theorem i_max2 {i j : Int} (q : Q (.int (if j > i then j else i)) H) : rMax2 [.int i, .int j] H Q := ⟨i, j, rfl, q⟩
theorem i_min2 {i j : Int} (q : Q (.int (if j < i then j else i)) H) : rMin2 [.int i, .int j] H Q := ⟨i, j, rfl, q⟩
theorem i_lenL {p : Addr} {xs : List V} (h : SqL K H p xs) (q : Q (.int xs.length) H) : qLen K [.ref p] H Q := ⟨.ref p, xs.length, rfl, .inl ⟨xs, h, rfl⟩, q⟩
theorem i_lenT {p : Addr} {xs : List V} (h : SqT K H p xs) (q : Q (.int xs.length) H) : qLen K [.ref p] H Q := ⟨.ref p, xs.length, rfl, .inr ⟨xs, h, rfl⟩, q⟩
theorem i_lenS {x : Str} (h : x.length ≤ sizeLine) (q : Q (.int x.length) H) : qLen K [.str x] H Q := ⟨.str x, x.length, rfl, ⟨h, rfl⟩, q⟩
theorem i_lenD {p : Addr} {kvs : List (L2.Key × V)} (h : H p = some (.dK kvs)) (q : Q (.int kvs.length) H) : rLenD [.ref p] H Q := ⟨p, kvs, rfl, h, q⟩
theorem i_tupL {p : Addr} {ys : List V} (h : SqL K H p ys) (q : ∀ l, H l = none → Q (.ref l) (upd H l (.tup ys))) : rTupOf K [.ref p] H Q := ⟨p, ys, rfl, .inl ⟨h, q⟩⟩
theorem i_tupT {p : Addr} {ys : List V} (h : SqT K H p ys) (q : Q (.ref p) H) : rTupOf K [.ref p] H Q := ⟨p, ys, rfl, .inr ⟨h, q⟩⟩
theorem i_lstL {p : Addr} {ys : List V} (h : SqL K H p ys) (q : ∀ l, H l = none → Q (.ref l) (upd H l (.lst ys))) : rLstOf K [.ref p] H Q := ⟨p, ys, rfl, .inl h, q⟩
theorem i_lstT {p : Addr} {ys : List V} (h : SqT K H p ys) (q : ∀ l, H l = none → Q (.ref l) (upd H l (.lst ys))) : rLstOf K [.ref p] H Q := ⟨p, ys, rfl, .inr h, q⟩
theorem i_catA {p b : Addr} {xs ys : List V} (h1 : SqT K H p xs) (h2 : SqT K H b ys) (hl : xs.length + ys.length ≤ sizeLine) (q : ∀ (r : Addr) (H' : Hp), (∀ b o, H b = some o → H' b = some o) → SqT K H' r (xs ++ ys) → Q (.ref r) H') : rCatA K (.ref p) (.ref b) H Q := by
  refine ⟨p, b, xs, ys, rfl, rfl, h1, h2, hl, fun e => ?_, fun _ e => ?_, fun _ _ r hr => ?_⟩
  · subst e; exact q b H (fun _ _ h => h) h2
  · subst e; exact q p H (fun _ _ h => h) (by rw [List.append_nil]; exact h1)
  · exact q r _ (fun b o e => by rw [upd_ne (ne_of_none e hr)]; exact e) (.inl (.inl upd_same))
theorem i_catI {p b : Addr} {ns ms : List Int} (h1 : SqT K H p (ns.map V.int)) (h2 : SqT K H b (ms.map V.int)) (hl : ns.length + ms.length ≤ 10000) (q : ∀ (r : Addr) (H' : Hp), (∀ b o, H b = some o → H' b = some o) → SqT K H' r ((ns ++ ms).map V.int) → Q (.ref r) H') : rCatA K (.ref p) (.ref b) H Q :=
  i_catA h1 h2 (by rw [List.length_map, List.length_map]; exact Nat.le_trans hl (by decide)) fun r H' s t => q r H' s (by rw [List.map_append]; exact t)
/-- ns[lo:hi] -/
def cutI (ns : List Int) (lo hi : Option Int) : List Int := (ns.drop (HT.sIx ns.length 0 lo)).take (HT.sIx ns.length ns.length hi - HT.sIx ns.length 0 lo)
theorem cutI_len (ns : List Int) (lo hi : Option Int) : (cutI ns lo hi).length ≤ ns.length := by
  unfold cutI
  rw [List.length_take, List.length_drop]
  omega
theorem i_slI {p : Addr} {ns : List Int} {lo hi : Option Int} (h : SqT K H p (ns.map V.int)) (hw : ¬ (HT.sIx ns.length 0 lo = 0 ∧ HT.sIx ns.length ns.length hi = ns.length))
    (q : ∀ (r : Addr) (H' : Hp), (∀ b o, H b = some o → H' b = some o) → SqT K H' r ((cutI ns lo hi).map V.int) → Q (.ref r) H') : rSlT K (.ref p) lo hi H Q := by
  refine ⟨p, _, rfl, h, by rw [List.length_map]; exact hw, fun r hr => q r _ (fun b o e => by rw [upd_ne (ne_of_none e hr)]; exact e) (.inl (.inl ?_))⟩
  rw [upd_same]
  unfold cutV cutI
  rw [List.length_map, List.map_take, List.map_drop]
theorem i_sl {r : V → Option Int → Option Int → Hp → VK → Prop} {te : TE} {tl th : TO} (h : te σ H fun x H1 => tl σ H1 fun l H2 => th σ H2 fun u H3 => r x l u H3 Q) : tSl r te tl th σ H Q := h
theorem i_noPart {Q : Option Int → Hp → Prop} (q : Q none H) : tNoPart σ H Q := q
theorem i_part {t : TE} {Q : Option Int → Hp → Prop} (h : t σ H fun x H1 => ∃ i, x = .int i ∧ Q (some i) H1) : tPart t σ H Q := h
theorem i_cat {p b : Addr} {xs zs : List V} (h1 : H p = some (.lst xs)) (h2 : H b = some (.lst zs)) (hl : xs.length + zs.length ≤ sizeLine) (q : ∀ r, H r = none → Q (.ref r) (upd H r (.lst (xs ++ zs)))) : rCat (.ref p) (.ref b) H Q := ⟨p, b, xs, zs, rfl, rfl, h1, h2, hl, q⟩
theorem i_cat' {p b : Addr} {xs zs : List V} (e1 : H p = some (.lst xs)) (e2 : H b = some (.lst zs)) (hl : xs.length + zs.length ≤ 10000) (q : ∀ r H', (∀ b o, H b = some o → H' b = some o) → H r = none → H' r = some (.lst (xs ++ zs)) → Q (.ref r) H') : rCat (.ref p) (.ref b) H Q :=
  i_cat e1 e2 (by rw [sizeLine_eq]; omega) fun r hr => q r _ (fun b o e => by rw [upd_ne (ne_of_none e hr)]; exact e) hr upd_same
theorem i_slL {p : Addr} {xs : List V} {lo hi : Option Int} (h : SqL K H p xs) (q : ∀ r H', (∀ b o, H b = some o → H' b = some o) → H r = none → H' r = some (.lst (cutV xs lo hi)) → Q (.ref r) H') : rSlL K (.ref p) lo hi H Q :=
  ⟨p, xs, rfl, h, fun r hr => q r _ (fun b o e => by rw [upd_ne (ne_of_none e hr)]; exact e) hr upd_same⟩
theorem i_chain {r r' : R2} {ta tb tc : TE} (h : ta σ H fun x H1 => tb σ H1 fun y H2 => r x y H2 fun z H3 => ∃ k, z = .bl k ∧ (if k = true then tc σ H3 fun w' H4 => r' y w' H4 Q else Q (.bl false) H3)) : tChain r r' ta tb tc σ H Q := h
theorem i_popAt {p : Addr} {xs : List V} {i : Int} {y : V} (h : H p = some (.lst xs)) (h0 : 0 ≤ i) (h1 : i < xs.length) (h2 : xs.length ≤ 1000000) (e : xs[i.toNat]? = some y) (q : Q y (upd H p (.lst (xs.eraseIdx i.toNat)))) : rPopAt (.ref p) [.int i] H Q :=
  ⟨p, xs, i, i.toNat, y, rfl, rfl, h, by omega, by omega, seqIndex_of h0 h1, e, q⟩
theorem i_isI {i : Int} {Q : Int → Prop} (q : Q i) : ∃ i', V.int i = .int i' ∧ Q i' := ⟨i, rfl, q⟩
theorem i_bm {T : String} {r : V → List V → Hp → VK → Prop} {to : TE} {t : TA} (h : to σ H fun x H1 => tyV K T x H1 ∧ t σ H1 fun xs H2 => r x xs H2 Q) : tBM K T r to t σ H Q := h
theorem i_bm0 {T : String} {r : V → List V → Hp → VK → Prop} {to : TE} (h : to σ H fun x H1 => tyV K T x H1 ∧ r x [] H1 Q) : tBM0 K T r to σ H Q := h
theorem i_tyL {p : Addr} {xs : List V} {R : Prop} (s : SqL K H p xs) (q : R) : tyV K "list" (.ref p) H ∧ R := ⟨.inl ⟨rfl, xs, s⟩, q⟩
theorem i_app {p : Addr} {xs : List V} {y : V} (h : H p = some (.lst xs)) (hl : xs.length < sizeLine) (q : Q .non (upd H p (.lst (xs ++ [y])))) : rAppend (.ref p) [y] H Q := ⟨p, xs, y, rfl, rfl, h, hl, q⟩
theorem i_addS {x y : Str} (h : x.length + y.length ≤ sizeLine) (q : Q (.str (x ++ y)) H) : rAddStr (.str x) (.str y) H Q := ⟨x, y, rfl, rfl, h, q⟩
theorem i_isi {x : V} {n : String} {t : Value} {b : Bool} (ty : TyX K H x t) (e : PySem.W.kitOne K t (.type n) = some b) (q : Q (.bl b) H) : rIsi K [x, .ty n] H Q := ⟨x, .ty n, t, .type n, b, rfl, .ty n, ty, e, q⟩
theorem i_var {i : Nat} {v : V} (h : σ[i]? = some (some v)) (q : Q v H) : tVar i σ H Q := ⟨v, h, q⟩
theorem i_c {v : V} (q : Q v H) : tC v σ H Q := q
theorem i_op {r : R2} {ta tb : TE} (h : ta σ H fun x H1 => tb σ H1 fun y H2 => r x y H2 Q) : tOp r ta tb σ H Q := h
theorem i_un {r : V → Hp → VK → Prop} {ta : TE} (h : ta σ H fun x H1 => r x H1 Q) : tUn r ta σ H Q := h
theorem i_rI0 {g : Int → Int → V} {i j : Int} (q : Q (g i j) H) : rI0 g (.int i) (.int j) H Q := ⟨i, j, rfl, rfl, q⟩
theorem i_rI {C : Int → Int → Prop} {g : Int → Int → V} {i j : Int} (c : C i j) (q : Q (g i j) H) : rI C g (.int i) (.int j) H Q := ⟨i, j, rfl, rfl, c, q⟩
theorem i_rU {g : Int → V} {i : Int} (q : Q (g i) H) : rU g (.int i) H Q := ⟨i, rfl, q⟩
theorem i_eqI {i j : Int} (q : Q (.bl (decide (i = j))) H) : rEq (.int i) (.int j) H Q := ⟨rfl, by
  have e : decide (V.int i = V.int j) = decide (i = j) := by simp
  rw [e]; exact q⟩
theorem i_neI {i j : Int} (q : Q (.bl (!decide (i = j))) H) : rNe (.int i) (.int j) H Q := ⟨rfl, by
  have e : decide (V.int i = V.int j) = decide (i = j) := by simp
  rw [e]; exact q⟩
theorem i_eqB {i j : Bool} (q : Q (.bl (decide (i = j))) H) : rEq (.bl i) (.bl j) H Q := ⟨rfl, by
  have e : decide (V.bl i = V.bl j) = decide (i = j) := by simp
  rw [e]; exact q⟩
theorem i_neB {i j : Bool} (q : Q (.bl (!decide (i = j))) H) : rNe (.bl i) (.bl j) H Q := ⟨rfl, by
  have e : decide (V.bl i = V.bl j) = decide (i = j) := by simp
  rw [e]; exact q⟩
theorem i_eqS {i j : Str} (q : Q (.bl (decide (i = j))) H) : rEq (.str i) (.str j) H Q := ⟨rfl, by
  have e : decide (V.str i = V.str j) = decide (i = j) := by simp
  rw [e]; exact q⟩
theorem i_neS {i j : Str} (q : Q (.bl (!decide (i = j))) H) : rNe (.str i) (.str j) H Q := ⟨rfl, by
  have e : decide (V.str i = V.str j) = decide (i = j) := by simp
  rw [e]; exact q⟩
/-! index -/
theorem i_ixL {p : Addr} {xs : List V} {i : Int} {v : V} (h : SqL K H p xs) (e : atI xs i = some v) (q : Q v H) : rIxL K (.ref p) (.int i) H Q := ⟨p, xs, i, v, rfl, rfl, h, e, q⟩
theorem i_ixT {p : Addr} {xs : List V} {i : Int} {v : V} (h : SqT K H p xs) (e : atI xs i = some v) (q : Q v H) : rIxT K (.ref p) (.int i) H Q := ⟨p, xs, i, v, rfl, rfl, h, e, q⟩
theorem i_ix1 {x y : V} (h : rIxL K x y H Q) : rIx K x y H Q := .inl h
theorem i_ix2 {x y : V} (h : rIxT K x y H Q) : rIx K x y H Q := .inr (.inl h)
/-! arguments, calls, displays -/
theorem i_nil {Q : List V → Hp → Prop} (q : Q [] H) : tNil σ H Q := q
theorem i_cons {ta : TE} {tr : TA} {Q : List V → Hp → Prop} (h : ta σ H fun x H1 => tr σ H1 fun xs H2 => Q (x :: xs) H2) : tCons ta tr σ H Q := h
theorem i_call {sp : Sp} {E : XK} {t : TA} (h : t σ H fun vs H1 => sp (vs ++ []) H1 Q E) : tCall sp [] E t σ H Q := h
theorem i_cb {r : List V → Hp → VK → Prop} {t : TA} (h : t σ H fun vs H1 => r vs H1 Q) : tCB r t σ H Q := h
theorem i_tup {t : TA} (h : t σ H fun xs H1 => xs.length ≤ sizeLine ∧ ∀ p, H1 p = none → Q (.ref p) (upd H1 p (.tup xs))) : tTup t σ H Q := h
theorem i_lst {t : TA} (h : t σ H fun xs H1 => xs.length ≤ sizeLine ∧ ∀ p, H1 p = none → Q (.ref p) (upd H1 p (.lst xs))) : tLst t σ H Q := h
theorem i_new {n : Nat} {R : Addr → Prop} (h : n ≤ sizeLine) (q : ∀ p, H p = none → R p) : n ≤ sizeLine ∧ ∀ p, H p = none → R p := ⟨h, q⟩
theorem i_if {c : TT} {ta tb : TE} (h : c σ H fun b H1 => if b = true then ta σ H1 Q else tb σ H1 Q) : tIf c ta tb σ H Q := h
theorem i_andV {ta tb : TE} (h : ta σ H fun x H1 => ∃ c, x = .bl c ∧ if c = true then tb σ H1 Q else Q (.bl false) H1) : tAndV ta tb σ H Q := h
theorem i_orV {ta tb : TE} (h : ta σ H fun x H1 => ∃ c, x = .bl c ∧ if c = true then Q (.bl true) H1 else tb σ H1 Q) : tOrV ta tb σ H Q := h
theorem i_notV {ta : TE} (h : ta σ H fun x H1 => ∃ c, x = .bl c ∧ Q (.bl (!c)) H1) : tNotV ta σ H Q := h
/-! tests -/
theorem i_test {t : TE} {Q : Bool → Hp → Prop} (h : t σ H fun x H1 => ∃ k, x = .bl k ∧ Q k H1) : tTest t σ H Q := h
theorem i_B {t : TE} {Q : Bool → Hp → Prop} (h : t σ H fun x H1 => ∃ k, x = .bl k ∧ Q k H1) : tB t σ H Q := h
theorem i_isb {k : Bool} {Q : Bool → Prop} (q : Q k) : ∃ k', V.bl k = .bl k' ∧ Q k' := ⟨k, rfl, q⟩
theorem i_and {t u : TT} {Q : Bool → Hp → Prop} (h : t σ H fun c H1 => if c = true then u σ H1 Q else Q false H1) : tAnd t u σ H Q := h
theorem i_or {t u : TT} {Q : Bool → Hp → Prop} (h : t σ H fun c H1 => if c = true then Q true H1 else u σ H1 Q) : tOr t u σ H Q := h
theorem i_not {t : TT} {Q : Bool → Hp → Prop} (h : t σ H fun c H1 => Q (!c) H1) : tNot t σ H Q := h
/-! statements -/
section
variable {nx : L2.St → Hp → Prop} {rt : VK} {bk ct : L2.St → Hp → Prop}
theorem i_seq {t u : TS} (h : t ⟨u ⟨nx, rt, bk, ct⟩, rt, bk, ct⟩ σ H) : tSeq t u ⟨nx, rt, bk, ct⟩ σ H := h
theorem i_next (h : nx σ H) : tNext ⟨nx, rt, bk, ct⟩ σ H := h
theorem i_asg {te : TE} {g : TG} (h : te σ H fun x H1 => g x σ H1 nx) : tAsg te g ⟨nx, rt, bk, ct⟩ σ H := h
theorem i_drop {te : TE} (h : te σ H fun _ H1 => nx σ H1) : tDrop te ⟨nx, rt, bk, ct⟩ σ H := h
theorem i_ret {te : TE} (h : te σ H rt) : tRet te ⟨nx, rt, bk, ct⟩ σ H := h
theorem i_retN (h : rt .non H) : tRetN ⟨nx, rt, bk, ct⟩ σ H := h
theorem i_ifS {c : TT} {t u : TS} (h : c σ H fun b H1 => if b = true then t ⟨nx, rt, bk, ct⟩ σ H1 else u ⟨nx, rt, bk, ct⟩ σ H1) : tIfS c t u ⟨nx, rt, bk, ct⟩ σ H := h
theorem i_ifC {c : TT} {t u : TS} (J : L2.St → Hp → Prop) (h1 : ∀ σ' H', J σ' H' → nx σ' H') (h2 : ∀ N : L2.St → Hp → Prop, (∀ σ' H', J σ' H' → N σ' H') → tIfS c t u ⟨N, rt, bk, ct⟩ σ H) : tIfS c t u ⟨nx, rt, bk, ct⟩ σ H := h2 _ h1
theorem i_break (h : bk σ H) : tBreak ⟨nx, rt, bk, ct⟩ σ H := h
theorem i_cont (h : ct σ H) : tCont ⟨nx, rt, bk, ct⟩ σ H := h
theorem i_augE {i : Nat} {te : TE} {ti : TIp} {x : V} (e : σ[i]? = some (some x)) (h : te σ H fun y H1 => ti x y H1 fun z H2 => gName i z σ H2 nx) : tAug i te ti ⟨nx, rt, bk, ct⟩ σ H := ⟨x, e, h⟩
theorem i_augS {to ti te : TE} {tget : V → V → Hp → VK → Prop} {tip : TIp} {tset : TSet} (h : to σ H fun o H1 => ti σ H1 fun i H2 => tget o i H2 fun x H3 => te σ H3 fun y H4 => tip x y H4 fun z H5 => tset o i z H5 fun H6 => nx σ H6) : tAugS to ti te tget tip tset ⟨nx, rt, bk, ct⟩ σ H := h
theorem i_ipI {f : Int → Int → Int} {i j : Int} (q : Q (.int (f i j)) H) : ipI f (.int i) (.int j) H Q := ⟨i, j, rfl, rfl, q⟩
theorem i_for {wi : TI} {g : TG} {tb : TS} (h : wi σ H fun J H1 => ∃ W : Nat → Nat → L2.St → Hp → Prop, (∃ m, W 0 m σ H1) ∧ ∀ i m σ H, W i m σ H →
  (J.stop i H ∧ nx σ H) ∨ (J.go i H ∧ ∃ N : L2.St → Hp → Prop, (∀ σ' H', N σ' H' → ∃ m', m' < m ∧ W (i + 1) m' σ' H') ∧ ∀ x H', J.yld i H x H' → g x σ H' fun σ2 H2 => tb ⟨N, rt, nx, N⟩ σ2 H2)) : tFor wi g tb ⟨nx, rt, bk, ct⟩ σ H := h
theorem i_iList {tl : TE} {R : It → Hp → Prop} (h : tl σ H fun x H1 => ∃ a, x = .ref a ∧ (∃ xs, SqL K H1 a xs) ∧ R (Itl K a) H1) : iList K tl σ H R := h
theorem i_iTup {tl : TE} {R : It → Hp → Prop} (h : tl σ H fun x H1 => ∃ a, x = .ref a ∧ (∃ xs, SqT K H1 a xs) ∧ R (Itt K a) H1) : iTup K tl σ H R := h
theorem i_isL {a : Addr} {xs : List V} {R : Addr → Prop} (s : SqL K H a xs) (h : R a) : ∃ a', V.ref a = .ref a' ∧ (∃ xs, SqL K H a' xs) ∧ R a' := ⟨a, rfl, ⟨xs, s⟩, h⟩
theorem i_isT {a : Addr} {xs : List V} {R : Addr → Prop} (s : SqT K H a xs) (h : R a) : ∃ a', V.ref a = .ref a' ∧ (∃ xs, SqT K H a' xs) ∧ R a' := ⟨a, rfl, ⟨xs, s⟩, h⟩
theorem i_rng1 {ta : TA} {R : It → Hp → Prop} (h : ta σ H fun vs H1 => ∃ j : Int, vs = [.int j] ∧ -(2 ^ 62) ≤ j ∧ j < 2 ^ 62 ∧ R (Itr 0 j.toNat) H1) : iRng1 ta σ H R := h
theorem i_rng2 {ta : TA} {R : It → Hp → Prop} (h : ta σ H fun vs H1 => ∃ i j : Int, vs = [.int i, .int j] ∧ (-(2 ^ 62) ≤ i ∧ i < 2 ^ 62 ∧ -(2 ^ 62) ≤ j ∧ j < 2 ^ 62) ∧ R (Itr i (j - i).toNat) H1) : iRng2 ta σ H R := h
theorem i_isR1 {j : Int} {R : Int → Prop} (h1 : -(2 ^ 62) ≤ j) (h2 : j < 2 ^ 62) (h : R j) : ∃ j' : Int, [V.int j] = [.int j'] ∧ -(2 ^ 62) ≤ j' ∧ j' < 2 ^ 62 ∧ R j' := ⟨j, rfl, h1, h2, h⟩
theorem i_isR2 {i j : Int} {R : Int → Int → Prop} (h1 : -(2 ^ 62) ≤ i) (h2 : i < 2 ^ 62) (h3 : -(2 ^ 62) ≤ j) (h4 : j < 2 ^ 62) (h : R i j) : ∃ i' j' : Int, [V.int i, V.int j] = [.int i', .int j'] ∧ (-(2 ^ 62) ≤ i' ∧ i' < 2 ^ 62 ∧ -(2 ^ 62) ≤ j' ∧ j' < 2 ^ 62) ∧ R i' j' := ⟨i, j, rfl, ⟨h1, h2, h3, h4⟩, h⟩
end
/-! comprehensions -/
theorem i_lc {wi : TI} {g : TG} {tt : TT} {te : TE} {ws : List Nat} {σ' : L2.St} (e : wipe σ ws = σ') (h : wi σ H fun J H1 => ∀ D, H1 D = none → ∃ W : Nat → Nat → Hp → Prop, (∃ m, W 0 m (upd H1 D (.lst []))) ∧ ∀ i m H, W i m H →
  (J.stop i H ∧ Q (.ref D) H) ∨ (J.go i H ∧ ∃ Nx : Hp → Prop, (∀ H', Nx H' → ∃ m', m' < m ∧ W (i + 1) m' H') ∧ ∀ x H', J.yld i H x H' → g x σ' H' fun σ2 H2 => wipe σ2 ws = σ' ∧ tt σ2 H2 fun b H3 =>
    if b = true then te σ2 H3 fun y H4 => ∃ acc, H4 D = some (.lst acc) ∧ acc.length < sizeLine ∧ Nx (upd H4 D (.lst (acc ++ [y]))) else Nx H3)) : tLc wi g tt te ws σ H Q := by subst e; exact h
/-! targets -/
theorem i_gNameE {i : Nat} {v : V} {σ' : L2.St} {Q : L2.St → Hp → Prop} (e : σ.set i (some v) = σ') (q : Q σ' H) : gName i v σ H Q := by subst e; exact q
theorem st_of {t : TS} {D : Ends} {σ σ' : L2.St} {H : Hp} (e : σ = σ') (h : t D σ' H) : t D σ H := by subst e; exact h
theorem i_gName {i : Nat} {v : V} {Q : L2.St → Hp → Prop} (q : Q (σ.set i (some v)) H) : gName i v σ H Q := q
theorem i_gSub {to ti : TE} {t : TSet} {v : V} {Q : L2.St → Hp → Prop} (h : to σ H fun o H1 => ti σ H1 fun i H2 => t o i v H2 fun H3 => Q σ H3) : gSub to ti t v σ H Q := h
theorem i_setL {p : Addr} {xs : List V} {k : Int} {j : Nat} {v : V} {Q : Hp → Prop} (h : H p = some (.lst xs)) (e : ixN xs.length k = some j) (q : Q (upd H p (.lst (xs.set j v)))) : rSetL (.ref p) (.int k) v H Q := ⟨p, xs, k, j, rfl, rfl, h, e, q⟩
theorem i_gTup {n : Nat} {t : TGs} {a : Addr} {xs : List V} {Q : L2.St → Hp → Prop} (h : SqT K H a xs) (e : xs.length = n) (q : t xs σ H Q) : gTup K n t (.ref a) σ H Q := ⟨a, xs, rfl, h, e, q⟩
theorem i_gNil {Q : L2.St → Hp → Prop} (q : Q σ H) : gNil [] σ H Q := ⟨rfl, q⟩
theorem i_gCons {t : TG} {u : TGs} {v : V} {r : List V} {Q : L2.St → Hp → Prop} (q : t v σ H fun σ' H' => u r σ' H' Q) : gCons t u (v :: r) σ H Q := ⟨v, r, rfl, q⟩
/-! builtins' calls -/
end
/-! ### heaps -/
/-- all but p is as it was -/
def Kp (p : Addr) (H H' : Hp) : Prop := ∀ b o, H b = some o → b ≠ p → H' b = some o
theorem Kp.refl {p : Addr} {H : Hp} : Kp p H H := fun _ _ e _ => e
theorem Kp.of {p : Addr} {H H' : Hp} (s : Same H H') : Kp p H H' := fun b o e _ => s b o e
theorem Kp.trans {p : Addr} {H H1 H2 : Hp} (a : Kp p H H1) (b : Kp p H1 H2) : Kp p H H2 := fun c o e n => b c o (a c o e n) n
theorem Kp.upd {p : Addr} {H : Hp} {o : HO} : Kp p H (upd H p o) := fun b u e n => by rw [upd_ne n]; exact e
theorem same_new {H : Hp} {p : Addr} {o : HO} (h : H p = none) : Same H (upd H p o) := fun b x e => by
  rw [upd_ne (ne_of_none e h)]
  exact e
theorem Same.tup {K : PySem.W.Frag} {H H' : Hp} {a : Addr} {xs : List V} (e : Same H H') (h : SqT K H a xs) : SqT K H' a xs := by
  rcases h with (h | ⟨o, h⟩) | h
  · exact .inl (.inl (e _ _ h))
  · exact .inl (.inr ⟨o, e _ _ h⟩)
  · exact .inr h
/-- all tuples are as they were -/
def Tps (H H' : Hp) : Prop := ∀ a, (∀ xs, H a = some (.tup xs) → H' a = some (.tup xs)) ∧ ∀ o xs, H a = some (.frz o (.tup xs)) → H' a = some (.frz o (.tup xs))
theorem Tps.sq {K : PySem.W.Frag} {H H' : Hp} {a : Addr} {xs : List V} (e : Tps H H') (h : SqT K H a xs) : SqT K H' a xs := by
  rcases h with (h | ⟨o, h⟩) | h
  · exact .inl (.inl ((e a).1 _ h))
  · exact .inl (.inr ⟨o, (e a).2 _ _ h⟩)
  · exact .inr h
theorem Tps.refl {H : Hp} : Tps H H := fun _ => ⟨fun _ h => h, fun _ _ h => h⟩
theorem Tps.trans {H H1 H2 : Hp} (a : Tps H H1) (b : Tps H1 H2) : Tps H H2 := fun c => ⟨fun xs h => (b c).1 xs ((a c).1 xs h), fun o xs h => (b c).2 o xs ((a c).2 o xs h)⟩
theorem Tps.of {H H' : Hp} (s : Same H H') : Tps H H' := fun a => ⟨fun xs h => s _ _ h, fun o xs h => s _ _ h⟩
theorem Kp.tps {p : Addr} {H H' : Hp} (k : Kp p H H') {xs : List V} (h : H p = some (.lst xs)) : Tps H H' := fun a => ⟨fun ys e => k _ _ e (ne_of e h (by intro z; cases z)), fun o ys e => k _ _ e (ne_of e h (by intro z; cases z))⟩
theorem Kp.seq {K : PySem.W.Frag} {p b : Addr} {H H' : Hp} {xs : List V} (k : Kp p H H') (h : SqL K H b xs) (n : b ≠ p) : SqL K H' b xs := by
  rcases h with (h | ⟨o, h⟩) | h
  · exact .inl (.inl (k _ _ h n))
  · exact .inl (.inr ⟨o, k _ _ h n⟩)
  · exact .inr h
/-! ### data -/
def Shp (n : Nat) (d : PyData) : Prop := d.canLay0 = true ∧ d.depth ≤ n
theorem Shp.shaped {n : Nat} {d : PyData} (h : Shp n d) (hn : n ≤ 64) : SeqAt.shaped d = true := by
  unfold SeqAt.shaped
  rw [h.1, decide_eq_true (Nat.le_trans h.2 hn)]
  rfl
theorem Shp.eqv {n : Nat} {d : PyData} (h : Shp n d) : PyData.eqv d d = true := SeqAt.eqv_refl d h.1
theorem Shp.int (i : Int) : Shp 0 (.int i) := ⟨by simp [PyData.canLay0], by simp [PyData.depth]⟩
theorem Shp.non : Shp 0 .none := ⟨by simp [PyData.canLay0], by simp [PyData.depth]⟩
theorem Shp.bool (b : Bool) : Shp 0 (.bool b) := ⟨by simp [PyData.canLay0], by simp [PyData.depth]⟩
theorem Shp.mono {n m : Nat} {d : PyData} (h : Shp n d) (hm : n ≤ m) : Shp m d := ⟨h.1, Nat.le_trans h.2 hm⟩
theorem shpAll {n : Nat} : ∀ {ds : List PyData}, (∀ d ∈ ds, Shp n d) → PyData.canLayAll0 ds = true ∧ PyData.depthAll ds ≤ n
  | [], _ => ⟨by simp [PyData.canLayAll0], by simp [PyData.depthAll]⟩
  | d :: ds, h => by
    have h1 := h d List.mem_cons_self
    have h2 := shpAll (ds := ds) fun x hx => h x (List.mem_cons_of_mem _ hx)
    refine ⟨by rw [PyData.canLayAll0, h1.1, h2.1]; rfl, ?_⟩
    rw [PyData.depthAll]
    exact Nat.max_le.mpr ⟨h1.2, h2.2⟩
theorem Shp.tup {n : Nat} {ds : List PyData} (h : ∀ d ∈ ds, Shp n d) : Shp (n + 1) (.tuple ds) := by
  have := shpAll h
  exact ⟨by rw [PyData.canLay0]; exact this.1, by rw [PyData.depth]; omega⟩
theorem Shp.lst {n : Nat} {ds : List PyData} (h : ∀ d ∈ ds, Shp n d) : Shp (n + 1) (.list ds) := by
  have := shpAll h
  exact ⟨by rw [PyData.canLay0]; exact this.1, by rw [PyData.depth]; omega⟩
theorem dpAll_of {K : PySem.W.Frag} {H : Hp} : ∀ {xs : List V} {ds : List PyData}, xs.length = ds.length → (∀ (i : Nat) x d, xs[i]? = some x → ds[i]? = some d → Dp K H x d) → DpAll K H xs ds
  | [], [], _, _ => .nil
  | x :: xs, d :: ds, hl, h => .cons (h 0 x d rfl rfl) (dpAll_of (by simpa using hl) fun i y e h1 h2 => h (i + 1) y e (by simpa using h1) (by simpa using h2))
theorem dp_ints {K : PySem.W.Frag} {H : Hp} {a : Addr} {ns : List Int} (h : SqT K H a (ns.map V.int)) : Dp K H (.ref a) (.tuple (ns.map PyData.int)) := by
  refine .tup h (dpAll_of (by simp) fun i x d h1 h2 => ?_)
  rw [List.getElem?_map] at h1 h2
  cases e : ns[i]? with
  | none => rw [e] at h1; cases h1
  | some z =>
    rw [e] at h1 h2
    cases h1
    cases h2
    exact .int z
/-! ### slices of tuples -/
section
variable {prog : Program} {w : World} {A : Around} {E : Value → Shared → Prop} {s : Shared}
theorem tup_whole {t sl : Addr} {items : Array Value} {vl vu : Value} {lo hi : Option Int} {Q : Value → Shared → Prop} (ht : IsTup s.heap t items) (hs : s.heap.IsSliceOf sl vl vu .none) (pl : IsPart vl lo) (pu : IsPart vu hi)
    (h0 : HT.sIx items.size 0 lo = 0) (h1 : HT.sIx items.size items.size hi = items.size) (h : Q (.ref t) s) : wpAny (model prog w) A (getItem (.ref t) (.ref sl)) Q E s := by
  have hTs : s.TypeIs (.ref sl) "slice" := by
    obtain ⟨os, hos, hcs, _⟩ := id hs
    exact ⟨os, hos, hcs⟩
  unfold getItem
  try with_reducible refine wpAny_holding ?_
  first | refine wpAny_bind (wpAny_pure ?_) | skip
  refine wpAny_bind (wpAny_sequenceKey ht.typeIs (by decide) (wpAny_bind (wpAny_callSpecial?_slot (name := Str.ofString "__getitem__") ht.typeIs PyProof.Rows.slot_tuple_getitem (wpAny_call_entry PyProof.Rows.slot_tuple_getitem ht.typeIs entry_tuple_getitem ?_ (args_tuple_getitem _ _)))))
  show wpAny _ _ (Builtin.Tuple.tupleItemsOf (.ref t) >>= _) _ _ s
  refine wpAny_bind (tupleItemsOf_ ht (wpAny_bind (wpAny_typeOf hTs ?_)))
  rw [if_pos (by decide)]
  refine wpAny_bind (HT.sliceApplied_gen hs pl pu ?_)
  show wpAny _ _ (if (((HT.sIx items.size 0 lo : Nat) : Int) == 0 && (1 : Int) == 1 && (HT.sIx items.size items.size hi - HT.sIx items.size 0 lo) == items.size) = true then _ else _) _ _ s
  rw [h0, h1, if_pos (by simp)]
  unfold Builtin.Tuple.tupleIsExact
  refine wpAny_bind (wpAny_bind (wpAny_typeOf ht.typeIs (wpAny_pure ?_)))
  rw [if_pos (by decide)]
  first
    | exact wpAny_bind (wpAny_rule (wpAny_pure ⟨_, rfl, wpAny_pure h⟩))
    | exact wpAny_bind (wpAny_rule (wpAny_bind (wpAny_pure (wpAny_pure ⟨_, rfl, wpAny_pure h⟩))))
end
section
variable {X : Cx}
/-- t[lo:hi], the whole of it too (that is t itself) -/
def rSlQ (K : PySem.W.Frag) : V → Option Int → Option Int → Hp → VK → Prop := fun x lo hi H Q => ∃ a xs, x = .ref a ∧ SqT K H a xs ∧
  (cutV xs lo hi = xs → Q (.ref a) H) ∧ ∀ p, H p = none → Q (.ref p) (upd H p (.tup (cutV xs lo hi)))
theorem sl_tupQ : SlR X (rSlQ X.K) := by
  intro pins s σ H x v vl vu lo hi sl Q I rx hs pl pu h
  obtain ⟨a, xs, e, hx, q0, q1⟩ := h
  by_cases hw : HT.sIx xs.length 0 lo = 0 ∧ HT.sIx xs.length xs.length hi = xs.length
  · subst e
    cases rx
    obtain ⟨its, r, ht, hz⟩ := I.tuple hx
    have hlen : its.toArray.size = xs.length := by rw [List.size_toArray]; exact r.length.symm
    refine ⟨"tuple", _, PyProof.Rows.slot_tuple_getitem.lookup, ht.typeIs, ?_⟩
    refine tup_whole ht hs pl pu (by rw [hlen]; exact hw.1) (by rw [hlen]; exact hw.2) ⟨.ref a, H, I, rfl, q0 ?_⟩
    unfold cutV
    rw [hw.1, hw.2]
    simp
  · exact sl_tup pins s σ H x v vl vu lo hi sl Q I rx hs pl pu ⟨a, xs, e, hx, hw, q1⟩
end
/-! ### loops -/
section
variable {K : PySem.W.Frag} {a : Addr} {xs : List V} {g : TG} {tb : TS} {σ : L2.St} {H : Hp} {nx : L2.St → Hp → Prop} {rt : VK}
theorem f_list (Pv : Nat → L2.St → Hp → Prop) (h0 : Pv 0 σ H) (hl : ∀ i σ H, i ≤ xs.length → Pv i σ H → SqL K H a xs)
    (hs : ∀ i x σ H, xs[i]? = some x → Pv i σ H → g x σ H fun σ2 H2 => tb ⟨Pv (i + 1), rt, nx, Pv (i + 1)⟩ σ2 H2) (hd : ∀ σ H, Pv xs.length σ H → nx σ H) :
    ∃ W : Nat → Nat → L2.St → Hp → Prop, (∃ m, W 0 m σ H) ∧ ∀ i m σ H, W i m σ H →
      ((Itl K a).stop i H ∧ nx σ H) ∨ ((Itl K a).go i H ∧ ∃ N : L2.St → Hp → Prop, (∀ σ' H', N σ' H' → ∃ m', m' < m ∧ W (i + 1) m' σ' H') ∧ ∀ x H', (Itl K a).yld i H x H' → g x σ H' fun σ2 H2 => tb ⟨N, rt, nx, N⟩ σ2 H2) :=
  for_list (D := ⟨nx, rt, fun _ _ => False, fun _ _ => False⟩) Pv h0 hl hs hd
theorem f_tup (Pv : Nat → L2.St → Hp → Prop) (h0 : Pv 0 σ H) (hl : ∀ i σ H, i ≤ xs.length → Pv i σ H → SqT K H a xs)
    (hs : ∀ i x σ H, xs[i]? = some x → Pv i σ H → g x σ H fun σ2 H2 => tb ⟨Pv (i + 1), rt, nx, Pv (i + 1)⟩ σ2 H2) (hd : ∀ σ H, Pv xs.length σ H → nx σ H) :
    ∃ W : Nat → Nat → L2.St → Hp → Prop, (∃ m, W 0 m σ H) ∧ ∀ i m σ H, W i m σ H →
      ((Itt K a).stop i H ∧ nx σ H) ∨ ((Itt K a).go i H ∧ ∃ N : L2.St → Hp → Prop, (∀ σ' H', N σ' H' → ∃ m', m' < m ∧ W (i + 1) m' σ' H') ∧ ∀ x H', (Itt K a).yld i H x H' → g x σ H' fun σ2 H2 => tb ⟨N, rt, nx, N⟩ σ2 H2) :=
  for_tup (D := ⟨nx, rt, fun _ _ => False, fun _ _ => False⟩) Pv h0 hl hs hd
theorem f_range {lo : Int} {n : Nat} (Pv : Nat → L2.St → Hp → Prop) (h0 : Pv 0 σ H)
    (hs : ∀ i σ H, i < n → Pv i σ H → g (.int (lo + i)) σ H fun σ2 H2 => tb ⟨Pv (i + 1), rt, nx, Pv (i + 1)⟩ σ2 H2) (hd : ∀ σ H, Pv n σ H → nx σ H) :
    ∃ W : Nat → Nat → L2.St → Hp → Prop, (∃ m, W 0 m σ H) ∧ ∀ i m σ H, W i m σ H →
      ((Itr lo n).stop i H ∧ nx σ H) ∨ ((Itr lo n).go i H ∧ ∃ N : L2.St → Hp → Prop, (∀ σ' H', N σ' H' → ∃ m', m' < m ∧ W (i + 1) m' σ' H') ∧ ∀ x H', (Itr lo n).yld i H x H' → g x σ H' fun σ2 H2 => tb ⟨N, rt, nx, N⟩ σ2 H2) :=
  for_range (D := ⟨nx, rt, fun _ _ => False, fun _ _ => False⟩) Pv h0 hs hd
theorem f_rangeC {lo c : Int} {n : Nat} (Pv : Nat → L2.St → Hp → Prop) (h0 : Pv 0 σ H)
    (hs : ∀ i σ H, i < n → Pv i σ H → g (.int (lo + (i : Nat) * c)) σ H fun σ2 H2 => tb ⟨Pv (i + 1), rt, nx, Pv (i + 1)⟩ σ2 H2) (hd : ∀ σ H, Pv n σ H → nx σ H) :
    ∃ W : Nat → Nat → L2.St → Hp → Prop, (∃ m, W 0 m σ H) ∧ ∀ i m σ H, W i m σ H →
      ((Itc lo c n).stop i H ∧ nx σ H) ∨ ((Itc lo c n).go i H ∧ ∃ N : L2.St → Hp → Prop, (∀ σ' H', N σ' H' → ∃ m', m' < m ∧ W (i + 1) m' σ' H') ∧ ∀ x H', (Itc lo c n).yld i H x H' → g x σ H' fun σ2 H2 => tb ⟨N, rt, nx, N⟩ σ2 H2) :=
  for_rangeC (D := ⟨nx, rt, fun _ _ => False, fun _ _ => False⟩) Pv h0 hs hd
theorem i_rng3 {ta : TA} {R : It → Hp → Prop} (h : ta σ H fun vs H1 => ∃ (i j c : Int) (n : Nat), vs = [.int i, .int j, .int c] ∧ RgC i j c n ∧ R (Itc i c n) H1) : iRng3 ta σ H R := h
variable {tt : TT} {te : TE} {ws : List Nat} {D : Addr} {Qd : Hp → Prop} {σ' : L2.St}
theorem l_list (Pv : Nat → Hp → Prop) (h0 : Pv 0 (upd H D (.lst []))) (hl : ∀ i H, i ≤ xs.length → Pv i H → SqL K H a xs)
    (hs : ∀ i x H, xs[i]? = some x → Pv i H → g x σ' H fun σ2 H2 => wipe σ2 ws = σ' ∧ tt σ2 H2 fun b H3 =>
      if b = true then te σ2 H3 fun y H4 => ∃ acc, H4 D = some (.lst acc) ∧ acc.length < sizeLine ∧ Pv (i + 1) (upd H4 D (.lst (acc ++ [y]))) else Pv (i + 1) H3) (hd : ∀ H, Pv xs.length H → Qd H) (e : wipe σ' ws = σ' := by rfl) :
    ∃ W : Nat → Nat → Hp → Prop, (∃ m, W 0 m (upd H D (.lst []))) ∧ ∀ i m H, W i m H →
      ((Itl K a).stop i H ∧ Qd H) ∨ ((Itl K a).go i H ∧ ∃ Nx : Hp → Prop, (∀ H', Nx H' → ∃ m', m' < m ∧ W (i + 1) m' H') ∧ ∀ x H', (Itl K a).yld i H x H' → g x σ' H' fun σ2 H2 => wipe σ2 ws = σ' ∧ tt σ2 H2 fun b H3 =>
        if b = true then te σ2 H3 fun y H4 => ∃ acc, H4 D = some (.lst acc) ∧ acc.length < sizeLine ∧ Nx (upd H4 D (.lst (acc ++ [y]))) else Nx H3) := by
  have h := lc_list (K := K) (a := a) (xs := xs) (g := g) (tt := tt) (te := te) (vs := ws) (σ := σ') (H1 := H) (D := D) (Qd := Qd) Pv h0 hl (by rw [e]; exact hs) hd
  rw [e] at h
  exact h
theorem l_tup (Pv : Nat → Hp → Prop) (h0 : Pv 0 (upd H D (.lst []))) (hl : ∀ i H, i ≤ xs.length → Pv i H → SqT K H a xs)
    (hs : ∀ i x H, xs[i]? = some x → Pv i H → g x σ' H fun σ2 H2 => wipe σ2 ws = σ' ∧ tt σ2 H2 fun b H3 =>
      if b = true then te σ2 H3 fun y H4 => ∃ acc, H4 D = some (.lst acc) ∧ acc.length < sizeLine ∧ Pv (i + 1) (upd H4 D (.lst (acc ++ [y]))) else Pv (i + 1) H3) (hd : ∀ H, Pv xs.length H → Qd H) (e : wipe σ' ws = σ' := by rfl) :
    ∃ W : Nat → Nat → Hp → Prop, (∃ m, W 0 m (upd H D (.lst []))) ∧ ∀ i m H, W i m H →
      ((Itt K a).stop i H ∧ Qd H) ∨ ((Itt K a).go i H ∧ ∃ Nx : Hp → Prop, (∀ H', Nx H' → ∃ m', m' < m ∧ W (i + 1) m' H') ∧ ∀ x H', (Itt K a).yld i H x H' → g x σ' H' fun σ2 H2 => wipe σ2 ws = σ' ∧ tt σ2 H2 fun b H3 =>
        if b = true then te σ2 H3 fun y H4 => ∃ acc, H4 D = some (.lst acc) ∧ acc.length < sizeLine ∧ Nx (upd H4 D (.lst (acc ++ [y]))) else Nx H3) := by
  have h := lc_tup (K := K) (a := a) (xs := xs) (g := g) (tt := tt) (te := te) (vs := ws) (σ := σ') (H1 := H) (D := D) (Qd := Qd) Pv h0 hl (by rw [e]; exact hs) hd
  rw [e] at h
  exact h
theorem l_range {lo : Int} {n : Nat} (Pv : Nat → Hp → Prop) (h0 : Pv 0 (upd H D (.lst [])))
    (hs : ∀ i H, i < n → Pv i H → g (.int (lo + i)) σ' H fun σ2 H2 => wipe σ2 ws = σ' ∧ tt σ2 H2 fun b H3 =>
      if b = true then te σ2 H3 fun y H4 => ∃ acc, H4 D = some (.lst acc) ∧ acc.length < sizeLine ∧ Pv (i + 1) (upd H4 D (.lst (acc ++ [y]))) else Pv (i + 1) H3) (hd : ∀ H, Pv n H → Qd H) (e : wipe σ' ws = σ' := by rfl) :
    ∃ W : Nat → Nat → Hp → Prop, (∃ m, W 0 m (upd H D (.lst []))) ∧ ∀ i m H, W i m H →
      ((Itr lo n).stop i H ∧ Qd H) ∨ ((Itr lo n).go i H ∧ ∃ Nx : Hp → Prop, (∀ H', Nx H' → ∃ m', m' < m ∧ W (i + 1) m' H') ∧ ∀ x H', (Itr lo n).yld i H x H' → g x σ' H' fun σ2 H2 => wipe σ2 ws = σ' ∧ tt σ2 H2 fun b H3 =>
        if b = true then te σ2 H3 fun y H4 => ∃ acc, H4 D = some (.lst acc) ∧ acc.length < sizeLine ∧ Nx (upd H4 D (.lst (acc ++ [y]))) else Nx H3) := by
  have h := lc_range (lo := lo) (n := n) (g := g) (tt := tt) (te := te) (vs := ws) (σ := σ') (H1 := H) (D := D) (Qd := Qd) Pv h0 (by rw [e]; exact hs) hd
  rw [e] at h
  exact h
/-! a comprehension whose elements lay nothing -/
theorem l_rangeP {lo : Int} {n : Nat} (f : Nat → V) (hD : H D = none) (hn : n ≤ 1000000)
    (hs : ∀ i H' (R : VK), i < n → Same H H' → R (f i) H' → g (.int (lo + i)) σ' H' fun σ2 H2 => wipe σ2 ws = σ' ∧ tt σ2 H2 fun b H3 => if b = true then te σ2 H3 R else False)
    (hd : ∀ H', Same H H' → H' D = some (.lst ((List.range n).map f)) → Qd H') (e : wipe σ' ws = σ' := by rfl)
    (htt : ∀ (σ2 : L2.St) (H2 : Hp) (A : Hp → Prop) (B : Hp → Prop), (tt σ2 H2 fun b H3 => if b = true then A H3 else False) → tt σ2 H2 fun b H3 => if b = true then A H3 else B H3 := by intro _ _ _ _ h; exact h) (hg : ∀ x (σ2 : L2.St) (H2 : Hp) (A B : L2.St → Hp → Prop), (∀ s h, A s h → B s h) → g x σ2 H2 A → g x σ2 H2 B := by intro _ _ _ _ _ h q; exact h _ _ q) :
    ∃ W : Nat → Nat → Hp → Prop, (∃ m, W 0 m (upd H D (.lst []))) ∧ ∀ i m H, W i m H →
      ((Itr lo n).stop i H ∧ Qd H) ∨ ((Itr lo n).go i H ∧ ∃ Nx : Hp → Prop, (∀ H', Nx H' → ∃ m', m' < m ∧ W (i + 1) m' H') ∧ ∀ x H', (Itr lo n).yld i H x H' → g x σ' H' fun σ2 H2 => wipe σ2 ws = σ' ∧ tt σ2 H2 fun b H3 =>
        if b = true then te σ2 H3 fun y H4 => ∃ acc, H4 D = some (.lst acc) ∧ acc.length < sizeLine ∧ Nx (upd H4 D (.lst (acc ++ [y]))) else Nx H3) := by
  refine l_range (fun i H' => Same H H' ∧ H' D = some (.lst ((List.range i).map f))) ⟨same_new hD, upd_same⟩ (fun i H' hi h => ?_) (fun H' h => hd H' h.1 h.2) e
  obtain ⟨s, hD'⟩ := h
  refine hg _ _ _ _ _ (fun σ2 H2 q => ⟨q.1, htt _ _ _ _ q.2⟩) (hs i H' _ hi s ⟨_, hD', ?_, fun b o hb => ?_, ?_⟩)
  · rw [List.length_map, List.length_range, sizeLine_eq]; omega
  · rw [upd_ne (ne_of_none hb hD)]; exact s _ _ hb
  · rw [upd_same, List.range_succ, List.map_append] <;> rfl
theorem l_listP (f : Nat → V) (hD : H D = none) (hn : xs.length ≤ 1000000) (hx : SqL K H a xs)
    (hs : ∀ i x H' (R : VK), xs[i]? = some x → Same H H' → R (f i) H' → g x σ' H' fun σ2 H2 => wipe σ2 ws = σ' ∧ tt σ2 H2 fun b H3 => if b = true then te σ2 H3 R else False)
    (hd : ∀ H', Same H H' → H' D = some (.lst ((List.range xs.length).map f)) → Qd H') (e : wipe σ' ws = σ' := by rfl)
    (htt : ∀ (σ2 : L2.St) (H2 : Hp) (A : Hp → Prop) (B : Hp → Prop), (tt σ2 H2 fun b H3 => if b = true then A H3 else False) → tt σ2 H2 fun b H3 => if b = true then A H3 else B H3 := by intro _ _ _ _ h; exact h) (hg : ∀ x (σ2 : L2.St) (H2 : Hp) (A B : L2.St → Hp → Prop), (∀ s h, A s h → B s h) → g x σ2 H2 A → g x σ2 H2 B := by intro _ _ _ _ _ h q; exact h _ _ q) :
    ∃ W : Nat → Nat → Hp → Prop, (∃ m, W 0 m (upd H D (.lst []))) ∧ ∀ i m H, W i m H →
      ((Itl K a).stop i H ∧ Qd H) ∨ ((Itl K a).go i H ∧ ∃ Nx : Hp → Prop, (∀ H', Nx H' → ∃ m', m' < m ∧ W (i + 1) m' H') ∧ ∀ x H', (Itl K a).yld i H x H' → g x σ' H' fun σ2 H2 => wipe σ2 ws = σ' ∧ tt σ2 H2 fun b H3 =>
        if b = true then te σ2 H3 fun y H4 => ∃ acc, H4 D = some (.lst acc) ∧ acc.length < sizeLine ∧ Nx (upd H4 D (.lst (acc ++ [y]))) else Nx H3) := by
  refine l_list (xs := xs) (fun i H' => Same H H' ∧ H' D = some (.lst ((List.range i).map f))) ⟨same_new hD, upd_same⟩ (fun i H' _ h => Same.seq h.1 hx) (fun i x H' hi h => ?_) (fun H' h => hd H' h.1 h.2) e
  obtain ⟨s, hD'⟩ := h
  have hlt := (List.getElem?_eq_some_iff.mp hi).1
  refine hg _ _ _ _ _ (fun σ2 H2 q => ⟨q.1, htt _ _ _ _ q.2⟩) (hs i x H' _ hi s ⟨_, hD', ?_, fun b o hb => ?_, ?_⟩)
  · rw [List.length_map, List.length_range, sizeLine_eq]; omega
  · rw [upd_ne (ne_of_none hb hD)]; exact s _ _ hb
  · rw [upd_same, List.range_succ, List.map_append] <;> rfl
theorem l_tupP (f : Nat → V) (hD : H D = none) (hn : xs.length ≤ 1000000) (hx : SqT K H a xs)
    (hs : ∀ i x H' (R : VK), xs[i]? = some x → Same H H' → R (f i) H' → g x σ' H' fun σ2 H2 => wipe σ2 ws = σ' ∧ tt σ2 H2 fun b H3 => if b = true then te σ2 H3 R else False)
    (hd : ∀ H', Same H H' → H' D = some (.lst ((List.range xs.length).map f)) → Qd H') (e : wipe σ' ws = σ' := by rfl)
    (htt : ∀ (σ2 : L2.St) (H2 : Hp) (A : Hp → Prop) (B : Hp → Prop), (tt σ2 H2 fun b H3 => if b = true then A H3 else False) → tt σ2 H2 fun b H3 => if b = true then A H3 else B H3 := by intro _ _ _ _ h; exact h) (hg : ∀ x (σ2 : L2.St) (H2 : Hp) (A B : L2.St → Hp → Prop), (∀ s h, A s h → B s h) → g x σ2 H2 A → g x σ2 H2 B := by intro _ _ _ _ _ h q; exact h _ _ q) :
    ∃ W : Nat → Nat → Hp → Prop, (∃ m, W 0 m (upd H D (.lst []))) ∧ ∀ i m H, W i m H →
      ((Itt K a).stop i H ∧ Qd H) ∨ ((Itt K a).go i H ∧ ∃ Nx : Hp → Prop, (∀ H', Nx H' → ∃ m', m' < m ∧ W (i + 1) m' H') ∧ ∀ x H', (Itt K a).yld i H x H' → g x σ' H' fun σ2 H2 => wipe σ2 ws = σ' ∧ tt σ2 H2 fun b H3 =>
        if b = true then te σ2 H3 fun y H4 => ∃ acc, H4 D = some (.lst acc) ∧ acc.length < sizeLine ∧ Nx (upd H4 D (.lst (acc ++ [y]))) else Nx H3) := by
  refine l_tup (xs := xs) (fun i H' => Same H H' ∧ H' D = some (.lst ((List.range i).map f))) ⟨same_new hD, upd_same⟩ (fun i H' _ h => Same.tup h.1 hx) (fun i x H' hi h => ?_) (fun H' h => hd H' h.1 h.2) e
  obtain ⟨s, hD'⟩ := h
  have hlt := (List.getElem?_eq_some_iff.mp hi).1
  refine hg _ _ _ _ _ (fun σ2 H2 q => ⟨q.1, htt _ _ _ _ q.2⟩) (hs i x H' _ hi s ⟨_, hD', ?_, fun b o hb => ?_, ?_⟩)
  · rw [List.length_map, List.length_range, sizeLine_eq]; omega
  · rw [upd_ne (ne_of_none hb hD)]; exact s _ _ hb
  · rw [upd_same, List.range_succ, List.map_append] <;> rfl
end
theorem i_yes {σ : L2.St} {H : Hp} {Q : Bool → Hp → Prop} (q : Q true H) : tYes σ H Q := q
/-! ### ifs -/
theorem c_dec {P A B : Prop} [Decidable P] (h1 : P → A) (h2 : ¬ P → B) : if decide P = true then A else B := by
  by_cases h : P
  · rw [if_pos (decide_eq_true h)]; exact h1 h
  · rw [if_neg (by rw [decide_eq_false h]; exact Bool.false_ne_true)]; exact h2 h
theorem c_decN {P A B : Prop} [Decidable P] (h1 : ¬ P → A) (h2 : P → B) : if (!decide P) = true then A else B := by
  by_cases h : P
  · rw [if_neg (by rw [decide_eq_true h]; exact Bool.false_ne_true)]; exact h2 h
  · rw [if_pos (by rw [decide_eq_false h]; rfl)]; exact h1 h
theorem c_nt {A B : Prop} (h : B) : if (!true) = true then A else B := iteF h
theorem c_nf {A B : Prop} (h : A) : if (!false) = true then A else B := iteT h
theorem c_bool {b : Bool} {A B : Prop} (h1 : b = true → A) (h2 : b = false → B) : if b = true then A else B := by
  cases b
  · exact iteF (h2 rfl)
  · exact iteT (h1 rfl)
theorem c_yes {P A B : Prop} [Decidable P] (h : P) (h1 : A) : if decide P = true then A else B := by rw [if_pos (decide_eq_true h)]; exact h1
theorem c_no {P A B : Prop} [Decidable P] (h : ¬ P) (h1 : B) : if decide P = true then A else B := by rw [if_neg (by rw [decide_eq_false h]; exact Bool.false_ne_true)]; exact h1
theorem c_yesN {P A B : Prop} [Decidable P] (h : ¬ P) (h1 : A) : if (!decide P) = true then A else B := by rw [if_pos (by rw [decide_eq_false h]; rfl)]; exact h1
theorem c_noN {P A B : Prop} [Decidable P] (h : P) (h1 : B) : if (!decide P) = true then A else B := by rw [if_neg (by rw [decide_eq_true h]; exact Bool.false_ne_true)]; exact h1
section
variable {K : PySem.W.Frag} {σ : L2.St} {H : Hp} {Q : VK}
theorem i_slA {p : Addr} {xs : List V} {lo hi : Option Int} (h : SqT K H p xs) (q : ∀ (r : Addr) (H' : Hp), Same H H' → SqT K H' r (cutV xs lo hi) → Q (.ref r) H') : rSlQ K (.ref p) lo hi H Q :=
  ⟨p, xs, rfl, h, fun e => q p H (Same.refl H) (by rw [e]; exact h), fun r hr => q r _ (same_new hr) (SqT.of upd_same)⟩
theorem i_eqD {x y : V} {d e : PyData} {n m : Nat} (h1 : Dp K H x d) (h2 : Dp K H y e) (s1 : Shp n d) (s2 : Shp m e) (hn : n ≤ 64) (hm : m ≤ 64) (q : Q (.bl (PyData.eqv d e)) H) : rEqD K x y H Q := ⟨d, e, h1, h2, s1.shaped hn, s2.shaped hm, q⟩
theorem i_neD {x y : V} {d e : PyData} {n m : Nat} (h1 : Dp K H x d) (h2 : Dp K H y e) (s1 : Shp n d) (s2 : Shp m e) (hn : n ≤ 64) (hm : m ≤ 64) (q : Q (.bl (!PyData.eqv d e)) H) : rNeD K x y H Q := ⟨d, e, h1, h2, s1.shaped hn, s2.shaped hm, q⟩
/-- == and != of the same data -/
theorem i_eqS' {x y : V} {d : PyData} {n : Nat} (h1 : Dp K H x d) (h2 : Dp K H y d) (s1 : Shp n d) (hn : n ≤ 64) (q : Q (.bl true) H) : rEqD K x y H Q := i_eqD h1 h2 s1 s1 hn hn (by rw [s1.eqv]; exact q)
theorem i_neS' {x y : V} {d : PyData} {n : Nat} (h1 : Dp K H x d) (h2 : Dp K H y d) (s1 : Shp n d) (hn : n ≤ 64) (q : Q (.bl false) H) : rNeD K x y H Q := i_neD h1 h2 s1 s1 hn hn (by rw [s1.eqv]; exact q)
theorem i_while {c : TT} {tb : TS} {nx : L2.St → Hp → Prop} {rt : VK} {bk ct : L2.St → Hp → Prop} (W : Nat → L2.St → Hp → Prop) (h0 : ∃ m, W m σ H) (h : ∀ m σ H, W m σ H →
  c σ H fun b H1 => if b = true then ∃ N : L2.St → Hp → Prop, (∀ σ' H', N σ' H' → ∃ m', m' < m ∧ W m' σ' H') ∧ tb ⟨N, rt, nx, N⟩ σ H1 else nx σ H1) : tWhile c tb ⟨nx, rt, bk, ct⟩ σ H := ⟨W, h0, h⟩
theorem i_par {i j : Nat} {ta : TA} {nx : L2.St → Hp → Prop} {rt : VK} {bk ct : L2.St → Hp → Prop} (h : ta σ H fun vs H1 => ∃ v w, vs = [v, w] ∧ nx ((σ.set i (some v)).set j (some w)) H1) : tPar i j ta ⟨nx, rt, bk, ct⟩ σ H := h
theorem i_two {x y : V} {R : V → V → Prop} (q : R x y) : ∃ v w, [x, y] = [v, w] ∧ R v w := ⟨x, y, rfl, q⟩
theorem Dp.same {K : PySem.W.Frag} {H H' : Hp} (s : Same H H') : ∀ (d : PyData) (v : V), Dp K H v d → Dp K H' v d := by
  intro d v h
  exact Dp.rec (motive_1 := fun v d _ => Dp K H' v d) (motive_2 := fun vs ds _ => DpAll K H' vs ds) .non (fun b => .bl b) (fun i => .int i) (fun x => .str x) (fun h _ q => .lst (s.seq h) q) (fun h _ q => .tup (Same.tup s h) q) .nil (fun _ _ h1 h2 => .cons h1 h2) h
end
/-! ### a def that can be called -/
structure Df (K : PySem.W.Frag) (mg : Str → Option Value) (x : Str) (st : Stmt) (f : Addr) (fd : FuncData) (ps : List Str) : Prop where
  fn : Fun K x x st f fd
  mgf : mg x = some (.ref f)
  bi : Binds K fd ps []
/-- a def of the text by its promise: it lets no exception out -/
structure Cl (P : Program) (w : World) (K : PySem.W.Frag) (mg : Str → Option Value) (base : Heap) (k : Nat) (x : Str) (sp : Sp) : Prop where
  ex : ∃ (f : Addr) (fd : FuncData) (ps : List Str), FnOk P w K mg base CX0 k f fd ps sp ∧ mg x = some (.ref f) ∧ PySem.W.keepIn K (.ref f) = true ∧ Binds K fd ps []
section
variable {P : Program} {w : World} {K : PySem.W.Frag} {mg : Str → Option Value} {base : Heap}
theorem Df.ok {x : Str} {st : Stmt} {f : Addr} {fd : FuncData} {ps N : List Str} {k : Nat} {sp : Sp} (F : Df K mg x st f fd ps) (S : FnScope N ps (defScope st)) (len : ∀ vs H Q E, sp vs H Q E → vs.length = ps.length)
    (hbody : ∀ (cdv : Value) (A : Around) (outer : List Env) (s : Shared) (H : Hp) (vs : List V) (Q : VK) (E : XK), Room k (A.deeper (envOfC x (defScope st) s.heap.objs.size f cdv)) → sp vs H Q E →
      ∃ t, PSs (cxOf CX0 P w K mg base N x (defScope st) f cdv A outer s H E).nox (defBody st) t ∧ t { nx := fun _ H' => Q .non H', rt := Q } (start N vs) H) : FnOk P w K mg base CX0 (k + 1) f fd ps sp :=
  F.fn.ok S len hbody
theorem Df.cl {x : Str} {st : Stmt} {f : Addr} {fd : FuncData} {ps : List Str} {k : Nat} {sp : Sp} (F : Df K mg x st f fd ps) (o : FnOk P w K mg base CX0 k f fd ps sp) : Cl P w K mg base k x sp :=
  ⟨f, fd, ps, o, F.mgf, F.fn.kp, F.bi⟩
variable {X : Cx}
theorem pe_cl {x : Str} {sp : Sp} {j k : Nat} {e : Expr} {es : List Expr} {t : TA} {p pos : Pos} (c : Cl X.prog X.w X.K X.mg X.base k x sp) (hr : Room j X.A) (hk : k ≤ j) (hg : Gl X x) (ha : PA X (e :: es) t)
    (hdb : (x == ("__debug__" : Str)) = false := by decide) (he : starEach (e :: es) X.env = (false, eval e X.env) :: starEach es X.env := by rfl) (hpl : (backTo pos (starEach es X.env)).any (·.1) = false := by rfl) :
    PE X (.Call (.Name x p) (e :: es) [] pos) (tCall sp [] E0 t) := by
  obtain ⟨f, fd, ps, F, hm, kp, b⟩ := c.ex
  exact pe_call F (hr.mono hk) hg hm kp b .nil pass0 ha hdb he hpl
theorem pe_cl0 {x : Str} {sp : Sp} {j k : Nat} {p pos : Pos} (c : Cl X.prog X.w X.K X.mg X.base k x sp) (hr : Room j X.A) (hk : k ≤ j) (hg : Gl X x) (hdb : (x == ("__debug__" : Str)) = false := by decide) :
    PE X (.Call (.Name x p) [] [] pos) (tCall sp [] E0 tNil) := by
  obtain ⟨f, fd, ps, F, hm, kp, b⟩ := c.ex
  exact pe_call0 F (hr.mono hk) hg hm kp b .nil pass0 hdb
/-- a constant of the module's top -/
def Cn (mg : Str → Option Value) (x : Str) (v : V) : Prop := ∃ u, mg x = some u ∧ RelV v u
theorem pe_cn {x : Str} {v : V} {pos : Pos} (hg : Gl X x) (h : Cn X.mg x v) (hd : (x == ("__debug__" : Str)) = false := by decide) : PE X (.Name x pos) (tC v) := by
  obtain ⟨u, hm, r⟩ := h
  exact pe_glob hg hm r hd
section
variable {K : PySem.W.Frag} {T : String} {name : Str} {id : String} {r : V → List V → Hp → VK → Prop} {o e : Expr} {es : List Expr} {apos cpos pos : Pos} {to ta : TE} {t : TA}
theorem pe_bm0K (hK : X.K = K) (pa : PlainAttrs T) (slot : Slot T name id) (hty : typeOf (.builtin id) = pure (.type "method_descriptor")) (hm : MtR X id r) (ho : PE X o to)
    (hbase : attributeBase o name X.env (eval o X.env) = eval o X.env := by rfl) (hline : (apos.endLine == cpos.line) = true := by rfl) : PE X (.Call (.Attribute o name apos) [] [] cpos) (tBM0 K T r to) := by
  subst hK; exact pe_bm0 pa slot hty hm ho hbase hline
theorem pe_bmK (hK : X.K = K) (pa : PlainAttrs T) (slot : Slot T name id) (hty : typeOf (.builtin id) = pure (.type "method_descriptor")) (hm : MtR X id r) (ho : PE X o to) (ha : PA X (e :: es) t)
    (hbase : attributeBase o name X.env (eval o X.env) = eval o X.env := by rfl)
    (hfew : ((backTo cpos (starEach (e :: es) X.env)).all (fun x => !x.1) && (backToKw cpos (keywordEach [] X.env)).all (fun x => x.1.isSome)
      && decide ((e :: es).length + ([] : List Keyword).length + (if ([] : List Keyword).isEmpty then 0 else 1) < 30)) = true := by rfl)
    (hline : (apos.endLine == cpos.line) = true := by rfl) (hs : starEach (e :: es) X.env = (false, eval e X.env) :: starEach es X.env := by rfl) (hplain : (backTo cpos (starEach es X.env)).any (·.1) = false := by rfl) :
    PE X (.Call (.Attribute o name apos) (e :: es) [] cpos) (tBM K T r to t) := by
  subst hK; exact pe_bm pa slot hty hm ho ha hbase hfew hline hs hplain
theorem pe_fldK (hK : X.K = K) {f : Str} (he : PE X e ta) (hb : attributeBase e f X.env (eval e X.env) = eval e X.env) : PE X (.Attribute e f pos) (tFld K ta f) := by
  subst hK; exact pe_fld he hb
theorem pg_tupK (hK : X.K = K) {es : List Expr} {k : Nat} {t : TGs} {n : Nat} (hc : X.calm = true) (h : PGs X es t)
    (hn : (assignEach es X.env).length = n := by rfl) (hst : (assignEach es X.env).findIdx? (·.1) = none := by rfl) : PG X (.Tuple es k pos) (gTup K n t) := by
  subst hK; exact pg_tup hc h hn hst
end
theorem get_list : L2.PGet X (rIxL X.K) := by
  intro pins s σ H x y v u Q I rx ry h
  obtain ⟨p, xs, i, z, rfl, rfl, hq, he, q⟩ := h
  cases rx
  obtain ⟨t, rfl⟩ := ry
  obtain ⟨its, r, pl, hz⟩ := I.list hq
  obtain ⟨j, h1, h2, h3, h4, h5⟩ := atI_get he
  obtain ⟨w, ew, rw'⟩ := r.get h2
  have hl := r.length
  have hn := line63
  have fin : EP X pins σ Q w s := ⟨z, H, I, rw', q⟩
  by_cases h0 : 0 ≤ i
  · have hj : i.toNat = j := by
      rw [seqIndex_of h0 h5] at h1
      exact Option.some.inj h1
    exact wpAny_getItem_list pl.isList h0 (by omega) (by rw [hj]; simpa using ew) fin
  · have hj : (i + (its.toArray.size : Int)).toNat = j := by
      rw [seqIndex_neg (by omega) h4] at h1
      rw [List.size_toArray, ← hl]
      exact Option.some.inj h1
    exact wpAny_getItem_list_neg pl.isList (by omega) (by rw [List.size_toArray] <;> omega) (by omega) (by rw [hj]; simpa using ew) fin
end
theorem perm_erase {α : Type} : ∀ (l : List α) (i : Nat) (h : i < l.length), (l[i] :: l.eraseIdx i).Perm l
  | x :: r, 0, _ => List.Perm.refl _
  | x :: r, i + 1, h => (List.Perm.swap x (r[i]'(Nat.lt_of_succ_lt_succ h)) (r.eraseIdx i)).trans ((perm_erase r i (Nat.lt_of_succ_lt_succ h)).cons x)
theorem ints_at {ns : List Int} {i : Nat} {x : V} (h : (ns.map V.int)[i]? = some x) : ∃ z, x = .int z ∧ ns[i]? = some z ∧ ns.take (i + 1) = ns.take i ++ [z] ∧ i < ns.length := by
  rw [List.getElem?_map] at h
  cases e : ns[i]? with
  | none => rw [e] at h; cases h
  | some z =>
    rw [e] at h
    exact ⟨z, (Option.some.inj h).symm, rfl, by rw [List.take_add_one, e]; rfl, (List.getElem?_eq_some_iff.mp e).1⟩
theorem at_lt {α : Type} {xs : List α} {i : Int} (h0 : 0 ≤ i) (h : i < xs.length) : ∃ v, atI xs i = some v ∧ v ∈ xs ∧ xs[i.toNat]? = some v := by
  have hl : i.toNat < xs.length := by omega
  refine ⟨xs[i.toNat], ?_, List.getElem_mem hl, List.getElem?_eq_getElem hl⟩
  have := atI_nat (xs := xs) (j := i.toNat) (v := xs[i.toNat]) (List.getElem?_eq_getElem hl)
  rw [Int.toNat_of_nonneg h0] at this
  exact this
theorem ixN_of {n : Nat} {i : Int} (h0 : 0 ≤ i) (h : i < n) : ixN n i = some i.toNat := by
  unfold ixN
  rw [if_pos h0, if_pos h]
end Jp

namespace Law
open PySem PySem.Spec PyProof.Rows L2 Jp
/-! ### the walk's small steps -/
local macro_rules | `(tactic| wtm_at "jset") => `(tactic| (first | (simp only [wipe, List.map_cons, List.map_nil, List.set_cons_zero, List.set_cons_succ]; done) | (simp only [wipe, List.map_cons, List.map_nil, List.set_cons_zero, List.set_cons_succ]; exact rfl) | exact rfl))
local macro_rules | `(tactic| wtm_at "jw1") => `(tactic| first
  | ((with_reducible refine' i_var ?h ?_); (case h => exact rfl))
  | with_reducible refine' i_c ?_ | with_reducible refine' i_op ?_ | with_reducible refine' i_seq ?_ | with_reducible refine' i_asg ?_
  | ((with_reducible refine' i_gNameE ?e ?_); (case e => wtm_at "jset"))
  | with_reducible refine' i_ret ?_ | with_reducible refine' i_test ?_ | with_reducible refine' i_isb ?_
  | with_reducible refine' i_cons ?_ | with_reducible refine' i_nil ?_ | with_reducible refine' i_call ?_ | with_reducible refine' i_cb ?_
  | with_reducible refine' i_rI0 ?_ | ((with_reducible refine' i_rI ?c ?_); (case c => wtm_at "jside")) | with_reducible refine' i_rU ?_
  | with_reducible refine' i_eqI ?_ | with_reducible refine' i_neI ?_ | with_reducible refine' i_eqB ?_ | with_reducible refine' i_neB ?_ | with_reducible refine' i_eqS ?_ | with_reducible refine' i_neS ?_
  | with_reducible refine' i_isN ?_ | with_reducible refine' i_notN ?_
  | with_reducible refine' i_un ?_ | with_reducible refine' i_drop ?_ | with_reducible refine' i_retN ?_ | with_reducible refine' i_next ?_
  | ((with_reducible refine' i_ixL ?h ?e ?_); (case h => wtm_at "jsq"); (case e => wtm_at "jat"))
  | ((with_reducible refine' i_ixT ?h ?e ?_); (case h => wtm_at "jsq"); (case e => wtm_at "jat"))
  | ((with_reducible refine' i_ix1 (i_ixL ?h ?e ?_)); (case h => wtm_at "jsq"); (case e => wtm_at "jat"))
  | ((with_reducible refine' i_ix2 (i_ixT ?h ?e ?_)); (case h => wtm_at "jsq"); (case e => wtm_at "jat"))
  | with_reducible refine' i_gSub ?_
  | ((with_reducible refine' i_setL ?h ?e ?_); (case h => wtm_at "jhp"); (case e => wtm_at "jixn"))
  | ((with_reducible refine' i_gTup ?h ?e ?_); (case h => wtm_at "jsq"); (case e => rfl)) | with_reducible refine' i_gCons ?_ | with_reducible refine' i_gNil ?_
  | with_reducible refine' i_int ?_ | with_reducible refine' i_intB ?_ | with_reducible refine' i_abs ?_ | with_reducible refine' i_max2 ?_ | with_reducible refine' i_min2 ?_
  | ((with_reducible refine' i_lenL ?h ?_); (case h => wtm_at "jsq")) | ((with_reducible refine' i_lenT ?h ?_); (case h => wtm_at "jsq"))
  | ((with_reducible refine' i_tupL ?h ?_); (case h => wtm_at "jsq")) | ((with_reducible refine' i_lstL ?h ?_); (case h => wtm_at "jsq")) | ((with_reducible refine' i_lstT ?h ?_); (case h => wtm_at "jsq")) | ((with_reducible refine' i_tupT ?h ?_); (case h => wtm_at "jsq"))
  | ((with_reducible refine' i_new ?h ?_); (case h => wtm_at "jlen"))
  | with_reducible refine' i_tup ?_ | with_reducible refine' i_lst ?_ | with_reducible refine' i_if ?_ | with_reducible refine' i_andV ?_ | with_reducible refine' i_orV ?_ | with_reducible refine' i_notV ?_ | with_reducible refine' i_B ?_
  | with_reducible refine' i_and ?_ | with_reducible refine' i_or ?_ | with_reducible refine' i_not ?_ | with_reducible refine' i_break ?_ | with_reducible refine' i_cont ?_
  | ((with_reducible refine' i_augE ?h ?_); (case h => exact rfl)) | with_reducible refine' i_augS ?_ | with_reducible refine' i_ipI ?_
  | with_reducible refine' i_for ?_ | with_reducible refine' i_iList ?_ | with_reducible refine' i_iTup ?_ | ((with_reducible refine' i_isL ?h ?_); (case h => wtm_at "jsq")) | ((with_reducible refine' i_isT ?h ?_); (case h => wtm_at "jsq"))
  | with_reducible refine' i_rng1 ?_ | with_reducible refine' i_rng2 ?_
  | ((with_reducible refine' i_isR1 ?h1 ?h2 ?_); (case h1 => wtm_at "jside"); (case h2 => wtm_at "jside"))
  | ((with_reducible refine' i_isR2 ?h1 ?h2 ?h3 ?h4 ?_); (case h1 => wtm_at "jside"); (case h2 => wtm_at "jside"); (case h3 => wtm_at "jside"); (case h4 => wtm_at "jside"))
  | ((with_reducible refine' i_lc ?e ?_); (case e => wtm_at "jset"))
  | with_reducible refine' i_yes ?_ | with_reducible refine' i_sl ?_ | with_reducible refine' i_par ?_ | with_reducible refine' i_two ?_ | with_reducible refine' i_noPart ?_ | with_reducible refine' i_part ?_ | with_reducible refine' i_isI ?_
  | with_reducible refine' i_bm ?_ | with_reducible refine' i_bm0 ?_ | ((with_reducible refine' i_tyL ?h ?_); (case h => wtm_at "jsq"))
  | ((with_reducible refine' i_app ?h ?e ?_); (case h => wtm_at "jhp"); (case e => wtm_at "jsmall"))
  | with_reducible refine' i_chain ?_ | ((with_reducible refine' i_cat ?h1 ?h2 ?e ?_); (case h1 => wtm_at "jhp"); (case h2 => wtm_at "jhp"); (case e => wtm_at "jlen"))
  | with_reducible refine iteT ?_ | with_reducible refine iteF ?_ | with_reducible refine' c_nt ?_ | with_reducible refine' c_nf ?_)
local macro_rules | `(tactic| wtm_at "js") => `(tactic| repeat (wtm_at "jw1"))
local macro_rules | `(tactic| wtm_at "jw") => `(tactic| repeat (first | wtm_at "jw1" | with_reducible refine' i_ifS ?_))
local macro_rules | `(tactic| wtm_at "jlen") => `(tactic| first | decide | (simp [sizeLine]; done) | omega)
/- a condition of an operation -/
local macro_rules | `(tactic| wtm_at "jside") => `(tactic| first | with_reducible assumption | omega | decide | (simp only [List.length_map]; omega) | (refine Or.inl ?_; decide) | (refine Or.inr ?_; decide) | (refine ⟨?_, ?_⟩ <;> omega) | (refine Or.inl ?_; constructor <;> omega) | (refine Or.inr ?_; constructor <;> omega) | (refine ⟨by decide, by decide, by decide⟩) | (with_reducible refine wide_div ?_ (b := 64) ?_ ?_ ?_ <;> first | omega | decide))
/- H p = some o -/
local macro_rules | `(tactic| wtm_at "jhp") => `(tactic| first | assumption | with_reducible exact upd_same | ((with_reducible refine' Eq.trans (upd_ne ?hne) ?hgo); (case hne => wtm_at "jne"); (case hgo => wtm_at "jhp")))
local macro_rules | `(tactic| wtm_at "jne") => `(tactic| first | assumption | (refine Ne.symm ?_; assumption) | (refine ne_of_none (by assumption) (by assumption)) | (refine (ne_of_none (by assumption) (by assumption)).symm))
local macro_rules | `(tactic| wtm_at "jsq") => `(tactic| first | assumption | ((with_reducible refine' SqL.of ?hh); (case hh => wtm_at "jhp")) | ((with_reducible refine' SqT.of ?hh); (case hh => wtm_at "jhp")) | ((with_reducible refine' Same.seq (same_new ?hn) ?hh); (case hn => assumption); (case hh => wtm_at "jsq")) | ((with_reducible refine' Same.tup (same_new ?hn) ?hh); (case hn => assumption); (case hh => wtm_at "jsq")))
/- the item at a place -/
local macro_rules | `(tactic| wtm_at "jat") => `(tactic| first | exact rfl | assumption)
local macro_rules | `(tactic| wtm_at "jixn") => `(tactic| first | exact rfl | assumption)
local macro_rules | `(tactic| wtm_at "jsmall") => `(tactic| first | assumption | exact small1000 (by first | assumption | omega | (simp; done) | (simp; omega)))

def top (i : Nat) : Stmt := PySem.Challenge.pw_judgedplay_k22_moved.main.body.getD i (.Pass ⟨0, 0, 0, 0⟩)
abbrev s__law_begin : Stmt := top 10
abbrev N__law_begin : List Str := ["script", "cell"]
theorem sc__law_begin : FnScope N__law_begin ["script"] (defScope s__law_begin) := ⟨rfl, rfl, rfl, by decide +kernel, rfl, by decide +kernel, by decide +kernel⟩
abbrev s__law_draw : Stmt := top 11
abbrev N__law_draw : List Str := ["d", "many", "found", "size", "cell"]
theorem sc__law_draw : FnScope N__law_draw ["d", "many"] (defScope s__law_draw) := ⟨rfl, rfl, rfl, by decide +kernel, rfl, by decide +kernel, by decide +kernel⟩
abbrev s__law_pick : Stmt := top 12
abbrev N__law_pick : List Str := ["d", "row"]
theorem sc__law_pick : FnScope N__law_pick ["d", "row"] (defScope s__law_pick) := ⟨rfl, rfl, rfl, by decide +kernel, rfl, by decide +kernel, by decide +kernel⟩
abbrev s__law_pool : Stmt := top 14
abbrev N__law_pool : List Str := ["text"]
theorem sc__law_pool : FnScope N__law_pool [] (defScope s__law_pool) := ⟨rfl, rfl, rfl, by decide +kernel, rfl, by decide +kernel, by decide +kernel⟩
abbrev s__law_side : Stmt := top 18
abbrev N__law_side : List Str := ["d", "low", "high"]
theorem sc__law_side : FnScope N__law_side ["d", "low", "high"] (defScope s__law_side) := ⟨rfl, rfl, rfl, by decide +kernel, rfl, by decide +kernel, by decide +kernel⟩
abbrev s__law_pop : Stmt := top 13
abbrev N__law_pop : List Str := ["d", "row"]
theorem sc__law_pop : FnScope N__law_pop ["d", "row"] (defScope s__law_pop) := ⟨rfl, rfl, rfl, by decide +kernel, rfl, by decide +kernel, by decide +kernel⟩
abbrev s__law_any_fixed : Stmt := top 19
abbrev N__law_any_fixed : List Str := ["d"]
theorem sc__law_any_fixed : FnScope N__law_any_fixed ["d"] (defScope s__law_any_fixed) := ⟨rfl, rfl, rfl, by decide +kernel, rfl, by decide +kernel, by decide +kernel⟩
abbrev s__law_layout : Stmt := top 20
abbrev N__law_layout : List Str := ["d", "seats", "first", "many", "names", "keys", "k", "places", "bodies", "name", "width", "starts", "at", "kind"]
theorem sc__law_layout : FnScope N__law_layout ["d", "seats", "first", "many"] (defScope s__law_layout) := ⟨rfl, rfl, rfl, by decide +kernel, rfl, by decide +kernel, by decide +kernel⟩
abbrev s__law_axis : Stmt := top 21
abbrev N__law_axis : List Str := ["d", "most", "way", "place", "goal", "speed"]
theorem sc__law_axis : FnScope N__law_axis ["d", "most"] (defScope s__law_axis) := ⟨rfl, rfl, rfl, by decide +kernel, rfl, by decide +kernel, by decide +kernel⟩
abbrev s__law_state_of : Stmt := top 22
abbrev N__law_state_of : List Str := ["d", "layout", "found", "name", "field", "kind", "start", "low", "high", "at", "width", "height", "left", "top"]
theorem sc__law_state_of : FnScope N__law_state_of ["d", "layout"] (defScope s__law_state_of) := ⟨rfl, rfl, rfl, by decide +kernel, rfl, by decide +kernel, by decide +kernel⟩
abbrev s__law_hold : Stmt := top 17
abbrev N__law_hold : List Str := ["low", "number", "high"]
theorem sc__law_hold : FnScope N__law_hold ["low", "number", "high"] (defScope s__law_hold) := ⟨rfl, rfl, rfl, by decide +kernel, rfl, by decide +kernel, by decide +kernel⟩
abbrev s__law_due : Stmt := top 23
abbrev N__law_due : List Str := ["state", "layout", "found", "hits", "k", "at", "off", "axis", "far", "most"]
theorem sc__law_due : FnScope N__law_due ["state", "layout"] (defScope s__law_due) := ⟨rfl, rfl, rfl, by decide +kernel, rfl, by decide +kernel, by decide +kernel⟩
abbrev s__law_turned : Stmt := top 25
abbrev N__law_turned : List Str := ["d", "state", "hits", "layout", "found", "k", "at", "axis", "way"]
theorem sc__law_turned : FnScope N__law_turned ["d", "state", "hits", "layout"] (defScope s__law_turned) := ⟨rfl, rfl, rfl, by decide +kernel, rfl, by decide +kernel, by decide +kernel⟩
abbrev s_clamp : Stmt := top 4
abbrev N_clamp : List Str := ["number"]
theorem sc_clamp : FnScope N_clamp ["number"] (defScope s_clamp) := ⟨rfl, rfl, rfl, by decide +kernel, rfl, by decide +kernel, by decide +kernel⟩
abbrev s_held : Stmt := top 6
abbrev N_held : List Str := ["number", "most"]
theorem sc_held : FnScope N_held ["number", "most"] (defScope s_held) := ⟨rfl, rfl, rfl, by decide +kernel, rfl, by decide +kernel, by decide +kernel⟩
abbrev s_move_all : Stmt := top 7
abbrev N_move_all : List Str := ["values", "layout", "hits", "bodies", "k", "at", "left", "top"]
theorem sc_move_all : FnScope N_move_all ["values", "layout"] (defScope s_move_all) := ⟨rfl, rfl, rfl, by decide +kernel, rfl, by decide +kernel, by decide +kernel⟩
abbrev s_moved : Stmt := top 8
abbrev N_moved : List Str := ["state", "layout", "values", "hits"]
theorem sc_moved : FnScope N_moved ["state", "layout"] (defScope s_moved) := ⟨rfl, rfl, rfl, by decide +kernel, rfl, by decide +kernel, by decide +kernel⟩
abbrev s__law_is_int : Stmt := top 15
abbrev N__law_is_int : List Str := ["thing"]
theorem sc__law_is_int : FnScope N__law_is_int ["thing"] (defScope s__law_is_int) := ⟨rfl, rfl, rfl, by decide +kernel, rfl, by decide +kernel, by decide +kernel⟩
abbrev s__law_is_ints : Stmt := top 16
abbrev N__law_is_ints : List Str := ["row", "part"]
theorem sc__law_is_ints : FnScope N__law_is_ints ["row"] (defScope s__law_is_ints) := ⟨rfl, rfl, rfl, by decide +kernel, rfl, by decide +kernel, by decide +kernel⟩
abbrev s__law_is_told : Stmt := top 24
abbrev N__law_is_told : List Str := ["state", "layout", "told"]
theorem sc__law_is_told : FnScope N__law_is_told ["state", "layout"] (defScope s__law_is_told) := ⟨rfl, rfl, rfl, by decide +kernel, rfl, by decide +kernel, by decide +kernel⟩
abbrev s_law : Stmt := top 26
abbrev N_law : List Str := ["script", "d", "many", "layout", "exchanged", "start", "state", "turn", "due", "hits"]
theorem sc_law : FnScope N_law ["script"] (defScope s_law) := ⟨rfl, rfl, rfl, by decide +kernel, rfl, by decide +kernel, by decide +kernel⟩
/-- what the text's top has: built-ins that are still so, constants -/
structure Txt (mg : Str → Option Value) : Prop where
  b_int : mg "int" = none
  b_len : mg "len" = none
  b_abs : mg "abs" = none
  b_tuple : mg "tuple" = none
  b_range : mg "range" = none
  b_min : mg "min" = none
  b_max : mg "max" = none
  b_list : mg "list" = none
  b_isinstance : mg "isinstance" = none
  b_bool : mg "bool" = none
  b_all : mg "all" = none
  c_LOW : Cn mg "LOW" (.int (-32768))
  c_HIGH : Cn mg "HIGH" (.int 32767)
  c_PART : Cn mg "PART" (.int 16)
/-! ### the draws -/
/-- a row of draws stands at p, its cells at a -/
def DrawAt (H : Hp) (p a : Addr) : Prop := ∃ (ns : List Int) (pos pend seed : Int), H p = some (.lst [.ref a, .int pos, .int pend, .int seed]) ∧ H a = some (.lst (ns.map V.int)) ∧ a ≠ p ∧ 0 ≤ pos
theorem DrawAt.same {H H' : Hp} {p a : Addr} (d : DrawAt H p a) (s : Same H H') : DrawAt H' p a := by
  obtain ⟨ns, pos, pend, seed, h1, h2, h3, h4⟩ := d
  exact ⟨ns, pos, pend, seed, s _ _ h1, s _ _ h2, h3, h4⟩
/-- behind draws: the row stands, all else is as it was -/
structure Drew (p a : Addr) (H H' : Hp) : Prop where
  at_ : DrawAt H' p a
  kp : Kp p H H'
theorem Drew.trans {p a : Addr} {H H1 H2 : Hp} (x : Drew p a H H1) (y : Drew p a H1 H2) : Drew p a H H2 := ⟨y.at_, x.kp.trans y.kp⟩
theorem Drew.new {p a q : Addr} {H H1 : Hp} {o : HO} (x : Drew p a H H1) (h : H1 q = none) : Drew p a H (upd H1 q o) := ⟨x.at_.same (same_new h), x.kp.trans (.of (same_new h))⟩
theorem Drew.same {p a : Addr} {H H1 H2 : Hp} (x : Drew p a H H1) (s : Same H1 H2) : Drew p a H H2 := ⟨x.at_.same s, x.kp.trans (.of s)⟩
theorem DrawAt.drew {p a : Addr} {H : Hp} (d : DrawAt H p a) : Drew p a H H := ⟨d, Kp.refl⟩
theorem DrawAt.some {H : Hp} {p a : Addr} (d : DrawAt H p a) : ∃ xs, H p = some (.lst xs) := by
  obtain ⟨ns, pos, pend, seed, h1, _⟩ := d
  exact ⟨_, h1⟩
theorem DrawAt.ne_none {H : Hp} {p a q : Addr} (d : DrawAt H p a) (h : H q = none) : q ≠ p := by
  obtain ⟨xs, e⟩ := d.some
  exact (ne_of_none e h).symm
theorem DrawAt.ne_noneA {H : Hp} {p a q : Addr} (d : DrawAt H p a) (h : H q = none) : q ≠ a := by
  obtain ⟨ns, pos, pend, seed, _, h1, _⟩ := d
  exact (ne_of_none h1 h).symm
theorem Drew.free {p a q : Addr} {H H' : Hp} (w : Drew p a H H') (h : H' q = none) : H q = none := by
  cases e : H q with
  | none => rfl
  | some o =>
    by_cases hq : q = p
    · obtain ⟨xs, e'⟩ := w.at_.some
      rw [hq, e'] at h; cases h
    · rw [w.kp _ _ e hq] at h; cases h
/-- a thing of our own, made behind H, is written -/
theorem Drew.put {p a q : Addr} {H H1 : Hp} {o : HO} (x : Drew p a H H1) (d : DrawAt H p a) (h : H q = none) : Drew p a H (upd H1 q o) := by
  have n1 := d.ne_none h
  have n2 := d.ne_noneA h
  obtain ⟨ns, pos, pend, seed, h1, h2, h3, h4⟩ := x.at_
  refine ⟨⟨ns, pos, pend, seed, by rw [upd_ne n1.symm]; exact h1, by rw [upd_ne n2.symm]; exact h2, h3, h4⟩, fun b u hb hne => ?_⟩
  rw [upd_ne (ne_of_none hb h)]
  exact x.kp _ _ hb hne
theorem Drew.tps {p a : Addr} {H H' : Hp} (w : Drew p a H H') (d : DrawAt H p a) : Tps H H' := by
  obtain ⟨xs, e⟩ := d.some
  exact w.kp.tps e
def sp__law_begin (K : PySem.W.Frag) : Sp := fun vs H Q _ => ∃ (a : Addr) (ns : List Int), vs = [.ref a] ∧ SqL K H a (ns.map V.int) ∧ ns.length ≤ 63 ∧
  ∀ (p c : Addr) (H' : Hp), Same H H' → H p = none → H c = none → DrawAt H' p c → Q (.ref p) H'
theorem ok__law_begin {P : Program} {w : World} {K : PySem.W.Frag} {mg : Str → Option Value} {base : Heap} {f : Addr} {fd : FuncData} (F : Df K mg "_law_begin" s__law_begin f fd ["script"]) (T : Txt mg) : FnOk P w K mg base CX0 1 f fd ["script"] (sp__law_begin K) := by
  refine F.ok sc__law_begin (fun vs H Q E h => ?_) (fun cdv A outer s H vs Q E hr h => ?_)
  · obtain ⟨a, ns, rfl, _⟩ := h
    rfl
  · obtain ⟨a, ns, rfl, hS, hl, k⟩ := h
    refine ⟨_, (pss_one (ps_ret (pe_lst (pa_cons (pe_lc (own := [("cell", 1)]) (g := gName 1) (tt := tYes) rfl sc__law_begin.nd (pi_list (pv 0)) (blkOk_by (own := [("cell", 1)]) (N := N__law_begin) (sc := defScope s__law_begin) (by decide +kernel)) (fun _ _ _ _ _ => (pg_name (i := 1) sc__law_begin.nd rfl (Or.inl rfl))) (fun _ _ _ _ _ => pts_nil) (fun _ _ _ _ _ => (pe_callTy (T := "int") c_int (by rfl) T.b_int (by decide +kernel) (pa_cons (pv 1) pa_nil)))) (pa_cons pe_int (pa_cons pe_int (pa_cons pe_int pa_nil))))))), ?_⟩
    try dsimp only [cxOf, Cx.nox, Cx.wish]
    refine st_of (σ' := [some _, none]) rfl ?_
    wtm_at "jw"
    intro D hD
    refine l_list (xs := ns.map V.int) (fun i H1 => Same H H1 ∧ H1 D = some (.lst ((ns.take i).map V.int))) ⟨same_new hD, upd_same⟩ (fun i H1 _ h => h.1.seq hS) (fun i x H1 hi h => ?_) (fun H1 h => ?_)
    · obtain ⟨s1, h1⟩ := h
      rw [List.getElem?_map] at hi
      cases e : ns[i]? with
      | none => rw [e] at hi; cases hi
      | some z =>
        rw [e] at hi
        cases hi
        have hlt : i < ns.length := (List.getElem?_eq_some_iff.mp e).1
        wtm_at "jw"
        refine ⟨rfl, ?_⟩
        wtm_at "jw"
        refine ⟨_, h1, small1000 (by rw [List.length_map, List.length_take]; omega), ?_, ?_⟩
        · intro b o hb
          have hne : b ≠ D := ne_of_none hb hD
          rw [upd_ne hne]
          exact s1 _ _ hb
        · rw [upd_same, List.take_add_one, e, List.map_append]
          rfl
    · obtain ⟨s1, h1⟩ := h
      rw [List.length_map, List.take_length] at h1
      wtm_at "jw"
      intro p hp
      have hne : D ≠ p := ne_of_none h1 hp
      refine k p D _ (fun b o hb => ?_) (s1.free hp) hD ⟨ns, 0, 0, 11, upd_same, by rw [upd_ne hne]; exact h1, hne, by decide⟩
      rw [upd_ne (ne_of_none (s1 _ _ hb) hp)]
      exact s1 _ _ hb
def sp__law_draw (K : PySem.W.Frag) : Sp := fun vs H Q _ => ∃ (p a : Addr) (many : Int), vs = [.ref p, .int many] ∧ DrawAt H p a ∧ 0 < many ∧ many < 18446744073709551616 ∧
  ∀ (r : Int) (H' : Hp), 0 ≤ r → r < many → Drew p a H H' → Q (.int r) H'
theorem ok__law_draw {P : Program} {w : World} {K : PySem.W.Frag} {mg : Str → Option Value} {base : Heap} {f : Addr} {fd : FuncData} (F : Df K mg "_law_draw" s__law_draw f fd ["d", "many"]) (T : Txt mg) : FnOk P w K mg base CX0 1 f fd ["d", "many"] (sp__law_draw K) := by
  refine F.ok sc__law_draw (fun vs H Q E h => ?_) (fun cdv A outer s H vs Q E hr h => ?_)
  · obtain ⟨p, a, m, rfl, _⟩ := h
    rfl
  · obtain ⟨p, a, m, rfl, ⟨ns, pos, pend, seed, hp, ha, nap, h0⟩, hm0, hm1, k⟩ := h
    have fin : ∀ (z : Int) (pos' pend' seed' : Int) (H' : Hp), 0 ≤ pos' → H' p = some (.lst [.ref a, .int pos', .int pend', .int seed']) → Kp p H H' → Q (.int (z % m)) H' := fun z pos' pend' seed' H' hp' h1 h2 =>
      k _ _ (Int.emod_nonneg _ (by omega)) (Int.emod_lt_of_pos _ hm0) ⟨⟨ns, pos', pend', seed', h1, h2 _ _ ha nap, nap, hp'⟩, h2⟩
    refine ⟨_, (pss_cons (ps_if (pt_cmpR op_gt (pe_ix (r := rIxL K) ix_list (pv 0) pe_int (fun _ _ => rfl)) pe_int (nomark _)) (pss_cons (ps_set (i := 2) sc__law_draw.nd rfl (Or.inl rfl) (pe_ix (r := rIxL K) ix_list (pv 0) pe_int (fun _ _ => rfl)))
      (pss_cons (ps_asg (pe_op op_fdivW (pv 2) (pv 1)) (pg_sub (pv 0) pe_int set_list))
      (pss_one (ps_ret (pe_op op_mod (pe_callTy (T := "int") c_int (by rfl) T.b_int (by decide +kernel) (pa_cons (pv 2) pa_nil)) (pv 1)))))) pss_nil)
      (pss_cons (ps_set (i := 3) sc__law_draw.nd rfl (Or.inl rfl) pe_int)
      (pss_cons (ps_if (pt_cmpR op_lt (pe_ix (r := rIxL K) ix_list (pv 0) pe_int (fun _ _ => rfl)) (pe_callB (id := "len") (r := qLen K) c_len (by rfl) T.b_len (by decide +kernel) (pa_cons (pe_ix (r := rIxL K) ix_list (pv 0) pe_int (fun _ _ => rfl)) pa_nil)) (nomark _)) (pss_cons (ps_set (i := 4) sc__law_draw.nd rfl (Or.inl rfl) (pe_ix (r := rIx K) ix_seq (pe_ix (r := rIxL K) ix_list (pv 0) pe_int (fun _ _ => rfl)) (pe_ix (r := rIxL K) ix_list (pv 0) pe_int (fun _ _ => rfl)) (fun _ _ => rfl)))
      (pss_one (ps_set (i := 3) sc__law_draw.nd rfl (Or.inl rfl) (pe_op op_add (pe_op op_mul pe_int (pe_callB (id := "abs") c_abs (by rfl) T.b_abs (by decide +kernel) (pa_cons (pv 4) pa_nil))) (pe_callTy (T := "int") c_int (by rfl) T.b_int (by decide +kernel) (pa_cons (pe_cmpR op_lt (pv 4) pe_int (nomark _)) pa_nil)))))) pss_nil)
      (pss_cons (ps_augS (pv 0) pe_int get_list pe_int iop_add set_list)
      (pss_cons (ps_if (pt_cmpR op_ge (pv 3) (pe_op op_mul pe_int (pe_op op_pow pe_int pe_int)) (nomark _)) (pss_cons (ps_set (i := 2) sc__law_draw.nd rfl (Or.inl rfl) (pe_op op_mod (pe_callTy (T := "int") c_int (by rfl) T.b_int (by decide +kernel) (pa_cons (pe_op op_fdiv (pv 3) pe_int) pa_nil)) (pe_op op_shl pe_int pe_int)))
      (pss_cons (ps_asg (pe_op op_fdivW (pv 2) (pv 1)) (pg_sub (pv 0) pe_int set_list))
      (pss_one (ps_ret (pe_op op_mod (pe_callTy (T := "int") c_int (by rfl) T.b_int (by decide +kernel) (pa_cons (pv 2) pa_nil)) (pv 1)))))) pss_nil)
      (pss_cons (ps_asg (pe_op op_mod (pe_callTy (T := "int") c_int (by rfl) T.b_int (by decide +kernel) (pa_cons (pe_op op_add (pe_op op_add (pe_op op_add (pe_op op_mul (pe_ix (r := rIxL K) ix_list (pv 0) pe_int (fun _ _ => rfl)) pe_int) (pe_op op_mul (pe_op op_mod (pe_callTy (T := "int") c_int (by rfl) T.b_int (by decide +kernel) (pa_cons (pv 3) pa_nil)) pe_int) pe_int)) (pe_op op_mul (pe_ix (r := rIxL K) ix_list (pv 0) pe_int (fun _ _ => rfl)) pe_int)) pe_int) pa_nil)) pe_int) (pg_sub (pv 0) pe_int set_list))
      (pss_one (ps_ret (pe_op op_mod (pe_callTy (T := "int") c_int (by rfl) T.b_int (by decide +kernel) (pa_cons (pe_op op_fdiv (pe_ix (r := rIxL K) ix_list (pv 0) pe_int (fun _ _ => rfl)) pe_int) pa_nil)) (pv 1)))))))))), ?_⟩
    try dsimp only [cxOf, Cx.nox, Cx.wish]
    refine st_of (σ' := [some _, some _, none, none, none]) rfl ?_
    wtm_at "jw"
    refine c_dec (fun h => ?_) (fun h => ?_)
    · wtm_at "jw"
      exact fin _ _ _ _ _ h0 upd_same Kp.upd
    · wtm_at "jw"
      refine c_dec (fun h1 => ?_) (fun h1 => ?_)
      · obtain ⟨c, hc⟩ : ∃ c : Int, atI (ns.map V.int) pos = some (.int c) := by
          obtain ⟨v, e, hv, _⟩ := at_lt (xs := ns.map V.int) h0 h1
          obtain ⟨z, _, rfl⟩ := List.mem_map.mp hv
          exact ⟨z, e⟩
        wtm_at "jw"
        refine c_dec (fun h2 => ?_) (fun h2 => ?_)
        · wtm_at "jw"
          exact fin _ (pos + 1) _ _ _ (by omega) upd_same (Kp.upd.trans Kp.upd)
        · wtm_at "jw"
          exact fin _ (pos + 1) _ _ _ (by omega) upd_same (Kp.upd.trans Kp.upd)
      · wtm_at "jw"
        refine c_dec (fun h2 => ?_) (fun h2 => ?_)
        · wtm_at "jw"
          exact fin _ (pos + 1) _ _ _ (by omega) upd_same (Kp.upd.trans Kp.upd)
        · wtm_at "jw"
          exact fin _ (pos + 1) _ _ _ (by omega) upd_same (Kp.upd.trans Kp.upd)

def sp__law_pick (K : PySem.W.Frag) : Sp := fun vs H Q _ => ∃ (p a b : Addr) (xs : List V), vs = [.ref p, .ref b] ∧ DrawAt H p a ∧ ((b ≠ p ∧ SqL K H b xs) ∨ SqT K H b xs) ∧ 0 < xs.length ∧ xs.length < 1073741824 ∧
  ∀ (x : V) (H' : Hp), x ∈ xs → Drew p a H H' → Q x H'
theorem ok__law_pick {P : Program} {w : World} {K : PySem.W.Frag} {mg : Str → Option Value} {base : Heap} {f : Addr} {fd : FuncData} (F : Df K mg "_law_pick" s__law_pick f fd ["d", "row"]) (T : Txt mg)
    (c__law_draw : Cl P w K mg base 1 "_law_draw" (sp__law_draw K)) : FnOk P w K mg base CX0 2 f fd ["d", "row"] (sp__law_pick K) := by
  refine F.ok sc__law_pick (fun vs H Q E h => ?_) (fun cdv A outer s H vs Q E hr h => ?_)
  · obtain ⟨p, a, b, xs, rfl, _⟩ := h
    rfl
  · obtain ⟨p, a, b, xs, rfl, hd, hb, hl0, hl1, k⟩ := h
    refine ⟨_, (pss_one (ps_ret (pe_ix (r := rIx K) ix_seq (pv 1) (pe_cl c__law_draw hr (by decide) rfl (pa_cons (pv 0) (pa_cons (pe_callB (id := "len") (r := qLen K) c_len (by rfl) T.b_len (by decide +kernel) (pa_cons (pv 1) pa_nil)) pa_nil))) (fun _ _ => rfl)))), ?_⟩
    try dsimp only [cxOf, Cx.nox, Cx.wish]
    refine st_of (σ' := [some _, some _]) rfl ?_
    rcases hb with ⟨nb, hb⟩ | hb
    all_goals
      wtm_at "jw"
      refine ⟨p, a, _, rfl, hd, by omega, by omega, fun r H' hr0 hr1 w => ?_⟩
      obtain ⟨v, e, hv, _⟩ := at_lt hr0 hr1
    · have hb' := w.kp.seq hb nb
      wtm_at "jw"
      exact k _ _ hv w
    · have hb' := (w.tps hd).sq hb
      wtm_at "jw"
      exact k _ _ hv w

def sp__law_is_int (K : PySem.W.Frag) : Sp := fun vs H Q _ => ∃ (i : Int), vs = [.int i] ∧ Q (.bl true) H
theorem ok__law_is_int {P : Program} {w : World} {K : PySem.W.Frag} {mg : Str → Option Value} {base : Heap} {f : Addr} {fd : FuncData} (F : Df K mg "_law_is_int" s__law_is_int f fd ["thing"]) (T : Txt mg) : FnOk P w K mg base CX0 1 f fd ["thing"] (sp__law_is_int K) := by
  refine F.ok sc__law_is_int (fun vs H Q E h => ?_) (fun cdv A outer s H vs Q E hr h => ?_)
  · obtain ⟨i, rfl, _⟩ := h
    rfl
  · obtain ⟨i, rfl, k⟩ := h
    refine ⟨_, (pss_one (ps_ret (pe_and (pe_callB (id := "isinstance") (r := rIsi K) call_isi (by rfl) T.b_isinstance (by decide +kernel) (pa_cons (pv 0) (pa_cons (pe_bltn (v := .ty "int") (u := Value.type "int") (by rfl) T.b_int (by decide +kernel) rfl) pa_nil))) (pe_one (pe_not (pe_callB (id := "isinstance") (r := rIsi K) call_isi (by rfl) T.b_isinstance (by decide +kernel) (pa_cons (pv 0) (pa_cons (pe_bltn (v := .ty "bool") (u := Value.type "bool") (by rfl) T.b_bool (by decide +kernel) rfl) pa_nil)))))))), ?_⟩
    try dsimp only [cxOf, Cx.nox, Cx.wish]
    refine st_of (σ' := [some _]) rfl ?_
    wtm_at "jw"
    refine i_isi (.base (.int i)) rfl ?_
    wtm_at "jw"
    refine i_isi (.base (.int i)) rfl ?_
    wtm_at "jw"
    exact k

/-! ### pairs of ints, tuples of them -/
/-- the pairs of rows stand at rs -/
def Prw (H : Hp) (rs : List Addr) (rows : List (Int × Int)) : Prop := rs.length = rows.length ∧ ∀ (i : Nat) (r : Addr) (p : Int × Int), rs[i]? = some r → rows[i]? = some p → H r = some (.tup [.int p.1, .int p.2])
/-- a tuple of pairs -/
def Prs (H : Hp) (a : Addr) (rows : List (Int × Int)) : Prop := ∃ rs : List Addr, H a = some (.tup (rs.map V.ref)) ∧ Prw H rs rows
/-- a list of pairs -/
def LPr (H : Hp) (a : Addr) (rows : List (Int × Int)) : Prop := ∃ rs : List Addr, H a = some (.lst (rs.map V.ref)) ∧ Prw H rs rows
theorem Prw.nil {H : Hp} : Prw H [] [] := ⟨rfl, fun i r p h => by simp at h⟩
theorem Prw.tps {H H' : Hp} {rs : List Addr} {rows : List (Int × Int)} (w : Prw H rs rows) (t : Tps H H') : Prw H' rs rows := ⟨w.1, fun i r p h1 h2 => (t r).1 _ (w.2 i r p h1 h2)⟩
theorem Prw.same {H H' : Hp} {rs : List Addr} {rows : List (Int × Int)} (w : Prw H rs rows) (s : Same H H') : Prw H' rs rows := w.tps (Tps.of s)
theorem Prw.snoc {H : Hp} {rs : List Addr} {rows : List (Int × Int)} {q : Addr} {x y : Int} (w : Prw H rs rows) (h : H q = some (.tup [.int x, .int y])) : Prw H (rs ++ [q]) (rows ++ [(x, y)]) := by
  refine ⟨by simp [w.1], fun i r p h1 h2 => ?_⟩
  have hl := w.1
  by_cases hi : i < rs.length
  · rw [List.getElem?_append_left hi] at h1
    rw [List.getElem?_append_left (by omega)] at h2
    exact w.2 i r p h1 h2
  · rw [List.getElem?_append_right (by omega)] at h1
    rw [List.getElem?_append_right (by omega)] at h2
    rw [hl] at h1
    cases e : i - rows.length with
    | zero =>
      rw [e] at h1 h2
      cases h1
      cases h2
      exact h
    | succ n =>
      rw [e] at h1
      cases h1
theorem Prs.tps {H H' : Hp} {a : Addr} {rows : List (Int × Int)} (h : Prs H a rows) (t : Tps H H') : Prs H' a rows := by
  obtain ⟨rs, ha, w⟩ := h
  exact ⟨rs, (t a).1 _ ha, w.tps t⟩
theorem Prs.same {H H' : Hp} {a : Addr} {rows : List (Int × Int)} (h : Prs H a rows) (s : Same H H') : Prs H' a rows := h.tps (Tps.of s)
theorem LPr.same {H H' : Hp} {a : Addr} {rows : List (Int × Int)} (h : LPr H a rows) (s : Same H H') : LPr H' a rows := by
  obtain ⟨rs, ha, w⟩ := h
  exact ⟨rs, s _ _ ha, w.same s⟩
theorem LPr.kp {H H' : Hp} {p a : Addr} {xs : List V} {rows : List (Int × Int)} (h : LPr H a rows) (k : Kp p H H') (hp : H p = some (.lst xs)) (n : a ≠ p) : LPr H' a rows := by
  obtain ⟨rs, ha, w⟩ := h
  exact ⟨rs, k _ _ ha n, w.tps (k.tps hp)⟩
theorem Prw.put {H : Hp} {D : Addr} {rs : List Addr} {xs ys : List V} {rows : List (Int × Int)} (w : Prw H rs rows) (h : H D = some (.lst xs)) : Prw (upd H D (.lst ys)) rs rows := by
  refine ⟨w.1, fun i r p h1 h2 => ?_⟩
  have hr := w.2 i r p h1 h2
  rw [upd_ne (ne_of hr h (by intro z; cases z))]
  exact hr
/-- a new pair behind the others -/
theorem LPr.add {H : Hp} {D q : Addr} {rs : List Addr} {rows : List (Int × Int)} {x y : Int} (h : H D = some (.lst (rs.map V.ref))) (w : Prw H rs rows) (hq : H q = none) :
    LPr (upd (upd H q (.tup [.int x, .int y])) D (.lst (rs.map V.ref ++ [.ref q]))) D (rows ++ [(x, y)]) := by
  have hD : upd H q (.tup [.int x, .int y]) D = some (.lst (rs.map V.ref)) := by rw [upd_ne (ne_of_none h hq)]; exact h
  refine ⟨rs ++ [q], by rw [upd_same, List.map_append]; rfl, Prw.put (xs := rs.map V.ref) ((w.same (same_new hq)).snoc upd_same) hD⟩
/-- a pair that stands already -/
theorem LPr.add' {H : Hp} {D q : Addr} {rs : List Addr} {rows : List (Int × Int)} {x y : Int} (h : H D = some (.lst (rs.map V.ref))) (w : Prw H rs rows) (hq : H q = some (.tup [.int x, .int y])) :
    LPr (upd H D (.lst (rs.map V.ref ++ [.ref q]))) D (rows ++ [(x, y)]) :=
  ⟨rs ++ [q], by rw [upd_same, List.map_append]; rfl, (w.snoc hq).put h⟩
theorem Prw.at {H : Hp} {rs : List Addr} {rows : List (Int × Int)} {i : Nat} {v : V} (w : Prw H rs rows) (h : (rs.map V.ref)[i]? = some v) : ∃ r p, v = .ref r ∧ rs[i]? = some r ∧ rows[i]? = some p ∧ H r = some (.tup [.int p.1, .int p.2]) ∧ rows.take (i + 1) = rows.take i ++ [p] ∧ i < rows.length := by
  rw [List.getElem?_map] at h
  cases e : rs[i]? with
  | none => rw [e] at h; cases h
  | some r =>
    rw [e] at h
    have hi := (List.getElem?_eq_some_iff.mp e).1
    have hl := w.1
    have e2 : rows[i]? = some (rows[i]'(by omega)) := List.getElem?_eq_getElem (by omega)
    exact ⟨r, _, (Option.some.inj h).symm, rfl, e2, w.2 i r _ e e2, by rw [List.take_add_one, e2]; rfl, by omega⟩
def prD (p : Int × Int) : PyData := .tuple [.int p.1, .int p.2]
theorem dp_prs {K : PySem.W.Frag} {H : Hp} {a : Addr} {rows : List (Int × Int)} (h : Prs H a rows) : Dp K H (.ref a) (.tuple (rows.map prD)) := by
  obtain ⟨rs, ha, w⟩ := h
  refine .tup (SqT.of ha) (dpAll_of (by simp [w.1]) fun i x d h1 h2 => ?_)
  obtain ⟨r, p, rfl, e1, e2, hr, _⟩ := w.at h1
  rw [List.getElem?_map, e2] at h2
  cases h2
  exact dp_ints (ns := [p.1, p.2]) (SqT.of hr)
theorem shp_prs (rows : List (Int × Int)) : Shp 2 (.tuple (rows.map prD)) :=
  Shp.tup fun d hd => by
    obtain ⟨p, _, rfl⟩ := List.mem_map.mp hd
    exact Shp.tup fun e he => by
      rcases List.mem_cons.mp he with rfl | he
      · exact (Shp.int _)
      · rcases List.mem_cons.mp he with rfl | he
        · exact (Shp.int _)
        · cases he
theorem shp_ints (ns : List Int) : Shp 1 (.tuple (ns.map PyData.int)) :=
  Shp.tup fun d hd => by
    obtain ⟨p, _, rfl⟩ := List.mem_map.mp hd
    exact Shp.int _
theorem put_same {H H' : Hp} {D : Addr} {o : HO} (s : Same H H') (h : H D = none) : Same H (upd H' D o) := fun b u hb => by
  rw [upd_ne (ne_of_none hb h)]
  exact s _ _ hb
theorem tps_put {H : Hp} {D : Addr} {xs ys : List V} (h : H D = some (.lst xs)) : Tps H (upd H D (.lst ys)) := (Kp.upd (p := D)).tps h

/-! ### dicts with int keys -/
section
variable {K : PySem.W.Frag} {σ : L2.St} {H : Hp} {Q : VK}
theorem i_dget {td ty : TE} (h : td σ H fun x H1 => ty σ H1 fun y H2 => ∃ a v, x = .ref a ∧ DGet H2 a y (some v) ∧ Q v H2) : tDGet td ty σ H Q := h
theorem i_dgetI {p : Addr} {i : Int} {v : V} {kvs : List (L2.Key × V)} {R : V → Prop} (h : Rd H p (.dK kvs)) (e : valV kvs (.inl i) = some v) (q : R v) : ∃ a v', V.ref p = .ref a ∧ DGet H a (.int i) (some v') ∧ R v' :=
  ⟨p, v, rfl, .inl ⟨kvs, .inl i, h, rfl, e.symm⟩, q⟩
theorem i_din {td ty : TE} (h : ty σ H fun y H1 => td σ H1 fun x H2 => ∃ a o, x = .ref a ∧ DGet H2 a y o ∧ Q (.bl o.isSome) H2) : tDIn ty td σ H Q := h
theorem i_dinI {p : Addr} {i : Int} {kvs : List (L2.Key × V)} {R : Option V → Prop} (h : Rd H p (.dK kvs)) (q : R (valV kvs (.inl i))) : ∃ a o, V.ref p = .ref a ∧ DGet H a (.int i) o ∧ R o :=
  ⟨p, _, rfl, .inl ⟨kvs, .inl i, h, rfl, rfl⟩, q⟩
theorem i_dput {td ty tv : TE} {nx : L2.St → Hp → Prop} {rt : VK} {bk ct : L2.St → Hp → Prop} (h : tv σ H fun v H1 => td σ H1 fun x H2 => ty σ H2 fun y H3 => ∃ a H4, x = .ref a ∧ DPut H3 a y v H4 ∧ nx σ H4) : sDPut td ty tv ⟨nx, rt, bk, ct⟩ σ H := h
theorem i_dputI {p : Addr} {i : Int} {v : V} {kvs : List (L2.Key × V)} {R : Hp → Prop} (h : H p = some (.dK kvs)) (hl : kvs.length ≤ 10000) (q : R (upd H p (.dK (putK kvs (.inl i) v)))) : ∃ a H4, V.ref p = .ref a ∧ DPut H a (.int i) v H4 ∧ R H4 :=
  ⟨p, _, rfl, .inl ⟨kvs, .inl i, h, rfl, by rw [sizeLine_eq]; omega, rfl⟩, q⟩
theorem i_dnew (q : ∀ p, H p = none → Q (.ref p) (upd H p (.dK []))) : tDNewK σ H Q := q
def rSortDI : List V → Hp → VK → Prop := fun xs H Q => ∃ (a : Addr) (kvs : List (L2.Key × V)) (ks : List Int), xs = [.ref a] ∧ Rd H a (.dK kvs) ∧ kvs.map (·.1) = ks.map Sum.inl ∧ ks.length < 64 ∧ ∀ (ys : List Int) (p : Addr), ys.Perm ks → ys.Pairwise (· ≤ ·) → H p = none → Q (.ref p) (upd H p (.lst (ys.map V.int)))
theorem c_sortDI {X : Cx} (hc : X.calm = true) : CallR X (.builtin "sorted") rSortDI := call_sortedDI hc
end
/-- the dict's entries are the map m of ints -/
def DI (kvs : List (L2.Key × V)) (m : Int → Option Int) : Prop := (∀ i : Int, valV kvs (.inl i) = (m i).map V.int) ∧ ∃ ks : List Int, kvs.map (·.1) = ks.map Sum.inl ∧ ks.Nodup
theorem DI.nil : DI [] fun _ => none := ⟨fun _ => rfl, [], rfl, List.nodup_nil⟩
theorem putK_keys {kvs : List (L2.Key × V)} {k : L2.Key} {v : V} : (putK kvs k v).map (·.1) = if (valV kvs k).isSome = true then kvs.map (·.1) else kvs.map (·.1) ++ [k] := by
  unfold putK
  rw [valV_any]
  by_cases h : (valV kvs k).isSome = true
  · rw [if_pos h, if_pos h, List.map_map]
    refine List.map_congr_left fun p _ => ?_
    show (if p.1 = k then (p.1, v) else p).1 = p.1
    split <;> rfl
  · rw [if_neg h, if_neg h, List.map_append]
    rfl
theorem DI.put {kvs : List (L2.Key × V)} {m : Int → Option Int} {i v : Int} (d : DI kvs m) : DI (putK kvs (.inl i) (.int v)) (fun j => if j = i then some v else m j) := by
  obtain ⟨h, ks, hk, hn⟩ := d
  refine ⟨fun j => ?_, ?_⟩
  · rw [valV_put]
    show _ = Option.map V.int (if j = i then some v else m j)
    by_cases e : j = i
    · subst e
      rw [if_pos rfl, if_pos rfl]
      rfl
    · rw [if_neg (by intro z; exact e (Sum.inl.inj z)), if_neg e]
      exact h j
  · rw [putK_keys]
    by_cases e : (valV kvs (.inl i)).isSome = true
    · rw [if_pos e]
      exact ⟨ks, hk, hn⟩
    · rw [if_neg e, hk]
      refine ⟨ks ++ [i], by rw [List.map_append]; rfl, ?_⟩
      have hni : ¬ i ∈ ks := fun hi => by
        have e1 : valV kvs (.inl i) = none := by
          cases q : valV kvs (.inl i) with
          | none => rfl
          | some z => rw [q] at e; exact absurd rfl e
        refine valV_not e1 ?_
        rw [hk]
        exact List.mem_map.mpr ⟨i, hi, rfl⟩
      exact nd_snoc hn hni
theorem DI.mem {kvs : List (L2.Key × V)} {m : Int → Option Int} {ks : List Int} (d : DI kvs m) (hk : kvs.map (·.1) = ks.map Sum.inl) (i : Int) : i ∈ ks ↔ (m i).isSome = true := by
  have h := d.1 i
  constructor
  · intro hi
    cases e : m i with
    | some z => rfl
    | none =>
      rw [e] at h
      refine absurd ?_ (valV_not h)
      rw [hk]
      exact List.mem_map.mpr ⟨i, hi, rfl⟩
  · intro hi
    obtain ⟨z, hz⟩ := Option.isSome_iff_exists.mp hi
    rw [hz] at h
    have := valV_in h
    rw [hk] at this
    obtain ⟨j, hj, e⟩ := List.mem_map.mp this
    exact Sum.inl.inj e ▸ hj
/-- distinct ints of 0 .. n - 1 are at most n -/
theorem nodup_len : ∀ (n : Nat) (l : List Int), l.Nodup → (∀ x ∈ l, 0 ≤ x ∧ x < n) → l.length ≤ n
  | 0, l, _, h => by
    cases l with
    | nil => exact Nat.le_refl _
    | cons x r => have := h x List.mem_cons_self; omega
  | n + 1, l, hn, h => by
    by_cases hm : (n : Int) ∈ l
    · have e := List.length_erase_of_mem hm
      have := nodup_len n (l.erase (n : Int)) (hn.erase _) fun x hx => by
        have h1 := (List.Nodup.mem_erase_iff hn).mp hx
        have h2 := h x h1.2
        have : x ≠ (n : Int) := h1.1
        omega
      omega
    · have := nodup_len n l hn fun x hx => by
        have h2 := h x hx
        have : x ≠ (n : Int) := fun e => hm (e ▸ hx)
        omega
      omega
theorem DI.len {kvs : List (L2.Key × V)} {m : Int → Option Int} {n : Nat} (d : DI kvs m) (h : ∀ i, (m i).isSome = true → 0 ≤ i ∧ i < n) : kvs.length ≤ n := by
  obtain ⟨ks, hk, hn⟩ := d.2
  have e : kvs.length = ks.length := by
    have := congrArg List.length hk
    rw [List.length_map, List.length_map] at this
    exact this
  rw [e]
  exact nodup_len n ks hn fun x hx => h x ((d.mem hk x).mp hx)
/-- ints in order, all of them distinct -/
theorem lt_of_le_nodup : ∀ {l : List Int}, l.Pairwise (· ≤ ·) → l.Nodup → l.Pairwise (· < ·)
  | [], _, _ => .nil
  | a :: r, h, n => by
    rw [List.pairwise_cons] at h
    rw [List.nodup_cons] at n
    refine List.pairwise_cons.mpr ⟨fun x hx => ?_, lt_of_le_nodup h.2 n.2⟩
    have h1 := h.1 x hx
    have h2 : x ≠ a := fun e => n.1 (e ▸ hx)
    omega
theorem sorted_ext : ∀ {l1 l2 : List Int}, l1.Pairwise (· < ·) → l2.Pairwise (· < ·) → (∀ x, x ∈ l1 ↔ x ∈ l2) → l1 = l2
  | [], [], _, _, _ => rfl
  | [], b :: r, _, _, h => by have := (h b).mpr List.mem_cons_self; cases this
  | a :: r, [], _, _, h => by have := (h a).mp List.mem_cons_self; cases this
  | a :: r, b :: t, h1, h2, h => by
    rw [List.pairwise_cons] at h1 h2
    have ha := (h a).mp List.mem_cons_self
    have hb := (h b).mpr List.mem_cons_self
    have e : a = b := by
      rcases List.mem_cons.mp ha with e | ha
      · exact e
      · rcases List.mem_cons.mp hb with e | hb
        · exact e.symm
        · have := h2.1 a ha
          have := h1.1 b hb
          omega
    subst e
    rw [sorted_ext h1.2 h2.2 fun x => ⟨fun hx => ?_, fun hx => ?_⟩]
    · rcases List.mem_cons.mp ((h x).mp (List.mem_cons_of_mem _ hx)) with e | q
      · have := h1.1 x hx
        omega
      · exact q
    · rcases List.mem_cons.mp ((h x).mpr (List.mem_cons_of_mem _ hx)) with e | q
      · have := h2.1 x hx
        omega
      · exact q
theorem putK_le {kvs : List (L2.Key × V)} {k : L2.Key} {v : V} : (putK kvs k v).length ≤ kvs.length + 1 := by
  have h := congrArg List.length (putK_keys (kvs := kvs) (k := k) (v := v))
  rw [List.length_map] at h
  rw [h]
  split
  · rw [List.length_map]; omega
  · rw [List.length_append, List.length_map]; simp

/-! ### immutable data: None, bools, ints, texts, tuples of them -/
mutual
inductive TD (K : PySem.W.Frag) (H : Hp) : V → PyData → Prop
  | non : TD K H .non .none
  | bl (b : Bool) : TD K H (.bl b) (.bool b)
  | int (i : Int) : TD K H (.int i) (.int i)
  | str (x : Str) : TD K H (.str x) (.str x)
  | tup {a : Addr} {xs : List V} {ds : List PyData} : SqT K H a xs → TDs K H xs ds → TD K H (.ref a) (.tuple ds)
inductive TDs (K : PySem.W.Frag) (H : Hp) : List V → List PyData → Prop
  | nil : TDs K H [] []
  | cons {v : V} {vs : List V} {d : PyData} {ds : List PyData} : TD K H v d → TDs K H vs ds → TDs K H (v :: vs) (d :: ds)
end
def oD : Option Int → PyData
  | none => .none
  | some z => .int z
def ovO : Option Int → V
  | none => .non
  | some z => .int z
def pD (p : Int × Int) : PyData := .tuple [.int p.1, .int p.2]
section
variable {K : PySem.W.Frag} {H H' : Hp}
theorem TD.tps (t : Tps H H') {v : V} {d : PyData} (h : TD K H v d) : TD K H' v d :=
  TD.rec (motive_1 := fun v d _ => TD K H' v d) (motive_2 := fun vs ds _ => TDs K H' vs ds) .non (fun b => .bl b) (fun i => .int i) (fun x => .str x) (fun h _ q => .tup (t.sq h) q) .nil (fun _ _ h1 h2 => .cons h1 h2) h
theorem TDs.tps (t : Tps H H') {vs : List V} {ds : List PyData} (h : TDs K H vs ds) : TDs K H' vs ds :=
  TDs.rec (motive_1 := fun v d _ => TD K H' v d) (motive_2 := fun vs ds _ => TDs K H' vs ds) .non (fun b => .bl b) (fun i => .int i) (fun x => .str x) (fun h _ q => .tup (t.sq h) q) .nil (fun _ _ h1 h2 => .cons h1 h2) h
theorem TD.dp {v : V} {d : PyData} (h : TD K H v d) : Dp K H v d :=
  TD.rec (motive_1 := fun v d _ => Dp K H v d) (motive_2 := fun vs ds _ => DpAll K H vs ds) .non (fun b => .bl b) (fun i => .int i) (fun x => .str x) (fun h _ q => .tup h q) .nil (fun _ _ h1 h2 => .cons h1 h2) h
theorem TDs.dp {vs : List V} {ds : List PyData} (h : TDs K H vs ds) : DpAll K H vs ds :=
  TDs.rec (motive_1 := fun v d _ => Dp K H v d) (motive_2 := fun vs ds _ => DpAll K H vs ds) .non (fun b => .bl b) (fun i => .int i) (fun x => .str x) (fun h _ q => .tup h q) .nil (fun _ _ h1 h2 => .cons h1 h2) h
theorem TD.same (s : Same H H') {v : V} {d : PyData} (h : TD K H v d) : TD K H' v d := h.tps (Tps.of s)
theorem TDs.same (s : Same H H') {vs : List V} {ds : List PyData} (h : TDs K H vs ds) : TDs K H' vs ds := h.tps (Tps.of s)
theorem TDs.len : ∀ {vs : List V} {ds : List PyData}, TDs K H vs ds → vs.length = ds.length
  | [], _, .nil => rfl
  | v :: vs, _, .cons h t => by rw [List.length_cons, List.length_cons, TDs.len t]
theorem TDs.get : ∀ {vs : List V} {ds : List PyData} {i : Nat} {d : PyData}, TDs K H vs ds → ds[i]? = some d → ∃ v, vs[i]? = some v ∧ TD K H v d
  | _, _, _, _, .nil, e => by simp at e
  | _, _, 0, _, .cons (v := v) h t, e => by
    cases e
    exact ⟨v, rfl, h⟩
  | _, _, i + 1, _, .cons h t, e => by
    obtain ⟨v, e2, q⟩ := TDs.get (i := i) t (by simpa using e)
    exact ⟨v, by simpa using e2, q⟩
theorem TDs.at {vs : List V} {ds : List PyData} {i : Nat} {v : V} (h : TDs K H vs ds) (e : vs[i]? = some v) : ∃ d, ds[i]? = some d ∧ TD K H v d ∧ ds.take (i + 1) = ds.take i ++ [d] ∧ i < ds.length := by
  have hi := (List.getElem?_eq_some_iff.mp e).1
  have hl := h.len
  have e2 : ds[i]? = some (ds[i]'(by omega)) := List.getElem?_eq_getElem (by omega)
  obtain ⟨v', e3, q⟩ := h.get e2
  rw [e] at e3
  cases e3
  exact ⟨_, e2, q, by rw [List.take_add_one, e2]; rfl, by omega⟩
theorem TDs.mem {vs : List V} {ds : List PyData} {v : V} (h : TDs K H vs ds) (hv : v ∈ vs) : ∃ d, d ∈ ds ∧ TD K H v d := by
  obtain ⟨i, hi⟩ := List.getElem?_of_mem hv
  obtain ⟨d, e, q, _⟩ := h.at hi
  exact ⟨d, List.mem_of_getElem? e, q⟩
theorem TDs.of : ∀ {vs : List V} {ds : List PyData}, vs.length = ds.length → (∀ (i : Nat) v d, vs[i]? = some v → ds[i]? = some d → TD K H v d) → TDs K H vs ds
  | [], [], _, _ => .nil
  | v :: vs, d :: ds, hl, h => .cons (h 0 v d rfl rfl) (TDs.of (by simpa using hl) fun i y e h1 h2 => h (i + 1) y e (by simpa using h1) (by simpa using h2))
theorem TDs.app : ∀ {vs us : List V} {ds es : List PyData}, TDs K H vs ds → TDs K H us es → TDs K H (vs ++ us) (ds ++ es)
  | _, _, _, _, .nil, h => h
  | _, _, _, _, .cons h t, q => .cons h (TDs.app t q)
theorem TDs.snoc {vs : List V} {ds : List PyData} {v : V} {d : PyData} (h : TDs K H vs ds) (q : TD K H v d) : TDs K H (vs ++ [v]) (ds ++ [d]) := h.app (.cons q .nil)
theorem TDs.map {α : Type} {f : α → V} {g : α → PyData} : ∀ {l : List α}, (∀ x ∈ l, TD K H (f x) (g x)) → TDs K H (l.map f) (l.map g)
  | [], _ => .nil
  | x :: r, h => .cons (h x List.mem_cons_self) (TDs.map fun y hy => h y (List.mem_cons_of_mem _ hy))
theorem TDs.ints (ns : List Int) : TDs K H (ns.map V.int) (ns.map PyData.int) := TDs.map fun x _ => .int x
theorem TD.ovO (o : Option Int) : TD K H (ovO o) (oD o) := by cases o <;> constructor
theorem TDs.ovs (os : List (Option Int)) : TDs K H (os.map Law.ovO) (os.map oD) := TDs.map fun x _ => TD.ovO x
theorem TD.tup_inv {v : V} {ds : List PyData} (h : TD K H v (.tuple ds)) : ∃ a xs, v = .ref a ∧ SqT K H a xs ∧ TDs K H xs ds := by
  cases h with
  | tup a b => exact ⟨_, _, rfl, a, b⟩
theorem TD.int_inv {v : V} {i : Int} (h : TD K H v (.int i)) : v = .int i := by cases h; rfl
theorem TD.non_inv {v : V} (h : TD K H v .none) : v = .non := by cases h; rfl
theorem TD.str_inv {v : V} {i : Str} (h : TD K H v (.str i)) : v = .str i := by cases h; rfl
theorem TD.bl_inv {v : V} {i : Bool} (h : TD K H v (.bool i)) : v = .bl i := by cases h; rfl
theorem TD.ov_inv {v : V} {o : Option Int} (h : TD K H v (oD o)) : v = Law.ovO o := by
  cases o with
  | none => exact h.non_inv
  | some z => exact h.int_inv
theorem TDs.ints_inv : ∀ {ns : List Int} {vs : List V}, TDs K H vs (ns.map PyData.int) → vs = ns.map V.int
  | [], _, h => by cases h; rfl
  | n :: ns, _, h => by
    cases h with
    | cons a b => rw [a.int_inv, TDs.ints_inv b]; rfl
theorem TDs.ovs_inv : ∀ {os : List (Option Int)} {vs : List V}, TDs K H vs (os.map oD) → vs = os.map Law.ovO
  | [], _, h => by cases h; rfl
  | n :: ns, _, h => by
    cases h with
    | cons a b => rw [a.ov_inv, TDs.ovs_inv b]; rfl
theorem TD.pair_inv {v : V} {p : Int × Int} (h : TD K H v (pD p)) : ∃ a, v = .ref a ∧ SqT K H a [.int p.1, .int p.2] := by
  obtain ⟨a, xs, e, s, q⟩ := h.tup_inv
  rw [TDs.ints_inv (ns := [p.1, p.2]) q] at s
  exact ⟨a, e, s⟩
theorem TD.of {a : Addr} {xs : List V} {ds : List PyData} (h : H a = some (.tup xs)) (q : TDs K H xs ds) : TD K H (.ref a) (.tuple ds) := .tup (SqT.of h) q
/-- a new tuple of data -/
theorem TD.new {a : Addr} {xs : List V} {ds : List PyData} (h : H a = none) (q : TDs K H xs ds) : TD K (upd H a (.tup xs)) (.ref a) (.tuple ds) := .of upd_same (q.same (same_new h))
/-- a list of data -/
def LD (K : PySem.W.Frag) (H : Hp) (a : Addr) (ds : List PyData) : Prop := ∃ vs, H a = some (.lst vs) ∧ TDs K H vs ds
theorem LD.same (s : Same H H') {a : Addr} {ds : List PyData} (h : LD K H a ds) : LD K H' a ds := by
  obtain ⟨vs, e, q⟩ := h
  exact ⟨vs, s _ _ e, q.same s⟩
theorem LD.kp {p a : Addr} {xs : List V} {ds : List PyData} (h : LD K H a ds) (k : Kp p H H') (hp : H p = some (.lst xs)) (n : a ≠ p) : LD K H' a ds := by
  obtain ⟨vs, e, q⟩ := h
  exact ⟨vs, k _ _ e n, q.tps (k.tps hp)⟩
theorem LD.put {a : Addr} {xs vs : List V} {ds : List PyData} (h : H a = some (.lst xs)) (q : TDs K H vs ds) : LD K (upd H a (.lst vs)) a ds := ⟨vs, upd_same, q.tps (tps_put h)⟩
theorem LD.new {a : Addr} {vs : List V} {ds : List PyData} (h : H a = none) (q : TDs K H vs ds) : LD K (upd H a (.lst vs)) a ds := ⟨vs, upd_same, q.same (same_new h)⟩
theorem LD.snoc {a : Addr} {vs : List V} {v : V} {d : PyData} {ds : List PyData} (h : H a = some (.lst vs)) (q : TDs K H vs ds) (x : TD K H v d) : LD K (upd H a (.lst (vs ++ [v]))) a (ds ++ [d]) := .put h (q.snoc x)
variable {σ : L2.St} {Q : VK}
theorem i_tyLD {p : Addr} {ds : List PyData} {R : Prop} (s : LD K H p ds) (q : R) : tyV K "list" (.ref p) H ∧ R := by
  obtain ⟨vs, e, _⟩ := s
  exact i_tyL (SqL.of e) q
theorem i_lenLD {p : Addr} {ds : List PyData} (s : LD K H p ds) (q : Q (.int ds.length) H) : qLen K [.ref p] H Q := by
  obtain ⟨vs, e, t⟩ := s
  rw [← t.len] at q
  exact i_lenL (SqL.of e) q
theorem i_ixD {p : V} {ds : List PyData} {i : Int} {d : PyData} (h : TD K H p (.tuple ds)) (h0 : 0 ≤ i) (e : ds[i.toNat]? = some d) (q : ∀ y, TD K H y d → Q y H) : rIxT K p (.int i) H Q := by
  obtain ⟨a, xs, rfl, s, t⟩ := h.tup_inv
  obtain ⟨y, ey, hy⟩ := t.get e
  refine ⟨a, xs, i, y, rfl, rfl, s, ?_, q y hy⟩
  have := atI_nat (xs := xs) (j := i.toNat) (v := y) ey
  rw [Int.toNat_of_nonneg h0] at this
  exact this
theorem i_ixDI {p : V} {ds : List PyData} {i j : Int} (h : TD K H p (.tuple ds)) (h0 : 0 ≤ i) (e : ds[i.toNat]? = some (.int j)) (q : Q (.int j) H) : rIxT K p (.int i) H Q :=
  i_ixD h h0 e fun y hy => by rw [hy.int_inv]; exact q
theorem i_ixDO {p : V} {ds : List PyData} {i : Int} {o : Option Int} (h : TD K H p (.tuple ds)) (h0 : 0 ≤ i) (e : ds[i.toNat]? = some (oD o)) (q : Q (ovO o) H) : rIxT K p (.int i) H Q :=
  i_ixD h h0 e fun y hy => by rw [hy.ov_inv]; exact q
theorem i_ixDS {p : V} {ds : List PyData} {i : Int} {j : Str} (h : TD K H p (.tuple ds)) (h0 : 0 ≤ i) (e : ds[i.toNat]? = some (.str j)) (q : Q (.str j) H) : rIxT K p (.int i) H Q :=
  i_ixD h h0 e fun y hy => by rw [hy.str_inv]; exact q
theorem i_lenDt {p : V} {ds : List PyData} (h : TD K H p (.tuple ds)) (q : Q (.int ds.length) H) : qLen K [p] H Q := by
  obtain ⟨a, xs, rfl, s, t⟩ := h.tup_inv
  rw [← t.len] at q
  exact i_lenT s q
theorem i_gTupD {n : Nat} {t : TGs} {v : V} {ds : List PyData} {R : L2.St → Hp → Prop} (h : TD K H v (.tuple ds)) (e : ds.length = n) (q : ∀ xs, TDs K H xs ds → t xs σ H R) : gTup K n t v σ H R := by
  obtain ⟨a, xs, rfl, s, u⟩ := h.tup_inv
  exact i_gTup s (by rw [u.len, e]) (q xs u)
theorem i_gPair {n : Nat} {t : TGs} {v : V} {p : Int × Int} {R : L2.St → Hp → Prop} (h : TD K H v (pD p)) (e : 2 = n) (q : t [.int p.1, .int p.2] σ H R) : gTup K n t v σ H R := by
  obtain ⟨a, rfl, s⟩ := h.pair_inv
  exact i_gTup s e q
theorem i_isTD {v : V} {ds : List PyData} {R : Addr → Prop} (h : TD K H v (.tuple ds)) (q : ∀ a xs, v = .ref a → SqT K H a xs → TDs K H xs ds → R a) : ∃ a', v = .ref a' ∧ (∃ xs, SqT K H a' xs) ∧ R a' := by
  obtain ⟨a, xs, e, s, t⟩ := h.tup_inv
  exact ⟨a, e, ⟨xs, s⟩, q a xs e s t⟩
theorem i_lstTD {v : V} {ds : List PyData} (h : TD K H v (.tuple ds)) (q : ∀ xs l, TDs K H xs ds → H l = none → Q (.ref l) (upd H l (.lst xs))) : rLstOf K [v] H Q := by
  obtain ⟨a, xs, rfl, s, t⟩ := h.tup_inv
  exact i_lstT s fun l hl => q xs l t hl
theorem i_tupTD {v : V} {ds : List PyData} (h : TD K H v (.tuple ds)) (q : Q v H) : rTupOf K [v] H Q := by
  obtain ⟨a, xs, rfl, s, t⟩ := h.tup_inv
  exact i_tupT s q
theorem TDs.pair_at {vs : List V} {ps : List (Int × Int)} {i : Nat} {v : V} (h : TDs K H vs (ps.map pD)) (e : vs[i]? = some v) : ∃ p, ps[i]? = some p ∧ TD K H v (pD p) ∧ ps.take (i + 1) = ps.take i ++ [p] ∧ i < ps.length := by
  obtain ⟨d, e1, t, _, hl⟩ := h.at e
  rw [List.getElem?_map] at e1
  cases e2 : ps[i]? with
  | none => rw [e2] at e1; cases e1
  | some p =>
    rw [e2] at e1
    cases e1
    exact ⟨p, rfl, t, by rw [List.take_add_one, e2]; rfl, (List.getElem?_eq_some_iff.mp e2).1⟩
theorem i_eqNI {j : Int} (q : Q (.bl false) H) : rEq .non (.int j) H Q := ⟨rfl, by
  have e : decide (V.non = V.int j) = false := by simp
  rw [e]; exact q⟩
/-! shapes -/
theorem Shp.str {x : Str} (h : PyData.canLay0 (.str x) = true) : Shp 0 (.str x) := ⟨h, by simp [PyData.depth]⟩
theorem Shp.oD (o : Option Int) : Shp 0 (oD o) := by
  cases o with
  | none => exact Shp.non
  | some z => exact Shp.int z
theorem Shp.ovs (os : List (Option Int)) : Shp 1 (.tuple (os.map Law.oD)) := Shp.tup fun d hd => by
  obtain ⟨x, _, rfl⟩ := List.mem_map.mp hd
  exact Shp.oD x
theorem Shp.pD (p : Int × Int) : Shp 1 (pD p) := Shp.tup fun d hd => by
  rcases List.mem_cons.mp hd with rfl | hd
  · exact Shp.int _
  · rcases List.mem_cons.mp hd with rfl | hd
    · exact Shp.int _
    · cases hd
theorem Shp.prs (ps : List (Int × Int)) : Shp 2 (.tuple (ps.map Law.pD)) := Shp.tup fun d hd => by
  obtain ⟨x, _, rfl⟩ := List.mem_map.mp hd
  exact Shp.pD x
/-! dicts with text keys -/
theorem i_disp {trs : List (TE × TE)} (h : ∀ p, H p = none → tPairs trs σ (upd H p (.dK [])) fun ps H2 => H2 p = some (.dK []) ∧ ∃ kvs : List (L2.Key × V), ps = kvs.map (fun kv => (kV kv.1, kv.2)) ∧ kvs.length ≤ 15 ∧ Q (.ref p) (upd H2 p (.dK (mergeK [] kvs)))) : tDisp trs σ H Q := h
theorem i_pNil {R : List (V × V) → Hp → Prop} (h : R [] H) : tPairs [] σ H R := h
theorem i_pCons {tk tv : TE} {r : List (TE × TE)} {R : List (V × V) → Hp → Prop} (h : tk σ H fun x H1 => tv σ H1 fun y H2 => tPairs r σ H2 fun ps H3 => R ((x, y) :: ps) H3) : tPairs ((tk, tv) :: r) σ H R := h
theorem i_dgetS {p : Addr} {i : Str} {v : V} {kvs : List (L2.Key × V)} {R : V → Prop} (h : Rd H p (.dK kvs)) (e : valV kvs (.inr i) = some v) (q : R v) : ∃ a v', V.ref p = .ref a ∧ DGet H a (.str i) (some v') ∧ R v' :=
  ⟨p, v, rfl, .inl ⟨kvs, .inr i, h, rfl, e.symm⟩, q⟩
end
/- data at the heap of the goal -/
local macro_rules | `(tactic| wtm_at "jtd") => `(tactic| first | assumption | ((with_reducible refine' TD.same (same_new ?hn) ?hh); (case hn => assumption); (case hh => wtm_at "jtd")))
local macro_rules | `(tactic| wtm_at "jw1") => `(tactic| first
  | ((with_reducible refine' i_ixDI ?h ?h0 ?e ?_); (case h => wtm_at "jtd"); (case h0 => wtm_at "jside"); (case e => wtm_at "jat"))
  | ((with_reducible refine' i_ixDO ?h ?h0 ?e ?_); (case h => wtm_at "jtd"); (case h0 => wtm_at "jside"); (case e => wtm_at "jat"))
  | ((with_reducible refine' i_ixDS ?h ?h0 ?e ?_); (case h => wtm_at "jtd"); (case h0 => wtm_at "jside"); (case e => wtm_at "jat"))
  | ((with_reducible refine' i_ix2 (i_ixDI ?h ?h0 ?e ?_)); (case h => wtm_at "jtd"); (case h0 => wtm_at "jside"); (case e => wtm_at "jat"))
  | ((with_reducible refine' i_ix2 (i_ixDO ?h ?h0 ?e ?_)); (case h => wtm_at "jtd"); (case h0 => wtm_at "jside"); (case e => wtm_at "jat"))
  | ((with_reducible refine' i_ixD ?h ?h0 ?e ?_); (case h => wtm_at "jtd"); (case h0 => wtm_at "jside"); (case e => wtm_at "jat"); intro _ _)
  | ((with_reducible refine' i_ix2 (i_ixD ?h ?h0 ?e ?_)); (case h => wtm_at "jtd"); (case h0 => wtm_at "jside"); (case e => wtm_at "jat"); intro _ _)
  | ((with_reducible refine' i_lenDt ?h ?_); (case h => wtm_at "jtd"))
  | with_reducible refine' i_eqNI ?_
  | ((with_reducible refine' i_tyLD ?h ?_); (case h => assumption))
  | ((with_reducible refine' i_lenLD ?h ?_); (case h => assumption))
  | ((with_reducible refine' i_gPair ?h ?e ?_); (case h => wtm_at "jtd"); (case e => rfl))
  | with_reducible refine' i_pNil ?_ | with_reducible refine' i_pCons ?_)

/-! ### draws and picks, said shortly -/
section
variable {K : PySem.W.Frag} {p a B : Addr} {H0 H : Hp} {Q : VK} {E : XK}
theorem drawL {m : Int} (w : Drew p a H0 H) (h0 : 0 < m) (h1 : m < 18446744073709551616) (q : ∀ z H', 0 ≤ z → z < m → Drew p a H H' → Drew p a H0 H' → Q (.int z) H') : sp__law_draw K [.ref p, .int m] H Q E :=
  ⟨p, a, m, rfl, w.at_, h0, h1, fun z H' z0 z1 e => q z H' z0 z1 e (w.trans e)⟩
theorem pickL {xs : List V} (P : Int → Prop) (ns : List Int) (w : Drew p a H0 H) (hB : H B = none) (e : xs = ns.map V.int) (h0 : 0 < ns.length) (h1 : ns.length < 1000) (hP : ∀ z ∈ ns, P z)
    (q : ∀ z H', P z → Drew p a H H' → Drew p a H0 H' → Q (.int z) H') : sp__law_pick K [.ref p, .ref B] (upd H B (.lst xs)) Q E := by
  subst e
  refine ⟨p, a, B, ns.map V.int, rfl, w.at_.same (same_new hB), .inl ⟨w.at_.ne_none hB, SqL.of upd_same⟩, by rw [List.length_map]; exact h0, by rw [List.length_map]; omega, fun x H' hx e => ?_⟩
  obtain ⟨z, hz, rfl⟩ := List.mem_map.mp hx
  have e1 := (w.at_.drew.new (o := .lst (ns.map V.int)) hB).trans e
  exact q z H' (hP z hz) e1 (w.trans e1)
theorem pickV {xs : List V} (w : Drew p a H0 H) (hB : H B = none) (h0 : 0 < xs.length) (h1 : xs.length < 1000) (q : ∀ x H', x ∈ xs → Drew p a H H' → Drew p a H0 H' → Q x H') : sp__law_pick K [.ref p, .ref B] (upd H B (.lst xs)) Q E := by
  refine ⟨p, a, B, xs, rfl, w.at_.same (same_new hB), .inl ⟨w.at_.ne_none hB, SqL.of upd_same⟩, h0, by omega, fun x H' hx e => ?_⟩
  have e1 := (w.at_.drew.new (o := .lst xs) hB).trans e
  exact q x H' hx e1 (w.trans e1)
/-- a pick out of a list that stands -/
theorem pickS {xs : List V} (w : Drew p a H0 H) (hB : H B = some (.lst xs)) (n : B ≠ p) (h0 : 0 < xs.length) (h1 : xs.length < 1000000) (q : ∀ x H', x ∈ xs → Drew p a H H' → Drew p a H0 H' → Q x H') : sp__law_pick K [.ref p, .ref B] H Q E :=
  ⟨p, a, B, xs, rfl, w.at_, .inl ⟨n, SqL.of hB⟩, h0, by omega, fun x H' hx e => q x H' hx e (w.trans e)⟩
theorem pickT {xs : List V} (w : Drew p a H0 H) (hB : SqT K H B xs) (h0 : 0 < xs.length) (h1 : xs.length < 1000000) (q : ∀ x H', x ∈ xs → Drew p a H H' → Drew p a H0 H' → Q x H') : sp__law_pick K [.ref p, .ref B] H Q E :=
  ⟨p, a, B, xs, rfl, w.at_, .inr hB, h0, by omega, fun x H' hx e => q x H' hx e (w.trans e)⟩
end
theorem LD.drew {K : PySem.W.Frag} {p a f : Addr} {H H' : Hp} {ds : List PyData} (h : LD K H f ds) (d : DrawAt H p a) (e : Drew p a H H') (n : f ≠ p) : LD K H' f ds := by
  obtain ⟨xs, hp⟩ := d.some
  exact h.kp e.kp hp n
theorem LPr.drew {p a f : Addr} {H H' : Hp} {fo : List (Int × Int)} (h : LPr H f fo) (d : DrawAt H p a) (e : Drew p a H H') (n : f ≠ p) : LPr H' f fo := by
  obtain ⟨xs, hp⟩ := d.some
  exact h.kp e.kp hp n
/-- a pure choice of two -/
theorem i_ifP {σ : L2.St} {H : Hp} {Q : VK} {c : TT} {ta tb : TE} (P : V → Prop) (hc : ∀ R : Bool → Hp → Prop, (∀ b, R b H) → c σ H R) (ha : ∀ R : VK, (∀ v, P v → R v H) → ta σ H R) (hb : ∀ R : VK, (∀ v, P v → R v H) → tb σ H R) (q : ∀ v, P v → Q v H) : tIf c ta tb σ H Q :=
  hc _ fun b => by
    cases b
    · exact hb _ q
    · exact ha _ q
theorem all_two {P : Int → Prop} {x y : Int} (h1 : P x) (h2 : P y) : ∀ z ∈ [x, y], P z := by simp; exact ⟨h1, h2⟩

theorem sqT_ty {K : PySem.W.Frag} {H : Hp} {a : Addr} {xs : List V} (h : SqT K H a xs) : TyX K H (.ref a) (.type "tuple") := by
  rcases h with (h | ⟨o, h⟩) | ⟨o, vs, c, e, h1, _⟩
  · exact .base (.tup h)
  · exact .fTuple h
  · exact .kTuple e h1
theorem TD.ty {K : PySem.W.Frag} {H : Hp} {v : V} {ds : List PyData} (h : TD K H v (.tuple ds)) : TyX K H v (.type "tuple") := by
  obtain ⟨a, xs, rfl, s, _⟩ := h.tup_inv
  exact sqT_ty s
theorem i_isiT {K : PySem.W.Frag} {H : Hp} {Q : VK} {v : V} {ds : List PyData} {n : String} {b : Bool} (h : TD K H v (.tuple ds)) (e : PySem.W.kitOne K (.type "tuple") (.type n) = some b) (q : Q (.bl b) H) : rIsi K [v, .ty n] H Q := i_isi h.ty e q
theorem all_id_true (n : Nat) : (List.replicate n true).all id = true := by
  rw [List.all_replicate]; simp
def sp__law_is_ints (K : PySem.W.Frag) : Sp := fun vs H Q _ => ∃ (x : V) (ns : List Int), vs = [x] ∧ TD K H x (.tuple (ns.map PyData.int)) ∧ ns.length ≤ 1000000 ∧ ∀ H', Same H H' → Q (.bl true) H'
theorem ok__law_is_ints {P : Program} {w : World} {K : PySem.W.Frag} {mg : Str → Option Value} {base : Heap} {f : Addr} {fd : FuncData} (F : Df K mg "_law_is_ints" s__law_is_ints f fd ["row"]) (T : Txt mg)
    (c__law_is_int : Cl P w K mg base 1 "_law_is_int" (sp__law_is_int K)) : FnOk P w K mg base CX0 2 f fd ["row"] (sp__law_is_ints K) := by
  refine F.ok sc__law_is_ints (fun vs H Q E h => ?_) (fun cdv A outer s H vs Q E hr h => ?_)
  · obtain ⟨x, ns, rfl, _⟩ := h
    rfl
  · obtain ⟨x, ns, rfl, hx, hl, k⟩ := h
    refine ⟨_, (pss_one (ps_ret (pe_and (pe_callB (id := "isinstance") (r := rIsi K) call_isi (by rfl) T.b_isinstance (by decide +kernel) (pa_cons (pv 0) (pa_cons (pe_bltn (v := .ty "tuple") (u := Value.type "tuple") (by rfl) T.b_tuple (by decide +kernel) rfl) pa_nil))) (pe_one (pe_callB (id := "all") (r := rAll K) (cr_all rfl) (by rfl) T.b_all (by decide +kernel) (pa_cons (pe_lc (own := [("part", 1)]) (g := gName 1) (tt := tYes) rfl sc__law_is_ints.nd (pi_tup (pv 0)) (blkOk_by (own := [("part", 1)]) (N := N__law_is_ints) (sc := defScope s__law_is_ints) (by decide +kernel)) (fun _ _ _ _ _ => (pg_name (i := 1) sc__law_is_ints.nd rfl (Or.inl rfl))) (fun _ _ _ _ _ => pts_nil) (fun _ _ _ _ _ => (pe_cl c__law_is_int hr (by decide) rfl (pa_cons (pv 1) pa_nil)))) pa_nil)))))), ?_⟩
    try dsimp only [cxOf, Cx.nox, Cx.wish]
    refine st_of (σ' := [some _, none]) rfl ?_
    wtm_at "jw"
    refine i_isiT hx rfl ?_
    obtain ⟨a, xs, rfl, hS, hT⟩ := hx.tup_inv
    rw [hT.ints_inv] at hS
    wtm_at "jw"
    intro D hD
    refine l_tupP (xs := ns.map V.int) (fun _ => V.bl true) hD (by rw [List.length_map]; exact hl) hS (fun i x H' R hi s hR => ?_) (fun H' s hD' => ?_)
    · obtain ⟨z, rfl, _⟩ := ints_at hi
      wtm_at "jw"
      refine ⟨rfl, ?_⟩
      wtm_at "jw"
      refine ⟨z, rfl, ?_⟩
      exact hR
    · wtm_at "jw"
      refine ⟨D, List.replicate (ns.map V.int).length true, rfl, SqL.of ?_, ?_⟩
      · rw [hD', List.map_replicate, List.map_const', List.length_range]
      · rw [all_id_true]
        exact k _ s

/-! ### names -/
theorem i_m1 {r : V → List V → Hp → VK → Prop} {to te : TE} {σ : L2.St} {H : Hp} {Q : VK} (h : to σ H fun x H1 => (∃ a, x = .str a) ∧ te σ H1 fun y H2 => r x [y] H2 Q) : tM1 r to te σ H Q := h
def sp__law_pool (K : PySem.W.Frag) : Sp := fun vs H Q _ => vs = [] ∧ ∀ r (ys : List Str) H', Same H H' → H r = none → H' r = some (.lst (ys.map V.str)) → ys.length = 61 → Q (.ref r) H'
theorem ok__law_pool {P : Program} {w : World} {K : PySem.W.Frag} {mg : Str → Option Value} {base : Heap} {f : Addr} {fd : FuncData} (F : Df K mg "_law_pool" s__law_pool f fd []) (T : Txt mg) : FnOk P w K mg base CX0 1 f fd [] (sp__law_pool K) := by
  refine F.ok sc__law_pool (fun vs H Q E h => ?_) (fun cdv A outer s H vs Q E hr h => ?_)
  · obtain ⟨rfl, _⟩ := h
    rfl
  · obtain ⟨rfl, q⟩ := h
    refine ⟨_, (pss_cons (ps_set (i := 0) sc__law_pool.nd rfl (Or.inl rfl) pe_str)
      (pss_cons (ps_set (i := 0) sc__law_pool.nd rfl (Or.inl rfl) (pe_op o_addS (pv 0) pe_str))
      (pss_one (ps_ret (pe_split (pe_op o_addS (pv 0) pe_str) pe_str))))), ?_⟩
    try dsimp only [cxOf, Cx.nox, Cx.wish]
    refine st_of (σ' := [none]) rfl ?_
    wtm_at "jw"
    refine i_addS (by rw [sizeLine_eq]; decide +kernel) ?_
    wtm_at "jw"
    refine i_m1 ?_
    wtm_at "jw"
    refine i_addS (by rw [sizeLine_eq]; decide +kernel) ?_
    wtm_at "jw"
    refine ⟨⟨_, rfl⟩, ?_⟩
    wtm_at "jw"
    refine ⟨_, _, rfl, rfl, by decide +kernel, by rw [sizeLine_eq]; decide +kernel, fun r hr' => ?_⟩
    exact q r _ _ (same_new hr') hr' upd_same (by decide +kernel)
theorem map_erase {α β : Type} (f : α → β) : ∀ (l : List α) (i : Nat), (l.map f).eraseIdx i = (l.eraseIdx i).map f
  | [], _ => rfl
  | _ :: _, 0 => rfl
  | x :: r, i + 1 => by
    show f x :: (r.map f).eraseIdx i = f x :: (r.eraseIdx i).map f
    rw [map_erase f r i]
/-- a name of the pool is taken -/
def sp__law_pop (K : PySem.W.Frag) : Sp := fun vs H Q _ => ∃ (p a b : Addr) (ys : List Str), vs = [.ref p, .ref b] ∧ DrawAt H p a ∧ H b = some (.lst (ys.map V.str)) ∧ b ≠ p ∧ b ≠ a ∧ 0 < ys.length ∧ ys.length ≤ 1000 ∧
  ∀ (x : Str) (zs : List Str) (H' : Hp), (∀ c o, H c = some o → c ≠ p → c ≠ b → H' c = some o) → DrawAt H' p a → H' b = some (.lst (zs.map V.str)) → zs.length + 1 = ys.length → Q (.str x) H'
theorem ok__law_pop {P : Program} {w : World} {K : PySem.W.Frag} {mg : Str → Option Value} {base : Heap} {f : Addr} {fd : FuncData} (F : Df K mg "_law_pop" s__law_pop f fd ["d", "row"]) (T : Txt mg)
    (c__law_draw : Cl P w K mg base 1 "_law_draw" (sp__law_draw K)) : FnOk P w K mg base CX0 2 f fd ["d", "row"] (sp__law_pop K) := by
  refine F.ok sc__law_pop (fun vs H Q E h => ?_) (fun cdv A outer s H vs Q E hr h => ?_)
  · obtain ⟨p, a, b, ys, rfl, _⟩ := h
    rfl
  · obtain ⟨p, a, b, ys, rfl, hd, hb, nb, nba, l0, l1, q⟩ := h
    refine ⟨_, (pss_one (ps_ret (pe_bmK (K := K) rfl PySem.F.plainAttrs_list PySem.F.slot_list_pop PySem.F.type_list_pop mt_popAt (pv 1) (pa_cons (pe_cl c__law_draw hr (by decide) rfl (pa_cons (pv 0) (pa_cons (pe_callB (id := "len") (r := qLen K) c_len (by rfl) T.b_len (by decide +kernel) (pa_cons (pv 1) pa_nil)) pa_nil))) pa_nil)))), ?_⟩
    try dsimp only [cxOf, Cx.nox, Cx.wish]
    refine st_of (σ' := [some _, some _]) rfl ?_
    wtm_at "jw"
    rw [List.length_map]
    refine drawL hd.drew (by omega) (by omega) fun z H1 z0 z1 e _ => ?_
    have hb1 := e.kp _ _ hb nb
    have hzl : z.toNat < ys.length := by omega
    wtm_at "jw"
    refine i_popAt hb1 z0 (by rw [List.length_map]; omega) (by rw [List.length_map]; omega) (y := .str ys[z.toNat]) (by rw [List.getElem?_map, List.getElem?_eq_getElem hzl]; rfl) ?_
    refine q _ (ys.eraseIdx z.toNat) _ (fun c o hc n1 n2 => by rw [upd_ne n2]; exact e.kp _ _ hc n1) ?_ (by rw [upd_same, map_erase]) (by rw [List.length_eraseIdx, if_pos hzl]; omega)
    obtain ⟨ns, pos, pend, seed, h1, h2, h3, h4⟩ := e.at_
    exact ⟨ns, pos, pend, seed, by rw [upd_ne nb.symm]; exact h1, by rw [upd_ne nba.symm]; exact h2, h3, h4⟩
/-- a pop, told as a draw: b is a thing of our own -/
theorem popL {K : PySem.W.Frag} {p a b : Addr} {H0 H : Hp} {Q : VK} {E : XK} {ys : List Str} (w : Drew p a H0 H) (d0 : DrawAt H0 p a) (b0 : H0 b = none) (hb : H b = some (.lst (ys.map V.str))) (l0 : 0 < ys.length) (l1 : ys.length ≤ 1000)
    (q : ∀ (x : Str) (zs : List Str) (H' : Hp), (∀ c o, H c = some o → c ≠ p → c ≠ b → H' c = some o) → Tps H H' → Drew p a H0 H' → H' b = some (.lst (zs.map V.str)) → zs.length + 1 = ys.length → Q (.str x) H') : sp__law_pop K [.ref p, .ref b] H Q E := by
  have np := d0.ne_none b0
  refine ⟨p, a, b, ys, rfl, w.at_, hb, np, d0.ne_noneA b0, l0, l1, fun x zs H' kp da hb' hl => q x zs H' kp (fun c => ⟨fun xs h => ?_, fun o xs h => ?_⟩) ⟨da, fun c o hc hn => ?_⟩ hb' hl⟩
  · obtain ⟨us, hp⟩ := w.at_.some
    exact kp c _ h (ne_of h hp (by intro z; cases z)) (ne_of h hb (by intro z; cases z))
  · obtain ⟨us, hp⟩ := w.at_.some
    exact kp c _ h (ne_of h hp (by intro z; cases z)) (ne_of h hb (by intro z; cases z))
  · exact kp c o (w.kp c o hc hn) hn (ne_of_none hc b0)
def sp__law_hold (K : PySem.W.Frag) : Sp := fun vs H Q _ => ∃ (lo n hi : Int), vs = [.int lo, .int n, .int hi] ∧ Q (.int (if hi < (if lo > n then lo else n) then hi else (if lo > n then lo else n))) H
theorem ok__law_hold {P : Program} {w : World} {K : PySem.W.Frag} {mg : Str → Option Value} {base : Heap} {f : Addr} {fd : FuncData} (F : Df K mg "_law_hold" s__law_hold f fd ["low", "number", "high"]) (T : Txt mg) : FnOk P w K mg base CX0 1 f fd ["low", "number", "high"] (sp__law_hold K) := by
  refine F.ok sc__law_hold (fun vs H Q E h => ?_) (fun cdv A outer s H vs Q E hr h => ?_)
  · obtain ⟨lo, n, hi, rfl, _⟩ := h
    rfl
  · obtain ⟨lo, n, hi, rfl, q⟩ := h
    refine ⟨_, (pss_one (ps_ret (pe_callB (id := "min") (c_min2 rfl) (by rfl) T.b_min (by decide +kernel) (pa_cons (pe_callB (id := "max") (c_max2 rfl) (by rfl) T.b_max (by decide +kernel) (pa_cons (pv 1) (pa_cons (pv 0) pa_nil))) (pa_cons (pv 2) pa_nil))))), ?_⟩
    try dsimp only [cxOf, Cx.nox, Cx.wish]
    refine st_of (σ' := [some _, some _, some _]) rfl ?_
    wtm_at "jw"
    exact q

def sp__law_any_fixed (K : PySem.W.Frag) : Sp := fun vs H Q _ => ∃ (p a : Addr), vs = [.ref p] ∧ DrawAt H p a ∧ ∀ z H', Drew p a H H' → Q (.int z) H'
theorem ok__law_any_fixed {P : Program} {w : World} {K : PySem.W.Frag} {mg : Str → Option Value} {base : Heap} {f : Addr} {fd : FuncData} (F : Df K mg "_law_any_fixed" s__law_any_fixed f fd ["d"]) (T : Txt mg)
    (c__law_draw : Cl P w K mg base 1 "_law_draw" (sp__law_draw K)) : FnOk P w K mg base CX0 2 f fd ["d"] (sp__law_any_fixed K) := by
  refine F.ok sc__law_any_fixed (fun vs H Q E h => ?_) (fun cdv A outer s H vs Q E hr h => ?_)
  · obtain ⟨p, a, rfl, _⟩ := h
    rfl
  · obtain ⟨p, a, rfl, hd, q⟩ := h
    refine ⟨_, (pss_one (ps_ret (pe_op op_sub (pe_cl c__law_draw hr (by decide) rfl (pa_cons (pv 0) (pa_cons pe_int pa_nil))) pe_int))), ?_⟩
    try dsimp only [cxOf, Cx.nox, Cx.wish]
    refine st_of (σ' := [some _]) rfl ?_
    wtm_at "jw"
    refine drawL hd.drew (by decide) (by decide) fun z H1 _ _ _ w1 => ?_
    wtm_at "jw"
    exact q _ _ w1
theorem fixL {K : PySem.W.Frag} {p a : Addr} {H0 H : Hp} {Q : VK} {E : XK} (w : Drew p a H0 H) (q : ∀ z H', Drew p a H H' → Drew p a H0 H' → Q (.int z) H') : sp__law_any_fixed K [.ref p] H Q E :=
  ⟨p, a, rfl, w.at_, fun z H' e => q z H' e (w.trans e)⟩
def sp__law_side (K : PySem.W.Frag) : Sp := fun vs H Q _ => ∃ (p a : Addr) (lo hi : Int), vs = [.ref p, .int lo, .int hi] ∧ DrawAt H p a ∧ lo < hi ∧ hi - lo < 100000 ∧ ∀ z H', lo ≤ z → z ≤ hi → Drew p a H H' → Q (.int z) H'
theorem ok__law_side {P : Program} {w : World} {K : PySem.W.Frag} {mg : Str → Option Value} {base : Heap} {f : Addr} {fd : FuncData} (F : Df K mg "_law_side" s__law_side f fd ["d", "low", "high"]) (T : Txt mg)
    (c__law_draw : Cl P w K mg base 1 "_law_draw" (sp__law_draw K))
    (c__law_pick : Cl P w K mg base 2 "_law_pick" (sp__law_pick K)) : FnOk P w K mg base CX0 3 f fd ["d", "low", "high"] (sp__law_side K) := by
  refine F.ok sc__law_side (fun vs H Q E h => ?_) (fun cdv A outer s H vs Q E hr h => ?_)
  · obtain ⟨p, a, lo, hi, rfl, _⟩ := h
    rfl
  · obtain ⟨p, a, lo, hi, rfl, hd, hlt, hb, q⟩ := h
    refine ⟨_, (pss_cons (ps_if (pt_cmpR op_eq (pe_cl c__law_draw hr (by decide) rfl (pa_cons (pv 0) (pa_cons pe_int pa_nil))) pe_int (nomark _)) (pss_one (ps_ret (pe_cl c__law_pick hr (by decide) rfl (pa_cons (pv 0) (pa_cons (pe_lst (pa_cons (pv 1) (pa_cons (pe_op op_add (pv 1) pe_int) (pa_cons (pe_op op_sub (pv 2) pe_int) (pa_cons (pv 2) pa_nil))))) pa_nil))))) pss_nil)
      (pss_one (ps_ret (pe_op op_add (pv 1) (pe_cl c__law_draw hr (by decide) rfl (pa_cons (pv 0) (pa_cons (pe_op op_add (pe_op op_sub (pv 2) (pv 1)) pe_int) pa_nil))))))), ?_⟩
    try dsimp only [cxOf, Cx.nox, Cx.wish]
    refine st_of (σ' := [some _, some _, some _]) rfl ?_
    wtm_at "jw"
    refine drawL hd.drew (by decide) (by decide) fun z H1 z0 z1 _ w1 => ?_
    wtm_at "jw"
    refine c_dec (fun h => ?_) (fun h => ?_)
    · wtm_at "jw"
      intro B hB
      wtm_at "jw"
      refine pickL (fun z => lo ≤ z ∧ z ≤ hi) [lo, lo + 1, hi - 1, hi] w1 hB rfl (by simp) (by simp) (by simp; omega) fun y H2 hy _ w2 => ?_
      exact q _ _ hy.1 hy.2 w2
    · wtm_at "jw"
      refine drawL w1 (by omega) (by omega) fun y H2 y0 y1 _ w2 => ?_
      wtm_at "jw"
      exact q (lo + y) _ (by omega) (by omega) w2
theorem sideL {K : PySem.W.Frag} {p a : Addr} {lo hi : Int} {H0 H : Hp} {Q : VK} {E : XK} (w : Drew p a H0 H) (h : lo < hi) (hb : hi - lo < 100000) (q : ∀ z H', lo ≤ z → z ≤ hi → Drew p a H H' → Drew p a H0 H' → Q (.int z) H') : sp__law_side K [.ref p, .int lo, .int hi] H Q E :=
  ⟨p, a, lo, hi, rfl, w.at_, h, hb, fun z H' h1 h2 e => q z H' h1 h2 e (w.trans e)⟩
/-! ### layouts -/
abbrev Bd := Str × Int × Int × Int
def bD (b : Bd) : PyData := .tuple [.str b.1, .int b.2.1, .int b.2.2.1, .int b.2.2.2]
def KindOk (s : Str) : Prop := s = "count" ∨ s = "fixed" ∨ s = "flag"
def P1 (d : PyData) : Prop := ∃ (nm kd : Str) (st : Int), KindOk kd ∧ d = .tuple [.str nm, .none, .str kd, .int st]
def P2 (d : PyData) : Prop := ∃ (nm fl kd : Str) (st : Int), d = .tuple [.str nm, .str fl, .str kd, .int st]
def layD (seats : Int) (ks : List Str) (W Hh : Int) (ps : List PyData) (bs : List Bd) : PyData := .tuple [.str "layout", .int seats, .tuple (ks.map PyData.str), .int W, .int Hh, .tuple ps, .tuple (bs.map bD)]
def BsOk (base : Nat) (bs : List Bd) : Prop := ∀ (i : Nat) (b : Bd), bs[i]? = some b → b.2.1 = (base : Int) + 5 * (i : Int) ∧ 1 ≤ b.2.2.1 ∧ b.2.2.1 ≤ 64 ∧ 1 ≤ b.2.2.2 ∧ b.2.2.2 ≤ 64
theorem BsOk.snoc {base : Nat} {bs : List Bd} {b : Bd} (h : BsOk base bs) (h1 : b.2.1 = (base : Int) + 5 * (bs.length : Int)) (h2 : 1 ≤ b.2.2.1 ∧ b.2.2.1 ≤ 64 ∧ 1 ≤ b.2.2.2 ∧ b.2.2.2 ≤ 64) : BsOk base (bs ++ [b]) := fun i c hc => by
  by_cases hi : i < bs.length
  · rw [List.getElem?_append_left hi] at hc
    exact h i c hc
  · rw [List.getElem?_append_right (by omega)] at hc
    cases e : i - bs.length with
    | zero =>
      rw [e] at hc
      cases hc
      exact ⟨by rw [h1]; omega, h2⟩
    | succ k => rw [e] at hc; simp at hc
def Lout (K : PySem.W.Frag) (H : Hp) (v : V) (first : Nat) (seats W Hh : Int) (ks : List Str) (ds1 ds2 : List PyData) (bs : List Bd) : Prop :=
  TD K H v (layD seats ks W Hh (ds1 ++ ds2) bs) ∧ (∀ d ∈ ds1, P1 d) ∧ ds1.length = first ∧ (∀ d ∈ ds2, P2 d) ∧ BsOk (2 + first) bs ∧ 64 ≤ W ∧ W ≤ 2000 ∧ 64 ≤ Hh ∧ Hh ≤ 2000 ∧ ds2.length ≤ 30
theorem all_snoc {α : Type} {P : α → Prop} {l : List α} {x : α} (h : ∀ y ∈ l, P y) (hx : P x) : ∀ y ∈ l ++ [x], P y := fun y hy => by
  rcases List.mem_append.mp hy with hy | hy
  · exact h y hy
  · rw [List.mem_singleton.mp hy]; exact hx
def sp__law_layout (K : PySem.W.Frag) : Sp := fun vs H Q _ => ∃ (p a : Addr) (seats : Int) (first many : Nat), vs = [.ref p, .int seats, .int (first : Int), .int (many : Int)] ∧ DrawAt H p a ∧ first ≤ 12 ∧ many ≤ 6 ∧
  ∀ (v : V) (W Hh : Int) (ks : List Str) (ds1 ds2 : List PyData) (bs : List Bd) (H' : Hp), Drew p a H H' → Lout K H' v first seats W Hh ks ds1 ds2 bs → bs.length = many → Q v H'
theorem ok__law_layout {P : Program} {w : World} {K : PySem.W.Frag} {mg : Str → Option Value} {base : Heap} {f : Addr} {fd : FuncData} (F : Df K mg "_law_layout" s__law_layout f fd ["d", "seats", "first", "many"]) (T : Txt mg)
    (c__law_pool : Cl P w K mg base 1 "_law_pool" (sp__law_pool K))
    (c__law_side : Cl P w K mg base 3 "_law_side" (sp__law_side K))
    (c__law_pop : Cl P w K mg base 2 "_law_pop" (sp__law_pop K))
    (c__law_any_fixed : Cl P w K mg base 2 "_law_any_fixed" (sp__law_any_fixed K))
    (c__law_pick : Cl P w K mg base 2 "_law_pick" (sp__law_pick K))
    (c__law_draw : Cl P w K mg base 1 "_law_draw" (sp__law_draw K)) : FnOk P w K mg base CX0 4 f fd ["d", "seats", "first", "many"] (sp__law_layout K) := by
  refine F.ok sc__law_layout (fun vs H Q E h => ?_) (fun cdv A outer s H vs Q E hr h => ?_)
  · obtain ⟨p, a, seats, first, many, rfl, _⟩ := h
    rfl
  · obtain ⟨p, a, seats, first, many, rfl, d0, f12, m6, q⟩ := h
    refine ⟨_, (pss_cons (ps_set (i := 4) sc__law_layout.nd rfl (Or.inr rfl) (pe_cl0 c__law_pool hr (by decide) rfl))
      (pss_cons (ps_set (i := 5) sc__law_layout.nd rfl (Or.inl rfl) (pe_callTy (T := "tuple") (r := rTupOf K) c_tup (by rfl) T.b_tuple (by decide +kernel) (pa_cons (pe_lc (own := [("k", 6)]) (g := gName 6) (tt := tYes) rfl sc__law_layout.nd (pi_range1 rfl T.b_range (pa_cons (pe_op op_add pe_int (pe_cl c__law_draw hr (by decide) rfl (pa_cons (pv 0) (pa_cons pe_int pa_nil)))) pa_nil)) (blkOk_by (own := [("k", 6)]) (N := N__law_layout) (sc := defScope s__law_layout) (by decide +kernel)) (fun _ _ _ _ _ => (pg_name (i := 6) sc__law_layout.nd rfl (Or.inl rfl))) (fun _ _ _ _ _ => pts_nil) (fun _ _ _ _ _ => (pe_cl c__law_pop hr (by decide) rfl (pa_cons (pv 0) (pa_cons (pv 4) pa_nil))))) pa_nil)))
      (pss_cons (ps_set (i := 7) sc__law_layout.nd rfl (Or.inl rfl) (pe_lst pa_nil))
      (pss_cons (ps_for PassesOwn.never rfl (pi_range1 rfl T.b_range (pa_cons (pv 2) pa_nil)) (pg_name (i := 6) sc__law_layout.nd rfl (Or.inl rfl)) (pss_one (ps_expr (pe_bmK (K := K) rfl PySem.F.plainAttrs_list PySem.F.slot_list_append PySem.F.type_list_append mt_append (pv 7) (pa_cons (pe_tup (pa_cons (pe_cl c__law_pop hr (by decide) rfl (pa_cons (pv 0) (pa_cons (pv 4) pa_nil))) (pa_cons pe_non (pa_cons (pe_cl c__law_pick hr (by decide) rfl (pa_cons (pv 0) (pa_cons (pe_lst (pa_cons pe_str (pa_cons pe_str (pa_cons pe_str pa_nil)))) pa_nil))) (pa_cons (pe_cl c__law_draw hr (by decide) rfl (pa_cons (pv 0) (pa_cons pe_int pa_nil))) pa_nil))))) pa_nil)))))
      (pss_cons (ps_set (i := 8) sc__law_layout.nd rfl (Or.inl rfl) (pe_lst pa_nil))
      (pss_cons (ps_for PassesOwn.never rfl (pi_range1 rfl T.b_range (pa_cons (pv 3) pa_nil)) (pg_name (i := 6) sc__law_layout.nd rfl (Or.inl rfl)) (pss_cons (ps_set (i := 9) sc__law_layout.nd rfl (Or.inl rfl) (pe_cl c__law_pop hr (by decide) rfl (pa_cons (pv 0) (pa_cons (pv 4) pa_nil))))
      (pss_cons (ps_set (i := 10) sc__law_layout.nd rfl (Or.inl rfl) (pe_cl c__law_side hr (by decide) rfl (pa_cons (pv 0) (pa_cons pe_int (pa_cons pe_int pa_nil)))))
      (pss_cons (ps_expr (pe_bmK (K := K) rfl PySem.F.plainAttrs_list PySem.F.slot_list_append PySem.F.type_list_append mt_append (pv 8) (pa_cons (pe_tup (pa_cons (pv 9) (pa_cons (pe_op op_add pe_int (pe_callB (id := "len") (r := qLen K) c_len (by rfl) T.b_len (by decide +kernel) (pa_cons (pv 7) pa_nil))) (pa_cons (pv 10) (pa_cons (pe_cl c__law_side hr (by decide) rfl (pa_cons (pv 0) (pa_cons pe_int (pa_cons pe_int pa_nil)))) pa_nil))))) pa_nil)))
      (pss_cons (ps_set (i := 11) sc__law_layout.nd rfl (Or.inl rfl) (pe_lst (pa_cons (pe_cl c__law_any_fixed hr (by decide) rfl (pa_cons (pv 0) pa_nil)) (pa_cons (pe_cl c__law_any_fixed hr (by decide) rfl (pa_cons (pv 0) pa_nil)) (pa_cons pe_int (pa_cons pe_int (pa_cons pe_int pa_nil)))))))
      (pss_one (ps_for PassesOwn.never rfl (pi_range1 rfl T.b_range (pa_cons pe_int pa_nil)) (pg_name (i := 12) sc__law_layout.nd rfl (Or.inl rfl)) (pss_cons (ps_set (i := 13) sc__law_layout.nd rfl (Or.inl rfl) (pe_ifExp (pt_cmpR op_eq (pv 12) pe_int (nomark _)) pe_str pe_str))
      (pss_one (ps_expr (pe_bmK (K := K) rfl PySem.F.plainAttrs_list PySem.F.slot_list_append PySem.F.type_list_append mt_append (pv 7) (pa_cons (pe_tup (pa_cons (pv 9) (pa_cons (pe_ix (r := rIxL K) ix_list (pe_lst (pa_cons pe_str (pa_cons pe_str (pa_cons pe_str (pa_cons pe_str (pa_cons pe_str pa_nil)))))) (pv 12) (fun _ _ => rfl)) (pa_cons (pv 13) (pa_cons (pe_ix (r := rIxL K) ix_list (pv 11) (pv 12) (fun _ _ => rfl)) pa_nil))))) pa_nil))))))))))))
      (pss_cons (ps_set (i := 10) sc__law_layout.nd rfl (Or.inl rfl) (pe_cl c__law_side hr (by decide) rfl (pa_cons (pv 0) (pa_cons pe_int (pa_cons pe_int pa_nil)))))
      (pss_one (ps_ret (pe_tup (pa_cons pe_str (pa_cons (pv 1) (pa_cons (pv 5) (pa_cons (pv 10) (pa_cons (pe_cl c__law_side hr (by decide) rfl (pa_cons (pv 0) (pa_cons pe_int (pa_cons pe_int pa_nil)))) (pa_cons (pe_callTy (T := "tuple") (r := rTupOf K) c_tup (by rfl) T.b_tuple (by decide +kernel) (pa_cons (pv 7) pa_nil)) (pa_cons (pe_callTy (T := "tuple") (r := rTupOf K) c_tup (by rfl) T.b_tuple (by decide +kernel) (pa_cons (pv 8) pa_nil)) pa_nil))))))))))))))))), ?_⟩
    try dsimp only [cxOf, Cx.nox, Cx.wish]
    refine st_of (σ' := [some _, some _, some _, some _, none, none, none, none, none, none, none, none, none, none]) rfl ?_
    wtm_at "jw"
    refine ⟨rfl, fun N ys H1 s1 hN0 hN1 hyl => ?_⟩
    have w1 := d0.drew.same s1
    have nN := d0.ne_none hN0
    wtm_at "jw"
    refine drawL w1 (by decide) (by decide) fun z1 H2 z10 z11 e w2 => ?_
    have hN2 := e.kp _ _ hN1 nN
    wtm_at "jw"
    intro D hD
    have nD0 := w2.free hD
    have nDN : D ≠ N := (ne_of_none hN2 hD).symm
    refine l_range (fun i H' => Drew p a H H' ∧ ∃ (ks zs : List Str), H' N = some (.lst (zs.map V.str)) ∧ H' D = some (.lst (ks.map V.str)) ∧ ks.length = i ∧ zs.length + i = ys.length) ⟨w2.new hD, [], ys, by rw [upd_ne nDN.symm]; exact hN2, upd_same, rfl, rfl⟩ (fun i H' hi h => ?_) (fun H3 h => ?_)
    · obtain ⟨w3, ks, zs, hN3, hD3, hkl, hzl⟩ := h
      wtm_at "jw"
      refine ⟨rfl, ?_⟩
      wtm_at "jw"
      refine popL w3 d0 hN0 hN3 (by omega) (by omega) fun x zs' H4 kp tp w4 hN4 hzl' => ?_
      have hD4 := kp _ _ hD3 (d0.ne_none nD0) nDN
      refine ⟨_, hD4, small1000 (by rw [List.length_map]; omega), w4.put d0 nD0, ks ++ [x], zs', by rw [upd_ne nDN.symm]; exact hN4, by rw [upd_same, List.map_append]; rfl, by simp [hkl], by omega⟩
    obtain ⟨w3, ks, zs, hN3, hD3, hkl, hzl⟩ := h
    have hzl3 : 57 ≤ zs.length := by omega
    wtm_at "jw"
    intro T hT
    have s4 := same_new (o := .tup (ks.map V.str)) hT
    have hks : TD K (upd H3 T (.tup (ks.map V.str))) (.ref T) (.tuple (ks.map PyData.str)) := TD.new hT (TDs.map fun x _ => .str x)
    have w4 := w3.same s4
    have hN4 := s4 _ _ hN3
    generalize upd H3 T (.tup (ks.map V.str)) = H4 at s4 hks w4 hN4 ⊢
    wtm_at "jw"
    intro PL hPL
    have s5 := same_new (o := .lst []) hPL
    have hP5 : LD K (upd H4 PL (.lst [])) PL [] := .new hPL .nil
    have w5 := w4.same s5
    have hN5 := s5 _ _ hN4
    have hks5 := hks.same s5
    have P0 := w4.free hPL
    have nP := d0.ne_none P0
    have nPN : PL ≠ N := (ne_of_none hN4 hPL).symm
    generalize upd H4 PL (.lst []) = H5 at s5 hP5 w5 hN5 hks5 ⊢
    wtm_at "jw"
    refine f_range (fun i σ H' => Drew p a H H' ∧ TD K H' (.ref T) (.tuple (ks.map PyData.str)) ∧ ∃ (zs : List Str) (ds : List PyData) (v6 : Option V), H' N = some (.lst (zs.map V.str)) ∧ LD K H' PL ds ∧ (∀ d ∈ ds, P1 d) ∧ ds.length = i ∧ 57 ≤ zs.length + i ∧ zs.length ≤ 61 ∧
        σ = [some (.ref p), some (.int seats), some (.int (first : Int)), some (.int (many : Int)), some (.ref N), some (.ref T), v6, some (.ref PL), none, none, none, none, none, none])
      ⟨w5, hks5, zs, [], _, hN5, hP5, by simp, rfl, hzl3, by omega, rfl⟩ (fun i σ H' hi h => ?_) (fun σ H' h => ?_)
    · obtain ⟨w6, hks6, zs, ds, v6, hN6, hP6, hds, hdl, hz1, hz2, rfl⟩ := h
      obtain ⟨us, hus, tus⟩ := hP6
      wtm_at "jw"
      refine popL w6 d0 hN0 hN6 (by omega) (by omega) fun x zs' H7 kp tp w7 hN7 hzl' => ?_
      have hP7 : LD K H7 PL ds := ⟨us, kp _ _ hus nP nPN, tus.tps tp⟩
      have hks7 := hks6.tps tp
      wtm_at "jw"
      intro B hB
      wtm_at "jw"
      refine pickV w7 hB (by simp) (by simp) fun y H8 hy e w8 => ?_
      obtain ⟨kd, rfl, hkd⟩ : ∃ kd : Str, y = .str kd ∧ KindOk kd := by
        simp only [List.mem_cons, List.not_mem_nil, or_false] at hy
        rcases hy with h | h | h
        · exact ⟨_, h, .inl rfl⟩
        · exact ⟨_, h, .inr (.inl rfl)⟩
        · exact ⟨_, h, .inr (.inr rfl)⟩
      have hP8 := hP7.drew w7.at_ e nP
      have hN8 := e.kp _ _ hN7 nN
      have hks8 := hks7.tps (e.tps w7.at_)
      wtm_at "jw"
      refine drawL w8 (by decide) (by decide) fun z H9 z0 z1 e w9 => ?_
      have hP9 := hP8.drew w8.at_ e nP
      have hN9 := e.kp _ _ hN8 nN
      have hks9 := hks8.tps (e.tps w8.at_)
      wtm_at "jw"
      intro u hu
      have su := same_new (o := .tup [.str x, .non, .str kd, .int z]) hu
      have hrow := TD.new (K := K) (xs := [.str x, .non, .str kd, .int z]) hu (.cons (.str _) (.cons .non (.cons (.str _) (.cons (.int _) .nil))))
      have w10 := w9.same su
      obtain ⟨us, hus, tus⟩ := hP9.same su
      have hN10 := su _ _ hN9
      have hks10 := hks9.same su
      have hsz : us.length < sizeLine := small1000 (by have := tus.len; omega)
      generalize upd H9 u (.tup [.str x, .non, .str kd, .int z]) = H10 at su hrow w10 hus tus hN10 hks10 ⊢
      wtm_at "jw"
      exact ⟨w10.put d0 P0, hks10.tps (tps_put hus), zs', _, _, by rw [upd_ne nPN.symm]; exact hN10, LD.snoc hus tus hrow, all_snoc hds ⟨_, _, _, hkd, rfl⟩, by simp [hdl], by omega, by omega, rfl⟩
    obtain ⟨w6, hks6, zs, ds1, v6, hN6, hP6, hds1, hdl1, hz1, hz2, rfl⟩ := h
    rw [Int.toNat_natCast] at hdl1 hz1
    wtm_at "jw"
    intro BL hBL
    have s7 := same_new (o := .lst []) hBL
    have hB7 : LD K (upd H' BL (.lst [])) BL [] := .new hBL .nil
    have w7 := w6.same s7
    have hN7 := s7 _ _ hN6
    have hks7 := hks6.same s7
    have hP7 := hP6.same s7
    have B0 := w6.free hBL
    have nB := d0.ne_none B0
    have nBN : BL ≠ N := (ne_of_none hN6 hBL).symm
    have nPB : PL ≠ BL := by
      obtain ⟨us, hus, _⟩ := hP6
      exact ne_of_none hus hBL
    generalize upd H' BL (.lst []) = H7 at s7 hB7 w7 hN7 hks7 hP7 ⊢
    wtm_at "jw"
    refine f_range (fun i σ H' => Drew p a H H' ∧ TD K H' (.ref T) (.tuple (ks.map PyData.str)) ∧ ∃ (zs : List Str) (ds2 : List PyData) (bs : List Bd) (v6 v9 v10 v11 v12 v13 : Option V), H' N = some (.lst (zs.map V.str)) ∧ LD K H' PL (ds1 ++ ds2) ∧ (∀ d ∈ ds2, P2 d) ∧ ds2.length = 5 * i ∧ LD K H' BL (bs.map bD) ∧ BsOk (2 + first) bs ∧ bs.length = i ∧ 45 ≤ zs.length + i ∧ zs.length ≤ 61 ∧
        σ = [some (.ref p), some (.int seats), some (.int (first : Int)), some (.int (many : Int)), some (.ref N), some (.ref T), v6, some (.ref PL), some (.ref BL), v9, v10, v11, v12, v13])
      ⟨w7, hks7, zs, [], [], _, _, _, _, _, _, hN7, by rw [List.append_nil]; exact hP7, by simp, rfl, hB7, fun i b h => by simp at h, rfl, by omega, by omega, rfl⟩ (fun i σ H' hi h => ?_) (fun σ H' h => ?_)
    · obtain ⟨w8, hks8, zs, ds2, bs, v6, v9, v10, v11, v12, v13, hN8, hP8, hds2, hdl2, hB8, hbs, hbl, hz1, hz2, rfl⟩ := h
      have hi' : i < 6 := by omega
      obtain ⟨us, hus, tus⟩ := hP8
      obtain ⟨bu, hbu, tbu⟩ := hB8
      have usl := tus.len
      rw [List.length_append] at usl
      wtm_at "jw"
      refine popL w8 d0 hN0 hN8 (by omega) (by omega) fun x zs' H9 kp tp w9 hN9 hzl' => ?_
      have hP9 : LD K H9 PL (ds1 ++ ds2) := ⟨us, kp _ _ hus nP nPN, tus.tps tp⟩
      have hB9 : LD K H9 BL (bs.map bD) := ⟨bu, kp _ _ hbu nB nBN, tbu.tps tp⟩
      have hks9 := hks8.tps tp
      wtm_at "jw"
      refine sideL w9 (by decide) (by decide) fun wd H10 wd0 wd1 e w10 => ?_
      have hP10 := hP9.drew w9.at_ e nP
      have hB10 := hB9.drew w9.at_ e nB
      have hN10 := e.kp _ _ hN9 nN
      have hks10 := hks9.tps (e.tps w9.at_)
      obtain ⟨us, hus, tus⟩ := hP10
      have usl : us.length = first + 5 * i := by rw [tus.len, List.length_append]; omega
      obtain ⟨bu, hbu, tbu⟩ := hB10
      wtm_at "jw"
      wtm_at "jw"
      refine sideL w10 (by decide) (by decide) fun hg H11 hg0 hg1 e w11 => ?_
      have hP11 := LD.drew ⟨us, hus, tus⟩ w10.at_ e nP
      have hB11 := LD.drew ⟨bu, hbu, tbu⟩ w10.at_ e nB
      have hN11 := e.kp _ _ hN10 nN
      have hks11 := hks10.tps (e.tps w10.at_)
      rw [usl]
      wtm_at "jw"
      intro u hu
      have su := same_new (o := .tup [.str x, .int (2 + ((first + 5 * i : Nat) : Int)), .int wd, .int hg]) hu
      have hrow : TD K (upd H11 u (.tup [.str x, .int (2 + ((first + 5 * i : Nat) : Int)), .int wd, .int hg])) (.ref u) (bD (x, 2 + ((first + 5 * i : Nat) : Int), wd, hg)) := TD.new hu (.cons (.str _) (.cons (.int _) (.cons (.int _) (.cons (.int _) .nil))))
      have w12 := w11.same su
      have hP12 := hP11.same su
      obtain ⟨bu, hbu, tbu⟩ := hB11.same su
      have hN12 := su _ _ hN11
      have hks12 := hks11.same su
      have hsz : bu.length < sizeLine := small1000 (by have := tbu.len; rw [List.length_map] at this; omega)
      generalize upd H11 u (.tup [.str x, .int (2 + ((first + 5 * i : Nat) : Int)), .int wd, .int hg]) = H12 at su hrow w12 hP12 hbu tbu hN12 hks12 ⊢
      wtm_at "jw"
      have hB13 := LD.snoc hbu tbu hrow
      have hP13 : LD K (upd H12 BL (.lst (bu ++ [V.ref u]))) PL (ds1 ++ ds2) := hP12.kp Kp.upd hbu nPB
      have hN13 : upd H12 BL (.lst (bu ++ [V.ref u])) N = some (.lst (zs'.map V.str)) := by rw [upd_ne nBN.symm]; exact hN12
      have hks13 := hks12.tps (tps_put (ys := bu ++ [V.ref u]) hbu)
      have w13 : Drew p a H (upd H12 BL (.lst (bu ++ [V.ref u]))) := w12.put d0 B0
      generalize upd H12 BL (.lst (bu ++ [V.ref u])) = H13 at hB13 hP13 hN13 hks13 w13 ⊢
      have hB13' : LD K H13 BL ((bs ++ [(x, 2 + ((first + 5 * i : Nat) : Int), wd, hg)]).map bD) := by rw [List.map_append]; exact hB13
      have hbs' : BsOk (2 + first) (bs ++ [(x, 2 + ((first + 5 * i : Nat) : Int), wd, hg)]) := hbs.snoc (by show 2 + ((first + 5 * i : Nat) : Int) = ((2 + first : Nat) : Int) + 5 * (bs.length : Int); omega) ⟨wd0, wd1, hg0, hg1⟩
      refine fixL w13 fun x1 H14 e w14 => ?_
      have hP14 := hP13.drew w13.at_ e nP
      have hB14 := hB13'.drew w13.at_ e nB
      have hN14 := e.kp _ _ hN13 nN
      have hks14 := hks13.tps (e.tps w13.at_)
      wtm_at "jw"
      refine fixL w14 fun x2 H15 e w15 => ?_
      have hP15 := hP14.drew w14.at_ e nP
      have hB15 := hB14.drew w14.at_ e nB
      have hN15 := e.kp _ _ hN14 nN
      have hks15 := hks14.tps (e.tps w14.at_)
      wtm_at "jw"
      intro ST hST
      have s16 := same_new (o := .lst [.int x1, .int x2, .int 0, .int 0, .int 1]) hST
      have hS16 : upd H15 ST (.lst [.int x1, .int x2, .int 0, .int 0, .int 1]) ST = some (.lst (([x1, x2, 0, 0, 1] : List Int).map V.int)) := upd_same
      have w16 := w15.same s16
      have hP16 := hP15.same s16
      have hB16 := hB15.same s16
      have hN16 := s16 _ _ hN15
      have hks16 := hks15.same s16
      have ST0 := w15.free hST
      have nSP : ST ≠ PL := by
        obtain ⟨us, hus, _⟩ := hP15
        exact (ne_of_none hus hST).symm
      generalize upd H15 ST (.lst [.int x1, .int x2, .int 0, .int 0, .int 1]) = H16 at s16 hS16 w16 hP16 hB16 hN16 hks16 ⊢
      wtm_at "jw"
      refine f_range (fun j σ H' => Drew p a H H' ∧ TD K H' (.ref T) (.tuple (ks.map PyData.str)) ∧ H' ST = some (.lst (([x1, x2, 0, 0, 1] : List Int).map V.int)) ∧ ∃ (ds3 : List PyData) (v12 v13 : Option V), H' N = some (.lst (zs'.map V.str)) ∧ LD K H' PL (ds1 ++ ds3) ∧ (∀ d ∈ ds3, P2 d) ∧ ds3.length = 5 * i + j ∧ LD K H' BL ((bs ++ [(x, 2 + ((first + 5 * i : Nat) : Int), wd, hg)]).map bD) ∧
          σ = [some (.ref p), some (.int seats), some (.int (first : Int)), some (.int (many : Int)), some (.ref N), some (.ref T), some (.int (0 + (i : Int))), some (.ref PL), some (.ref BL), some (.str x), some (.int wd), some (.ref ST), v12, v13])
        ⟨w16, hks16, hS16, ds2, _, _, hN16, hP16, hds2, by omega, hB16, rfl⟩ (fun j σ H' hj h => ?_) (fun σ H' h => ?_)
      · obtain ⟨w17, hks17, hS17, ds3, v12, v13, hN17, hP17, hds3, hdl3, hB17, rfl⟩ := h
        have hj' : j < 5 := by omega
        obtain ⟨st, hst⟩ : ∃ st : Int, atI (([x1, x2, 0, 0, 1] : List Int).map V.int) (0 + (j : Int)) = some (.int st) := by
          obtain ⟨v, e, hv, _⟩ := at_lt (xs := ([x1, x2, 0, 0, 1] : List Int).map V.int) (i := 0 + (j : Int)) (by omega) (by simp; omega)
          obtain ⟨z, _, rfl⟩ := List.mem_map.mp hv
          exact ⟨z, e⟩
        obtain ⟨fl, hfl⟩ : ∃ fl : Str, atI [V.str "x", V.str "y", V.str "vx", V.str "vy", V.str "on"] (0 + (j : Int)) = some (.str fl) := by
          obtain ⟨v, e, hv, _⟩ := at_lt (xs := ([("x" : Str), "y", "vx", "vy", "on"] : List Str).map V.str) (i := 0 + (j : Int)) (by omega) (by simp; omega)
          obtain ⟨z, _, rfl⟩ := List.mem_map.mp hv
          exact ⟨z, e⟩
        refine i_gNameE rfl ?_
        refine i_seq ?_
        refine i_asg ?_
        refine i_ifP (fun v => ∃ kd : Str, v = .str kd) (fun R hR => ?_) (fun R hR => ?_) (fun R hR => ?_) fun v hv => ?_
        · wtm_at "jw"
          exact hR _
        · wtm_at "jw"
          exact hR _ ⟨_, rfl⟩
        · wtm_at "jw"
          exact hR _ ⟨_, rfl⟩
        obtain ⟨kd, rfl⟩ := hv
        wtm_at "jw"
        intro B hB
        have sB := same_new (o := .lst [V.str "x", V.str "y", V.str "vx", V.str "vy", V.str "on"]) hB
        have hB18 := upd_same (H := H') (a := B) (o := .lst [V.str "x", V.str "y", V.str "vx", V.str "vy", V.str "on"])
        generalize upd H' B (.lst [V.str "x", V.str "y", V.str "vx", V.str "vy", V.str "on"]) = H18 at sB hB18 ⊢
        have hS18 := sB _ _ hS17
        wtm_at "jw"
        intro u hu
        have su := sB.trans (same_new (o := .tup [.str x, .str fl, .str kd, .int st]) hu)
        have hrow := TD.new (K := K) (xs := [.str x, .str fl, .str kd, .int st]) hu (.cons (.str _) (.cons (.str _) (.cons (.str _) (.cons (.int _) .nil))))
        have w19 := w17.same su
        obtain ⟨us, hus, tus⟩ := hP17.same su
        have hN19 := su _ _ hN17
        have hks19 := hks17.same su
        have hS19 := su _ _ hS17
        have hB19 := hB17.same su
        have hsz : us.length < sizeLine := small1000 (by have := tus.len; rw [List.length_append] at this; omega)
        generalize upd H18 u (.tup [.str x, .str fl, .str kd, .int st]) = H19 at su hrow w19 hus tus hN19 hks19 hS19 hB19 ⊢
        wtm_at "jw"
        refine ⟨w19.put d0 P0, hks19.tps (tps_put hus), by rw [upd_ne nSP]; exact hS19, ds3 ++ [.tuple [.str x, .str fl, .str kd, .int st]], _, _, by rw [upd_ne nPN.symm]; exact hN19, ?_, all_snoc hds3 ⟨_, _, _, _, rfl⟩, by simp; omega, hB19.kp Kp.upd hus nPB.symm, rfl⟩
        rw [← List.append_assoc]
        exact LD.snoc hus tus hrow
      · obtain ⟨w17, hks17, hS17, ds3, v12, v13, hN17, hP17, hds3, hdl3, hB17, rfl⟩ := h
        exact ⟨w17, hks17, zs', ds3, _, _, _, _, _, _, _, hN17, hP17, hds3, by rw [hdl3]; show 5 * i + 5 = 5 * (i + 1); omega, hB17, hbs', by simp [hbl], by omega, by omega, rfl⟩
    · obtain ⟨w8, hks8, zs, ds2, bs, v6, v9, v10, v11, v12, v13, hN8, hP8, hds2, hdl2, hB8, hbs, hbl, hz1, hz2, rfl⟩ := h
      rw [Int.toNat_natCast] at hdl2 hbl
      wtm_at "jw"
      refine sideL w8 (by decide) (by decide) fun W H9 W0 W1 e w9 => ?_
      have hP9 := hP8.drew w8.at_ e nP
      have hB9 := hB8.drew w8.at_ e nB
      have hks9 := hks8.tps (e.tps w8.at_)
      wtm_at "jw"
      refine sideL w9 (by decide) (by decide) fun Hh H10 h0 h1 e w10 => ?_
      obtain ⟨us, hus, tus⟩ := hP9.drew w9.at_ e nP
      have hB10 := hB9.drew w9.at_ e nB
      have hks10 := hks9.tps (e.tps w9.at_)
      wtm_at "jw"
      intro T1 hT1
      have s11 := same_new (o := .tup us) hT1
      have k1 : TD K (upd H10 T1 (.tup us)) (.ref T1) (.tuple (ds1 ++ ds2)) := TD.new hT1 tus
      obtain ⟨bu, hbu, tbu⟩ := hB10.same s11
      have hks11 := hks10.same s11
      have w11 := w10.same s11
      generalize upd H10 T1 (.tup us) = H11 at s11 k1 hbu tbu hks11 w11 ⊢
      wtm_at "jw"
      intro T2 hT2
      have s12 := same_new (o := .tup bu) hT2
      have k2 : TD K (upd H11 T2 (.tup bu)) (.ref T2) (.tuple (bs.map bD)) := TD.new hT2 tbu
      have k1' := k1.same s12
      have hks12 := hks11.same s12
      have w12 := w11.same s12
      generalize upd H11 T2 (.tup bu) = H12 at s12 k2 k1' hks12 w12 ⊢
      wtm_at "jw"
      intro R hR
      exact q _ W Hh ks ds1 ds2 bs _ (w12.new hR) ⟨TD.new hR (.cons (.str _) (.cons (.int _) (.cons hks12 (.cons (.int _) (.cons (.int _) (.cons k1' (.cons k2 .nil))))))), hds1, hdl1, hds2, hbs, W0, W1, h0, h1, by omega⟩ hbl
/-! ### states -/
def sp__law_axis (K : PySem.W.Frag) : Sp := fun vs H Q _ => ∃ (p a : Addr) (most : Int), vs = [.ref p, .int most] ∧ DrawAt H p a ∧ 0 ≤ most ∧ most ≤ 100000 ∧ ∀ r x y H', Drew p a H H' → H' r = some (.lst [.int x, .int y]) → H r = none → Q (.ref r) H'
theorem ok__law_axis {P : Program} {w : World} {K : PySem.W.Frag} {mg : Str → Option Value} {base : Heap} {f : Addr} {fd : FuncData} (F : Df K mg "_law_axis" s__law_axis f fd ["d", "most"]) (T : Txt mg)
    (c__law_draw : Cl P w K mg base 1 "_law_draw" (sp__law_draw K))
    (c__law_pick : Cl P w K mg base 2 "_law_pick" (sp__law_pick K))
    (c__law_any_fixed : Cl P w K mg base 2 "_law_any_fixed" (sp__law_any_fixed K)) : FnOk P w K mg base CX0 3 f fd ["d", "most"] (sp__law_axis K) := by
  refine F.ok sc__law_axis (fun vs H Q E h => ?_) (fun cdv A outer s H vs Q E hr h => ?_)
  · obtain ⟨p, a, most, rfl, _⟩ := h
    rfl
  · obtain ⟨p, a, most, rfl, d0, m0, m1, q⟩ := h
    refine ⟨_, (pss_cons (ps_set (i := 2) sc__law_axis.nd rfl (Or.inl rfl) (pe_cl c__law_draw hr (by decide) rfl (pa_cons (pv 0) (pa_cons pe_int pa_nil))))
      (pss_cons (ps_if (pt_cmpR op_eq (pv 2) pe_int (nomark _)) (pss_one (ps_ret (pe_lst (pa_cons (pe_cl c__law_any_fixed hr (by decide) rfl (pa_cons (pv 0) pa_nil)) (pa_cons (pe_cl c__law_any_fixed hr (by decide) rfl (pa_cons (pv 0) pa_nil)) pa_nil))))) pss_nil)
      (pss_cons (ps_if (pt_cmpR op_eq (pv 2) pe_int (nomark _)) (pss_cons (ps_set (i := 3) sc__law_axis.nd rfl (Or.inl rfl) (pe_cl c__law_pick hr (by decide) rfl (pa_cons (pv 0) (pa_cons (pe_lst (pa_cons pe_int (pa_cons pe_int (pa_cons (pe_un un_neg pe_int) (pa_cons (pe_un un_neg pe_int) (pa_cons pe_int (pa_cons (pv 1) pa_nil))))))) pa_nil))))
      (pss_one (ps_ret (pe_lst (pa_cons (pv 3) (pa_cons (pe_cl c__law_pick hr (by decide) rfl (pa_cons (pv 0) (pa_cons (pe_lst (pa_cons pe_int (pa_cons (pe_un un_neg pe_int) (pa_cons pe_int (pa_cons (pe_un un_neg pe_int) (pa_cons pe_int (pa_cons (pe_un un_neg pe_int) (pa_cons pe_int pa_nil)))))))) pa_nil))) pa_nil)))))) pss_nil)
      (pss_cons (ps_set (i := 4) sc__law_axis.nd rfl (Or.inl rfl) (pe_cl c__law_draw hr (by decide) rfl (pa_cons (pv 0) (pa_cons (pe_op op_add (pv 1) pe_int) pa_nil))))
      (pss_cons (ps_set (i := 5) sc__law_axis.nd rfl (Or.inl rfl) (pe_op op_sub (pe_cl c__law_draw hr (by decide) rfl (pa_cons (pv 0) (pa_cons pe_int pa_nil))) pe_int))
      (pss_cons (ps_if (pt_cmpR op_eq (pv 2) pe_int (nomark _)) (pss_one (ps_set (i := 4) sc__law_axis.nd rfl (Or.inl rfl) (pe_op op_sub (pe_cl c__law_draw hr (by decide) rfl (pa_cons (pv 0) (pa_cons pe_int pa_nil))) pe_int))) (pss_one (ps_if (pt_cmpR op_eq (pv 2) pe_int (nomark _)) (pss_one (ps_set (i := 4) sc__law_axis.nd rfl (Or.inl rfl) (pe_op op_sub (pe_op op_add (pv 1) (pe_cl c__law_draw hr (by decide) rfl (pa_cons (pv 0) (pa_cons pe_int pa_nil)))) pe_int))) (pss_one (ps_if (pt_cmpR op_eq (pv 2) pe_int (nomark _)) (pss_one (ps_set (i := 5) sc__law_axis.nd rfl (Or.inl rfl) pe_int)) pss_nil)))))
      (pss_one (ps_ret (pe_lst (pa_cons (pe_op op_sub (pv 4) (pv 5)) (pa_cons (pv 5) pa_nil))))))))))), ?_⟩
    try dsimp only [cxOf, Cx.nox, Cx.wish]
    refine st_of (σ' := [some _, some _, none, none, none, none]) rfl ?_
    wtm_at "jw"
    refine drawL d0.drew (by decide) (by decide) fun way H1 y0 y1 _ w1 => ?_
    wtm_at "jw"
    refine c_dec (fun h => ?_) (fun h => ?_)
    · wtm_at "jw"
      refine fixL w1 fun x1 H2 _ w2 => ?_
      wtm_at "jw"
      refine fixL w2 fun x2 H3 _ w3 => ?_
      wtm_at "jw"
      intro r hr'
      exact q r x1 x2 _ (w3.new hr') upd_same (w3.free hr')
    · wtm_at "jw"
      refine c_dec (fun h2 => ?_) (fun h2 => ?_)
      · wtm_at "jw"
        intro B hB
        wtm_at "jw"
        refine pickL (fun _ => True) [32767, 32760, -32768, -32760, 0, most] w1 hB rfl (by simp) (by simp) (by simp) fun x1 H2 _ _ w2 => ?_
        wtm_at "jw"
        intro B2 hB2
        wtm_at "jw"
        refine pickL (fun _ => True) [32767, -32768, 9, -9, 1, -1, 0] w2 hB2 rfl (by simp) (by simp) (by simp) fun x2 H3 _ _ w3 => ?_
        wtm_at "jw"
        intro r hr'
        exact q r x1 x2 _ (w3.new hr') upd_same (w3.free hr')
      · wtm_at "jw"
        refine drawL w1 (by omega) (by omega) fun g H2 _ _ _ w2 => ?_
        wtm_at "jw"
        refine drawL w2 (by decide) (by decide) fun sp H3 _ _ _ w3 => ?_
        wtm_at "js"
        refine i_ifC (fun σ' H' => Drew p a H H' ∧ ∃ g sp : Int, σ' = [some (.ref p), some (.int most), some (.int way), none, some (.int g), some (.int sp)]) (fun σ' H' h => ?_) (fun N hN => ?_)
        · obtain ⟨w4, g, sp, rfl⟩ := h
          wtm_at "jw"
          intro r hr'
          exact q r _ _ _ (w4.new hr') upd_same (w4.free hr')
        · wtm_at "jw"
          refine c_dec (fun h3 => ?_) (fun h3 => ?_)
          · wtm_at "jw"
            refine drawL w3 (by decide) (by decide) fun x H4 _ _ _ w4 => ?_
            wtm_at "jw"
            exact hN _ _ ⟨w4, _, _, rfl⟩
          · wtm_at "jw"
            refine c_dec (fun h4 => ?_) (fun h4 => ?_)
            · wtm_at "jw"
              refine drawL w3 (by decide) (by decide) fun x H4 _ _ _ w4 => ?_
              wtm_at "jw"
              exact hN _ _ ⟨w4, _, _, rfl⟩
            · wtm_at "jw"
              refine c_dec (fun h5 => ?_) (fun h5 => ?_)
              · wtm_at "jw"
                exact hN _ _ ⟨w3, _, _, rfl⟩
              · wtm_at "jw"
                exact hN _ _ ⟨w3, _, _, rfl⟩
def sp__law_state_of (K : PySem.W.Frag) : Sp := fun vs H Q _ => ∃ (p a : Addr) (x : V) (first : Nat) (seats W Hh : Int) (ks : List Str) (ds1 ds2 : List PyData) (bs : List Bd), vs = [.ref p, x] ∧ DrawAt H p a ∧ Lout K H x first seats W Hh ks ds1 ds2 bs ∧ bs.length ≤ 6 ∧ first ≤ 12 ∧
  ∀ v (xs : List Int) H', Drew p a H H' → TD K H' v (.tuple (xs.map PyData.int)) → xs.length = 2 + first + 5 * bs.length → Q v H'
theorem ok__law_state_of {P : Program} {w : World} {K : PySem.W.Frag} {mg : Str → Option Value} {base : Heap} {f : Addr} {fd : FuncData} (F : Df K mg "_law_state_of" s__law_state_of f fd ["d", "layout"]) (T : Txt mg)
    (c__law_draw : Cl P w K mg base 1 "_law_draw" (sp__law_draw K))
    (c__law_axis : Cl P w K mg base 3 "_law_axis" (sp__law_axis K)) : FnOk P w K mg base CX0 4 f fd ["d", "layout"] (sp__law_state_of K) := by
  refine F.ok sc__law_state_of (fun vs H Q E h => ?_) (fun cdv A outer s H vs Q E hr h => ?_)
  · obtain ⟨p, a, x, first, seats, W, Hh, ks, ds1, ds2, bs, rfl, _⟩ := h
    rfl
  · obtain ⟨p, a, x, first, seats, W, Hh, ks, ds1, ds2, bs, rfl, d0, ⟨hx, hp1, hl1, hp2, hbs, W0, W1, h0, h1, hl2⟩, b6, f12, q⟩ := h
    have hu := hu_of hr
    refine ⟨_, (pss_cons (ps_set (i := 2) sc__law_state_of.nd rfl (Or.inl rfl) (pe_lst (pa_cons (pe_cl c__law_draw hr (by decide) rfl (pa_cons (pv 0) (pa_cons pe_int pa_nil))) (pa_cons pe_int pa_nil))))
      (pss_cons (ps_for PassesOwn.never rfl (pi_tup (pe_ix (r := rIxT K) ix_tup (pv 1) pe_int (fun _ _ => rfl))) (pg_tupK (K := K) rfl rfl (pgs_cons (pg_name (i := 3) sc__law_state_of.nd rfl (Or.inl rfl)) (pgs_cons (pg_name (i := 4) sc__law_state_of.nd rfl (Or.inl rfl)) (pgs_cons (pg_name (i := 5) sc__law_state_of.nd rfl (Or.inl rfl)) (pgs_cons (pg_name (i := 6) sc__law_state_of.nd rfl (Or.inl rfl)) pgs_nil))))) (pss_one (ps_if (pt_cmpR o_isN (pv 4) pe_non (nomark _)) (pss_cons (ps_asg (pe_dget hu (pe_disp (pps_cons pe_str (pe_tup (pa_cons pe_int (pa_cons pe_int pa_nil))) (pps_cons pe_str (pe_tup (pa_cons (pe_un un_neg pe_int) (pa_cons pe_int pa_nil))) (pps_cons pe_str (pe_tup (pa_cons pe_int (pa_cons pe_int pa_nil))) pps_nil))) (by rfl) (by rfl) (fun z => by cases z) (by decide)) (pv 5) (fun _ _ => rfl)) (pg_tupK (K := K) rfl rfl (pgs_cons (pg_name (i := 7) sc__law_state_of.nd rfl (Or.inl rfl)) (pgs_cons (pg_name (i := 8) sc__law_state_of.nd rfl (Or.inl rfl)) pgs_nil))))
      (pss_one (ps_expr (pe_bmK (K := K) rfl PySem.F.plainAttrs_list PySem.F.slot_list_append PySem.F.type_list_append mt_append (pv 2) (pa_cons (pe_op op_add (pv 7) (pe_cl c__law_draw hr (by decide) rfl (pa_cons (pv 0) (pa_cons (pe_op op_add (pe_op op_sub (pv 8) (pv 7)) pe_int) pa_nil)))) pa_nil))))) pss_nil)))
      (pss_cons (ps_for PassesOwn.never rfl (pi_tup (pe_ix (r := rIxT K) ix_tup (pv 1) pe_int (fun _ _ => rfl))) (pg_tupK (K := K) rfl rfl (pgs_cons (pg_name (i := 3) sc__law_state_of.nd rfl (Or.inl rfl)) (pgs_cons (pg_name (i := 9) sc__law_state_of.nd rfl (Or.inl rfl)) (pgs_cons (pg_name (i := 10) sc__law_state_of.nd rfl (Or.inl rfl)) (pgs_cons (pg_name (i := 11) sc__law_state_of.nd rfl (Or.inl rfl)) pgs_nil))))) (pss_cons (ps_set (i := 12) sc__law_state_of.nd rfl (Or.inl rfl) (pe_cl c__law_axis hr (by decide) rfl (pa_cons (pv 0) (pa_cons (pe_op op_mul pe_int (pe_op op_sub (pe_ix (r := rIxT K) ix_tup (pv 1) pe_int (fun _ _ => rfl)) (pv 10))) pa_nil))))
      (pss_cons (ps_set (i := 13) sc__law_state_of.nd rfl (Or.inl rfl) (pe_cl c__law_axis hr (by decide) rfl (pa_cons (pv 0) (pa_cons (pe_op op_mul pe_int (pe_op op_sub (pe_ix (r := rIxT K) ix_tup (pv 1) pe_int (fun _ _ => rfl)) (pv 11))) pa_nil))))
      (pss_one (ps_set (i := 2) sc__law_state_of.nd rfl (Or.inl rfl) (pe_op op_cat (pv 2) (pe_lst (pa_cons (pe_ix (r := rIxL K) ix_list (pv 12) pe_int (fun _ _ => rfl)) (pa_cons (pe_ix (r := rIxL K) ix_list (pv 13) pe_int (fun _ _ => rfl)) (pa_cons (pe_ix (r := rIxL K) ix_list (pv 12) pe_int (fun _ _ => rfl)) (pa_cons (pe_ix (r := rIxL K) ix_list (pv 13) pe_int (fun _ _ => rfl)) (pa_cons (pe_callTy (T := "int") c_int (by rfl) T.b_int (by decide +kernel) (pa_cons (pe_cmpR op_gt (pe_cl c__law_draw hr (by decide) rfl (pa_cons (pv 0) (pa_cons pe_int pa_nil))) pe_int (nomark _)) pa_nil)) pa_nil))))))))))))
      (pss_one (ps_ret (pe_callTy (T := "tuple") (r := rTupOf K) c_tup (by rfl) T.b_tuple (by decide +kernel) (pa_cons (pv 2) pa_nil))))))), ?_⟩
    try dsimp only [cxOf, Cx.nox, Cx.wish]
    refine st_of (σ' := [some _, some _, none, none, none, none, none, none, none, none, none, none, none, none]) rfl ?_
    wtm_at "jw"
    have hx' := hx
    unfold layD at hx'
    wtm_at "jw"
    refine drawL d0.drew (by decide) (by decide) fun z1 H1 _ _ _ w1 => ?_
    wtm_at "jw"
    intro F hF
    have w2 := w1.new (o := .lst [.int z1, .int 0]) hF
    have F0 := w1.free hF
    have nF := d0.ne_none F0
    have hF2 : upd H1 F (.lst [.int z1, .int 0]) F = some (.lst (([z1, 0] : List Int).map V.int)) := upd_same
    generalize upd H1 F (.lst [.int z1, .int 0]) = H2 at w2 hF2 ⊢
    have hx2 := hx.tps (w2.tps d0)
    have hxx := hx2
    unfold layD at hxx
    wtm_at "jw"
    refine i_isTD (by assumption) fun pa ps eps hpS hpT => ?_
    refine f_tup (xs := ps) (fun i σ H' => Drew p a H H' ∧ Tps H2 H' ∧ ∃ (xs : List Int) (v3 v4 v5 v6 v7 v8 : Option V), H' F = some (.lst (xs.map V.int)) ∧ xs.length = 2 + min i first ∧ σ = [some (.ref p), some x, some (.ref F), v3, v4, v5, v6, v7, v8, none, none, none, none, none])
      ⟨w2, Tps.refl, [z1, 0], none, none, none, none, none, none, hF2, by simp, rfl⟩ (fun i σ H' _ h => h.2.1.sq hpS) (fun i y σ H' hi h => ?_) (fun σ H' h => ?_)
    · obtain ⟨w3, tp, xs, v3, v4, v5, v6, v7, v8, hF3, hxl, rfl⟩ := h
      obtain ⟨d, hd, hyd, _, hlt⟩ := (hpT.tps tp).at hi
      by_cases hif : i < first
      · rw [List.getElem?_append_left (by omega)] at hd
        obtain ⟨nm, kd, st, hkd, rfl⟩ := hp1 d (List.mem_of_getElem? hd)
        wtm_at "jw"
        refine i_gTupD hyd rfl fun zs hzs => ?_
        rcases hzs with _ | ⟨k1, _ | ⟨k2, _ | ⟨k3, _ | ⟨k4, _ | _⟩⟩⟩⟩
        obtain rfl := k1.str_inv
        obtain rfl := k2.non_inv
        obtain rfl := k3.str_inv
        obtain rfl := k4.int_inv
        wtm_at "jw"
        refine c_yes rfl ?_
        wtm_at "jw"
        refine i_dget ?_
        refine i_disp fun R hR => ?_
        have w4 := w3.new (o := .dK []) hR
        have hR4 := upd_same (H := H') (a := R) (o := .dK [])
        have hF4 := same_new (o := .dK []) hR _ _ hF3
        have tp4 := tp.trans (Tps.of (same_new (o := .dK []) hR))
        have R0 := w3.free hR
        generalize upd H' R (.dK []) = H4 at w4 hR4 hF4 tp4 ⊢
        wtm_at "jw"
        intro A1 hA1
        have w5 := w4.new (o := .tup [.int 0, .int 255]) hA1
        have s5 := same_new (o := .tup [.int 0, .int 255]) hA1
        have hA5 : upd H4 A1 (.tup [.int 0, .int 255]) A1 = some (.tup [.int 0, .int 255]) := upd_same
        have hR5 := s5 _ _ hR4
        have hF5 := s5 _ _ hF4
        have tp5 := tp4.trans (Tps.of s5)
        generalize upd H4 A1 (.tup [.int 0, .int 255]) = H5 at w5 s5 hA5 hR5 hF5 tp5 ⊢
        wtm_at "jw"
        intro A2 hA2
        have w6 := w5.new (o := .tup [.int (-32768), .int 32767]) hA2
        have s6 := same_new (o := .tup [.int (-32768), .int 32767]) hA2
        have hB6 : upd H5 A2 (.tup [.int (-32768), .int 32767]) A2 = some (.tup [.int (-32768), .int 32767]) := upd_same
        have hA6 := s6 _ _ hA5
        have hR6 := s6 _ _ hR5
        have hF6 := s6 _ _ hF5
        have tp6 := tp5.trans (Tps.of s6)
        generalize upd H5 A2 (.tup [.int (-32768), .int 32767]) = H6 at w6 s6 hB6 hA6 hR6 hF6 tp6 ⊢
        wtm_at "jw"
        intro A3 hA3
        have w7 := w6.new (o := .tup [.int 0, .int 1]) hA3
        have s7 := same_new (o := .tup [.int 0, .int 1]) hA3
        have hC7 : upd H6 A3 (.tup [.int 0, .int 1]) A3 = some (.tup [.int 0, .int 1]) := upd_same
        have hB7 := s7 _ _ hB6
        have hA7 := s7 _ _ hA6
        have hR7 := s7 _ _ hR6
        have hF7 := s7 _ _ hF6
        have tp7 := tp6.trans (Tps.of s7)
        generalize upd H6 A3 (.tup [.int 0, .int 1]) = H7 at w7 s7 hC7 hB7 hA7 hR7 hF7 tp7 ⊢
        wtm_at "jw"
        refine ⟨hR7, [(.inr "count", .ref A1), (.inr "fixed", .ref A2), (.inr "flag", .ref A3)], rfl, by simp, ?_⟩
        have nFR : F ≠ R := ne_of hF7 hR7 (by intro z; cases z)
        have keep : ∀ b xs, H7 b = some (.tup xs) → upd H7 R (.dK (mergeK [] [(.inr "count", .ref A1), (.inr "fixed", .ref A2), (.inr "flag", .ref A3)])) b = some (.tup xs) := fun b xs e => by
          rw [upd_ne (ne_of e hR7 (by intro z; cases z))]; exact e
        have hA8 := keep _ _ hA7
        have hB8 := keep _ _ hB7
        have hC8 := keep _ _ hC7
        have hF8 : upd H7 R (.dK (mergeK [] [(.inr "count", .ref A1), (.inr "fixed", .ref A2), (.inr "flag", .ref A3)])) F = some (.lst (xs.map V.int)) := by rw [upd_ne nFR]; exact hF7
        have w8 : Drew p a H (upd H7 R (.dK (mergeK [] [(.inr "count", .ref A1), (.inr "fixed", .ref A2), (.inr "flag", .ref A3)]))) := w7.put d0 R0
        have tp8 : Tps H2 (upd H7 R (.dK (mergeK [] [(.inr "count", .ref A1), (.inr "fixed", .ref A2), (.inr "flag", .ref A3)]))) := tp7.trans fun c => ⟨fun zs h => keep c zs h, fun o zs h => by rw [upd_ne (ne_of h hR7 (by intro z; cases z))]; exact h⟩
        have hR8 : upd H7 R (.dK (mergeK [] [(.inr "count", .ref A1), (.inr "fixed", .ref A2), (.inr "flag", .ref A3)])) R = some (.dK [(.inr "count", .ref A1), (.inr "fixed", .ref A2), (.inr "flag", .ref A3)]) := by rw [upd_same]; rfl
        generalize upd H7 R (.dK (mergeK [] [(.inr "count", .ref A1), (.inr "fixed", .ref A2), (.inr "flag", .ref A3)])) = H8 at hA8 hB8 hC8 hF8 w8 tp8 hR8 ⊢
        obtain ⟨t, lo, hi, ht, htv, hlh⟩ : ∃ (t : Addr) (lo hi : Int), valV [(.inr "count", .ref A1), (.inr "fixed", .ref A2), (.inr "flag", .ref A3)] (.inr kd : L2.Key) = some (.ref t) ∧ H8 t = some (.tup [.int lo, .int hi]) ∧ lo ≤ hi ∧ hi - lo ≤ 65535 := by
          rcases hkd with rfl | rfl | rfl
          · exact ⟨A1, 0, 255, rfl, hA8, by decide⟩
          · exact ⟨A2, -32768, 32767, rfl, hB8, by decide⟩
          · exact ⟨A3, 0, 1, rfl, hC8, by decide⟩
        wtm_at "jw"
        refine i_dgetS (.inl hR8) ht ?_
        wtm_at "jw"
        refine drawL w8 (by omega) (by omega) fun z H9 _ _ e w9 => ?_
        have hF9 := e.kp _ _ hF8 nF
        have tp9 := tp8.trans (e.tps w8.at_)
        have hsz : (xs.map V.int).length < sizeLine := small1000 (by rw [List.length_map]; omega)
        wtm_at "jw"
        exact ⟨w9.put d0 F0, tp9.trans (tps_put hF9), xs ++ [lo + z], _, _, _, _, _, _, by rw [upd_same, List.map_append]; rfl, by rw [List.length_append, hxl]; simp; omega, rfl⟩
      · rw [List.getElem?_append_right (by omega)] at hd
        obtain ⟨nm, fl, kd, st, rfl⟩ := hp2 d (List.mem_of_getElem? hd)
        wtm_at "jw"
        refine i_gTupD hyd rfl fun zs hzs => ?_
        rcases hzs with _ | ⟨k1, _ | ⟨k2, _ | ⟨k3, _ | ⟨k4, _ | _⟩⟩⟩⟩
        obtain rfl := k1.str_inv
        obtain rfl := k2.str_inv
        obtain rfl := k3.str_inv
        obtain rfl := k4.int_inv
        wtm_at "jw"
        refine c_no (fun h => by cases h) ?_
        wtm_at "jw"
        exact ⟨w3, tp, xs, _, _, _, _, _, _, hF3, by omega, rfl⟩
    · obtain ⟨w3, tp, xs, v3, v4, v5, v6, v7, v8, hF3, hxl, rfl⟩ := h
      have hplen : ps.length = ds1.length + ds2.length := by rw [hpT.len, List.length_append]
      have hx3 := hxx.tps tp
      wtm_at "jw"
      refine i_isTD (by assumption) fun ba bys eb hbS hbT => ?_
      refine f_tup (xs := bys) (fun i σ H2' => Drew p a H H2' ∧ Tps H' H2' ∧ ∃ (G : Addr) (xs : List Int) (v3 v4 v5 v6 v7 v8 v9 v10 v11 v12 v13 : Option V), H2' G = some (.lst (xs.map V.int)) ∧ H G = none ∧ xs.length = 2 + first + 5 * i ∧ σ = [some (.ref p), some x, some (.ref G), v3, v4, v5, v6, v7, v8, v9, v10, v11, v12, v13])
        ⟨w3, Tps.refl, F, xs, v3, v4, v5, v6, v7, v8, none, none, none, none, none, hF3, F0, by omega, rfl⟩ (fun i σ H' _ h => h.2.1.sq hbS) (fun i y σ H4 hi h => ?_) (fun σ H4 h => ?_)
      · obtain ⟨w4, tp4, G, xs, v3, v4, v5, v6, v7, v8, v9, v10, v11, v12, v13, hG4, G0, hxl, rfl⟩ := h
        obtain ⟨d, hd, hyd, _, hlt⟩ := (hbT.tps tp4).at hi
        rw [List.getElem?_map] at hd
        obtain ⟨b, hb, rfl⟩ : ∃ b, bs[i]? = some b ∧ d = bD b := by
          cases e : bs[i]? with
          | none => rw [e] at hd; cases hd
          | some b => rw [e] at hd; exact ⟨b, rfl, (Option.some.inj hd).symm⟩
        obtain ⟨b1, b2, b3, b4, b5⟩ := hbs i b hb
        rw [List.length_map] at hlt
        have nG := d0.ne_none G0
        have hx4 := hx3.tps tp4
        wtm_at "jw"
        refine i_gTupD (ds := [.str b.1, .int b.2.1, .int b.2.2.1, .int b.2.2.2]) hyd rfl fun zs hzs => ?_
        rcases hzs with _ | ⟨k1, _ | ⟨k2, _ | ⟨k3, _ | ⟨k4, _ | _⟩⟩⟩⟩
        obtain rfl := k1.str_inv
        obtain rfl := k2.int_inv
        obtain rfl := k3.int_inv
        obtain rfl := k4.int_inv
        wtm_at "jw"
        refine ⟨p, a, _, rfl, w4.at_, by omega, by omega, fun r1 x1 y1 H5 e5 hr5 nr1 => ?_⟩
        have w5 := w4.trans e5
        have hG5 := e5.kp _ _ hG4 nG
        have tp5 := tp4.trans (e5.tps w4.at_)
        have hx5 := hx3.tps tp5
        have nr1p := d0.ne_none (w4.free nr1)
        wtm_at "jw"
        refine ⟨p, a, _, rfl, w5.at_, by omega, by omega, fun r2 x2 y2 H6 e6 hr6 nr2 => ?_⟩
        have w6 := w5.trans e6
        have hG6 := e6.kp _ _ hG5 nG
        have tp6 := tp5.trans (e6.tps w5.at_)
        have hr5' := e6.kp _ _ hr5 nr1p
        have nr2p := d0.ne_none (w5.free nr2)
        have a10 : atI [V.int x1, V.int y1] 0 = some (.int x1) := atI_nat (xs := [V.int x1, V.int y1]) (j := 0) rfl
        have a11 : atI [V.int x1, V.int y1] 1 = some (.int y1) := atI_nat (xs := [V.int x1, V.int y1]) (j := 1) rfl
        have a20 : atI [V.int x2, V.int y2] 0 = some (.int x2) := atI_nat (xs := [V.int x2, V.int y2]) (j := 0) rfl
        have a21 : atI [V.int x2, V.int y2] 1 = some (.int y2) := atI_nat (xs := [V.int x2, V.int y2]) (j := 1) rfl
        wtm_at "jw"
        refine drawL w6 (by decide) (by decide) fun z H7 _ _ e7 w7 => ?_
        have hG7 := e7.kp _ _ hG6 nG
        have tp7 := tp6.trans (e7.tps w6.at_)
        wtm_at "jw"
        intro L hL
        have w8 := w7.new (o := .lst [.int x1, .int x2, .int y1, .int y2, .int (if decide (z > 0) = true then 1 else 0)]) hL
        have s8 := same_new (o := .lst [.int x1, .int x2, .int y1, .int y2, .int (if decide (z > 0) = true then 1 else 0)]) hL
        have hL8 : upd H7 L (.lst [.int x1, .int x2, .int y1, .int y2, .int (if decide (z > 0) = true then 1 else 0)]) L = some (.lst (([x1, x2, y1, y2, if decide (z > 0) = true then 1 else 0] : List Int).map V.int)) := upd_same
        have hG8 := s8 _ _ hG7
        have tp8 := tp7.trans (Tps.of s8)
        generalize upd H7 L (.lst [.int x1, .int x2, .int y1, .int y2, .int (if decide (z > 0) = true then 1 else 0)]) = H8 at w8 s8 hL8 hG8 tp8 ⊢
        wtm_at "jw"
        refine i_cat' hG8 hL8 (by rw [List.length_map, List.length_map]; simp; omega) fun R H9 keep nR hR9 => ?_
        wtm_at "jw"
        exact ⟨w8.same keep, tp8.trans (Tps.of keep), R, xs ++ [x1, x2, y1, y2, if decide (z > 0) = true then 1 else 0], _, _, _, _, _, _, _, _, _, _, _, by rw [hR9, List.map_append], w8.free nR, by rw [List.length_append, hxl]; simp; omega, rfl⟩
      · obtain ⟨w4, tp4, G, xs, v3, v4, v5, v6, v7, v8, v9, v10, v11, v12, v13, hG4, G0, hxl, rfl⟩ := h
        rw [hbT.len, List.length_map] at hxl
        wtm_at "jw"
        intro r hr'
        exact q _ xs _ (w4.new hr') (TD.new hr' (TDs.ints xs)) hxl
/-! ### moves -/
def hol (lo n hi : Int) : Int := if hi < (if lo > n then lo else n) then hi else (if lo > n then lo else n)
def xg (xs : List Int) (i : Nat) : Int := xs[i]?.getD 0
def mvB (W Hh : Int) (xs : List Int) (b : Bd) (k : Nat) (acc : List Int × List Nat) : List Int × List Nat :=
  if xg xs (b.2.1.toNat + 4) = 1 then
    ((acc.1.set b.2.1.toNat (hol 0 (hol (-32768) (xg xs b.2.1.toNat + xg xs (b.2.1.toNat + 2)) 32767) (16 * (W - b.2.2.1)))).set (b.2.1.toNat + 1) (hol 0 (hol (-32768) (xg xs (b.2.1.toNat + 1) + xg xs (b.2.1.toNat + 3)) 32767) (16 * (Hh - b.2.2.2))),
      if hol 0 (hol (-32768) (xg xs b.2.1.toNat + xg xs (b.2.1.toNat + 2)) 32767) (16 * (W - b.2.2.1)) = hol (-32768) (xg xs b.2.1.toNat + xg xs (b.2.1.toNat + 2)) 32767 ∧
        hol 0 (hol (-32768) (xg xs (b.2.1.toNat + 1) + xg xs (b.2.1.toNat + 3)) 32767) (16 * (Hh - b.2.2.2)) = hol (-32768) (xg xs (b.2.1.toNat + 1) + xg xs (b.2.1.toNat + 3)) 32767 then acc.2 else acc.2 ++ [k])
  else acc
def mvs (W Hh : Int) (xs : List Int) (bs : List Bd) : Nat → List Int × List Nat
  | 0 => (xs, [])
  | k + 1 => match bs[k]? with
    | some b => mvB W Hh xs b k (mvs W Hh xs bs k)
    | none => mvs W Hh xs bs k
theorem mvs_len (W Hh : Int) (xs : List Int) (bs : List Bd) : ∀ k, (mvs W Hh xs bs k).1.length = xs.length
  | 0 => rfl
  | k + 1 => by
    have ih := mvs_len W Hh xs bs k
    rw [mvs]
    split
    · unfold mvB
      split
      · simp [ih]
      · exact ih
    · exact ih
theorem mvs_hits (W Hh : Int) (xs : List Int) (bs : List Bd) : ∀ k, (∀ u ∈ (mvs W Hh xs bs k).2, u < k) ∧ (mvs W Hh xs bs k).2.length ≤ k
  | 0 => ⟨by simp [mvs], by simp [mvs]⟩
  | k + 1 => by
    obtain ⟨h1, h2⟩ := mvs_hits W Hh xs bs k
    have plain : (∀ u ∈ (mvs W Hh xs bs k).2, u < k + 1) ∧ (mvs W Hh xs bs k).2.length ≤ k + 1 := ⟨fun u hu => by have := h1 u hu; omega, by omega⟩
    rw [mvs]
    split
    · unfold mvB
      split
      · simp only
        split
        · exact plain
        · exact ⟨fun u hu => by
            rcases List.mem_append.mp hu with hu | hu
            · exact plain.1 u hu
            · rw [List.mem_singleton.mp hu]; omega, by simp; omega⟩
      · exact plain
    · exact plain
theorem mvs_keep {W Hh : Int} {xs : List Int} {bs : List Bd} {base : Nat} (hb : BsOk base bs) : ∀ k j, base + 5 * k ≤ j → (mvs W Hh xs bs k).1[j]? = xs[j]?
  | 0, _, _ => rfl
  | k + 1, j, h => by
    have ih := mvs_keep (W := W) (Hh := Hh) (xs := xs) hb k j (by omega)
    rw [mvs]
    split
    · rename_i b e
      have := (hb k b e).1
      unfold mvB
      split
      · simp only
        rw [List.getElem?_set_ne (by omega), List.getElem?_set_ne (by omega)]
        exact ih
      · exact ih
    · exact ih
theorem xg_at {xs : List Int} {i : Nat} {j : Int} (hj : j = (i : Int)) (h : i < xs.length) : atI (xs.map V.int) j = some (.int (xg xs i)) := by
  subst hj
  refine atI_nat ?_
  unfold xg
  rw [List.getElem?_map, List.getElem?_eq_getElem h]
  rfl
theorem xgD_at {xs : List Int} {i : Nat} {j : Int} (hj : j = (i : Int)) (h : i < xs.length) : (xs.map PyData.int)[j.toNat]? = some (.int (xg xs i)) := by
  subst hj
  unfold xg
  rw [Int.toNat_natCast, List.getElem?_map, List.getElem?_eq_getElem h]
  rfl
theorem xg_eq {xs ys : List Int} {i : Nat} (h : ys[i]? = xs[i]?) : xg ys i = xg xs i := by unfold xg; rw [h]
theorem bd_at {bs : List Bd} {i : Nat} (h : i < bs.length) : (bs.map bD)[((0 : Int) + (i : Int)).toNat]? = some (bD bs[i]) := by
  rw [show ((0 : Int) + (i : Int)).toNat = i by omega, List.getElem?_map, List.getElem?_eq_getElem h]
  rfl
def resD (r : List Int × List Nat) : PyData := .tuple [.tuple (r.1.map PyData.int), .tuple ((r.2.map fun (n : Nat) => (n : Int)).map PyData.int)]
def iN (n : Nat) : V := .int (n : Int)
def spMv (K : PySem.W.Frag) : Sp := fun vs H Q _ => ∃ (x y : V) (first : Nat) (xs : List Int) (seats W Hh : Int) (ks : List Str) (ds1 ds2 : List PyData) (bs : List Bd), vs = [x, y] ∧ TD K H x (.tuple (xs.map PyData.int)) ∧ Lout K H y first seats W Hh ks ds1 ds2 bs ∧ xs.length = 2 + first + 5 * bs.length ∧ bs.length ≤ 6 ∧ first ≤ 12 ∧
  ∀ v H', Same H H' → TD K H' v (resD (mvs W Hh xs bs bs.length)) → Q v H'
def sp__law_due (K : PySem.W.Frag) : Sp := spMv K
theorem ok__law_due {P : Program} {w : World} {K : PySem.W.Frag} {mg : Str → Option Value} {base : Heap} {f : Addr} {fd : FuncData} (F : Df K mg "_law_due" s__law_due f fd ["state", "layout"]) (T : Txt mg)
    (c__law_hold : Cl P w K mg base 1 "_law_hold" (sp__law_hold K)) : FnOk P w K mg base CX0 2 f fd ["state", "layout"] (sp__law_due K) := by
  refine F.ok sc__law_due (fun vs H Q E h => ?_) (fun cdv A outer s H vs Q E hr h => ?_)
  · obtain ⟨x, y, first, xs, seats, W, Hh, ks, ds1, ds2, bs, rfl, _⟩ := h
    rfl
  · obtain ⟨x, y, first, xs, seats, W, Hh, ks, ds1, ds2, bs, rfl, hx, ⟨hy, _, _, _, hbs, W0, W1, h0, h1, _⟩, hxl, b6, f12, q⟩ := h
    unfold layD at hy
    refine ⟨_, (pss_cons (ps_set (i := 2) sc__law_due.nd rfl (Or.inl rfl) (pe_callTy (T := "list") (r := rLstOf K) c_lst (by rfl) T.b_list (by decide +kernel) (pa_cons (pv 0) pa_nil)))
      (pss_cons (ps_set (i := 3) sc__law_due.nd rfl (Or.inl rfl) (pe_lst pa_nil))
      (pss_cons (ps_for PassesOwn.never rfl (pi_range1 rfl T.b_range (pa_cons (pe_callB (id := "len") (r := qLen K) c_len (by rfl) T.b_len (by decide +kernel) (pa_cons (pe_ix (r := rIxT K) ix_tup (pv 1) pe_int (fun _ _ => rfl)) pa_nil)) pa_nil)) (pg_name (i := 4) sc__law_due.nd rfl (Or.inl rfl)) (pss_cons (ps_set (i := 5) sc__law_due.nd rfl (Or.inl rfl) (pe_ix (r := rIx K) ix_seq (pe_ix (r := rIx K) ix_seq (pe_ix (r := rIxT K) ix_tup (pv 1) pe_int (fun _ _ => rfl)) (pv 4) (fun _ _ => rfl)) pe_int (fun _ _ => rfl)))
      (pss_one (ps_if (pt_cmpR op_eq (pe_ix (r := rIxT K) ix_tup (pv 0) (pe_op op_add (pv 5) pe_int) (fun _ _ => rfl)) pe_int (nomark _)) (pss_cons (ps_set (i := 6) sc__law_due.nd rfl (Or.inl rfl) pe_int)
      (pss_cons (ps_for PassesOwn.never rfl (pi_range1 rfl T.b_range (pa_cons pe_int pa_nil)) (pg_name (i := 7) sc__law_due.nd rfl (Or.inl rfl)) (pss_cons (ps_set (i := 8) sc__law_due.nd rfl (Or.inl rfl) (pe_cl c__law_hold hr (by decide) rfl (pa_cons (pe_un un_neg pe_int) (pa_cons (pe_op op_add (pe_ix (r := rIxT K) ix_tup (pv 0) (pe_op op_add (pv 5) (pv 7)) (fun _ _ => rfl)) (pe_ix (r := rIxT K) ix_tup (pv 0) (pe_op op_add (pe_op op_add (pv 5) pe_int) (pv 7)) (fun _ _ => rfl))) (pa_cons pe_int pa_nil)))))
      (pss_cons (ps_set (i := 9) sc__law_due.nd rfl (Or.inl rfl) (pe_op op_mul pe_int (pe_op op_sub (pe_ix (r := rIxT K) ix_tup (pv 1) (pe_op op_add pe_int (pv 7)) (fun _ _ => rfl)) (pe_ix (r := rIx K) ix_seq (pe_ix (r := rIx K) ix_seq (pe_ix (r := rIxT K) ix_tup (pv 1) pe_int (fun _ _ => rfl)) (pv 4) (fun _ _ => rfl)) (pe_op op_add pe_int (pv 7)) (fun _ _ => rfl)))))
      (pss_cons (ps_asg (pe_cl c__law_hold hr (by decide) rfl (pa_cons pe_int (pa_cons (pv 8) (pa_cons (pv 9) pa_nil)))) (pg_sub (pv 2) (pe_op op_add (pv 5) (pv 7)) set_list))
      (pss_one (ps_aug (i := 6) sc__law_due.nd rfl (Or.inl rfl) (pe_callB (id := "abs") c_abs (by rfl) T.b_abs (by decide +kernel) (pa_cons (pe_op op_sub (pv 8) (pe_ix (r := rIxL K) ix_list (pv 2) (pe_op op_add (pv 5) (pv 7)) (fun _ _ => rfl))) pa_nil)) iop_add))))))
      (pss_one (ps_if (pt_cmpR op_gt (pv 6) pe_int (nomark _)) (pss_one (ps_expr (pe_bmK (K := K) rfl PySem.F.plainAttrs_list PySem.F.slot_list_append PySem.F.type_list_append mt_append (pv 3) (pa_cons (pv 4) pa_nil)))) pss_nil)))) pss_nil))))
      (pss_one (ps_ret (pe_tup (pa_cons (pe_callTy (T := "tuple") (r := rTupOf K) c_tup (by rfl) T.b_tuple (by decide +kernel) (pa_cons (pv 2) pa_nil)) (pa_cons (pe_callTy (T := "tuple") (r := rTupOf K) c_tup (by rfl) T.b_tuple (by decide +kernel) (pa_cons (pv 3) pa_nil)) pa_nil)))))))), ?_⟩
    try dsimp only [cxOf, Cx.nox, Cx.wish]
    refine st_of (σ' := [some _, some _, none, none, none, none, none, none, none, none]) rfl ?_
    wtm_at "jw"
    refine i_lstTD hx fun vs F hvs hF => ?_
    rw [hvs.ints_inv]
    have s1 := same_new (o := .lst (xs.map V.int)) hF
    have hF1 := upd_same (H := H) (a := F) (o := .lst (xs.map V.int))
    generalize upd H F (.lst (xs.map V.int)) = H1 at s1 hF1 ⊢
    wtm_at "jw"
    intro T hT
    have s2 := s1.trans (same_new (o := .lst []) hT)
    have nFT : F ≠ T := ne_of_none hF1 hT
    have T0 := s1.free hT
    have hF2 := same_new (o := .lst []) hT _ _ hF1
    have hT2 := upd_same (H := H1) (a := T) (o := .lst [])
    generalize upd H1 T (.lst []) = H2 at s2 hF2 hT2 ⊢
    have hy2 := hy.same s2
    wtm_at "jw"
    rw [List.length_map, Int.toNat_natCast]
    refine f_range (fun i σ H' => Same H H' ∧ H' F = some (.lst ((mvs W Hh xs bs i).1.map V.int)) ∧ H' T = some (.lst ((mvs W Hh xs bs i).2.map iN)) ∧ ∃ (v4 v5 v6 v7 v8 v9 : Option V), σ = [some x, some y, some (.ref F), some (.ref T), v4, v5, v6, v7, v8, v9])
      ⟨s2, hF2, hT2, none, none, none, none, none, none, rfl⟩ (fun i σ H' hi h => ?_) (fun σ H' h => ?_)
    · obtain ⟨s3, hF3, hT3, v4, v5, v6, v7, v8, v9, rfl⟩ := h
      have hx3 := hx.same s3
      have hy3 := hy.same s3
      have eb := bd_at (bs := bs) hi
      have eb' : bs[i]? = some bs[i] := List.getElem?_eq_getElem hi
      obtain ⟨b1, b2, b3, b4, b5⟩ := hbs i bs[i] eb'
      have ml := mvs_len W Hh xs bs i
      have mh := (mvs_hits W Hh xs bs i).2
      have step : mvs W Hh xs bs (i + 1) = mvB W Hh xs bs[i] i (mvs W Hh xs bs i) := by rw [mvs, eb']
      generalize bs[i] = b at eb b1 b2 b3 b4 b5 step
      obtain ⟨at_, hat⟩ : ∃ n : Nat, b.2.1 = (n : Int) := ⟨b.2.1.toNat, by omega⟩
      have hat2 : b.2.1.toNat = at_ := by omega
      unfold bD at eb
      rw [hat] at eb
      unfold mvB at step
      rw [hat2] at step
      have e4 := xgD_at (xs := xs) (i := at_ + 4) (j := (at_ : Int) + 4) (by omega) (by omega)
      wtm_at "jw"
      refine c_dec (fun h4 => ?_) (fun h4 => ?_)
      · rw [if_pos h4] at step
        have e0 := xgD_at (xs := xs) (i := at_) (j := (at_ : Int) + (0 + ((0 : Nat) : Int))) (by omega) (by omega)
        have e1 := xgD_at (xs := xs) (i := at_ + 1) (j := (at_ : Int) + (0 + ((1 : Nat) : Int))) (by omega) (by omega)
        have e2 := xgD_at (xs := xs) (i := at_ + 2) (j := (at_ : Int) + 2 + (0 + ((0 : Nat) : Int))) (by omega) (by omega)
        have e3 := xgD_at (xs := xs) (i := at_ + 3) (j := (at_ : Int) + 2 + (0 + ((1 : Nat) : Int))) (by omega) (by omega)
        generalize hmv : mvs W Hh xs bs i = mv at hF3 hT3 ml mh step
        obtain ⟨fx, hfx⟩ : ∃ z, hol (-32768) (xg xs at_ + xg xs (at_ + 2)) 32767 = z := ⟨_, rfl⟩
        obtain ⟨fy, hfy⟩ : ∃ z, hol (-32768) (xg xs (at_ + 1) + xg xs (at_ + 3)) 32767 = z := ⟨_, rfl⟩
        obtain ⟨nx, hnx⟩ : ∃ z, hol 0 fx (16 * (W - b.2.2.1)) = z := ⟨_, rfl⟩
        obtain ⟨ny, hny⟩ : ∃ z, hol 0 fy (16 * (Hh - b.2.2.2)) = z := ⟨_, rfl⟩
        rw [hfx, hfy, hnx, hny] at step
        wtm_at "jw"
        refine f_range (fun j σ H2 => Same H H2 ∧ H2 T = some (.lst (mv.2.map iN)) ∧ ∃ (off : Int) (v7 v8 v9 : Option V), H2 F = some (.lst ((if j = 0 then mv.1 else if j = 1 then mv.1.set at_ nx else (mv.1.set at_ nx).set (at_ + 1) ny).map V.int)) ∧ 0 ≤ off ∧
            (off = 0 ↔ (0 < j → nx = fx) ∧ (1 < j → ny = fy)) ∧ σ = [some x, some y, some (.ref F), some (.ref T), some (.int (0 + (i : Int))), some (.int (at_ : Int)), some (.int off), v7, v8, v9])
          ⟨s3, hT3, 0, v7, v8, v9, by rw [if_pos rfl]; exact hF3, Int.le_refl _, ⟨fun _ => ⟨fun h => by omega, fun h => by omega⟩, fun _ => rfl⟩, rfl⟩ (fun j σ H2 hj h => ?_) (fun σ H2 h => ?_)
        · obtain ⟨s4, hT4, off, v7, v8, v9, hF4, off0, hoff, rfl⟩ := h
          have hj' : j < 2 := by omega
          have hx4 := hx.same s4
          have hy4 := hy.same s4
          rcases (by omega : j = 0 ∨ j = 1) with rfl | rfl
          · rw [if_pos rfl] at hF4
            have ix := ixN_of (n := (mv.1.map V.int).length) (i := (at_ : Int) + (0 + ((0 : Nat) : Int))) (by omega) (by rw [List.length_map]; omega)
            rw [show ((at_ : Int) + (0 + ((0 : Nat) : Int))).toNat = at_ by omega] at ix
            wtm_at "jw"
            refine ⟨_, _, _, rfl, ?_⟩
            rw [show (if (32767 : Int) < (if (-32768 : Int) > xg xs at_ + xg xs (at_ + 2) then -32768 else xg xs at_ + xg xs (at_ + 2)) then 32767 else (if (-32768 : Int) > xg xs at_ + xg xs (at_ + 2) then -32768 else xg xs at_ + xg xs (at_ + 2))) = fx from hfx]
            wtm_at "jw"
            refine ⟨_, _, _, rfl, ?_⟩
            rw [show (if 16 * (W - b.2.2.1) < (if (0 : Int) > fx then 0 else fx) then 16 * (W - b.2.2.1) else (if (0 : Int) > fx then 0 else fx)) = nx from hnx]
            wtm_at "jw"
            have hF5 : upd H2 F (.lst ((mv.1.map V.int).set at_ (.int nx))) F = some (.lst ((mv.1.set at_ nx).map V.int)) := by rw [upd_same, List.map_set]
            have s5 := put_same (o := .lst ((mv.1.map V.int).set at_ (.int nx))) s4 hF
            have hT5 : upd H2 F (.lst ((mv.1.map V.int).set at_ (.int nx))) T = some (.lst (mv.2.map iN)) := by rw [upd_ne nFT.symm]; exact hT4
            generalize upd H2 F (.lst ((mv.1.map V.int).set at_ (.int nx))) = H5 at hF5 s5 hT5 ⊢
            have ea := xg_at (xs := mv.1.set at_ nx) (i := at_) (j := (at_ : Int) + (0 + ((0 : Nat) : Int))) (by omega) (by rw [List.length_set]; omega)
            rw [show xg (mv.1.set at_ nx) at_ = nx by unfold xg; rw [List.getElem?_set_self (by omega)]; rfl] at ea
            wtm_at "jw"
            refine ⟨s5, hT5, _, _, _, _, hF5, ?_, ?_, rfl⟩
            · split <;> omega
            · have hz : off = 0 := hoff.mpr ⟨fun h => by omega, fun h => by omega⟩
              constructor
              · intro h
                refine ⟨fun _ => ?_, fun h => by omega⟩
                split at h <;> omega
              · rintro ⟨h, _⟩
                have := h (by omega)
                split <;> omega
          · rw [if_neg (by decide), if_pos rfl] at hF4
            have ix := ixN_of (n := ((mv.1.set at_ nx).map V.int).length) (i := (at_ : Int) + (0 + ((1 : Nat) : Int))) (by omega) (by rw [List.length_map, List.length_set]; omega)
            rw [show ((at_ : Int) + (0 + ((1 : Nat) : Int))).toNat = at_ + 1 by omega] at ix
            wtm_at "jw"
            refine ⟨_, _, _, rfl, ?_⟩
            rw [show (if (32767 : Int) < (if (-32768 : Int) > xg xs (at_ + 1) + xg xs (at_ + 3) then -32768 else xg xs (at_ + 1) + xg xs (at_ + 3)) then 32767 else (if (-32768 : Int) > xg xs (at_ + 1) + xg xs (at_ + 3) then -32768 else xg xs (at_ + 1) + xg xs (at_ + 3))) = fy from hfy]
            wtm_at "jw"
            refine ⟨_, _, _, rfl, ?_⟩
            rw [show (if 16 * (Hh - b.2.2.2) < (if (0 : Int) > fy then 0 else fy) then 16 * (Hh - b.2.2.2) else (if (0 : Int) > fy then 0 else fy)) = ny from hny]
            wtm_at "jw"
            have hF5 : upd H2 F (.lst (((mv.1.set at_ nx).map V.int).set (at_ + 1) (.int ny))) F = some (.lst (((mv.1.set at_ nx).set (at_ + 1) ny).map V.int)) := by rw [upd_same, List.map_set (l := mv.1.set at_ nx)]
            have s5 := put_same (o := .lst (((mv.1.set at_ nx).map V.int).set (at_ + 1) (.int ny))) s4 hF
            have hT5 : upd H2 F (.lst (((mv.1.set at_ nx).map V.int).set (at_ + 1) (.int ny))) T = some (.lst (mv.2.map iN)) := by rw [upd_ne nFT.symm]; exact hT4
            generalize upd H2 F (.lst (((mv.1.set at_ nx).map V.int).set (at_ + 1) (.int ny))) = H5 at hF5 s5 hT5 ⊢
            have ea := xg_at (xs := (mv.1.set at_ nx).set (at_ + 1) ny) (i := at_ + 1) (j := (at_ : Int) + (0 + ((1 : Nat) : Int))) (by omega) (by rw [List.length_set, List.length_set]; omega)
            rw [show xg ((mv.1.set at_ nx).set (at_ + 1) ny) (at_ + 1) = ny by unfold xg; rw [List.getElem?_set_self (by rw [List.length_set]; omega)]; rfl] at ea
            wtm_at "jw"
            refine ⟨s5, hT5, _, _, _, _, hF5, ?_, ?_, rfl⟩
            · split <;> omega
            · constructor
              · intro h
                have h1 : off = 0 := by split at h <;> omega
                refine ⟨fun _ => (hoff.mp h1).1 (by omega), fun _ => ?_⟩
                split at h <;> omega
              · rintro ⟨h, h2⟩
                have h1 : off = 0 := hoff.mpr ⟨fun _ => h (by omega), fun h => by omega⟩
                have := h2 (by omega)
                split <;> omega
        · obtain ⟨s4, hT4, off, v7, v8, v9, hF4, off0, hoff, rfl⟩ := h
          rw [if_neg (by decide), if_neg (by decide)] at hF4
          have hsz : (mv.2.map iN).length < sizeLine := small1000 (by rw [List.length_map]; omega)
          wtm_at "jw"
          refine c_dec (fun h => ?_) (fun h => ?_)
          · have hne : ¬ (nx = fx ∧ ny = fy) := fun z => by
              have := hoff.mpr ⟨fun _ => z.1, fun _ => z.2⟩
              omega
            wtm_at "jw"
            refine ⟨put_same s4 T0, ?_, ?_, _, _, _, _, _, _, rfl⟩
            · rw [upd_ne nFT, step]; exact hF4
            · rw [upd_same, step, if_neg hne, List.map_append, Int.zero_add]; rfl
          · have hz := hoff.mp (by omega)
            have he : nx = fx ∧ ny = fy := ⟨hz.1 (by decide), hz.2 (by decide)⟩
            wtm_at "jw"
            refine ⟨s4, ?_, ?_, _, _, _, _, _, _, rfl⟩
            · rw [step]; exact hF4
            · rw [step, if_pos he]; exact hT4
      · rw [if_neg h4] at step
        wtm_at "jw"
        exact ⟨s3, by rw [step]; exact hF3, by rw [step]; exact hT3, _, _, _, _, _, _, rfl⟩
    · obtain ⟨s3, hF3, hT3, v4, v5, v6, v7, v8, v9, rfl⟩ := h
      wtm_at "jw"
      intro A1 hA1
      have s4 := same_new (o := .tup ((mvs W Hh xs bs bs.length).1.map V.int)) hA1
      have k1 : TD K (upd H' A1 (.tup ((mvs W Hh xs bs bs.length).1.map V.int))) (.ref A1) (.tuple ((mvs W Hh xs bs bs.length).1.map PyData.int)) := TD.new hA1 (TDs.ints _)
      have hT4 := s4 _ _ hT3
      generalize upd H' A1 (.tup ((mvs W Hh xs bs bs.length).1.map V.int)) = H4 at s4 k1 hT4 ⊢
      wtm_at "jw"
      intro A2 hA2
      have s5 := same_new (o := .tup ((mvs W Hh xs bs bs.length).2.map iN)) hA2
      have k2 : TD K (upd H4 A2 (.tup ((mvs W Hh xs bs bs.length).2.map iN))) (.ref A2) (.tuple (((mvs W Hh xs bs bs.length).2.map fun (n : Nat) => (n : Int)).map PyData.int)) := TD.new hA2 (by rw [List.map_map]; exact TDs.map fun n _ => .int n)
      have k1' := k1.same s5
      generalize upd H4 A2 (.tup ((mvs W Hh xs bs bs.length).2.map iN)) = H5 at s5 k1' k2 ⊢
      wtm_at "jw"
      intro A3 hA3
      exact q _ _ (((s3.trans s4).trans s5).trans (same_new hA3)) (TD.new hA3 (.cons k1' (.cons k2 .nil)))
def sp_clamp (K : PySem.W.Frag) : Sp := fun vs H Q _ => ∃ (n : Int), vs = [.int n] ∧ Q (.int (hol (-32768) n 32767)) H
theorem hol_eq {lo n hi : Int} (h : lo ≤ hi) : hol lo n hi = if n < lo then lo else if n > hi then hi else n := by
  unfold hol
  repeat' split
  all_goals omega
theorem ok_clamp {P : Program} {w : World} {K : PySem.W.Frag} {mg : Str → Option Value} {base : Heap} {f : Addr} {fd : FuncData} (F : Df K mg "clamp" s_clamp f fd ["number"]) (T : Txt mg) : FnOk P w K mg base CX0 1 f fd ["number"] (sp_clamp K) := by
  refine F.ok sc_clamp (fun vs H Q E h => ?_) (fun cdv A outer s H vs Q E hr h => ?_)
  · obtain ⟨n, rfl, _⟩ := h
    rfl
  · obtain ⟨n, rfl, q⟩ := h
    rw [hol_eq (by decide)] at q
    refine ⟨_, (pss_cons (ps_if (pt_cmpR op_lt (pv 0) (pe_cn rfl T.c_LOW) (nomark _)) (pss_one (ps_ret (pe_cn rfl T.c_LOW))) pss_nil)
      (pss_cons (ps_if (pt_cmpR op_gt (pv 0) (pe_cn rfl T.c_HIGH) (nomark _)) (pss_one (ps_ret (pe_cn rfl T.c_HIGH))) pss_nil)
      (pss_one (ps_ret (pv 0))))), ?_⟩
    try dsimp only [cxOf, Cx.nox, Cx.wish]
    refine st_of (σ' := [some _]) rfl ?_
    wtm_at "jw"
    refine c_dec (fun h => ?_) (fun h => ?_)
    · rw [if_pos h] at q
      wtm_at "jw"
      exact q
    · rw [if_neg h] at q
      wtm_at "jw"
      refine c_dec (fun h => ?_) (fun h => ?_)
      · rw [if_pos h] at q
        wtm_at "jw"
        exact q
      · rw [if_neg h] at q
        wtm_at "jw"
        exact q
def sp_held (K : PySem.W.Frag) : Sp := fun vs H Q _ => ∃ (n m : Int), vs = [.int n, .int m] ∧ 0 ≤ m ∧ Q (.int (hol 0 n m)) H
theorem ok_held {P : Program} {w : World} {K : PySem.W.Frag} {mg : Str → Option Value} {base : Heap} {f : Addr} {fd : FuncData} (F : Df K mg "held" s_held f fd ["number", "most"]) (T : Txt mg) : FnOk P w K mg base CX0 1 f fd ["number", "most"] (sp_held K) := by
  refine F.ok sc_held (fun vs H Q E h => ?_) (fun cdv A outer s H vs Q E hr h => ?_)
  · obtain ⟨n, m, rfl, _⟩ := h
    rfl
  · obtain ⟨n, m, rfl, m0, q⟩ := h
    rw [hol_eq m0] at q
    refine ⟨_, (pss_cons (ps_if (pt_cmpR op_lt (pv 0) pe_int (nomark _)) (pss_one (ps_ret pe_int)) pss_nil)
      (pss_cons (ps_if (pt_cmpR op_gt (pv 0) (pv 1) (nomark _)) (pss_one (ps_ret (pv 1))) pss_nil)
      (pss_one (ps_ret (pv 0))))), ?_⟩
    try dsimp only [cxOf, Cx.nox, Cx.wish]
    refine st_of (σ' := [some _, some _]) rfl ?_
    wtm_at "jw"
    refine c_dec (fun h => ?_) (fun h => ?_)
    · rw [if_pos h] at q
      wtm_at "jw"
      exact q
    · rw [if_neg h] at q
      wtm_at "jw"
      refine c_dec (fun h => ?_) (fun h => ?_)
      · rw [if_pos h] at q
        wtm_at "jw"
        exact q
      · rw [if_neg h] at q
        wtm_at "jw"
        exact q
def sp_move_all (K : PySem.W.Frag) : Sp := fun vs H Q _ => ∃ (F : Addr) (y : V) (first : Nat) (xs : List Int) (seats W Hh : Int) (ks : List Str) (ds1 ds2 : List PyData) (bs : List Bd), vs = [.ref F, y] ∧ H F = some (.lst (xs.map V.int)) ∧ Lout K H y first seats W Hh ks ds1 ds2 bs ∧ xs.length = 2 + first + 5 * bs.length ∧ bs.length ≤ 6 ∧ first ≤ 12 ∧
  ∀ T H', (∀ b o, H b = some o → b ≠ F → H' b = some o) → H' F = some (.lst ((mvs W Hh xs bs bs.length).1.map V.int)) → H' T = some (.lst ((mvs W Hh xs bs bs.length).2.map iN)) → Q (.ref T) H'
theorem ok_move_all {P : Program} {w : World} {K : PySem.W.Frag} {mg : Str → Option Value} {base : Heap} {f : Addr} {fd : FuncData} (F : Df K mg "move_all" s_move_all f fd ["values", "layout"]) (T : Txt mg)
    (c_clamp : Cl P w K mg base 1 "clamp" (sp_clamp K))
    (c_held : Cl P w K mg base 1 "held" (sp_held K)) : FnOk P w K mg base CX0 2 f fd ["values", "layout"] (sp_move_all K) := by
  refine F.ok sc_move_all (fun vs H Q E h => ?_) (fun cdv A outer s H vs Q E hr h => ?_)
  · obtain ⟨F, y, first, xs, seats, W, Hh, ks, ds1, ds2, bs, rfl, _⟩ := h
    rfl
  · obtain ⟨F, y, first, xs, seats, W, Hh, ks, ds1, ds2, bs, rfl, hF, ⟨hy, _, _, _, hbs, W0, W1, h0, h1, _⟩, hxl, b6, f12, q⟩ := h
    unfold layD at hy
    refine ⟨_, (pss_cons (ps_set (i := 2) sc_move_all.nd rfl (Or.inl rfl) (pe_lst pa_nil))
      (pss_cons (ps_set (i := 3) sc_move_all.nd rfl (Or.inl rfl) (pe_ix (r := rIxT K) ix_tup (pv 1) pe_int (fun _ _ => rfl)))
      (pss_cons (ps_for PassesOwn.never rfl (pi_range1 rfl T.b_range (pa_cons (pe_callB (id := "len") (r := qLen K) c_len (by rfl) T.b_len (by decide +kernel) (pa_cons (pv 3) pa_nil)) pa_nil)) (pg_name (i := 4) sc_move_all.nd rfl (Or.inl rfl)) (pss_cons (ps_set (i := 5) sc_move_all.nd rfl (Or.inl rfl) (pe_ix (r := rIx K) ix_seq (pe_ix (r := rIx K) ix_seq (pv 3) (pv 4) (fun _ _ => rfl)) pe_int (fun _ _ => rfl)))
      (pss_one (ps_if (pt_cmpR op_eq (pe_ix (r := rIxL K) ix_list (pv 0) (pe_op op_add (pv 5) pe_int) (fun _ _ => rfl)) pe_int (nomark _)) (pss_cons (ps_set (i := 6) sc_move_all.nd rfl (Or.inl rfl) (pe_cl c_clamp hr (by decide) rfl (pa_cons (pe_op op_add (pe_ix (r := rIxL K) ix_list (pv 0) (pv 5) (fun _ _ => rfl)) (pe_ix (r := rIxL K) ix_list (pv 0) (pe_op op_add (pv 5) pe_int) (fun _ _ => rfl))) pa_nil)))
      (pss_cons (ps_set (i := 7) sc_move_all.nd rfl (Or.inl rfl) (pe_cl c_clamp hr (by decide) rfl (pa_cons (pe_op op_add (pe_ix (r := rIxL K) ix_list (pv 0) (pe_op op_add (pv 5) pe_int) (fun _ _ => rfl)) (pe_ix (r := rIxL K) ix_list (pv 0) (pe_op op_add (pv 5) pe_int) (fun _ _ => rfl))) pa_nil)))
      (pss_cons (ps_asg (pe_cl c_held hr (by decide) rfl (pa_cons (pv 6) (pa_cons (pe_op op_mul (pe_cn rfl T.c_PART) (pe_op op_sub (pe_ix (r := rIxT K) ix_tup (pv 1) pe_int (fun _ _ => rfl)) (pe_ix (r := rIx K) ix_seq (pe_ix (r := rIx K) ix_seq (pv 3) (pv 4) (fun _ _ => rfl)) pe_int (fun _ _ => rfl)))) pa_nil))) (pg_sub (pv 0) (pv 5) set_list))
      (pss_cons (ps_asg (pe_cl c_held hr (by decide) rfl (pa_cons (pv 7) (pa_cons (pe_op op_mul (pe_cn rfl T.c_PART) (pe_op op_sub (pe_ix (r := rIxT K) ix_tup (pv 1) pe_int (fun _ _ => rfl)) (pe_ix (r := rIx K) ix_seq (pe_ix (r := rIx K) ix_seq (pv 3) (pv 4) (fun _ _ => rfl)) pe_int (fun _ _ => rfl)))) pa_nil))) (pg_sub (pv 0) (pe_op op_add (pv 5) pe_int) set_list))
      (pss_one (ps_if (PW.pt (pw_or (pt_cmpR op_ne (pe_ix (r := rIxL K) ix_list (pv 0) (pv 5) (fun _ _ => rfl)) (pv 6) (nomark _)) (pw_or1 (pt_cmpR op_ne (pe_ix (r := rIxL K) ix_list (pv 0) (pe_op op_add (pv 5) pe_int) (fun _ _ => rfl)) (pv 7) (nomark _))))) (pss_one (ps_expr (pe_bmK (K := K) rfl PySem.F.plainAttrs_list PySem.F.slot_list_append PySem.F.type_list_append mt_append (pv 2) (pa_cons (pv 4) pa_nil)))) pss_nil)))))) pss_nil))))
      (pss_one (ps_ret (pv 2)))))), ?_⟩
    try dsimp only [cxOf, Cx.nox, Cx.wish]
    refine st_of (σ' := [some _, some _, none, none, none, none, none, none]) rfl ?_
    wtm_at "jw"
    intro T hT
    have s2 := same_new (o := .lst []) hT
    have nFT : F ≠ T := ne_of_none hF hT
    have hF2 := s2 _ _ hF
    have hT2 := upd_same (H := H) (a := T) (o := .lst [])
    generalize upd H T (.lst []) = H2 at s2 hF2 hT2 ⊢
    have hy2 := hy.same s2
    wtm_at "jw"
    rename_i yb hyb
    rw [List.length_map, Int.toNat_natCast]
    refine f_range (fun i σ H' => (∀ b o, H b = some o → b ≠ F → H' b = some o) ∧ Tps H2 H' ∧ H' F = some (.lst ((mvs W Hh xs bs i).1.map V.int)) ∧ H' T = some (.lst ((mvs W Hh xs bs i).2.map iN)) ∧ ∃ (v4 v5 v6 v7 : Option V), σ = [some (.ref F), some y, some (.ref T), some yb, v4, v5, v6, v7])
      ⟨fun b o hb _ => s2 _ _ hb, Tps.refl, hF2, hT2, none, none, none, none, rfl⟩ (fun i σ H' hi h => ?_) (fun σ H' h => ?_)
    · obtain ⟨kp, tp, hF3, hT3, v4, v5, v6, v7, rfl⟩ := h
      have hy3 := hy2.tps tp
      have hyb3 := TD.tps tp hyb
      have eb := bd_at (bs := bs) hi
      have eb' : bs[i]? = some bs[i] := List.getElem?_eq_getElem hi
      obtain ⟨b1, b2, b3, b4, b5⟩ := hbs i bs[i] eb'
      have ml := mvs_len W Hh xs bs i
      have mh := (mvs_hits W Hh xs bs i).2
      have mk : ∀ j, 2 + first + 5 * i ≤ j → xg (mvs W Hh xs bs i).1 j = xg xs j := fun j hj => xg_eq (mvs_keep hbs i j hj)
      have step : mvs W Hh xs bs (i + 1) = mvB W Hh xs bs[i] i (mvs W Hh xs bs i) := by rw [mvs, eb']
      generalize bs[i] = b at eb b1 b2 b3 b4 b5 step
      obtain ⟨at_, hat⟩ : ∃ n : Nat, b.2.1 = (n : Int) := ⟨b.2.1.toNat, by omega⟩
      have hat2 : b.2.1.toNat = at_ := by omega
      unfold bD at eb
      rw [hat] at eb
      unfold mvB at step
      rw [hat2] at step
      generalize hmv : mvs W Hh xs bs i = mv at hF3 hT3 ml mh step mk
      have e4 := xg_at (xs := mv.1) (i := at_ + 4) (j := (at_ : Int) + 4) (by omega) (by omega)
      rw [mk _ (by omega)] at e4
      wtm_at "jw"
      refine c_dec (fun h4 => ?_) (fun h4 => ?_)
      · rw [if_pos h4] at step
        have e0 := xg_at (xs := mv.1) (i := at_) (j := (at_ : Int)) (by omega) (by omega)
        have e1 := xg_at (xs := mv.1) (i := at_ + 1) (j := (at_ : Int) + 1) (by omega) (by omega)
        have e2 := xg_at (xs := mv.1) (i := at_ + 2) (j := (at_ : Int) + 2) (by omega) (by omega)
        have e3 := xg_at (xs := mv.1) (i := at_ + 3) (j := (at_ : Int) + 3) (by omega) (by omega)
        rw [mk _ (by omega)] at e0 e1 e2 e3
        wtm_at "jw"
        refine ⟨_, rfl, ?_⟩
        wtm_at "jw"
        refine ⟨_, rfl, ?_⟩
        wtm_at "jw"
        refine ⟨_, _, rfl, by omega, ?_⟩
        obtain ⟨fx, hfx⟩ : ∃ z, hol (-32768) (xg xs at_ + xg xs (at_ + 2)) 32767 = z := ⟨_, rfl⟩
        obtain ⟨fy, hfy⟩ : ∃ z, hol (-32768) (xg xs (at_ + 1) + xg xs (at_ + 3)) 32767 = z := ⟨_, rfl⟩
        obtain ⟨nx, hnx⟩ : ∃ z, hol 0 fx (16 * (W - b.2.2.1)) = z := ⟨_, rfl⟩
        obtain ⟨ny, hny⟩ : ∃ z, hol 0 fy (16 * (Hh - b.2.2.2)) = z := ⟨_, rfl⟩
        rw [hfx, hfy, hnx]
        rw [hfx, hfy, hnx, hny] at step
        have ix := ixN_of (n := (mv.1.map V.int).length) (i := (at_ : Int)) (by omega) (by rw [List.length_map]; omega)
        rw [show ((at_ : Int)).toNat = at_ by omega] at ix
        wtm_at "jw"
        have hF5 : upd H' F (.lst ((mv.1.map V.int).set at_ (.int nx))) F = some (.lst ((mv.1.set at_ nx).map V.int)) := by rw [upd_same, List.map_set]
        have kp5 : ∀ b o, H b = some o → b ≠ F → upd H' F (.lst ((mv.1.map V.int).set at_ (.int nx))) b = some o := fun b o hb hn => by rw [upd_ne hn]; exact kp b o hb hn
        have hT5 : upd H' F (.lst ((mv.1.map V.int).set at_ (.int nx))) T = some (.lst (mv.2.map iN)) := by rw [upd_ne nFT.symm]; exact hT3
        have tp5 := tp.trans (tps_put (ys := (mv.1.map V.int).set at_ (.int nx)) hF3)
        generalize upd H' F (.lst ((mv.1.map V.int).set at_ (.int nx))) = H5 at hF5 kp5 hT5 tp5 ⊢
        have hy5 := hy2.tps tp5
        have hyb5 := TD.tps tp5 hyb
        wtm_at "jw"
        refine ⟨_, _, rfl, by omega, ?_⟩
        rw [hny]
        have ix := ixN_of (n := ((mv.1.set at_ nx).map V.int).length) (i := (at_ : Int) + 1) (by omega) (by rw [List.length_map, List.length_set]; omega)
        rw [show ((at_ : Int) + 1).toNat = at_ + 1 by omega] at ix
        wtm_at "jw"
        have hF6 : upd H5 F (.lst (((mv.1.set at_ nx).map V.int).set (at_ + 1) (.int ny))) F = some (.lst (((mv.1.set at_ nx).set (at_ + 1) ny).map V.int)) := by rw [upd_same, List.map_set (l := mv.1.set at_ nx)]
        have kp6 : ∀ b o, H b = some o → b ≠ F → upd H5 F (.lst (((mv.1.set at_ nx).map V.int).set (at_ + 1) (.int ny))) b = some o := fun b o hb hn => by rw [upd_ne hn]; exact kp5 b o hb hn
        have hT6 : upd H5 F (.lst (((mv.1.set at_ nx).map V.int).set (at_ + 1) (.int ny))) T = some (.lst (mv.2.map iN)) := by rw [upd_ne nFT.symm]; exact hT5
        have tp6 := tp5.trans (tps_put (ys := ((mv.1.set at_ nx).map V.int).set (at_ + 1) (.int ny)) hF5)
        generalize upd H5 F (.lst (((mv.1.set at_ nx).map V.int).set (at_ + 1) (.int ny))) = H6 at hF6 kp6 hT6 tp6 ⊢
        have ea := xg_at (xs := (mv.1.set at_ nx).set (at_ + 1) ny) (i := at_) (j := (at_ : Int)) (by omega) (by rw [List.length_set, List.length_set]; omega)
        rw [show xg ((mv.1.set at_ nx).set (at_ + 1) ny) at_ = nx by unfold xg; rw [List.getElem?_set_ne (by omega), List.getElem?_set_self (by omega)]; rfl] at ea
        have ec := xg_at (xs := (mv.1.set at_ nx).set (at_ + 1) ny) (i := at_ + 1) (j := (at_ : Int) + 1) (by omega) (by rw [List.length_set, List.length_set]; omega)
        rw [show xg ((mv.1.set at_ nx).set (at_ + 1) ny) (at_ + 1) = ny by unfold xg; rw [List.getElem?_set_self (by rw [List.length_set]; omega)]; rfl] at ec
        have hsz : (mv.2.map iN).length < sizeLine := small1000 (by rw [List.length_map]; omega)
        have yes : ¬ (nx = fx ∧ ny = fy) → upd H6 T (.lst (mv.2.map iN ++ [.int (0 + (i : Int))])) T = some (.lst ((mvs W Hh xs bs (i + 1)).2.map iN)) := fun h => by
          rw [upd_same, step, if_neg h, List.map_append, Int.zero_add]; rfl
        have fin : ¬ (nx = fx ∧ ny = fy) → (∀ b o, H b = some o → b ≠ F → upd H6 T (.lst (mv.2.map iN ++ [.int (0 + (i : Int))])) b = some o) ∧ Tps H2 (upd H6 T (.lst (mv.2.map iN ++ [.int (0 + (i : Int))]))) ∧ upd H6 T (.lst (mv.2.map iN ++ [.int (0 + (i : Int))])) F = some (.lst ((mvs W Hh xs bs (i + 1)).1.map V.int)) := fun h =>
          ⟨fun b o hb hn => by rw [upd_ne (ne_of_none hb hT)]; exact kp6 b o hb hn, tp6.trans (tps_put hT6), by rw [upd_ne nFT, step]; exact hF6⟩
        wtm_at "jw"
        refine c_decN (fun h => ?_) (fun h => ?_)
        · wtm_at "jw"
          obtain ⟨a1, a2, a3⟩ := fin fun z => h z.1
          exact ⟨a1, a2, a3, yes fun z => h z.1, _, _, _, _, rfl⟩
        · wtm_at "jw"
          refine c_decN (fun h2 => ?_) (fun h2 => ?_)
          · wtm_at "jw"
            obtain ⟨a1, a2, a3⟩ := fin fun z => h2 z.2
            exact ⟨a1, a2, a3, yes fun z => h2 z.2, _, _, _, _, rfl⟩
          · wtm_at "jw"
            exact ⟨kp6, tp6, by rw [step]; exact hF6, by rw [step, if_pos ⟨h, h2⟩]; exact hT6, _, _, _, _, rfl⟩
      · rw [if_neg h4] at step
        wtm_at "jw"
        exact ⟨kp, tp, by rw [step]; exact hF3, by rw [step]; exact hT3, _, _, _, _, rfl⟩
    · obtain ⟨kp, tp, hF3, hT3, v4, v5, v6, v7, rfl⟩ := h
      wtm_at "jw"
      exact q T H' kp hF3 hT3
def sp_moved (K : PySem.W.Frag) : Sp := spMv K
theorem ok_moved {P : Program} {w : World} {K : PySem.W.Frag} {mg : Str → Option Value} {base : Heap} {f : Addr} {fd : FuncData} (F : Df K mg "moved" s_moved f fd ["state", "layout"]) (T : Txt mg)
    (c_move_all : Cl P w K mg base 2 "move_all" (sp_move_all K)) : FnOk P w K mg base CX0 3 f fd ["state", "layout"] (sp_moved K) := by
  refine F.ok sc_moved (fun vs H Q E h => ?_) (fun cdv A outer s H vs Q E hr h => ?_)
  · obtain ⟨x, y, first, xs, seats, W, Hh, ks, ds1, ds2, bs, rfl, _⟩ := h
    rfl
  · obtain ⟨x, y, first, xs, seats, W, Hh, ks, ds1, ds2, bs, rfl, hx, hlo, hxl, b6, f12, q⟩ := h
    refine ⟨_, (pss_cons (ps_set (i := 2) sc_moved.nd rfl (Or.inl rfl) (pe_callTy (T := "list") (r := rLstOf K) c_lst (by rfl) T.b_list (by decide +kernel) (pa_cons (pv 0) pa_nil)))
      (pss_cons (ps_set (i := 3) sc_moved.nd rfl (Or.inl rfl) (pe_cl c_move_all hr (by decide) rfl (pa_cons (pv 2) (pa_cons (pv 1) pa_nil))))
      (pss_one (ps_ret (pe_tup (pa_cons (pe_callTy (T := "tuple") (r := rTupOf K) c_tup (by rfl) T.b_tuple (by decide +kernel) (pa_cons (pv 2) pa_nil)) (pa_cons (pe_callTy (T := "tuple") (r := rTupOf K) c_tup (by rfl) T.b_tuple (by decide +kernel) (pa_cons (pv 3) pa_nil)) pa_nil))))))), ?_⟩
    try dsimp only [cxOf, Cx.nox, Cx.wish]
    refine st_of (σ' := [some _, some _, none, none]) rfl ?_
    wtm_at "jw"
    refine i_lstTD hx fun vs F hvs hF => ?_
    rw [hvs.ints_inv]
    have s1 := same_new (o := .lst (xs.map V.int)) hF
    have hF1 := upd_same (H := H) (a := F) (o := .lst (xs.map V.int))
    generalize upd H F (.lst (xs.map V.int)) = H1 at s1 hF1 ⊢
    obtain ⟨hy, r1⟩ := hlo
    wtm_at "jw"
    refine ⟨F, y, first, xs, seats, W, Hh, ks, ds1, ds2, bs, rfl, hF1, ⟨hy.same s1, r1⟩, hxl, b6, f12, fun T H2 kp hF2 hT2 => ?_⟩
    have s2 : Same H H2 := fun b o hb => kp b o (s1 _ _ hb) (ne_of_none hb hF)
    wtm_at "jw"
    intro A1 hA1
    have s4 := same_new (o := .tup ((mvs W Hh xs bs bs.length).1.map V.int)) hA1
    have k1 : TD K (upd H2 A1 (.tup ((mvs W Hh xs bs bs.length).1.map V.int))) (.ref A1) (.tuple ((mvs W Hh xs bs bs.length).1.map PyData.int)) := TD.new hA1 (TDs.ints _)
    have hT4 := s4 _ _ hT2
    generalize upd H2 A1 (.tup ((mvs W Hh xs bs bs.length).1.map V.int)) = H4 at s4 k1 hT4 ⊢
    wtm_at "jw"
    intro A2 hA2
    have s5 := same_new (o := .tup ((mvs W Hh xs bs bs.length).2.map iN)) hA2
    have k2 : TD K (upd H4 A2 (.tup ((mvs W Hh xs bs bs.length).2.map iN))) (.ref A2) (.tuple (((mvs W Hh xs bs bs.length).2.map fun (n : Nat) => (n : Int)).map PyData.int)) := TD.new hA2 (by rw [List.map_map]; exact TDs.map fun n _ => .int n)
    have k1' := k1.same s5
    generalize upd H4 A2 (.tup ((mvs W Hh xs bs bs.length).2.map iN)) = H5 at s5 k1' k2 ⊢
    wtm_at "jw"
    intro A3 hA3
    exact q _ _ (((s2.trans s4).trans s5).trans (same_new hA3)) (TD.new hA3 (.cons k1' (.cons k2 .nil)))
theorem shp_res (r : List Int × List Nat) : Shp 2 (resD r) := Shp.tup fun d hd => by
  rcases List.mem_cons.mp hd with rfl | hd
  · exact shp_ints _
  · rw [List.mem_singleton.mp hd]; exact shp_ints _
def sp__law_is_told (K : PySem.W.Frag) : Sp := fun vs H Q _ => ∃ (x y : V) (first : Nat) (xs : List Int) (seats W Hh : Int) (ks : List Str) (ds1 ds2 : List PyData) (bs : List Bd), vs = [x, y] ∧ TD K H x (.tuple (xs.map PyData.int)) ∧ Lout K H y first seats W Hh ks ds1 ds2 bs ∧ xs.length = 2 + first + 5 * bs.length ∧ bs.length ≤ 6 ∧ first ≤ 12 ∧
  ∀ H', Same H H' → Q (.bl true) H'
theorem ok__law_is_told {P : Program} {w : World} {K : PySem.W.Frag} {mg : Str → Option Value} {base : Heap} {f : Addr} {fd : FuncData} (F : Df K mg "_law_is_told" s__law_is_told f fd ["state", "layout"]) (T : Txt mg)
    (c_moved : Cl P w K mg base 3 "moved" (sp_moved K))
    (c__law_due : Cl P w K mg base 2 "_law_due" (sp__law_due K))
    (c__law_is_ints : Cl P w K mg base 2 "_law_is_ints" (sp__law_is_ints K)) : FnOk P w K mg base CX0 4 f fd ["state", "layout"] (sp__law_is_told K) := by
  refine F.ok sc__law_is_told (fun vs H Q E h => ?_) (fun cdv A outer s H vs Q E hr h => ?_)
  · obtain ⟨x, y, first, xs, seats, W, Hh, ks, ds1, ds2, bs, rfl, _⟩ := h
    rfl
  · obtain ⟨x, y, first, xs, seats, W, Hh, ks, ds1, ds2, bs, rfl, hx, ⟨hy, r1⟩, hxl, b6, f12, q⟩ := h
    refine ⟨_, (pss_cons (ps_set (i := 2) sc__law_is_told.nd rfl (Or.inl rfl) (pe_cl c_moved hr (by decide) rfl (pa_cons (pv 0) (pa_cons (pv 1) pa_nil))))
      (pss_cons (ps_if (PW.pt (pw_or (pt_not (pt_val (pe_callB (id := "isinstance") (r := rIsi K) call_isi (by rfl) T.b_isinstance (by decide +kernel) (pa_cons (pv 2) (pa_cons (pe_bltn (v := .ty "tuple") (u := Value.type "tuple") (by rfl) T.b_tuple (by decide +kernel) rfl) pa_nil))))) (pw_or (pt_cmpR op_ne (pe_callB (id := "len") (r := qLen K) c_len (by rfl) T.b_len (by decide +kernel) (pa_cons (pv 2) pa_nil)) pe_int (nomark _)) (pw_or (pt_not (pt_val (pe_cl c__law_is_ints hr (by decide) rfl (pa_cons (pe_ix (r := rIxT K) ix_tup (pv 2) pe_int (fun _ _ => rfl)) pa_nil)))) (pw_or1 (pt_not (pt_val (pe_cl c__law_is_ints hr (by decide) rfl (pa_cons (pe_ix (r := rIxT K) ix_tup (pv 2) pe_int (fun _ _ => rfl)) pa_nil))))))))) (pss_one (ps_ret pe_bl)) pss_nil)
      (pss_one (ps_ret (pe_cmpR (r := rEqD K) (op_eqD hr.units) (pv 2) (pe_cl c__law_due hr (by decide) rfl (pa_cons (pv 0) (pa_cons (pv 1) pa_nil))) (nomark _)))))), ?_⟩
    try dsimp only [cxOf, Cx.nox, Cx.wish]
    refine st_of (σ' := [some _, some _, none]) rfl ?_
    wtm_at "jw"
    refine ⟨x, y, first, xs, seats, W, Hh, ks, ds1, ds2, bs, rfl, hx, ⟨hy, r1⟩, hxl, b6, f12, fun v H1 s1 hv => ?_⟩
    have hx1 := hx.same s1
    have hy1 := hy.same s1
    have ml := mvs_len W Hh xs bs bs.length
    have mh := (mvs_hits W Hh xs bs bs.length).2
    generalize hmv : mvs W Hh xs bs bs.length = mv at hv ml mh
    have hv1 : TD K H1 v (.tuple [.tuple (mv.1.map PyData.int), .tuple ((mv.2.map fun (n : Nat) => (n : Int)).map PyData.int)]) := hv
    wtm_at "jw"
    refine i_isiT hv1 rfl ?_
    wtm_at "jw"
    refine c_noN rfl ?_
    wtm_at "jw"
    rename_i y0 hy0
    refine ⟨y0, mv.1, rfl, hy0, by omega, fun H2 s2 => ?_⟩
    have hx2 := hx1.same s2
    have hy2 := hy1.same s2
    have hv2 := hv1.same s2
    wtm_at "jw"
    rename_i y1 hy1'
    refine ⟨y1, _, rfl, hy1', by rw [List.length_map]; omega, fun H3 s3 => ?_⟩
    have hx3 := hx2.same s3
    have hy3 := hy2.same s3
    have hv3 := hv2.same s3
    wtm_at "jw"
    refine ⟨x, y, first, xs, seats, W, Hh, ks, ds1, ds2, bs, rfl, hx3, ⟨hy3, r1⟩, hxl, b6, f12, fun v4 H4 s4 hv4 => ?_⟩
    rw [hmv] at hv4
    have hv5 : TD K H4 v (resD mv) := hv3.same s4
    wtm_at "jw"
    refine i_eqS' hv5.dp hv4.dp (shp_res mv) (by decide) ?_
    exact q _ (((s1.trans s2).trans s3).trans s4)
def sp__law_turned (K : PySem.W.Frag) : Sp := fun vs H Q _ => ∃ (p a : Addr) (x y z : V) (first : Nat) (xs : List Int) (hs : List Nat) (seats W Hh : Int) (ks : List Str) (ds1 ds2 : List PyData) (bs : List Bd), vs = [.ref p, x, z, y] ∧ DrawAt H p a ∧ TD K H x (.tuple (xs.map PyData.int)) ∧ TD K H z (.tuple ((hs.map fun (n : Nat) => (n : Int)).map PyData.int)) ∧ Lout K H y first seats W Hh ks ds1 ds2 bs ∧ xs.length = 2 + first + 5 * bs.length ∧ bs.length ≤ 6 ∧ first ≤ 12 ∧ (∀ u ∈ hs, u < bs.length) ∧
  ∀ v (xs' : List Int) H', Drew p a H H' → TD K H' v (.tuple (xs'.map PyData.int)) → xs'.length = xs.length → Q v H'
theorem ok__law_turned {P : Program} {w : World} {K : PySem.W.Frag} {mg : Str → Option Value} {base : Heap} {f : Addr} {fd : FuncData} (F : Df K mg "_law_turned" s__law_turned f fd ["d", "state", "hits", "layout"]) (T : Txt mg)
    (c__law_draw : Cl P w K mg base 1 "_law_draw" (sp__law_draw K))
    (c__law_hold : Cl P w K mg base 1 "_law_hold" (sp__law_hold K))
    (c__law_pick : Cl P w K mg base 2 "_law_pick" (sp__law_pick K)) : FnOk P w K mg base CX0 3 f fd ["d", "state", "hits", "layout"] (sp__law_turned K) := by
  refine F.ok sc__law_turned (fun vs H Q E h => ?_) (fun cdv A outer s H vs Q E hr h => ?_)
  · obtain ⟨p, a, x, y, z, first, xs, hs, seats, W, Hh, ks, ds1, ds2, bs, rfl, _⟩ := h
    rfl
  · obtain ⟨p, a, x, y, z, first, xs, hs, seats, W, Hh, ks, ds1, ds2, bs, rfl, d0, hx, hz, ⟨hy, _, _, _, hbs, _⟩, hxl, b6, f12, hlt, q⟩ := h
    unfold layD at hy
    obtain ⟨za, zs, rfl, hzS, hzT⟩ := hz.tup_inv
    rw [hzT.ints_inv] at hzS
    refine ⟨_, (pss_cons (ps_set (i := 4) sc__law_turned.nd rfl (Or.inl rfl) (pe_callTy (T := "list") (r := rLstOf K) c_lst (by rfl) T.b_list (by decide +kernel) (pa_cons (pv 1) pa_nil)))
      (pss_cons (ps_for PassesOwn.never rfl (pi_tup (pv 2)) (pg_name (i := 5) sc__law_turned.nd rfl (Or.inl rfl)) (pss_cons (ps_set (i := 6) sc__law_turned.nd rfl (Or.inl rfl) (pe_ix (r := rIx K) ix_seq (pe_ix (r := rIx K) ix_seq (pe_ix (r := rIxT K) ix_tup (pv 3) pe_int (fun _ _ => rfl)) (pv 5) (fun _ _ => rfl)) pe_int (fun _ _ => rfl)))
      (pss_one (ps_for PassesOwn.never rfl (pi_range2 rfl T.b_range (pa_cons pe_int (pa_cons pe_int pa_nil))) (pg_name (i := 7) sc__law_turned.nd rfl (Or.inl rfl)) (pss_one (ps_asg (pe_cl c__law_hold hr (by decide) rfl (pa_cons (pe_un un_neg pe_int) (pa_cons (pe_op op_sub pe_int (pe_ix (r := rIxL K) ix_list (pv 4) (pe_op op_add (pv 6) (pv 7)) (fun _ _ => rfl))) (pa_cons pe_int pa_nil)))) (pg_sub (pv 4) (pe_op op_add (pv 6) (pv 7)) set_list)))))))
      (pss_cons (ps_if (pt_cmpR op_gt (pe_callB (id := "len") (r := qLen K) c_len (by rfl) T.b_len (by decide +kernel) (pa_cons (pe_ix (r := rIxT K) ix_tup (pv 3) pe_int (fun _ _ => rfl)) pa_nil)) pe_int (nomark _)) (pss_cons (ps_set (i := 6) sc__law_turned.nd rfl (Or.inl rfl) (pe_ix (r := rIx K) ix_seq (pe_cl c__law_pick hr (by decide) rfl (pa_cons (pv 0) (pa_cons (pe_ix (r := rIxT K) ix_tup (pv 3) pe_int (fun _ _ => rfl)) pa_nil))) pe_int (fun _ _ => rfl)))
      (pss_cons (ps_set (i := 8) sc__law_turned.nd rfl (Or.inl rfl) (pe_cl c__law_draw hr (by decide) rfl (pa_cons (pv 0) (pa_cons pe_int pa_nil))))
      (pss_one (ps_if (pt_cmpR op_eq (pv 8) pe_int (nomark _)) (pss_one (ps_asg (pe_op op_sub pe_int (pe_ix (r := rIxL K) ix_list (pv 4) (pe_op op_add (pv 6) pe_int) (fun _ _ => rfl))) (pg_sub (pv 4) (pe_op op_add (pv 6) pe_int) set_list))) (pss_one (ps_asg (pe_op op_sub (pe_cl c__law_draw hr (by decide) rfl (pa_cons (pv 0) (pa_cons pe_int pa_nil))) pe_int) (pg_sub (pv 4) (pe_op op_add (pe_op op_add (pv 6) pe_int) (pv 8)) set_list))))))) pss_nil)
      (pss_one (ps_ret (pe_callTy (T := "tuple") (r := rTupOf K) c_tup (by rfl) T.b_tuple (by decide +kernel) (pa_cons (pv 4) pa_nil))))))), ?_⟩
    try dsimp only [cxOf, Cx.nox, Cx.wish]
    refine st_of (σ' := [some _, some _, some _, some _, none, none, none, none, none]) rfl ?_
    wtm_at "jw"
    refine i_lstTD hx fun vs F hvs hF => ?_
    rw [hvs.ints_inv]
    have w1 := d0.drew.new (o := .lst (xs.map V.int)) hF
    have s1 := same_new (o := .lst (xs.map V.int)) hF
    have hF1 := upd_same (H := H) (a := F) (o := .lst (xs.map V.int))
    have nF := d0.ne_none hF
    generalize upd H F (.lst (xs.map V.int)) = H1 at w1 s1 hF1 ⊢
    have hzS1 := Same.tup s1 hzS
    have hy1 := hy.same s1
    wtm_at "jw"
    refine f_tup (xs := (hs.map fun (n : Nat) => (n : Int)).map V.int) (fun i σ H' => Drew p a H H' ∧ Tps H1 H' ∧ ∃ (ys : List Int) (v5 v6 v7 : Option V), H' F = some (.lst (ys.map V.int)) ∧ ys.length = xs.length ∧ σ = [some (.ref p), some x, some (.ref za), some y, some (.ref F), v5, v6, v7, none])
      ⟨w1, Tps.refl, xs, none, none, none, hF1, rfl, rfl⟩ (fun i σ H' _ h => h.2.1.sq hzS1) (fun i u σ H' hi h => ?_) (fun σ H' h => ?_)
    · obtain ⟨w2, tp, ys, v5, v6, v7, hF2, hyl, rfl⟩ := h
      obtain ⟨u, hu, rfl⟩ : ∃ n : Nat, n ∈ hs ∧ u = .int (n : Int) := by
        have := List.mem_of_getElem? hi
        rw [List.map_map] at this
        obtain ⟨n, hn, rfl⟩ := List.mem_map.mp this
        exact ⟨n, hn, rfl⟩
      have hub := hlt u hu
      have hy2 := hy1.tps tp
      have eb := bd_at (bs := bs) hub
      rw [show ((0 : Int) + (u : Int)).toNat = ((u : Int)).toNat by omega] at eb
      obtain ⟨b1, b2, b3, b4, b5⟩ := hbs u bs[u] (List.getElem?_eq_getElem hub)
      generalize bs[u] = b at eb b1 b2 b3 b4 b5
      obtain ⟨at_, hat⟩ : ∃ n : Nat, b.2.1 = (n : Int) := ⟨b.2.1.toNat, by omega⟩
      unfold bD at eb
      rw [hat] at eb
      wtm_at "jw"
      refine f_range (fun j σ H2 => Drew p a H H2 ∧ Tps H' H2 ∧ ∃ (ys : List Int) (v7 : Option V), H2 F = some (.lst (ys.map V.int)) ∧ ys.length = xs.length ∧ σ = [some (.ref p), some x, some (.ref za), some y, some (.ref F), some (.int (u : Int)), some (.int (at_ : Int)), v7, none])
        ⟨w2, Tps.refl, ys, _, hF2, hyl, rfl⟩ (fun j σ H2 hj h => ?_) (fun σ H2 h => ?_)
      · obtain ⟨w3, tp3, ys, v7, hF3, hyl, rfl⟩ := h
        have hj' : j < 2 := by omega
        have ex := xg_at (xs := ys) (i := at_ + 2 + j) (j := (at_ : Int) + (2 + (j : Int))) (by omega) (by omega)
        have ix := ixN_of (n := (ys.map V.int).length) (i := (at_ : Int) + (2 + (j : Int))) (by omega) (by rw [List.length_map]; omega)
        wtm_at "jw"
        refine ⟨_, _, _, rfl, ?_⟩
        wtm_at "jw"
        refine ⟨w3.put d0 hF, tp3.trans (tps_put hF3), ys.set ((at_ : Int) + (2 + (j : Int))).toNat (hol (-32768) (0 - xg ys (at_ + 2 + j)) 32767), _, ?_, by rw [List.length_set, hyl], rfl⟩
        rw [upd_same, List.map_set]; rfl
      · obtain ⟨w3, tp3, ys, v7, hF3, hyl, rfl⟩ := h
        exact ⟨w3, tp.trans tp3, ys, _, _, _, hF3, hyl, rfl⟩
    · obtain ⟨w2, tp, ys, v5, v6, v7, hF2, hyl, rfl⟩ := h
      have hy2 := hy1.tps tp
      have fin : ∀ (H3 : Hp) (ys : List Int), Drew p a H H3 → H3 F = some (.lst (ys.map V.int)) → ys.length = xs.length → ∀ r, H3 r = none → Q (.ref r) (upd H3 r (.tup (ys.map V.int))) := fun H3 ys w hF3 hl r hr' =>
        q _ ys _ (w.new hr') (TD.new hr' (TDs.ints ys)) hl
      wtm_at "jw"
      rw [List.length_map]
      refine c_dec (fun h => ?_) (fun h => ?_)
      · wtm_at "jw"
        rename_i yb hyb
        obtain ⟨ba, bxs, rfl, hbS, hbT⟩ := hyb.tup_inv
        have hbl := hbT.len
        rw [List.length_map] at hbl
        refine pickT w2 hbS (by omega) (by omega) fun b' H3 hb' e w3 => ?_
        obtain ⟨d, hd, hbd⟩ := hbT.mem hb'
        obtain ⟨b, hb, rfl⟩ := List.mem_map.mp hd
        obtain ⟨i, hi⟩ := List.getElem?_of_mem hb
        have hil := (List.getElem?_eq_some_iff.mp hi).1
        obtain ⟨b1, b2, b3, b4, b5⟩ := hbs i b hi
        have hF3 := e.kp _ _ hF2 nF
        have hbd3 : TD K H3 b' (.tuple [.str b.1, .int b.2.1, .int b.2.2.1, .int b.2.2.2]) := hbd.tps (e.tps w2.at_)
        wtm_at "jw"
        refine drawL w3 (by decide) (by decide) fun way H4 z0 z1 e w4 => ?_
        have hF4 := e.kp _ _ hF3 nF
        wtm_at "jw"
        refine c_dec (fun h2 => ?_) (fun h2 => ?_)
        · have ex := xg_at (xs := ys) (i := (b.2.1 + 4).toNat) (j := b.2.1 + 4) (by omega) (by omega)
          have ix := ixN_of (n := (ys.map V.int).length) (i := b.2.1 + 4) (by omega) (by rw [List.length_map]; omega)
          wtm_at "jw"
          intro r hr'
          have := fin _ (ys.set (b.2.1 + 4).toNat (1 - xg ys (b.2.1 + 4).toNat)) (w4.put (o := .lst ((ys.map V.int).set (b.2.1 + 4).toNat (.int (1 - xg ys (b.2.1 + 4).toNat)))) d0 hF) (by rw [upd_same, List.map_set]) (by rw [List.length_set, hyl]) r hr'
          rw [List.map_set] at this
          exact this
        · wtm_at "jw"
          refine drawL w4 (by decide) (by decide) fun u H5 _ _ e w5 => ?_
          have hF5 := e.kp _ _ hF4 nF
          have ix := ixN_of (n := (ys.map V.int).length) (i := b.2.1 + 2 + way) (by omega) (by rw [List.length_map]; omega)
          wtm_at "jw"
          intro r hr'
          have := fin _ (ys.set (b.2.1 + 2 + way).toNat (u - 512)) (w5.put (o := .lst ((ys.map V.int).set (b.2.1 + 2 + way).toNat (.int (u - 512)))) d0 hF) (by rw [upd_same, List.map_set]) (by rw [List.length_set, hyl]) r hr'
          rw [List.map_set] at this
          exact this
      · wtm_at "jw"
        intro r hr'
        exact fin _ ys w2 hF2 hyl r hr'
def sp_law (K : PySem.W.Frag) : Sp := fun vs H Q _ => ∃ (a : Addr) (ns : List Int), vs = [.ref a] ∧ SqL K H a (ns.map V.int) ∧ ns.length ≤ 63 ∧ ∀ H', Q (.bl true) H'
theorem Lout.tps {K : PySem.W.Frag} {H H' : Hp} {v : V} {first : Nat} {seats W Hh : Int} {ks : List Str} {ds1 ds2 : List PyData} {bs : List Bd} (t : Tps H H') (h : Lout K H v first seats W Hh ks ds1 ds2 bs) : Lout K H' v first seats W Hh ks ds1 ds2 bs := ⟨h.1.tps t, h.2⟩
theorem ok_law {P : Program} {w : World} {K : PySem.W.Frag} {mg : Str → Option Value} {base : Heap} {f : Addr} {fd : FuncData} (F : Df K mg "law" s_law f fd ["script"]) (T : Txt mg)
    (c__law_begin : Cl P w K mg base 1 "_law_begin" (sp__law_begin K))
    (c__law_pick : Cl P w K mg base 2 "_law_pick" (sp__law_pick K))
    (c__law_layout : Cl P w K mg base 4 "_law_layout" (sp__law_layout K))
    (c__law_state_of : Cl P w K mg base 4 "_law_state_of" (sp__law_state_of K))
    (c__law_due : Cl P w K mg base 2 "_law_due" (sp__law_due K))
    (c__law_turned : Cl P w K mg base 3 "_law_turned" (sp__law_turned K))
    (c__law_is_told : Cl P w K mg base 4 "_law_is_told" (sp__law_is_told K))
    (c__law_draw : Cl P w K mg base 1 "_law_draw" (sp__law_draw K)) : FnOk P w K mg base CX0 5 f fd ["script"] (sp_law K) := by
  refine F.ok sc_law (fun vs H Q E h => ?_) (fun cdv A outer s H vs Q E hr h => ?_)
  · obtain ⟨a, ns, rfl, _⟩ := h
    rfl
  · obtain ⟨a, ns, rfl, hS, hl, k⟩ := h
    refine ⟨_, (pss_cons (ps_set (i := 1) sc_law.nd rfl (Or.inl rfl) (pe_cl c__law_begin hr (by decide) rfl (pa_cons (pv 0) pa_nil)))
      (pss_cons (ps_set (i := 2) sc_law.nd rfl (Or.inl rfl) (pe_cl c__law_pick hr (by decide) rfl (pa_cons (pv 1) (pa_cons (pe_lst (pa_cons pe_int (pa_cons pe_int (pa_cons pe_int (pa_cons pe_int (pa_cons pe_int (pa_cons pe_int (pa_cons pe_int (pa_cons pe_int pa_nil))))))))) pa_nil))))
      (pss_cons (ps_set (i := 3) sc_law.nd rfl (Or.inl rfl) (pe_cl c__law_layout hr (by decide) rfl (pa_cons (pv 1) (pa_cons (pe_op op_add pe_int (pe_cl c__law_draw hr (by decide) rfl (pa_cons (pv 1) (pa_cons pe_int pa_nil)))) (pa_cons (pe_cl c__law_pick hr (by decide) rfl (pa_cons (pv 1) (pa_cons (pe_lst (pa_cons pe_int (pa_cons pe_int (pa_cons pe_int (pa_cons pe_int (pa_cons pe_int pa_nil)))))) pa_nil))) (pa_cons (pv 2) pa_nil))))))
      (pss_cons (ps_set (i := 4) sc_law.nd rfl (Or.inl rfl) (pe_op (r := rCatA K) op_catA (pe_op (r := rCatA K) op_catA (pe_slice (r := rSlQ K) sl_tupQ (pv 3) po_none (po_some pe_int)) (pe_tup (pa_cons (pe_ix (r := rIxT K) ix_tup (pv 3) pe_int (fun _ _ => rfl)) (pa_cons (pe_ix (r := rIxT K) ix_tup (pv 3) pe_int (fun _ _ => rfl)) pa_nil)))) (pe_slice (r := rSlQ K) sl_tupQ (pv 3) (po_some pe_int) po_none)))
      (pss_cons (ps_set (i := 5) sc_law.nd rfl (Or.inl rfl) (pe_cl c__law_state_of hr (by decide) rfl (pa_cons (pv 1) (pa_cons (pv 3) pa_nil))))
      (pss_cons (ps_set (i := 6) sc_law.nd rfl (Or.inl rfl) (pv 5))
      (pss_cons (ps_for PassesOwn.never rfl (pi_range1 rfl T.b_range (pa_cons (pe_op op_add pe_int (pe_cl c__law_draw hr (by decide) rfl (pa_cons (pv 1) (pa_cons pe_int pa_nil)))) pa_nil)) (pg_name (i := 7) sc_law.nd rfl (Or.inl rfl)) (pss_cons (ps_if (PW.pt (pw_or (pt_not (pt_val (pe_cl c__law_is_told hr (by decide) rfl (pa_cons (pv 6) (pa_cons (pv 3) pa_nil))))) (pw_or1 (pt_not (pt_val (pe_cl c__law_is_told hr (by decide) rfl (pa_cons (pv 6) (pa_cons (pv 4) pa_nil)))))))) (pss_one (ps_ret pe_bl)) pss_nil)
      (pss_cons (ps_asg (pe_cl c__law_due hr (by decide) rfl (pa_cons (pv 6) (pa_cons (pv 3) pa_nil))) (pg_tupK (K := K) rfl rfl (pgs_cons (pg_name (i := 8) sc_law.nd rfl (Or.inl rfl)) (pgs_cons (pg_name (i := 9) sc_law.nd rfl (Or.inl rfl)) pgs_nil))))
      (pss_one (ps_set (i := 6) sc_law.nd rfl (Or.inl rfl) (pe_cl c__law_turned hr (by decide) rfl (pa_cons (pv 1) (pa_cons (pv 8) (pa_cons (pv 9) (pa_cons (pv 3) pa_nil))))))))))
      (pss_one (ps_ret (pe_and (pe_cl c__law_is_told hr (by decide) rfl (pa_cons (pv 6) (pa_cons (pv 3) pa_nil))) (pe_one (pe_cl c__law_is_told hr (by decide) rfl (pa_cons (pv 5) (pa_cons (pv 3) pa_nil)))))))))))))), ?_⟩
    try dsimp only [cxOf, Cx.nox, Cx.wish]
    refine st_of (σ' := [some _, none, none, none, none, none, none, none, none, none]) rfl ?_
    wtm_at "jw"
    refine ⟨a, ns, rfl, hS, hl, fun p c H0 s0 hp hc d0 => ?_⟩
    have w0 := d0.drew
    wtm_at "jw"
    intro B1 hB1
    wtm_at "jw"
    refine pickL (fun z => 0 ≤ z ∧ z ≤ 6) [2, 3, 6, 1, 4, 5, 2, 0] w0 hB1 rfl (by decide) (by decide) (by decide) fun z1 H1 hz1 _ w1 => ?_
    wtm_at "jw"
    refine drawL w1 (by decide) (by decide) fun z2 H2 _ _ _ w2 => ?_
    wtm_at "jw"
    intro B2 hB2
    wtm_at "jw"
    refine pickL (fun z => 0 ≤ z ∧ z ≤ 12) [0, 1, 2, 3, 12] w2 hB2 rfl (by decide) (by decide) (by decide) fun z3 H3 hz3 _ w3 => ?_
    obtain ⟨many, rfl⟩ : ∃ n : Nat, z1 = (n : Int) := ⟨z1.toNat, by omega⟩
    obtain ⟨first, rfl⟩ : ∃ n : Nat, z3 = (n : Int) := ⟨z3.toNat, by omega⟩
    wtm_at "jw"
    refine ⟨p, c, _, first, many, rfl, w3.at_, by omega, by omega, fun y W Hh ks ds1 ds2 bs H4 e4 hy hbl => ?_⟩
    have w4 := w3.trans e4
    have b6 : bs.length ≤ 6 := by omega
    have f12 : first ≤ 12 := by omega
    obtain ⟨hyt, hyr⟩ := id hy
    obtain ⟨ya, yxs, rfl, hyS, hyT⟩ := hyt.tup_inv
    rcases hyT with _ | ⟨k1, _ | ⟨k2, _ | ⟨k3, _ | ⟨k4, _ | ⟨k5, _ | ⟨k6, _ | ⟨k7, _ | _⟩⟩⟩⟩⟩⟩⟩
    rename_i u1 u2 u3 u4 u5 u6 u7
    have t4 : Tps H4 H4 := Tps.refl
    wtm_at "jw"
    refine i_slA hyS fun r1 H5 s5 hr1 => ?_
    have hyS5 := Same.tup s5 hyS
    have k4' := k4.same s5
    have k5' := k5.same s5
    have hyt5 := hyt.same s5
    have hyt5' := hyt5
    unfold layD at hyt5'
    wtm_at "jw"
    intro r2 hr2
    have s6 := same_new (o := .tup [.int Hh, .int W]) hr2
    have hr2S : SqT K (upd H5 r2 (.tup [.int Hh, .int W])) r2 [.int Hh, .int W] := SqT.of upd_same
    have hr1S := Same.tup s6 hr1
    generalize upd H5 r2 (.tup [.int Hh, .int W]) = H6 at s6 hr2S hr1S ⊢
    have hyS6 := Same.tup s6 hyS5
    wtm_at "jw"
    refine i_catA hr1S hr2S (by rw [sizeLine_eq]; simp [cutV]; omega) fun r3 H7 s7 hr3S => ?_
    have s7' : Same H6 H7 := s7
    have hyS7 := Same.tup s7' hyS6
    wtm_at "jw"
    refine i_slA hyS7 fun r4 H8 s8 hr4S => ?_
    have hr3S' := Same.tup s8 hr3S
    wtm_at "jw"
    refine i_catA hr3S' hr4S (by rw [sizeLine_eq]; simp [cutV]; omega) fun r5 H9 s9 hr5S => ?_
    have s49 : Same H4 H9 := (((s5.trans s6).trans s7').trans s8).trans s9
    have hy9 := hy.tps (Tps.of s49)
    have hex : Lout K H9 (.ref r5) first (1 + z2) Hh W ks ds1 ds2 bs := by
      refine ⟨.tup (xs := [u1, u2, u3, .int Hh, .int W, u6, u7]) hr5S (.cons (k1.same s49) (.cons (k2.same s49) (.cons (k3.same s49) (.cons (.int _) (.cons (.int _) (.cons (k6.same s49) (.cons (k7.same s49) .nil))))))), hyr.1, hyr.2.1, hyr.2.2.1, hyr.2.2.2.1, ?_⟩
      obtain ⟨_, _, _, _, a1, a2, a3, a4, a5⟩ := hyr
      exact ⟨a3, a4, a1, a2, a5⟩
    have w9 := w4.same s49
    wtm_at "jw"
    refine ⟨p, c, _, first, _, W, Hh, ks, ds1, ds2, bs, rfl, w9.at_, hy9, b6, f12, fun v xs H10 e10 hv hxl => ?_⟩
    have w10 := w9.trans e10
    have hy10 := hy9.tps (e10.tps w9.at_)
    have hex10 := hex.tps (e10.tps w9.at_)
    wtm_at "jw"
    refine drawL w10 (by decide) (by decide) fun z4 H11 _ _ e11 w11 => ?_
    have hy11 := hy10.tps (e11.tps w10.at_)
    have hex11 := hex10.tps (e11.tps w10.at_)
    have hv11 := hv.tps (e11.tps w10.at_)
    wtm_at "jw"
    refine f_range (fun i σ H' => Drew p c H0 H' ∧ Tps H11 H' ∧ ∃ (sv : V) (ys : List Int) (v7 v8 v9 : Option V), TD K H' sv (.tuple (ys.map PyData.int)) ∧ ys.length = 2 + first + 5 * bs.length ∧ σ = [some (.ref a), some (.ref p), some (.int (many : Int)), some (.ref ya), some (.ref r5), some v, some sv, v7, v8, v9])
      ⟨w11, Tps.refl, v, xs, none, none, none, hv11, hxl, rfl⟩ (fun i σ H' hi h => ?_) (fun σ H' h => ?_)
    · obtain ⟨w12, tp, sv, ys, v7, v8, v9, hsv, hyl, rfl⟩ := h
      have hy12 := hy11.tps tp
      have hex12 := hex11.tps tp
      wtm_at "jw"
      refine ⟨sv, _, first, ys, _, W, Hh, ks, ds1, ds2, bs, rfl, hsv, hy12, hyl, b6, f12, fun H13 s13 => ?_⟩
      have hsv13 := hsv.same s13
      have hex13 := hex12.tps (Tps.of s13)
      have hy13 := hy12.tps (Tps.of s13)
      wtm_at "jw"
      refine ⟨sv, _, first, ys, _, Hh, W, ks, ds1, ds2, bs, rfl, hsv13, hex13, hyl, b6, f12, fun H14 s14 => ?_⟩
      have hsv14 := hsv13.same s14
      have hy14 := hy13.tps (Tps.of s14)
      wtm_at "jw"
      refine ⟨sv, _, first, ys, _, W, Hh, ks, ds1, ds2, bs, rfl, hsv14, hy14, hyl, b6, f12, fun rv H15 s15 hrv => ?_⟩
      have hy15 := hy14.tps (Tps.of s15)
      have w15 := ((w12.same s13).same s14).same s15
      wtm_at "jw"
      refine i_gTupD (ds := [.tuple ((mvs W Hh ys bs bs.length).1.map PyData.int), .tuple (((mvs W Hh ys bs bs.length).2.map fun (n : Nat) => (n : Int)).map PyData.int)]) hrv rfl fun zs hzs => ?_
      rcases hzs with _ | ⟨m1, _ | ⟨m2, _ | _⟩⟩
      wtm_at "jw"
      refine ⟨p, c, _, _, _, first, (mvs W Hh ys bs bs.length).1, (mvs W Hh ys bs bs.length).2, _, W, Hh, ks, ds1, ds2, bs, rfl, w15.at_, m1, m2, hy15, by rw [mvs_len]; exact hyl, b6, f12, (mvs_hits W Hh ys bs bs.length).1, fun v' ys' H16 e16 hv' hl' => ?_⟩
      wtm_at "jw"
      exact ⟨w15.trans e16, (((tp.trans (Tps.of s13)).trans (Tps.of s14)).trans (Tps.of s15)).trans (e16.tps w15.at_), v', ys', _, _, _, hv', by rw [hl', mvs_len]; exact hyl, rfl⟩
    · obtain ⟨w12, tp, sv, ys, v7, v8, v9, hsv, hyl, rfl⟩ := h
      have hy12 := hy11.tps tp
      have hv12 := hv11.tps tp
      wtm_at "jw"
      refine ⟨sv, _, first, ys, _, W, Hh, ks, ds1, ds2, bs, rfl, hsv, hy12, hyl, b6, f12, fun H13 s13 => ?_⟩
      wtm_at "jw"
      refine ⟨v, _, first, xs, _, W, Hh, ks, ds1, ds2, bs, rfl, hv12.same s13, hy12.tps (Tps.of s13), hxl, b6, f12, fun H14 s14 => ?_⟩
      exact k _
theorem law_hands {K : PySem.W.Frag} {H : Hp} (a : Addr) (ns : List Int) (hl : ns.length ≤ 63) (hb : ∀ z ∈ ns, Builtin.Int.intBits z ≤ 1048576) (h : SqL K H a (ns.map V.int)) :
    sp_law K [.ref a] H (fun v _ => v = .bl true) fun _ _ _ => False := ⟨a, ns, rfl, h, hl, fun _ => rfl⟩
theorem all_mk {l : PySem.W.OpenLaw} {w : World} {K : PySem.W.Frag} {h : Heap} {mg : Str → Option Value} {fa : Addr} (X : K.In h) (G : h.Ns mainGlobals mg) (hfa : mg "law" = some (.ref fa))
    {f__law_begin : Addr} {od__law_begin an__law_begin : Option Addr} {sl__law_begin : Array (Option Value)} {oc__law_begin kV__law_begin dc__law_begin pm__law_begin cd__law_begin ct__law_begin : Value}
    {f__law_draw : Addr} {od__law_draw an__law_draw : Option Addr} {sl__law_draw : Array (Option Value)} {oc__law_draw kV__law_draw dc__law_draw pm__law_draw cd__law_draw ct__law_draw : Value}
    {f__law_pick : Addr} {od__law_pick an__law_pick : Option Addr} {sl__law_pick : Array (Option Value)} {oc__law_pick kV__law_pick dc__law_pick pm__law_pick cd__law_pick ct__law_pick : Value}
    {f__law_pool : Addr} {od__law_pool an__law_pool : Option Addr} {sl__law_pool : Array (Option Value)} {oc__law_pool kV__law_pool dc__law_pool pm__law_pool cd__law_pool ct__law_pool : Value}
    {f__law_side : Addr} {od__law_side an__law_side : Option Addr} {sl__law_side : Array (Option Value)} {oc__law_side kV__law_side dc__law_side pm__law_side cd__law_side ct__law_side : Value}
    {f__law_pop : Addr} {od__law_pop an__law_pop : Option Addr} {sl__law_pop : Array (Option Value)} {oc__law_pop kV__law_pop dc__law_pop pm__law_pop cd__law_pop ct__law_pop : Value}
    {f__law_any_fixed : Addr} {od__law_any_fixed an__law_any_fixed : Option Addr} {sl__law_any_fixed : Array (Option Value)} {oc__law_any_fixed kV__law_any_fixed dc__law_any_fixed pm__law_any_fixed cd__law_any_fixed ct__law_any_fixed : Value}
    {f__law_layout : Addr} {od__law_layout an__law_layout : Option Addr} {sl__law_layout : Array (Option Value)} {oc__law_layout kV__law_layout dc__law_layout pm__law_layout cd__law_layout ct__law_layout : Value}
    {f__law_axis : Addr} {od__law_axis an__law_axis : Option Addr} {sl__law_axis : Array (Option Value)} {oc__law_axis kV__law_axis dc__law_axis pm__law_axis cd__law_axis ct__law_axis : Value}
    {f__law_state_of : Addr} {od__law_state_of an__law_state_of : Option Addr} {sl__law_state_of : Array (Option Value)} {oc__law_state_of kV__law_state_of dc__law_state_of pm__law_state_of cd__law_state_of ct__law_state_of : Value}
    {f__law_hold : Addr} {od__law_hold an__law_hold : Option Addr} {sl__law_hold : Array (Option Value)} {oc__law_hold kV__law_hold dc__law_hold pm__law_hold cd__law_hold ct__law_hold : Value}
    {f__law_due : Addr} {od__law_due an__law_due : Option Addr} {sl__law_due : Array (Option Value)} {oc__law_due kV__law_due dc__law_due pm__law_due cd__law_due ct__law_due : Value}
    {f__law_turned : Addr} {od__law_turned an__law_turned : Option Addr} {sl__law_turned : Array (Option Value)} {oc__law_turned kV__law_turned dc__law_turned pm__law_turned cd__law_turned ct__law_turned : Value}
    {f_clamp : Addr} {od_clamp an_clamp : Option Addr} {sl_clamp : Array (Option Value)} {oc_clamp kV_clamp dc_clamp pm_clamp cd_clamp ct_clamp : Value}
    {f_held : Addr} {od_held an_held : Option Addr} {sl_held : Array (Option Value)} {oc_held kV_held dc_held pm_held cd_held ct_held : Value}
    {f_move_all : Addr} {od_move_all an_move_all : Option Addr} {sl_move_all : Array (Option Value)} {oc_move_all kV_move_all dc_move_all pm_move_all cd_move_all ct_move_all : Value}
    {f_moved : Addr} {od_moved an_moved : Option Addr} {sl_moved : Array (Option Value)} {oc_moved kV_moved dc_moved pm_moved cd_moved ct_moved : Value}
    {f__law_is_int : Addr} {od__law_is_int an__law_is_int : Option Addr} {sl__law_is_int : Array (Option Value)} {oc__law_is_int kV__law_is_int dc__law_is_int pm__law_is_int cd__law_is_int ct__law_is_int : Value}
    {f__law_is_ints : Addr} {od__law_is_ints an__law_is_ints : Option Addr} {sl__law_is_ints : Array (Option Value)} {oc__law_is_ints kV__law_is_ints dc__law_is_ints pm__law_is_ints cd__law_is_ints ct__law_is_ints : Value}
    {f__law_is_told : Addr} {od__law_is_told an__law_is_told : Option Addr} {sl__law_is_told : Array (Option Value)} {oc__law_is_told kV__law_is_told dc__law_is_told pm__law_is_told cd__law_is_told ct__law_is_told : Value}
    {f_law : Addr} {od_law an_law : Option Addr} {sl_law : Array (Option Value)} {oc_law kV_law dc_law pm_law cd_law ct_law : Value}
    (a__law_begin : PySem.W.nsIn K mainGlobals "_law_begin" = some (some (.ref f__law_begin))) (l__law_begin : K.lookup f__law_begin = some ⟨oc__law_begin, od__law_begin, .func (PySem.W.fnOf "_law_begin" "_law_begin" (defArgs s__law_begin) (defBody s__law_begin) (defScope s__law_begin) .none kV__law_begin dc__law_begin pm__law_begin an__law_begin cd__law_begin ct__law_begin), sl__law_begin⟩) (c__law_begin : PySem.W.codeIn K cd__law_begin "_law_begin" = true) (k__law_begin : PySem.W.keepIn K (.ref f__law_begin) = true)
    (a__law_draw : PySem.W.nsIn K mainGlobals "_law_draw" = some (some (.ref f__law_draw))) (l__law_draw : K.lookup f__law_draw = some ⟨oc__law_draw, od__law_draw, .func (PySem.W.fnOf "_law_draw" "_law_draw" (defArgs s__law_draw) (defBody s__law_draw) (defScope s__law_draw) .none kV__law_draw dc__law_draw pm__law_draw an__law_draw cd__law_draw ct__law_draw), sl__law_draw⟩) (c__law_draw : PySem.W.codeIn K cd__law_draw "_law_draw" = true) (k__law_draw : PySem.W.keepIn K (.ref f__law_draw) = true)
    (a__law_pick : PySem.W.nsIn K mainGlobals "_law_pick" = some (some (.ref f__law_pick))) (l__law_pick : K.lookup f__law_pick = some ⟨oc__law_pick, od__law_pick, .func (PySem.W.fnOf "_law_pick" "_law_pick" (defArgs s__law_pick) (defBody s__law_pick) (defScope s__law_pick) .none kV__law_pick dc__law_pick pm__law_pick an__law_pick cd__law_pick ct__law_pick), sl__law_pick⟩) (c__law_pick : PySem.W.codeIn K cd__law_pick "_law_pick" = true) (k__law_pick : PySem.W.keepIn K (.ref f__law_pick) = true)
    (a__law_pool : PySem.W.nsIn K mainGlobals "_law_pool" = some (some (.ref f__law_pool))) (l__law_pool : K.lookup f__law_pool = some ⟨oc__law_pool, od__law_pool, .func (PySem.W.fnOf "_law_pool" "_law_pool" (defArgs s__law_pool) (defBody s__law_pool) (defScope s__law_pool) .none kV__law_pool dc__law_pool pm__law_pool an__law_pool cd__law_pool ct__law_pool), sl__law_pool⟩) (c__law_pool : PySem.W.codeIn K cd__law_pool "_law_pool" = true) (k__law_pool : PySem.W.keepIn K (.ref f__law_pool) = true)
    (a__law_side : PySem.W.nsIn K mainGlobals "_law_side" = some (some (.ref f__law_side))) (l__law_side : K.lookup f__law_side = some ⟨oc__law_side, od__law_side, .func (PySem.W.fnOf "_law_side" "_law_side" (defArgs s__law_side) (defBody s__law_side) (defScope s__law_side) .none kV__law_side dc__law_side pm__law_side an__law_side cd__law_side ct__law_side), sl__law_side⟩) (c__law_side : PySem.W.codeIn K cd__law_side "_law_side" = true) (k__law_side : PySem.W.keepIn K (.ref f__law_side) = true)
    (a__law_pop : PySem.W.nsIn K mainGlobals "_law_pop" = some (some (.ref f__law_pop))) (l__law_pop : K.lookup f__law_pop = some ⟨oc__law_pop, od__law_pop, .func (PySem.W.fnOf "_law_pop" "_law_pop" (defArgs s__law_pop) (defBody s__law_pop) (defScope s__law_pop) .none kV__law_pop dc__law_pop pm__law_pop an__law_pop cd__law_pop ct__law_pop), sl__law_pop⟩) (c__law_pop : PySem.W.codeIn K cd__law_pop "_law_pop" = true) (k__law_pop : PySem.W.keepIn K (.ref f__law_pop) = true)
    (a__law_any_fixed : PySem.W.nsIn K mainGlobals "_law_any_fixed" = some (some (.ref f__law_any_fixed))) (l__law_any_fixed : K.lookup f__law_any_fixed = some ⟨oc__law_any_fixed, od__law_any_fixed, .func (PySem.W.fnOf "_law_any_fixed" "_law_any_fixed" (defArgs s__law_any_fixed) (defBody s__law_any_fixed) (defScope s__law_any_fixed) .none kV__law_any_fixed dc__law_any_fixed pm__law_any_fixed an__law_any_fixed cd__law_any_fixed ct__law_any_fixed), sl__law_any_fixed⟩) (c__law_any_fixed : PySem.W.codeIn K cd__law_any_fixed "_law_any_fixed" = true) (k__law_any_fixed : PySem.W.keepIn K (.ref f__law_any_fixed) = true)
    (a__law_layout : PySem.W.nsIn K mainGlobals "_law_layout" = some (some (.ref f__law_layout))) (l__law_layout : K.lookup f__law_layout = some ⟨oc__law_layout, od__law_layout, .func (PySem.W.fnOf "_law_layout" "_law_layout" (defArgs s__law_layout) (defBody s__law_layout) (defScope s__law_layout) .none kV__law_layout dc__law_layout pm__law_layout an__law_layout cd__law_layout ct__law_layout), sl__law_layout⟩) (c__law_layout : PySem.W.codeIn K cd__law_layout "_law_layout" = true) (k__law_layout : PySem.W.keepIn K (.ref f__law_layout) = true)
    (a__law_axis : PySem.W.nsIn K mainGlobals "_law_axis" = some (some (.ref f__law_axis))) (l__law_axis : K.lookup f__law_axis = some ⟨oc__law_axis, od__law_axis, .func (PySem.W.fnOf "_law_axis" "_law_axis" (defArgs s__law_axis) (defBody s__law_axis) (defScope s__law_axis) .none kV__law_axis dc__law_axis pm__law_axis an__law_axis cd__law_axis ct__law_axis), sl__law_axis⟩) (c__law_axis : PySem.W.codeIn K cd__law_axis "_law_axis" = true) (k__law_axis : PySem.W.keepIn K (.ref f__law_axis) = true)
    (a__law_state_of : PySem.W.nsIn K mainGlobals "_law_state_of" = some (some (.ref f__law_state_of))) (l__law_state_of : K.lookup f__law_state_of = some ⟨oc__law_state_of, od__law_state_of, .func (PySem.W.fnOf "_law_state_of" "_law_state_of" (defArgs s__law_state_of) (defBody s__law_state_of) (defScope s__law_state_of) .none kV__law_state_of dc__law_state_of pm__law_state_of an__law_state_of cd__law_state_of ct__law_state_of), sl__law_state_of⟩) (c__law_state_of : PySem.W.codeIn K cd__law_state_of "_law_state_of" = true) (k__law_state_of : PySem.W.keepIn K (.ref f__law_state_of) = true)
    (a__law_hold : PySem.W.nsIn K mainGlobals "_law_hold" = some (some (.ref f__law_hold))) (l__law_hold : K.lookup f__law_hold = some ⟨oc__law_hold, od__law_hold, .func (PySem.W.fnOf "_law_hold" "_law_hold" (defArgs s__law_hold) (defBody s__law_hold) (defScope s__law_hold) .none kV__law_hold dc__law_hold pm__law_hold an__law_hold cd__law_hold ct__law_hold), sl__law_hold⟩) (c__law_hold : PySem.W.codeIn K cd__law_hold "_law_hold" = true) (k__law_hold : PySem.W.keepIn K (.ref f__law_hold) = true)
    (a__law_due : PySem.W.nsIn K mainGlobals "_law_due" = some (some (.ref f__law_due))) (l__law_due : K.lookup f__law_due = some ⟨oc__law_due, od__law_due, .func (PySem.W.fnOf "_law_due" "_law_due" (defArgs s__law_due) (defBody s__law_due) (defScope s__law_due) .none kV__law_due dc__law_due pm__law_due an__law_due cd__law_due ct__law_due), sl__law_due⟩) (c__law_due : PySem.W.codeIn K cd__law_due "_law_due" = true) (k__law_due : PySem.W.keepIn K (.ref f__law_due) = true)
    (a__law_turned : PySem.W.nsIn K mainGlobals "_law_turned" = some (some (.ref f__law_turned))) (l__law_turned : K.lookup f__law_turned = some ⟨oc__law_turned, od__law_turned, .func (PySem.W.fnOf "_law_turned" "_law_turned" (defArgs s__law_turned) (defBody s__law_turned) (defScope s__law_turned) .none kV__law_turned dc__law_turned pm__law_turned an__law_turned cd__law_turned ct__law_turned), sl__law_turned⟩) (c__law_turned : PySem.W.codeIn K cd__law_turned "_law_turned" = true) (k__law_turned : PySem.W.keepIn K (.ref f__law_turned) = true)
    (a_clamp : PySem.W.nsIn K mainGlobals "clamp" = some (some (.ref f_clamp))) (l_clamp : K.lookup f_clamp = some ⟨oc_clamp, od_clamp, .func (PySem.W.fnOf "clamp" "clamp" (defArgs s_clamp) (defBody s_clamp) (defScope s_clamp) .none kV_clamp dc_clamp pm_clamp an_clamp cd_clamp ct_clamp), sl_clamp⟩) (c_clamp : PySem.W.codeIn K cd_clamp "clamp" = true) (k_clamp : PySem.W.keepIn K (.ref f_clamp) = true)
    (a_held : PySem.W.nsIn K mainGlobals "held" = some (some (.ref f_held))) (l_held : K.lookup f_held = some ⟨oc_held, od_held, .func (PySem.W.fnOf "held" "held" (defArgs s_held) (defBody s_held) (defScope s_held) .none kV_held dc_held pm_held an_held cd_held ct_held), sl_held⟩) (c_held : PySem.W.codeIn K cd_held "held" = true) (k_held : PySem.W.keepIn K (.ref f_held) = true)
    (a_move_all : PySem.W.nsIn K mainGlobals "move_all" = some (some (.ref f_move_all))) (l_move_all : K.lookup f_move_all = some ⟨oc_move_all, od_move_all, .func (PySem.W.fnOf "move_all" "move_all" (defArgs s_move_all) (defBody s_move_all) (defScope s_move_all) .none kV_move_all dc_move_all pm_move_all an_move_all cd_move_all ct_move_all), sl_move_all⟩) (c_move_all : PySem.W.codeIn K cd_move_all "move_all" = true) (k_move_all : PySem.W.keepIn K (.ref f_move_all) = true)
    (a_moved : PySem.W.nsIn K mainGlobals "moved" = some (some (.ref f_moved))) (l_moved : K.lookup f_moved = some ⟨oc_moved, od_moved, .func (PySem.W.fnOf "moved" "moved" (defArgs s_moved) (defBody s_moved) (defScope s_moved) .none kV_moved dc_moved pm_moved an_moved cd_moved ct_moved), sl_moved⟩) (c_moved : PySem.W.codeIn K cd_moved "moved" = true) (k_moved : PySem.W.keepIn K (.ref f_moved) = true)
    (a__law_is_int : PySem.W.nsIn K mainGlobals "_law_is_int" = some (some (.ref f__law_is_int))) (l__law_is_int : K.lookup f__law_is_int = some ⟨oc__law_is_int, od__law_is_int, .func (PySem.W.fnOf "_law_is_int" "_law_is_int" (defArgs s__law_is_int) (defBody s__law_is_int) (defScope s__law_is_int) .none kV__law_is_int dc__law_is_int pm__law_is_int an__law_is_int cd__law_is_int ct__law_is_int), sl__law_is_int⟩) (c__law_is_int : PySem.W.codeIn K cd__law_is_int "_law_is_int" = true) (k__law_is_int : PySem.W.keepIn K (.ref f__law_is_int) = true)
    (a__law_is_ints : PySem.W.nsIn K mainGlobals "_law_is_ints" = some (some (.ref f__law_is_ints))) (l__law_is_ints : K.lookup f__law_is_ints = some ⟨oc__law_is_ints, od__law_is_ints, .func (PySem.W.fnOf "_law_is_ints" "_law_is_ints" (defArgs s__law_is_ints) (defBody s__law_is_ints) (defScope s__law_is_ints) .none kV__law_is_ints dc__law_is_ints pm__law_is_ints an__law_is_ints cd__law_is_ints ct__law_is_ints), sl__law_is_ints⟩) (c__law_is_ints : PySem.W.codeIn K cd__law_is_ints "_law_is_ints" = true) (k__law_is_ints : PySem.W.keepIn K (.ref f__law_is_ints) = true)
    (a__law_is_told : PySem.W.nsIn K mainGlobals "_law_is_told" = some (some (.ref f__law_is_told))) (l__law_is_told : K.lookup f__law_is_told = some ⟨oc__law_is_told, od__law_is_told, .func (PySem.W.fnOf "_law_is_told" "_law_is_told" (defArgs s__law_is_told) (defBody s__law_is_told) (defScope s__law_is_told) .none kV__law_is_told dc__law_is_told pm__law_is_told an__law_is_told cd__law_is_told ct__law_is_told), sl__law_is_told⟩) (c__law_is_told : PySem.W.codeIn K cd__law_is_told "_law_is_told" = true) (k__law_is_told : PySem.W.keepIn K (.ref f__law_is_told) = true)
    (a_law : PySem.W.nsIn K mainGlobals "law" = some (some (.ref f_law))) (l_law : K.lookup f_law = some ⟨oc_law, od_law, .func (PySem.W.fnOf "law" "law" (defArgs s_law) (defBody s_law) (defScope s_law) .none kV_law dc_law pm_law an_law cd_law ct_law), sl_law⟩) (c_law : PySem.W.codeIn K cd_law "law" = true) (k_law : PySem.W.keepIn K (.ref f_law) = true)
    (z_int : PySem.W.nsIn K mainGlobals "int" = some none)
    (z_len : PySem.W.nsIn K mainGlobals "len" = some none)
    (z_abs : PySem.W.nsIn K mainGlobals "abs" = some none)
    (z_tuple : PySem.W.nsIn K mainGlobals "tuple" = some none)
    (z_range : PySem.W.nsIn K mainGlobals "range" = some none)
    (z_min : PySem.W.nsIn K mainGlobals "min" = some none)
    (z_max : PySem.W.nsIn K mainGlobals "max" = some none)
    (z_list : PySem.W.nsIn K mainGlobals "list" = some none)
    (z_isinstance : PySem.W.nsIn K mainGlobals "isinstance" = some none)
    (z_bool : PySem.W.nsIn K mainGlobals "bool" = some none)
    (z_all : PySem.W.nsIn K mainGlobals "all" = some none)
    {u_LOW : Value} (n_LOW : PySem.W.nsIn K mainGlobals "LOW" = some (some u_LOW)) (r_LOW : RelV (.int (-32768)) u_LOW)
    {u_HIGH : Value} (n_HIGH : PySem.W.nsIn K mainGlobals "HIGH" = some (some u_HIGH)) (r_HIGH : RelV (.int 32767) u_HIGH)
    {u_PART : Value} (n_PART : PySem.W.nsIn K mainGlobals "PART" = some (some u_PART)) (r_PART : RelV (.int 16) u_PART)
    : ∃ fd : FuncData, (∀ (s : Shared) (v : Value), BindsTo s fd ⟨[v], []⟩ [("script", v)]) ∧ ∀ base : Heap, K.In base → base.Ns mainGlobals mg → FnOk l.prog w K mg base CX0 5 fa fd ["script"] (sp_law K) := by
  have e := hfa.symm.trans (PySem.W.mg_of X G a_law)
  cases e
  have T : Txt mg := ⟨PySem.W.mg_none_of X G z_int, PySem.W.mg_none_of X G z_len, PySem.W.mg_none_of X G z_abs, PySem.W.mg_none_of X G z_tuple, PySem.W.mg_none_of X G z_range, PySem.W.mg_none_of X G z_min, PySem.W.mg_none_of X G z_max, PySem.W.mg_none_of X G z_list, PySem.W.mg_none_of X G z_isinstance, PySem.W.mg_none_of X G z_bool, PySem.W.mg_none_of X G z_all, ⟨_, PySem.W.mg_of X G n_LOW, r_LOW⟩, ⟨_, PySem.W.mg_of X G n_HIGH, r_HIGH⟩, ⟨_, PySem.W.mg_of X G n_PART, r_PART⟩⟩
  have F__law_begin := fun_mk (st := s__law_begin) l__law_begin c__law_begin k__law_begin
  have D__law_begin : Df K mg "_law_begin" s__law_begin f__law_begin _ ["script"] := ⟨F__law_begin, PySem.W.mg_of X G a__law_begin, F__law_begin.binds (ps := ["script"]) fun _ _ _ _ _ _ us hl => match us, hl with | [_], _ => rfl⟩
  have F__law_draw := fun_mk (st := s__law_draw) l__law_draw c__law_draw k__law_draw
  have D__law_draw : Df K mg "_law_draw" s__law_draw f__law_draw _ ["d", "many"] := ⟨F__law_draw, PySem.W.mg_of X G a__law_draw, F__law_draw.binds (ps := ["d", "many"]) fun _ _ _ _ _ _ us hl => match us, hl with | [_, _], _ => rfl⟩
  have F__law_pick := fun_mk (st := s__law_pick) l__law_pick c__law_pick k__law_pick
  have D__law_pick : Df K mg "_law_pick" s__law_pick f__law_pick _ ["d", "row"] := ⟨F__law_pick, PySem.W.mg_of X G a__law_pick, F__law_pick.binds (ps := ["d", "row"]) fun _ _ _ _ _ _ us hl => match us, hl with | [_, _], _ => rfl⟩
  have F__law_pool := fun_mk (st := s__law_pool) l__law_pool c__law_pool k__law_pool
  have D__law_pool : Df K mg "_law_pool" s__law_pool f__law_pool _ [] := ⟨F__law_pool, PySem.W.mg_of X G a__law_pool, F__law_pool.binds (ps := []) fun _ _ _ _ _ _ us hl => match us, hl with | [], _ => rfl⟩
  have F__law_side := fun_mk (st := s__law_side) l__law_side c__law_side k__law_side
  have D__law_side : Df K mg "_law_side" s__law_side f__law_side _ ["d", "low", "high"] := ⟨F__law_side, PySem.W.mg_of X G a__law_side, F__law_side.binds (ps := ["d", "low", "high"]) fun _ _ _ _ _ _ us hl => match us, hl with | [_, _, _], _ => rfl⟩
  have F__law_pop := fun_mk (st := s__law_pop) l__law_pop c__law_pop k__law_pop
  have D__law_pop : Df K mg "_law_pop" s__law_pop f__law_pop _ ["d", "row"] := ⟨F__law_pop, PySem.W.mg_of X G a__law_pop, F__law_pop.binds (ps := ["d", "row"]) fun _ _ _ _ _ _ us hl => match us, hl with | [_, _], _ => rfl⟩
  have F__law_any_fixed := fun_mk (st := s__law_any_fixed) l__law_any_fixed c__law_any_fixed k__law_any_fixed
  have D__law_any_fixed : Df K mg "_law_any_fixed" s__law_any_fixed f__law_any_fixed _ ["d"] := ⟨F__law_any_fixed, PySem.W.mg_of X G a__law_any_fixed, F__law_any_fixed.binds (ps := ["d"]) fun _ _ _ _ _ _ us hl => match us, hl with | [_], _ => rfl⟩
  have F__law_layout := fun_mk (st := s__law_layout) l__law_layout c__law_layout k__law_layout
  have D__law_layout : Df K mg "_law_layout" s__law_layout f__law_layout _ ["d", "seats", "first", "many"] := ⟨F__law_layout, PySem.W.mg_of X G a__law_layout, F__law_layout.binds (ps := ["d", "seats", "first", "many"]) fun _ _ _ _ _ _ us hl => match us, hl with | [_, _, _, _], _ => rfl⟩
  have F__law_axis := fun_mk (st := s__law_axis) l__law_axis c__law_axis k__law_axis
  have D__law_axis : Df K mg "_law_axis" s__law_axis f__law_axis _ ["d", "most"] := ⟨F__law_axis, PySem.W.mg_of X G a__law_axis, F__law_axis.binds (ps := ["d", "most"]) fun _ _ _ _ _ _ us hl => match us, hl with | [_, _], _ => rfl⟩
  have F__law_state_of := fun_mk (st := s__law_state_of) l__law_state_of c__law_state_of k__law_state_of
  have D__law_state_of : Df K mg "_law_state_of" s__law_state_of f__law_state_of _ ["d", "layout"] := ⟨F__law_state_of, PySem.W.mg_of X G a__law_state_of, F__law_state_of.binds (ps := ["d", "layout"]) fun _ _ _ _ _ _ us hl => match us, hl with | [_, _], _ => rfl⟩
  have F__law_hold := fun_mk (st := s__law_hold) l__law_hold c__law_hold k__law_hold
  have D__law_hold : Df K mg "_law_hold" s__law_hold f__law_hold _ ["low", "number", "high"] := ⟨F__law_hold, PySem.W.mg_of X G a__law_hold, F__law_hold.binds (ps := ["low", "number", "high"]) fun _ _ _ _ _ _ us hl => match us, hl with | [_, _, _], _ => rfl⟩
  have F__law_due := fun_mk (st := s__law_due) l__law_due c__law_due k__law_due
  have D__law_due : Df K mg "_law_due" s__law_due f__law_due _ ["state", "layout"] := ⟨F__law_due, PySem.W.mg_of X G a__law_due, F__law_due.binds (ps := ["state", "layout"]) fun _ _ _ _ _ _ us hl => match us, hl with | [_, _], _ => rfl⟩
  have F__law_turned := fun_mk (st := s__law_turned) l__law_turned c__law_turned k__law_turned
  have D__law_turned : Df K mg "_law_turned" s__law_turned f__law_turned _ ["d", "state", "hits", "layout"] := ⟨F__law_turned, PySem.W.mg_of X G a__law_turned, F__law_turned.binds (ps := ["d", "state", "hits", "layout"]) fun _ _ _ _ _ _ us hl => match us, hl with | [_, _, _, _], _ => rfl⟩
  have F_clamp := fun_mk (st := s_clamp) l_clamp c_clamp k_clamp
  have D_clamp : Df K mg "clamp" s_clamp f_clamp _ ["number"] := ⟨F_clamp, PySem.W.mg_of X G a_clamp, F_clamp.binds (ps := ["number"]) fun _ _ _ _ _ _ us hl => match us, hl with | [_], _ => rfl⟩
  have F_held := fun_mk (st := s_held) l_held c_held k_held
  have D_held : Df K mg "held" s_held f_held _ ["number", "most"] := ⟨F_held, PySem.W.mg_of X G a_held, F_held.binds (ps := ["number", "most"]) fun _ _ _ _ _ _ us hl => match us, hl with | [_, _], _ => rfl⟩
  have F_move_all := fun_mk (st := s_move_all) l_move_all c_move_all k_move_all
  have D_move_all : Df K mg "move_all" s_move_all f_move_all _ ["values", "layout"] := ⟨F_move_all, PySem.W.mg_of X G a_move_all, F_move_all.binds (ps := ["values", "layout"]) fun _ _ _ _ _ _ us hl => match us, hl with | [_, _], _ => rfl⟩
  have F_moved := fun_mk (st := s_moved) l_moved c_moved k_moved
  have D_moved : Df K mg "moved" s_moved f_moved _ ["state", "layout"] := ⟨F_moved, PySem.W.mg_of X G a_moved, F_moved.binds (ps := ["state", "layout"]) fun _ _ _ _ _ _ us hl => match us, hl with | [_, _], _ => rfl⟩
  have F__law_is_int := fun_mk (st := s__law_is_int) l__law_is_int c__law_is_int k__law_is_int
  have D__law_is_int : Df K mg "_law_is_int" s__law_is_int f__law_is_int _ ["thing"] := ⟨F__law_is_int, PySem.W.mg_of X G a__law_is_int, F__law_is_int.binds (ps := ["thing"]) fun _ _ _ _ _ _ us hl => match us, hl with | [_], _ => rfl⟩
  have F__law_is_ints := fun_mk (st := s__law_is_ints) l__law_is_ints c__law_is_ints k__law_is_ints
  have D__law_is_ints : Df K mg "_law_is_ints" s__law_is_ints f__law_is_ints _ ["row"] := ⟨F__law_is_ints, PySem.W.mg_of X G a__law_is_ints, F__law_is_ints.binds (ps := ["row"]) fun _ _ _ _ _ _ us hl => match us, hl with | [_], _ => rfl⟩
  have F__law_is_told := fun_mk (st := s__law_is_told) l__law_is_told c__law_is_told k__law_is_told
  have D__law_is_told : Df K mg "_law_is_told" s__law_is_told f__law_is_told _ ["state", "layout"] := ⟨F__law_is_told, PySem.W.mg_of X G a__law_is_told, F__law_is_told.binds (ps := ["state", "layout"]) fun _ _ _ _ _ _ us hl => match us, hl with | [_, _], _ => rfl⟩
  have F_law := fun_mk (st := s_law) l_law c_law k_law
  have D_law : Df K mg "law" s_law _ _ ["script"] := ⟨F_law, PySem.W.mg_of X G a_law, F_law.binds (ps := ["script"]) fun _ _ _ _ _ _ us hl => match us, hl with | [_], _ => rfl⟩
  refine ⟨PySem.W.fnOf "law" "law" (defArgs s_law) (defBody s_law) (defScope s_law) .none kV_law dc_law pm_law an_law cd_law ct_law, fun s v => .of_eq rfl, fun base _ _ => ?_⟩
  have C__law_begin : Cl l.prog w K mg base 1 "_law_begin" (sp__law_begin K) := D__law_begin.cl (ok__law_begin D__law_begin T )
  have C__law_draw : Cl l.prog w K mg base 1 "_law_draw" (sp__law_draw K) := D__law_draw.cl (ok__law_draw D__law_draw T )
  have C__law_pick : Cl l.prog w K mg base 2 "_law_pick" (sp__law_pick K) := D__law_pick.cl (ok__law_pick D__law_pick T C__law_draw)
  have C__law_pool : Cl l.prog w K mg base 1 "_law_pool" (sp__law_pool K) := D__law_pool.cl (ok__law_pool D__law_pool T )
  have C__law_side : Cl l.prog w K mg base 3 "_law_side" (sp__law_side K) := D__law_side.cl (ok__law_side D__law_side T C__law_draw C__law_pick)
  have C__law_pop : Cl l.prog w K mg base 2 "_law_pop" (sp__law_pop K) := D__law_pop.cl (ok__law_pop D__law_pop T C__law_draw)
  have C__law_any_fixed : Cl l.prog w K mg base 2 "_law_any_fixed" (sp__law_any_fixed K) := D__law_any_fixed.cl (ok__law_any_fixed D__law_any_fixed T C__law_draw)
  have C__law_layout : Cl l.prog w K mg base 4 "_law_layout" (sp__law_layout K) := D__law_layout.cl (ok__law_layout D__law_layout T C__law_pool C__law_side C__law_pop C__law_any_fixed C__law_pick C__law_draw)
  have C__law_axis : Cl l.prog w K mg base 3 "_law_axis" (sp__law_axis K) := D__law_axis.cl (ok__law_axis D__law_axis T C__law_draw C__law_pick C__law_any_fixed)
  have C__law_state_of : Cl l.prog w K mg base 4 "_law_state_of" (sp__law_state_of K) := D__law_state_of.cl (ok__law_state_of D__law_state_of T C__law_draw C__law_axis)
  have C__law_hold : Cl l.prog w K mg base 1 "_law_hold" (sp__law_hold K) := D__law_hold.cl (ok__law_hold D__law_hold T )
  have C__law_due : Cl l.prog w K mg base 2 "_law_due" (sp__law_due K) := D__law_due.cl (ok__law_due D__law_due T C__law_hold)
  have C__law_turned : Cl l.prog w K mg base 3 "_law_turned" (sp__law_turned K) := D__law_turned.cl (ok__law_turned D__law_turned T C__law_draw C__law_hold C__law_pick)
  have C_clamp : Cl l.prog w K mg base 1 "clamp" (sp_clamp K) := D_clamp.cl (ok_clamp D_clamp T )
  have C_held : Cl l.prog w K mg base 1 "held" (sp_held K) := D_held.cl (ok_held D_held T )
  have C_move_all : Cl l.prog w K mg base 2 "move_all" (sp_move_all K) := D_move_all.cl (ok_move_all D_move_all T C_clamp C_held)
  have C_moved : Cl l.prog w K mg base 3 "moved" (sp_moved K) := D_moved.cl (ok_moved D_moved T C_move_all)
  have C__law_is_int : Cl l.prog w K mg base 1 "_law_is_int" (sp__law_is_int K) := D__law_is_int.cl (ok__law_is_int D__law_is_int T )
  have C__law_is_ints : Cl l.prog w K mg base 2 "_law_is_ints" (sp__law_is_ints K) := D__law_is_ints.cl (ok__law_is_ints D__law_is_ints T C__law_is_int)
  have C__law_is_told : Cl l.prog w K mg base 4 "_law_is_told" (sp__law_is_told K) := D__law_is_told.cl (ok__law_is_told D__law_is_told T C_moved C__law_due C__law_is_ints)
  exact ok_law D_law T C__law_begin C__law_pick C__law_layout C__law_state_of C__law_due C__law_turned C__law_is_told C__law_draw
theorem walk {l : PySem.W.OpenLaw} {q : Program} {loose : List Str} {XP : (Str → Option Value) → Heap → Prop} {YP : World → Heap → Prop} {d : DefRec} {K : Params → PySem.W.Frag} (hn : l.most = some 63) (hdf : d.params.defaults = [])
    (hY : ∀ (w : World) (h : Heap), YP w h → (K w.params).In h)
    (F : ∀ (w : World) (mg : Str → Option Value) (fa : Addr) (h : Heap), (K w.params).In h → h.Ns mainGlobals mg → mg d.name = some (.ref fa) →
      ∃ fd : FuncData, (∀ (s : Shared) (u : Value), BindsTo s fd ⟨[u], []⟩ [("script", u)]) ∧ ∀ base : Heap, (K w.params).In base → base.Ns mainGlobals mg → FnOk l.prog w (K w.params) mg base CX0 5 fa fd ["script"] (sp_law (K w.params))) :
    PySem.W.WalkO q loose XP YP l.row.toRowW d [] (fun f vs => PySem.call f vs) :=
  L2.walk_ofB (n := 63) (k := 5) (x := "script") (CX := fun _ => CX0) (sp := fun w => sp_law (K w.params)) hn (by decide) hdf ⟨rfl, by decide, by decide⟩ hY F (fun _ _ a ns hl hb _ hS => law_hands a ns hl hb hS) fun _ _ _ _ _ z => z
end Law
open PySem PySem.W PyProof.Rows in
set_option maxRecDepth 100000 in
set_option maxHeartbeats 0 in
theorem PySem.Challenge.cw_judgedplay_k22_moved_holds : PySem.Challenge.rw_judgedplay_k22_moved.Holds := by
  w_on; o_law; k_head; (case hw => w_witness2)
  k_fill
  refine Law.walk (l := PySem.Challenge.rw_judgedplay_k22_moved) rfl rfl (fun w h Y => PySem.W.kIn_of Y) ?F
  case F =>
    intro w mg fa h KX G hmg
    refine' Law.all_mk KX G hmg ?a__law_begin ?l__law_begin ?c__law_begin ?k__law_begin ?a__law_draw ?l__law_draw ?c__law_draw ?k__law_draw ?a__law_pick ?l__law_pick ?c__law_pick ?k__law_pick ?a__law_pool ?l__law_pool ?c__law_pool ?k__law_pool ?a__law_side ?l__law_side ?c__law_side ?k__law_side ?a__law_pop ?l__law_pop ?c__law_pop ?k__law_pop ?a__law_any_fixed ?l__law_any_fixed ?c__law_any_fixed ?k__law_any_fixed ?a__law_layout ?l__law_layout ?c__law_layout ?k__law_layout ?a__law_axis ?l__law_axis ?c__law_axis ?k__law_axis ?a__law_state_of ?l__law_state_of ?c__law_state_of ?k__law_state_of ?a__law_hold ?l__law_hold ?c__law_hold ?k__law_hold ?a__law_due ?l__law_due ?c__law_due ?k__law_due ?a__law_turned ?l__law_turned ?c__law_turned ?k__law_turned ?a_clamp ?l_clamp ?c_clamp ?k_clamp ?a_held ?l_held ?c_held ?k_held ?a_move_all ?l_move_all ?c_move_all ?k_move_all ?a_moved ?l_moved ?c_moved ?k_moved ?a__law_is_int ?l__law_is_int ?c__law_is_int ?k__law_is_int ?a__law_is_ints ?l__law_is_ints ?c__law_is_ints ?k__law_is_ints ?a__law_is_told ?l__law_is_told ?c__law_is_told ?k__law_is_told ?a_law ?l_law ?c_law ?k_law ?z_int ?z_len ?z_abs ?z_tuple ?z_range ?z_min ?z_max ?z_list ?z_isinstance ?z_bool ?z_all ?n_LOW ?r_LOW ?n_HIGH ?r_HIGH ?n_PART ?r_PART
    (case a__law_begin => k_is)
    (case l__law_begin => k_is)
    (case c__law_begin => k_is)
    (case k__law_begin => k_is)
    (case a__law_draw => k_is)
    (case l__law_draw => k_is)
    (case c__law_draw => k_is)
    (case k__law_draw => k_is)
    (case a__law_pick => k_is)
    (case l__law_pick => k_is)
    (case c__law_pick => k_is)
    (case k__law_pick => k_is)
    (case a__law_pool => k_is)
    (case l__law_pool => k_is)
    (case c__law_pool => k_is)
    (case k__law_pool => k_is)
    (case a__law_side => k_is)
    (case l__law_side => k_is)
    (case c__law_side => k_is)
    (case k__law_side => k_is)
    (case a__law_pop => k_is)
    (case l__law_pop => k_is)
    (case c__law_pop => k_is)
    (case k__law_pop => k_is)
    (case a__law_any_fixed => k_is)
    (case l__law_any_fixed => k_is)
    (case c__law_any_fixed => k_is)
    (case k__law_any_fixed => k_is)
    (case a__law_layout => k_is)
    (case l__law_layout => k_is)
    (case c__law_layout => k_is)
    (case k__law_layout => k_is)
    (case a__law_axis => k_is)
    (case l__law_axis => k_is)
    (case c__law_axis => k_is)
    (case k__law_axis => k_is)
    (case a__law_state_of => k_is)
    (case l__law_state_of => k_is)
    (case c__law_state_of => k_is)
    (case k__law_state_of => k_is)
    (case a__law_hold => k_is)
    (case l__law_hold => k_is)
    (case c__law_hold => k_is)
    (case k__law_hold => k_is)
    (case a__law_due => k_is)
    (case l__law_due => k_is)
    (case c__law_due => k_is)
    (case k__law_due => k_is)
    (case a__law_turned => k_is)
    (case l__law_turned => k_is)
    (case c__law_turned => k_is)
    (case k__law_turned => k_is)
    (case a_clamp => k_is)
    (case l_clamp => k_is)
    (case c_clamp => k_is)
    (case k_clamp => k_is)
    (case a_held => k_is)
    (case l_held => k_is)
    (case c_held => k_is)
    (case k_held => k_is)
    (case a_move_all => k_is)
    (case l_move_all => k_is)
    (case c_move_all => k_is)
    (case k_move_all => k_is)
    (case a_moved => k_is)
    (case l_moved => k_is)
    (case c_moved => k_is)
    (case k_moved => k_is)
    (case a__law_is_int => k_is)
    (case l__law_is_int => k_is)
    (case c__law_is_int => k_is)
    (case k__law_is_int => k_is)
    (case a__law_is_ints => k_is)
    (case l__law_is_ints => k_is)
    (case c__law_is_ints => k_is)
    (case k__law_is_ints => k_is)
    (case a__law_is_told => k_is)
    (case l__law_is_told => k_is)
    (case c__law_is_told => k_is)
    (case k__law_is_told => k_is)
    (case a_law => k_is)
    (case l_law => k_is)
    (case c_law => k_is)
    (case k_law => k_is)
    (case z_int => k_is)
    (case z_len => k_is)
    (case z_abs => k_is)
    (case z_tuple => k_is)
    (case z_range => k_is)
    (case z_min => k_is)
    (case z_max => k_is)
    (case z_list => k_is)
    (case z_isinstance => k_is)
    (case z_bool => k_is)
    (case z_all => k_is)
    (case n_LOW => k_is)
    (case r_LOW => first | exact ⟨_, rfl⟩ | rfl)
    (case n_HIGH => k_is)
    (case r_HIGH => first | exact ⟨_, rfl⟩ | rfl)
    (case n_PART => k_is)
    (case r_PART => first | exact ⟨_, rfl⟩ | rfl)
#print axioms PySem.Challenge.cw_judgedplay_k22_moved_holds
