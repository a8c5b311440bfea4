import PyProof.Rows.All
import Wide.All
import OpenK.AllK
import Wide.FinOn
import HandS.ForMost
import HandS.Wide
import HandS.WideBits
import HandS.IsInst
import HandS.TupAny
import HandS.Deep
import HandS.EndBits
import HandS.More
import HandS.Walk
import HandS.Rev
import HandS.Conv
import PySem.Challenge.RW_judgedplay_k26_guesses
set_option Elab.async false
set_option linter.all false
set_option maxRecDepth 100000
set_option maxHeartbeats 4000000
/-! ### my own layer: introduction forms for the readings -/
namespace Jp
open PySem PySem.Spec PyProof.Rows L2
/-! rules by names -/
section
variable {X : Cx}
def rInt1 : List V → Hp → VK → Prop := fun xs H Q => (∃ i, xs = [.int i] ∧ Q (.int i) H) ∨ ∃ k, xs = [.bl k] ∧ Q (.int (if k then 1 else 0)) H
theorem c_int : CallR X (.type "int") rInt1 := call_int1
def rAbs : List V → Hp → VK → Prop := fun xs H Q => ∃ i, xs = [.int i] ∧ Q (.int (if i < 0 then -i else i)) H
theorem c_abs : CallR X (.builtin "abs") rAbs := call_abs
def rMax2 : List V → Hp → VK → Prop := fun xs H Q => ∃ i j, xs = [.int i, .int j] ∧ Q (.int (if j > i then j else i)) H
theorem c_max2 (hc : X.calm = true) : CallR X (.builtin "max") rMax2 := call_max2 hc
def rMin2 : List V → Hp → VK → Prop := fun xs H Q => ∃ i j, xs = [.int i, .int j] ∧ Q (.int (if j < i then j else i)) H
theorem c_min2 (hc : X.calm = true) : CallR X (.builtin "min") rMin2 := call_min2 hc
def qLen (K : PySem.W.Frag) : List V → Hp → VK → Prop := fun xs H Q => ∃ x n, xs = [x] ∧ LenV K x H n ∧ Q (.int (n : Nat)) H
theorem c_len : CallR X (.builtin "len") (qLen X.K) := call_len
def rLenD : List V → Hp → VK → Prop := fun xs H Q => ∃ a kvs, xs = [V.ref a] ∧ H a = some (.dK kvs) ∧ Q (.int kvs.length) H
theorem c_lenD : CallR X (.builtin "len") rLenD := call_lenD
def rTupOf (K : PySem.W.Frag) : List V → Hp → VK → Prop := fun xs H Q => ∃ p ys, xs = [.ref p] ∧ ((SqL K H p ys ∧ ∀ l, H l = none → Q (.ref l) (upd H l (.tup ys))) ∨ (SqT K H p ys ∧ Q (.ref p) H))
theorem c_tup : CallR X (.type "tuple") (rTupOf X.K) := call_tuple_of
def rLstOf (K : PySem.W.Frag) : List V → Hp → VK → Prop := fun xs H Q => ∃ p ys, xs = [.ref p] ∧ (SqL K H p ys ∨ SqT K H p ys) ∧ ∀ l, H l = none → Q (.ref l) (upd H l (.lst ys))
theorem c_lst : CallR X (.type "list") (rLstOf X.K) := call_list_of
def rBool1 : List V → Hp → VK → Prop := fun xs H Q => (∃ i, xs = [.int i] ∧ Q (.bl (i != 0)) H) ∨ ∃ k, xs = [.bl k] ∧ Q (.bl k) H
theorem c_bool1 : CallR X (.type "bool") rBool1 := call_bool1
def rIsNon : R2 := fun x y H Q => y = .non ∧ Q (.bl (decide (x = .non))) H
theorem o_isN : OpR X (compareOp .Is) rIsNon := op_isN
def rNotNon : R2 := fun x y H Q => y = .non ∧ Q (.bl (!decide (x = .non))) H
theorem o_notN : OpR X (compareOp .IsNot) rNotNon := op_notN
def rAddStr : R2 := fun x y H Q => ∃ i j, x = .str i ∧ y = .str j ∧ i.length + j.length ≤ sizeLine ∧ Q (.str (i ++ j)) H
theorem o_addS : OpR X (binaryOp .Add) rAddStr := op_add_str
theorem o_iaddS : OpR X (inplaceOp .Add) rAddStr := iop_add_str
end
section
variable {K : PySem.W.Frag} {σ : L2.St} {H : Hp} {Q : VK}
theorem i_isN {x : V} (q : Q (.bl (decide (x = .non))) H) : rIsNon x .non H Q := ⟨rfl, q⟩
theorem i_notN {x : V} (q : Q (.bl (!decide (x = .non))) H) : rNotNon x .non H Q := ⟨rfl, q⟩
theorem i_int {i : Int} (q : Q (.int i) H) : rInt1 [.int i] H Q := .inl ⟨i, rfl, q⟩
theorem i_intB {k : Bool} (q : Q (.int (if k then 1 else 0)) H) : rInt1 [.bl k] H Q := .inr ⟨k, rfl, q⟩
theorem i_abs {i : Int} (q : Q (.int (if i < 0 then -i else i)) H) : rAbs [.int i] H Q := ⟨i, rfl, q⟩
theorem i_max2 {i j : Int} (q : Q (.int (if j > i then j else i)) H) : rMax2 [.int i, .int j] H Q := ⟨i, j, rfl, q⟩
theorem i_min2 {i j : Int} (q : Q (.int (if j < i then j else i)) H) : rMin2 [.int i, .int j] H Q := ⟨i, j, rfl, q⟩
theorem i_lenL {p : Addr} {xs : List V} (h : SqL K H p xs) (q : Q (.int xs.length) H) : qLen K [.ref p] H Q := ⟨.ref p, xs.length, rfl, .inl ⟨xs, h, rfl⟩, q⟩
theorem i_lenT {p : Addr} {xs : List V} (h : SqT K H p xs) (q : Q (.int xs.length) H) : qLen K [.ref p] H Q := ⟨.ref p, xs.length, rfl, .inr ⟨xs, h, rfl⟩, q⟩
theorem i_lenS {x : Str} (h : x.length ≤ sizeLine) (q : Q (.int x.length) H) : qLen K [.str x] H Q := ⟨.str x, x.length, rfl, ⟨h, rfl⟩, q⟩
theorem i_lenD {p : Addr} {kvs : List (L2.Key × V)} (h : H p = some (.dK kvs)) (q : Q (.int kvs.length) H) : rLenD [.ref p] H Q := ⟨p, kvs, rfl, h, q⟩
theorem i_tupL {p : Addr} {ys : List V} (h : SqL K H p ys) (q : ∀ l, H l = none → Q (.ref l) (upd H l (.tup ys))) : rTupOf K [.ref p] H Q := ⟨p, ys, rfl, .inl ⟨h, q⟩⟩
theorem i_tupT {p : Addr} {ys : List V} (h : SqT K H p ys) (q : Q (.ref p) H) : rTupOf K [.ref p] H Q := ⟨p, ys, rfl, .inr ⟨h, q⟩⟩
theorem i_lstL {p : Addr} {ys : List V} (h : SqL K H p ys) (q : ∀ l, H l = none → Q (.ref l) (upd H l (.lst ys))) : rLstOf K [.ref p] H Q := ⟨p, ys, rfl, .inl h, q⟩
theorem i_lstT {p : Addr} {ys : List V} (h : SqT K H p ys) (q : ∀ l, H l = none → Q (.ref l) (upd H l (.lst ys))) : rLstOf K [.ref p] H Q := ⟨p, ys, rfl, .inr h, q⟩
theorem i_catA {p b : Addr} {xs ys : List V} (h1 : SqT K H p xs) (h2 : SqT K H b ys) (hl : xs.length + ys.length ≤ sizeLine) (q : ∀ (r : Addr) (H' : Hp), (∀ b o, H b = some o → H' b = some o) → SqT K H' r (xs ++ ys) → Q (.ref r) H') : rCatA K (.ref p) (.ref b) H Q := by
  refine ⟨p, b, xs, ys, rfl, rfl, h1, h2, hl, fun e => ?_, fun _ e => ?_, fun _ _ r hr => ?_⟩
  · subst e; exact q b H (fun _ _ h => h) h2
  · subst e; exact q p H (fun _ _ h => h) (by rw [List.append_nil]; exact h1)
  · exact q r _ (fun b o e => by rw [upd_ne (ne_of_none e hr)]; exact e) (.inl (.inl upd_same))
theorem i_catI {p b : Addr} {ns ms : List Int} (h1 : SqT K H p (ns.map V.int)) (h2 : SqT K H b (ms.map V.int)) (hl : ns.length + ms.length ≤ 10000) (q : ∀ (r : Addr) (H' : Hp), (∀ b o, H b = some o → H' b = some o) → SqT K H' r ((ns ++ ms).map V.int) → Q (.ref r) H') : rCatA K (.ref p) (.ref b) H Q :=
  i_catA h1 h2 (by rw [List.length_map, List.length_map]; exact Nat.le_trans hl (by decide)) fun r H' s t => q r H' s (by rw [List.map_append]; exact t)
/-- ns[lo:hi] -/
def cutI (ns : List Int) (lo hi : Option Int) : List Int := (ns.drop (HT.sIx ns.length 0 lo)).take (HT.sIx ns.length ns.length hi - HT.sIx ns.length 0 lo)
theorem cutI_len (ns : List Int) (lo hi : Option Int) : (cutI ns lo hi).length ≤ ns.length := by
  unfold cutI
  rw [List.length_take, List.length_drop]
  omega
theorem i_slI {p : Addr} {ns : List Int} {lo hi : Option Int} (h : SqT K H p (ns.map V.int)) (hw : ¬ (HT.sIx ns.length 0 lo = 0 ∧ HT.sIx ns.length ns.length hi = ns.length))
    (q : ∀ (r : Addr) (H' : Hp), (∀ b o, H b = some o → H' b = some o) → SqT K H' r ((cutI ns lo hi).map V.int) → Q (.ref r) H') : rSlT K (.ref p) lo hi H Q := by
  refine ⟨p, _, rfl, h, by rw [List.length_map]; exact hw, fun r hr => q r _ (fun b o e => by rw [upd_ne (ne_of_none e hr)]; exact e) (.inl (.inl ?_))⟩
  rw [upd_same]
  unfold cutV cutI
  rw [List.length_map, List.map_take, List.map_drop]
theorem i_sl {r : V → Option Int → Option Int → Hp → VK → Prop} {te : TE} {tl th : TO} (h : te σ H fun x H1 => tl σ H1 fun l H2 => th σ H2 fun u H3 => r x l u H3 Q) : tSl r te tl th σ H Q := h
theorem i_noPart {Q : Option Int → Hp → Prop} (q : Q none H) : tNoPart σ H Q := q
theorem i_part {t : TE} {Q : Option Int → Hp → Prop} (h : t σ H fun x H1 => ∃ i, x = .int i ∧ Q (some i) H1) : tPart t σ H Q := h
theorem i_cat {p b : Addr} {xs zs : List V} (h1 : H p = some (.lst xs)) (h2 : H b = some (.lst zs)) (hl : xs.length + zs.length ≤ sizeLine) (q : ∀ r, H r = none → Q (.ref r) (upd H r (.lst (xs ++ zs)))) : rCat (.ref p) (.ref b) H Q := ⟨p, b, xs, zs, rfl, rfl, h1, h2, hl, q⟩
theorem i_cat' {p b : Addr} {xs zs : List V} (e1 : H p = some (.lst xs)) (e2 : H b = some (.lst zs)) (hl : xs.length + zs.length ≤ 10000) (q : ∀ r H', (∀ b o, H b = some o → H' b = some o) → H r = none → H' r = some (.lst (xs ++ zs)) → Q (.ref r) H') : rCat (.ref p) (.ref b) H Q :=
  i_cat e1 e2 (by rw [sizeLine_eq]; omega) fun r hr => q r _ (fun b o e => by rw [upd_ne (ne_of_none e hr)]; exact e) hr upd_same
theorem i_slL {p : Addr} {xs : List V} {lo hi : Option Int} (h : SqL K H p xs) (q : ∀ r H', (∀ b o, H b = some o → H' b = some o) → H r = none → H' r = some (.lst (cutV xs lo hi)) → Q (.ref r) H') : rSlL K (.ref p) lo hi H Q :=
  ⟨p, xs, rfl, h, fun r hr => q r _ (fun b o e => by rw [upd_ne (ne_of_none e hr)]; exact e) hr upd_same⟩
theorem i_chain {r r' : R2} {ta tb tc : TE} (h : ta σ H fun x H1 => tb σ H1 fun y H2 => r x y H2 fun z H3 => ∃ k, z = .bl k ∧ (if k = true then tc σ H3 fun w' H4 => r' y w' H4 Q else Q (.bl false) H3)) : tChain r r' ta tb tc σ H Q := h
theorem i_popAt {p : Addr} {xs : List V} {i : Int} {y : V} (h : H p = some (.lst xs)) (h0 : 0 ≤ i) (h1 : i < xs.length) (h2 : xs.length ≤ 1000000) (e : xs[i.toNat]? = some y) (q : Q y (upd H p (.lst (xs.eraseIdx i.toNat)))) : rPopAt (.ref p) [.int i] H Q :=
  ⟨p, xs, i, i.toNat, y, rfl, rfl, h, by omega, by omega, seqIndex_of h0 h1, e, q⟩
theorem i_isI {i : Int} {Q : Int → Prop} (q : Q i) : ∃ i', V.int i = .int i' ∧ Q i' := ⟨i, rfl, q⟩
theorem i_bm {T : String} {r : V → List V → Hp → VK → Prop} {to : TE} {t : TA} (h : to σ H fun x H1 => tyV K T x H1 ∧ t σ H1 fun xs H2 => r x xs H2 Q) : tBM K T r to t σ H Q := h
theorem i_bm0 {T : String} {r : V → List V → Hp → VK → Prop} {to : TE} (h : to σ H fun x H1 => tyV K T x H1 ∧ r x [] H1 Q) : tBM0 K T r to σ H Q := h
theorem i_tyL {p : Addr} {xs : List V} {R : Prop} (s : SqL K H p xs) (q : R) : tyV K "list" (.ref p) H ∧ R := ⟨.inl ⟨rfl, xs, s⟩, q⟩
theorem i_app {p : Addr} {xs : List V} {y : V} (h : H p = some (.lst xs)) (hl : xs.length < sizeLine) (q : Q .non (upd H p (.lst (xs ++ [y])))) : rAppend (.ref p) [y] H Q := ⟨p, xs, y, rfl, rfl, h, hl, q⟩
theorem i_addS {x y : Str} (h : x.length + y.length ≤ sizeLine) (q : Q (.str (x ++ y)) H) : rAddStr (.str x) (.str y) H Q := ⟨x, y, rfl, rfl, h, q⟩
theorem i_isi {x : V} {n : String} {t : Value} {b : Bool} (ty : TyX K H x t) (e : PySem.W.kitOne K t (.type n) = some b) (q : Q (.bl b) H) : rIsi K [x, .ty n] H Q := ⟨x, .ty n, t, .type n, b, rfl, .ty n, ty, e, q⟩
theorem i_var {i : Nat} {v : V} (h : σ[i]? = some (some v)) (q : Q v H) : tVar i σ H Q := ⟨v, h, q⟩
theorem i_c {v : V} (q : Q v H) : tC v σ H Q := q
theorem i_op {r : R2} {ta tb : TE} (h : ta σ H fun x H1 => tb σ H1 fun y H2 => r x y H2 Q) : tOp r ta tb σ H Q := h
theorem i_un {r : V → Hp → VK → Prop} {ta : TE} (h : ta σ H fun x H1 => r x H1 Q) : tUn r ta σ H Q := h
theorem i_rI0 {g : Int → Int → V} {i j : Int} (q : Q (g i j) H) : rI0 g (.int i) (.int j) H Q := ⟨i, j, rfl, rfl, q⟩
theorem i_rI {C : Int → Int → Prop} {g : Int → Int → V} {i j : Int} (c : C i j) (q : Q (g i j) H) : rI C g (.int i) (.int j) H Q := ⟨i, j, rfl, rfl, c, q⟩
theorem i_rU {g : Int → V} {i : Int} (q : Q (g i) H) : rU g (.int i) H Q := ⟨i, rfl, q⟩
theorem i_eqI {i j : Int} (q : Q (.bl (decide (i = j))) H) : rEq (.int i) (.int j) H Q := ⟨rfl, by
  have e : decide (V.int i = V.int j) = decide (i = j) := by simp
  rw [e]; exact q⟩
theorem i_neI {i j : Int} (q : Q (.bl (!decide (i = j))) H) : rNe (.int i) (.int j) H Q := ⟨rfl, by
  have e : decide (V.int i = V.int j) = decide (i = j) := by simp
  rw [e]; exact q⟩
theorem i_eqB {i j : Bool} (q : Q (.bl (decide (i = j))) H) : rEq (.bl i) (.bl j) H Q := ⟨rfl, by
  have e : decide (V.bl i = V.bl j) = decide (i = j) := by simp
  rw [e]; exact q⟩
theorem i_neB {i j : Bool} (q : Q (.bl (!decide (i = j))) H) : rNe (.bl i) (.bl j) H Q := ⟨rfl, by
  have e : decide (V.bl i = V.bl j) = decide (i = j) := by simp
  rw [e]; exact q⟩
theorem i_eqS {i j : Str} (q : Q (.bl (decide (i = j))) H) : rEq (.str i) (.str j) H Q := ⟨rfl, by
  have e : decide (V.str i = V.str j) = decide (i = j) := by simp
  rw [e]; exact q⟩
theorem i_neS {i j : Str} (q : Q (.bl (!decide (i = j))) H) : rNe (.str i) (.str j) H Q := ⟨rfl, by
  have e : decide (V.str i = V.str j) = decide (i = j) := by simp
  rw [e]; exact q⟩
/-! index -/
theorem i_ixL {p : Addr} {xs : List V} {i : Int} {v : V} (h : SqL K H p xs) (e : atI xs i = some v) (q : Q v H) : rIxL K (.ref p) (.int i) H Q := ⟨p, xs, i, v, rfl, rfl, h, e, q⟩
theorem i_ixT {p : Addr} {xs : List V} {i : Int} {v : V} (h : SqT K H p xs) (e : atI xs i = some v) (q : Q v H) : rIxT K (.ref p) (.int i) H Q := ⟨p, xs, i, v, rfl, rfl, h, e, q⟩
theorem i_ix1 {x y : V} (h : rIxL K x y H Q) : rIx K x y H Q := .inl h
theorem i_ix2 {x y : V} (h : rIxT K x y H Q) : rIx K x y H Q := .inr (.inl h)
/-! arguments, calls, displays -/
theorem i_nil {Q : List V → Hp → Prop} (q : Q [] H) : tNil σ H Q := q
theorem i_cons {ta : TE} {tr : TA} {Q : List V → Hp → Prop} (h : ta σ H fun x H1 => tr σ H1 fun xs H2 => Q (x :: xs) H2) : tCons ta tr σ H Q := h
theorem i_call {sp : Sp} {E : XK} {t : TA} (h : t σ H fun vs H1 => sp (vs ++ []) H1 Q E) : tCall sp [] E t σ H Q := h
theorem i_cb {r : List V → Hp → VK → Prop} {t : TA} (h : t σ H fun vs H1 => r vs H1 Q) : tCB r t σ H Q := h
theorem i_tup {t : TA} (h : t σ H fun xs H1 => xs.length ≤ sizeLine ∧ ∀ p, H1 p = none → Q (.ref p) (upd H1 p (.tup xs))) : tTup t σ H Q := h
theorem i_lst {t : TA} (h : t σ H fun xs H1 => xs.length ≤ sizeLine ∧ ∀ p, H1 p = none → Q (.ref p) (upd H1 p (.lst xs))) : tLst t σ H Q := h
theorem i_new {n : Nat} {R : Addr → Prop} (h : n ≤ sizeLine) (q : ∀ p, H p = none → R p) : n ≤ sizeLine ∧ ∀ p, H p = none → R p := ⟨h, q⟩
theorem i_if {c : TT} {ta tb : TE} (h : c σ H fun b H1 => if b = true then ta σ H1 Q else tb σ H1 Q) : tIf c ta tb σ H Q := h
theorem i_andV {ta tb : TE} (h : ta σ H fun x H1 => ∃ c, x = .bl c ∧ if c = true then tb σ H1 Q else Q (.bl false) H1) : tAndV ta tb σ H Q := h
theorem i_orV {ta tb : TE} (h : ta σ H fun x H1 => ∃ c, x = .bl c ∧ if c = true then Q (.bl true) H1 else tb σ H1 Q) : tOrV ta tb σ H Q := h
theorem i_notV {ta : TE} (h : ta σ H fun x H1 => ∃ c, x = .bl c ∧ Q (.bl (!c)) H1) : tNotV ta σ H Q := h
/-! tests -/
theorem i_test {t : TE} {Q : Bool → Hp → Prop} (h : t σ H fun x H1 => ∃ k, x = .bl k ∧ Q k H1) : tTest t σ H Q := h
theorem i_B {t : TE} {Q : Bool → Hp → Prop} (h : t σ H fun x H1 => ∃ k, x = .bl k ∧ Q k H1) : tB t σ H Q := h
theorem i_isb {k : Bool} {Q : Bool → Prop} (q : Q k) : ∃ k', V.bl k = .bl k' ∧ Q k' := ⟨k, rfl, q⟩
theorem i_and {t u : TT} {Q : Bool → Hp → Prop} (h : t σ H fun c H1 => if c = true then u σ H1 Q else Q false H1) : tAnd t u σ H Q := h
theorem i_or {t u : TT} {Q : Bool → Hp → Prop} (h : t σ H fun c H1 => if c = true then Q true H1 else u σ H1 Q) : tOr t u σ H Q := h
theorem i_not {t : TT} {Q : Bool → Hp → Prop} (h : t σ H fun c H1 => Q (!c) H1) : tNot t σ H Q := h
/-! statements -/
section
variable {nx : L2.St → Hp → Prop} {rt : VK} {bk ct : L2.St → Hp → Prop}
theorem i_seq {t u : TS} (h : t ⟨u ⟨nx, rt, bk, ct⟩, rt, bk, ct⟩ σ H) : tSeq t u ⟨nx, rt, bk, ct⟩ σ H := h
theorem i_next (h : nx σ H) : tNext ⟨nx, rt, bk, ct⟩ σ H := h
theorem i_asg {te : TE} {g : TG} (h : te σ H fun x H1 => g x σ H1 nx) : tAsg te g ⟨nx, rt, bk, ct⟩ σ H := h
theorem i_drop {te : TE} (h : te σ H fun _ H1 => nx σ H1) : tDrop te ⟨nx, rt, bk, ct⟩ σ H := h
theorem i_ret {te : TE} (h : te σ H rt) : tRet te ⟨nx, rt, bk, ct⟩ σ H := h
theorem i_retN (h : rt .non H) : tRetN ⟨nx, rt, bk, ct⟩ σ H := h
theorem i_ifS {c : TT} {t u : TS} (h : c σ H fun b H1 => if b = true then t ⟨nx, rt, bk, ct⟩ σ H1 else u ⟨nx, rt, bk, ct⟩ σ H1) : tIfS c t u ⟨nx, rt, bk, ct⟩ σ H := h
theorem i_ifC {c : TT} {t u : TS} (J : L2.St → Hp → Prop) (h1 : ∀ σ' H', J σ' H' → nx σ' H') (h2 : ∀ N : L2.St → Hp → Prop, (∀ σ' H', J σ' H' → N σ' H') → tIfS c t u ⟨N, rt, bk, ct⟩ σ H) : tIfS c t u ⟨nx, rt, bk, ct⟩ σ H := h2 _ h1
theorem i_break (h : bk σ H) : tBreak ⟨nx, rt, bk, ct⟩ σ H := h
theorem i_cont (h : ct σ H) : tCont ⟨nx, rt, bk, ct⟩ σ H := h
theorem i_augE {i : Nat} {te : TE} {ti : TIp} {x : V} (e : σ[i]? = some (some x)) (h : te σ H fun y H1 => ti x y H1 fun z H2 => gName i z σ H2 nx) : tAug i te ti ⟨nx, rt, bk, ct⟩ σ H := ⟨x, e, h⟩
theorem i_augS {to ti te : TE} {tget : V → V → Hp → VK → Prop} {tip : TIp} {tset : TSet} (h : to σ H fun o H1 => ti σ H1 fun i H2 => tget o i H2 fun x H3 => te σ H3 fun y H4 => tip x y H4 fun z H5 => tset o i z H5 fun H6 => nx σ H6) : tAugS to ti te tget tip tset ⟨nx, rt, bk, ct⟩ σ H := h
theorem i_ipI {f : Int → Int → Int} {i j : Int} (q : Q (.int (f i j)) H) : ipI f (.int i) (.int j) H Q := ⟨i, j, rfl, rfl, q⟩
theorem i_for {wi : TI} {g : TG} {tb : TS} (h : wi σ H fun J H1 => ∃ W : Nat → Nat → L2.St → Hp → Prop, (∃ m, W 0 m σ H1) ∧ ∀ i m σ H, W i m σ H →
  (J.stop i H ∧ nx σ H) ∨ (J.go i H ∧ ∃ N : L2.St → Hp → Prop, (∀ σ' H', N σ' H' → ∃ m', m' < m ∧ W (i + 1) m' σ' H') ∧ ∀ x H', J.yld i H x H' → g x σ H' fun σ2 H2 => tb ⟨N, rt, nx, N⟩ σ2 H2)) : tFor wi g tb ⟨nx, rt, bk, ct⟩ σ H := h
theorem i_iList {tl : TE} {R : It → Hp → Prop} (h : tl σ H fun x H1 => ∃ a, x = .ref a ∧ (∃ xs, SqL K H1 a xs) ∧ R (Itl K a) H1) : iList K tl σ H R := h
theorem i_iTup {tl : TE} {R : It → Hp → Prop} (h : tl σ H fun x H1 => ∃ a, x = .ref a ∧ (∃ xs, SqT K H1 a xs) ∧ R (Itt K a) H1) : iTup K tl σ H R := h
theorem i_isL {a : Addr} {xs : List V} {R : Addr → Prop} (s : SqL K H a xs) (h : R a) : ∃ a', V.ref a = .ref a' ∧ (∃ xs, SqL K H a' xs) ∧ R a' := ⟨a, rfl, ⟨xs, s⟩, h⟩
theorem i_isT {a : Addr} {xs : List V} {R : Addr → Prop} (s : SqT K H a xs) (h : R a) : ∃ a', V.ref a = .ref a' ∧ (∃ xs, SqT K H a' xs) ∧ R a' := ⟨a, rfl, ⟨xs, s⟩, h⟩
theorem i_rng1 {ta : TA} {R : It → Hp → Prop} (h : ta σ H fun vs H1 => ∃ j : Int, vs = [.int j] ∧ -(2 ^ 62) ≤ j ∧ j < 2 ^ 62 ∧ R (Itr 0 j.toNat) H1) : iRng1 ta σ H R := h
theorem i_rng2 {ta : TA} {R : It → Hp → Prop} (h : ta σ H fun vs H1 => ∃ i j : Int, vs = [.int i, .int j] ∧ (-(2 ^ 62) ≤ i ∧ i < 2 ^ 62 ∧ -(2 ^ 62) ≤ j ∧ j < 2 ^ 62) ∧ R (Itr i (j - i).toNat) H1) : iRng2 ta σ H R := h
theorem i_isR1 {j : Int} {R : Int → Prop} (h1 : -(2 ^ 62) ≤ j) (h2 : j < 2 ^ 62) (h : R j) : ∃ j' : Int, [V.int j] = [.int j'] ∧ -(2 ^ 62) ≤ j' ∧ j' < 2 ^ 62 ∧ R j' := ⟨j, rfl, h1, h2, h⟩
theorem i_isR2 {i j : Int} {R : Int → Int → Prop} (h1 : -(2 ^ 62) ≤ i) (h2 : i < 2 ^ 62) (h3 : -(2 ^ 62) ≤ j) (h4 : j < 2 ^ 62) (h : R i j) : ∃ i' j' : Int, [V.int i, V.int j] = [.int i', .int j'] ∧ (-(2 ^ 62) ≤ i' ∧ i' < 2 ^ 62 ∧ -(2 ^ 62) ≤ j' ∧ j' < 2 ^ 62) ∧ R i' j' := ⟨i, j, rfl, ⟨h1, h2, h3, h4⟩, h⟩
end
/-! comprehensions -/
theorem i_lc {wi : TI} {g : TG} {tt : TT} {te : TE} {ws : List Nat} {σ' : L2.St} (e : wipe σ ws = σ') (h : wi σ H fun J H1 => ∀ D, H1 D = none → ∃ W : Nat → Nat → Hp → Prop, (∃ m, W 0 m (upd H1 D (.lst []))) ∧ ∀ i m H, W i m H →
  (J.stop i H ∧ Q (.ref D) H) ∨ (J.go i H ∧ ∃ Nx : Hp → Prop, (∀ H', Nx H' → ∃ m', m' < m ∧ W (i + 1) m' H') ∧ ∀ x H', J.yld i H x H' → g x σ' H' fun σ2 H2 => wipe σ2 ws = σ' ∧ tt σ2 H2 fun b H3 =>
    if b = true then te σ2 H3 fun y H4 => ∃ acc, H4 D = some (.lst acc) ∧ acc.length < sizeLine ∧ Nx (upd H4 D (.lst (acc ++ [y]))) else Nx H3)) : tLc wi g tt te ws σ H Q := by subst e; exact h
/-! targets -/
theorem i_gNameE {i : Nat} {v : V} {σ' : L2.St} {Q : L2.St → Hp → Prop} (e : σ.set i (some v) = σ') (q : Q σ' H) : gName i v σ H Q := by subst e; exact q
theorem st_of {t : TS} {D : Ends} {σ σ' : L2.St} {H : Hp} (e : σ = σ') (h : t D σ' H) : t D σ H := by subst e; exact h
theorem i_gName {i : Nat} {v : V} {Q : L2.St → Hp → Prop} (q : Q (σ.set i (some v)) H) : gName i v σ H Q := q
theorem i_gSub {to ti : TE} {t : TSet} {v : V} {Q : L2.St → Hp → Prop} (h : to σ H fun o H1 => ti σ H1 fun i H2 => t o i v H2 fun H3 => Q σ H3) : gSub to ti t v σ H Q := h
theorem i_setL {p : Addr} {xs : List V} {k : Int} {j : Nat} {v : V} {Q : Hp → Prop} (h : H p = some (.lst xs)) (e : ixN xs.length k = some j) (q : Q (upd H p (.lst (xs.set j v)))) : rSetL (.ref p) (.int k) v H Q := ⟨p, xs, k, j, rfl, rfl, h, e, q⟩
theorem i_gTup {n : Nat} {t : TGs} {a : Addr} {xs : List V} {Q : L2.St → Hp → Prop} (h : SqT K H a xs) (e : xs.length = n) (q : t xs σ H Q) : gTup K n t (.ref a) σ H Q := ⟨a, xs, rfl, h, e, q⟩
theorem i_gNil {Q : L2.St → Hp → Prop} (q : Q σ H) : gNil [] σ H Q := ⟨rfl, q⟩
theorem i_gCons {t : TG} {u : TGs} {v : V} {r : List V} {Q : L2.St → Hp → Prop} (q : t v σ H fun σ' H' => u r σ' H' Q) : gCons t u (v :: r) σ H Q := ⟨v, r, rfl, q⟩
/-! builtins' calls -/
end
/-! ### heaps -/
/-- all but p is as it was -/
def Kp (p : Addr) (H H' : Hp) : Prop := ∀ b o, H b = some o → b ≠ p → H' b = some o
theorem Kp.refl {p : Addr} {H : Hp} : Kp p H H := fun _ _ e _ => e
theorem Kp.of {p : Addr} {H H' : Hp} (s : Same H H') : Kp p H H' := fun b o e _ => s b o e
theorem Kp.trans {p : Addr} {H H1 H2 : Hp} (a : Kp p H H1) (b : Kp p H1 H2) : Kp p H H2 := fun c o e n => b c o (a c o e n) n
theorem Kp.upd {p : Addr} {H : Hp} {o : HO} : Kp p H (upd H p o) := fun b u e n => by rw [upd_ne n]; exact e
theorem same_new {H : Hp} {p : Addr} {o : HO} (h : H p = none) : Same H (upd H p o) := fun b x e => by
  rw [upd_ne (ne_of_none e h)]
  exact e
theorem Same.tup {K : PySem.W.Frag} {H H' : Hp} {a : Addr} {xs : List V} (e : Same H H') (h : SqT K H a xs) : SqT K H' a xs := by
  rcases h with (h | ⟨o, h⟩) | h
  · exact .inl (.inl (e _ _ h))
  · exact .inl (.inr ⟨o, e _ _ h⟩)
  · exact .inr h
/-- all tuples are as they were -/
def Tps (H H' : Hp) : Prop := ∀ a, (∀ xs, H a = some (.tup xs) → H' a = some (.tup xs)) ∧ ∀ o xs, H a = some (.frz o (.tup xs)) → H' a = some (.frz o (.tup xs))
theorem Tps.sq {K : PySem.W.Frag} {H H' : Hp} {a : Addr} {xs : List V} (e : Tps H H') (h : SqT K H a xs) : SqT K H' a xs := by
  rcases h with (h | ⟨o, h⟩) | h
  · exact .inl (.inl ((e a).1 _ h))
  · exact .inl (.inr ⟨o, (e a).2 _ _ h⟩)
  · exact .inr h
theorem Tps.refl {H : Hp} : Tps H H := fun _ => ⟨fun _ h => h, fun _ _ h => h⟩
theorem Tps.trans {H H1 H2 : Hp} (a : Tps H H1) (b : Tps H1 H2) : Tps H H2 := fun c => ⟨fun xs h => (b c).1 xs ((a c).1 xs h), fun o xs h => (b c).2 o xs ((a c).2 o xs h)⟩
theorem Tps.of {H H' : Hp} (s : Same H H') : Tps H H' := fun a => ⟨fun xs h => s _ _ h, fun o xs h => s _ _ h⟩
theorem Kp.tps {p : Addr} {H H' : Hp} (k : Kp p H H') {xs : List V} (h : H p = some (.lst xs)) : Tps H H' := fun a => ⟨fun ys e => k _ _ e (ne_of e h (by intro z; cases z)), fun o ys e => k _ _ e (ne_of e h (by intro z; cases z))⟩
theorem Kp.seq {K : PySem.W.Frag} {p b : Addr} {H H' : Hp} {xs : List V} (k : Kp p H H') (h : SqL K H b xs) (n : b ≠ p) : SqL K H' b xs := by
  rcases h with (h | ⟨o, h⟩) | h
  · exact .inl (.inl (k _ _ h n))
  · exact .inl (.inr ⟨o, k _ _ h n⟩)
  · exact .inr h
/-! ### data -/
def Shp (n : Nat) (d : PyData) : Prop := d.canLay0 = true ∧ d.depth ≤ n
theorem Shp.shaped {n : Nat} {d : PyData} (h : Shp n d) (hn : n ≤ 64) : SeqAt.shaped d = true := by
  unfold SeqAt.shaped
  rw [h.1, decide_eq_true (Nat.le_trans h.2 hn)]
  rfl
theorem Shp.eqv {n : Nat} {d : PyData} (h : Shp n d) : PyData.eqv d d = true := SeqAt.eqv_refl d h.1
theorem Shp.int (i : Int) : Shp 0 (.int i) := ⟨by simp [PyData.canLay0], by simp [PyData.depth]⟩
theorem Shp.non : Shp 0 .none := ⟨by simp [PyData.canLay0], by simp [PyData.depth]⟩
theorem Shp.bool (b : Bool) : Shp 0 (.bool b) := ⟨by simp [PyData.canLay0], by simp [PyData.depth]⟩
theorem Shp.mono {n m : Nat} {d : PyData} (h : Shp n d) (hm : n ≤ m) : Shp m d := ⟨h.1, Nat.le_trans h.2 hm⟩
theorem shpAll {n : Nat} : ∀ {ds : List PyData}, (∀ d ∈ ds, Shp n d) → PyData.canLayAll0 ds = true ∧ PyData.depthAll ds ≤ n
  | [], _ => ⟨by simp [PyData.canLayAll0], by simp [PyData.depthAll]⟩
  | d :: ds, h => by
    have h1 := h d List.mem_cons_self
    have h2 := shpAll (ds := ds) fun x hx => h x (List.mem_cons_of_mem _ hx)
    refine ⟨by rw [PyData.canLayAll0, h1.1, h2.1]; rfl, ?_⟩
    rw [PyData.depthAll]
    exact Nat.max_le.mpr ⟨h1.2, h2.2⟩
theorem Shp.tup {n : Nat} {ds : List PyData} (h : ∀ d ∈ ds, Shp n d) : Shp (n + 1) (.tuple ds) := by
  have := shpAll h
  exact ⟨by rw [PyData.canLay0]; exact this.1, by rw [PyData.depth]; omega⟩
theorem Shp.lst {n : Nat} {ds : List PyData} (h : ∀ d ∈ ds, Shp n d) : Shp (n + 1) (.list ds) := by
  have := shpAll h
  exact ⟨by rw [PyData.canLay0]; exact this.1, by rw [PyData.depth]; omega⟩
theorem dpAll_of {K : PySem.W.Frag} {H : Hp} : ∀ {xs : List V} {ds : List PyData}, xs.length = ds.length → (∀ (i : Nat) x d, xs[i]? = some x → ds[i]? = some d → Dp K H x d) → DpAll K H xs ds
  | [], [], _, _ => .nil
  | x :: xs, d :: ds, hl, h => .cons (h 0 x d rfl rfl) (dpAll_of (by simpa using hl) fun i y e h1 h2 => h (i + 1) y e (by simpa using h1) (by simpa using h2))
theorem dp_ints {K : PySem.W.Frag} {H : Hp} {a : Addr} {ns : List Int} (h : SqT K H a (ns.map V.int)) : Dp K H (.ref a) (.tuple (ns.map PyData.int)) := by
  refine .tup h (dpAll_of (by simp) fun i x d h1 h2 => ?_)
  rw [List.getElem?_map] at h1 h2
  cases e : ns[i]? with
  | none => rw [e] at h1; cases h1
  | some z =>
    rw [e] at h1 h2
    cases h1
    cases h2
    exact .int z
/-! ### slices of tuples -/
section
variable {prog : Program} {w : World} {A : Around} {E : Value → Shared → Prop} {s : Shared}
theorem tup_whole {t sl : Addr} {items : Array Value} {vl vu : Value} {lo hi : Option Int} {Q : Value → Shared → Prop} (ht : IsTup s.heap t items) (hs : s.heap.IsSliceOf sl vl vu .none) (pl : IsPart vl lo) (pu : IsPart vu hi)
    (h0 : HT.sIx items.size 0 lo = 0) (h1 : HT.sIx items.size items.size hi = items.size) (h : Q (.ref t) s) : wpAny (model prog w) A (getItem (.ref t) (.ref sl)) Q E s := by
  have hTs : s.TypeIs (.ref sl) "slice" := by
    obtain ⟨os, hos, hcs, _⟩ := id hs
    exact ⟨os, hos, hcs⟩
  unfold getItem
  try with_reducible refine wpAny_holding ?_
  first | refine wpAny_bind (wpAny_pure ?_) | skip
  refine wpAny_bind (wpAny_sequenceKey ht.typeIs (by decide) (wpAny_bind (wpAny_callSpecial?_slot (name := Str.ofString "__getitem__") ht.typeIs PyProof.Rows.slot_tuple_getitem (wpAny_call_entry PyProof.Rows.slot_tuple_getitem ht.typeIs entry_tuple_getitem ?_ (args_tuple_getitem _ _)))))
  show wpAny _ _ (Builtin.Tuple.tupleItemsOf (.ref t) >>= _) _ _ s
  refine wpAny_bind (tupleItemsOf_ ht (wpAny_bind (wpAny_typeOf hTs ?_)))
  rw [if_pos (by decide)]
  refine wpAny_bind (HT.sliceApplied_gen hs pl pu ?_)
  show wpAny _ _ (if (((HT.sIx items.size 0 lo : Nat) : Int) == 0 && (1 : Int) == 1 && (HT.sIx items.size items.size hi - HT.sIx items.size 0 lo) == items.size) = true then _ else _) _ _ s
  rw [h0, h1, if_pos (by simp)]
  unfold Builtin.Tuple.tupleIsExact
  refine wpAny_bind (wpAny_bind (wpAny_typeOf ht.typeIs (wpAny_pure ?_)))
  rw [if_pos (by decide)]
  first
    | exact wpAny_bind (wpAny_rule (wpAny_pure ⟨_, rfl, wpAny_pure h⟩))
    | exact wpAny_bind (wpAny_rule (wpAny_bind (wpAny_pure (wpAny_pure ⟨_, rfl, wpAny_pure h⟩))))
end
section
variable {X : Cx}
/-- t[lo:hi], the whole of it too (that is t itself) -/
def rSlQ (K : PySem.W.Frag) : V → Option Int → Option Int → Hp → VK → Prop := fun x lo hi H Q => ∃ a xs, x = .ref a ∧ SqT K H a xs ∧
  (cutV xs lo hi = xs → Q (.ref a) H) ∧ ∀ p, H p = none → Q (.ref p) (upd H p (.tup (cutV xs lo hi)))
theorem sl_tupQ : SlR X (rSlQ X.K) := by
  intro pins s σ H x v vl vu lo hi sl Q I rx hs pl pu h
  obtain ⟨a, xs, e, hx, q0, q1⟩ := h
  by_cases hw : HT.sIx xs.length 0 lo = 0 ∧ HT.sIx xs.length xs.length hi = xs.length
  · subst e
    cases rx
    obtain ⟨its, r, ht, hz⟩ := I.tuple hx
    have hlen : its.toArray.size = xs.length := by rw [List.size_toArray]; exact r.length.symm
    refine ⟨"tuple", _, PyProof.Rows.slot_tuple_getitem.lookup, ht.typeIs, ?_⟩
    refine tup_whole ht hs pl pu (by rw [hlen]; exact hw.1) (by rw [hlen]; exact hw.2) ⟨.ref a, H, I, rfl, q0 ?_⟩
    unfold cutV
    rw [hw.1, hw.2]
    simp
  · exact sl_tup pins s σ H x v vl vu lo hi sl Q I rx hs pl pu ⟨a, xs, e, hx, hw, q1⟩
end
/-! ### loops -/
section
variable {K : PySem.W.Frag} {a : Addr} {xs : List V} {g : TG} {tb : TS} {σ : L2.St} {H : Hp} {nx : L2.St → Hp → Prop} {rt : VK}
theorem f_list (Pv : Nat → L2.St → Hp → Prop) (h0 : Pv 0 σ H) (hl : ∀ i σ H, i ≤ xs.length → Pv i σ H → SqL K H a xs)
    (hs : ∀ i x σ H, xs[i]? = some x → Pv i σ H → g x σ H fun σ2 H2 => tb ⟨Pv (i + 1), rt, nx, Pv (i + 1)⟩ σ2 H2) (hd : ∀ σ H, Pv xs.length σ H → nx σ H) :
    ∃ W : Nat → Nat → L2.St → Hp → Prop, (∃ m, W 0 m σ H) ∧ ∀ i m σ H, W i m σ H →
      ((Itl K a).stop i H ∧ nx σ H) ∨ ((Itl K a).go i H ∧ ∃ N : L2.St → Hp → Prop, (∀ σ' H', N σ' H' → ∃ m', m' < m ∧ W (i + 1) m' σ' H') ∧ ∀ x H', (Itl K a).yld i H x H' → g x σ H' fun σ2 H2 => tb ⟨N, rt, nx, N⟩ σ2 H2) :=
  for_list (D := ⟨nx, rt, fun _ _ => False, fun _ _ => False⟩) Pv h0 hl hs hd
theorem f_tup (Pv : Nat → L2.St → Hp → Prop) (h0 : Pv 0 σ H) (hl : ∀ i σ H, i ≤ xs.length → Pv i σ H → SqT K H a xs)
    (hs : ∀ i x σ H, xs[i]? = some x → Pv i σ H → g x σ H fun σ2 H2 => tb ⟨Pv (i + 1), rt, nx, Pv (i + 1)⟩ σ2 H2) (hd : ∀ σ H, Pv xs.length σ H → nx σ H) :
    ∃ W : Nat → Nat → L2.St → Hp → Prop, (∃ m, W 0 m σ H) ∧ ∀ i m σ H, W i m σ H →
      ((Itt K a).stop i H ∧ nx σ H) ∨ ((Itt K a).go i H ∧ ∃ N : L2.St → Hp → Prop, (∀ σ' H', N σ' H' → ∃ m', m' < m ∧ W (i + 1) m' σ' H') ∧ ∀ x H', (Itt K a).yld i H x H' → g x σ H' fun σ2 H2 => tb ⟨N, rt, nx, N⟩ σ2 H2) :=
  for_tup (D := ⟨nx, rt, fun _ _ => False, fun _ _ => False⟩) Pv h0 hl hs hd
theorem f_range {lo : Int} {n : Nat} (Pv : Nat → L2.St → Hp → Prop) (h0 : Pv 0 σ H)
    (hs : ∀ i σ H, i < n → Pv i σ H → g (.int (lo + i)) σ H fun σ2 H2 => tb ⟨Pv (i + 1), rt, nx, Pv (i + 1)⟩ σ2 H2) (hd : ∀ σ H, Pv n σ H → nx σ H) :
    ∃ W : Nat → Nat → L2.St → Hp → Prop, (∃ m, W 0 m σ H) ∧ ∀ i m σ H, W i m σ H →
      ((Itr lo n).stop i H ∧ nx σ H) ∨ ((Itr lo n).go i H ∧ ∃ N : L2.St → Hp → Prop, (∀ σ' H', N σ' H' → ∃ m', m' < m ∧ W (i + 1) m' σ' H') ∧ ∀ x H', (Itr lo n).yld i H x H' → g x σ H' fun σ2 H2 => tb ⟨N, rt, nx, N⟩ σ2 H2) :=
  for_range (D := ⟨nx, rt, fun _ _ => False, fun _ _ => False⟩) Pv h0 hs hd
theorem f_rangeC {lo c : Int} {n : Nat} (Pv : Nat → L2.St → Hp → Prop) (h0 : Pv 0 σ H)
    (hs : ∀ i σ H, i < n → Pv i σ H → g (.int (lo + (i : Nat) * c)) σ H fun σ2 H2 => tb ⟨Pv (i + 1), rt, nx, Pv (i + 1)⟩ σ2 H2) (hd : ∀ σ H, Pv n σ H → nx σ H) :
    ∃ W : Nat → Nat → L2.St → Hp → Prop, (∃ m, W 0 m σ H) ∧ ∀ i m σ H, W i m σ H →
      ((Itc lo c n).stop i H ∧ nx σ H) ∨ ((Itc lo c n).go i H ∧ ∃ N : L2.St → Hp → Prop, (∀ σ' H', N σ' H' → ∃ m', m' < m ∧ W (i + 1) m' σ' H') ∧ ∀ x H', (Itc lo c n).yld i H x H' → g x σ H' fun σ2 H2 => tb ⟨N, rt, nx, N⟩ σ2 H2) :=
  for_rangeC (D := ⟨nx, rt, fun _ _ => False, fun _ _ => False⟩) Pv h0 hs hd
theorem i_rng3 {ta : TA} {R : It → Hp → Prop} (h : ta σ H fun vs H1 => ∃ (i j c : Int) (n : Nat), vs = [.int i, .int j, .int c] ∧ RgC i j c n ∧ R (Itc i c n) H1) : iRng3 ta σ H R := h
variable {tt : TT} {te : TE} {ws : List Nat} {D : Addr} {Qd : Hp → Prop} {σ' : L2.St}
theorem l_list (Pv : Nat → Hp → Prop) (h0 : Pv 0 (upd H D (.lst []))) (hl : ∀ i H, i ≤ xs.length → Pv i H → SqL K H a xs)
    (hs : ∀ i x H, xs[i]? = some x → Pv i H → g x σ' H fun σ2 H2 => wipe σ2 ws = σ' ∧ tt σ2 H2 fun b H3 =>
      if b = true then te σ2 H3 fun y H4 => ∃ acc, H4 D = some (.lst acc) ∧ acc.length < sizeLine ∧ Pv (i + 1) (upd H4 D (.lst (acc ++ [y]))) else Pv (i + 1) H3) (hd : ∀ H, Pv xs.length H → Qd H) (e : wipe σ' ws = σ' := by rfl) :
    ∃ W : Nat → Nat → Hp → Prop, (∃ m, W 0 m (upd H D (.lst []))) ∧ ∀ i m H, W i m H →
      ((Itl K a).stop i H ∧ Qd H) ∨ ((Itl K a).go i H ∧ ∃ Nx : Hp → Prop, (∀ H', Nx H' → ∃ m', m' < m ∧ W (i + 1) m' H') ∧ ∀ x H', (Itl K a).yld i H x H' → g x σ' H' fun σ2 H2 => wipe σ2 ws = σ' ∧ tt σ2 H2 fun b H3 =>
        if b = true then te σ2 H3 fun y H4 => ∃ acc, H4 D = some (.lst acc) ∧ acc.length < sizeLine ∧ Nx (upd H4 D (.lst (acc ++ [y]))) else Nx H3) := by
  have h := lc_list (K := K) (a := a) (xs := xs) (g := g) (tt := tt) (te := te) (vs := ws) (σ := σ') (H1 := H) (D := D) (Qd := Qd) Pv h0 hl (by rw [e]; exact hs) hd
  rw [e] at h
  exact h
theorem l_tup (Pv : Nat → Hp → Prop) (h0 : Pv 0 (upd H D (.lst []))) (hl : ∀ i H, i ≤ xs.length → Pv i H → SqT K H a xs)
    (hs : ∀ i x H, xs[i]? = some x → Pv i H → g x σ' H fun σ2 H2 => wipe σ2 ws = σ' ∧ tt σ2 H2 fun b H3 =>
      if b = true then te σ2 H3 fun y H4 => ∃ acc, H4 D = some (.lst acc) ∧ acc.length < sizeLine ∧ Pv (i + 1) (upd H4 D (.lst (acc ++ [y]))) else Pv (i + 1) H3) (hd : ∀ H, Pv xs.length H → Qd H) (e : wipe σ' ws = σ' := by rfl) :
    ∃ W : Nat → Nat → Hp → Prop, (∃ m, W 0 m (upd H D (.lst []))) ∧ ∀ i m H, W i m H →
      ((Itt K a).stop i H ∧ Qd H) ∨ ((Itt K a).go i H ∧ ∃ Nx : Hp → Prop, (∀ H', Nx H' → ∃ m', m' < m ∧ W (i + 1) m' H') ∧ ∀ x H', (Itt K a).yld i H x H' → g x σ' H' fun σ2 H2 => wipe σ2 ws = σ' ∧ tt σ2 H2 fun b H3 =>
        if b = true then te σ2 H3 fun y H4 => ∃ acc, H4 D = some (.lst acc) ∧ acc.length < sizeLine ∧ Nx (upd H4 D (.lst (acc ++ [y]))) else Nx H3) := by
  have h := lc_tup (K := K) (a := a) (xs := xs) (g := g) (tt := tt) (te := te) (vs := ws) (σ := σ') (H1 := H) (D := D) (Qd := Qd) Pv h0 hl (by rw [e]; exact hs) hd
  rw [e] at h
  exact h
theorem l_range {lo : Int} {n : Nat} (Pv : Nat → Hp → Prop) (h0 : Pv 0 (upd H D (.lst [])))
    (hs : ∀ i H, i < n → Pv i H → g (.int (lo + i)) σ' H fun σ2 H2 => wipe σ2 ws = σ' ∧ tt σ2 H2 fun b H3 =>
      if b = true then te σ2 H3 fun y H4 => ∃ acc, H4 D = some (.lst acc) ∧ acc.length < sizeLine ∧ Pv (i + 1) (upd H4 D (.lst (acc ++ [y]))) else Pv (i + 1) H3) (hd : ∀ H, Pv n H → Qd H) (e : wipe σ' ws = σ' := by rfl) :
    ∃ W : Nat → Nat → Hp → Prop, (∃ m, W 0 m (upd H D (.lst []))) ∧ ∀ i m H, W i m H →
      ((Itr lo n).stop i H ∧ Qd H) ∨ ((Itr lo n).go i H ∧ ∃ Nx : Hp → Prop, (∀ H', Nx H' → ∃ m', m' < m ∧ W (i + 1) m' H') ∧ ∀ x H', (Itr lo n).yld i H x H' → g x σ' H' fun σ2 H2 => wipe σ2 ws = σ' ∧ tt σ2 H2 fun b H3 =>
        if b = true then te σ2 H3 fun y H4 => ∃ acc, H4 D = some (.lst acc) ∧ acc.length < sizeLine ∧ Nx (upd H4 D (.lst (acc ++ [y]))) else Nx H3) := by
  have h := lc_range (lo := lo) (n := n) (g := g) (tt := tt) (te := te) (vs := ws) (σ := σ') (H1 := H) (D := D) (Qd := Qd) Pv h0 (by rw [e]; exact hs) hd
  rw [e] at h
  exact h
/-! a comprehension whose elements lay nothing -/
theorem l_rangeP {lo : Int} {n : Nat} (f : Nat → V) (hD : H D = none) (hn : n ≤ 1000000)
    (hs : ∀ i H' (R : VK), i < n → Same H H' → R (f i) H' → g (.int (lo + i)) σ' H' fun σ2 H2 => wipe σ2 ws = σ' ∧ tt σ2 H2 fun b H3 => if b = true then te σ2 H3 R else False)
    (hd : ∀ H', Same H H' → H' D = some (.lst ((List.range n).map f)) → Qd H') (e : wipe σ' ws = σ' := by rfl)
    (htt : ∀ (σ2 : L2.St) (H2 : Hp) (A : Hp → Prop) (B : Hp → Prop), (tt σ2 H2 fun b H3 => if b = true then A H3 else False) → tt σ2 H2 fun b H3 => if b = true then A H3 else B H3 := by intro _ _ _ _ h; exact h) (hg : ∀ x (σ2 : L2.St) (H2 : Hp) (A B : L2.St → Hp → Prop), (∀ s h, A s h → B s h) → g x σ2 H2 A → g x σ2 H2 B := by intro _ _ _ _ _ h q; exact h _ _ q) :
    ∃ W : Nat → Nat → Hp → Prop, (∃ m, W 0 m (upd H D (.lst []))) ∧ ∀ i m H, W i m H →
      ((Itr lo n).stop i H ∧ Qd H) ∨ ((Itr lo n).go i H ∧ ∃ Nx : Hp → Prop, (∀ H', Nx H' → ∃ m', m' < m ∧ W (i + 1) m' H') ∧ ∀ x H', (Itr lo n).yld i H x H' → g x σ' H' fun σ2 H2 => wipe σ2 ws = σ' ∧ tt σ2 H2 fun b H3 =>
        if b = true then te σ2 H3 fun y H4 => ∃ acc, H4 D = some (.lst acc) ∧ acc.length < sizeLine ∧ Nx (upd H4 D (.lst (acc ++ [y]))) else Nx H3) := by
  refine l_range (fun i H' => Same H H' ∧ H' D = some (.lst ((List.range i).map f))) ⟨same_new hD, upd_same⟩ (fun i H' hi h => ?_) (fun H' h => hd H' h.1 h.2) e
  obtain ⟨s, hD'⟩ := h
  refine hg _ _ _ _ _ (fun σ2 H2 q => ⟨q.1, htt _ _ _ _ q.2⟩) (hs i H' _ hi s ⟨_, hD', ?_, fun b o hb => ?_, ?_⟩)
  · rw [List.length_map, List.length_range, sizeLine_eq]; omega
  · rw [upd_ne (ne_of_none hb hD)]; exact s _ _ hb
  · rw [upd_same, List.range_succ, List.map_append] <;> rfl
theorem l_listP (f : Nat → V) (hD : H D = none) (hn : xs.length ≤ 1000000) (hx : SqL K H a xs)
    (hs : ∀ i x H' (R : VK), xs[i]? = some x → Same H H' → R (f i) H' → g x σ' H' fun σ2 H2 => wipe σ2 ws = σ' ∧ tt σ2 H2 fun b H3 => if b = true then te σ2 H3 R else False)
    (hd : ∀ H', Same H H' → H' D = some (.lst ((List.range xs.length).map f)) → Qd H') (e : wipe σ' ws = σ' := by rfl)
    (htt : ∀ (σ2 : L2.St) (H2 : Hp) (A : Hp → Prop) (B : Hp → Prop), (tt σ2 H2 fun b H3 => if b = true then A H3 else False) → tt σ2 H2 fun b H3 => if b = true then A H3 else B H3 := by intro _ _ _ _ h; exact h) (hg : ∀ x (σ2 : L2.St) (H2 : Hp) (A B : L2.St → Hp → Prop), (∀ s h, A s h → B s h) → g x σ2 H2 A → g x σ2 H2 B := by intro _ _ _ _ _ h q; exact h _ _ q) :
    ∃ W : Nat → Nat → Hp → Prop, (∃ m, W 0 m (upd H D (.lst []))) ∧ ∀ i m H, W i m H →
      ((Itl K a).stop i H ∧ Qd H) ∨ ((Itl K a).go i H ∧ ∃ Nx : Hp → Prop, (∀ H', Nx H' → ∃ m', m' < m ∧ W (i + 1) m' H') ∧ ∀ x H', (Itl K a).yld i H x H' → g x σ' H' fun σ2 H2 => wipe σ2 ws = σ' ∧ tt σ2 H2 fun b H3 =>
        if b = true then te σ2 H3 fun y H4 => ∃ acc, H4 D = some (.lst acc) ∧ acc.length < sizeLine ∧ Nx (upd H4 D (.lst (acc ++ [y]))) else Nx H3) := by
  refine l_list (xs := xs) (fun i H' => Same H H' ∧ H' D = some (.lst ((List.range i).map f))) ⟨same_new hD, upd_same⟩ (fun i H' _ h => Same.seq h.1 hx) (fun i x H' hi h => ?_) (fun H' h => hd H' h.1 h.2) e
  obtain ⟨s, hD'⟩ := h
  have hlt := (List.getElem?_eq_some_iff.mp hi).1
  refine hg _ _ _ _ _ (fun σ2 H2 q => ⟨q.1, htt _ _ _ _ q.2⟩) (hs i x H' _ hi s ⟨_, hD', ?_, fun b o hb => ?_, ?_⟩)
  · rw [List.length_map, List.length_range, sizeLine_eq]; omega
  · rw [upd_ne (ne_of_none hb hD)]; exact s _ _ hb
  · rw [upd_same, List.range_succ, List.map_append] <;> rfl
theorem l_tupP (f : Nat → V) (hD : H D = none) (hn : xs.length ≤ 1000000) (hx : SqT K H a xs)
    (hs : ∀ i x H' (R : VK), xs[i]? = some x → Same H H' → R (f i) H' → g x σ' H' fun σ2 H2 => wipe σ2 ws = σ' ∧ tt σ2 H2 fun b H3 => if b = true then te σ2 H3 R else False)
    (hd : ∀ H', Same H H' → H' D = some (.lst ((List.range xs.length).map f)) → Qd H') (e : wipe σ' ws = σ' := by rfl)
    (htt : ∀ (σ2 : L2.St) (H2 : Hp) (A : Hp → Prop) (B : Hp → Prop), (tt σ2 H2 fun b H3 => if b = true then A H3 else False) → tt σ2 H2 fun b H3 => if b = true then A H3 else B H3 := by intro _ _ _ _ h; exact h) (hg : ∀ x (σ2 : L2.St) (H2 : Hp) (A B : L2.St → Hp → Prop), (∀ s h, A s h → B s h) → g x σ2 H2 A → g x σ2 H2 B := by intro _ _ _ _ _ h q; exact h _ _ q) :
    ∃ W : Nat → Nat → Hp → Prop, (∃ m, W 0 m (upd H D (.lst []))) ∧ ∀ i m H, W i m H →
      ((Itt K a).stop i H ∧ Qd H) ∨ ((Itt K a).go i H ∧ ∃ Nx : Hp → Prop, (∀ H', Nx H' → ∃ m', m' < m ∧ W (i + 1) m' H') ∧ ∀ x H', (Itt K a).yld i H x H' → g x σ' H' fun σ2 H2 => wipe σ2 ws = σ' ∧ tt σ2 H2 fun b H3 =>
        if b = true then te σ2 H3 fun y H4 => ∃ acc, H4 D = some (.lst acc) ∧ acc.length < sizeLine ∧ Nx (upd H4 D (.lst (acc ++ [y]))) else Nx H3) := by
  refine l_tup (xs := xs) (fun i H' => Same H H' ∧ H' D = some (.lst ((List.range i).map f))) ⟨same_new hD, upd_same⟩ (fun i H' _ h => Same.tup h.1 hx) (fun i x H' hi h => ?_) (fun H' h => hd H' h.1 h.2) e
  obtain ⟨s, hD'⟩ := h
  have hlt := (List.getElem?_eq_some_iff.mp hi).1
  refine hg _ _ _ _ _ (fun σ2 H2 q => ⟨q.1, htt _ _ _ _ q.2⟩) (hs i x H' _ hi s ⟨_, hD', ?_, fun b o hb => ?_, ?_⟩)
  · rw [List.length_map, List.length_range, sizeLine_eq]; omega
  · rw [upd_ne (ne_of_none hb hD)]; exact s _ _ hb
  · rw [upd_same, List.range_succ, List.map_append] <;> rfl
end
theorem i_yes {σ : L2.St} {H : Hp} {Q : Bool → Hp → Prop} (q : Q true H) : tYes σ H Q := q
/-! ### ifs -/
theorem c_dec {P A B : Prop} [Decidable P] (h1 : P → A) (h2 : ¬ P → B) : if decide P = true then A else B := by
  by_cases h : P
  · rw [if_pos (decide_eq_true h)]; exact h1 h
  · rw [if_neg (by rw [decide_eq_false h]; exact Bool.false_ne_true)]; exact h2 h
theorem c_decN {P A B : Prop} [Decidable P] (h1 : ¬ P → A) (h2 : P → B) : if (!decide P) = true then A else B := by
  by_cases h : P
  · rw [if_neg (by rw [decide_eq_true h]; exact Bool.false_ne_true)]; exact h2 h
  · rw [if_pos (by rw [decide_eq_false h]; rfl)]; exact h1 h
theorem c_nt {A B : Prop} (h : B) : if (!true) = true then A else B := iteF h
theorem c_nf {A B : Prop} (h : A) : if (!false) = true then A else B := iteT h
theorem c_bool {b : Bool} {A B : Prop} (h1 : b = true → A) (h2 : b = false → B) : if b = true then A else B := by
  cases b
  · exact iteF (h2 rfl)
  · exact iteT (h1 rfl)
theorem c_yes {P A B : Prop} [Decidable P] (h : P) (h1 : A) : if decide P = true then A else B := by rw [if_pos (decide_eq_true h)]; exact h1
theorem c_no {P A B : Prop} [Decidable P] (h : ¬ P) (h1 : B) : if decide P = true then A else B := by rw [if_neg (by rw [decide_eq_false h]; exact Bool.false_ne_true)]; exact h1
theorem c_yesN {P A B : Prop} [Decidable P] (h : ¬ P) (h1 : A) : if (!decide P) = true then A else B := by rw [if_pos (by rw [decide_eq_false h]; rfl)]; exact h1
theorem c_noN {P A B : Prop} [Decidable P] (h : P) (h1 : B) : if (!decide P) = true then A else B := by rw [if_neg (by rw [decide_eq_true h]; exact Bool.false_ne_true)]; exact h1
section
variable {K : PySem.W.Frag} {σ : L2.St} {H : Hp} {Q : VK}
theorem i_slA {p : Addr} {xs : List V} {lo hi : Option Int} (h : SqT K H p xs) (q : ∀ (r : Addr) (H' : Hp), Same H H' → SqT K H' r (cutV xs lo hi) → Q (.ref r) H') : rSlQ K (.ref p) lo hi H Q :=
  ⟨p, xs, rfl, h, fun e => q p H (Same.refl H) (by rw [e]; exact h), fun r hr => q r _ (same_new hr) (SqT.of upd_same)⟩
theorem i_eqD {x y : V} {d e : PyData} {n m : Nat} (h1 : Dp K H x d) (h2 : Dp K H y e) (s1 : Shp n d) (s2 : Shp m e) (hn : n ≤ 64) (hm : m ≤ 64) (q : Q (.bl (PyData.eqv d e)) H) : rEqD K x y H Q := ⟨d, e, h1, h2, s1.shaped hn, s2.shaped hm, q⟩
theorem i_neD {x y : V} {d e : PyData} {n m : Nat} (h1 : Dp K H x d) (h2 : Dp K H y e) (s1 : Shp n d) (s2 : Shp m e) (hn : n ≤ 64) (hm : m ≤ 64) (q : Q (.bl (!PyData.eqv d e)) H) : rNeD K x y H Q := ⟨d, e, h1, h2, s1.shaped hn, s2.shaped hm, q⟩
/-- == and != of the same data -/
theorem i_eqS' {x y : V} {d : PyData} {n : Nat} (h1 : Dp K H x d) (h2 : Dp K H y d) (s1 : Shp n d) (hn : n ≤ 64) (q : Q (.bl true) H) : rEqD K x y H Q := i_eqD h1 h2 s1 s1 hn hn (by rw [s1.eqv]; exact q)
theorem i_neS' {x y : V} {d : PyData} {n : Nat} (h1 : Dp K H x d) (h2 : Dp K H y d) (s1 : Shp n d) (hn : n ≤ 64) (q : Q (.bl false) H) : rNeD K x y H Q := i_neD h1 h2 s1 s1 hn hn (by rw [s1.eqv]; exact q)
theorem i_while {c : TT} {tb : TS} {nx : L2.St → Hp → Prop} {rt : VK} {bk ct : L2.St → Hp → Prop} (W : Nat → L2.St → Hp → Prop) (h0 : ∃ m, W m σ H) (h : ∀ m σ H, W m σ H →
  c σ H fun b H1 => if b = true then ∃ N : L2.St → Hp → Prop, (∀ σ' H', N σ' H' → ∃ m', m' < m ∧ W m' σ' H') ∧ tb ⟨N, rt, nx, N⟩ σ H1 else nx σ H1) : tWhile c tb ⟨nx, rt, bk, ct⟩ σ H := ⟨W, h0, h⟩
theorem i_par {i j : Nat} {ta : TA} {nx : L2.St → Hp → Prop} {rt : VK} {bk ct : L2.St → Hp → Prop} (h : ta σ H fun vs H1 => ∃ v w, vs = [v, w] ∧ nx ((σ.set i (some v)).set j (some w)) H1) : tPar i j ta ⟨nx, rt, bk, ct⟩ σ H := h
theorem i_two {x y : V} {R : V → V → Prop} (q : R x y) : ∃ v w, [x, y] = [v, w] ∧ R v w := ⟨x, y, rfl, q⟩
theorem Dp.same {K : PySem.W.Frag} {H H' : Hp} (s : Same H H') : ∀ (d : PyData) (v : V), Dp K H v d → Dp K H' v d := by
  intro d v h
  exact Dp.rec (motive_1 := fun v d _ => Dp K H' v d) (motive_2 := fun vs ds _ => DpAll K H' vs ds) .non (fun b => .bl b) (fun i => .int i) (fun x => .str x) (fun h _ q => .lst (s.seq h) q) (fun h _ q => .tup (Same.tup s h) q) .nil (fun _ _ h1 h2 => .cons h1 h2) h
end
/-! ### a def that can be called -/
structure Df (K : PySem.W.Frag) (mg : Str → Option Value) (x : Str) (st : Stmt) (f : Addr) (fd : FuncData) (ps : List Str) : Prop where
  fn : Fun K x x st f fd
  mgf : mg x = some (.ref f)
  bi : Binds K fd ps []
/-- a def of the text by its promise: it lets no exception out -/
structure Cl (P : Program) (w : World) (K : PySem.W.Frag) (mg : Str → Option Value) (base : Heap) (k : Nat) (x : Str) (sp : Sp) : Prop where
  ex : ∃ (f : Addr) (fd : FuncData) (ps : List Str), FnOk P w K mg base CX0 k f fd ps sp ∧ mg x = some (.ref f) ∧ PySem.W.keepIn K (.ref f) = true ∧ Binds K fd ps []
section
variable {P : Program} {w : World} {K : PySem.W.Frag} {mg : Str → Option Value} {base : Heap}
theorem Df.ok {x : Str} {st : Stmt} {f : Addr} {fd : FuncData} {ps N : List Str} {k : Nat} {sp : Sp} (F : Df K mg x st f fd ps) (S : FnScope N ps (defScope st)) (len : ∀ vs H Q E, sp vs H Q E → vs.length = ps.length)
    (hbody : ∀ (cdv : Value) (A : Around) (outer : List Env) (s : Shared) (H : Hp) (vs : List V) (Q : VK) (E : XK), Room k (A.deeper (envOfC x (defScope st) s.heap.objs.size f cdv)) → sp vs H Q E →
      ∃ t, PSs (cxOf CX0 P w K mg base N x (defScope st) f cdv A outer s H E).nox (defBody st) t ∧ t { nx := fun _ H' => Q .non H', rt := Q } (start N vs) H) : FnOk P w K mg base CX0 (k + 1) f fd ps sp :=
  F.fn.ok S len hbody
theorem Df.cl {x : Str} {st : Stmt} {f : Addr} {fd : FuncData} {ps : List Str} {k : Nat} {sp : Sp} (F : Df K mg x st f fd ps) (o : FnOk P w K mg base CX0 k f fd ps sp) : Cl P w K mg base k x sp :=
  ⟨f, fd, ps, o, F.mgf, F.fn.kp, F.bi⟩
variable {X : Cx}
theorem pe_cl {x : Str} {sp : Sp} {j k : Nat} {e : Expr} {es : List Expr} {t : TA} {p pos : Pos} (c : Cl X.prog X.w X.K X.mg X.base k x sp) (hr : Room j X.A) (hk : k ≤ j) (hg : Gl X x) (ha : PA X (e :: es) t)
    (hdb : (x == ("__debug__" : Str)) = false := by decide) (he : starEach (e :: es) X.env = (false, eval e X.env) :: starEach es X.env := by rfl) (hpl : (backTo pos (starEach es X.env)).any (·.1) = false := by rfl) :
    PE X (.Call (.Name x p) (e :: es) [] pos) (tCall sp [] E0 t) := by
  obtain ⟨f, fd, ps, F, hm, kp, b⟩ := c.ex
  exact pe_call F (hr.mono hk) hg hm kp b .nil pass0 ha hdb he hpl
theorem pe_cl0 {x : Str} {sp : Sp} {j k : Nat} {p pos : Pos} (c : Cl X.prog X.w X.K X.mg X.base k x sp) (hr : Room j X.A) (hk : k ≤ j) (hg : Gl X x) (hdb : (x == ("__debug__" : Str)) = false := by decide) :
    PE X (.Call (.Name x p) [] [] pos) (tCall sp [] E0 tNil) := by
  obtain ⟨f, fd, ps, F, hm, kp, b⟩ := c.ex
  exact pe_call0 F (hr.mono hk) hg hm kp b .nil pass0 hdb
/-- a constant of the module's top -/
def Cn (mg : Str → Option Value) (x : Str) (v : V) : Prop := ∃ u, mg x = some u ∧ RelV v u
theorem pe_cn {x : Str} {v : V} {pos : Pos} (hg : Gl X x) (h : Cn X.mg x v) (hd : (x == ("__debug__" : Str)) = false := by decide) : PE X (.Name x pos) (tC v) := by
  obtain ⟨u, hm, r⟩ := h
  exact pe_glob hg hm r hd
section
variable {K : PySem.W.Frag} {T : String} {name : Str} {id : String} {r : V → List V → Hp → VK → Prop} {o e : Expr} {es : List Expr} {apos cpos pos : Pos} {to ta : TE} {t : TA}
theorem pe_bm0K (hK : X.K = K) (pa : PlainAttrs T) (slot : Slot T name id) (hty : typeOf (.builtin id) = pure (.type "method_descriptor")) (hm : MtR X id r) (ho : PE X o to)
    (hbase : attributeBase o name X.env (eval o X.env) = eval o X.env := by rfl) (hline : (apos.endLine == cpos.line) = true := by rfl) : PE X (.Call (.Attribute o name apos) [] [] cpos) (tBM0 K T r to) := by
  subst hK; exact pe_bm0 pa slot hty hm ho hbase hline
theorem pe_bmK (hK : X.K = K) (pa : PlainAttrs T) (slot : Slot T name id) (hty : typeOf (.builtin id) = pure (.type "method_descriptor")) (hm : MtR X id r) (ho : PE X o to) (ha : PA X (e :: es) t)
    (hbase : attributeBase o name X.env (eval o X.env) = eval o X.env := by rfl)
    (hfew : ((backTo cpos (starEach (e :: es) X.env)).all (fun x => !x.1) && (backToKw cpos (keywordEach [] X.env)).all (fun x => x.1.isSome)
      && decide ((e :: es).length + ([] : List Keyword).length + (if ([] : List Keyword).isEmpty then 0 else 1) < 30)) = true := by rfl)
    (hline : (apos.endLine == cpos.line) = true := by rfl) (hs : starEach (e :: es) X.env = (false, eval e X.env) :: starEach es X.env := by rfl) (hplain : (backTo cpos (starEach es X.env)).any (·.1) = false := by rfl) :
    PE X (.Call (.Attribute o name apos) (e :: es) [] cpos) (tBM K T r to t) := by
  subst hK; exact pe_bm pa slot hty hm ho ha hbase hfew hline hs hplain
theorem pe_fldK (hK : X.K = K) {f : Str} (he : PE X e ta) (hb : attributeBase e f X.env (eval e X.env) = eval e X.env) : PE X (.Attribute e f pos) (tFld K ta f) := by
  subst hK; exact pe_fld he hb
theorem pg_tupK (hK : X.K = K) {es : List Expr} {k : Nat} {t : TGs} {n : Nat} (hc : X.calm = true) (h : PGs X es t)
    (hn : (assignEach es X.env).length = n := by rfl) (hst : (assignEach es X.env).findIdx? (·.1) = none := by rfl) : PG X (.Tuple es k pos) (gTup K n t) := by
  subst hK; exact pg_tup hc h hn hst
end
theorem get_list : L2.PGet X (rIxL X.K) := by
  intro pins s σ H x y v u Q I rx ry h
  obtain ⟨p, xs, i, z, rfl, rfl, hq, he, q⟩ := h
  cases rx
  obtain ⟨t, rfl⟩ := ry
  obtain ⟨its, r, pl, hz⟩ := I.list hq
  obtain ⟨j, h1, h2, h3, h4, h5⟩ := atI_get he
  obtain ⟨w, ew, rw'⟩ := r.get h2
  have hl := r.length
  have hn := line63
  have fin : EP X pins σ Q w s := ⟨z, H, I, rw', q⟩
  by_cases h0 : 0 ≤ i
  · have hj : i.toNat = j := by
      rw [seqIndex_of h0 h5] at h1
      exact Option.some.inj h1
    exact wpAny_getItem_list pl.isList h0 (by omega) (by rw [hj]; simpa using ew) fin
  · have hj : (i + (its.toArray.size : Int)).toNat = j := by
      rw [seqIndex_neg (by omega) h4] at h1
      rw [List.size_toArray, ← hl]
      exact Option.some.inj h1
    exact wpAny_getItem_list_neg pl.isList (by omega) (by rw [List.size_toArray] <;> omega) (by omega) (by rw [hj]; simpa using ew) fin
end
theorem perm_erase {α : Type} : ∀ (l : List α) (i : Nat) (h : i < l.length), (l[i] :: l.eraseIdx i).Perm l
  | x :: r, 0, _ => List.Perm.refl _
  | x :: r, i + 1, h => (List.Perm.swap x (r[i]'(Nat.lt_of_succ_lt_succ h)) (r.eraseIdx i)).trans ((perm_erase r i (Nat.lt_of_succ_lt_succ h)).cons x)
theorem ints_at {ns : List Int} {i : Nat} {x : V} (h : (ns.map V.int)[i]? = some x) : ∃ z, x = .int z ∧ ns[i]? = some z ∧ ns.take (i + 1) = ns.take i ++ [z] ∧ i < ns.length := by
  rw [List.getElem?_map] at h
  cases e : ns[i]? with
  | none => rw [e] at h; cases h
  | some z =>
    rw [e] at h
    exact ⟨z, (Option.some.inj h).symm, rfl, by rw [List.take_add_one, e]; rfl, (List.getElem?_eq_some_iff.mp e).1⟩
theorem at_lt {α : Type} {xs : List α} {i : Int} (h0 : 0 ≤ i) (h : i < xs.length) : ∃ v, atI xs i = some v ∧ v ∈ xs ∧ xs[i.toNat]? = some v := by
  have hl : i.toNat < xs.length := by omega
  refine ⟨xs[i.toNat], ?_, List.getElem_mem hl, List.getElem?_eq_getElem hl⟩
  have := atI_nat (xs := xs) (j := i.toNat) (v := xs[i.toNat]) (List.getElem?_eq_getElem hl)
  rw [Int.toNat_of_nonneg h0] at this
  exact this
theorem ixN_of {n : Nat} {i : Int} (h0 : 0 ≤ i) (h : i < n) : ixN n i = some i.toNat := by
  unfold ixN
  rw [if_pos h0, if_pos h]
end Jp

namespace Law
open PySem PySem.Spec PyProof.Rows L2 Jp
/-! ### the walk's small steps -/
local macro_rules | `(tactic| wtm_at "jset") => `(tactic| (first | (simp only [wipe, List.map_cons, List.map_nil, List.set_cons_zero, List.set_cons_succ]; done) | (simp only [wipe, List.map_cons, List.map_nil, List.set_cons_zero, List.set_cons_succ]; exact rfl) | exact rfl))
local macro_rules | `(tactic| wtm_at "jw1") => `(tactic| first
  | ((with_reducible refine' i_var ?h ?_); (case h => exact rfl))
  | with_reducible refine' i_c ?_ | with_reducible refine' i_op ?_ | with_reducible refine' i_seq ?_ | with_reducible refine' i_asg ?_
  | ((with_reducible refine' i_gNameE ?e ?_); (case e => wtm_at "jset"))
  | with_reducible refine' i_ret ?_ | with_reducible refine' i_test ?_ | with_reducible refine' i_isb ?_
  | with_reducible refine' i_cons ?_ | with_reducible refine' i_nil ?_ | with_reducible refine' i_call ?_ | with_reducible refine' i_cb ?_
  | with_reducible refine' i_rI0 ?_ | ((with_reducible refine' i_rI ?c ?_); (case c => wtm_at "jside")) | with_reducible refine' i_rU ?_
  | with_reducible refine' i_eqI ?_ | with_reducible refine' i_neI ?_ | with_reducible refine' i_eqB ?_ | with_reducible refine' i_neB ?_ | with_reducible refine' i_eqS ?_ | with_reducible refine' i_neS ?_
  | with_reducible refine' i_isN ?_ | with_reducible refine' i_notN ?_
  | with_reducible refine' i_un ?_ | with_reducible refine' i_drop ?_ | with_reducible refine' i_retN ?_ | with_reducible refine' i_next ?_
  | ((with_reducible refine' i_ixL ?h ?e ?_); (case h => wtm_at "jsq"); (case e => wtm_at "jat"))
  | ((with_reducible refine' i_ixT ?h ?e ?_); (case h => wtm_at "jsq"); (case e => wtm_at "jat"))
  | ((with_reducible refine' i_ix1 (i_ixL ?h ?e ?_)); (case h => wtm_at "jsq"); (case e => wtm_at "jat"))
  | ((with_reducible refine' i_ix2 (i_ixT ?h ?e ?_)); (case h => wtm_at "jsq"); (case e => wtm_at "jat"))
  | with_reducible refine' i_gSub ?_
  | ((with_reducible refine' i_setL ?h ?e ?_); (case h => wtm_at "jhp"); (case e => wtm_at "jixn"))
  | ((with_reducible refine' i_gTup ?h ?e ?_); (case h => wtm_at "jsq"); (case e => rfl)) | with_reducible refine' i_gCons ?_ | with_reducible refine' i_gNil ?_
  | with_reducible refine' i_int ?_ | with_reducible refine' i_intB ?_ | with_reducible refine' i_abs ?_ | with_reducible refine' i_max2 ?_ | with_reducible refine' i_min2 ?_
  | ((with_reducible refine' i_lenL ?h ?_); (case h => wtm_at "jsq")) | ((with_reducible refine' i_lenT ?h ?_); (case h => wtm_at "jsq"))
  | ((with_reducible refine' i_tupL ?h ?_); (case h => wtm_at "jsq")) | ((with_reducible refine' i_lstL ?h ?_); (case h => wtm_at "jsq")) | ((with_reducible refine' i_lstT ?h ?_); (case h => wtm_at "jsq")) | ((with_reducible refine' i_tupT ?h ?_); (case h => wtm_at "jsq"))
  | ((with_reducible refine' i_new ?h ?_); (case h => wtm_at "jlen"))
  | with_reducible refine' i_tup ?_ | with_reducible refine' i_lst ?_ | with_reducible refine' i_if ?_ | with_reducible refine' i_andV ?_ | with_reducible refine' i_orV ?_ | with_reducible refine' i_notV ?_ | with_reducible refine' i_B ?_
  | with_reducible refine' i_and ?_ | with_reducible refine' i_or ?_ | with_reducible refine' i_not ?_ | with_reducible refine' i_break ?_ | with_reducible refine' i_cont ?_
  | ((with_reducible refine' i_augE ?h ?_); (case h => exact rfl)) | with_reducible refine' i_augS ?_ | with_reducible refine' i_ipI ?_
  | with_reducible refine' i_for ?_ | with_reducible refine' i_iList ?_ | with_reducible refine' i_iTup ?_ | ((with_reducible refine' i_isL ?h ?_); (case h => wtm_at "jsq")) | ((with_reducible refine' i_isT ?h ?_); (case h => wtm_at "jsq"))
  | with_reducible refine' i_rng1 ?_ | with_reducible refine' i_rng2 ?_
  | ((with_reducible refine' i_isR1 ?h1 ?h2 ?_); (case h1 => wtm_at "jside"); (case h2 => wtm_at "jside"))
  | ((with_reducible refine' i_isR2 ?h1 ?h2 ?h3 ?h4 ?_); (case h1 => wtm_at "jside"); (case h2 => wtm_at "jside"); (case h3 => wtm_at "jside"); (case h4 => wtm_at "jside"))
  | ((with_reducible refine' i_lc ?e ?_); (case e => wtm_at "jset"))
  | with_reducible refine' i_yes ?_ | with_reducible refine' i_sl ?_ | with_reducible refine' i_par ?_ | with_reducible refine' i_two ?_ | with_reducible refine' i_noPart ?_ | with_reducible refine' i_part ?_ | with_reducible refine' i_isI ?_
  | with_reducible refine' i_bm ?_ | with_reducible refine' i_bm0 ?_ | ((with_reducible refine' i_tyL ?h ?_); (case h => wtm_at "jsq"))
  | ((with_reducible refine' i_app ?h ?e ?_); (case h => wtm_at "jhp"); (case e => wtm_at "jsmall"))
  | with_reducible refine' i_chain ?_ | ((with_reducible refine' i_cat ?h1 ?h2 ?e ?_); (case h1 => wtm_at "jhp"); (case h2 => wtm_at "jhp"); (case e => wtm_at "jlen"))
  | with_reducible refine iteT ?_ | with_reducible refine iteF ?_ | with_reducible refine' c_nt ?_ | with_reducible refine' c_nf ?_)
local macro_rules | `(tactic| wtm_at "js") => `(tactic| repeat (wtm_at "jw1"))
local macro_rules | `(tactic| wtm_at "jw") => `(tactic| repeat (first | wtm_at "jw1" | with_reducible refine' i_ifS ?_))
local macro_rules | `(tactic| wtm_at "jlen") => `(tactic| first | decide | (simp [sizeLine]; done) | omega)
/- a condition of an operation -/
local macro_rules | `(tactic| wtm_at "jside") => `(tactic| first | with_reducible assumption | omega | decide | (simp only [List.length_map]; omega) | (refine Or.inl ?_; decide) | (refine Or.inr ?_; decide) | (refine ⟨?_, ?_⟩ <;> omega) | (refine Or.inl ?_; constructor <;> omega) | (refine Or.inr ?_; constructor <;> omega) | (refine ⟨by decide, by decide, by decide⟩) | (with_reducible refine wide_div ?_ (b := 64) ?_ ?_ ?_ <;> first | omega | decide))
/- H p = some o -/
local macro_rules | `(tactic| wtm_at "jhp") => `(tactic| first | assumption | with_reducible exact upd_same | ((with_reducible refine' Eq.trans (upd_ne ?hne) ?hgo); (case hne => wtm_at "jne"); (case hgo => wtm_at "jhp")))
local macro_rules | `(tactic| wtm_at "jne") => `(tactic| first | assumption | (refine Ne.symm ?_; assumption) | (refine ne_of_none (by assumption) (by assumption)) | (refine (ne_of_none (by assumption) (by assumption)).symm))
local macro_rules | `(tactic| wtm_at "jsq") => `(tactic| first | assumption | ((with_reducible refine' SqL.of ?hh); (case hh => wtm_at "jhp")) | ((with_reducible refine' SqT.of ?hh); (case hh => wtm_at "jhp")) | ((with_reducible refine' Same.seq (same_new ?hn) ?hh); (case hn => assumption); (case hh => wtm_at "jsq")) | ((with_reducible refine' Same.tup (same_new ?hn) ?hh); (case hn => assumption); (case hh => wtm_at "jsq")))
/- the item at a place -/
local macro_rules | `(tactic| wtm_at "jat") => `(tactic| first | exact rfl | assumption)
local macro_rules | `(tactic| wtm_at "jixn") => `(tactic| first | exact rfl | assumption)
local macro_rules | `(tactic| wtm_at "jsmall") => `(tactic| first | assumption | exact small1000 (by first | assumption | omega | (simp; done) | (simp; omega)))

/-! ### tuple(reversed(x)), x a tuple -/
section
open RT
theorem nolen_rt : typeLookup (.type "reversed") "__len__" = pure none := by rw [typeLookup_type, builtinLookup_eq_fast]; kernel_rfl
theorem slot_rt_hint : Slot "reversed" "__length_hint__" "reversed.__length_hint__" :=
  .of (owner := "reversed") (n := "__length_hint__") (by rw [typeLookup_type, builtinLookup_eq_fast]; kernel_rfl) (by decide +kernel) (by decide +kernel) (by decide +kernel)
    (by first | exact .inl (by decide +kernel) | exact .inr (by decide +kernel)) (by rw [isSubtype_type]; kernel_rfl)
theorem entry_rt_hint : entryFor table "reversed.__length_hint__" = some Builtin.«reversed.__length_hint__» := entryFor_of_tree (by kernel_rfl)
theorem args_rt_hint (a : Value) : argsOk "reversed.__length_hint__" ⟨[a], []⟩ := by
  unfold argsOk; rw [signature?_of (id := "reversed.__length_hint__") (n := ['_', '_', 't', 'n', 'i', 'h', '_', 'h', 't', 'g', 'n', 'e', 'l', '_', '_']) (o := ['d', 'e', 's', 'r', 'e', 'v', 'e', 'r']) (by kernel_rfl) owner_rt]; kernel_rfl

def StR (it t : Addr) (items : Array Value) (i : Nat) (s : Shared) : Prop := i ≤ items.size ∧ IsRt s.heap it t ((items.size : Int) - 1 - (i : Int)) ∧ IsTup s.heap t items

theorem walks_rt {prog : Program} {w : World} {A : Around} (hh : A.handled = none) (it t : Addr) (hne : t ≠ it) (items : Array Value) (hsz : items.size ≤ sizeLine) :
    WalksS prog w A it [it, t] [it] (fun a b => b = a) items.size (fun i v => items[items.size - 1 - i]? = some v) (StR it t items) where
  sub := fun b hb => by simp at hb; simp [hb]
  grefl := fun _ => rfl
  gtrans := fun _ _ _ h1 h2 => h2.trans h1
  frame := fun i s h' tk x _ hk => ⟨x.1, x.2.1.at fun o e => hk it (by simp) o e, by obtain ⟨o, ho, r⟩ := x.2.2; exact ⟨o, hk t (by simp) _ ho, r⟩⟩
  item := fun i s Q E hi x hQ => by
    have e : (items.size : Int) - 1 - (i : Int) = ((items.size - 1 - i : Nat) : Int) := by omega
    have hit := x.2.1
    rw [e] at hit
    have hx : items[items.size - 1 - i]? = some (items[items.size - 1 - i]'(by omega)) := Array.getElem?_eq_getElem (by omega)
    refine next_rt_item hit x.2.2 hx hsz fun h' hit' hs' => ?_
    have e2 : ((items.size - 1 - i : Nat) : Int) - 1 = (items.size : Int) - 1 - ((i + 1 : Nat) : Int) := by omega
    rw [e2] at hit'
    refine hQ _ _ hx ⟨hi, hit', ?_⟩ ⟨fun b o hb eo => hs'.extBut b o (fun h => hb (by simp [h])) eo, rfl, rfl, rfl, Nat.le_succ _⟩
    obtain ⟨o, ho, r⟩ := x.2.2
    exact ⟨o, (hs'.2 t hne).trans ho, r⟩
  done := fun s Q E x hQ => by
    have e : (items.size : Int) - 1 - (items.size : Int) = -1 := by omega
    have hit := x.2.1
    rw [e] at hit
    exact next_rt_end hh hit fun h' he' => hQ _ ⟨fun b o hb eo => he' b o (fun h => hb (by simp [h])) eo, rfl, rfl, rfl, Nat.le_refl _⟩
  self := fun _ _ _ _ x hQ => iter_rt x.2.1 hQ

section
variable {prog : Program} {w : World} {A : Around} {E : Value → Shared → Prop} {s : Shared}
theorem call_hint_rt {it t : Addr} {n : Nat} {items : Array Value} {Q : Value → Shared → Prop} (hit : IsRt s.heap it t ((n : Int) - 1)) (ht : IsTup s.heap t items) (en : items.size = n) (hn : n ≤ sizeLine)
    (h : ∀ tk tk', Q (.int n tk') { s with toks := tk }) : wpAny (model prog w) A (call (.builtin "reversed.__length_hint__") [.ref it]) Q E s := by
  obtain ⟨o, ho, hc, hd⟩ := id hit
  have h63 := line63
  refine wpAny_call_entry slot_rt_hint hit.typeIs entry_rt_hint ?_ (args_rt_hint _)
  unfold Builtin.«reversed.__length_hint__»
  refine wpAny_bind (wpAny_of_eq (a := (Value.ref it)) rfl ?_)
  try dsimp only
  refine wpAny_bind (wpAny_field ho hd (x := .ref t) rfl ?_)
  try dsimp only
  refine wpAny_ite_split (fun hab => absurd hab (by simp)) (fun _ => ?_)
  refine wpAny_bind (len_tuple ht (by omega) ?_)
  refine wpAny_bind (wpAny_of_eq (a := some ((items.size : Nat) : Int)) rfl ?_)
  try dsimp only
  refine wpAny_bind (wpAny_field (s := { s with toks := s.toks + 1 + 1 }) ho hd (x := rawInt ((n : Int) - 1)) rfl ?_)
  show wpAny _ _ (if ((items.size : Nat) : Int) < ((n : Int) - 1) + 1 then _ else _) _ _ _
  rw [if_neg (by omega)]
  have e : (n : Int) - 1 + 1 = n := by omega
  rw [e]
  unfold retInt
  refine wpAny_bind (wpAny_mkInt ?_)
  exact wpAny_pure ⟨_, rfl, h _ _⟩

theorem asInt_i (i : Int) (t : Tok) : asInt? (Value.int i t) = pure (some i) := by rfl
theorem tail_i {α : Type} {i : Int} {t : Tok} {k : Option Int → Sem α} {Q : α → Shared → Prop} (h : wpAny (model prog w) A (k (some i)) Q E s) : wpAny (model prog w) A (asInt? (.int i t) >>= k) Q E s := by
  refine wpAny_bind ?_
  rw [asInt_i]
  exact wpAny_pure h
theorem hint_rt {it t : Addr} {n : Nat} {items : Array Value} {Q : Bool → Shared → Prop} (hit : IsRt s.heap it t ((n : Int) - 1)) (ht : IsTup s.heap t items) (en : items.size = n) (hn : n ≤ sizeLine)
    (h : ∀ tk, Q ((n : Int) != 0) { s with toks := tk }) : wpAny (model prog w) A (Builtin.List.listLengthHint (.ref it)) Q E s := by
  have h63 := line63
  unfold Builtin.List.listLengthHint
  refine wpAny_bind (wpAny_specialOf hit.typeIs nolen_rt ?_)
  show wpAny _ A (specialOf (Value.ref it) (Str.ofString "__length_hint__") >>= _) _ _ _
  refine wpAny_bind (wpAny_specialOf hit.typeIs slot_rt_hint.lookup ?_)
  generalize hid : ("reversed.__length_hint__" : String) = id0
  wp_delta
  rw [show splitId id0 = some ("reversed", "__length_hint__") from by subst hid; decide +kernel]
  subst hid
  refine wpAny_bind (wpAny_isInstance (b := true) hit.typeIs (by rw [isSubtype_type]; kernel_rfl) ?_)
  refine wpAny_ite_split (fun hab => absurd hab (by decide)) (fun _ => ?_)
  refine wpAny_ite_split (fun hab => absurd hab (by decide +kernel)) (fun _ => ?_)
  refine wpAny_bind (wpAny_rule ?_)
  simp only [slot_rt_hint.bind]
  refine wpAny_bind (wpAny_pure ?_)
  refine wpAny_bind (wpAny_attempt (call_hint_rt hit ht en hn fun tk tk' => ?_))
  have htl : Builtin.List.listTooLong ((n : Int).toNat) = false := decide_eq_false (by rw [Int.toNat_natCast]; omega)
  have hfx : Builtin.List.listFitsIndex (n : Int) = true := by unfold Builtin.List.listFitsIndex; rw [Bool.and_eq_true]; exact ⟨decide_eq_true (by omega), decide_eq_true (by omega)⟩
  have hn0 : ¬ ((n : Int) < 0) := by omega
  clear h63 hit
  generalize ((n : Nat) : Int) = z at *
  refine wpAny_bind (m := asInt? (Value.int z tk')) ?_
  rw [asInt_i]
  refine wpAny_pure ?_
  simp only [hfx, htl, Bool.not_true, Bool.false_eq_true, if_false, hn0]
  exact wpAny_pure (h _)
theorem IsTup.push' {h : Heap} {t : Addr} {items : Array Value} (o : Obj) (x : IsTup h t items) : IsTup (h.push o) t items := by obtain ⟨o', ho, r⟩ := x; exact ⟨o', Heap.get?_push_of_some _ ho, r⟩
theorem isRt_push' {h : Heap} {a t : Addr} {i : Int} (o : Obj) (x : IsRt h a t i) : IsRt (h.push o) a t i := x.at fun o' e => Heap.get?_push_of_some _ e
theorem collect_rt {it t : Addr} {items : Array Value} {Q : List Value → Shared → Prop} (hh : A.handled = none) (hit : IsRt s.heap it t ((items.size : Int) - 1)) (ht : IsTup s.heap t items) (hne : t ≠ it) (hn : items.size ≤ sizeLine)
    (hQ : ∀ (h' : Heap) (tk : Nat) (acc : Array Value), (∀ b o, b ≠ it → s.heap.get? b = some o → h'.get? b = some o) → ItemsOf (fun i v => items[items.size - 1 - i]? = some v) acc items.size → Q acc.toList { s with heap := h', toks := tk }) :
    wpAny (model prog w) A (collect (.ref it)) Q E s := by
  have W := walks_rt (prog := prog) (w := w) (A := A.in1) hh it t hne items hn
  obtain ⟨oi, hoi, _⟩ := id hit
  obtain ⟨ol, hol, _⟩ := id ht
  have hSi : s.heap.objs.size ≠ it := Nat.ne_of_gt (Heap.lt_size hoi)
  have hSl : s.heap.objs.size ≠ t := Nat.ne_of_gt (Heap.lt_size hol)
  have hSf : s.heap.objs.size ∉ [it, t] := by simp only [List.mem_cons, List.not_mem_nil, or_false, not_or]; exact ⟨hSi, hSl⟩
  unfold collect
  refine wpAny_bind (wpAny_runValue (codeAny_builtin F.entry_proto_collect ?_))
  rw [Around.under_plainId F.plain_proto_collect _]
  show wpAny _ A.in1 (newList [] >>= fun l' => again (.builtin "list.__iadd__" ⟨[l', .ref it], []⟩)) _ _ s
  refine wpAny_bind (wpAny_newObj_type ?_)
  refine wpAny_pure ⟨plainId_quiet F.plain_list_iadd _, codeAny_builtin F.entry_list_iadd ?_⟩
  rw [Around.under_plainId F.plain_list_iadd _]
  have hS₁ : (s.heap.push { cls := .type "list", data := .seq ([] : List Value).toArray }).get? s.heap.objs.size = some { cls := .type "list", data := .seq ([] : List Value).toArray } := Heap.get?_push_size _ rfl
  have hit1 := isRt_push' (a := it) (t := t) (i := (items.size : Int) - 1) (h := s.heap) { cls := .type "list", data := .seq ([] : List Value).toArray } hit
  have ht1 := IsTup.push' { cls := .type "list", data := .seq ([] : List Value).toArray } ht
  have hT : ({ s with heap := s.heap.push { cls := .type "list", data := .seq ([] : List Value).toArray } } : Shared).TypeIs (.ref it) "reversed" := IsRt.typeIs (s := { s with heap := s.heap.push { cls := .type "list", data := .seq ([] : List Value).toArray } }) hit1
  have h1 : Builtin.List.listSameRef (.ref s.heap.objs.size) (.ref it) = false := by simp [Builtin.List.listSameRef, hSi]
  show wpAny _ A.in1 (Builtin.List.listExtendWith (.ref s.heap.objs.size) (.ref it) (.ref s.heap.objs.size)) _ _ _
  unfold Builtin.List.listExtendWith
  refine wpAny_bind (wpAny_typeOf hT ?_)
  rw [if_neg (by rw [h1]; decide)]
  refine wpAny_bind (iter_rt (s := { s with heap := s.heap.push { cls := .type "list", data := .seq ([] : List Value).toArray } }) hit1 ?_)
  refine wpAny_bind (wpAny_holding (hint_rt (s := { s with heap := s.heap.push { cls := .type "list", data := .seq ([] : List Value).toArray } }) hit1 ht1 rfl hn fun tk => ?_))
  have oth : ∀ b o, b ≠ s.heap.objs.size → (s.heap.push { cls := .type "list", data := .seq ([] : List Value).toArray }).get? b = some o →
      (((s.heap.push { cls := .type "list", data := .seq ([] : List Value).toArray }).update s.heap.objs.size (Obj.mapSeq (·.push Value.none))).update s.heap.objs.size (Obj.mapSeq (·.pop))).get? b = some o :=
    fun b o hb e => (Heap.get?_update_other _ _ (Ne.symm hb)).trans ((Heap.get?_update_other _ _ (Ne.symm hb)).trans e)
  have e0 : ((items.size : Nat) : Int) - 1 - ((0 : Nat) : Int) = (items.size : Int) - 1 := by omega
  have key : ∀ (R : Result → Shared → Prop) (h : Heap) (c₁ tk : Nat), (∀ b o, b ≠ s.heap.objs.size → (s.heap.push { cls := .type "list", data := .seq ([] : List Value).toArray }).get? b = some o → h.get? b = some o) →
      h.get? s.heap.objs.size = some { cls := .type "list", data := .seq #[] c₁ } →
      (∀ (h' : Heap) (tk' : Nat) (acc : Array Value) (c' : Nat), (∀ b o, b ≠ it → s.heap.get? b = some o → h'.get? b = some o) → h'.get? s.heap.objs.size = some { cls := .type "list", dict := none, data := .seq acc c', slots := #[] } →
        ItemsOf (fun i v => items[items.size - 1 - i]? = some v) acc items.size → R (.ok (.ret (.ref s.heap.objs.size))) { s with heap := h', toks := tk' }) →
      codeAny (model prog w) A (.builtin "list.extend.loop" ⟨[.ref s.heap.objs.size, .ref it, .ref s.heap.objs.size], []⟩) R { s with heap := h, toks := tk } := by
    intro R h c₁ tk ho hg hR
    refine codeAny_extend_loopS W hn _ hSf _ items.size 0 _ _ _ rfl (Nat.zero_le _) ⟨Nat.zero_le _, ?_, ?_⟩ hg (ItemsOf.nil _) fun s' acc' c' hm hS' hacc => ?_
    · rw [e0]; exact hit1.at fun o e => ho it o (Ne.symm hSi) e
    · obtain ⟨o, e, r⟩ := ht1; exact ⟨o, ho t o (Ne.symm hSl) e, r⟩
    · rw [Moved.eq_with hm]
      refine hR s'.heap s'.toks acc' c' (fun b o hb e => hm.heap b o (fun hmem => ?_) (ho b o (Nat.ne_of_lt (Heap.lt_size e)) (Heap.get?_push_of_some _ e))) hS' hacc
      rcases List.mem_cons.mp hmem with e' | hmem
      · exact absurd (Heap.lt_size e) (by rw [e']; exact Nat.lt_irrefl _)
      · exact hb (List.mem_singleton.mp hmem)
  refine wpAny_ite_split (fun _ => ?_) (fun _ => wpAny_pure ⟨plainId_quiet F.plain_extend_loop _, key _ _ 0 tk (fun b o _ e => e) hS₁ fun h' tk' acc c' hk hS' hacc => ?_⟩)
  · refine wpAny_bind (wpAny_rule ?_)
    refine wpAny_bind ?_
    show wpAny _ _ (updateSeq s.heap.objs.size (·.push .none) >>= fun _ => updateSeq s.heap.objs.size (·.pop)) _ _ _
    refine wpAny_bind (wpAny_updateSeq hS₁ rfl ?_)
    have hS₂ := Heap.get?_update_self (Obj.mapSeq (·.push Value.none)) hS₁ rfl
    refine wpAny_updateSeq (hz := by seq_fits) hS₂ rfl ?_
    have hS₃ := Heap.get?_update_self (Obj.mapSeq (·.pop)) hS₂ rfl
    refine wpAny_pure ⟨plainId_quiet F.plain_extend_loop _, key _ _ _ tk oth hS₃ fun h' tk' acc c' hk hS' hacc => ?_⟩
    show wpAny _ A (load s.heap.objs.size >>= _) _ _ _
    refine wpAny_bind (wpAny_load hS' ?_)
    exact wpAny_pure (hQ _ _ _ hk hacc)
  · show wpAny _ A (load s.heap.objs.size >>= _) _ _ _
    refine wpAny_bind (wpAny_load hS' ?_)
    exact wpAny_pure (hQ _ _ _ hk hacc)
theorem code_tuple_new_rt {it l : Addr} {items : Array Value} {Q₁ : Value → Shared → Prop} (hh : A.handled = none) (hit : IsRt s.heap it l ((items.size : Int) - 1)) (hl : IsTup s.heap l items) (hne : l ≠ it) (hn : items.size ≤ sizeLine)
    (h : ∀ (h' : Heap) (tk : Nat) (acc : Array Value), (∀ b o, b ≠ it → s.heap.get? b = some o → h'.get? b = some o) → ItemsOf (fun i v => items[items.size - 1 - i]? = some v) acc items.size →
      Q₁ (.ref h'.objs.size) { s with heap := h'.push { cls := .type "tuple", data := .seq acc }, toks := tk }) :
    codeAny (model prog w) A (.call (.builtin "tuple.__new__") ⟨[.type "tuple", .ref it], []⟩) (wants Q₁ E) s := by
  refine codeAny_of_tree ?_
  show wpAny _ A.in1 (do checkBuiltinCall "tuple.__new__" ⟨[.type "tuple", .ref it], []⟩; again (.builtin "tuple.__new__" ⟨[.type "tuple", .ref it], []⟩)) _ _ s
  refine wpAny_bind (wpAny_of_eq (F.newCall_tuple_1 _) (wpAny_pure ⟨plainId_quiet F.plain_tuple_new _, codeAny_builtin F.entry_tuple_new ?_⟩))
  rw [Around.under_plainId F.plain_tuple_new _]
  have hsub := sub_tuple_self
  have hinit := init_tuple_lookup
  have hmh := madeHere_tuple
  have hTI : s.TypeIs (.ref it) "reversed" := hit.typeIs
  have hh1 : A.in1.handled = none := hh
  wp_walk using wpAny_typeOf hTI, collect_rt (A := A.in1) hh1 hit hl hne hn
  intro h' tk acc hk hacc
  show wpAny _ _ (Builtin.Tuple.tupleExact acc.toList.toArray >>= fun v => ret v) _ _ _
  unfold Builtin.Tuple.tupleExact
  refine wpAny_bind (wpAny_newObj_type ?_ (by show acc.toList.toArray.size ≤ sizeLine; simp only [Array.toArray_toList]; rw [hacc.1]; exact hn))
  refine wpAny_pure ?_
  have e : acc.toList.toArray = acc := by simp
  rw [e]
  exact h h' tk acc hk hacc
theorem call_tuple_rt {it l : Addr} {items : Array Value} {Q : Value → Shared → Prop} (hh : A.handled = none) (hit : IsRt s.heap it l ((items.size : Int) - 1)) (hl : IsTup s.heap l items) (hne : l ≠ it) (hn : items.size ≤ sizeLine)
    (hQ : ∀ (h' : Heap) (tk : Nat) (acc : Array Value), (∀ b o, b ≠ it → s.heap.get? b = some o → h'.get? b = some o) → ItemsOf (fun i v => items[items.size - 1 - i]? = some v) acc items.size →
      Q (.ref h'.objs.size) { s with heap := h'.push { cls := .type "tuple", data := .seq acc }, toks := tk }) :
    wpAny (model prog w) A (call (.type "tuple") [.ref it]) Q E s := by
  refine callType_codes (Q₁ := fun obj s₁ => s₁.TypeIs obj "tuple" ∧ Q obj s₁) F.called_tuple (F.typeCall_tuple_1 _) F.entry_object_init
    (code_tuple_new_rt (A := A.in1) hh hit hl hne hn fun h' tk acc hk hacc => ⟨⟨_, Heap.get?_push_size _ rfl, rfl⟩, hQ h' tk acc hk hacc⟩) fun obj s₁ h₁ => ?_
  exact ⟨h₁.1, F.args_object_init_2 obj _, object_init_meets F.called_tuple.init.lookup F.called_tuple.made (by decide) prog w A.in1 _ s₁ ⟨h₁.1, rfl, h₁.2⟩⟩
end
/-- tuple(reversed(x)), x a list: a new tuple -/
def tTupRt (K : PySem.W.Frag) (te : TE) : TE := fun σ H Q => te σ H fun v H1 => ∃ (a : Addr) (xs : List V), v = .ref a ∧ SqT K H1 a xs ∧ ∀ q, H1 q = none → Q (.ref q) (upd H1 q (.tup xs.reverse))
section
variable {X : Cx}
theorem pe_tupRt {e : Expr} {te : TE} {p p2 pos pos2 : Pos} (hc : X.calm = true) (hg : Gl X "tuple") (hm : X.mg "tuple" = none) (hg2 : Gl X "reversed") (hm2 : X.mg "reversed" = none) (he : PE X e te)
    (hs : starEach [e] X.env = (false, eval e X.env) :: starEach [] X.env := by rfl)
    (hs2 : starEach [.Call (.Name "reversed" p2) [e] [] pos2] X.env = (false, eval (.Call (.Name "reversed" p2) [e] [] pos2) X.env) :: starEach [] X.env := by rfl) :
    PE X (.Call (.Name "tuple" p) [.Call (.Name "reversed" p2) [e] [] pos2] [] pos) (tTupRt X.K te) := by
  refine ⟨fun pins s σ H Q I h => ?_⟩
  refine Call_ (ld_blt I hg hm boot_tuple (PyProof.Rows.callWith_type1 (args_cons (Call_ (ld_blt I hg2 hm2 PyProof.Rows.boot_reversed (PyProof.Rows.callWith_type1 (args_cons (thn (he.run pins s σ H _ I h) fun u s1 ⟨v, H1, I1, r1, q1⟩ => args_nil ?_) hs) hs rfl))) hs2) hs2 rfl))
  obtain ⟨a, xs, ev, hq, q⟩ := q1
  subst ev
  obtain rfl : u = Value.ref a := r1
  obtain ⟨its, rv, p', hz⟩ := I1.tuple hq
  have hn63 := line63
  have hl0 := rv.length
  refine call_reversed_tup p' (fun A E Q k => len_tuple p' (by simp only [List.size_toArray] <;> omega) k) (args_nil ?_)
  have k0 : ∀ b o, s1.heap.get? b = some o → (s1.heap.push (rtObj a ((its.toArray.size : Int) - 1))).get? b = some o := fun b o e => Heap.get?_push_of_some _ e
  have I2 : Inv X pins σ H1 { s1 with heap := s1.heap.push (rtObj a ((its.toArray.size : Int) - 1)), toks := s1.toks + 1 + 1 } := I1.kept (t' := s1.toks + 1 + 1) k0
  obtain ⟨f0, f1, f2, f3, f4, f5⟩ := I1.fpOk (H' := H1) (b := s1.heap.objs.size) (Nat.le_refl _) (I1.hok.fresh (Nat.le_refl _))
  obtain ⟨ol, hol, _⟩ := id p'
  have hne : a ≠ s1.heap.objs.size := Nat.ne_of_lt (Heap.lt_size hol)
  have hn : its.toArray.size ≤ sizeLine := by rw [List.size_toArray, ← rv.length]; exact hz
  refine call_tuple_rt (s := { s1 with heap := s1.heap.push (rtObj a ((its.toArray.size : Int) - 1)), toks := s1.toks + 1 + 1 }) (I1.ok.hd hc) ⟨_, Heap.get?_push_size _ rfl, rfl, rfl⟩ (IsTup.push' _ p') hne hn fun h' tk acc hk hi => ?_
  have I3 : Inv X pins σ H1 { s1 with heap := h', toks := tk } := I2.turned (t' := tk) (fun b o hb e => hk b o hb e) f0 f1 f3 f4 f5
  refine ⟨.ref h'.objs.size, upd H1 h'.objs.size (.tup xs.reverse), I3.laid (t' := tk) (fun c o e => Heap.get?_push_of_some _ e) (Nat.le_refl _) (show ObjOk X.prog X.w _ _ _ (.tup xs.reverse) from ⟨by rw [List.length_reverse]; exact hz, acc.toList, vals_rev rv hi, ?_⟩), rfl, q _ (I3.hok.fresh (Nat.le_refl _))⟩
  rw [Array.toArray_toList]
  exact IsTup.new _ _
end
end

def top (i : Nat) : Stmt := PySem.Challenge.pw_judgedplay_k26_guesses.main.body.getD i (.Pass ⟨0, 0, 0, 0⟩)
abbrev s__law_begin : Stmt := top 4
abbrev N__law_begin : List Str := ["script", "cell"]
theorem sc__law_begin : FnScope N__law_begin ["script"] (defScope s__law_begin) := ⟨rfl, rfl, rfl, by decide +kernel, rfl, by decide +kernel, by decide +kernel⟩
abbrev s__law_draw : Stmt := top 5
abbrev N__law_draw : List Str := ["d", "many", "found", "size", "cell"]
theorem sc__law_draw : FnScope N__law_draw ["d", "many"] (defScope s__law_draw) := ⟨rfl, rfl, rfl, by decide +kernel, rfl, by decide +kernel, by decide +kernel⟩
abbrev s__law_pick : Stmt := top 6
abbrev N__law_pick : List Str := ["d", "row"]
theorem sc__law_pick : FnScope N__law_pick ["d", "row"] (defScope s__law_pick) := ⟨rfl, rfl, rfl, by decide +kernel, rfl, by decide +kernel, by decide +kernel⟩
abbrev s__law_guess : Stmt := top 9
abbrev N__law_guess : List Str := ["d", "many", "way", "key"]
theorem sc__law_guess : FnScope N__law_guess ["d", "many"] (defScope s__law_guess) := ⟨rfl, rfl, rfl, by decide +kernel, rfl, by decide +kernel, by decide +kernel⟩
abbrev s__law_shuffled : Stmt := top 7
abbrev N__law_shuffled : List Str := ["d", "row", "left", "found", "k"]
theorem sc__law_shuffled : FnScope N__law_shuffled ["d", "row"] (defScope s__law_shuffled) := ⟨rfl, rfl, rfl, by decide +kernel, rfl, by decide +kernel, by decide +kernel⟩
abbrev s__law_words_heard : Stmt := top 10
abbrev N__law_words_heard : List Str := ["d", "ticks", "many", "found", "tick", "word"]
theorem sc__law_words_heard : FnScope N__law_words_heard ["d", "ticks", "many"] (defScope s__law_words_heard) := ⟨rfl, rfl, rfl, by decide +kernel, rfl, by decide +kernel, by decide +kernel⟩
abbrev s_last_known : Stmt := top 1
abbrev N_last_known : List Str := ["known", "tick", "one"]
theorem sc_last_known : FnScope N_last_known ["known", "tick"] (defScope s_last_known) := ⟨rfl, rfl, rfl, by decide +kernel, rfl, by decide +kernel, by decide +kernel⟩
abbrev s_guess_of : Stmt := top 2
abbrev N_guess_of : List Str := ["table", "known", "tick", "last"]
theorem sc_guess_of : FnScope N_guess_of ["table", "known", "tick"] (defScope s_guess_of) := ⟨rfl, rfl, rfl, by decide +kernel, rfl, by decide +kernel, by decide +kernel⟩
abbrev s__law_is_int : Stmt := top 8
abbrev N__law_is_int : List Str := ["thing"]
theorem sc__law_is_int : FnScope N__law_is_int ["thing"] (defScope s__law_is_int) := ⟨rfl, rfl, rfl, by decide +kernel, rfl, by decide +kernel, by decide +kernel⟩
abbrev s__law_due_guess : Stmt := top 11
abbrev N__law_due_guess : List Str := ["table", "rows", "tick", "last", "word", "one", "heard"]
theorem sc__law_due_guess : FnScope N__law_due_guess ["table", "rows", "tick"] (defScope s__law_due_guess) := ⟨rfl, rfl, rfl, by decide +kernel, rfl, by decide +kernel, by decide +kernel⟩
abbrev s__law_are_guesses : Stmt := top 12
abbrev N__law_are_guesses : List Str := ["table", "known", "rows", "ticks", "heard", "row", "tick", "told"]
theorem sc__law_are_guesses : FnScope N__law_are_guesses ["table", "known", "rows", "ticks"] (defScope s__law_are_guesses) := ⟨rfl, rfl, rfl, by decide +kernel, rfl, by decide +kernel, by decide +kernel⟩
abbrev s_law : Stmt := top 13
abbrev N_law : List Str := ["script", "d", "ticks", "tables", "seat", "rows", "knowns", "count", "known", "tick", "word", "turned", "other"]
theorem sc_law : FnScope N_law ["script"] (defScope s_law) := ⟨rfl, rfl, rfl, by decide +kernel, rfl, by decide +kernel, by decide +kernel⟩
/-- what the text's top has: built-ins that are still so, constants -/
structure Txt (mg : Str → Option Value) : Prop where
  b_int : mg "int" = none
  b_len : mg "len" = none
  b_abs : mg "abs" = none
  b_tuple : mg "tuple" = none
  b_list : mg "list" = none
  b_range : mg "range" = none
  b_isinstance : mg "isinstance" = none
  b_bool : mg "bool" = none
  b_reversed : mg "reversed" = none
/-! ### the draws -/
/-- a row of draws stands at p, its cells at a -/
def DrawAt (H : Hp) (p a : Addr) : Prop := ∃ (ns : List Int) (pos pend seed : Int), H p = some (.lst [.ref a, .int pos, .int pend, .int seed]) ∧ H a = some (.lst (ns.map V.int)) ∧ a ≠ p ∧ 0 ≤ pos
theorem DrawAt.same {H H' : Hp} {p a : Addr} (d : DrawAt H p a) (s : Same H H') : DrawAt H' p a := by
  obtain ⟨ns, pos, pend, seed, h1, h2, h3, h4⟩ := d
  exact ⟨ns, pos, pend, seed, s _ _ h1, s _ _ h2, h3, h4⟩
/-- behind draws: the row stands, all else is as it was -/
structure Drew (p a : Addr) (H H' : Hp) : Prop where
  at_ : DrawAt H' p a
  kp : Kp p H H'
theorem Drew.trans {p a : Addr} {H H1 H2 : Hp} (x : Drew p a H H1) (y : Drew p a H1 H2) : Drew p a H H2 := ⟨y.at_, x.kp.trans y.kp⟩
theorem Drew.new {p a q : Addr} {H H1 : Hp} {o : HO} (x : Drew p a H H1) (h : H1 q = none) : Drew p a H (upd H1 q o) := ⟨x.at_.same (same_new h), x.kp.trans (.of (same_new h))⟩
theorem Drew.same {p a : Addr} {H H1 H2 : Hp} (x : Drew p a H H1) (s : Same H1 H2) : Drew p a H H2 := ⟨x.at_.same s, x.kp.trans (.of s)⟩
theorem DrawAt.drew {p a : Addr} {H : Hp} (d : DrawAt H p a) : Drew p a H H := ⟨d, Kp.refl⟩
theorem DrawAt.some {H : Hp} {p a : Addr} (d : DrawAt H p a) : ∃ xs, H p = some (.lst xs) := by
  obtain ⟨ns, pos, pend, seed, h1, _⟩ := d
  exact ⟨_, h1⟩
theorem DrawAt.ne_none {H : Hp} {p a q : Addr} (d : DrawAt H p a) (h : H q = none) : q ≠ p := by
  obtain ⟨xs, e⟩ := d.some
  exact (ne_of_none e h).symm
theorem DrawAt.ne_noneA {H : Hp} {p a q : Addr} (d : DrawAt H p a) (h : H q = none) : q ≠ a := by
  obtain ⟨ns, pos, pend, seed, _, h1, _⟩ := d
  exact (ne_of_none h1 h).symm
theorem Drew.free {p a q : Addr} {H H' : Hp} (w : Drew p a H H') (h : H' q = none) : H q = none := by
  cases e : H q with
  | none => rfl
  | some o =>
    by_cases hq : q = p
    · obtain ⟨xs, e'⟩ := w.at_.some
      rw [hq, e'] at h; cases h
    · rw [w.kp _ _ e hq] at h; cases h
/-- a thing of our own, made behind H, is written -/
theorem Drew.put {p a q : Addr} {H H1 : Hp} {o : HO} (x : Drew p a H H1) (d : DrawAt H p a) (h : H q = none) : Drew p a H (upd H1 q o) := by
  have n1 := d.ne_none h
  have n2 := d.ne_noneA h
  obtain ⟨ns, pos, pend, seed, h1, h2, h3, h4⟩ := x.at_
  refine ⟨⟨ns, pos, pend, seed, by rw [upd_ne n1.symm]; exact h1, by rw [upd_ne n2.symm]; exact h2, h3, h4⟩, fun b u hb hne => ?_⟩
  rw [upd_ne (ne_of_none hb h)]
  exact x.kp _ _ hb hne
theorem Drew.tps {p a : Addr} {H H' : Hp} (w : Drew p a H H') (d : DrawAt H p a) : Tps H H' := by
  obtain ⟨xs, e⟩ := d.some
  exact w.kp.tps e
def sp__law_begin (K : PySem.W.Frag) : Sp := fun vs H Q _ => ∃ (a : Addr) (ns : List Int), vs = [.ref a] ∧ SqL K H a (ns.map V.int) ∧ ns.length ≤ 63 ∧
  ∀ (p c : Addr) (H' : Hp), Same H H' → H p = none → H c = none → DrawAt H' p c → Q (.ref p) H'
theorem ok__law_begin {P : Program} {w : World} {K : PySem.W.Frag} {mg : Str → Option Value} {base : Heap} {f : Addr} {fd : FuncData} (F : Df K mg "_law_begin" s__law_begin f fd ["script"]) (T : Txt mg) : FnOk P w K mg base CX0 1 f fd ["script"] (sp__law_begin K) := by
  refine F.ok sc__law_begin (fun vs H Q E h => ?_) (fun cdv A outer s H vs Q E hr h => ?_)
  · obtain ⟨a, ns, rfl, _⟩ := h
    rfl
  · obtain ⟨a, ns, rfl, hS, hl, k⟩ := h
    refine ⟨_, (pss_one (ps_ret (pe_lst (pa_cons (pe_lc (own := [("cell", 1)]) (g := gName 1) (tt := tYes) rfl sc__law_begin.nd (pi_list (pv 0)) (blkOk_by (own := [("cell", 1)]) (N := N__law_begin) (sc := defScope s__law_begin) (by decide +kernel)) (fun _ _ _ _ _ => (pg_name (i := 1) sc__law_begin.nd rfl (Or.inl rfl))) (fun _ _ _ _ _ => pts_nil) (fun _ _ _ _ _ => (pe_callTy (T := "int") c_int (by rfl) T.b_int (by decide +kernel) (pa_cons (pv 1) pa_nil)))) (pa_cons pe_int (pa_cons pe_int (pa_cons pe_int pa_nil))))))), ?_⟩
    try dsimp only [cxOf, Cx.nox, Cx.wish]
    refine st_of (σ' := [some _, none]) rfl ?_
    wtm_at "jw"
    intro D hD
    refine l_list (xs := ns.map V.int) (fun i H1 => Same H H1 ∧ H1 D = some (.lst ((ns.take i).map V.int))) ⟨same_new hD, upd_same⟩ (fun i H1 _ h => h.1.seq hS) (fun i x H1 hi h => ?_) (fun H1 h => ?_)
    · obtain ⟨s1, h1⟩ := h
      rw [List.getElem?_map] at hi
      cases e : ns[i]? with
      | none => rw [e] at hi; cases hi
      | some z =>
        rw [e] at hi
        cases hi
        have hlt : i < ns.length := (List.getElem?_eq_some_iff.mp e).1
        wtm_at "jw"
        refine ⟨rfl, ?_⟩
        wtm_at "jw"
        refine ⟨_, h1, small1000 (by rw [List.length_map, List.length_take]; omega), ?_, ?_⟩
        · intro b o hb
          have hne : b ≠ D := ne_of_none hb hD
          rw [upd_ne hne]
          exact s1 _ _ hb
        · rw [upd_same, List.take_add_one, e, List.map_append]
          rfl
    · obtain ⟨s1, h1⟩ := h
      rw [List.length_map, List.take_length] at h1
      wtm_at "jw"
      intro p hp
      have hne : D ≠ p := ne_of_none h1 hp
      refine k p D _ (fun b o hb => ?_) (s1.free hp) hD ⟨ns, 0, 0, 11, upd_same, by rw [upd_ne hne]; exact h1, hne, by decide⟩
      rw [upd_ne (ne_of_none (s1 _ _ hb) hp)]
      exact s1 _ _ hb
def sp__law_draw (K : PySem.W.Frag) : Sp := fun vs H Q _ => ∃ (p a : Addr) (many : Int), vs = [.ref p, .int many] ∧ DrawAt H p a ∧ 0 < many ∧ many < 18446744073709551616 ∧
  ∀ (r : Int) (H' : Hp), 0 ≤ r → r < many → Drew p a H H' → Q (.int r) H'
theorem ok__law_draw {P : Program} {w : World} {K : PySem.W.Frag} {mg : Str → Option Value} {base : Heap} {f : Addr} {fd : FuncData} (F : Df K mg "_law_draw" s__law_draw f fd ["d", "many"]) (T : Txt mg) : FnOk P w K mg base CX0 1 f fd ["d", "many"] (sp__law_draw K) := by
  refine F.ok sc__law_draw (fun vs H Q E h => ?_) (fun cdv A outer s H vs Q E hr h => ?_)
  · obtain ⟨p, a, m, rfl, _⟩ := h
    rfl
  · obtain ⟨p, a, m, rfl, ⟨ns, pos, pend, seed, hp, ha, nap, h0⟩, hm0, hm1, k⟩ := h
    have fin : ∀ (z : Int) (pos' pend' seed' : Int) (H' : Hp), 0 ≤ pos' → H' p = some (.lst [.ref a, .int pos', .int pend', .int seed']) → Kp p H H' → Q (.int (z % m)) H' := fun z pos' pend' seed' H' hp' h1 h2 =>
      k _ _ (Int.emod_nonneg _ (by omega)) (Int.emod_lt_of_pos _ hm0) ⟨⟨ns, pos', pend', seed', h1, h2 _ _ ha nap, nap, hp'⟩, h2⟩
    refine ⟨_, (pss_cons (ps_if (pt_cmpR op_gt (pe_ix (r := rIxL K) ix_list (pv 0) pe_int (fun _ _ => rfl)) pe_int (nomark _)) (pss_cons (ps_set (i := 2) sc__law_draw.nd rfl (Or.inl rfl) (pe_ix (r := rIxL K) ix_list (pv 0) pe_int (fun _ _ => rfl)))
      (pss_cons (ps_asg (pe_op op_fdivW (pv 2) (pv 1)) (pg_sub (pv 0) pe_int set_list))
      (pss_one (ps_ret (pe_op op_mod (pe_callTy (T := "int") c_int (by rfl) T.b_int (by decide +kernel) (pa_cons (pv 2) pa_nil)) (pv 1)))))) pss_nil)
      (pss_cons (ps_set (i := 3) sc__law_draw.nd rfl (Or.inl rfl) pe_int)
      (pss_cons (ps_if (pt_cmpR op_lt (pe_ix (r := rIxL K) ix_list (pv 0) pe_int (fun _ _ => rfl)) (pe_callB (id := "len") (r := qLen K) c_len (by rfl) T.b_len (by decide +kernel) (pa_cons (pe_ix (r := rIxL K) ix_list (pv 0) pe_int (fun _ _ => rfl)) pa_nil)) (nomark _)) (pss_cons (ps_set (i := 4) sc__law_draw.nd rfl (Or.inl rfl) (pe_ix (r := rIx K) ix_seq (pe_ix (r := rIxL K) ix_list (pv 0) pe_int (fun _ _ => rfl)) (pe_ix (r := rIxL K) ix_list (pv 0) pe_int (fun _ _ => rfl)) (fun _ _ => rfl)))
      (pss_one (ps_set (i := 3) sc__law_draw.nd rfl (Or.inl rfl) (pe_op op_add (pe_op op_mul pe_int (pe_callB (id := "abs") c_abs (by rfl) T.b_abs (by decide +kernel) (pa_cons (pv 4) pa_nil))) (pe_callTy (T := "int") c_int (by rfl) T.b_int (by decide +kernel) (pa_cons (pe_cmpR op_lt (pv 4) pe_int (nomark _)) pa_nil)))))) pss_nil)
      (pss_cons (ps_augS (pv 0) pe_int get_list pe_int iop_add set_list)
      (pss_cons (ps_if (pt_cmpR op_ge (pv 3) (pe_op op_mul pe_int (pe_op op_pow pe_int pe_int)) (nomark _)) (pss_cons (ps_set (i := 2) sc__law_draw.nd rfl (Or.inl rfl) (pe_op op_mod (pe_callTy (T := "int") c_int (by rfl) T.b_int (by decide +kernel) (pa_cons (pe_op op_fdiv (pv 3) pe_int) pa_nil)) (pe_op op_shl pe_int pe_int)))
      (pss_cons (ps_asg (pe_op op_fdivW (pv 2) (pv 1)) (pg_sub (pv 0) pe_int set_list))
      (pss_one (ps_ret (pe_op op_mod (pe_callTy (T := "int") c_int (by rfl) T.b_int (by decide +kernel) (pa_cons (pv 2) pa_nil)) (pv 1)))))) pss_nil)
      (pss_cons (ps_asg (pe_op op_mod (pe_callTy (T := "int") c_int (by rfl) T.b_int (by decide +kernel) (pa_cons (pe_op op_add (pe_op op_add (pe_op op_add (pe_op op_mul (pe_ix (r := rIxL K) ix_list (pv 0) pe_int (fun _ _ => rfl)) pe_int) (pe_op op_mul (pe_op op_mod (pe_callTy (T := "int") c_int (by rfl) T.b_int (by decide +kernel) (pa_cons (pv 3) pa_nil)) pe_int) pe_int)) (pe_op op_mul (pe_ix (r := rIxL K) ix_list (pv 0) pe_int (fun _ _ => rfl)) pe_int)) pe_int) pa_nil)) pe_int) (pg_sub (pv 0) pe_int set_list))
      (pss_one (ps_ret (pe_op op_mod (pe_callTy (T := "int") c_int (by rfl) T.b_int (by decide +kernel) (pa_cons (pe_op op_fdiv (pe_ix (r := rIxL K) ix_list (pv 0) pe_int (fun _ _ => rfl)) pe_int) pa_nil)) (pv 1)))))))))), ?_⟩
    try dsimp only [cxOf, Cx.nox, Cx.wish]
    refine st_of (σ' := [some _, some _, none, none, none]) rfl ?_
    wtm_at "jw"
    refine c_dec (fun h => ?_) (fun h => ?_)
    · wtm_at "jw"
      exact fin _ _ _ _ _ h0 upd_same Kp.upd
    · wtm_at "jw"
      refine c_dec (fun h1 => ?_) (fun h1 => ?_)
      · obtain ⟨c, hc⟩ : ∃ c : Int, atI (ns.map V.int) pos = some (.int c) := by
          obtain ⟨v, e, hv, _⟩ := at_lt (xs := ns.map V.int) h0 h1
          obtain ⟨z, _, rfl⟩ := List.mem_map.mp hv
          exact ⟨z, e⟩
        wtm_at "jw"
        refine c_dec (fun h2 => ?_) (fun h2 => ?_)
        · wtm_at "jw"
          exact fin _ (pos + 1) _ _ _ (by omega) upd_same (Kp.upd.trans Kp.upd)
        · wtm_at "jw"
          exact fin _ (pos + 1) _ _ _ (by omega) upd_same (Kp.upd.trans Kp.upd)
      · wtm_at "jw"
        refine c_dec (fun h2 => ?_) (fun h2 => ?_)
        · wtm_at "jw"
          exact fin _ (pos + 1) _ _ _ (by omega) upd_same (Kp.upd.trans Kp.upd)
        · wtm_at "jw"
          exact fin _ (pos + 1) _ _ _ (by omega) upd_same (Kp.upd.trans Kp.upd)

def sp__law_pick (K : PySem.W.Frag) : Sp := fun vs H Q _ => ∃ (p a b : Addr) (xs : List V), vs = [.ref p, .ref b] ∧ DrawAt H p a ∧ ((b ≠ p ∧ SqL K H b xs) ∨ SqT K H b xs) ∧ 0 < xs.length ∧ xs.length < 1073741824 ∧
  ∀ (x : V) (H' : Hp), x ∈ xs → Drew p a H H' → Q x H'
theorem ok__law_pick {P : Program} {w : World} {K : PySem.W.Frag} {mg : Str → Option Value} {base : Heap} {f : Addr} {fd : FuncData} (F : Df K mg "_law_pick" s__law_pick f fd ["d", "row"]) (T : Txt mg)
    (c__law_draw : Cl P w K mg base 1 "_law_draw" (sp__law_draw K)) : FnOk P w K mg base CX0 2 f fd ["d", "row"] (sp__law_pick K) := by
  refine F.ok sc__law_pick (fun vs H Q E h => ?_) (fun cdv A outer s H vs Q E hr h => ?_)
  · obtain ⟨p, a, b, xs, rfl, _⟩ := h
    rfl
  · obtain ⟨p, a, b, xs, rfl, hd, hb, hl0, hl1, k⟩ := h
    refine ⟨_, (pss_one (ps_ret (pe_ix (r := rIx K) ix_seq (pv 1) (pe_cl c__law_draw hr (by decide) rfl (pa_cons (pv 0) (pa_cons (pe_callB (id := "len") (r := qLen K) c_len (by rfl) T.b_len (by decide +kernel) (pa_cons (pv 1) pa_nil)) pa_nil))) (fun _ _ => rfl)))), ?_⟩
    try dsimp only [cxOf, Cx.nox, Cx.wish]
    refine st_of (σ' := [some _, some _]) rfl ?_
    rcases hb with ⟨nb, hb⟩ | hb
    all_goals
      wtm_at "jw"
      refine ⟨p, a, _, rfl, hd, by omega, by omega, fun r H' hr0 hr1 w => ?_⟩
      obtain ⟨v, e, hv, _⟩ := at_lt hr0 hr1
    · have hb' := w.kp.seq hb nb
      wtm_at "jw"
      exact k _ _ hv w
    · have hb' := (w.tps hd).sq hb
      wtm_at "jw"
      exact k _ _ hv w

def sp__law_shuffled (K : PySem.W.Frag) : Sp := fun vs H Q _ => ∃ (p a b : Addr) (xs : List V), vs = [.ref p, .ref b] ∧ DrawAt H p a ∧ (SqL K H b xs ∨ SqT K H b xs) ∧ xs.length ≤ 1000 ∧
  ∀ (q : Addr) (ys : List V) (H' : Hp), Drew p a H H' → H q = none → H' q = some (.lst ys) → ys.Perm xs → Q (.ref q) H'
theorem ok__law_shuffled {P : Program} {w : World} {K : PySem.W.Frag} {mg : Str → Option Value} {base : Heap} {f : Addr} {fd : FuncData} (F : Df K mg "_law_shuffled" s__law_shuffled f fd ["d", "row"]) (T : Txt mg)
    (c__law_draw : Cl P w K mg base 1 "_law_draw" (sp__law_draw K)) : FnOk P w K mg base CX0 2 f fd ["d", "row"] (sp__law_shuffled K) := by
  refine F.ok sc__law_shuffled (fun vs H Q E h => ?_) (fun cdv A outer s H vs Q E hr h => ?_)
  · obtain ⟨p, a, b, xs, rfl, _⟩ := h
    rfl
  · obtain ⟨p, a, b, xs, rfl, hd, hb, hl, k⟩ := h
    refine ⟨_, (pss_cons (ps_set (i := 2) sc__law_shuffled.nd rfl (Or.inl rfl) (pe_callTy (T := "list") (r := rLstOf K) c_lst (by rfl) T.b_list (by decide +kernel) (pa_cons (pv 1) pa_nil)))
      (pss_cons (ps_set (i := 3) sc__law_shuffled.nd rfl (Or.inl rfl) (pe_lst pa_nil))
      (pss_cons (ps_for PassesOwn.never rfl (pi_range1 rfl T.b_range (pa_cons (pe_callB (id := "len") (r := qLen K) c_len (by rfl) T.b_len (by decide +kernel) (pa_cons (pv 2) pa_nil)) pa_nil)) (pg_name (i := 4) sc__law_shuffled.nd rfl (Or.inl rfl)) (pss_one (ps_expr (pe_bmK (K := K) rfl PySem.F.plainAttrs_list PySem.F.slot_list_append PySem.F.type_list_append mt_append (pv 3) (pa_cons (pe_bmK (K := K) rfl PySem.F.plainAttrs_list PySem.F.slot_list_pop PySem.F.type_list_pop mt_popAt (pv 2) (pa_cons (pe_cl c__law_draw hr (by decide) rfl (pa_cons (pv 0) (pa_cons (pe_callB (id := "len") (r := qLen K) c_len (by rfl) T.b_len (by decide +kernel) (pa_cons (pv 2) pa_nil)) pa_nil))) pa_nil)) pa_nil)))))
      (pss_one (ps_ret (pv 3)))))), ?_⟩
    try dsimp only [cxOf, Cx.nox, Cx.wish]
    refine st_of (σ' := [some _, some _, none, none, none]) rfl ?_
    wtm_at "js"
    refine ⟨b, xs, rfl, hb, fun L hL => ?_⟩
    wtm_at "js"
    intro D hD
    have nLD : L ≠ D := by
      intro e
      rw [e, upd_same] at hD
      cases hD
    have hD0 : H D = none := by rw [upd_ne nLD.symm] at hD; exact hD
    wtm_at "js"
    have d0 : Drew p a H (upd (upd H L (.lst xs)) D (.lst [])) := (hd.drew.new hL).put hd hD0
    refine f_range (fun i σ H' => ∃ (v : Option V) (us ws : List V), σ = [some (.ref p), some (.ref b), some (.ref L), some (.ref D), v] ∧ Drew p a H H' ∧ H' L = some (.lst us) ∧ H' D = some (.lst ws) ∧ (ws ++ us).Perm xs ∧ ws.length = i) ⟨none, xs, [], rfl, d0, by rw [upd_ne nLD]; exact upd_same, upd_same, List.Perm.refl _, rfl⟩ (fun i σ H' hi h => ?_) (fun σ H' h => ?_)
    · obtain ⟨v, us, ws, rfl, d1, hL1, hD1, hp, hw⟩ := h
      have hlen : ws.length + us.length = xs.length := by
        have := hp.length_eq
        rw [List.length_append] at this
        exact this
      have hi' : i < xs.length := by omega
      wtm_at "js"
      refine ⟨p, a, _, rfl, d1.at_, by omega, by omega, fun r H2 r0 r1 d2 => ?_⟩
      have nLp : L ≠ p := hd.ne_none hL
      have nDp : D ≠ p := hd.ne_none hD0
      have hL2 := d2.kp _ _ hL1 nLp
      have hD2 := d2.kp _ _ hD1 nDp
      have hrl : r.toNat < us.length := by omega
      wtm_at "js"
      refine i_popAt hL2 r0 r1 (by omega) (List.getElem?_eq_getElem hrl) ?_
      have d3 := (d1.trans d2).put (o := .lst (us.eraseIdx r.toNat)) hd hL
      have hD3 : (upd H2 L (.lst (us.eraseIdx r.toNat))) D = some (.lst ws) := by rw [upd_ne nLD.symm]; exact hD2
      have hws : ws.length < sizeLine := small1000 (by omega)
      wtm_at "js"
      refine ⟨_, us.eraseIdx r.toNat, ws ++ [us[r.toNat]], rfl, d3.put hd hD0, by rw [upd_ne nLD, upd_same], upd_same, ?_, by simp [hw]⟩
      have e : (us[r.toNat] :: us.eraseIdx r.toNat).Perm us := perm_erase us _ hrl
      rw [List.append_assoc]
      exact ((List.Perm.refl ws).append e).trans hp
    · obtain ⟨v, us, ws, rfl, d1, hL1, hD1, hp, hw⟩ := h
      have hlen := hp.length_eq
      rw [List.length_append] at hlen
      have hus : us = [] := List.eq_nil_of_length_eq_zero (by omega)
      rw [hus, List.append_nil] at hp
      wtm_at "js"
      exact k D ws _ d1 hD0 hD1 hp

def sp__law_is_int (K : PySem.W.Frag) : Sp := fun vs H Q _ => ∃ (i : Int), vs = [.int i] ∧ Q (.bl true) H
theorem ok__law_is_int {P : Program} {w : World} {K : PySem.W.Frag} {mg : Str → Option Value} {base : Heap} {f : Addr} {fd : FuncData} (F : Df K mg "_law_is_int" s__law_is_int f fd ["thing"]) (T : Txt mg) : FnOk P w K mg base CX0 1 f fd ["thing"] (sp__law_is_int K) := by
  refine F.ok sc__law_is_int (fun vs H Q E h => ?_) (fun cdv A outer s H vs Q E hr h => ?_)
  · obtain ⟨i, rfl, _⟩ := h
    rfl
  · obtain ⟨i, rfl, k⟩ := h
    refine ⟨_, (pss_one (ps_ret (pe_and (pe_callB (id := "isinstance") (r := rIsi K) call_isi (by rfl) T.b_isinstance (by decide +kernel) (pa_cons (pv 0) (pa_cons (pe_bltn (v := .ty "int") (u := Value.type "int") (by rfl) T.b_int (by decide +kernel) rfl) pa_nil))) (pe_one (pe_not (pe_callB (id := "isinstance") (r := rIsi K) call_isi (by rfl) T.b_isinstance (by decide +kernel) (pa_cons (pv 0) (pa_cons (pe_bltn (v := .ty "bool") (u := Value.type "bool") (by rfl) T.b_bool (by decide +kernel) rfl) pa_nil)))))))), ?_⟩
    try dsimp only [cxOf, Cx.nox, Cx.wish]
    refine st_of (σ' := [some _]) rfl ?_
    wtm_at "jw"
    refine i_isi (.base (.int i)) rfl ?_
    wtm_at "jw"
    refine i_isi (.base (.int i)) rfl ?_
    wtm_at "jw"
    exact k

/-! ### pairs of ints, tuples of them -/
/-- the pairs of rows stand at rs -/
def Prw (H : Hp) (rs : List Addr) (rows : List (Int × Int)) : Prop := rs.length = rows.length ∧ ∀ (i : Nat) (r : Addr) (p : Int × Int), rs[i]? = some r → rows[i]? = some p → H r = some (.tup [.int p.1, .int p.2])
/-- a tuple of pairs -/
def Prs (H : Hp) (a : Addr) (rows : List (Int × Int)) : Prop := ∃ rs : List Addr, H a = some (.tup (rs.map V.ref)) ∧ Prw H rs rows
/-- a list of pairs -/
def LPr (H : Hp) (a : Addr) (rows : List (Int × Int)) : Prop := ∃ rs : List Addr, H a = some (.lst (rs.map V.ref)) ∧ Prw H rs rows
theorem Prw.nil {H : Hp} : Prw H [] [] := ⟨rfl, fun i r p h => by simp at h⟩
theorem Prw.tps {H H' : Hp} {rs : List Addr} {rows : List (Int × Int)} (w : Prw H rs rows) (t : Tps H H') : Prw H' rs rows := ⟨w.1, fun i r p h1 h2 => (t r).1 _ (w.2 i r p h1 h2)⟩
theorem Prw.same {H H' : Hp} {rs : List Addr} {rows : List (Int × Int)} (w : Prw H rs rows) (s : Same H H') : Prw H' rs rows := w.tps (Tps.of s)
theorem Prw.snoc {H : Hp} {rs : List Addr} {rows : List (Int × Int)} {q : Addr} {x y : Int} (w : Prw H rs rows) (h : H q = some (.tup [.int x, .int y])) : Prw H (rs ++ [q]) (rows ++ [(x, y)]) := by
  refine ⟨by simp [w.1], fun i r p h1 h2 => ?_⟩
  have hl := w.1
  by_cases hi : i < rs.length
  · rw [List.getElem?_append_left hi] at h1
    rw [List.getElem?_append_left (by omega)] at h2
    exact w.2 i r p h1 h2
  · rw [List.getElem?_append_right (by omega)] at h1
    rw [List.getElem?_append_right (by omega)] at h2
    rw [hl] at h1
    cases e : i - rows.length with
    | zero =>
      rw [e] at h1 h2
      cases h1
      cases h2
      exact h
    | succ n =>
      rw [e] at h1
      cases h1
theorem Prs.tps {H H' : Hp} {a : Addr} {rows : List (Int × Int)} (h : Prs H a rows) (t : Tps H H') : Prs H' a rows := by
  obtain ⟨rs, ha, w⟩ := h
  exact ⟨rs, (t a).1 _ ha, w.tps t⟩
theorem Prs.same {H H' : Hp} {a : Addr} {rows : List (Int × Int)} (h : Prs H a rows) (s : Same H H') : Prs H' a rows := h.tps (Tps.of s)
theorem LPr.same {H H' : Hp} {a : Addr} {rows : List (Int × Int)} (h : LPr H a rows) (s : Same H H') : LPr H' a rows := by
  obtain ⟨rs, ha, w⟩ := h
  exact ⟨rs, s _ _ ha, w.same s⟩
theorem LPr.kp {H H' : Hp} {p a : Addr} {xs : List V} {rows : List (Int × Int)} (h : LPr H a rows) (k : Kp p H H') (hp : H p = some (.lst xs)) (n : a ≠ p) : LPr H' a rows := by
  obtain ⟨rs, ha, w⟩ := h
  exact ⟨rs, k _ _ ha n, w.tps (k.tps hp)⟩
theorem Prw.put {H : Hp} {D : Addr} {rs : List Addr} {xs ys : List V} {rows : List (Int × Int)} (w : Prw H rs rows) (h : H D = some (.lst xs)) : Prw (upd H D (.lst ys)) rs rows := by
  refine ⟨w.1, fun i r p h1 h2 => ?_⟩
  have hr := w.2 i r p h1 h2
  rw [upd_ne (ne_of hr h (by intro z; cases z))]
  exact hr
/-- a new pair behind the others -/
theorem LPr.add {H : Hp} {D q : Addr} {rs : List Addr} {rows : List (Int × Int)} {x y : Int} (h : H D = some (.lst (rs.map V.ref))) (w : Prw H rs rows) (hq : H q = none) :
    LPr (upd (upd H q (.tup [.int x, .int y])) D (.lst (rs.map V.ref ++ [.ref q]))) D (rows ++ [(x, y)]) := by
  have hD : upd H q (.tup [.int x, .int y]) D = some (.lst (rs.map V.ref)) := by rw [upd_ne (ne_of_none h hq)]; exact h
  refine ⟨rs ++ [q], by rw [upd_same, List.map_append]; rfl, Prw.put (xs := rs.map V.ref) ((w.same (same_new hq)).snoc upd_same) hD⟩
/-- a pair that stands already -/
theorem LPr.add' {H : Hp} {D q : Addr} {rs : List Addr} {rows : List (Int × Int)} {x y : Int} (h : H D = some (.lst (rs.map V.ref))) (w : Prw H rs rows) (hq : H q = some (.tup [.int x, .int y])) :
    LPr (upd H D (.lst (rs.map V.ref ++ [.ref q]))) D (rows ++ [(x, y)]) :=
  ⟨rs ++ [q], by rw [upd_same, List.map_append]; rfl, (w.snoc hq).put h⟩
theorem Prw.at {H : Hp} {rs : List Addr} {rows : List (Int × Int)} {i : Nat} {v : V} (w : Prw H rs rows) (h : (rs.map V.ref)[i]? = some v) : ∃ r p, v = .ref r ∧ rs[i]? = some r ∧ rows[i]? = some p ∧ H r = some (.tup [.int p.1, .int p.2]) ∧ rows.take (i + 1) = rows.take i ++ [p] ∧ i < rows.length := by
  rw [List.getElem?_map] at h
  cases e : rs[i]? with
  | none => rw [e] at h; cases h
  | some r =>
    rw [e] at h
    have hi := (List.getElem?_eq_some_iff.mp e).1
    have hl := w.1
    have e2 : rows[i]? = some (rows[i]'(by omega)) := List.getElem?_eq_getElem (by omega)
    exact ⟨r, _, (Option.some.inj h).symm, rfl, e2, w.2 i r _ e e2, by rw [List.take_add_one, e2]; rfl, by omega⟩
def prD (p : Int × Int) : PyData := .tuple [.int p.1, .int p.2]
theorem dp_prs {K : PySem.W.Frag} {H : Hp} {a : Addr} {rows : List (Int × Int)} (h : Prs H a rows) : Dp K H (.ref a) (.tuple (rows.map prD)) := by
  obtain ⟨rs, ha, w⟩ := h
  refine .tup (SqT.of ha) (dpAll_of (by simp [w.1]) fun i x d h1 h2 => ?_)
  obtain ⟨r, p, rfl, e1, e2, hr, _⟩ := w.at h1
  rw [List.getElem?_map, e2] at h2
  cases h2
  exact dp_ints (ns := [p.1, p.2]) (SqT.of hr)
theorem shp_prs (rows : List (Int × Int)) : Shp 2 (.tuple (rows.map prD)) :=
  Shp.tup fun d hd => by
    obtain ⟨p, _, rfl⟩ := List.mem_map.mp hd
    exact Shp.tup fun e he => by
      rcases List.mem_cons.mp he with rfl | he
      · exact (Shp.int _)
      · rcases List.mem_cons.mp he with rfl | he
        · exact (Shp.int _)
        · cases he
theorem shp_ints (ns : List Int) : Shp 1 (.tuple (ns.map PyData.int)) :=
  Shp.tup fun d hd => by
    obtain ⟨p, _, rfl⟩ := List.mem_map.mp hd
    exact Shp.int _
theorem put_same {H H' : Hp} {D : Addr} {o : HO} (s : Same H H') (h : H D = none) : Same H (upd H' D o) := fun b u hb => by
  rw [upd_ne (ne_of_none hb h)]
  exact s _ _ hb
theorem tps_put {H : Hp} {D : Addr} {xs ys : List V} (h : H D = some (.lst xs)) : Tps H (upd H D (.lst ys)) := (Kp.upd (p := D)).tps h

/-! ### dicts with int keys -/
section
variable {K : PySem.W.Frag} {σ : L2.St} {H : Hp} {Q : VK}
theorem i_dget {td ty : TE} (h : td σ H fun x H1 => ty σ H1 fun y H2 => ∃ a v, x = .ref a ∧ DGet H2 a y (some v) ∧ Q v H2) : tDGet td ty σ H Q := h
theorem i_dgetI {p : Addr} {i : Int} {v : V} {kvs : List (L2.Key × V)} {R : V → Prop} (h : Rd H p (.dK kvs)) (e : valV kvs (.inl i) = some v) (q : R v) : ∃ a v', V.ref p = .ref a ∧ DGet H a (.int i) (some v') ∧ R v' :=
  ⟨p, v, rfl, .inl ⟨kvs, .inl i, h, rfl, e.symm⟩, q⟩
theorem i_din {td ty : TE} (h : ty σ H fun y H1 => td σ H1 fun x H2 => ∃ a o, x = .ref a ∧ DGet H2 a y o ∧ Q (.bl o.isSome) H2) : tDIn ty td σ H Q := h
theorem i_dinI {p : Addr} {i : Int} {kvs : List (L2.Key × V)} {R : Option V → Prop} (h : Rd H p (.dK kvs)) (q : R (valV kvs (.inl i))) : ∃ a o, V.ref p = .ref a ∧ DGet H a (.int i) o ∧ R o :=
  ⟨p, _, rfl, .inl ⟨kvs, .inl i, h, rfl, rfl⟩, q⟩
theorem i_dput {td ty tv : TE} {nx : L2.St → Hp → Prop} {rt : VK} {bk ct : L2.St → Hp → Prop} (h : tv σ H fun v H1 => td σ H1 fun x H2 => ty σ H2 fun y H3 => ∃ a H4, x = .ref a ∧ DPut H3 a y v H4 ∧ nx σ H4) : sDPut td ty tv ⟨nx, rt, bk, ct⟩ σ H := h
theorem i_dputI {p : Addr} {i : Int} {v : V} {kvs : List (L2.Key × V)} {R : Hp → Prop} (h : H p = some (.dK kvs)) (hl : kvs.length ≤ 10000) (q : R (upd H p (.dK (putK kvs (.inl i) v)))) : ∃ a H4, V.ref p = .ref a ∧ DPut H a (.int i) v H4 ∧ R H4 :=
  ⟨p, _, rfl, .inl ⟨kvs, .inl i, h, rfl, by rw [sizeLine_eq]; omega, rfl⟩, q⟩
theorem i_dnew (q : ∀ p, H p = none → Q (.ref p) (upd H p (.dK []))) : tDNewK σ H Q := q
def rSortDI : List V → Hp → VK → Prop := fun xs H Q => ∃ (a : Addr) (kvs : List (L2.Key × V)) (ks : List Int), xs = [.ref a] ∧ Rd H a (.dK kvs) ∧ kvs.map (·.1) = ks.map Sum.inl ∧ ks.length < 64 ∧ ∀ (ys : List Int) (p : Addr), ys.Perm ks → ys.Pairwise (· ≤ ·) → H p = none → Q (.ref p) (upd H p (.lst (ys.map V.int)))
theorem c_sortDI {X : Cx} (hc : X.calm = true) : CallR X (.builtin "sorted") rSortDI := call_sortedDI hc
end
/-- the dict's entries are the map m of ints -/
def DI (kvs : List (L2.Key × V)) (m : Int → Option Int) : Prop := (∀ i : Int, valV kvs (.inl i) = (m i).map V.int) ∧ ∃ ks : List Int, kvs.map (·.1) = ks.map Sum.inl ∧ ks.Nodup
theorem DI.nil : DI [] fun _ => none := ⟨fun _ => rfl, [], rfl, List.nodup_nil⟩
theorem putK_keys {kvs : List (L2.Key × V)} {k : L2.Key} {v : V} : (putK kvs k v).map (·.1) = if (valV kvs k).isSome = true then kvs.map (·.1) else kvs.map (·.1) ++ [k] := by
  unfold putK
  rw [valV_any]
  by_cases h : (valV kvs k).isSome = true
  · rw [if_pos h, if_pos h, List.map_map]
    refine List.map_congr_left fun p _ => ?_
    show (if p.1 = k then (p.1, v) else p).1 = p.1
    split <;> rfl
  · rw [if_neg h, if_neg h, List.map_append]
    rfl
theorem DI.put {kvs : List (L2.Key × V)} {m : Int → Option Int} {i v : Int} (d : DI kvs m) : DI (putK kvs (.inl i) (.int v)) (fun j => if j = i then some v else m j) := by
  obtain ⟨h, ks, hk, hn⟩ := d
  refine ⟨fun j => ?_, ?_⟩
  · rw [valV_put]
    show _ = Option.map V.int (if j = i then some v else m j)
    by_cases e : j = i
    · subst e
      rw [if_pos rfl, if_pos rfl]
      rfl
    · rw [if_neg (by intro z; exact e (Sum.inl.inj z)), if_neg e]
      exact h j
  · rw [putK_keys]
    by_cases e : (valV kvs (.inl i)).isSome = true
    · rw [if_pos e]
      exact ⟨ks, hk, hn⟩
    · rw [if_neg e, hk]
      refine ⟨ks ++ [i], by rw [List.map_append]; rfl, ?_⟩
      have hni : ¬ i ∈ ks := fun hi => by
        have e1 : valV kvs (.inl i) = none := by
          cases q : valV kvs (.inl i) with
          | none => rfl
          | some z => rw [q] at e; exact absurd rfl e
        refine valV_not e1 ?_
        rw [hk]
        exact List.mem_map.mpr ⟨i, hi, rfl⟩
      exact nd_snoc hn hni
theorem DI.mem {kvs : List (L2.Key × V)} {m : Int → Option Int} {ks : List Int} (d : DI kvs m) (hk : kvs.map (·.1) = ks.map Sum.inl) (i : Int) : i ∈ ks ↔ (m i).isSome = true := by
  have h := d.1 i
  constructor
  · intro hi
    cases e : m i with
    | some z => rfl
    | none =>
      rw [e] at h
      refine absurd ?_ (valV_not h)
      rw [hk]
      exact List.mem_map.mpr ⟨i, hi, rfl⟩
  · intro hi
    obtain ⟨z, hz⟩ := Option.isSome_iff_exists.mp hi
    rw [hz] at h
    have := valV_in h
    rw [hk] at this
    obtain ⟨j, hj, e⟩ := List.mem_map.mp this
    exact Sum.inl.inj e ▸ hj
/-- distinct ints of 0 .. n - 1 are at most n -/
theorem nodup_len : ∀ (n : Nat) (l : List Int), l.Nodup → (∀ x ∈ l, 0 ≤ x ∧ x < n) → l.length ≤ n
  | 0, l, _, h => by
    cases l with
    | nil => exact Nat.le_refl _
    | cons x r => have := h x List.mem_cons_self; omega
  | n + 1, l, hn, h => by
    by_cases hm : (n : Int) ∈ l
    · have e := List.length_erase_of_mem hm
      have := nodup_len n (l.erase (n : Int)) (hn.erase _) fun x hx => by
        have h1 := (List.Nodup.mem_erase_iff hn).mp hx
        have h2 := h x h1.2
        have : x ≠ (n : Int) := h1.1
        omega
      omega
    · have := nodup_len n l hn fun x hx => by
        have h2 := h x hx
        have : x ≠ (n : Int) := fun e => hm (e ▸ hx)
        omega
      omega
theorem DI.len {kvs : List (L2.Key × V)} {m : Int → Option Int} {n : Nat} (d : DI kvs m) (h : ∀ i, (m i).isSome = true → 0 ≤ i ∧ i < n) : kvs.length ≤ n := by
  obtain ⟨ks, hk, hn⟩ := d.2
  have e : kvs.length = ks.length := by
    have := congrArg List.length hk
    rw [List.length_map, List.length_map] at this
    exact this
  rw [e]
  exact nodup_len n ks hn fun x hx => h x ((d.mem hk x).mp hx)
/-- ints in order, all of them distinct -/
theorem lt_of_le_nodup : ∀ {l : List Int}, l.Pairwise (· ≤ ·) → l.Nodup → l.Pairwise (· < ·)
  | [], _, _ => .nil
  | a :: r, h, n => by
    rw [List.pairwise_cons] at h
    rw [List.nodup_cons] at n
    refine List.pairwise_cons.mpr ⟨fun x hx => ?_, lt_of_le_nodup h.2 n.2⟩
    have h1 := h.1 x hx
    have h2 : x ≠ a := fun e => n.1 (e ▸ hx)
    omega
theorem sorted_ext : ∀ {l1 l2 : List Int}, l1.Pairwise (· < ·) → l2.Pairwise (· < ·) → (∀ x, x ∈ l1 ↔ x ∈ l2) → l1 = l2
  | [], [], _, _, _ => rfl
  | [], b :: r, _, _, h => by have := (h b).mpr List.mem_cons_self; cases this
  | a :: r, [], _, _, h => by have := (h a).mp List.mem_cons_self; cases this
  | a :: r, b :: t, h1, h2, h => by
    rw [List.pairwise_cons] at h1 h2
    have ha := (h a).mp List.mem_cons_self
    have hb := (h b).mpr List.mem_cons_self
    have e : a = b := by
      rcases List.mem_cons.mp ha with e | ha
      · exact e
      · rcases List.mem_cons.mp hb with e | hb
        · exact e.symm
        · have := h2.1 a ha
          have := h1.1 b hb
          omega
    subst e
    rw [sorted_ext h1.2 h2.2 fun x => ⟨fun hx => ?_, fun hx => ?_⟩]
    · rcases List.mem_cons.mp ((h x).mp (List.mem_cons_of_mem _ hx)) with e | q
      · have := h1.1 x hx
        omega
      · exact q
    · rcases List.mem_cons.mp ((h x).mpr (List.mem_cons_of_mem _ hx)) with e | q
      · have := h2.1 x hx
        omega
      · exact q
theorem putK_le {kvs : List (L2.Key × V)} {k : L2.Key} {v : V} : (putK kvs k v).length ≤ kvs.length + 1 := by
  have h := congrArg List.length (putK_keys (kvs := kvs) (k := k) (v := v))
  rw [List.length_map] at h
  rw [h]
  split
  · rw [List.length_map]; omega
  · rw [List.length_append, List.length_map]; simp

/-! ### dicts whose keys are pairs of ints: how often each pair was met -/
section
variable {K : PySem.W.Frag} {σ : L2.St} {H : Hp} {Q : VK}
theorem i_dgetT {p b : Addr} {k : List L2.Key} {v : V} {kvs : List (List L2.Key × V)} {R : V → Prop} (h : Rd H p (.dT kvs)) (eb : H b = some (.tup (k.map kV))) (e : valV kvs k = some v) (q : R v) : ∃ a v', V.ref p = .ref a ∧ DGet H a (.ref b) (some v') ∧ R v' :=
  ⟨p, v, rfl, .inr ⟨kvs, k, b, h, rfl, eb, e.symm⟩, q⟩
theorem i_dputT {p b : Addr} {k : List L2.Key} {v : V} {kvs : List (List L2.Key × V)} {R : Hp → Prop} (h : H p = some (.dT kvs)) (eb : H b = some (.tup (k.map kV))) (hl : kvs.length ≤ 10000) (q : R (upd H p (.dT (putK kvs k v)))) : ∃ a H4, V.ref p = .ref a ∧ DPut H a (.ref b) v H4 ∧ R H4 :=
  ⟨p, _, rfl, .inr ⟨kvs, k, b, h, rfl, eb, by rw [sizeLine_eq]; omega, rfl⟩, q⟩
theorem i_dget2 {td ty tx : TE} (h : td σ H fun x H1 => ∃ a, x = .ref a ∧ IsD H1 a ∧ ty σ H1 fun y H2 => tx σ H2 fun z H3 => ∃ o, DGet H3 a y o ∧ Q (o.getD z) H3) : tDGet2 td ty tx σ H Q := h
theorem i_isDT {p : Addr} {kvs : List (List L2.Key × V)} {R : Addr → Prop} (h : H p = some (.dT kvs)) (q : R p) : ∃ a, V.ref p = .ref a ∧ IsD H a ∧ R a := ⟨p, rfl, .inr ⟨kvs, .inl h⟩, q⟩
theorem i_isDK {p : Addr} {kvs : List (L2.Key × V)} {R : Addr → Prop} (h : H p = some (.dK kvs)) (q : R p) : ∃ a, V.ref p = .ref a ∧ IsD H a ∧ R a := ⟨p, rfl, .inl ⟨kvs, .inl h⟩, q⟩
theorem i_ogetT {p b : Addr} {k : List L2.Key} {kvs : List (List L2.Key × V)} {R : Option V → Prop} (h : Rd H p (.dT kvs)) (eb : H b = some (.tup (k.map kV))) (q : R (valV kvs k)) : ∃ o, DGet H p (.ref b) o ∧ R o :=
  ⟨_, .inr ⟨kvs, k, b, h, rfl, eb, rfl⟩, q⟩
theorem i_dnewT (q : ∀ p, H p = none → Q (.ref p) (upd H p (.dT []))) : tDNewT σ H Q := q
theorem i_lockE {t : TE} {d : Addr} {u : HO} (h : H d = some u) (mu : Mut (some u)) (q : ∀ od, t σ (upd H d (.frz od u)) fun v H' => H' d = some (.frz od u) ∧ Q v (upd H' d u)) : tLockE t σ H Q := ⟨d, u, h, mu, q⟩
theorem i_iKeys {td : TE} {R : It → Hp → Prop} (h : td σ H fun x H1 => ∃ d o, x = .ref d ∧ ((∃ kvs, H1 d = some (.frz o (.dK kvs)) ∧ R (Itk d o kvs) H1) ∨ ∃ kvs, H1 d = some (.frz o (.dT kvs)) ∧ R (Itkt d o kvs) H1)) : iKeys td σ H R := h
theorem i_itK {d : Addr} {o : Obj} {kvs : List (L2.Key × V)} {R : It → Prop} (h : H d = some (.frz o (.dK kvs))) (q : R (Itk d o kvs)) : ∃ d' o', V.ref d = .ref d' ∧ ((∃ kvs, H d' = some (.frz o' (.dK kvs)) ∧ R (Itk d' o' kvs)) ∨ ∃ kvs, H d' = some (.frz o' (.dT kvs)) ∧ R (Itkt d' o' kvs)) := ⟨d, o, rfl, .inl ⟨kvs, h, q⟩⟩
theorem i_itT {d : Addr} {o : Obj} {kvs : List (List L2.Key × V)} {R : It → Prop} (h : H d = some (.frz o (.dT kvs))) (q : R (Itkt d o kvs)) : ∃ d' o', V.ref d = .ref d' ∧ ((∃ kvs, H d' = some (.frz o' (.dK kvs)) ∧ R (Itk d' o' kvs)) ∨ ∃ kvs, H d' = some (.frz o' (.dT kvs)) ∧ R (Itkt d' o' kvs)) := ⟨d, o, rfl, .inr ⟨kvs, h, q⟩⟩
end
section
variable {d : Addr} {o : Obj} {g : TG} {tt : TT} {te : TE} {ws : List Nat} {D : Addr} {Qd : Hp → Prop} {σ' : L2.St} {H : Hp}
theorem l_keysT {kvs : List (List L2.Key × V)} (Pv : Nat → Hp → Prop) (h0 : Pv 0 (upd H D (.lst []))) (hl : ∀ i H, i ≤ kvs.length → Pv i H → H d = some (.frz o (.dT kvs)))
    (hs : ∀ i (k : List L2.Key) v q H, kvs[i]? = some (k, v) → H q = some (.tup (k.map kV)) → Pv i H → g (.ref q) σ' H fun σ2 H2 => wipe σ2 ws = σ' ∧ tt σ2 H2 fun b H3 =>
      if b = true then te σ2 H3 fun y H4 => ∃ acc, H4 D = some (.lst acc) ∧ acc.length < sizeLine ∧ Pv (i + 1) (upd H4 D (.lst (acc ++ [y]))) else Pv (i + 1) H3) (hd : ∀ H, Pv kvs.length H → Qd H) (e : wipe σ' ws = σ' := by rfl) :
    ∃ W : Nat → Nat → Hp → Prop, (∃ m, W 0 m (upd H D (.lst []))) ∧ ∀ i m H, W i m H →
      ((Itkt d o kvs).stop i H ∧ Qd H) ∨ ((Itkt d o kvs).go i H ∧ ∃ Nx : Hp → Prop, (∀ H', Nx H' → ∃ m', m' < m ∧ W (i + 1) m' H') ∧ ∀ x H', (Itkt d o kvs).yld i H x H' → g x σ' H' fun σ2 H2 => wipe σ2 ws = σ' ∧ tt σ2 H2 fun b H3 =>
        if b = true then te σ2 H3 fun y H4 => ∃ acc, H4 D = some (.lst acc) ∧ acc.length < sizeLine ∧ Nx (upd H4 D (.lst (acc ++ [y]))) else Nx H3) := by
  have h := lc_it (walk_keysT (d := d) (o := o) (kvs := kvs)) (g := g) (tt := tt) (te := te) (vs := ws) (σ := σ') (H1 := H) (D := D) (Qd := Qd) Pv h0 hl (by
    rw [e]
    rintro i x H1 H2 hi hp ⟨rfl, k, v, q, hk, rfl, hq⟩
    exact hs i k v q _ hk hq hp) hd
  rw [e] at h
  exact h
theorem l_keys {kvs : List (L2.Key × V)} (Pv : Nat → Hp → Prop) (h0 : Pv 0 (upd H D (.lst []))) (hl : ∀ i H, i ≤ kvs.length → Pv i H → H d = some (.frz o (.dK kvs)))
    (hs : ∀ i k v H, kvs[i]? = some (k, v) → Pv i H → g (kV k) σ' H fun σ2 H2 => wipe σ2 ws = σ' ∧ tt σ2 H2 fun b H3 =>
      if b = true then te σ2 H3 fun y H4 => ∃ acc, H4 D = some (.lst acc) ∧ acc.length < sizeLine ∧ Pv (i + 1) (upd H4 D (.lst (acc ++ [y]))) else Pv (i + 1) H3) (hd : ∀ H, Pv kvs.length H → Qd H) (e : wipe σ' ws = σ' := by rfl) :
    ∃ W : Nat → Nat → Hp → Prop, (∃ m, W 0 m (upd H D (.lst []))) ∧ ∀ i m H, W i m H →
      ((Itk d o kvs).stop i H ∧ Qd H) ∨ ((Itk d o kvs).go i H ∧ ∃ Nx : Hp → Prop, (∀ H', Nx H' → ∃ m', m' < m ∧ W (i + 1) m' H') ∧ ∀ x H', (Itk d o kvs).yld i H x H' → g x σ' H' fun σ2 H2 => wipe σ2 ws = σ' ∧ tt σ2 H2 fun b H3 =>
        if b = true then te σ2 H3 fun y H4 => ∃ acc, H4 D = some (.lst acc) ∧ acc.length < sizeLine ∧ Nx (upd H4 D (.lst (acc ++ [y]))) else Nx H3) := by
  have h := lc_it (walk_keys (d := d) (o := o) (kvs := kvs)) (g := g) (tt := tt) (te := te) (vs := ws) (σ := σ') (H1 := H) (D := D) (Qd := Qd) Pv h0 hl (by
    rw [e]
    rintro i x H1 H2 hi hp ⟨rfl, k, v, hk, rfl⟩
    exact hs i k v _ hk hp) hd
  rw [e] at h
  exact h
end
/-- an entry: the pair and how often -/
def ent (e : (Int × Int) × Int) : List L2.Key × V := ([.inl e.1.1, .inl e.1.2], .int e.2)
def lk : List ((Int × Int) × Int) → Int × Int → Option Int
  | [], _ => none
  | e :: r, p => if e.1 = p then some e.2 else lk r p
def bump : List ((Int × Int) × Int) → Int × Int → List ((Int × Int) × Int)
  | [], p => [(p, 1)]
  | e :: r, p => if e.1 = p then (e.1, e.2 + 1) :: r else e :: bump r p
theorem ent_key {e : (Int × Int) × Int} {p : Int × Int} : ((ent e).1 = [.inl p.1, .inl p.2]) ↔ e.1 = p := by
  unfold ent
  constructor
  · intro h
    injection h with h1 h2
    injection h2 with h3
    exact Prod.ext (Sum.inl.inj h1) (Sum.inl.inj h3)
  · intro h
    rw [h]
theorem lk_val (p : Int × Int) : ∀ es, valV (es.map ent) [.inl p.1, .inl p.2] = (lk es p).map V.int
  | [] => rfl
  | e :: r => by
    rw [List.map_cons, lk]
    by_cases h : e.1 = p
    · rw [if_pos h, valV_pos (ent_key.mpr h)]; rfl
    · rw [if_neg h, valV_neg (fun z => h (ent_key.mp z)), lk_val p r]
theorem lk_bump (p q : Int × Int) : ∀ es, lk (bump es p) q = if q = p then some ((lk es p).getD 0 + 1) else lk es q
  | [] => by
    rw [bump, lk, lk, lk]
    by_cases h : q = p
    · rw [if_pos h.symm, if_pos h]; rfl
    · rw [if_neg (fun z => h z.symm), if_neg h]; rfl
  | e :: r => by
    have ih := lk_bump p q r
    rw [bump]
    by_cases h : e.1 = p
    · rw [if_pos h, lk, lk, if_pos h, lk]
      by_cases h2 : q = p
      · rw [if_pos h2, if_pos (by rw [h, h2])]; rfl
      · have nh : ¬ e.1 = q := fun z => h2 (z.symm.trans h)
        simp [h2, nh]
    · rw [if_neg h, lk, ih, lk, if_neg h, lk]
      by_cases h2 : q = p
      · rw [if_pos h2, if_pos h2, if_neg (fun z => h (z.trans h2))]
      · rw [if_neg h2, if_neg h2]
theorem bump_keys (p : Int × Int) : ∀ es, (∀ q, q ∈ (bump es p).map (·.1) ↔ q = p ∨ q ∈ es.map (·.1)) ∧ ((es.map (·.1)).Nodup → ((bump es p).map (·.1)).Nodup)
  | [] => ⟨fun q => by simp [bump], fun _ => by simp [bump]⟩
  | e :: r => by
    obtain ⟨h1, h2⟩ := bump_keys p r
    rw [bump]
    by_cases h : e.1 = p
    · rw [if_pos h]
      refine ⟨fun q => ?_, fun n => n⟩
      rw [List.map_cons, List.map_cons, List.mem_cons]
      show q = e.1 ∨ _ ↔ q = p ∨ q = e.1 ∨ _
      rw [h]
      constructor
      · rintro (a | a)
        · exact .inl a
        · exact .inr (.inr a)
      · rintro (a | a | a)
        · exact .inl a
        · exact .inl a
        · exact .inr a
    · rw [if_neg h]
      refine ⟨fun q => ?_, fun n => ?_⟩
      · rw [List.map_cons, List.mem_cons, h1, List.map_cons, List.mem_cons]
        constructor
        · rintro (a | a | a)
          · exact .inr (.inl a)
          · exact .inl a
          · exact .inr (.inr a)
        · rintro (a | a | a)
          · exact .inr (.inl a)
          · exact .inl a
          · exact .inr (.inr a)
      · rw [List.map_cons, List.nodup_cons] at n ⊢
        refine ⟨fun z => ?_, h2 n.2⟩
        rcases (h1 _).mp z with a | a
        · exact h a
        · exact n.1 a
theorem lk_none (p : Int × Int) : ∀ es, lk es p = none ↔ ¬ p ∈ es.map (·.1)
  | [] => by simp [lk]
  | e :: r => by
    rw [lk, List.map_cons, List.mem_cons]
    by_cases h : e.1 = p
    · rw [if_pos h]
      exact ⟨fun z => (nomatch z), fun z => (z (.inl h.symm)).elim⟩
    · rw [if_neg h, lk_none p r]
      exact ⟨fun z w => w.elim (fun a => h a.symm) z, fun z w => z (.inr w)⟩
theorem bump_new (p : Int × Int) : ∀ es, lk es p = none → bump es p = es ++ [(p, 1)]
  | [], _ => rfl
  | e :: r, h => by
    rw [lk] at h
    by_cases h2 : e.1 = p
    · rw [if_pos h2] at h; cases h
    · rw [if_neg h2] at h
      rw [bump, if_neg h2, bump_new p r h]; rfl
theorem map_same (p : Int × Int) (v : Int) : ∀ es : List ((Int × Int) × Int), ¬ p ∈ es.map (·.1) → (es.map ent).map (fun kv => if kv.1 = [.inl p.1, .inl p.2] then (kv.1, V.int v) else kv) = es.map ent
  | [], _ => rfl
  | e :: r, h => by
    rw [List.map_cons, List.mem_cons] at h
    rw [List.map_cons, List.map_cons, map_same p v r (fun z => h (.inr z)), if_neg (fun z => h (.inl (ent_key.mp z).symm))]
theorem bump_map (p : Int × Int) : ∀ es : List ((Int × Int) × Int), (es.map (·.1)).Nodup → (lk es p).isSome = true → (es.map ent).map (fun kv => if kv.1 = [.inl p.1, .inl p.2] then (kv.1, V.int ((lk es p).getD 0 + 1)) else kv) = (bump es p).map ent
  | [], _, h => by cases h
  | e :: r, n, h => by
    rw [List.map_cons, List.nodup_cons] at n
    rw [List.map_cons, List.map_cons, bump]
    by_cases h2 : e.1 = p
    · rw [if_pos (ent_key.mpr h2), if_pos h2, map_same p _ r (by rw [← h2]; exact n.1), List.map_cons, lk, if_pos h2]
      rfl
    · rw [if_neg (fun z => h2 (ent_key.mp z)), if_neg h2, List.map_cons]
      rw [lk, if_neg h2] at h ⊢
      rw [bump_map p r n.2 h]
theorem bump_put {p : Int × Int} {es : List ((Int × Int) × Int)} (n : (es.map (·.1)).Nodup) : putK (es.map ent) [.inl p.1, .inl p.2] (.int ((lk es p).getD 0 + 1)) = (bump es p).map ent := by
  cases h : lk es p with
  | none =>
    rw [putK_new _ (by rw [lk_val, h]; rfl), bump_new p es h, List.map_append]
    rfl
  | some z =>
    unfold putK
    rw [valV_any, lk_val, h, if_pos (show (Option.map V.int (some z)).isSome = true from rfl)]
    have := bump_map p es n (by rw [h]; rfl)
    rw [h] at this
    exact this
/-- the counts of a row of pairs -/
def cntE (ev : List (Int × Int)) : List ((Int × Int) × Int) := ev.foldl bump []
theorem cntE_snoc (ev : List (Int × Int)) (p : Int × Int) : cntE (ev ++ [p]) = bump (cntE ev) p := by
  unfold cntE
  rw [List.foldl_append]
  rfl
theorem cntE_nodup (ev : List (Int × Int)) : ((cntE ev).map (·.1)).Nodup := by
  unfold cntE
  suffices h : ∀ (l : List (Int × Int)) es, (es.map (·.1)).Nodup → ((l.foldl bump es).map (fun (x : (Int × Int) × Int) => x.1)).Nodup from h ev [] List.nodup_nil
  intro l
  induction l with
  | nil => intro es h; exact h
  | cons p r ih => intro es h; exact ih _ ((bump_keys p es).2 h)
theorem bump_len (p : Int × Int) : ∀ es, (bump es p).length ≤ es.length + 1
  | [] => Nat.le_refl _
  | e :: r => by
    have := bump_len p r
    rw [bump]
    split
    · simp
    · simp; omega
theorem cntE_len (ev : List (Int × Int)) : (cntE ev).length ≤ ev.length := by
  unfold cntE
  suffices h : ∀ (l : List (Int × Int)) (es : List ((Int × Int) × Int)), (l.foldl bump es).length ≤ es.length + l.length by
    have := h ev []
    simpa using this
  intro l
  induction l with
  | nil => intro es; exact Nat.le_refl _
  | cons p r ih =>
    intro es
    have h1 := ih (bump es p)
    have h2 := bump_len p es
    rw [List.foldl_cons, List.length_cons]
    omega
theorem cntE_lk (ev : List (Int × Int)) (p : Int × Int) : (lk (cntE ev) p).getD 0 = (ev.count p : Nat) := by
  suffices h : ∀ (l : List (Int × Int)) (es : List ((Int × Int) × Int)), (lk (l.foldl bump es) p).getD 0 = (lk es p).getD 0 + (l.count p : Nat) by
    have := h ev []
    simpa [lk, cntE] using this
  intro l
  induction l with
  | nil => intro es; simp
  | cons q r ih =>
    intro es
    rw [List.foldl_cons, ih, lk_bump, List.count_cons]
    by_cases h : p = q
    · subst h
      simp
      omega
    · rw [if_neg h]
      have : (q == p) = false := by simp; exact fun z => h z.symm
      rw [this]
      simp
/-- the counts of the pairs that have a property -/
theorem cntE_sum (pr : Int × Int → Bool) (ev : List (Int × Int)) : (((cntE ev).filter fun e => pr e.1).map (·.2)).sum = ((ev.countP pr : Nat) : Int) := by
  have hb : ∀ (p : Int × Int) es, (((bump es p).filter fun e => pr e.1).map (·.2)).sum = ((es.filter fun e => pr e.1).map (fun (x : (Int × Int) × Int) => x.2)).sum + (if pr p = true then 1 else 0) := by
    intro p es
    induction es with
    | nil => by_cases h : pr p = true <;> simp [bump, h]
    | cons e r ih =>
      rw [bump]
      by_cases h : e.1 = p
      · rw [if_pos h]
        by_cases h2 : pr p = true
        · simp [h, h2]; omega
        · simp [h, h2]
      · rw [if_neg h]
        by_cases h2 : pr e.1 = true
        · simp only [List.filter_cons, h2, if_true, List.map_cons, List.sum_cons, ih]; omega
        · rw [List.filter_cons_of_neg (p := fun (e : (Int × Int) × Int) => pr e.1) h2, List.filter_cons_of_neg (p := fun (e : (Int × Int) × Int) => pr e.1) h2]
          exact ih
  suffices h : ∀ (l : List (Int × Int)) (es : List ((Int × Int) × Int)), (((l.foldl bump es).filter fun e => pr e.1).map (·.2)).sum = ((es.filter fun e => pr e.1).map (fun (x : (Int × Int) × Int) => x.2)).sum + (l.countP pr : Nat) by
    have := h ev []
    simpa [cntE] using this
  intro l
  induction l with
  | nil => intro es; simp
  | cons q r ih =>
    intro es
    rw [List.foldl_cons, ih, hb, List.countP_cons]
    by_cases h : pr q = true
    · simp [h]; omega
    · simp [h]
theorem lk_get (p : Int × Int) (es : List ((Int × Int) × Int)) : (valV (es.map ent) [.inl p.1, .inl p.2]).getD (.int 0) = .int ((lk es p).getD 0) := by
  rw [lk_val]
  cases lk es p <;> rfl
theorem lk_mem : ∀ {es : List ((Int × Int) × Int)}, (es.map (·.1)).Nodup → ∀ e ∈ es, lk es e.1 = some e.2
  | [], _, e, h => (nomatch h)
  | x :: r, n, e, h => by
    rw [List.map_cons, List.nodup_cons] at n
    rw [lk]
    rcases List.mem_cons.mp h with rfl | h
    · rw [if_pos rfl]
    · have : ¬ x.1 = e.1 := fun z => n.1 (by rw [z]; exact List.mem_map.mpr ⟨e, h, rfl⟩)
      rw [if_neg this, lk_mem n.2 e h]
theorem tps_frz {H : Hp} {d : Addr} {kvs : List (List L2.Key × V)} {o : HO} (h : H d = some (.dT kvs)) : Tps H (upd H d o) := fun c => by
  by_cases e : c = d
  · subst e
    exact ⟨fun xs z => (by rw [h] at z; cases z), fun o xs z => (by rw [h] at z; cases z)⟩
  · exact ⟨fun xs z => (by rw [upd_ne e]; exact z), fun o xs z => (by rw [upd_ne e]; exact z)⟩
theorem ent_at {es : List ((Int × Int) × Int)} {i : Nat} {k : List L2.Key} {v : V} (h : (es.map ent)[i]? = some (k, v)) : ∃ e, es[i]? = some e ∧ k = [.inl e.1.1, .inl e.1.2] ∧ v = .int e.2 ∧ es.take (i + 1) = es.take i ++ [e] := by
  rw [List.getElem?_map] at h
  cases e1 : es[i]? with
  | none => rw [e1] at h; cases h
  | some e =>
    rw [e1] at h
    have h2 := Option.some.inj h
    unfold ent at h2
    injection h2 with a b
    exact ⟨e, rfl, a.symm, b.symm, by rw [List.take_add_one, e1]; rfl⟩

/-! ### the guesses -/
def lastO (m : Int → Option Int) : Nat → Option Int
  | 0 => none
  | t + 1 => if (m (t : Int)).isSome = true then some (t : Int) else lastO m t
def ovi : Option Int → V
  | none => .non
  | some z => .int z
def sp_last_known (K : PySem.W.Frag) : Sp := fun vs H Q _ => ∃ (k : Addr) (kvs : List (L2.Key × V)) (m : Int → Option Int) (t : Nat), vs = [.ref k, .int (t : Int)] ∧ H k = some (.dK kvs) ∧ (∀ i : Int, valV kvs (.inl i) = (m i).map V.int) ∧ t ≤ 1000 ∧ Q (ovi (lastO m t)) H
theorem ok_last_known {P : Program} {w : World} {K : PySem.W.Frag} {mg : Str → Option Value} {base : Heap} {f : Addr} {fd : FuncData} (F : Df K mg "last_known" s_last_known f fd ["known", "tick"]) (T : Txt mg) : FnOk P w K mg base CX0 1 f fd ["known", "tick"] (sp_last_known K) := by
  refine F.ok sc_last_known (fun vs H Q E h => ?_) (fun cdv A outer s H vs Q E hr h => ?_)
  · obtain ⟨k, kvs, m, t, rfl, _⟩ := h
    rfl
  · obtain ⟨k, kvs, m, t, rfl, hk, hm, ht, q⟩ := h
    have hu := hu_of hr
    refine ⟨_, (pss_cons (ps_for PassesOwn.never rfl (pi_range3 rfl T.b_range (pa_cons (pe_op op_sub (pv 1) pe_int) (pa_cons (pe_un un_neg pe_int) (pa_cons (pe_un un_neg pe_int) pa_nil)))) (pg_name (i := 2) sc_last_known.nd rfl (Or.inl rfl)) (pss_one (ps_if (pt_cmp (pc_din hu (pv 2) (pv 0))) (pss_one (ps_ret (pv 2))) pss_nil)))
      (pss_one (ps_ret pe_non))), ?_⟩
    try dsimp only [cxOf, Cx.nox, Cx.wish]
    refine st_of (σ' := [some _, some _, none]) rfl ?_
    wtm_at "jw"
    refine i_rng3 ?_
    wtm_at "jw"
    refine ⟨_, _, _, _, rfl, RgC.neg (by omega) (by omega) (by decide) (by decide), ?_⟩
    rw [show ((t : Int) - 1 - -1).toNat = t by omega]
    refine f_rangeC (fun i σ H' => H' = H ∧ lastO m t = lastO m (t - i) ∧ ∃ v1, σ = [some (.ref k), some (.int (t : Int)), v1]) ⟨rfl, rfl, none, rfl⟩ (fun i σ H' hi h => ?_) (fun σ H' h => ?_)
    · obtain ⟨rfl, hl, v1, rfl⟩ := h
      have e1 : (t : Int) - 1 + (i : Int) * -1 = ((t - 1 - i : Nat) : Int) := by omega
      have e2 : t - i = (t - 1 - i) + 1 := by omega
      rw [e2, lastO] at hl
      rw [e1]
      wtm_at "jw"
      refine i_din ?_
      wtm_at "jw"
      refine i_dinI (.inl hk) ?_
      rw [hm, Option.isSome_map]
      wtm_at "jw"
      refine c_bool (fun h => ?_) (fun h => ?_)
      · wtm_at "jw"
        rw [hl, if_pos h] at q
        exact q
      · wtm_at "jw"
        refine ⟨rfl, ?_, _, rfl⟩
        rw [hl, if_neg (by rw [h]; exact Bool.false_ne_true), show t - (i + 1) = t - 1 - i by omega]
    · obtain ⟨rfl, hl, v1, rfl⟩ := h
      rw [Nat.sub_self, lastO] at hl
      rw [hl] at q
      wtm_at "jw"
      exact q
/-- the guess of the table ts, from what is known -/
def gs (ts : List Int) (m : Int → Option Int) (t : Nat) : Int := match lastO m t with
  | none => ts[0]?.getD 0
  | some l => ts[((m l).getD 0 % (ts.length : Int)).toNat]?.getD 0
theorem lastO_some {m : Int → Option Int} {l : Int} : ∀ {t : Nat}, lastO m t = some l → ∃ z, m l = some z
  | 0, h => by cases h
  | t + 1, h => by
    rw [lastO] at h
    by_cases hh : (m (t : Int)).isSome = true
    · rw [if_pos hh] at h
      cases h
      exact Option.isSome_iff_exists.mp hh
    · rw [if_neg hh] at h
      exact lastO_some h
theorem int_atG {ns : List Int} {j : Int} (h0 : 0 ≤ j) (h : j < ns.length) : atI (ns.map V.int) j = some (.int (ns[j.toNat]?.getD 0)) := by
  obtain ⟨v, e, _, e2⟩ := at_lt (xs := ns.map V.int) h0 (by rw [List.length_map]; exact h)
  rw [e]
  rw [List.getElem?_map, List.getElem?_eq_getElem (by omega)] at e2
  rw [List.getElem?_eq_getElem (by omega)]
  exact e2.symm
def sp_guess_of (K : PySem.W.Frag) : Sp := fun vs H Q _ => ∃ (a k : Addr) (ts : List Int) (kvs : List (L2.Key × V)) (m : Int → Option Int) (t : Nat), vs = [.ref a, .ref k, .int (t : Int)] ∧ SqT K H a (ts.map V.int) ∧ 0 < ts.length ∧ H k = some (.dK kvs) ∧ (∀ i : Int, valV kvs (.inl i) = (m i).map V.int) ∧ t ≤ 1000 ∧ Q (.int (gs ts m t)) H
theorem ok_guess_of {P : Program} {w : World} {K : PySem.W.Frag} {mg : Str → Option Value} {base : Heap} {f : Addr} {fd : FuncData} (F : Df K mg "guess_of" s_guess_of f fd ["table", "known", "tick"]) (T : Txt mg)
    (c_last_known : Cl P w K mg base 1 "last_known" (sp_last_known K)) : FnOk P w K mg base CX0 2 f fd ["table", "known", "tick"] (sp_guess_of K) := by
  refine F.ok sc_guess_of (fun vs H Q E h => ?_) (fun cdv A outer s H vs Q E hr h => ?_)
  · obtain ⟨a, k, ts, kvs, m, t, rfl, _⟩ := h
    rfl
  · obtain ⟨a, k, ts, kvs, m, t, rfl, ha, h0, hk, hm, ht, q⟩ := h
    unfold gs at q
    have hu := hu_of hr
    refine ⟨_, (pss_cons (ps_set (i := 3) sc_guess_of.nd rfl (Or.inl rfl) (pe_cl c_last_known hr (by decide) rfl (pa_cons (pv 1) (pa_cons (pv 2) pa_nil))))
      (pss_cons (ps_if (pt_cmpR o_isN (pv 3) pe_non (nomark _)) (pss_one (ps_ret (pe_ix (r := rIxT K) ix_tup (pv 0) pe_int (fun _ _ => rfl)))) pss_nil)
      (pss_one (ps_ret (pe_ix (r := rIxT K) ix_tup (pv 0) (pe_op op_mod (pe_dget hu (pv 1) (pv 3) (fun _ _ => rfl)) (pe_callB (id := "len") (r := qLen K) c_len (by rfl) T.b_len (by decide +kernel) (pa_cons (pv 0) pa_nil))) (fun _ _ => rfl)))))), ?_⟩
    try dsimp only [cxOf, Cx.nox, Cx.wish]
    refine st_of (σ' := [some _, some _, some _, none]) rfl ?_
    wtm_at "jw"
    refine ⟨k, kvs, m, t, rfl, hk, hm, ht, ?_⟩
    cases e : lastO m t with
    | none =>
      rw [e] at q
      have a0 := int_atG (ns := ts) (j := 0) (by omega) (by omega)
      wtm_at "jw"
      refine c_yes rfl ?_
      wtm_at "jw"
      exact q
    | some l =>
      rw [e] at q
      dsimp only at q
      obtain ⟨z, hz⟩ := lastO_some e
      have hv : valV kvs (.inl l) = some (.int z) := by rw [hm, hz]; rfl
      rw [hz] at q
      have b0 := Int.emod_nonneg z (b := (ts.length : Int)) (by omega)
      have b1 := Int.emod_lt_of_pos z (b := (ts.length : Int)) (by omega)
      have a0 := int_atG (ns := ts) b0 b1
      wtm_at "jw"
      refine c_no (fun h => by cases h) ?_
      wtm_at "jw"
      refine i_dget ?_
      wtm_at "jw"
      refine i_dgetI (.inl hk) hv ?_
      wtm_at "jw"
      rw [List.length_map]
      wtm_at "jw"
      exact q

/-! ### immutable data: None, bools, ints, texts, tuples of them -/
mutual
inductive TD (K : PySem.W.Frag) (H : Hp) : V → PyData → Prop
  | non : TD K H .non .none
  | bl (b : Bool) : TD K H (.bl b) (.bool b)
  | int (i : Int) : TD K H (.int i) (.int i)
  | str (x : Str) : TD K H (.str x) (.str x)
  | tup {a : Addr} {xs : List V} {ds : List PyData} : SqT K H a xs → TDs K H xs ds → TD K H (.ref a) (.tuple ds)
inductive TDs (K : PySem.W.Frag) (H : Hp) : List V → List PyData → Prop
  | nil : TDs K H [] []
  | cons {v : V} {vs : List V} {d : PyData} {ds : List PyData} : TD K H v d → TDs K H vs ds → TDs K H (v :: vs) (d :: ds)
end
def oD : Option Int → PyData
  | none => .none
  | some z => .int z
def ovO : Option Int → V
  | none => .non
  | some z => .int z
def pD (p : Int × Int) : PyData := .tuple [.int p.1, .int p.2]
section
variable {K : PySem.W.Frag} {H H' : Hp}
theorem TD.tps (t : Tps H H') {v : V} {d : PyData} (h : TD K H v d) : TD K H' v d :=
  TD.rec (motive_1 := fun v d _ => TD K H' v d) (motive_2 := fun vs ds _ => TDs K H' vs ds) .non (fun b => .bl b) (fun i => .int i) (fun x => .str x) (fun h _ q => .tup (t.sq h) q) .nil (fun _ _ h1 h2 => .cons h1 h2) h
theorem TDs.tps (t : Tps H H') {vs : List V} {ds : List PyData} (h : TDs K H vs ds) : TDs K H' vs ds :=
  TDs.rec (motive_1 := fun v d _ => TD K H' v d) (motive_2 := fun vs ds _ => TDs K H' vs ds) .non (fun b => .bl b) (fun i => .int i) (fun x => .str x) (fun h _ q => .tup (t.sq h) q) .nil (fun _ _ h1 h2 => .cons h1 h2) h
theorem TD.dp {v : V} {d : PyData} (h : TD K H v d) : Dp K H v d :=
  TD.rec (motive_1 := fun v d _ => Dp K H v d) (motive_2 := fun vs ds _ => DpAll K H vs ds) .non (fun b => .bl b) (fun i => .int i) (fun x => .str x) (fun h _ q => .tup h q) .nil (fun _ _ h1 h2 => .cons h1 h2) h
theorem TDs.dp {vs : List V} {ds : List PyData} (h : TDs K H vs ds) : DpAll K H vs ds :=
  TDs.rec (motive_1 := fun v d _ => Dp K H v d) (motive_2 := fun vs ds _ => DpAll K H vs ds) .non (fun b => .bl b) (fun i => .int i) (fun x => .str x) (fun h _ q => .tup h q) .nil (fun _ _ h1 h2 => .cons h1 h2) h
theorem TD.same (s : Same H H') {v : V} {d : PyData} (h : TD K H v d) : TD K H' v d := h.tps (Tps.of s)
theorem TDs.same (s : Same H H') {vs : List V} {ds : List PyData} (h : TDs K H vs ds) : TDs K H' vs ds := h.tps (Tps.of s)
theorem TDs.len : ∀ {vs : List V} {ds : List PyData}, TDs K H vs ds → vs.length = ds.length
  | [], _, .nil => rfl
  | v :: vs, _, .cons h t => by rw [List.length_cons, List.length_cons, TDs.len t]
theorem TDs.get : ∀ {vs : List V} {ds : List PyData} {i : Nat} {d : PyData}, TDs K H vs ds → ds[i]? = some d → ∃ v, vs[i]? = some v ∧ TD K H v d
  | _, _, _, _, .nil, e => by simp at e
  | _, _, 0, _, .cons (v := v) h t, e => by
    cases e
    exact ⟨v, rfl, h⟩
  | _, _, i + 1, _, .cons h t, e => by
    obtain ⟨v, e2, q⟩ := TDs.get (i := i) t (by simpa using e)
    exact ⟨v, by simpa using e2, q⟩
theorem TDs.at {vs : List V} {ds : List PyData} {i : Nat} {v : V} (h : TDs K H vs ds) (e : vs[i]? = some v) : ∃ d, ds[i]? = some d ∧ TD K H v d ∧ ds.take (i + 1) = ds.take i ++ [d] ∧ i < ds.length := by
  have hi := (List.getElem?_eq_some_iff.mp e).1
  have hl := h.len
  have e2 : ds[i]? = some (ds[i]'(by omega)) := List.getElem?_eq_getElem (by omega)
  obtain ⟨v', e3, q⟩ := h.get e2
  rw [e] at e3
  cases e3
  exact ⟨_, e2, q, by rw [List.take_add_one, e2]; rfl, by omega⟩
theorem TDs.mem {vs : List V} {ds : List PyData} {v : V} (h : TDs K H vs ds) (hv : v ∈ vs) : ∃ d, d ∈ ds ∧ TD K H v d := by
  obtain ⟨i, hi⟩ := List.getElem?_of_mem hv
  obtain ⟨d, e, q, _⟩ := h.at hi
  exact ⟨d, List.mem_of_getElem? e, q⟩
theorem TDs.of : ∀ {vs : List V} {ds : List PyData}, vs.length = ds.length → (∀ (i : Nat) v d, vs[i]? = some v → ds[i]? = some d → TD K H v d) → TDs K H vs ds
  | [], [], _, _ => .nil
  | v :: vs, d :: ds, hl, h => .cons (h 0 v d rfl rfl) (TDs.of (by simpa using hl) fun i y e h1 h2 => h (i + 1) y e (by simpa using h1) (by simpa using h2))
theorem TDs.app : ∀ {vs us : List V} {ds es : List PyData}, TDs K H vs ds → TDs K H us es → TDs K H (vs ++ us) (ds ++ es)
  | _, _, _, _, .nil, h => h
  | _, _, _, _, .cons h t, q => .cons h (TDs.app t q)
theorem TDs.snoc {vs : List V} {ds : List PyData} {v : V} {d : PyData} (h : TDs K H vs ds) (q : TD K H v d) : TDs K H (vs ++ [v]) (ds ++ [d]) := h.app (.cons q .nil)
theorem TDs.map {α : Type} {f : α → V} {g : α → PyData} : ∀ {l : List α}, (∀ x ∈ l, TD K H (f x) (g x)) → TDs K H (l.map f) (l.map g)
  | [], _ => .nil
  | x :: r, h => .cons (h x List.mem_cons_self) (TDs.map fun y hy => h y (List.mem_cons_of_mem _ hy))
theorem TDs.ints (ns : List Int) : TDs K H (ns.map V.int) (ns.map PyData.int) := TDs.map fun x _ => .int x
theorem TD.ovO (o : Option Int) : TD K H (ovO o) (oD o) := by cases o <;> constructor
theorem TDs.ovs (os : List (Option Int)) : TDs K H (os.map Law.ovO) (os.map oD) := TDs.map fun x _ => TD.ovO x
theorem TD.tup_inv {v : V} {ds : List PyData} (h : TD K H v (.tuple ds)) : ∃ a xs, v = .ref a ∧ SqT K H a xs ∧ TDs K H xs ds := by
  cases h with
  | tup a b => exact ⟨_, _, rfl, a, b⟩
theorem TD.int_inv {v : V} {i : Int} (h : TD K H v (.int i)) : v = .int i := by cases h; rfl
theorem TD.non_inv {v : V} (h : TD K H v .none) : v = .non := by cases h; rfl
theorem TD.str_inv {v : V} {i : Str} (h : TD K H v (.str i)) : v = .str i := by cases h; rfl
theorem TD.bl_inv {v : V} {i : Bool} (h : TD K H v (.bool i)) : v = .bl i := by cases h; rfl
theorem TD.ov_inv {v : V} {o : Option Int} (h : TD K H v (oD o)) : v = Law.ovO o := by
  cases o with
  | none => exact h.non_inv
  | some z => exact h.int_inv
theorem TDs.ints_inv : ∀ {ns : List Int} {vs : List V}, TDs K H vs (ns.map PyData.int) → vs = ns.map V.int
  | [], _, h => by cases h; rfl
  | n :: ns, _, h => by
    cases h with
    | cons a b => rw [a.int_inv, TDs.ints_inv b]; rfl
theorem TDs.ovs_inv : ∀ {os : List (Option Int)} {vs : List V}, TDs K H vs (os.map oD) → vs = os.map Law.ovO
  | [], _, h => by cases h; rfl
  | n :: ns, _, h => by
    cases h with
    | cons a b => rw [a.ov_inv, TDs.ovs_inv b]; rfl
theorem TD.pair_inv {v : V} {p : Int × Int} (h : TD K H v (pD p)) : ∃ a, v = .ref a ∧ SqT K H a [.int p.1, .int p.2] := by
  obtain ⟨a, xs, e, s, q⟩ := h.tup_inv
  rw [TDs.ints_inv (ns := [p.1, p.2]) q] at s
  exact ⟨a, e, s⟩
theorem TD.of {a : Addr} {xs : List V} {ds : List PyData} (h : H a = some (.tup xs)) (q : TDs K H xs ds) : TD K H (.ref a) (.tuple ds) := .tup (SqT.of h) q
/-- a new tuple of data -/
theorem TD.new {a : Addr} {xs : List V} {ds : List PyData} (h : H a = none) (q : TDs K H xs ds) : TD K (upd H a (.tup xs)) (.ref a) (.tuple ds) := .of upd_same (q.same (same_new h))
/-- a list of data -/
def LD (K : PySem.W.Frag) (H : Hp) (a : Addr) (ds : List PyData) : Prop := ∃ vs, H a = some (.lst vs) ∧ TDs K H vs ds
theorem LD.same (s : Same H H') {a : Addr} {ds : List PyData} (h : LD K H a ds) : LD K H' a ds := by
  obtain ⟨vs, e, q⟩ := h
  exact ⟨vs, s _ _ e, q.same s⟩
theorem LD.kp {p a : Addr} {xs : List V} {ds : List PyData} (h : LD K H a ds) (k : Kp p H H') (hp : H p = some (.lst xs)) (n : a ≠ p) : LD K H' a ds := by
  obtain ⟨vs, e, q⟩ := h
  exact ⟨vs, k _ _ e n, q.tps (k.tps hp)⟩
theorem LD.put {a : Addr} {xs vs : List V} {ds : List PyData} (h : H a = some (.lst xs)) (q : TDs K H vs ds) : LD K (upd H a (.lst vs)) a ds := ⟨vs, upd_same, q.tps (tps_put h)⟩
theorem LD.new {a : Addr} {vs : List V} {ds : List PyData} (h : H a = none) (q : TDs K H vs ds) : LD K (upd H a (.lst vs)) a ds := ⟨vs, upd_same, q.same (same_new h)⟩
theorem LD.snoc {a : Addr} {vs : List V} {v : V} {d : PyData} {ds : List PyData} (h : H a = some (.lst vs)) (q : TDs K H vs ds) (x : TD K H v d) : LD K (upd H a (.lst (vs ++ [v]))) a (ds ++ [d]) := .put h (q.snoc x)
variable {σ : L2.St} {Q : VK}
theorem i_tyLD {p : Addr} {ds : List PyData} {R : Prop} (s : LD K H p ds) (q : R) : tyV K "list" (.ref p) H ∧ R := by
  obtain ⟨vs, e, _⟩ := s
  exact i_tyL (SqL.of e) q
theorem i_lenLD {p : Addr} {ds : List PyData} (s : LD K H p ds) (q : Q (.int ds.length) H) : qLen K [.ref p] H Q := by
  obtain ⟨vs, e, t⟩ := s
  rw [← t.len] at q
  exact i_lenL (SqL.of e) q
theorem i_ixD {p : V} {ds : List PyData} {i : Int} {d : PyData} (h : TD K H p (.tuple ds)) (h0 : 0 ≤ i) (e : ds[i.toNat]? = some d) (q : ∀ y, TD K H y d → Q y H) : rIxT K p (.int i) H Q := by
  obtain ⟨a, xs, rfl, s, t⟩ := h.tup_inv
  obtain ⟨y, ey, hy⟩ := t.get e
  refine ⟨a, xs, i, y, rfl, rfl, s, ?_, q y hy⟩
  have := atI_nat (xs := xs) (j := i.toNat) (v := y) ey
  rw [Int.toNat_of_nonneg h0] at this
  exact this
theorem i_ixDI {p : V} {ds : List PyData} {i j : Int} (h : TD K H p (.tuple ds)) (h0 : 0 ≤ i) (e : ds[i.toNat]? = some (.int j)) (q : Q (.int j) H) : rIxT K p (.int i) H Q :=
  i_ixD h h0 e fun y hy => by rw [hy.int_inv]; exact q
theorem i_ixDO {p : V} {ds : List PyData} {i : Int} {o : Option Int} (h : TD K H p (.tuple ds)) (h0 : 0 ≤ i) (e : ds[i.toNat]? = some (oD o)) (q : Q (ovO o) H) : rIxT K p (.int i) H Q :=
  i_ixD h h0 e fun y hy => by rw [hy.ov_inv]; exact q
theorem i_ixDS {p : V} {ds : List PyData} {i : Int} {j : Str} (h : TD K H p (.tuple ds)) (h0 : 0 ≤ i) (e : ds[i.toNat]? = some (.str j)) (q : Q (.str j) H) : rIxT K p (.int i) H Q :=
  i_ixD h h0 e fun y hy => by rw [hy.str_inv]; exact q
theorem i_lenDt {p : V} {ds : List PyData} (h : TD K H p (.tuple ds)) (q : Q (.int ds.length) H) : qLen K [p] H Q := by
  obtain ⟨a, xs, rfl, s, t⟩ := h.tup_inv
  rw [← t.len] at q
  exact i_lenT s q
theorem i_gTupD {n : Nat} {t : TGs} {v : V} {ds : List PyData} {R : L2.St → Hp → Prop} (h : TD K H v (.tuple ds)) (e : ds.length = n) (q : ∀ xs, TDs K H xs ds → t xs σ H R) : gTup K n t v σ H R := by
  obtain ⟨a, xs, rfl, s, u⟩ := h.tup_inv
  exact i_gTup s (by rw [u.len, e]) (q xs u)
theorem i_gPair {n : Nat} {t : TGs} {v : V} {p : Int × Int} {R : L2.St → Hp → Prop} (h : TD K H v (pD p)) (e : 2 = n) (q : t [.int p.1, .int p.2] σ H R) : gTup K n t v σ H R := by
  obtain ⟨a, rfl, s⟩ := h.pair_inv
  exact i_gTup s e q
theorem i_isTD {v : V} {ds : List PyData} {R : Addr → Prop} (h : TD K H v (.tuple ds)) (q : ∀ a xs, v = .ref a → SqT K H a xs → TDs K H xs ds → R a) : ∃ a', v = .ref a' ∧ (∃ xs, SqT K H a' xs) ∧ R a' := by
  obtain ⟨a, xs, e, s, t⟩ := h.tup_inv
  exact ⟨a, e, ⟨xs, s⟩, q a xs e s t⟩
theorem i_lstTD {v : V} {ds : List PyData} (h : TD K H v (.tuple ds)) (q : ∀ xs l, TDs K H xs ds → H l = none → Q (.ref l) (upd H l (.lst xs))) : rLstOf K [v] H Q := by
  obtain ⟨a, xs, rfl, s, t⟩ := h.tup_inv
  exact i_lstT s fun l hl => q xs l t hl
theorem i_tupTD {v : V} {ds : List PyData} (h : TD K H v (.tuple ds)) (q : Q v H) : rTupOf K [v] H Q := by
  obtain ⟨a, xs, rfl, s, t⟩ := h.tup_inv
  exact i_tupT s q
theorem TDs.pair_at {vs : List V} {ps : List (Int × Int)} {i : Nat} {v : V} (h : TDs K H vs (ps.map pD)) (e : vs[i]? = some v) : ∃ p, ps[i]? = some p ∧ TD K H v (pD p) ∧ ps.take (i + 1) = ps.take i ++ [p] ∧ i < ps.length := by
  obtain ⟨d, e1, t, _, hl⟩ := h.at e
  rw [List.getElem?_map] at e1
  cases e2 : ps[i]? with
  | none => rw [e2] at e1; cases e1
  | some p =>
    rw [e2] at e1
    cases e1
    exact ⟨p, rfl, t, by rw [List.take_add_one, e2]; rfl, (List.getElem?_eq_some_iff.mp e2).1⟩
theorem i_eqNI {j : Int} (q : Q (.bl false) H) : rEq .non (.int j) H Q := ⟨rfl, by
  have e : decide (V.non = V.int j) = false := by simp
  rw [e]; exact q⟩
/-! shapes -/
theorem Shp.str {x : Str} (h : PyData.canLay0 (.str x) = true) : Shp 0 (.str x) := ⟨h, by simp [PyData.depth]⟩
theorem Shp.oD (o : Option Int) : Shp 0 (oD o) := by
  cases o with
  | none => exact Shp.non
  | some z => exact Shp.int z
theorem Shp.ovs (os : List (Option Int)) : Shp 1 (.tuple (os.map Law.oD)) := Shp.tup fun d hd => by
  obtain ⟨x, _, rfl⟩ := List.mem_map.mp hd
  exact Shp.oD x
theorem Shp.pD (p : Int × Int) : Shp 1 (pD p) := Shp.tup fun d hd => by
  rcases List.mem_cons.mp hd with rfl | hd
  · exact Shp.int _
  · rcases List.mem_cons.mp hd with rfl | hd
    · exact Shp.int _
    · cases hd
theorem Shp.prs (ps : List (Int × Int)) : Shp 2 (.tuple (ps.map Law.pD)) := Shp.tup fun d hd => by
  obtain ⟨x, _, rfl⟩ := List.mem_map.mp hd
  exact Shp.pD x
/-! dicts with text keys -/
theorem i_disp {trs : List (TE × TE)} (h : ∀ p, H p = none → tPairs trs σ (upd H p (.dK [])) fun ps H2 => H2 p = some (.dK []) ∧ ∃ kvs : List (L2.Key × V), ps = kvs.map (fun kv => (kV kv.1, kv.2)) ∧ kvs.length ≤ 15 ∧ Q (.ref p) (upd H2 p (.dK (mergeK [] kvs)))) : tDisp trs σ H Q := h
theorem i_pNil {R : List (V × V) → Hp → Prop} (h : R [] H) : tPairs [] σ H R := h
theorem i_pCons {tk tv : TE} {r : List (TE × TE)} {R : List (V × V) → Hp → Prop} (h : tk σ H fun x H1 => tv σ H1 fun y H2 => tPairs r σ H2 fun ps H3 => R ((x, y) :: ps) H3) : tPairs ((tk, tv) :: r) σ H R := h
theorem i_dgetS {p : Addr} {i : Str} {v : V} {kvs : List (L2.Key × V)} {R : V → Prop} (h : Rd H p (.dK kvs)) (e : valV kvs (.inr i) = some v) (q : R v) : ∃ a v', V.ref p = .ref a ∧ DGet H a (.str i) (some v') ∧ R v' :=
  ⟨p, v, rfl, .inl ⟨kvs, .inr i, h, rfl, e.symm⟩, q⟩
end
/- data at the heap of the goal -/
local macro_rules | `(tactic| wtm_at "jtd") => `(tactic| first | assumption | ((with_reducible refine' TD.same (same_new ?hn) ?hh); (case hn => assumption); (case hh => wtm_at "jtd")))
local macro_rules | `(tactic| wtm_at "jw1") => `(tactic| first
  | ((with_reducible refine' i_ixDI ?h ?h0 ?e ?_); (case h => wtm_at "jtd"); (case h0 => wtm_at "jside"); (case e => wtm_at "jat"))
  | ((with_reducible refine' i_ixDO ?h ?h0 ?e ?_); (case h => wtm_at "jtd"); (case h0 => wtm_at "jside"); (case e => wtm_at "jat"))
  | ((with_reducible refine' i_ixDS ?h ?h0 ?e ?_); (case h => wtm_at "jtd"); (case h0 => wtm_at "jside"); (case e => wtm_at "jat"))
  | ((with_reducible refine' i_ix2 (i_ixDI ?h ?h0 ?e ?_)); (case h => wtm_at "jtd"); (case h0 => wtm_at "jside"); (case e => wtm_at "jat"))
  | ((with_reducible refine' i_ix2 (i_ixDO ?h ?h0 ?e ?_)); (case h => wtm_at "jtd"); (case h0 => wtm_at "jside"); (case e => wtm_at "jat"))
  | ((with_reducible refine' i_ixD ?h ?h0 ?e ?_); (case h => wtm_at "jtd"); (case h0 => wtm_at "jside"); (case e => wtm_at "jat"); intro _ _)
  | ((with_reducible refine' i_ix2 (i_ixD ?h ?h0 ?e ?_)); (case h => wtm_at "jtd"); (case h0 => wtm_at "jside"); (case e => wtm_at "jat"); intro _ _)
  | ((with_reducible refine' i_lenDt ?h ?_); (case h => wtm_at "jtd"))
  | with_reducible refine' i_eqNI ?_
  | ((with_reducible refine' i_tyLD ?h ?_); (case h => assumption))
  | ((with_reducible refine' i_lenLD ?h ?_); (case h => assumption))
  | ((with_reducible refine' i_gPair ?h ?e ?_); (case h => wtm_at "jtd"); (case e => rfl))
  | with_reducible refine' i_pNil ?_ | with_reducible refine' i_pCons ?_)

/-! ### draws and picks, said shortly -/
section
variable {K : PySem.W.Frag} {p a B : Addr} {H0 H : Hp} {Q : VK} {E : XK}
theorem drawL {m : Int} (w : Drew p a H0 H) (h0 : 0 < m) (h1 : m < 18446744073709551616) (q : ∀ z H', 0 ≤ z → z < m → Drew p a H H' → Drew p a H0 H' → Q (.int z) H') : sp__law_draw K [.ref p, .int m] H Q E :=
  ⟨p, a, m, rfl, w.at_, h0, h1, fun z H' z0 z1 e => q z H' z0 z1 e (w.trans e)⟩
theorem pickL {xs : List V} (P : Int → Prop) (ns : List Int) (w : Drew p a H0 H) (hB : H B = none) (e : xs = ns.map V.int) (h0 : 0 < ns.length) (h1 : ns.length < 1000) (hP : ∀ z ∈ ns, P z)
    (q : ∀ z H', P z → Drew p a H H' → Drew p a H0 H' → Q (.int z) H') : sp__law_pick K [.ref p, .ref B] (upd H B (.lst xs)) Q E := by
  subst e
  refine ⟨p, a, B, ns.map V.int, rfl, w.at_.same (same_new hB), .inl ⟨w.at_.ne_none hB, SqL.of upd_same⟩, by rw [List.length_map]; exact h0, by rw [List.length_map]; omega, fun x H' hx e => ?_⟩
  obtain ⟨z, hz, rfl⟩ := List.mem_map.mp hx
  have e1 := (w.at_.drew.new (o := .lst (ns.map V.int)) hB).trans e
  exact q z H' (hP z hz) e1 (w.trans e1)
theorem pickV {xs : List V} (w : Drew p a H0 H) (hB : H B = none) (h0 : 0 < xs.length) (h1 : xs.length < 1000) (q : ∀ x H', x ∈ xs → Drew p a H H' → Drew p a H0 H' → Q x H') : sp__law_pick K [.ref p, .ref B] (upd H B (.lst xs)) Q E := by
  refine ⟨p, a, B, xs, rfl, w.at_.same (same_new hB), .inl ⟨w.at_.ne_none hB, SqL.of upd_same⟩, h0, by omega, fun x H' hx e => ?_⟩
  have e1 := (w.at_.drew.new (o := .lst xs) hB).trans e
  exact q x H' hx e1 (w.trans e1)
/-- a pick out of a list that stands -/
theorem pickS {xs : List V} (w : Drew p a H0 H) (hB : H B = some (.lst xs)) (n : B ≠ p) (h0 : 0 < xs.length) (h1 : xs.length < 1000000) (q : ∀ x H', x ∈ xs → Drew p a H H' → Drew p a H0 H' → Q x H') : sp__law_pick K [.ref p, .ref B] H Q E :=
  ⟨p, a, B, xs, rfl, w.at_, .inl ⟨n, SqL.of hB⟩, h0, by omega, fun x H' hx e => q x H' hx e (w.trans e)⟩
theorem pickT {xs : List V} (w : Drew p a H0 H) (hB : SqT K H B xs) (h0 : 0 < xs.length) (h1 : xs.length < 1000000) (q : ∀ x H', x ∈ xs → Drew p a H H' → Drew p a H0 H' → Q x H') : sp__law_pick K [.ref p, .ref B] H Q E :=
  ⟨p, a, B, xs, rfl, w.at_, .inr hB, h0, by omega, fun x H' hx e => q x H' hx e (w.trans e)⟩
end
theorem LD.drew {K : PySem.W.Frag} {p a f : Addr} {H H' : Hp} {ds : List PyData} (h : LD K H f ds) (d : DrawAt H p a) (e : Drew p a H H') (n : f ≠ p) : LD K H' f ds := by
  obtain ⟨xs, hp⟩ := d.some
  exact h.kp e.kp hp n
theorem LPr.drew {p a f : Addr} {H H' : Hp} {fo : List (Int × Int)} (h : LPr H f fo) (d : DrawAt H p a) (e : Drew p a H H') (n : f ≠ p) : LPr H' f fo := by
  obtain ⟨xs, hp⟩ := d.some
  exact h.kp e.kp hp n
/-- a pure choice of two -/
theorem i_ifP {σ : L2.St} {H : Hp} {Q : VK} {c : TT} {ta tb : TE} (P : V → Prop) (hc : ∀ R : Bool → Hp → Prop, (∀ b, R b H) → c σ H R) (ha : ∀ R : VK, (∀ v, P v → R v H) → ta σ H R) (hb : ∀ R : VK, (∀ v, P v → R v H) → tb σ H R) (q : ∀ v, P v → Q v H) : tIf c ta tb σ H Q :=
  hc _ fun b => by
    cases b
    · exact hb _ q
    · exact ha _ q
theorem all_two {P : Int → Prop} {x y : Int} (h1 : P x) (h2 : P y) : ∀ z ∈ [x, y], P z := by simp; exact ⟨h1, h2⟩

theorem inV_ints (z : Int) (ns : List Int) : inV (.int z) (ns.map V.int) = decide (z ∈ ns) := by
  unfold inV
  rw [List.any_map, Bool.eq_iff_iff, List.any_eq_true, decide_eq_true_eq]
  constructor
  · rintro ⟨y, hy, e⟩
    have : y = z := by simpa [eqV] using e
    exact this ▸ hy
  · intro h
    exact ⟨z, h, by simp [eqV]⟩
theorem flat_ints (ns : List Int) : (ns.map V.int).all flatV = true := by
  rw [List.all_map, List.all_eq_true]
  intro x _
  rfl
section
variable {K : PySem.W.Frag} {H : Hp} {Q : VK} {p : Addr} {z : Int} {ns : List Int}
theorem i_inT (h : SqT K H p (ns.map V.int)) (q : Q (.bl (decide (z ∈ ns))) H) : rIn K false (.int z) (.ref p) H Q := ⟨p, _, rfl, .inr h, rfl, flat_ints ns, by rw [inV_ints]; exact q⟩
theorem i_inL (h : SqL K H p (ns.map V.int)) (q : Q (.bl (decide (z ∈ ns))) H) : rIn K false (.int z) (.ref p) H Q := ⟨p, _, rfl, .inl h, rfl, flat_ints ns, by rw [inV_ints]; exact q⟩
theorem i_ninT (h : SqT K H p (ns.map V.int)) (q : Q (.bl (!decide (z ∈ ns))) H) : rIn K true (.int z) (.ref p) H Q := ⟨p, _, rfl, .inr h, rfl, flat_ints ns, by rw [inV_ints]; exact q⟩
theorem i_ninL (h : SqL K H p (ns.map V.int)) (q : Q (.bl (!decide (z ∈ ns))) H) : rIn K true (.int z) (.ref p) H Q := ⟨p, _, rfl, .inl h, rfl, flat_ints ns, by rw [inV_ints]; exact q⟩
end

/-! ### what is due -/
/-- the word heard at a tick -/
def lkI : List (Int × Int) → Int → Option Int
  | [], _ => none
  | e :: r, i => if e.1 = i then some e.2 else lkI r i
theorem lkI_mem : ∀ {l : List (Int × Int)} {i z : Int}, lkI l i = some z → (i, z) ∈ l
  | [], i, z, h => by cases h
  | e :: r, i, z, h => by
    rw [lkI] at h
    by_cases hh : e.1 = i
    · rw [if_pos hh] at h
      have : e = (i, z) := by rw [← hh, ← Option.some.inj h]
      rw [this]
      exact List.mem_cons_self
    · rw [if_neg hh] at h
      exact List.mem_cons_of_mem _ (lkI_mem h)
theorem lkI_of : ∀ {l : List (Int × Int)} {i z : Int}, (l.map (·.1)).Nodup → (i, z) ∈ l → lkI l i = some z
  | [], i, z, _, h => by cases h
  | e :: r, i, z, nd, h => by
    rw [List.map_cons, List.nodup_cons] at nd
    rw [lkI]
    rcases List.mem_cons.mp h with rfl | h
    · rw [if_pos rfl]
    · rw [if_neg (fun x => nd.1 (by rw [x]; exact List.mem_map.mpr ⟨(i, z), h, rfl⟩))]
      exact lkI_of nd.2 h
theorem lkI_none {l : List (Int × Int)} {i : Int} (h : i ∉ l.map (·.1)) : lkI l i = none := by
  cases e : lkI l i with
  | none => rfl
  | some z => exact absurd (List.mem_map.mpr ⟨_, lkI_mem e, rfl⟩) h
def stp (t : Int) (s p : Int × Int) : Int × Int := if s.1 < p.1 ∧ p.1 < t then p else s
def Sv (t : Int) (R : List (Int × Int)) (s : Int × Int) : Prop := (s = (-1, 0) ∧ ∀ p ∈ R, ¬ p.1 < t) ∨ (s ∈ R ∧ s.1 < t ∧ ∀ p ∈ R, p.1 < t → p.1 ≤ s.1)
theorem stp_inv (t : Int) : ∀ (l R : List (Int × Int)) (s : Int × Int), (∀ p ∈ l, 0 ≤ p.1) → Sv t R s → Sv t (R ++ l) (l.foldl (stp t) s)
  | [], R, s, _, h => by rw [List.append_nil]; exact h
  | p :: l, R, s, h0, h => by
    have hp := h0 p List.mem_cons_self
    rw [List.foldl_cons, List.append_cons]
    refine stp_inv t l (R ++ [p]) _ (fun q hq => h0 q (List.mem_cons_of_mem _ hq)) ?_
    have mem : ∀ q, q ∈ R ++ [p] ↔ q ∈ R ∨ q = p := fun q => by rw [List.mem_append, List.mem_singleton]
    unfold stp
    rcases h with ⟨rfl, h⟩ | ⟨h1, h2, h3⟩
    · by_cases c : (-1 : Int) < p.1 ∧ p.1 < t
      · rw [if_pos c]
        refine .inr ⟨(mem p).mpr (.inr rfl), c.2, fun q hq ht => ?_⟩
        rcases (mem q).mp hq with hq | rfl
        · exact absurd ht (h q hq)
        · exact Int.le_refl _
      · rw [if_neg c]
        refine .inl ⟨rfl, fun q hq => ?_⟩
        rcases (mem q).mp hq with hq | rfl
        · exact h q hq
        · omega
    · by_cases c : s.1 < p.1 ∧ p.1 < t
      · rw [if_pos c]
        refine .inr ⟨(mem p).mpr (.inr rfl), c.2, fun q hq ht => ?_⟩
        rcases (mem q).mp hq with hq | rfl
        · have := h3 q hq ht; omega
        · exact Int.le_refl _
      · rw [if_neg c]
        refine .inr ⟨(mem s).mpr (.inl h1), h2, fun q hq ht => ?_⟩
        rcases (mem q).mp hq with hq | rfl
        · exact h3 q hq ht
        · omega
theorem lastO_none {m : Int → Option Int} : ∀ {t : Nat}, (∀ i : Int, 0 ≤ i → i < t → m i = none) → lastO m t = none
  | 0, _ => rfl
  | t + 1, h => by
    rw [lastO, if_neg (by rw [h t (by omega) (by omega)]; exact Bool.false_ne_true)]
    exact lastO_none fun i h0 h1 => h i h0 (by omega)
theorem lastO_is {m : Int → Option Int} {l : Int} (l0 : 0 ≤ l) (hs : (m l).isSome = true) : ∀ {t : Nat}, l < t → (∀ i : Int, l < i → i < t → m i = none) → lastO m t = some l
  | 0, h, _ => by omega
  | t + 1, h, hn => by
    rw [lastO]
    by_cases e : l = t
    · subst e
      rw [if_pos hs]
    · rw [if_neg (by rw [hn t (by omega) (by omega)]; exact Bool.false_ne_true)]
      exact lastO_is l0 hs (by omega) fun i h0 h1 => hn i h0 (by omega)
theorem due_gs {rows : List (Int × Int)} {ts : List Int} {t : Nat} (nd : (rows.map (·.1)).Nodup) (h0 : ∀ p ∈ rows, 0 ≤ p.1) :
    ts[((rows.foldl (stp t) (-1, 0)).2 % (ts.length : Int)).toNat]?.getD 0 = gs ts (lkI rows) t := by
  have I := stp_inv t rows [] (-1, 0) h0 (.inl ⟨rfl, fun _ h => by cases h⟩)
  rw [List.nil_append] at I
  generalize rows.foldl (stp t) (-1, 0) = s at I ⊢
  unfold gs
  rcases I with ⟨rfl, h⟩ | ⟨h1, h2, h3⟩
  · rw [lastO_none fun i i0 i1 => lkI_none fun hm => ?_]
    · show ts[((0 : Int) % (ts.length : Int)).toNat]?.getD 0 = ts[0]?.getD 0
      rw [Int.zero_emod]
      rfl
    · obtain ⟨p, hp, rfl⟩ := List.mem_map.mp hm
      exact h p hp i1
  · have e : lkI rows s.1 = some s.2 := lkI_of nd h1
    rw [lastO_is (l := s.1) (h0 s h1) (by rw [e]; rfl) h2 fun i i0 i1 => lkI_none fun hm => ?_]
    · show _ = ts[((lkI rows s.1).getD 0 % (ts.length : Int)).toNat]?.getD 0
      rw [e]
      rfl
    · obtain ⟨p, hp, rfl⟩ := List.mem_map.mp hm
      have := h3 p hp i1
      omega
theorem lkI_snoc : ∀ {l : List (Int × Int)} {p : Int × Int} {i : Int}, p.1 ∉ l.map (·.1) → lkI (l ++ [p]) i = if i = p.1 then some p.2 else lkI l i
  | [], p, i, _ => by
    show (if p.1 = i then some p.2 else none) = if i = p.1 then some p.2 else none
    by_cases h : p.1 = i
    · rw [if_pos h, if_pos h.symm]
    · rw [if_neg h, if_neg fun z => h z.symm]
  | e :: r, p, i, h => by
    rw [List.map_cons, List.mem_cons, not_or] at h
    show (if e.1 = i then some e.2 else lkI (r ++ [p]) i) = if i = p.1 then some p.2 else (if e.1 = i then some e.2 else lkI r i)
    rw [lkI_snoc h.2]
    by_cases c : e.1 = i
    · rw [if_pos c, if_pos c, if_neg fun z => h.1 (z.symm.trans c.symm)]
    · rw [if_neg c, if_neg c]

theorem i_lr1 {ta : TE} {σ : L2.St} {H : Hp} {Q : VK} (h : ta σ H fun x H1 => ∃ n, x = .int n ∧ RgOk 0 n ∧ ∀ q, H1 q = none → Q (.ref q) (upd H1 q (.lst (rgV 0 n)))) : tLstRg (tRg1 ta) σ H Q := h
theorem rgV_ints (t : Int) : ∃ ns : List Int, rgV 0 t = ns.map V.int ∧ ns.length = t.toNat ∧ ns.Nodup ∧ ∀ z ∈ ns, 0 ≤ z ∧ z < t := by
  refine ⟨(List.range t.toNat).map fun i => ((i : Nat) : Int), ?_, by rw [List.length_map, List.length_range], ?_, fun z hz => ?_⟩
  · unfold rgV
    rw [List.map_map, Int.sub_zero]
    apply List.map_congr_left
    intro i _
    show V.int (0 + (i : Int)) = V.int (i : Int)
    rw [Int.zero_add]
  · refine List.Pairwise.map _ (fun x y h e => h ?_) List.nodup_range
    exact Int.ofNat.inj e
  · obtain ⟨i, hi, rfl⟩ := List.mem_map.mp hz
    have := List.mem_range.mp hi
    omega
def sp__law_guess (K : PySem.W.Frag) : Sp := fun vs H Q _ => ∃ (p a : Addr) (m : Int), vs = [.ref p, .int m] ∧ DrawAt H p a ∧ 0 < m ∧ m ≤ 4 ∧ ∀ (r : Addr) (ns : List Int) (H' : Hp), Drew p a H H' → H' r = some (.tup (ns.map V.int)) → ns.length = m.toNat → Q (.ref r) H'
theorem ok__law_guess {P : Program} {w : World} {K : PySem.W.Frag} {mg : Str → Option Value} {base : Heap} {f : Addr} {fd : FuncData} (F : Df K mg "_law_guess" s__law_guess f fd ["d", "many"]) (T : Txt mg)
    (c__law_draw : Cl P w K mg base 1 "_law_draw" (sp__law_draw K)) : FnOk P w K mg base CX0 2 f fd ["d", "many"] (sp__law_guess K) := by
  refine F.ok sc__law_guess (fun vs H Q E h => ?_) (fun cdv A outer s H vs Q E hr h => ?_)
  · obtain ⟨p, a, m, rfl, _⟩ := h
    rfl
  · obtain ⟨p, a, m, rfl, d0, m0, m1, q⟩ := h
    refine ⟨_, (pss_cons (ps_set (i := 2) sc__law_guess.nd rfl (Or.inl rfl) (pe_cl c__law_draw hr (by decide) rfl (pa_cons (pv 0) (pa_cons pe_int pa_nil))))
      (pss_cons (ps_if (pt_cmpR op_eq (pv 2) pe_int (nomark _)) (pss_one (ps_ret (pe_callTy (T := "tuple") (r := rTupOf K) c_tup (by rfl) T.b_tuple (by decide +kernel) (pa_cons (pe_listRg rfl (by rfl) T.b_list (prg_1 (by rfl) T.b_range (pv 1))) pa_nil)))) pss_nil)
      (pss_cons (ps_if (pt_cmpR op_eq (pv 2) pe_int (nomark _)) (pss_one (ps_ret (pe_callTy (T := "tuple") (r := rTupOf K) c_tup (by rfl) T.b_tuple (by decide +kernel) (pa_cons (pe_lc (own := [("key", 3)]) (g := gName 3) (tt := tYes) rfl sc__law_guess.nd (pi_range1 rfl T.b_range (pa_cons (pv 1) pa_nil)) (blkOk_by (own := [("key", 3)]) (N := N__law_guess) (sc := defScope s__law_guess) (by decide +kernel)) (fun _ _ _ _ _ => (pg_name (i := 3) sc__law_guess.nd rfl (Or.inl rfl))) (fun _ _ _ _ _ => pts_nil) (fun _ _ _ _ _ => pe_int)) pa_nil)))) pss_nil)
      (pss_one (ps_ret (pe_callTy (T := "tuple") (r := rTupOf K) c_tup (by rfl) T.b_tuple (by decide +kernel) (pa_cons (pe_lc (own := [("key", 3)]) (g := gName 3) (tt := tYes) rfl sc__law_guess.nd (pi_range1 rfl T.b_range (pa_cons (pv 1) pa_nil)) (blkOk_by (own := [("key", 3)]) (N := N__law_guess) (sc := defScope s__law_guess) (by decide +kernel)) (fun _ _ _ _ _ => (pg_name (i := 3) sc__law_guess.nd rfl (Or.inl rfl))) (fun _ _ _ _ _ => pts_nil) (fun _ _ _ _ _ => (pe_cl c__law_draw hr (by decide) rfl (pa_cons (pv 0) (pa_cons (pv 1) pa_nil))))) pa_nil))))))), ?_⟩
    try dsimp only [cxOf, Cx.nox, Cx.wish]
    refine st_of (σ' := [some _, some _, none, none]) rfl ?_
    wtm_at "jw"
    refine drawL d0.drew (by decide) (by decide) fun way H1 y0 y1 _ w1 => ?_
    wtm_at "jw"
    refine c_dec (fun h => ?_) (fun h => ?_)
    · wtm_at "jw"
      refine i_lr1 ?_
      wtm_at "jw"
      obtain ⟨ns, e, hl, _, _⟩ := rgV_ints m
      rw [e]
      refine ⟨RgOk.of_le (by omega) (by omega) (by decide) (by omega), fun R hR => ?_⟩
      have w2 := w1.new (o := .lst (ns.map V.int)) hR
      have hR2 := upd_same (H := H1) (a := R) (o := .lst (ns.map V.int))
      generalize upd H1 R (.lst (ns.map V.int)) = H2 at w2 hR2 ⊢
      wtm_at "jw"
      intro r hr'
      exact q r ns _ (w2.new hr') upd_same hl
    · wtm_at "jw"
      refine c_dec (fun h2 => ?_) (fun h2 => ?_)
      · wtm_at "jw"
        intro D hD
        refine l_rangeP (fun _ => V.int 0) hD (by omega) (fun i H' R hi s hR => ?_) (fun H' s hD' => ?_)
        · wtm_at "jw"
          exact ⟨rfl, hR⟩
        · have w2 := w1.same s
          wtm_at "jw"
          intro r hr'
          refine q r ((List.range m.toNat).map fun _ => (0 : Int)) _ (w2.new hr') ?_ (by rw [List.length_map, List.length_range])
          rw [upd_same, List.map_map]
          rfl
      · wtm_at "jw"
        intro D hD
        have nD : D ≠ p := w1.at_.ne_none hD
        refine l_range (fun i H' => Drew p a H H' ∧ ∃ ns : List Int, ns.length = i ∧ H' D = some (.lst (ns.map V.int))) ⟨w1.new hD, [], rfl, upd_same⟩ (fun i H' hi h => ?_) (fun H' h => ?_)
        · obtain ⟨w2, ns, hn, hD'⟩ := h
          wtm_at "jw"
          refine ⟨rfl, ?_⟩
          wtm_at "jw"
          refine drawL w2 (by omega) (by omega) fun z H3 _ _ e w3 => ?_
          have hD3 := e.kp _ _ hD' nD
          exact ⟨_, hD3, small1000 (by rw [List.length_map]; omega), w3.put d0 (w1.free hD), ns ++ [z], by simp [hn], by rw [upd_same, List.map_append]; rfl⟩
        · obtain ⟨w2, ns, hn, hD'⟩ := h
          wtm_at "jw"
          intro r hr'
          exact q r ns _ (w2.new hr') upd_same hn
theorem cut_take {xs : List V} {k : Int} (h0 : 0 ≤ k) (h : k ≤ xs.length) : cutV xs none (some k) = xs.take k.toNat := by
  have e : k = ((k.toNat : Nat) : Int) := by omega
  unfold cutV
  rw [e, HT.sIx_nat, HT.sIx_none, List.drop_zero, Nat.min_eq_left (by omega), Nat.sub_zero, ← e]
theorem TDs.take {K : PySem.W.Frag} {H : Hp} : ∀ {vs : List V} {ds : List PyData} (n : Nat), TDs K H vs ds → TDs K H (vs.take n) (ds.take n)
  | _, _, 0, _ => .nil
  | _, _, n + 1, .nil => .nil
  | _, _, n + 1, .cons h t => .cons h (TDs.take n t)
theorem TDs.reverse {K : PySem.W.Frag} {H : Hp} : ∀ {vs : List V} {ds : List PyData}, TDs K H vs ds → TDs K H vs.reverse ds.reverse
  | _, _, .nil => .nil
  | _, _, .cons h t => by rw [List.reverse_cons, List.reverse_cons]; exact (TDs.reverse t).snoc h
theorem pD_int {p : Int × Int} : pD p = .tuple [.int p.1, .int p.2] := rfl
def unI : V → Int
  | .int z => z
  | _ => 0
theorem unI_perm {ys : List V} {ns : List Int} (pm : ys.Perm (ns.map V.int)) : ∃ zs : List Int, ys = zs.map V.int ∧ zs.Perm ns := by
  refine ⟨ys.map unI, ?_, ?_⟩
  · rw [List.map_map]
    refine (List.map_id' ys).symm.trans (List.map_congr_left fun y hy => ?_)
    obtain ⟨z, _, rfl⟩ := List.mem_map.mp (pm.mem_iff.mp hy)
    rfl
  · have h := pm.map unI
    rw [List.map_map] at h
    have e : ns.map (unI ∘ V.int) = ns := (List.map_congr_left fun y _ => rfl).trans (List.map_id' ns)
    rw [e] at h
    exact h
def sp__law_words_heard (K : PySem.W.Frag) : Sp := fun vs H Q _ => ∃ (p a : Addr) (t m : Int), vs = [.ref p, .int t, .int m] ∧ DrawAt H p a ∧ 0 ≤ t ∧ t ≤ 24 ∧ 0 < m ∧ m ≤ 4 ∧ ∀ (v : V) (rows : List (Int × Int)) (H' : Hp), Drew p a H H' → TD K H' v (.tuple (rows.map pD)) → (rows.map (·.1)).Nodup → (∀ x ∈ rows, 0 ≤ x.1 ∧ x.1 < t) → rows.length ≤ t.toNat → Q v H'
theorem ok__law_words_heard {P : Program} {w : World} {K : PySem.W.Frag} {mg : Str → Option Value} {base : Heap} {f : Addr} {fd : FuncData} (F : Df K mg "_law_words_heard" s__law_words_heard f fd ["d", "ticks", "many"]) (T : Txt mg)
    (c__law_shuffled : Cl P w K mg base 2 "_law_shuffled" (sp__law_shuffled K))
    (c__law_draw : Cl P w K mg base 1 "_law_draw" (sp__law_draw K)) : FnOk P w K mg base CX0 3 f fd ["d", "ticks", "many"] (sp__law_words_heard K) := by
  refine F.ok sc__law_words_heard (fun vs H Q E h => ?_) (fun cdv A outer s H vs Q E hr h => ?_)
  · obtain ⟨p, a, t, m, rfl, _⟩ := h
    rfl
  · obtain ⟨p, a, t, m, rfl, d0, t0, t1, m0, m1, q⟩ := h
    refine ⟨_, (pss_cons (ps_set (i := 3) sc__law_words_heard.nd rfl (Or.inl rfl) (pe_lst pa_nil))
      (pss_cons (ps_for PassesOwn.never rfl (pi_list (pe_cl c__law_shuffled hr (by decide) rfl (pa_cons (pv 0) (pa_cons (pe_listRg rfl (by rfl) T.b_list (prg_1 (by rfl) T.b_range (pv 1))) pa_nil)))) (pg_name (i := 4) sc__law_words_heard.nd rfl (Or.inl rfl)) (pss_cons (ps_set (i := 5) sc__law_words_heard.nd rfl (Or.inl rfl) (pe_cl c__law_draw hr (by decide) rfl (pa_cons (pv 0) (pa_cons (pe_op op_mul pe_int (pv 2)) pa_nil))))
      (pss_cons (ps_if (pt_cmpR op_eq (pe_cl c__law_draw hr (by decide) rfl (pa_cons (pv 0) (pa_cons pe_int pa_nil))) pe_int (nomark _)) (pss_one (ps_set (i := 5) sc__law_words_heard.nd rfl (Or.inl rfl) pe_int)) pss_nil)
      (pss_one (ps_expr (pe_bmK (K := K) rfl PySem.F.plainAttrs_list PySem.F.slot_list_append PySem.F.type_list_append mt_append (pv 3) (pa_cons (pe_tup (pa_cons (pv 4) (pa_cons (pv 5) pa_nil))) pa_nil)))))))
      (pss_one (ps_ret (pe_callTy (T := "tuple") (r := rTupOf K) c_tup (by rfl) T.b_tuple (by decide +kernel) (pa_cons (pe_slice (r := rSlL K) sl_list (pv 3) po_none (po_some (pe_cl c__law_draw hr (by decide) rfl (pa_cons (pv 0) (pa_cons (pe_op op_add (pv 1) pe_int) pa_nil))))) pa_nil)))))), ?_⟩
    try dsimp only [cxOf, Cx.nox, Cx.wish]
    refine st_of (σ' := [some _, some _, some _, none, none, none]) rfl ?_
    wtm_at "jw"
    intro D hD
    have w0 : Drew p a H (upd H D (.lst [])) := d0.drew.new hD
    have nD : D ≠ p := d0.ne_none hD
    have hD0 := upd_same (H := H) (a := D) (o := .lst [])
    generalize upd H D (.lst []) = H1 at w0 hD0 ⊢
    wtm_at "jw"
    refine i_lr1 ?_
    wtm_at "jw"
    obtain ⟨ns, en, hl, nd, hb⟩ := rgV_ints t
    rw [en]
    refine ⟨RgOk.of_le (by omega) (by omega) (by decide) (by omega), fun R hR => ?_⟩
    have w2 := w0.new (o := .lst (ns.map V.int)) hR
    have hR2 := upd_same (H := H1) (a := R) (o := .lst (ns.map V.int))
    have hD2 := same_new (o := .lst (ns.map V.int)) hR _ _ hD0
    generalize upd H1 R (.lst (ns.map V.int)) = H2 at w2 hR2 hD2 ⊢
    refine ⟨p, a, R, _, rfl, w2.at_, .inl (SqL.of hR2), by rw [List.length_map]; omega, fun S ys H3 e3 nS hS pm => ?_⟩
    have w3 := w2.trans e3
    have hD3 := e3.kp _ _ hD2 nD
    have nSD : S ≠ D := (ne_of_none hD2 nS).symm
    have nSp : S ≠ p := w2.at_.ne_none nS
    obtain ⟨zs, rfl, pz⟩ : ∃ zs : List Int, ys = zs.map V.int ∧ zs.Perm ns := unI_perm pm
    have lz := pz.length_eq
    wtm_at "jw"
    refine f_list (xs := zs.map V.int) (fun i σ H' => Drew p a H H' ∧ H' S = some (.lst (zs.map V.int)) ∧ ∃ (rows : List (Int × Int)) (v1 v2 : Option V), LD K H' D (rows.map pD) ∧ rows.map (·.1) = zs.take i ∧ σ = [some (.ref p), some (.int t), some (.int m), some (.ref D), v1, v2]) ⟨w3, hS, [], none, none, ⟨[], hD3, .nil⟩, rfl, rfl⟩ (fun i σ H' _ h => SqL.of h.2.1) (fun i x σ H' hi h => ?_) (fun σ H' h => ?_)
    · obtain ⟨w4, hS4, rows, v1, v2, hL, hrw, rfl⟩ := h
      obtain ⟨z, hz, rfl⟩ : ∃ z, zs[i]? = some z ∧ x = .int z := by
        rw [List.getElem?_map] at hi
        cases e : zs[i]? with
        | none => rw [e] at hi; cases hi
        | some z => rw [e] at hi; exact ⟨z, rfl, (Option.some.inj hi).symm⟩
      have hil := (List.getElem?_eq_some_iff.mp hz).1
      wtm_at "jw"
      refine drawL w4 (by omega) (by omega) fun wd H5 _ _ e w5 => ?_
      have hL5 := hL.drew w4.at_ e nD
      have hS5 := e.kp _ _ hS4 nSp
      wtm_at "js"
      refine i_ifC (fun σ' H' => Drew p a H H' ∧ H' S = some (.lst (zs.map V.int)) ∧ LD K H' D (rows.map pD) ∧ ∃ w : Int, σ' = [some (.ref p), some (.int t), some (.int m), some (.ref D), some (.int z), some (.int w)]) (fun σ' H' h => ?_) (fun N hN => ?_)
      · obtain ⟨w6, hS6, hL6, w, rfl⟩ := h
        obtain ⟨us, hus, tus⟩ := hL6
        have hul := tus.len
        have hrl : rows.length = i := by
          have := congrArg List.length hrw
          rw [List.length_map, List.length_take] at this
          omega
        rw [List.length_map] at hul
        wtm_at "jw"
        intro T hT
        have s7 := same_new (o := .tup [.int z, .int w]) hT
        have w7 := w6.same s7
        have hS7 := s7 _ _ hS6
        have hus7 := s7 _ _ hus
        have tus7 := tus.same s7
        have t7 : TD K (upd H' T (.tup [.int z, .int w])) (.ref T) (pD (z, w)) := TD.new hT (.cons (.int _) (.cons (.int _) .nil))
        generalize upd H' T (.tup [.int z, .int w]) = H7 at w7 hS7 hus7 tus7 t7 ⊢
        have hsz : us.length < sizeLine := small1000 (by omega)
        wtm_at "jw"
        refine ⟨w7.put d0 hD, by rw [upd_ne nSD]; exact hS7, rows ++ [(z, w)], _, _, by rw [List.map_append]; exact LD.snoc hus7 tus7 t7, ?_, rfl⟩
        rw [List.map_append, hrw, List.take_add_one, hz]
        rfl
      · wtm_at "jw"
        refine drawL w5 (by decide) (by decide) fun z2 H6 _ _ e w6 => ?_
        have hL6 := hL5.drew w5.at_ e nD
        have hS6 := e.kp _ _ hS5 nSp
        wtm_at "jw"
        refine c_dec (fun h => ?_) (fun h => ?_)
        · wtm_at "jw"
          exact hN _ _ ⟨w6, hS6, hL6, _, rfl⟩
        · wtm_at "jw"
          exact hN _ _ ⟨w6, hS6, hL6, _, rfl⟩
    · obtain ⟨w4, hS4, rows, v1, v2, hL, hrw, rfl⟩ := h
      rw [List.length_map, List.take_length] at hrw
      have hrl : rows.length = ns.length := by
        have := congrArg List.length hrw
        rw [List.length_map] at this
        omega
      wtm_at "jw"
      refine drawL w4 (by omega) (by omega) fun z H5 z0 z1 e w5 => ?_
      obtain ⟨us, hus, tus⟩ := hL.drew w4.at_ e nD
      wtm_at "jw"
      refine i_slL (SqL.of hus) fun r H6 s6 nr hr6 => ?_
      have tus6 := tus.same s6
      have w6 := w5.same s6
      have hul := tus.len
      rw [List.length_map] at hul
      wtm_at "jw"
      rw [cut_take z0 (by omega)]
      intro l hl'
      have hmz : ∀ x ∈ rows, 0 ≤ x.1 ∧ x.1 < t := fun x hx => hb _ (pz.mem_iff.mp (by rw [← hrw]; exact List.mem_map.mpr ⟨x, hx, rfl⟩))
      have hnd : (rows.map (·.1)).Nodup := by rw [hrw]; exact pz.nodup_iff.mpr nd
      have tt := tus6.take z.toNat
      rw [← List.map_take] at tt
      exact q _ (rows.take z.toNat) _ (w6.new hl') (TD.new hl' tt) (((List.take_sublist _ rows).map _).nodup hnd) (fun x hx => hmz x (List.mem_of_mem_take hx)) (by rw [List.length_take]; omega)
def sp__law_due_guess (K : PySem.W.Frag) : Sp := fun vs H Q _ => ∃ (v1 v2 : V) (ts : List Int) (rows : List (Int × Int)) (t : Nat), vs = [v1, v2, .int (t : Int)] ∧ TD K H v1 (.tuple (ts.map PyData.int)) ∧ 0 < ts.length ∧ TD K H v2 (.tuple (rows.map pD)) ∧ Q (.int (ts[((rows.foldl (stp t) (-1, 0)).2 % (ts.length : Int)).toNat]?.getD 0)) H
theorem ok__law_due_guess {P : Program} {w : World} {K : PySem.W.Frag} {mg : Str → Option Value} {base : Heap} {f : Addr} {fd : FuncData} (F : Df K mg "_law_due_guess" s__law_due_guess f fd ["table", "rows", "tick"]) (T : Txt mg) : FnOk P w K mg base CX0 1 f fd ["table", "rows", "tick"] (sp__law_due_guess K) := by
  refine F.ok sc__law_due_guess (fun vs H Q E h => ?_) (fun cdv A outer s H vs Q E hr h => ?_)
  · obtain ⟨v1, v2, ts, rows, t, rfl, _⟩ := h
    rfl
  · obtain ⟨v1, v2, ts, rows, t, rfl, h1, hl, h2, q⟩ := h
    obtain ⟨a, xs, rfl, ha, tx⟩ := h2.tup_inv
    obtain ⟨b, ys, rfl, hb, ty⟩ := h1.tup_inv
    obtain rfl := ty.ints_inv
    have hxl := tx.len
    rw [List.length_map] at hxl
    refine ⟨_, (pss_cons (ps_set (i := 3) sc__law_due_guess.nd rfl (Or.inl rfl) (pe_un un_neg pe_int))
      (pss_cons (ps_set (i := 4) sc__law_due_guess.nd rfl (Or.inl rfl) pe_int)
      (pss_cons (ps_for PassesOwn.never rfl (pi_tup (pv 1)) (pg_tupK (K := K) rfl rfl (pgs_cons (pg_name (i := 5) sc__law_due_guess.nd rfl (Or.inl rfl)) (pgs_cons (pg_name (i := 6) sc__law_due_guess.nd rfl (Or.inl rfl)) pgs_nil))) (pss_one (ps_if (pt_chain op_lt op_lt (pv 3) (pv 5) (pv 2)) (pss_cons (ps_set (i := 3) sc__law_due_guess.nd rfl (Or.inl rfl) (pv 5))
      (pss_one (ps_set (i := 4) sc__law_due_guess.nd rfl (Or.inl rfl) (pv 6)))) pss_nil)))
      (pss_one (ps_ret (pe_ix (r := rIxT K) ix_tup (pv 0) (pe_op op_mod (pe_callTy (T := "int") c_int (by rfl) T.b_int (by decide +kernel) (pa_cons (pv 4) pa_nil)) (pe_callB (id := "len") (r := qLen K) c_len (by rfl) T.b_len (by decide +kernel) (pa_cons (pv 0) pa_nil))) (fun _ _ => rfl))))))), ?_⟩
    try dsimp only [cxOf, Cx.nox, Cx.wish]
    refine st_of (σ' := [some _, some _, some _, none, none, none, none]) rfl ?_
    wtm_at "jw"
    refine f_tup (xs := xs) (fun i σ H' => H' = H ∧ ∃ (v1 v2 : Option V), σ = [some (.ref b), some (.ref a), some (.int (t : Int)), some (.int ((rows.take i).foldl (stp t) (-1, 0)).1), some (.int ((rows.take i).foldl (stp t) (-1, 0)).2), v1, v2]) ⟨rfl, none, none, rfl⟩ (fun i σ H' _ h => by rw [h.1]; exact ha) (fun i x σ H' hi h => ?_) (fun σ H' h => ?_)
    · obtain ⟨rfl, v1, v2, rfl⟩ := h
      obtain ⟨p, hp, tp, htk, _⟩ := tx.pair_at hi
      rw [htk, List.foldl_append]
      generalize (rows.take i).foldl (stp (t : Int)) (-1, 0) = s
      rw [List.foldl_cons, List.foldl_nil]
      wtm_at "jw"
      refine c_dec (fun hA => ?_) (fun hA => ?_)
      · wtm_at "jw"
        refine c_dec (fun hB => ?_) (fun hB => ?_)
        · have e : stp (t : Int) s p = p := if_pos ⟨hA, hB⟩
          rw [e]
          wtm_at "jw"
          exact ⟨rfl, _, _, rfl⟩
        · have e : stp (t : Int) s p = s := if_neg fun z => hB z.2
          rw [e]
          wtm_at "jw"
          exact ⟨rfl, _, _, rfl⟩
      · have e : stp (t : Int) s p = s := if_neg fun z => hA z.1
        rw [e]
        wtm_at "jw"
        exact ⟨rfl, _, _, rfl⟩
    · obtain ⟨rfl, v1, v2, rfl⟩ := h
      rw [hxl, List.take_length]
      generalize (rows.foldl (stp (t : Int)) (-1, 0)) = s at q ⊢
      have b0 := Int.emod_nonneg s.2 (b := (ts.length : Int)) (by omega)
      have b1 := Int.emod_lt_of_pos s.2 (b := (ts.length : Int)) (by omega)
      have a0 := int_atG (ns := ts) b0 b1
      wtm_at "jw"
      rw [List.length_map]
      wtm_at "jw"
      exact q
def enD (p : Int × Int) : L2.Key × V := (.inl p.1, .int p.2)
theorem enD_val (i : Int) : ∀ l : List (Int × Int), valV (l.map enD) (.inl i) = (lkI l i).map V.int
  | [] => rfl
  | e :: r => by
    rw [List.map_cons, lkI]
    by_cases h : e.1 = i
    · rw [if_pos h, valV_pos (by show Sum.inl e.1 = _; rw [h])]; rfl
    · rw [if_neg h, valV_neg (fun z => h (Sum.inl.inj z)), enD_val i r]
theorem tps_dk {H : Hp} {d : Addr} {kvs : List (L2.Key × V)} {o : HO} (h : H d = some (.dK kvs)) : Tps H (upd H d o) := fun c => by
  by_cases e : c = d
  · subst e
    exact ⟨fun xs z => (by rw [h] at z; cases z), fun o xs z => (by rw [h] at z; cases z)⟩
  · exact ⟨fun xs z => (by rw [upd_ne e]; exact z), fun o xs z => (by rw [upd_ne e]; exact z)⟩
theorem tps_fk {H : Hp} {d : Addr} {kvs : List (L2.Key × V)} {o : HO} {od : Obj} (h : H d = some (.frz od (.dK kvs))) : Tps H (upd H d o) := fun c => by
  by_cases e : c = d
  · subst e
    exact ⟨fun xs z => (by rw [h] at z; cases z), fun o xs z => (by rw [h] at z; cases z)⟩
  · exact ⟨fun xs z => (by rw [upd_ne e]; exact z), fun o xs z => (by rw [upd_ne e]; exact z)⟩
def RowOk (t : Nat) (rows : List (Int × Int)) : Prop := (rows.map (·.1)).Nodup ∧ (∀ x ∈ rows, 0 ≤ x.1 ∧ x.1 < t) ∧ rows.length ≤ t
def sp__law_are_guesses (K : PySem.W.Frag) : Sp := fun vs H Q _ => ∃ (v1 v2 : V) (k : Addr) (ts : List Int) (rows : List (Int × Int)) (t : Nat), vs = [v1, .ref k, v2, .int (t : Int)] ∧ TD K H v1 (.tuple (ts.map PyData.int)) ∧ 0 < ts.length ∧ TD K H v2 (.tuple (rows.map pD)) ∧ H k = some (.dK (rows.map enD)) ∧ RowOk t rows ∧ t ≤ 24 ∧ ∀ H', Same H H' → Q (.bl true) H'
theorem ok__law_are_guesses {P : Program} {w : World} {K : PySem.W.Frag} {mg : Str → Option Value} {base : Heap} {f : Addr} {fd : FuncData} (F : Df K mg "_law_are_guesses" s__law_are_guesses f fd ["table", "known", "rows", "ticks"]) (T : Txt mg)
    (c_guess_of : Cl P w K mg base 2 "guess_of" (sp_guess_of K))
    (c__law_is_int : Cl P w K mg base 1 "_law_is_int" (sp__law_is_int K))
    (c__law_due_guess : Cl P w K mg base 1 "_law_due_guess" (sp__law_due_guess K)) : FnOk P w K mg base CX0 3 f fd ["table", "known", "rows", "ticks"] (sp__law_are_guesses K) := by
  refine F.ok sc__law_are_guesses (fun vs H Q E h => ?_) (fun cdv A outer s H vs Q E hr h => ?_)
  · obtain ⟨v1, v2, k, ts, rows, t, rfl, _⟩ := h
    rfl
  · obtain ⟨v1, v2, k, ts, rows, t, rfl, h1, hl, h2, hk, ok, t24, q⟩ := h
    obtain ⟨a, xs, rfl, ha, tx⟩ := h2.tup_inv
    obtain ⟨b, ys, rfl, hb, ty⟩ := h1.tup_inv
    obtain rfl := ty.ints_inv
    have hxl := tx.len
    rw [List.length_map] at hxl
    obtain ⟨nd, bd, rl⟩ := ok
    have hu := hu_of hr
    have hu := hu_of hr
    refine ⟨_, (pss_cons (ps_setLc (i := 4) (own := [("row", 5)]) (g := gName 5) (tt := tYes) rfl sc__law_are_guesses.nd rfl rfl (sw_true rfl rfl rfl (by decide +kernel)) (pi_tup (pv 2)) (blkOk_by (own := [("row", 5)]) (N := N__law_are_guesses) (sc := defScope s__law_are_guesses) (by decide +kernel)) (fun _ _ _ _ _ => (pg_name (i := 5) sc__law_are_guesses.nd rfl (Or.inl rfl))) (fun _ _ _ _ _ => pts_nil) (fun _ _ _ _ _ => (pe_ix (r := rIxT K) ix_tup (pv 5) pe_int (fun _ _ => rfl))))
      (pss_cons (ps_for PassesOwn.never rfl (pi_range1 rfl T.b_range (pa_cons (pv 3) pa_nil)) (pg_name (i := 6) sc__law_are_guesses.nd rfl (Or.inl rfl)) (pss_one (ps_if (pt_cmpR (r := rIn K true) op_notIn_seq (pv 6) (pv 4) rfl) (pss_cons (ps_set (i := 7) sc__law_are_guesses.nd rfl (Or.inl rfl) (pe_cl c_guess_of hr (by decide) rfl (pa_cons (pv 0) (pa_cons (pv 1) (pa_cons (pv 6) pa_nil)))))
      (pss_one (ps_if (PW.pt (pw_or (pt_not (pt_val (pe_cl c__law_is_int hr (by decide) rfl (pa_cons (pv 7) pa_nil)))) (pw_or1 (pt_cmpR op_ne (pv 7) (pe_cl c__law_due_guess hr (by decide) rfl (pa_cons (pv 0) (pa_cons (pv 2) (pa_cons (pv 6) pa_nil)))) (nomark _))))) (pss_one (ps_ret pe_bl)) pss_nil))) pss_nil)))
      (pss_one (ps_ret (pe_cmpR (r := rEqD K) (op_eqD hr.units) (pe_lock (pe_lc (own := [("tick", 6)]) (g := gName 6) (tt := tYes) rfl sc__law_are_guesses.nd (pi_keys (pv 1)) (blkOk_by (own := [("tick", 6)]) (N := N__law_are_guesses) (sc := defScope s__law_are_guesses) (by decide +kernel)) (fun _ _ _ _ _ => (pg_name (i := 6) sc__law_are_guesses.nd rfl (Or.inl rfl))) (fun _ _ _ _ _ => pts_nil) (fun _ _ _ _ _ => (pe_tup (pa_cons (pv 6) (pa_cons (pe_dget hu (pv 1) (pv 6) (fun _ _ => rfl)) pa_nil)))))) (pe_callTy (T := "list") (r := rLstOf K) c_lst (by rfl) T.b_list (by decide +kernel) (pa_cons (pv 2) pa_nil)) (nomark _)))))), ?_⟩
    try dsimp only [cxOf, Cx.nox, Cx.wish]
    refine st_of (σ' := [some _, some _, some _, some _, none, none, none, none]) rfl ?_
    wtm_at "jw"
    intro D hD
    refine l_tup (xs := xs) (fun i H' => Same H H' ∧ H' D = some (.lst (((rows.take i).map (·.1)).map V.int))) ⟨same_new hD, upd_same⟩ (fun i H' _ h => (Tps.of h.1).sq ha) (fun i x H' hi h => ?_) (fun H' h => ?_)
    · obtain ⟨s1, hD1⟩ := h
      obtain ⟨p, hp, tp, htk, _⟩ := tx.pair_at hi
      have tp1 : TD K H' x (.tuple [.int p.1, .int p.2]) := tp.same s1
      wtm_at "jw"
      refine ⟨rfl, ?_⟩
      wtm_at "jw"
      refine ⟨_, hD1, small1000 (by rw [List.length_map, List.length_map, List.length_take]; omega), put_same s1 hD, ?_⟩
      rw [upd_same, htk, List.map_append, List.map_append]
      rfl
    · obtain ⟨s1, hD1⟩ := h
      rw [hxl, List.take_length] at hD1
      wtm_at "jw"
      refine f_range (fun i σ H2 => Same H' H2 ∧ ∃ (v5 v6 v7 : Option V), σ = [some (.ref b), some (.ref k), some (.ref a), some (.int (t : Int)), some (.ref D), v5, v6, v7]) ⟨Same.refl _, none, none, none, rfl⟩ (fun i σ H2 hi h => ?_) (fun σ H2 h => ?_)
      · obtain ⟨s2, v5, v6, v7, rfl⟩ := h
        have hD2 := s2 _ _ hD1
        have s12 := s1.trans s2
        rw [Int.zero_add]
        wtm_at "jw"
        refine i_ninL (ns := rows.map (·.1)) (SqL.of hD2) ?_
        wtm_at "jw"
        refine c_bool (fun hb' => ?_) (fun hb' => ?_)
        · wtm_at "jw"
          refine ⟨b, k, ts, rows.map enD, lkI rows, i, rfl, (Tps.of s12).sq hb, hl, s12 _ _ hk, fun j => enD_val j rows, by omega, ?_⟩
          wtm_at "jw"
          refine ⟨_, rfl, ?_⟩
          wtm_at "jw"
          refine ⟨_, _, ts, rows, i, rfl, h1.same s12, hl, h2.same s12, ?_⟩
          rw [due_gs nd fun p hp => (bd p hp).1]
          wtm_at "jw"
          refine c_noN rfl ?_
          wtm_at "jw"
          exact ⟨s2, _, _, _, rfl⟩
        · wtm_at "jw"
          exact ⟨s2, _, _, _, rfl⟩
      · obtain ⟨s2, v5, v6, v7, rfl⟩ := h
        have s12 := s1.trans s2
        have hk2 := s12 _ _ hk
        wtm_at "jw"
        refine i_lockE hk2 True.intro fun od => ?_
        have tL := tps_dk (o := .frz od (.dK (rows.map enD))) hk2
        have hkf := upd_same (H := H2) (a := k) (o := .frz od (.dK (rows.map enD)))
        have keep : ∀ b o, b ≠ k → H2 b = some o → upd H2 k (.frz od (.dK (rows.map enD))) b = some o := fun b o n e => by rw [upd_ne n]; exact e
        generalize upd H2 k (.frz od (.dK (rows.map enD))) = HL at tL hkf keep ⊢
        wtm_at "jw"
        refine i_iKeys ?_
        wtm_at "jw"
        refine ⟨k, od, rfl, .inl ⟨_, hkf, ?_⟩⟩
        intro E hE
        refine l_keys (kvs := rows.map enD) (fun i H' => Same HL H' ∧ LD K H' E ((rows.take i).map pD)) ⟨same_new hE, [], upd_same, .nil⟩ (fun i H' _ h => h.1 _ _ hkf) (fun i k0 v H' hi h => ?_) (fun H' h => ?_)
        · obtain ⟨s3, us, hus, tus⟩ := h
          rw [List.getElem?_map] at hi
          obtain ⟨p, hp, ep⟩ := Option.map_eq_some_iff.mp hi
          cases ep
          have ek : kV (Sum.inl p.1 : L2.Key) = V.int p.1 := rfl
          rw [ek]
          have htk : rows.take (i + 1) = rows.take i ++ [p] := by rw [List.take_add_one, hp]; rfl
          have hul := tus.len
          rw [List.length_map, List.length_take] at hul
          wtm_at "jw"
          refine ⟨rfl, ?_⟩
          wtm_at "jw"
          refine i_dget ?_
          wtm_at "jw"
          refine i_dgetI (.inr ⟨od, s3 _ _ hkf⟩) (v := .int p.2) (by rw [enD_val, lkI_of nd (List.mem_of_getElem? hp)]; rfl) ?_
          wtm_at "jw"
          intro T hT
          have s7 := same_new (o := .tup [.int p.1, .int p.2]) hT
          have hus7 := s7 _ _ hus
          have tus7 := tus.same s7
          have t7 : TD K (upd H' T (.tup [.int p.1, .int p.2])) (.ref T) (pD p) := TD.new hT (.cons (.int _) (.cons (.int _) .nil))
          have s37 := s3.trans s7
          generalize upd H' T (.tup [.int p.1, .int p.2]) = H7 at s37 hus7 tus7 t7 ⊢
          refine ⟨us, hus7, small1000 (by omega), put_same s37 hE, ?_⟩
          rw [htk, List.map_append]
          exact LD.snoc hus7 tus7 t7
        · obtain ⟨s3, us, hus, tus⟩ := h
          rw [List.length_map, List.take_length] at tus
          have hkf2 := s3 _ _ hkf
          refine ⟨hkf2, ?_⟩
          have nEk : E ≠ k := ne_of hus hkf2 (by intro z; cases z)
          have s8 : Same H (upd H' k (.dK (rows.map enD))) := fun b o hb => by
            by_cases e : b = k
            · subst e
              rw [upd_same]
              rw [hk] at hb
              exact hb
            · rw [upd_ne e]
              exact s3 _ _ (keep _ _ e (s12 _ _ hb))
          have hE8 : upd H' k (.dK (rows.map enD)) E = some (.lst us) := by rw [upd_ne nEk]; exact hus
          have tus8 : TDs K (upd H' k (.dK (rows.map enD))) us (rows.map pD) := tus.tps (tps_fk hkf2)
          generalize upd H' k (.dK (rows.map enD)) = H8 at s8 hE8 tus8 ⊢
          wtm_at "jw"
          refine i_lstT (ys := xs) ((Tps.of s8).sq ha) fun l hl' => ?_
          have s9 := same_new (o := .lst xs) hl'
          refine i_eqS' (d := .list (rows.map pD)) (n := 2) (Dp.lst (SqL.of (s9 _ _ hE8)) (tus8.same s9).dp) (Dp.lst (SqL.of upd_same) ((tx.same s8).same s9).dp) (Shp.lst fun d hd => ?_) (by decide) ?_
          · obtain ⟨p, _, rfl⟩ := List.mem_map.mp hd
            exact Shp.pD p
          · exact q _ (s8.trans s9)
def tD (ts : List Int) : PyData := .tuple (ts.map PyData.int)
def rD (rows : List (Int × Int)) : PyData := .tuple (rows.map pD)
def LSt (K : PySem.W.Frag) (p c : Addr) (H0 : Hp) (D R Kn k0 k1 : Addr) (kk : Nat → Addr) (rr : Nat → List (Int × Int)) (tss : List (List Int)) (rss : List (List (Int × Int))) (i j : Nat) (H : Hp) : Prop :=
  Drew p c H0 H ∧ LD K H D (tss.map tD) ∧ LD K H R (rss.map rD) ∧ H Kn = some (.lst [.ref k0, .ref k1]) ∧ ∀ s, s < 2 → H (kk s) = some (.dK (((rr s).take (if s < j then i else i - 1)).map enD))
theorem LSt.same {K : PySem.W.Frag} {p c : Addr} {H0 : Hp} {D R Kn k0 k1 : Addr} {kk : Nat → Addr} {rr : Nat → List (Int × Int)} {tss : List (List Int)} {rss : List (List (Int × Int))} {i j : Nat} {H H' : Hp} (h : LSt K p c H0 D R Kn k0 k1 kk rr tss rss i j H) (s : Same H H') : LSt K p c H0 D R Kn k0 k1 kk rr tss rss i j H' :=
  ⟨h.1.same s, h.2.1.same s, h.2.2.1.same s, s _ _ h.2.2.2.1, fun n hn => s _ _ (h.2.2.2.2 n hn)⟩
theorem step_k {kk : Nat → Addr} {rr : Nat → List (Int × Int)} {i j : Nat} {H : Hp} (h : ∀ s, s < 2 → s ≠ j → H (kk s) = some (.dK (((rr s).take (if s < j then i else i - 1)).map enD))) (hn : H (kk j) = some (.dK (((rr j).take i).map enD))) :
    ∀ s, s < 2 → H (kk s) = some (.dK (((rr s).take (if s < j + 1 then i else i - 1)).map enD)) := fun s hs => by
  by_cases e : s = j
  · subst e
    rw [if_pos (Nat.lt_succ_self s)]
    exact hn
  · have := h s hs e
    by_cases l : s < j
    · rw [if_pos l] at this
      rw [if_pos (by omega)]
      exact this
    · rw [if_neg l] at this
      rw [if_neg (by omega)]
      exact this
theorem putK_snoc {l : List (Int × Int)} {p : Int × Int} (h : p.1 ∉ l.map (·.1)) : putK (l.map enD) (.inl p.1) (.int p.2) = (l ++ [p]).map enD := by
  unfold putK
  rw [valV_any, enD_val, lkI_none h, if_neg (by simp), List.map_append]
  rfl
theorem RowOk.take {t : Nat} {l : List (Int × Int)} (h : RowOk t l) (n : Nat) : RowOk t (l.take n) :=
  ⟨((List.take_sublist _ l).map _).nodup h.1, fun x hx => h.2.1 x (List.mem_of_mem_take hx), by rw [List.length_take]; have := h.2.2; omega⟩
theorem RowOk.reverse {t : Nat} {l : List (Int × Int)} (h : RowOk t l) : RowOk t l.reverse :=
  ⟨by rw [List.map_reverse]; exact (List.reverse_perm _).nodup_iff.mpr h.1, fun x hx => h.2.1 x (List.mem_reverse.mp hx), by rw [List.length_reverse]; exact h.2.2⟩
/-- the next key is new -/
theorem key_new {l : List (Int × Int)} {i : Nat} {p : Int × Int} (h : (l.map (·.1)).Nodup) (e : l[i]? = some p) : p.1 ∉ (l.take i).map (·.1) ∧ l.take (i + 1) = l.take i ++ [p] := by
  have ht : l.take (i + 1) = l.take i ++ [p] := by rw [List.take_add_one, e]; rfl
  refine ⟨fun hm => ?_, ht⟩
  have h2 := ((List.take_sublist (i + 1) l).map (·.1)).nodup h
  rw [ht, List.map_append, List.nodup_append] at h2
  exact h2.2.2 _ hm _ (by simp) rfl
theorem i_tupRt {K : PySem.W.Frag} {σ : L2.St} {H : Hp} {Q : VK} {te : TE} (h : te σ H fun v H1 => ∃ (a : Addr) (xs : List V), v = .ref a ∧ SqT K H1 a xs ∧ ∀ q, H1 q = none → Q (.ref q) (upd H1 q (.tup xs.reverse))) : tTupRt K te σ H Q := h
def sp_law (K : PySem.W.Frag) : Sp := fun vs H Q _ => ∃ (a : Addr) (ns : List Int), vs = [.ref a] ∧ SqL K H a (ns.map V.int) ∧ ns.length ≤ 63 ∧ ∀ H', Q (.bl true) H'
theorem ok_law {P : Program} {w : World} {K : PySem.W.Frag} {mg : Str → Option Value} {base : Heap} {f : Addr} {fd : FuncData} (F : Df K mg "law" s_law f fd ["script"]) (T : Txt mg)
    (c__law_begin : Cl P w K mg base 1 "_law_begin" (sp__law_begin K))
    (c__law_pick : Cl P w K mg base 2 "_law_pick" (sp__law_pick K))
    (c__law_guess : Cl P w K mg base 2 "_law_guess" (sp__law_guess K))
    (c__law_words_heard : Cl P w K mg base 3 "_law_words_heard" (sp__law_words_heard K))
    (c__law_are_guesses : Cl P w K mg base 3 "_law_are_guesses" (sp__law_are_guesses K))
    (c__law_draw : Cl P w K mg base 1 "_law_draw" (sp__law_draw K)) : FnOk P w K mg base CX0 4 f fd ["script"] (sp_law K) := by
  refine F.ok sc_law (fun vs H Q E h => ?_) (fun cdv A outer s H vs Q E hr h => ?_)
  · obtain ⟨a, ns, rfl, _⟩ := h
    rfl
  · obtain ⟨a, ns, rfl, hS, hl, k⟩ := h
    have hu := hu_of hr
    have hu := hu_of hr
    refine ⟨_, (pss_cons (ps_set (i := 1) sc_law.nd rfl (Or.inr rfl) (pe_cl c__law_begin hr (by decide) rfl (pa_cons (pv 0) pa_nil)))
      (pss_cons (ps_set (i := 2) sc_law.nd rfl (Or.inr rfl) (pe_cl c__law_pick hr (by decide) rfl (pa_cons (pv 1) (pa_cons (pe_lst (pa_cons pe_int (pa_cons pe_int (pa_cons pe_int (pa_cons pe_int (pa_cons pe_int (pa_cons pe_int (pa_cons pe_int (pa_cons pe_int pa_nil))))))))) pa_nil))))
      (pss_cons (ps_set (i := 3) sc_law.nd rfl (Or.inr rfl) (pe_lc (own := [("seat", 4)]) (g := gName 4) (tt := tYes) rfl sc_law.nd (pi_range1 rfl T.b_range (pa_cons pe_int pa_nil)) (blkOk_by (own := [("seat", 4)]) (N := N_law) (sc := defScope s_law) (by decide +kernel)) (fun _ _ _ _ _ => (pg_name (i := 4) sc_law.nd rfl (Or.inl rfl))) (fun _ _ _ _ _ => pts_nil) (fun _ _ _ _ _ => (pe_cl c__law_guess hr (by decide) rfl (pa_cons (pv 1) (pa_cons (pe_op op_add pe_int (pe_cl c__law_draw hr (by decide) rfl (pa_cons (pv 1) (pa_cons pe_int pa_nil)))) pa_nil))))))
      (pss_cons (ps_setLc (i := 5) (own := [("seat", 4)]) (g := gName 4) (tt := tYes) rfl sc_law.nd rfl rfl (sw_true rfl rfl rfl (by decide +kernel)) (pi_range1 rfl T.b_range (pa_cons pe_int pa_nil)) (blkOk_by (own := [("seat", 4)]) (N := N_law) (sc := defScope s_law) (by decide +kernel)) (fun _ _ _ _ _ => (pg_name (i := 4) sc_law.nd rfl (Or.inl rfl))) (fun _ _ _ _ _ => pts_nil) (fun _ _ _ _ _ => (pe_cl c__law_words_heard hr (by decide) rfl (pa_cons (pv 1) (pa_cons (pv 2) (pa_cons (pe_callB (id := "len") (r := qLen K) c_len (by rfl) T.b_len (by decide +kernel) (pa_cons (pe_ix (r := rIxL K) ix_list (pv 3) (pv 4) (fun _ _ => rfl)) pa_nil)) pa_nil))))))
      (pss_cons (ps_set (i := 6) sc_law.nd rfl (Or.inl rfl) (pe_lst (pa_cons pe_dnewK (pa_cons pe_dnewK pa_nil))))
      (pss_cons (ps_for PassesOwn.never rfl (pi_range1 rfl T.b_range (pa_cons (pe_op op_add (pv 2) pe_int) pa_nil)) (pg_name (i := 7) sc_law.nd rfl (Or.inl rfl)) (pss_one (ps_for PassesOwn.never rfl (pi_range1 rfl T.b_range (pa_cons pe_int pa_nil)) (pg_name (i := 4) sc_law.nd rfl (Or.inl rfl)) (pss_one (ps_if (pt_cmpR op_le (pv 7) (pe_callB (id := "len") (r := qLen K) c_len (by rfl) T.b_len (by decide +kernel) (pa_cons (pe_ix (r := rIxL K) ix_list (pv 5) (pv 4) (fun _ _ => rfl)) pa_nil)) (nomark _)) (pss_cons (ps_set (i := 8) sc_law.nd rfl (Or.inl rfl) (pe_ix (r := rIxL K) ix_list (pv 6) (pv 4) (fun _ _ => rfl)))
      (pss_cons (ps_if (pt_cmpR op_gt (pv 7) pe_int (nomark _)) (pss_cons (ps_asg (pe_ix (r := rIxT K) ix_tup (pe_ix (r := rIxL K) ix_list (pv 5) (pv 4) (fun _ _ => rfl)) (pe_op op_sub (pv 7) pe_int) (fun _ _ => rfl)) (pg_tupK (K := K) rfl rfl (pgs_cons (pg_name (i := 9) sc_law.nd rfl (Or.inl rfl)) (pgs_cons (pg_name (i := 10) sc_law.nd rfl (Or.inl rfl)) pgs_nil))))
      (pss_one (ps_dput hu (pv 8) (pv 9) (pv 10) rfl))) pss_nil)
      (pss_one (ps_if (pt_not (pt_val (pe_cl c__law_are_guesses hr (by decide) rfl (pa_cons (pe_ix (r := rIxL K) ix_list (pv 3) (pv 4) (fun _ _ => rfl)) (pa_cons (pv 8) (pa_cons (pe_slice (r := rSlQ K) sl_tupQ (pe_ix (r := rIxL K) ix_list (pv 5) (pv 4) (fun _ _ => rfl)) po_none (po_some (pv 7))) (pa_cons (pv 2) pa_nil))))))) (pss_one (ps_ret pe_bl)) pss_nil)))) pss_nil)))))
      (pss_cons (ps_for PassesOwn.never rfl (pi_range1 rfl T.b_range (pa_cons pe_int pa_nil)) (pg_name (i := 4) sc_law.nd rfl (Or.inl rfl)) (pss_cons (ps_set (i := 11) sc_law.nd rfl (Or.inl rfl) (pe_tupRt rfl (by rfl) T.b_tuple (by rfl) T.b_reversed (pe_ix (r := rIxL K) ix_list (pv 5) (pv 4) (fun _ _ => rfl))))
      (pss_cons (ps_set (i := 12) sc_law.nd rfl (Or.inl rfl) pe_dnewK)
      (pss_cons (ps_for PassesOwn.never rfl (pi_tup (pv 11)) (pg_tupK (K := K) rfl rfl (pgs_cons (pg_name (i := 9) sc_law.nd rfl (Or.inl rfl)) (pgs_cons (pg_name (i := 10) sc_law.nd rfl (Or.inl rfl)) pgs_nil))) (pss_one (ps_dput hu (pv 12) (pv 9) (pv 10) rfl)))
      (pss_one (ps_if (pt_not (pt_val (pe_cl c__law_are_guesses hr (by decide) rfl (pa_cons (pe_ix (r := rIxL K) ix_list (pv 3) (pv 4) (fun _ _ => rfl)) (pa_cons (pv 12) (pa_cons (pv 11) (pa_cons (pv 2) pa_nil))))))) (pss_one (ps_ret pe_bl)) pss_nil))))))
      (pss_one (ps_ret pe_bl))))))))), ?_⟩
    try dsimp only [cxOf, Cx.nox, Cx.wish]
    refine st_of (σ' := [some _, none, none, none, none, none, none, none, none, none, none, none, none]) rfl ?_
    wtm_at "jw"
    refine ⟨a, ns, rfl, hS, hl, fun p c H0 s0 hp hc d0 => ?_⟩
    have w0 := d0.drew
    wtm_at "jw"
    intro B hB
    wtm_at "jw"
    refine pickL (fun z => 1 ≤ z ∧ z ≤ 24) [1, 2, 3, 4, 5, 7, 12, 24] w0 hB rfl (by simp) (by simp) (by simp) fun z1 H2 hz1 _ w2 => ?_
    obtain ⟨t, rfl⟩ : ∃ n : Nat, z1 = (n : Int) := ⟨z1.toNat, by omega⟩
    wtm_at "jw"
    intro D hD
    have nD : D ≠ p := w2.at_.ne_none hD
    refine l_range (fun i H' => Drew p c H0 H' ∧ ∃ tss : List (List Int), LD K H' D (tss.map tD) ∧ tss.length = i ∧ ∀ ts ∈ tss, 0 < ts.length ∧ ts.length ≤ 4) ⟨w2.new hD, [], ⟨[], upd_same, .nil⟩, rfl, by simp⟩ (fun i H' hi h => ?_) (fun H3 h => ?_)
    · obtain ⟨w3, tss, hT, hn, hb⟩ := h
      wtm_at "jw"
      refine ⟨rfl, ?_⟩
      wtm_at "jw"
      refine drawL w3 (by decide) (by decide) fun z H4 z0 z1 e w4 => ?_
      have hT4 := hT.drew w3.at_ e nD
      wtm_at "jw"
      refine ⟨p, c, 2 + z, rfl, w4.at_, by omega, by omega, fun r ns' H5 e5 hr5 hl5 => ?_⟩
      have w5 := w4.trans e5
      obtain ⟨us, hus, tus⟩ := hT4.drew w4.at_ e5 nD
      have hul := tus.len
      rw [List.length_map] at hul
      have t5 : TD K H5 (.ref r) (tD ns') := TD.of hr5 (TDs.ints ns')
      refine ⟨us, hus, small1000 (by omega), w5.put d0 (w2.free hD), tss ++ [ns'], by rw [List.map_append]; exact LD.snoc hus tus t5, by simp [hn], fun ts hts => ?_⟩
      rcases List.mem_append.mp hts with h | h
      · exact hb ts h
      · rw [List.mem_singleton.mp h]; omega
    · obtain ⟨w3, tss, hT, hn, hb⟩ := h
      wtm_at "jw"
      intro R hR
      have nR : R ≠ p := w3.at_.ne_none hR
      have nDR : D ≠ R := by obtain ⟨us, hus, _⟩ := hT; exact ne_of_none hus hR
      refine l_range (fun i H' => Drew p c H0 H' ∧ LD K H' D (tss.map tD) ∧ ∃ rss : List (List (Int × Int)), LD K H' R (rss.map rD) ∧ rss.length = i ∧ ∀ rw ∈ rss, RowOk t rw) ⟨w3.new hR, hT.same (same_new hR), [], ⟨[], upd_same, .nil⟩, rfl, by simp⟩ (fun i H' hi h => ?_) (fun H4 h => ?_)
      · obtain ⟨w4, hT4, rss, hR4, hn4, hb4⟩ := h
        obtain ⟨us, hus, tus⟩ := id hT4
        have hul := tus.len
        rw [List.length_map] at hul
        have hil : i < us.length := by omega
        obtain ⟨u, hu⟩ : ∃ u, us[i]? = some u := ⟨_, List.getElem?_eq_getElem hil⟩
        obtain ⟨d, hd, td, _, _⟩ := tus.at hu
        rw [List.getElem?_map] at hd
        obtain ⟨ts, hts, rfl⟩ := Option.map_eq_some_iff.mp hd
        have hbt := hb ts (List.mem_of_getElem? hts)
        have td1 : TD K H' u (.tuple (ts.map PyData.int)) := td
        have ai : atI us (0 + (i : Int)) = some u := by rw [Int.zero_add]; exact atI_nat hu
        wtm_at "jw"
        refine ⟨rfl, ?_⟩
        wtm_at "jw"
        rw [List.length_map]
        refine ⟨p, c, t, ts.length, rfl, w4.at_, by omega, by omega, by omega, by omega, fun v rw' H5 e5 tv5 nd bd ln => ?_⟩
        have w5 := w4.trans e5
        have hT5 := hT4.drew w4.at_ e5 nD
        obtain ⟨vs, hvs, tvs⟩ := hR4.drew w4.at_ e5 nR
        have hvl := tvs.len
        rw [List.length_map] at hvl
        refine ⟨vs, hvs, small1000 (by omega), w5.put d0 (w3.free hR), hT5.kp Kp.upd hvs nDR, rss ++ [rw'], by rw [List.map_append]; exact LD.snoc hvs tvs tv5, by simp [hn4], fun ts hts => ?_⟩
        rcases List.mem_append.mp hts with h | h
        · exact hb4 ts h
        · rw [List.mem_singleton.mp h]; exact ⟨nd, bd, by omega⟩
      · obtain ⟨w4, hT4, rss, hR4, hn4, hb4⟩ := h
        wtm_at "jw"
        refine i_dnew fun k0 hk0 => ?_
        have w5 := w4.new (o := .dK []) hk0
        have s5 := same_new (o := .dK []) hk0
        have hT5 := hT4.same s5
        have hR5 := hR4.same s5
        have e0 := upd_same (H := H4) (a := k0) (o := .dK [])
        have f0 := w4.free hk0
        generalize upd H4 k0 (.dK []) = H5 at w5 s5 hT5 hR5 e0 ⊢
        wtm_at "jw"
        refine i_dnew fun k1 hk1 => ?_
        have w6 := w5.new (o := .dK []) hk1
        have s6 := same_new (o := .dK []) hk1
        have hT6 := hT5.same s6
        have hR6 := hR5.same s6
        have n01 : k0 ≠ k1 := ne_of_none e0 hk1
        have e06 := s6 _ _ e0
        have e1 := upd_same (H := H5) (a := k1) (o := .dK [])
        have f1 := w5.free hk1
        generalize upd H5 k1 (.dK []) = H6 at w6 s6 hT6 hR6 e06 e1 ⊢
        wtm_at "jw"
        intro Kn hKn
        have w7 := w6.new (o := .lst [.ref k0, .ref k1]) hKn
        have s7 := same_new (o := .lst [.ref k0, .ref k1]) hKn
        have nK : Kn ≠ p := w6.at_.ne_none hKn
        have hK7 := upd_same (H := H6) (a := Kn) (o := .lst [.ref k0, .ref k1])
        have hT7 := hT6.same s7
        have hR7 := hR6.same s7
        have e07 := s7 _ _ e06
        have e17 := s7 _ _ e1
        generalize upd H6 Kn (.lst [.ref k0, .ref k1]) = H7 at w7 s7 hT7 hR7 hK7 e07 e17 ⊢
        have hn2 : tss.length = 2 := hn
        have hr2 : rss.length = 2 := hn4
        obtain ⟨kk, ek0, ek1⟩ : ∃ kk : Nat → Addr, kk 0 = k0 ∧ kk 1 = k1 := ⟨fun s => if s = 0 then k0 else k1, rfl, rfl⟩
        obtain ⟨rr, hrr⟩ : ∃ rr : Nat → List (Int × Int), rr = fun s => rss[s]?.getD [] := ⟨_, rfl⟩
        have hrs : ∀ s, s < 2 → rss[s]? = some (rr s) := fun s hs => by
          subst hrr
          show rss[s]? = some (rss[s]?.getD [])
          rw [List.getElem?_eq_getElem (show s < rss.length by omega)]
          rfl
        have hro : ∀ s, s < 2 → RowOk t (rr s) := fun s hs => hb4 _ (List.mem_of_getElem? (hrs s hs))
        have kin : ∀ s s', s < 2 → s' < 2 → s ≠ s' → kk s ≠ kk s' := fun s s' h1 h2 h3 => by
          rcases (by omega : (s = 0 ∧ s' = 1) ∨ (s = 1 ∧ s' = 0)) with ⟨rfl, rfl⟩ | ⟨rfl, rfl⟩
          · rw [ek0, ek1]; exact n01
          · rw [ek0, ek1]; exact n01.symm
        have kf : ∀ s, s < 2 → H0 (kk s) = none := fun s hs => by
          rcases (by omega : s = 0 ∨ s = 1) with rfl | rfl
          · rw [ek0]; exact f0
          · rw [ek1]; exact f1
        have kat : ∀ s : Nat, s < 2 → atI [V.ref k0, V.ref k1] (s : Int) = some (.ref (kk s)) := fun s hs => by
          rcases (by omega : s = 0 ∨ s = 1) with rfl | rfl
          · rw [ek0]; rfl
          · rw [ek1]; rfl
        wtm_at "jw"
        refine f_range (fun i σ H' => LSt K p c H0 D R Kn k0 k1 kk rr tss rss i 0 H' ∧ ∃ (v4 v7 v8 v9 v10 v11 v12 : Option V), σ = [some (.ref a), some (.ref p), some (.int (t : Int)), some (.ref D), v4, some (.ref R), some (.ref Kn), v7, v8, v9, v10, v11, v12])
          ⟨⟨w7, hT7, hR7, hK7, fun s hs => ?_⟩, none, none, none, none, none, none, none, rfl⟩ (fun i σ H' hi h => ?_) (fun σ H' h => ?_)
        · rw [if_neg (by omega)]
          rcases (by omega : s = 0 ∨ s = 1) with rfl | rfl
          · rw [ek0]; exact e07
          · rw [ek1]; exact e17
        · obtain ⟨L0, v4, v7, v8, v9, v10, v11, v12, rfl⟩ := h
          wtm_at "jw"
          refine f_range (fun j σ H' => LSt K p c H0 D R Kn k0 k1 kk rr tss rss i j H' ∧ ∃ (v4 v8 v9 v10 v11 v12 : Option V), σ = [some (.ref a), some (.ref p), some (.int (t : Int)), some (.ref D), v4, some (.ref R), some (.ref Kn), some (.int (0 + (i : Int))), v8, v9, v10, v11, v12])
            ⟨L0, _, _, _, _, _, _, rfl⟩ (fun j σ H' hj h => ?_) (fun σ H' h => ?_)
          · obtain ⟨⟨w8, hT8, hR8, hK8, hk8⟩, v4, v8, v9, v10, v11, v12, rfl⟩ := h
            have hj2 : j < 2 := hj
            obtain ⟨us, hus, tus⟩ := id hT8
            obtain ⟨vs, hvs, tvs⟩ := id hR8
            have hul := tus.len
            have hvl := tvs.len
            rw [List.length_map] at hul hvl
            rw [Int.zero_add]
            rw [Int.zero_add]
            obtain ⟨v, hv⟩ : ∃ v, vs[j]? = some v := ⟨_, List.getElem?_eq_getElem (by omega)⟩
            obtain ⟨d, hd, tv, _, _⟩ := tvs.at hv
            rw [List.getElem?_map, hrs j hj2] at hd
            obtain rfl := Option.some.inj hd
            obtain ⟨a1, xs, rfl, ha1, tx⟩ := (show TD K H' v (.tuple ((rr j).map pD)) from tv).tup_inv
            have hxl := tx.len
            rw [List.length_map] at hxl
            have av : atI vs (j : Int) = some (.ref a1) := atI_nat hv
            obtain ⟨u, hu0⟩ : ∃ u, us[j]? = some u := ⟨_, List.getElem?_eq_getElem (by omega)⟩
            obtain ⟨d, hd, tu, _, _⟩ := tus.at hu0
            rw [List.getElem?_map] at hd
            obtain ⟨ts, hts, rfl⟩ := Option.map_eq_some_iff.mp hd
            have hbt := hb ts (List.mem_of_getElem? hts)
            have tu1 : TD K H' u (.tuple (ts.map PyData.int)) := tu
            have au : atI us (j : Int) = some u := atI_nat hu0
            have ak := kat j hj2
            have rok := hro j hj2
            have hkj := hk8 j hj2
            rw [if_neg (Nat.lt_irrefl j)] at hkj
            wtm_at "jw"
            refine c_dec (fun hA => ?_) (fun hA => ?_)
            · have hA' : (i : Int) ≤ ((rr j).length : Nat) := by first | exact hA | (rw [List.length_map] at hA; exact hA) | (rw [hxl] at hA; exact hA)
              wtm_at "js"
              refine i_ifC (fun σ' H2 => LSt K p c H0 D R Kn k0 k1 kk rr tss rss i (j + 1) H2 ∧ Tps H' H2 ∧ H2 D = some (.lst us) ∧ H2 R = some (.lst vs) ∧ ∃ (v9 v10 : Option V), σ' = [some (.ref a), some (.ref p), some (.int (t : Int)), some (.ref D), some (.int (j : Int)), some (.ref R), some (.ref Kn), some (.int (i : Int)), some (.ref (kk j)), v9, v10, v11, v12]) (fun σ' H2 h => ?_) (fun N hN => ?_)
              · obtain ⟨L2', tp2, hus2, hvs2, v9, v10, rfl⟩ := h
                have ha2 := tp2.sq ha1
                have tu2 := tu1.tps tp2
                have tx2 := tx.tps tp2
                wtm_at "jw"
                refine i_slA ha2 fun r H3 s3 hr3 => ?_
                rw [cut_take (by omega) (by omega), Int.toNat_natCast] at hr3
                have tr3 : TD K H3 (.ref r) (.tuple (((rr j).take i).map pD)) := by
                  have h := (tx2.same s3).take i
                  rw [← List.map_take] at h
                  exact .tup hr3 h
                have L3 := L2'.same s3
                have hk3 := L3.2.2.2.2 j hj2
                rw [if_pos (Nat.lt_succ_self j)] at hk3
                wtm_at "jw"
                refine ⟨u, .ref r, kk j, ts, (rr j).take i, t, rfl, tu2.same s3, hbt.1, tr3, hk3, rok.take i, by omega, fun H4 s4 => ?_⟩
                wtm_at "jw"
                exact ⟨L3.same s4, _, _, _, _, _, _, rfl⟩
              · wtm_at "jw"
                refine c_dec (fun hB => ?_) (fun hB => ?_)
                · obtain ⟨y, hy⟩ : ∃ y, xs[i - 1]? = some y := ⟨_, List.getElem?_eq_getElem (by omega)⟩
                  obtain ⟨pr, hpr, tpr, _, _⟩ := tx.pair_at hy
                  have axy : atI xs ((i : Int) - 1) = some y := by rw [show (i : Int) - 1 = ((i - 1 : Nat) : Int) by omega]; exact atI_nat hy
                  obtain ⟨kn, ktk⟩ := key_new rok.1 hpr
                  rw [show i - 1 + 1 = i by omega] at ktk
                  wtm_at "jw"
                  refine i_dput ?_
                  wtm_at "jw"
                  refine i_dputI hkj (by rw [List.length_map, List.length_take]; omega) ?_
                  rw [putK_snoc kn, ← ktk]
                  refine hN _ _ ⟨⟨w8.put d0 (kf j hj2), ?_, ?_, ?_, ?_⟩, tps_dk hkj, ?_, ?_, _, _, rfl⟩
                  · exact ⟨us, by rw [upd_ne (ne_of hus hkj (by intro z; cases z))]; exact hus, tus.tps (tps_dk hkj)⟩
                  · exact ⟨vs, by rw [upd_ne (ne_of hvs hkj (by intro z; cases z))]; exact hvs, tvs.tps (tps_dk hkj)⟩
                  · rw [upd_ne (ne_of hK8 hkj (by intro z; cases z))]; exact hK8
                  · refine step_k (fun s hs ne => ?_) upd_same
                    rw [upd_ne (kin s j hs hj2 ne)]
                    exact hk8 s hs
                  · rw [upd_ne (ne_of hus hkj (by intro z; cases z))]; exact hus
                  · rw [upd_ne (ne_of hvs hkj (by intro z; cases z))]; exact hvs
                · wtm_at "jw"
                  refine hN _ _ ⟨⟨w8, hT8, hR8, hK8, step_k (fun s hs _ => hk8 s hs) ?_⟩, fun b => ⟨fun _ h => h, fun _ _ h => h⟩, hus, hvs, _, _, rfl⟩
                  rw [show i = i - 1 by omega]
                  exact hkj
            · have hA' : ¬ (i : Int) ≤ ((rr j).length : Nat) := by first | exact hA | (rw [List.length_map] at hA; exact hA) | (rw [hxl] at hA; exact hA)
              wtm_at "jw"
              refine ⟨⟨w8, hT8, hR8, hK8, step_k (fun s hs _ => hk8 s hs) ?_⟩, _, _, _, _, _, _, rfl⟩
              rw [List.take_of_length_le (by omega)]
              rw [List.take_of_length_le (by omega)] at hkj
              exact hkj
          · obtain ⟨L1, v4, v8, v9, v10, v11, v12, rfl⟩ := h
            refine ⟨⟨L1.1, L1.2.1, L1.2.2.1, L1.2.2.2.1, fun s hs => ?_⟩, _, _, _, _, _, _, _, rfl⟩
            have := L1.2.2.2.2 s hs
            rw [if_pos (show s < Int.toNat 2 from hs)] at this
            rw [if_neg (by omega)]
            exact this
        · obtain ⟨⟨w8, hT8, hR8, hK8, hk8⟩, v4, v7, v8, v9, v10, v11, v12, rfl⟩ := h
          wtm_at "jw"
          refine f_range (fun i σ H' => Drew p c H0 H' ∧ LD K H' D (tss.map tD) ∧ LD K H' R (rss.map rD) ∧ ∃ (v4 v7 v8 v9 v10 v11 v12 : Option V), σ = [some (.ref a), some (.ref p), some (.int (t : Int)), some (.ref D), v4, some (.ref R), some (.ref Kn), v7, v8, v9, v10, v11, v12])
            ⟨w8, hT8, hR8, _, _, _, _, _, _, _, rfl⟩ (fun j σ H' hj h => ?_) (fun σ H' h => ?_)
          · obtain ⟨w9, hT9, hR9, v4, v7, v8, v9, v10, v11, v12, rfl⟩ := h
            have hj2 : j < 2 := hj
            obtain ⟨us, hus, tus⟩ := id hT9
            obtain ⟨vs, hvs, tvs⟩ := id hR9
            have hul := tus.len
            have hvl := tvs.len
            rw [List.length_map] at hul hvl
            rw [Int.zero_add]
            obtain ⟨v, hv⟩ : ∃ v, vs[j]? = some v := ⟨_, List.getElem?_eq_getElem (by omega)⟩
            obtain ⟨d, hd, tv, _, _⟩ := tvs.at hv
            rw [List.getElem?_map, hrs j hj2] at hd
            obtain rfl := Option.some.inj hd
            obtain ⟨a1, xs, rfl, ha1, tx⟩ := (show TD K H' v (.tuple ((rr j).map pD)) from tv).tup_inv
            have hxl := tx.len
            rw [List.length_map] at hxl
            have av : atI vs (j : Int) = some (.ref a1) := atI_nat hv
            obtain ⟨u, hu0⟩ : ∃ u, us[j]? = some u := ⟨_, List.getElem?_eq_getElem (by omega)⟩
            obtain ⟨d, hd, tu, _, _⟩ := tus.at hu0
            rw [List.getElem?_map] at hd
            obtain ⟨ts, hts, rfl⟩ := Option.map_eq_some_iff.mp hd
            have hbt := hb ts (List.mem_of_getElem? hts)
            have tu1 : TD K H' u (.tuple (ts.map PyData.int)) := tu
            have au : atI us (j : Int) = some u := atI_nat hu0
            have rok := (hro j hj2).reverse
            wtm_at "jw"
            refine i_tupRt ?_
            wtm_at "jw"
            refine ⟨a1, xs, rfl, ha1, fun T hT' => ?_⟩
            have w10 := w9.new (o := .tup xs.reverse) hT'
            have s10 := same_new (o := .tup xs.reverse) hT'
            have tx10 := (tx.same s10).reverse
            rw [← List.map_reverse] at tx10
            have hT10 := upd_same (H := H') (a := T) (o := .tup xs.reverse)
            have tT : TD K (upd H' T (.tup xs.reverse)) (.ref T) (.tuple ((rr j).reverse.map pD)) := TD.of hT10 tx10
            generalize upd H' T (.tup xs.reverse) = H10 at w10 s10 tx10 hT10 tT ⊢
            wtm_at "jw"
            refine i_dnew fun O hO => ?_
            have fO := w10.free hO
            have w11 := w10.new (o := .dK []) hO
            have s11 := same_new (o := .dK []) hO
            have tx11 := tx10.same s11
            have hO11 := upd_same (H := H10) (a := O) (o := .dK [])
            have s1' := s10.trans s11
            have hT11 := s11 _ _ hT10
            have tT11 := tT.same s11
            generalize upd H10 O (.dK []) = H11 at w11 s11 tx11 hO11 s1' hT11 tT11 ⊢
            have tu11 := tu1.same s1'
            wtm_at "jw"
            refine f_tup (xs := xs.reverse) (fun i σ H2 => Drew p c H0 H2 ∧ Tps H11 H2 ∧ H2 D = some (.lst us) ∧ H2 R = some (.lst vs) ∧ H2 O = some (.dK (((rr j).reverse.take i).map enD)) ∧ ∃ (v9 v10 : Option V), σ = [some (.ref a), some (.ref p), some (.int (t : Int)), some (.ref D), some (.int (j : Int)), some (.ref R), some (.ref Kn), v7, v8, v9, v10, some (.ref T), some (.ref O)])
              ⟨w11, fun b => ⟨fun _ h => h, fun _ _ h => h⟩, s1' _ _ hus, s1' _ _ hvs, hO11, _, _, rfl⟩ (fun i σ H2 _ h => h.2.1.sq (SqT.of hT11)) (fun i x σ H2 hi h => ?_) (fun σ H2 h => ?_)
            · obtain ⟨w12, tp, hus2, hvs2, hO2, v9, v10, rfl⟩ := h
              obtain ⟨pr, hpr, tpr, _, _⟩ := (tx11.tps tp).pair_at hi
              obtain ⟨kn, ktk⟩ := key_new rok.1 hpr
              have hrl := rok.2.2
              wtm_at "jw"
              refine i_dput ?_
              wtm_at "jw"
              refine i_dputI hO2 (by rw [List.length_map, List.length_take]; omega) ?_
              rw [putK_snoc kn, ← ktk]
              refine ⟨w12.put d0 fO, fun b => ⟨fun xs h => (tps_dk hO2 b).1 _ ((tp b).1 _ h), fun o xs h => (tps_dk hO2 b).2 _ _ ((tp b).2 _ _ h)⟩, ?_, ?_, upd_same, _, _, rfl⟩
              · rw [upd_ne (ne_of hus2 hO2 (by intro z; cases z))]; exact hus2
              · rw [upd_ne (ne_of hvs2 hO2 (by intro z; cases z))]; exact hvs2
            · obtain ⟨w12, tp, hus2, hvs2, hO2, v9, v10, rfl⟩ := h
              rw [List.take_of_length_le (by rw [List.length_reverse, List.length_reverse]; omega)] at hO2
              have tu12 := tu11.tps tp
              have tT12 := tT11.tps tp
              wtm_at "jw"
              refine ⟨u, .ref T, O, ts, (rr j).reverse, t, rfl, tu12, hbt.1, tT12, hO2, rok, by omega, fun H4 s4 => ?_⟩
              wtm_at "jw"
              have tall : Tps H' H4 := fun b => ⟨fun xs h => s4 _ _ ((tp b).1 _ (s1' _ _ h)), fun o xs h => s4 _ _ ((tp b).2 _ _ (s1' _ _ h))⟩
              exact ⟨w12.same s4, ⟨us, s4 _ _ hus2, tus.tps tall⟩, ⟨vs, s4 _ _ hvs2, tvs.tps tall⟩, _, _, _, _, _, _, _, rfl⟩
          · obtain ⟨w9, hT9, hR9, v4, v7, v8, v9, v10, v11, v12, rfl⟩ := h
            wtm_at "jw"
            exact k _
theorem law_hands {K : PySem.W.Frag} {H : Hp} (a : Addr) (ns : List Int) (hl : ns.length ≤ 63) (hb : ∀ z ∈ ns, Builtin.Int.intBits z ≤ 1048576) (hS : SqL K H a (ns.map V.int)) :
    sp_law K [.ref a] H (fun v _ => v = .bl true) fun _ _ _ => False := ⟨a, ns, rfl, hS, hl, fun _ => rfl⟩
theorem all_mk {l : PySem.W.OpenLaw} {w : World} {K : PySem.W.Frag} {h : Heap} {mg : Str → Option Value} {fa : Addr} (X : K.In h) (G : h.Ns mainGlobals mg) (hfa : mg "law" = some (.ref fa))
    {f__law_begin : Addr} {od__law_begin an__law_begin : Option Addr} {sl__law_begin : Array (Option Value)} {oc__law_begin kV__law_begin dc__law_begin pm__law_begin cd__law_begin ct__law_begin : Value}
    {f__law_draw : Addr} {od__law_draw an__law_draw : Option Addr} {sl__law_draw : Array (Option Value)} {oc__law_draw kV__law_draw dc__law_draw pm__law_draw cd__law_draw ct__law_draw : Value}
    {f__law_pick : Addr} {od__law_pick an__law_pick : Option Addr} {sl__law_pick : Array (Option Value)} {oc__law_pick kV__law_pick dc__law_pick pm__law_pick cd__law_pick ct__law_pick : Value}
    {f__law_guess : Addr} {od__law_guess an__law_guess : Option Addr} {sl__law_guess : Array (Option Value)} {oc__law_guess kV__law_guess dc__law_guess pm__law_guess cd__law_guess ct__law_guess : Value}
    {f__law_shuffled : Addr} {od__law_shuffled an__law_shuffled : Option Addr} {sl__law_shuffled : Array (Option Value)} {oc__law_shuffled kV__law_shuffled dc__law_shuffled pm__law_shuffled cd__law_shuffled ct__law_shuffled : Value}
    {f__law_words_heard : Addr} {od__law_words_heard an__law_words_heard : Option Addr} {sl__law_words_heard : Array (Option Value)} {oc__law_words_heard kV__law_words_heard dc__law_words_heard pm__law_words_heard cd__law_words_heard ct__law_words_heard : Value}
    {f_last_known : Addr} {od_last_known an_last_known : Option Addr} {sl_last_known : Array (Option Value)} {oc_last_known kV_last_known dc_last_known pm_last_known cd_last_known ct_last_known : Value}
    {f_guess_of : Addr} {od_guess_of an_guess_of : Option Addr} {sl_guess_of : Array (Option Value)} {oc_guess_of kV_guess_of dc_guess_of pm_guess_of cd_guess_of ct_guess_of : Value}
    {f__law_is_int : Addr} {od__law_is_int an__law_is_int : Option Addr} {sl__law_is_int : Array (Option Value)} {oc__law_is_int kV__law_is_int dc__law_is_int pm__law_is_int cd__law_is_int ct__law_is_int : Value}
    {f__law_due_guess : Addr} {od__law_due_guess an__law_due_guess : Option Addr} {sl__law_due_guess : Array (Option Value)} {oc__law_due_guess kV__law_due_guess dc__law_due_guess pm__law_due_guess cd__law_due_guess ct__law_due_guess : Value}
    {f__law_are_guesses : Addr} {od__law_are_guesses an__law_are_guesses : Option Addr} {sl__law_are_guesses : Array (Option Value)} {oc__law_are_guesses kV__law_are_guesses dc__law_are_guesses pm__law_are_guesses cd__law_are_guesses ct__law_are_guesses : Value}
    {f_law : Addr} {od_law an_law : Option Addr} {sl_law : Array (Option Value)} {oc_law kV_law dc_law pm_law cd_law ct_law : Value}
    (a__law_begin : PySem.W.nsIn K mainGlobals "_law_begin" = some (some (.ref f__law_begin))) (l__law_begin : K.lookup f__law_begin = some ⟨oc__law_begin, od__law_begin, .func (PySem.W.fnOf "_law_begin" "_law_begin" (defArgs s__law_begin) (defBody s__law_begin) (defScope s__law_begin) .none kV__law_begin dc__law_begin pm__law_begin an__law_begin cd__law_begin ct__law_begin), sl__law_begin⟩) (c__law_begin : PySem.W.codeIn K cd__law_begin "_law_begin" = true) (k__law_begin : PySem.W.keepIn K (.ref f__law_begin) = true)
    (a__law_draw : PySem.W.nsIn K mainGlobals "_law_draw" = some (some (.ref f__law_draw))) (l__law_draw : K.lookup f__law_draw = some ⟨oc__law_draw, od__law_draw, .func (PySem.W.fnOf "_law_draw" "_law_draw" (defArgs s__law_draw) (defBody s__law_draw) (defScope s__law_draw) .none kV__law_draw dc__law_draw pm__law_draw an__law_draw cd__law_draw ct__law_draw), sl__law_draw⟩) (c__law_draw : PySem.W.codeIn K cd__law_draw "_law_draw" = true) (k__law_draw : PySem.W.keepIn K (.ref f__law_draw) = true)
    (a__law_pick : PySem.W.nsIn K mainGlobals "_law_pick" = some (some (.ref f__law_pick))) (l__law_pick : K.lookup f__law_pick = some ⟨oc__law_pick, od__law_pick, .func (PySem.W.fnOf "_law_pick" "_law_pick" (defArgs s__law_pick) (defBody s__law_pick) (defScope s__law_pick) .none kV__law_pick dc__law_pick pm__law_pick an__law_pick cd__law_pick ct__law_pick), sl__law_pick⟩) (c__law_pick : PySem.W.codeIn K cd__law_pick "_law_pick" = true) (k__law_pick : PySem.W.keepIn K (.ref f__law_pick) = true)
    (a__law_guess : PySem.W.nsIn K mainGlobals "_law_guess" = some (some (.ref f__law_guess))) (l__law_guess : K.lookup f__law_guess = some ⟨oc__law_guess, od__law_guess, .func (PySem.W.fnOf "_law_guess" "_law_guess" (defArgs s__law_guess) (defBody s__law_guess) (defScope s__law_guess) .none kV__law_guess dc__law_guess pm__law_guess an__law_guess cd__law_guess ct__law_guess), sl__law_guess⟩) (c__law_guess : PySem.W.codeIn K cd__law_guess "_law_guess" = true) (k__law_guess : PySem.W.keepIn K (.ref f__law_guess) = true)
    (a__law_shuffled : PySem.W.nsIn K mainGlobals "_law_shuffled" = some (some (.ref f__law_shuffled))) (l__law_shuffled : K.lookup f__law_shuffled = some ⟨oc__law_shuffled, od__law_shuffled, .func (PySem.W.fnOf "_law_shuffled" "_law_shuffled" (defArgs s__law_shuffled) (defBody s__law_shuffled) (defScope s__law_shuffled) .none kV__law_shuffled dc__law_shuffled pm__law_shuffled an__law_shuffled cd__law_shuffled ct__law_shuffled), sl__law_shuffled⟩) (c__law_shuffled : PySem.W.codeIn K cd__law_shuffled "_law_shuffled" = true) (k__law_shuffled : PySem.W.keepIn K (.ref f__law_shuffled) = true)
    (a__law_words_heard : PySem.W.nsIn K mainGlobals "_law_words_heard" = some (some (.ref f__law_words_heard))) (l__law_words_heard : K.lookup f__law_words_heard = some ⟨oc__law_words_heard, od__law_words_heard, .func (PySem.W.fnOf "_law_words_heard" "_law_words_heard" (defArgs s__law_words_heard) (defBody s__law_words_heard) (defScope s__law_words_heard) .none kV__law_words_heard dc__law_words_heard pm__law_words_heard an__law_words_heard cd__law_words_heard ct__law_words_heard), sl__law_words_heard⟩) (c__law_words_heard : PySem.W.codeIn K cd__law_words_heard "_law_words_heard" = true) (k__law_words_heard : PySem.W.keepIn K (.ref f__law_words_heard) = true)
    (a_last_known : PySem.W.nsIn K mainGlobals "last_known" = some (some (.ref f_last_known))) (l_last_known : K.lookup f_last_known = some ⟨oc_last_known, od_last_known, .func (PySem.W.fnOf "last_known" "last_known" (defArgs s_last_known) (defBody s_last_known) (defScope s_last_known) .none kV_last_known dc_last_known pm_last_known an_last_known cd_last_known ct_last_known), sl_last_known⟩) (c_last_known : PySem.W.codeIn K cd_last_known "last_known" = true) (k_last_known : PySem.W.keepIn K (.ref f_last_known) = true)
    (a_guess_of : PySem.W.nsIn K mainGlobals "guess_of" = some (some (.ref f_guess_of))) (l_guess_of : K.lookup f_guess_of = some ⟨oc_guess_of, od_guess_of, .func (PySem.W.fnOf "guess_of" "guess_of" (defArgs s_guess_of) (defBody s_guess_of) (defScope s_guess_of) .none kV_guess_of dc_guess_of pm_guess_of an_guess_of cd_guess_of ct_guess_of), sl_guess_of⟩) (c_guess_of : PySem.W.codeIn K cd_guess_of "guess_of" = true) (k_guess_of : PySem.W.keepIn K (.ref f_guess_of) = true)
    (a__law_is_int : PySem.W.nsIn K mainGlobals "_law_is_int" = some (some (.ref f__law_is_int))) (l__law_is_int : K.lookup f__law_is_int = some ⟨oc__law_is_int, od__law_is_int, .func (PySem.W.fnOf "_law_is_int" "_law_is_int" (defArgs s__law_is_int) (defBody s__law_is_int) (defScope s__law_is_int) .none kV__law_is_int dc__law_is_int pm__law_is_int an__law_is_int cd__law_is_int ct__law_is_int), sl__law_is_int⟩) (c__law_is_int : PySem.W.codeIn K cd__law_is_int "_law_is_int" = true) (k__law_is_int : PySem.W.keepIn K (.ref f__law_is_int) = true)
    (a__law_due_guess : PySem.W.nsIn K mainGlobals "_law_due_guess" = some (some (.ref f__law_due_guess))) (l__law_due_guess : K.lookup f__law_due_guess = some ⟨oc__law_due_guess, od__law_due_guess, .func (PySem.W.fnOf "_law_due_guess" "_law_due_guess" (defArgs s__law_due_guess) (defBody s__law_due_guess) (defScope s__law_due_guess) .none kV__law_due_guess dc__law_due_guess pm__law_due_guess an__law_due_guess cd__law_due_guess ct__law_due_guess), sl__law_due_guess⟩) (c__law_due_guess : PySem.W.codeIn K cd__law_due_guess "_law_due_guess" = true) (k__law_due_guess : PySem.W.keepIn K (.ref f__law_due_guess) = true)
    (a__law_are_guesses : PySem.W.nsIn K mainGlobals "_law_are_guesses" = some (some (.ref f__law_are_guesses))) (l__law_are_guesses : K.lookup f__law_are_guesses = some ⟨oc__law_are_guesses, od__law_are_guesses, .func (PySem.W.fnOf "_law_are_guesses" "_law_are_guesses" (defArgs s__law_are_guesses) (defBody s__law_are_guesses) (defScope s__law_are_guesses) .none kV__law_are_guesses dc__law_are_guesses pm__law_are_guesses an__law_are_guesses cd__law_are_guesses ct__law_are_guesses), sl__law_are_guesses⟩) (c__law_are_guesses : PySem.W.codeIn K cd__law_are_guesses "_law_are_guesses" = true) (k__law_are_guesses : PySem.W.keepIn K (.ref f__law_are_guesses) = true)
    (a_law : PySem.W.nsIn K mainGlobals "law" = some (some (.ref f_law))) (l_law : K.lookup f_law = some ⟨oc_law, od_law, .func (PySem.W.fnOf "law" "law" (defArgs s_law) (defBody s_law) (defScope s_law) .none kV_law dc_law pm_law an_law cd_law ct_law), sl_law⟩) (c_law : PySem.W.codeIn K cd_law "law" = true) (k_law : PySem.W.keepIn K (.ref f_law) = true)
    (z_int : PySem.W.nsIn K mainGlobals "int" = some none)
    (z_len : PySem.W.nsIn K mainGlobals "len" = some none)
    (z_abs : PySem.W.nsIn K mainGlobals "abs" = some none)
    (z_tuple : PySem.W.nsIn K mainGlobals "tuple" = some none)
    (z_list : PySem.W.nsIn K mainGlobals "list" = some none)
    (z_range : PySem.W.nsIn K mainGlobals "range" = some none)
    (z_isinstance : PySem.W.nsIn K mainGlobals "isinstance" = some none)
    (z_bool : PySem.W.nsIn K mainGlobals "bool" = some none)
    (z_reversed : PySem.W.nsIn K mainGlobals "reversed" = some none)
    : ∃ fd : FuncData, (∀ (s : Shared) (v : Value), BindsTo s fd ⟨[v], []⟩ [("script", v)]) ∧ ∀ base : Heap, K.In base → base.Ns mainGlobals mg → FnOk l.prog w K mg base CX0 4 fa fd ["script"] (sp_law K) := by
  have e := hfa.symm.trans (PySem.W.mg_of X G a_law)
  cases e
  have T : Txt mg := ⟨PySem.W.mg_none_of X G z_int, PySem.W.mg_none_of X G z_len, PySem.W.mg_none_of X G z_abs, PySem.W.mg_none_of X G z_tuple, PySem.W.mg_none_of X G z_list, PySem.W.mg_none_of X G z_range, PySem.W.mg_none_of X G z_isinstance, PySem.W.mg_none_of X G z_bool, PySem.W.mg_none_of X G z_reversed⟩
  have F__law_begin := fun_mk (st := s__law_begin) l__law_begin c__law_begin k__law_begin
  have D__law_begin : Df K mg "_law_begin" s__law_begin f__law_begin _ ["script"] := ⟨F__law_begin, PySem.W.mg_of X G a__law_begin, F__law_begin.binds (ps := ["script"]) fun _ _ _ _ _ _ us hl => match us, hl with | [_], _ => rfl⟩
  have F__law_draw := fun_mk (st := s__law_draw) l__law_draw c__law_draw k__law_draw
  have D__law_draw : Df K mg "_law_draw" s__law_draw f__law_draw _ ["d", "many"] := ⟨F__law_draw, PySem.W.mg_of X G a__law_draw, F__law_draw.binds (ps := ["d", "many"]) fun _ _ _ _ _ _ us hl => match us, hl with | [_, _], _ => rfl⟩
  have F__law_pick := fun_mk (st := s__law_pick) l__law_pick c__law_pick k__law_pick
  have D__law_pick : Df K mg "_law_pick" s__law_pick f__law_pick _ ["d", "row"] := ⟨F__law_pick, PySem.W.mg_of X G a__law_pick, F__law_pick.binds (ps := ["d", "row"]) fun _ _ _ _ _ _ us hl => match us, hl with | [_, _], _ => rfl⟩
  have F__law_guess := fun_mk (st := s__law_guess) l__law_guess c__law_guess k__law_guess
  have D__law_guess : Df K mg "_law_guess" s__law_guess f__law_guess _ ["d", "many"] := ⟨F__law_guess, PySem.W.mg_of X G a__law_guess, F__law_guess.binds (ps := ["d", "many"]) fun _ _ _ _ _ _ us hl => match us, hl with | [_, _], _ => rfl⟩
  have F__law_shuffled := fun_mk (st := s__law_shuffled) l__law_shuffled c__law_shuffled k__law_shuffled
  have D__law_shuffled : Df K mg "_law_shuffled" s__law_shuffled f__law_shuffled _ ["d", "row"] := ⟨F__law_shuffled, PySem.W.mg_of X G a__law_shuffled, F__law_shuffled.binds (ps := ["d", "row"]) fun _ _ _ _ _ _ us hl => match us, hl with | [_, _], _ => rfl⟩
  have F__law_words_heard := fun_mk (st := s__law_words_heard) l__law_words_heard c__law_words_heard k__law_words_heard
  have D__law_words_heard : Df K mg "_law_words_heard" s__law_words_heard f__law_words_heard _ ["d", "ticks", "many"] := ⟨F__law_words_heard, PySem.W.mg_of X G a__law_words_heard, F__law_words_heard.binds (ps := ["d", "ticks", "many"]) fun _ _ _ _ _ _ us hl => match us, hl with | [_, _, _], _ => rfl⟩
  have F_last_known := fun_mk (st := s_last_known) l_last_known c_last_known k_last_known
  have D_last_known : Df K mg "last_known" s_last_known f_last_known _ ["known", "tick"] := ⟨F_last_known, PySem.W.mg_of X G a_last_known, F_last_known.binds (ps := ["known", "tick"]) fun _ _ _ _ _ _ us hl => match us, hl with | [_, _], _ => rfl⟩
  have F_guess_of := fun_mk (st := s_guess_of) l_guess_of c_guess_of k_guess_of
  have D_guess_of : Df K mg "guess_of" s_guess_of f_guess_of _ ["table", "known", "tick"] := ⟨F_guess_of, PySem.W.mg_of X G a_guess_of, F_guess_of.binds (ps := ["table", "known", "tick"]) fun _ _ _ _ _ _ us hl => match us, hl with | [_, _, _], _ => rfl⟩
  have F__law_is_int := fun_mk (st := s__law_is_int) l__law_is_int c__law_is_int k__law_is_int
  have D__law_is_int : Df K mg "_law_is_int" s__law_is_int f__law_is_int _ ["thing"] := ⟨F__law_is_int, PySem.W.mg_of X G a__law_is_int, F__law_is_int.binds (ps := ["thing"]) fun _ _ _ _ _ _ us hl => match us, hl with | [_], _ => rfl⟩
  have F__law_due_guess := fun_mk (st := s__law_due_guess) l__law_due_guess c__law_due_guess k__law_due_guess
  have D__law_due_guess : Df K mg "_law_due_guess" s__law_due_guess f__law_due_guess _ ["table", "rows", "tick"] := ⟨F__law_due_guess, PySem.W.mg_of X G a__law_due_guess, F__law_due_guess.binds (ps := ["table", "rows", "tick"]) fun _ _ _ _ _ _ us hl => match us, hl with | [_, _, _], _ => rfl⟩
  have F__law_are_guesses := fun_mk (st := s__law_are_guesses) l__law_are_guesses c__law_are_guesses k__law_are_guesses
  have D__law_are_guesses : Df K mg "_law_are_guesses" s__law_are_guesses f__law_are_guesses _ ["table", "known", "rows", "ticks"] := ⟨F__law_are_guesses, PySem.W.mg_of X G a__law_are_guesses, F__law_are_guesses.binds (ps := ["table", "known", "rows", "ticks"]) fun _ _ _ _ _ _ us hl => match us, hl with | [_, _, _, _], _ => rfl⟩
  have F_law := fun_mk (st := s_law) l_law c_law k_law
  have D_law : Df K mg "law" s_law _ _ ["script"] := ⟨F_law, PySem.W.mg_of X G a_law, F_law.binds (ps := ["script"]) fun _ _ _ _ _ _ us hl => match us, hl with | [_], _ => rfl⟩
  refine ⟨PySem.W.fnOf "law" "law" (defArgs s_law) (defBody s_law) (defScope s_law) .none kV_law dc_law pm_law an_law cd_law ct_law, fun s v => .of_eq rfl, fun base _ _ => ?_⟩
  have C__law_begin : Cl l.prog w K mg base 1 "_law_begin" (sp__law_begin K) := D__law_begin.cl (ok__law_begin D__law_begin T )
  have C__law_draw : Cl l.prog w K mg base 1 "_law_draw" (sp__law_draw K) := D__law_draw.cl (ok__law_draw D__law_draw T )
  have C__law_pick : Cl l.prog w K mg base 2 "_law_pick" (sp__law_pick K) := D__law_pick.cl (ok__law_pick D__law_pick T C__law_draw)
  have C__law_guess : Cl l.prog w K mg base 2 "_law_guess" (sp__law_guess K) := D__law_guess.cl (ok__law_guess D__law_guess T C__law_draw)
  have C__law_shuffled : Cl l.prog w K mg base 2 "_law_shuffled" (sp__law_shuffled K) := D__law_shuffled.cl (ok__law_shuffled D__law_shuffled T C__law_draw)
  have C__law_words_heard : Cl l.prog w K mg base 3 "_law_words_heard" (sp__law_words_heard K) := D__law_words_heard.cl (ok__law_words_heard D__law_words_heard T C__law_shuffled C__law_draw)
  have C_last_known : Cl l.prog w K mg base 1 "last_known" (sp_last_known K) := D_last_known.cl (ok_last_known D_last_known T )
  have C_guess_of : Cl l.prog w K mg base 2 "guess_of" (sp_guess_of K) := D_guess_of.cl (ok_guess_of D_guess_of T C_last_known)
  have C__law_is_int : Cl l.prog w K mg base 1 "_law_is_int" (sp__law_is_int K) := D__law_is_int.cl (ok__law_is_int D__law_is_int T )
  have C__law_due_guess : Cl l.prog w K mg base 1 "_law_due_guess" (sp__law_due_guess K) := D__law_due_guess.cl (ok__law_due_guess D__law_due_guess T )
  have C__law_are_guesses : Cl l.prog w K mg base 3 "_law_are_guesses" (sp__law_are_guesses K) := D__law_are_guesses.cl (ok__law_are_guesses D__law_are_guesses T C_guess_of C__law_is_int C__law_due_guess)
  exact ok_law D_law T C__law_begin C__law_pick C__law_guess C__law_words_heard C__law_are_guesses C__law_draw
theorem walk {l : PySem.W.OpenLaw} {q : Program} {loose : List Str} {XP : (Str → Option Value) → Heap → Prop} {YP : World → Heap → Prop} {d : DefRec} {K : Params → PySem.W.Frag} (hn : l.most = some 63) (hdf : d.params.defaults = [])
    (hY : ∀ (w : World) (h : Heap), YP w h → (K w.params).In h)
    (F : ∀ (w : World) (mg : Str → Option Value) (fa : Addr) (h : Heap), (K w.params).In h → h.Ns mainGlobals mg → mg d.name = some (.ref fa) →
      ∃ fd : FuncData, (∀ (s : Shared) (u : Value), BindsTo s fd ⟨[u], []⟩ [("script", u)]) ∧ ∀ base : Heap, (K w.params).In base → base.Ns mainGlobals mg → FnOk l.prog w (K w.params) mg base CX0 4 fa fd ["script"] (sp_law (K w.params))) :
    PySem.W.WalkO q loose XP YP l.row.toRowW d [] (fun f vs => PySem.call f vs) :=
  L2.walk_ofB (n := 63) (k := 4) (x := "script") (CX := fun _ => CX0) (sp := fun w => sp_law (K w.params)) hn (by decide) hdf ⟨rfl, by decide, by decide⟩ hY F (fun _ _ a ns hl hb _ hS => law_hands a ns hl hb hS) fun _ _ _ _ _ z => z
end Law
open PySem PySem.W PyProof.Rows in
set_option maxRecDepth 100000 in
set_option maxHeartbeats 0 in
theorem PySem.Challenge.cw_judgedplay_k26_guesses_holds : PySem.Challenge.rw_judgedplay_k26_guesses.Holds := by
  w_on; o_law; k_head; (case hw => w_witness2)
  k_fill
  refine Law.walk (l := PySem.Challenge.rw_judgedplay_k26_guesses) rfl rfl (fun w h Y => PySem.W.kIn_of Y) ?F
  case F =>
    intro w mg fa h KX G hmg
    refine' Law.all_mk KX G hmg ?a__law_begin ?l__law_begin ?c__law_begin ?k__law_begin ?a__law_draw ?l__law_draw ?c__law_draw ?k__law_draw ?a__law_pick ?l__law_pick ?c__law_pick ?k__law_pick ?a__law_guess ?l__law_guess ?c__law_guess ?k__law_guess ?a__law_shuffled ?l__law_shuffled ?c__law_shuffled ?k__law_shuffled ?a__law_words_heard ?l__law_words_heard ?c__law_words_heard ?k__law_words_heard ?a_last_known ?l_last_known ?c_last_known ?k_last_known ?a_guess_of ?l_guess_of ?c_guess_of ?k_guess_of ?a__law_is_int ?l__law_is_int ?c__law_is_int ?k__law_is_int ?a__law_due_guess ?l__law_due_guess ?c__law_due_guess ?k__law_due_guess ?a__law_are_guesses ?l__law_are_guesses ?c__law_are_guesses ?k__law_are_guesses ?a_law ?l_law ?c_law ?k_law ?z_int ?z_len ?z_abs ?z_tuple ?z_list ?z_range ?z_isinstance ?z_bool ?z_reversed
    (case a__law_begin => k_is)
    (case l__law_begin => k_is)
    (case c__law_begin => k_is)
    (case k__law_begin => k_is)
    (case a__law_draw => k_is)
    (case l__law_draw => k_is)
    (case c__law_draw => k_is)
    (case k__law_draw => k_is)
    (case a__law_pick => k_is)
    (case l__law_pick => k_is)
    (case c__law_pick => k_is)
    (case k__law_pick => k_is)
    (case a__law_guess => k_is)
    (case l__law_guess => k_is)
    (case c__law_guess => k_is)
    (case k__law_guess => k_is)
    (case a__law_shuffled => k_is)
    (case l__law_shuffled => k_is)
    (case c__law_shuffled => k_is)
    (case k__law_shuffled => k_is)
    (case a__law_words_heard => k_is)
    (case l__law_words_heard => k_is)
    (case c__law_words_heard => k_is)
    (case k__law_words_heard => k_is)
    (case a_last_known => k_is)
    (case l_last_known => k_is)
    (case c_last_known => k_is)
    (case k_last_known => k_is)
    (case a_guess_of => k_is)
    (case l_guess_of => k_is)
    (case c_guess_of => k_is)
    (case k_guess_of => k_is)
    (case a__law_is_int => k_is)
    (case l__law_is_int => k_is)
    (case c__law_is_int => k_is)
    (case k__law_is_int => k_is)
    (case a__law_due_guess => k_is)
    (case l__law_due_guess => k_is)
    (case c__law_due_guess => k_is)
    (case k__law_due_guess => k_is)
    (case a__law_are_guesses => k_is)
    (case l__law_are_guesses => k_is)
    (case c__law_are_guesses => k_is)
    (case k__law_are_guesses => k_is)
    (case a_law => k_is)
    (case l_law => k_is)
    (case c_law => k_is)
    (case k_law => k_is)
    (case z_int => k_is)
    (case z_len => k_is)
    (case z_abs => k_is)
    (case z_tuple => k_is)
    (case z_list => k_is)
    (case z_range => k_is)
    (case z_isinstance => k_is)
    (case z_bool => k_is)
    (case z_reversed => k_is)
#print axioms PySem.Challenge.cw_judgedplay_k26_guesses_holds
