import PyProof.Rows.All
import Wide.All
import OpenK.AllK
import Wide.FinOn
import HandS.ForMost
import HandS.Wide
import HandS.WideBits
import HandS.IsInst
import HandS.TupAny
import HandS.Deep
import HandS.EndBits
import HandS.More
import HandS.Walk
import HandS.Conv
import HandS.SortRule
import PySem.Challenge.RW_judgedplay_k29_post_brings
set_option Elab.async false
set_option linter.all false
set_option maxRecDepth 100000
set_option maxHeartbeats 4000000
/-! ### my own layer: introduction forms for the readings -/
namespace Jp
open PySem PySem.Spec PyProof.Rows L2
/-! rules by names -/
section
variable {X : Cx}
def rInt1 : List V → Hp → VK → Prop := fun xs H Q => (∃ i, xs = [.int i] ∧ Q (.int i) H) ∨ ∃ k, xs = [.bl k] ∧ Q (.int (if k then 1 else 0)) H
theorem c_int : CallR X (.type "int") rInt1 := call_int1
def rAbs : List V → Hp → VK → Prop := fun xs H Q => ∃ i, xs = [.int i] ∧ Q (.int (if i < 0 then -i else i)) H
theorem c_abs : CallR X (.builtin "abs") rAbs := call_abs
def rMax2 : List V → Hp → VK → Prop := fun xs H Q => ∃ i j, xs = [.int i, .int j] ∧ Q (.int (if j > i then j else i)) H
theorem c_max2 (hc : X.calm = true) : CallR X (.builtin "max") rMax2 := call_max2 hc
def rMin2 : List V → Hp → VK → Prop := fun xs H Q => ∃ i j, xs = [.int i, .int j] ∧ Q (.int (if j < i then j else i)) H
theorem c_min2 (hc : X.calm = true) : CallR X (.builtin "min") rMin2 := call_min2 hc
def qLen (K : PySem.W.Frag) : List V → Hp → VK → Prop := fun xs H Q => ∃ x n, xs = [x] ∧ LenV K x H n ∧ Q (.int (n : Nat)) H
theorem c_len : CallR X (.builtin "len") (qLen X.K) := call_len
def rLenD : List V → Hp → VK → Prop := fun xs H Q => ∃ a kvs, xs = [V.ref a] ∧ H a = some (.dK kvs) ∧ Q (.int kvs.length) H
theorem c_lenD : CallR X (.builtin "len") rLenD := call_lenD
def rTupOf (K : PySem.W.Frag) : List V → Hp → VK → Prop := fun xs H Q => ∃ p ys, xs = [.ref p] ∧ ((SqL K H p ys ∧ ∀ l, H l = none → Q (.ref l) (upd H l (.tup ys))) ∨ (SqT K H p ys ∧ Q (.ref p) H))
theorem c_tup : CallR X (.type "tuple") (rTupOf X.K) := call_tuple_of
def rLstOf (K : PySem.W.Frag) : List V → Hp → VK → Prop := fun xs H Q => ∃ p ys, xs = [.ref p] ∧ (SqL K H p ys ∨ SqT K H p ys) ∧ ∀ l, H l = none → Q (.ref l) (upd H l (.lst ys))
theorem c_lst : CallR X (.type "list") (rLstOf X.K) := call_list_of
def rBool1 : List V → Hp → VK → Prop := fun xs H Q => (∃ i, xs = [.int i] ∧ Q (.bl (i != 0)) H) ∨ ∃ k, xs = [.bl k] ∧ Q (.bl k) H
theorem c_bool1 : CallR X (.type "bool") rBool1 := call_bool1
def rIsNon : R2 := fun x y H Q => y = .non ∧ Q (.bl (decide (x = .non))) H
theorem o_isN : OpR X (compareOp .Is) rIsNon := op_isN
def rNotNon : R2 := fun x y H Q => y = .non ∧ Q (.bl (!decide (x = .non))) H
theorem o_notN : OpR X (compareOp .IsNot) rNotNon := op_notN
def rAddStr : R2 := fun x y H Q => ∃ i j, x = .str i ∧ y = .str j ∧ i.length + j.length ≤ sizeLine ∧ Q (.str (i ++ j)) H
theorem o_addS : OpR X (binaryOp .Add) rAddStr := op_add_str
theorem o_iaddS : OpR X (inplaceOp .Add) rAddStr := iop_add_str
end
section
variable {K : PySem.W.Frag} {σ : L2.St} {H : Hp} {Q : VK}
theorem i_isN {x : V} (q : Q (.bl (decide (x = .non))) H) : rIsNon x .non H Q := ⟨rfl, q⟩
theorem i_notN {x : V} (q : Q (.bl (!decide (x = .non))) H) : rNotNon x .non H Q := ⟨rfl, q⟩
theorem i_int {i : Int} (q : Q (.int i) H) : rInt1 [.int i] H Q := .inl ⟨i, rfl, q⟩
theorem i_intB {k : Bool} (q : Q (.int (if k then 1 else 0)) H) : rInt1 [.bl k] H Q := .inr ⟨k, rfl, q⟩
theorem i_abs {i : Int} (q : Q (.int (if i < 0 then -i else i)) H) : rAbs [.int i] H Q := ⟨i, rfl, q⟩
theorem i_max2 {i j : Int} (q : Q (.int (if j > i then j else i)) H) : rMax2 [.int i, .int j] H Q := ⟨i, j, rfl, q⟩
theorem i_min2 {i j : Int} (q : Q (.int (if j < i then j else i)) H) : rMin2 [.int i, .int j] H Q := ⟨i, j, rfl, q⟩
theorem i_lenL {p : Addr} {xs : List V} (h : SqL K H p xs) (q : Q (.int xs.length) H) : qLen K [.ref p] H Q := ⟨.ref p, xs.length, rfl, .inl ⟨xs, h, rfl⟩, q⟩
theorem i_lenT {p : Addr} {xs : List V} (h : SqT K H p xs) (q : Q (.int xs.length) H) : qLen K [.ref p] H Q := ⟨.ref p, xs.length, rfl, .inr ⟨xs, h, rfl⟩, q⟩
theorem i_lenS {x : Str} (h : x.length ≤ sizeLine) (q : Q (.int x.length) H) : qLen K [.str x] H Q := ⟨.str x, x.length, rfl, ⟨h, rfl⟩, q⟩
theorem i_lenD {p : Addr} {kvs : List (L2.Key × V)} (h : H p = some (.dK kvs)) (q : Q (.int kvs.length) H) : rLenD [.ref p] H Q := ⟨p, kvs, rfl, h, q⟩
theorem i_tupL {p : Addr} {ys : List V} (h : SqL K H p ys) (q : ∀ l, H l = none → Q (.ref l) (upd H l (.tup ys))) : rTupOf K [.ref p] H Q := ⟨p, ys, rfl, .inl ⟨h, q⟩⟩
theorem i_tupT {p : Addr} {ys : List V} (h : SqT K H p ys) (q : Q (.ref p) H) : rTupOf K [.ref p] H Q := ⟨p, ys, rfl, .inr ⟨h, q⟩⟩
theorem i_lstL {p : Addr} {ys : List V} (h : SqL K H p ys) (q : ∀ l, H l = none → Q (.ref l) (upd H l (.lst ys))) : rLstOf K [.ref p] H Q := ⟨p, ys, rfl, .inl h, q⟩
theorem i_lstT {p : Addr} {ys : List V} (h : SqT K H p ys) (q : ∀ l, H l = none → Q (.ref l) (upd H l (.lst ys))) : rLstOf K [.ref p] H Q := ⟨p, ys, rfl, .inr h, q⟩
theorem i_catA {p b : Addr} {xs ys : List V} (h1 : SqT K H p xs) (h2 : SqT K H b ys) (hl : xs.length + ys.length ≤ sizeLine) (q : ∀ (r : Addr) (H' : Hp), (∀ b o, H b = some o → H' b = some o) → SqT K H' r (xs ++ ys) → Q (.ref r) H') : rCatA K (.ref p) (.ref b) H Q := by
  refine ⟨p, b, xs, ys, rfl, rfl, h1, h2, hl, fun e => ?_, fun _ e => ?_, fun _ _ r hr => ?_⟩
  · subst e; exact q b H (fun _ _ h => h) h2
  · subst e; exact q p H (fun _ _ h => h) (by rw [List.append_nil]; exact h1)
  · exact q r _ (fun b o e => by rw [upd_ne (ne_of_none e hr)]; exact e) (.inl (.inl upd_same))
theorem i_catI {p b : Addr} {ns ms : List Int} (h1 : SqT K H p (ns.map V.int)) (h2 : SqT K H b (ms.map V.int)) (hl : ns.length + ms.length ≤ 10000) (q : ∀ (r : Addr) (H' : Hp), (∀ b o, H b = some o → H' b = some o) → SqT K H' r ((ns ++ ms).map V.int) → Q (.ref r) H') : rCatA K (.ref p) (.ref b) H Q :=
  i_catA h1 h2 (by rw [List.length_map, List.length_map]; exact Nat.le_trans hl (by decide)) fun r H' s t => q r H' s (by rw [List.map_append]; exact t)
/-- ns[lo:hi] -/
def cutI (ns : List Int) (lo hi : Option Int) : List Int := (ns.drop (HT.sIx ns.length 0 lo)).take (HT.sIx ns.length ns.length hi - HT.sIx ns.length 0 lo)
theorem cutI_len (ns : List Int) (lo hi : Option Int) : (cutI ns lo hi).length ≤ ns.length := by
  unfold cutI
  rw [List.length_take, List.length_drop]
  omega
theorem i_slI {p : Addr} {ns : List Int} {lo hi : Option Int} (h : SqT K H p (ns.map V.int)) (hw : ¬ (HT.sIx ns.length 0 lo = 0 ∧ HT.sIx ns.length ns.length hi = ns.length))
    (q : ∀ (r : Addr) (H' : Hp), (∀ b o, H b = some o → H' b = some o) → SqT K H' r ((cutI ns lo hi).map V.int) → Q (.ref r) H') : rSlT K (.ref p) lo hi H Q := by
  refine ⟨p, _, rfl, h, by rw [List.length_map]; exact hw, fun r hr => q r _ (fun b o e => by rw [upd_ne (ne_of_none e hr)]; exact e) (.inl (.inl ?_))⟩
  rw [upd_same]
  unfold cutV cutI
  rw [List.length_map, List.map_take, List.map_drop]
theorem i_sl {r : V → Option Int → Option Int → Hp → VK → Prop} {te : TE} {tl th : TO} (h : te σ H fun x H1 => tl σ H1 fun l H2 => th σ H2 fun u H3 => r x l u H3 Q) : tSl r te tl th σ H Q := h
theorem i_noPart {Q : Option Int → Hp → Prop} (q : Q none H) : tNoPart σ H Q := q
theorem i_part {t : TE} {Q : Option Int → Hp → Prop} (h : t σ H fun x H1 => ∃ i, x = .int i ∧ Q (some i) H1) : tPart t σ H Q := h
theorem i_cat {p b : Addr} {xs zs : List V} (h1 : H p = some (.lst xs)) (h2 : H b = some (.lst zs)) (hl : xs.length + zs.length ≤ sizeLine) (q : ∀ r, H r = none → Q (.ref r) (upd H r (.lst (xs ++ zs)))) : rCat (.ref p) (.ref b) H Q := ⟨p, b, xs, zs, rfl, rfl, h1, h2, hl, q⟩
theorem i_cat' {p b : Addr} {xs zs : List V} (e1 : H p = some (.lst xs)) (e2 : H b = some (.lst zs)) (hl : xs.length + zs.length ≤ 10000) (q : ∀ r H', (∀ b o, H b = some o → H' b = some o) → H r = none → H' r = some (.lst (xs ++ zs)) → Q (.ref r) H') : rCat (.ref p) (.ref b) H Q :=
  i_cat e1 e2 (by rw [sizeLine_eq]; omega) fun r hr => q r _ (fun b o e => by rw [upd_ne (ne_of_none e hr)]; exact e) hr upd_same
theorem i_slL {p : Addr} {xs : List V} {lo hi : Option Int} (h : SqL K H p xs) (q : ∀ r H', (∀ b o, H b = some o → H' b = some o) → H r = none → H' r = some (.lst (cutV xs lo hi)) → Q (.ref r) H') : rSlL K (.ref p) lo hi H Q :=
  ⟨p, xs, rfl, h, fun r hr => q r _ (fun b o e => by rw [upd_ne (ne_of_none e hr)]; exact e) hr upd_same⟩
theorem i_chain {r r' : R2} {ta tb tc : TE} (h : ta σ H fun x H1 => tb σ H1 fun y H2 => r x y H2 fun z H3 => ∃ k, z = .bl k ∧ (if k = true then tc σ H3 fun w' H4 => r' y w' H4 Q else Q (.bl false) H3)) : tChain r r' ta tb tc σ H Q := h
theorem i_popAt {p : Addr} {xs : List V} {i : Int} {y : V} (h : H p = some (.lst xs)) (h0 : 0 ≤ i) (h1 : i < xs.length) (h2 : xs.length ≤ 1000000) (e : xs[i.toNat]? = some y) (q : Q y (upd H p (.lst (xs.eraseIdx i.toNat)))) : rPopAt (.ref p) [.int i] H Q :=
  ⟨p, xs, i, i.toNat, y, rfl, rfl, h, by omega, by omega, seqIndex_of h0 h1, e, q⟩
theorem i_isI {i : Int} {Q : Int → Prop} (q : Q i) : ∃ i', V.int i = .int i' ∧ Q i' := ⟨i, rfl, q⟩
theorem i_bm {T : String} {r : V → List V → Hp → VK → Prop} {to : TE} {t : TA} (h : to σ H fun x H1 => tyV K T x H1 ∧ t σ H1 fun xs H2 => r x xs H2 Q) : tBM K T r to t σ H Q := h
theorem i_bm0 {T : String} {r : V → List V → Hp → VK → Prop} {to : TE} (h : to σ H fun x H1 => tyV K T x H1 ∧ r x [] H1 Q) : tBM0 K T r to σ H Q := h
theorem i_tyL {p : Addr} {xs : List V} {R : Prop} (s : SqL K H p xs) (q : R) : tyV K "list" (.ref p) H ∧ R := ⟨.inl ⟨rfl, xs, s⟩, q⟩
theorem i_app {p : Addr} {xs : List V} {y : V} (h : H p = some (.lst xs)) (hl : xs.length < sizeLine) (q : Q .non (upd H p (.lst (xs ++ [y])))) : rAppend (.ref p) [y] H Q := ⟨p, xs, y, rfl, rfl, h, hl, q⟩
theorem i_addS {x y : Str} (h : x.length + y.length ≤ sizeLine) (q : Q (.str (x ++ y)) H) : rAddStr (.str x) (.str y) H Q := ⟨x, y, rfl, rfl, h, q⟩
theorem i_isi {x : V} {n : String} {t : Value} {b : Bool} (ty : TyX K H x t) (e : PySem.W.kitOne K t (.type n) = some b) (q : Q (.bl b) H) : rIsi K [x, .ty n] H Q := ⟨x, .ty n, t, .type n, b, rfl, .ty n, ty, e, q⟩
theorem i_var {i : Nat} {v : V} (h : σ[i]? = some (some v)) (q : Q v H) : tVar i σ H Q := ⟨v, h, q⟩
theorem i_c {v : V} (q : Q v H) : tC v σ H Q := q
theorem i_op {r : R2} {ta tb : TE} (h : ta σ H fun x H1 => tb σ H1 fun y H2 => r x y H2 Q) : tOp r ta tb σ H Q := h
theorem i_un {r : V → Hp → VK → Prop} {ta : TE} (h : ta σ H fun x H1 => r x H1 Q) : tUn r ta σ H Q := h
theorem i_rI0 {g : Int → Int → V} {i j : Int} (q : Q (g i j) H) : rI0 g (.int i) (.int j) H Q := ⟨i, j, rfl, rfl, q⟩
theorem i_rI {C : Int → Int → Prop} {g : Int → Int → V} {i j : Int} (c : C i j) (q : Q (g i j) H) : rI C g (.int i) (.int j) H Q := ⟨i, j, rfl, rfl, c, q⟩
theorem i_rU {g : Int → V} {i : Int} (q : Q (g i) H) : rU g (.int i) H Q := ⟨i, rfl, q⟩
theorem i_eqI {i j : Int} (q : Q (.bl (decide (i = j))) H) : rEq (.int i) (.int j) H Q := ⟨rfl, by
  have e : decide (V.int i = V.int j) = decide (i = j) := by simp
  rw [e]; exact q⟩
theorem i_neI {i j : Int} (q : Q (.bl (!decide (i = j))) H) : rNe (.int i) (.int j) H Q := ⟨rfl, by
  have e : decide (V.int i = V.int j) = decide (i = j) := by simp
  rw [e]; exact q⟩
theorem i_eqB {i j : Bool} (q : Q (.bl (decide (i = j))) H) : rEq (.bl i) (.bl j) H Q := ⟨rfl, by
  have e : decide (V.bl i = V.bl j) = decide (i = j) := by simp
  rw [e]; exact q⟩
theorem i_neB {i j : Bool} (q : Q (.bl (!decide (i = j))) H) : rNe (.bl i) (.bl j) H Q := ⟨rfl, by
  have e : decide (V.bl i = V.bl j) = decide (i = j) := by simp
  rw [e]; exact q⟩
theorem i_eqS {i j : Str} (q : Q (.bl (decide (i = j))) H) : rEq (.str i) (.str j) H Q := ⟨rfl, by
  have e : decide (V.str i = V.str j) = decide (i = j) := by simp
  rw [e]; exact q⟩
theorem i_neS {i j : Str} (q : Q (.bl (!decide (i = j))) H) : rNe (.str i) (.str j) H Q := ⟨rfl, by
  have e : decide (V.str i = V.str j) = decide (i = j) := by simp
  rw [e]; exact q⟩
/-! index -/
theorem i_ixL {p : Addr} {xs : List V} {i : Int} {v : V} (h : SqL K H p xs) (e : atI xs i = some v) (q : Q v H) : rIxL K (.ref p) (.int i) H Q := ⟨p, xs, i, v, rfl, rfl, h, e, q⟩
theorem i_ixT {p : Addr} {xs : List V} {i : Int} {v : V} (h : SqT K H p xs) (e : atI xs i = some v) (q : Q v H) : rIxT K (.ref p) (.int i) H Q := ⟨p, xs, i, v, rfl, rfl, h, e, q⟩
theorem i_ix1 {x y : V} (h : rIxL K x y H Q) : rIx K x y H Q := .inl h
theorem i_ix2 {x y : V} (h : rIxT K x y H Q) : rIx K x y H Q := .inr (.inl h)
/-! arguments, calls, displays -/
theorem i_nil {Q : List V → Hp → Prop} (q : Q [] H) : tNil σ H Q := q
theorem i_cons {ta : TE} {tr : TA} {Q : List V → Hp → Prop} (h : ta σ H fun x H1 => tr σ H1 fun xs H2 => Q (x :: xs) H2) : tCons ta tr σ H Q := h
theorem i_call {sp : Sp} {E : XK} {t : TA} (h : t σ H fun vs H1 => sp (vs ++ []) H1 Q E) : tCall sp [] E t σ H Q := h
theorem i_cb {r : List V → Hp → VK → Prop} {t : TA} (h : t σ H fun vs H1 => r vs H1 Q) : tCB r t σ H Q := h
theorem i_tup {t : TA} (h : t σ H fun xs H1 => xs.length ≤ sizeLine ∧ ∀ p, H1 p = none → Q (.ref p) (upd H1 p (.tup xs))) : tTup t σ H Q := h
theorem i_lst {t : TA} (h : t σ H fun xs H1 => xs.length ≤ sizeLine ∧ ∀ p, H1 p = none → Q (.ref p) (upd H1 p (.lst xs))) : tLst t σ H Q := h
theorem i_new {n : Nat} {R : Addr → Prop} (h : n ≤ sizeLine) (q : ∀ p, H p = none → R p) : n ≤ sizeLine ∧ ∀ p, H p = none → R p := ⟨h, q⟩
theorem i_if {c : TT} {ta tb : TE} (h : c σ H fun b H1 => if b = true then ta σ H1 Q else tb σ H1 Q) : tIf c ta tb σ H Q := h
theorem i_andV {ta tb : TE} (h : ta σ H fun x H1 => ∃ c, x = .bl c ∧ if c = true then tb σ H1 Q else Q (.bl false) H1) : tAndV ta tb σ H Q := h
theorem i_orV {ta tb : TE} (h : ta σ H fun x H1 => ∃ c, x = .bl c ∧ if c = true then Q (.bl true) H1 else tb σ H1 Q) : tOrV ta tb σ H Q := h
theorem i_notV {ta : TE} (h : ta σ H fun x H1 => ∃ c, x = .bl c ∧ Q (.bl (!c)) H1) : tNotV ta σ H Q := h
/-! tests -/
theorem i_test {t : TE} {Q : Bool → Hp → Prop} (h : t σ H fun x H1 => ∃ k, x = .bl k ∧ Q k H1) : tTest t σ H Q := h
theorem i_B {t : TE} {Q : Bool → Hp → Prop} (h : t σ H fun x H1 => ∃ k, x = .bl k ∧ Q k H1) : tB t σ H Q := h
theorem i_isb {k : Bool} {Q : Bool → Prop} (q : Q k) : ∃ k', V.bl k = .bl k' ∧ Q k' := ⟨k, rfl, q⟩
theorem i_and {t u : TT} {Q : Bool → Hp → Prop} (h : t σ H fun c H1 => if c = true then u σ H1 Q else Q false H1) : tAnd t u σ H Q := h
theorem i_or {t u : TT} {Q : Bool → Hp → Prop} (h : t σ H fun c H1 => if c = true then Q true H1 else u σ H1 Q) : tOr t u σ H Q := h
theorem i_not {t : TT} {Q : Bool → Hp → Prop} (h : t σ H fun c H1 => Q (!c) H1) : tNot t σ H Q := h
/-! statements -/
section
variable {nx : L2.St → Hp → Prop} {rt : VK} {bk ct : L2.St → Hp → Prop}
theorem i_seq {t u : TS} (h : t ⟨u ⟨nx, rt, bk, ct⟩, rt, bk, ct⟩ σ H) : tSeq t u ⟨nx, rt, bk, ct⟩ σ H := h
theorem i_next (h : nx σ H) : tNext ⟨nx, rt, bk, ct⟩ σ H := h
theorem i_asg {te : TE} {g : TG} (h : te σ H fun x H1 => g x σ H1 nx) : tAsg te g ⟨nx, rt, bk, ct⟩ σ H := h
theorem i_drop {te : TE} (h : te σ H fun _ H1 => nx σ H1) : tDrop te ⟨nx, rt, bk, ct⟩ σ H := h
theorem i_ret {te : TE} (h : te σ H rt) : tRet te ⟨nx, rt, bk, ct⟩ σ H := h
theorem i_retN (h : rt .non H) : tRetN ⟨nx, rt, bk, ct⟩ σ H := h
theorem i_ifS {c : TT} {t u : TS} (h : c σ H fun b H1 => if b = true then t ⟨nx, rt, bk, ct⟩ σ H1 else u ⟨nx, rt, bk, ct⟩ σ H1) : tIfS c t u ⟨nx, rt, bk, ct⟩ σ H := h
theorem i_ifC {c : TT} {t u : TS} (J : L2.St → Hp → Prop) (h1 : ∀ σ' H', J σ' H' → nx σ' H') (h2 : ∀ N : L2.St → Hp → Prop, (∀ σ' H', J σ' H' → N σ' H') → tIfS c t u ⟨N, rt, bk, ct⟩ σ H) : tIfS c t u ⟨nx, rt, bk, ct⟩ σ H := h2 _ h1
theorem i_break (h : bk σ H) : tBreak ⟨nx, rt, bk, ct⟩ σ H := h
theorem i_cont (h : ct σ H) : tCont ⟨nx, rt, bk, ct⟩ σ H := h
theorem i_augE {i : Nat} {te : TE} {ti : TIp} {x : V} (e : σ[i]? = some (some x)) (h : te σ H fun y H1 => ti x y H1 fun z H2 => gName i z σ H2 nx) : tAug i te ti ⟨nx, rt, bk, ct⟩ σ H := ⟨x, e, h⟩
theorem i_augS {to ti te : TE} {tget : V → V → Hp → VK → Prop} {tip : TIp} {tset : TSet} (h : to σ H fun o H1 => ti σ H1 fun i H2 => tget o i H2 fun x H3 => te σ H3 fun y H4 => tip x y H4 fun z H5 => tset o i z H5 fun H6 => nx σ H6) : tAugS to ti te tget tip tset ⟨nx, rt, bk, ct⟩ σ H := h
theorem i_ipI {f : Int → Int → Int} {i j : Int} (q : Q (.int (f i j)) H) : ipI f (.int i) (.int j) H Q := ⟨i, j, rfl, rfl, q⟩
theorem i_for {wi : TI} {g : TG} {tb : TS} (h : wi σ H fun J H1 => ∃ W : Nat → Nat → L2.St → Hp → Prop, (∃ m, W 0 m σ H1) ∧ ∀ i m σ H, W i m σ H →
  (J.stop i H ∧ nx σ H) ∨ (J.go i H ∧ ∃ N : L2.St → Hp → Prop, (∀ σ' H', N σ' H' → ∃ m', m' < m ∧ W (i + 1) m' σ' H') ∧ ∀ x H', J.yld i H x H' → g x σ H' fun σ2 H2 => tb ⟨N, rt, nx, N⟩ σ2 H2)) : tFor wi g tb ⟨nx, rt, bk, ct⟩ σ H := h
theorem i_iList {tl : TE} {R : It → Hp → Prop} (h : tl σ H fun x H1 => ∃ a, x = .ref a ∧ (∃ xs, SqL K H1 a xs) ∧ R (Itl K a) H1) : iList K tl σ H R := h
theorem i_iTup {tl : TE} {R : It → Hp → Prop} (h : tl σ H fun x H1 => ∃ a, x = .ref a ∧ (∃ xs, SqT K H1 a xs) ∧ R (Itt K a) H1) : iTup K tl σ H R := h
theorem i_isL {a : Addr} {xs : List V} {R : Addr → Prop} (s : SqL K H a xs) (h : R a) : ∃ a', V.ref a = .ref a' ∧ (∃ xs, SqL K H a' xs) ∧ R a' := ⟨a, rfl, ⟨xs, s⟩, h⟩
theorem i_isT {a : Addr} {xs : List V} {R : Addr → Prop} (s : SqT K H a xs) (h : R a) : ∃ a', V.ref a = .ref a' ∧ (∃ xs, SqT K H a' xs) ∧ R a' := ⟨a, rfl, ⟨xs, s⟩, h⟩
theorem i_rng1 {ta : TA} {R : It → Hp → Prop} (h : ta σ H fun vs H1 => ∃ j : Int, vs = [.int j] ∧ -(2 ^ 62) ≤ j ∧ j < 2 ^ 62 ∧ R (Itr 0 j.toNat) H1) : iRng1 ta σ H R := h
theorem i_rng2 {ta : TA} {R : It → Hp → Prop} (h : ta σ H fun vs H1 => ∃ i j : Int, vs = [.int i, .int j] ∧ (-(2 ^ 62) ≤ i ∧ i < 2 ^ 62 ∧ -(2 ^ 62) ≤ j ∧ j < 2 ^ 62) ∧ R (Itr i (j - i).toNat) H1) : iRng2 ta σ H R := h
theorem i_isR1 {j : Int} {R : Int → Prop} (h1 : -(2 ^ 62) ≤ j) (h2 : j < 2 ^ 62) (h : R j) : ∃ j' : Int, [V.int j] = [.int j'] ∧ -(2 ^ 62) ≤ j' ∧ j' < 2 ^ 62 ∧ R j' := ⟨j, rfl, h1, h2, h⟩
theorem i_isR2 {i j : Int} {R : Int → Int → Prop} (h1 : -(2 ^ 62) ≤ i) (h2 : i < 2 ^ 62) (h3 : -(2 ^ 62) ≤ j) (h4 : j < 2 ^ 62) (h : R i j) : ∃ i' j' : Int, [V.int i, V.int j] = [.int i', .int j'] ∧ (-(2 ^ 62) ≤ i' ∧ i' < 2 ^ 62 ∧ -(2 ^ 62) ≤ j' ∧ j' < 2 ^ 62) ∧ R i' j' := ⟨i, j, rfl, ⟨h1, h2, h3, h4⟩, h⟩
end
/-! comprehensions -/
theorem i_lc {wi : TI} {g : TG} {tt : TT} {te : TE} {ws : List Nat} {σ' : L2.St} (e : wipe σ ws = σ') (h : wi σ H fun J H1 => ∀ D, H1 D = none → ∃ W : Nat → Nat → Hp → Prop, (∃ m, W 0 m (upd H1 D (.lst []))) ∧ ∀ i m H, W i m H →
  (J.stop i H ∧ Q (.ref D) H) ∨ (J.go i H ∧ ∃ Nx : Hp → Prop, (∀ H', Nx H' → ∃ m', m' < m ∧ W (i + 1) m' H') ∧ ∀ x H', J.yld i H x H' → g x σ' H' fun σ2 H2 => wipe σ2 ws = σ' ∧ tt σ2 H2 fun b H3 =>
    if b = true then te σ2 H3 fun y H4 => ∃ acc, H4 D = some (.lst acc) ∧ acc.length < sizeLine ∧ Nx (upd H4 D (.lst (acc ++ [y]))) else Nx H3)) : tLc wi g tt te ws σ H Q := by subst e; exact h
/-! targets -/
theorem i_gNameE {i : Nat} {v : V} {σ' : L2.St} {Q : L2.St → Hp → Prop} (e : σ.set i (some v) = σ') (q : Q σ' H) : gName i v σ H Q := by subst e; exact q
theorem st_of {t : TS} {D : Ends} {σ σ' : L2.St} {H : Hp} (e : σ = σ') (h : t D σ' H) : t D σ H := by subst e; exact h
theorem i_gName {i : Nat} {v : V} {Q : L2.St → Hp → Prop} (q : Q (σ.set i (some v)) H) : gName i v σ H Q := q
theorem i_gSub {to ti : TE} {t : TSet} {v : V} {Q : L2.St → Hp → Prop} (h : to σ H fun o H1 => ti σ H1 fun i H2 => t o i v H2 fun H3 => Q σ H3) : gSub to ti t v σ H Q := h
theorem i_setL {p : Addr} {xs : List V} {k : Int} {j : Nat} {v : V} {Q : Hp → Prop} (h : H p = some (.lst xs)) (e : ixN xs.length k = some j) (q : Q (upd H p (.lst (xs.set j v)))) : rSetL (.ref p) (.int k) v H Q := ⟨p, xs, k, j, rfl, rfl, h, e, q⟩
theorem i_gTup {n : Nat} {t : TGs} {a : Addr} {xs : List V} {Q : L2.St → Hp → Prop} (h : SqT K H a xs) (e : xs.length = n) (q : t xs σ H Q) : gTup K n t (.ref a) σ H Q := ⟨a, xs, rfl, h, e, q⟩
theorem i_gNil {Q : L2.St → Hp → Prop} (q : Q σ H) : gNil [] σ H Q := ⟨rfl, q⟩
theorem i_gCons {t : TG} {u : TGs} {v : V} {r : List V} {Q : L2.St → Hp → Prop} (q : t v σ H fun σ' H' => u r σ' H' Q) : gCons t u (v :: r) σ H Q := ⟨v, r, rfl, q⟩
/-! builtins' calls -/
end
/-! ### heaps -/
/-- all but p is as it was -/
def Kp (p : Addr) (H H' : Hp) : Prop := ∀ b o, H b = some o → b ≠ p → H' b = some o
theorem Kp.refl {p : Addr} {H : Hp} : Kp p H H := fun _ _ e _ => e
theorem Kp.of {p : Addr} {H H' : Hp} (s : Same H H') : Kp p H H' := fun b o e _ => s b o e
theorem Kp.trans {p : Addr} {H H1 H2 : Hp} (a : Kp p H H1) (b : Kp p H1 H2) : Kp p H H2 := fun c o e n => b c o (a c o e n) n
theorem Kp.upd {p : Addr} {H : Hp} {o : HO} : Kp p H (upd H p o) := fun b u e n => by rw [upd_ne n]; exact e
theorem same_new {H : Hp} {p : Addr} {o : HO} (h : H p = none) : Same H (upd H p o) := fun b x e => by
  rw [upd_ne (ne_of_none e h)]
  exact e
theorem Same.tup {K : PySem.W.Frag} {H H' : Hp} {a : Addr} {xs : List V} (e : Same H H') (h : SqT K H a xs) : SqT K H' a xs := by
  rcases h with (h | ⟨o, h⟩) | h
  · exact .inl (.inl (e _ _ h))
  · exact .inl (.inr ⟨o, e _ _ h⟩)
  · exact .inr h
/-- all tuples are as they were -/
def Tps (H H' : Hp) : Prop := ∀ a, (∀ xs, H a = some (.tup xs) → H' a = some (.tup xs)) ∧ ∀ o xs, H a = some (.frz o (.tup xs)) → H' a = some (.frz o (.tup xs))
theorem Tps.sq {K : PySem.W.Frag} {H H' : Hp} {a : Addr} {xs : List V} (e : Tps H H') (h : SqT K H a xs) : SqT K H' a xs := by
  rcases h with (h | ⟨o, h⟩) | h
  · exact .inl (.inl ((e a).1 _ h))
  · exact .inl (.inr ⟨o, (e a).2 _ _ h⟩)
  · exact .inr h
theorem Tps.refl {H : Hp} : Tps H H := fun _ => ⟨fun _ h => h, fun _ _ h => h⟩
theorem Tps.trans {H H1 H2 : Hp} (a : Tps H H1) (b : Tps H1 H2) : Tps H H2 := fun c => ⟨fun xs h => (b c).1 xs ((a c).1 xs h), fun o xs h => (b c).2 o xs ((a c).2 o xs h)⟩
theorem Tps.of {H H' : Hp} (s : Same H H') : Tps H H' := fun a => ⟨fun xs h => s _ _ h, fun o xs h => s _ _ h⟩
theorem Kp.tps {p : Addr} {H H' : Hp} (k : Kp p H H') {xs : List V} (h : H p = some (.lst xs)) : Tps H H' := fun a => ⟨fun ys e => k _ _ e (ne_of e h (by intro z; cases z)), fun o ys e => k _ _ e (ne_of e h (by intro z; cases z))⟩
theorem Kp.seq {K : PySem.W.Frag} {p b : Addr} {H H' : Hp} {xs : List V} (k : Kp p H H') (h : SqL K H b xs) (n : b ≠ p) : SqL K H' b xs := by
  rcases h with (h | ⟨o, h⟩) | h
  · exact .inl (.inl (k _ _ h n))
  · exact .inl (.inr ⟨o, k _ _ h n⟩)
  · exact .inr h
/-! ### data -/
def Shp (n : Nat) (d : PyData) : Prop := d.canLay0 = true ∧ d.depth ≤ n
theorem Shp.shaped {n : Nat} {d : PyData} (h : Shp n d) (hn : n ≤ 64) : SeqAt.shaped d = true := by
  unfold SeqAt.shaped
  rw [h.1, decide_eq_true (Nat.le_trans h.2 hn)]
  rfl
theorem Shp.eqv {n : Nat} {d : PyData} (h : Shp n d) : PyData.eqv d d = true := SeqAt.eqv_refl d h.1
theorem Shp.int (i : Int) : Shp 0 (.int i) := ⟨by simp [PyData.canLay0], by simp [PyData.depth]⟩
theorem Shp.non : Shp 0 .none := ⟨by simp [PyData.canLay0], by simp [PyData.depth]⟩
theorem Shp.bool (b : Bool) : Shp 0 (.bool b) := ⟨by simp [PyData.canLay0], by simp [PyData.depth]⟩
theorem Shp.mono {n m : Nat} {d : PyData} (h : Shp n d) (hm : n ≤ m) : Shp m d := ⟨h.1, Nat.le_trans h.2 hm⟩
theorem shpAll {n : Nat} : ∀ {ds : List PyData}, (∀ d ∈ ds, Shp n d) → PyData.canLayAll0 ds = true ∧ PyData.depthAll ds ≤ n
  | [], _ => ⟨by simp [PyData.canLayAll0], by simp [PyData.depthAll]⟩
  | d :: ds, h => by
    have h1 := h d List.mem_cons_self
    have h2 := shpAll (ds := ds) fun x hx => h x (List.mem_cons_of_mem _ hx)
    refine ⟨by rw [PyData.canLayAll0, h1.1, h2.1]; rfl, ?_⟩
    rw [PyData.depthAll]
    exact Nat.max_le.mpr ⟨h1.2, h2.2⟩
theorem Shp.tup {n : Nat} {ds : List PyData} (h : ∀ d ∈ ds, Shp n d) : Shp (n + 1) (.tuple ds) := by
  have := shpAll h
  exact ⟨by rw [PyData.canLay0]; exact this.1, by rw [PyData.depth]; omega⟩
theorem Shp.lst {n : Nat} {ds : List PyData} (h : ∀ d ∈ ds, Shp n d) : Shp (n + 1) (.list ds) := by
  have := shpAll h
  exact ⟨by rw [PyData.canLay0]; exact this.1, by rw [PyData.depth]; omega⟩
theorem dpAll_of {K : PySem.W.Frag} {H : Hp} : ∀ {xs : List V} {ds : List PyData}, xs.length = ds.length → (∀ (i : Nat) x d, xs[i]? = some x → ds[i]? = some d → Dp K H x d) → DpAll K H xs ds
  | [], [], _, _ => .nil
  | x :: xs, d :: ds, hl, h => .cons (h 0 x d rfl rfl) (dpAll_of (by simpa using hl) fun i y e h1 h2 => h (i + 1) y e (by simpa using h1) (by simpa using h2))
theorem dp_ints {K : PySem.W.Frag} {H : Hp} {a : Addr} {ns : List Int} (h : SqT K H a (ns.map V.int)) : Dp K H (.ref a) (.tuple (ns.map PyData.int)) := by
  refine .tup h (dpAll_of (by simp) fun i x d h1 h2 => ?_)
  rw [List.getElem?_map] at h1 h2
  cases e : ns[i]? with
  | none => rw [e] at h1; cases h1
  | some z =>
    rw [e] at h1 h2
    cases h1
    cases h2
    exact .int z
/-! ### slices of tuples -/
section
variable {prog : Program} {w : World} {A : Around} {E : Value → Shared → Prop} {s : Shared}
theorem tup_whole {t sl : Addr} {items : Array Value} {vl vu : Value} {lo hi : Option Int} {Q : Value → Shared → Prop} (ht : IsTup s.heap t items) (hs : s.heap.IsSliceOf sl vl vu .none) (pl : IsPart vl lo) (pu : IsPart vu hi)
    (h0 : HT.sIx items.size 0 lo = 0) (h1 : HT.sIx items.size items.size hi = items.size) (h : Q (.ref t) s) : wpAny (model prog w) A (getItem (.ref t) (.ref sl)) Q E s := by
  have hTs : s.TypeIs (.ref sl) "slice" := by
    obtain ⟨os, hos, hcs, _⟩ := id hs
    exact ⟨os, hos, hcs⟩
  unfold getItem
  try with_reducible refine wpAny_holding ?_
  first | refine wpAny_bind (wpAny_pure ?_) | skip
  refine wpAny_bind (wpAny_sequenceKey ht.typeIs (by decide) (wpAny_bind (wpAny_callSpecial?_slot (name := Str.ofString "__getitem__") ht.typeIs PyProof.Rows.slot_tuple_getitem (wpAny_call_entry PyProof.Rows.slot_tuple_getitem ht.typeIs entry_tuple_getitem ?_ (args_tuple_getitem _ _)))))
  show wpAny _ _ (Builtin.Tuple.tupleItemsOf (.ref t) >>= _) _ _ s
  refine wpAny_bind (tupleItemsOf_ ht (wpAny_bind (wpAny_typeOf hTs ?_)))
  rw [if_pos (by decide)]
  refine wpAny_bind (HT.sliceApplied_gen hs pl pu ?_)
  show wpAny _ _ (if (((HT.sIx items.size 0 lo : Nat) : Int) == 0 && (1 : Int) == 1 && (HT.sIx items.size items.size hi - HT.sIx items.size 0 lo) == items.size) = true then _ else _) _ _ s
  rw [h0, h1, if_pos (by simp)]
  unfold Builtin.Tuple.tupleIsExact
  refine wpAny_bind (wpAny_bind (wpAny_typeOf ht.typeIs (wpAny_pure ?_)))
  rw [if_pos (by decide)]
  first
    | exact wpAny_bind (wpAny_rule (wpAny_pure ⟨_, rfl, wpAny_pure h⟩))
    | exact wpAny_bind (wpAny_rule (wpAny_bind (wpAny_pure (wpAny_pure ⟨_, rfl, wpAny_pure h⟩))))
end
section
variable {X : Cx}
/-- t[lo:hi], the whole of it too (that is t itself) -/
def rSlQ (K : PySem.W.Frag) : V → Option Int → Option Int → Hp → VK → Prop := fun x lo hi H Q => ∃ a xs, x = .ref a ∧ SqT K H a xs ∧
  (cutV xs lo hi = xs → Q (.ref a) H) ∧ ∀ p, H p = none → Q (.ref p) (upd H p (.tup (cutV xs lo hi)))
theorem sl_tupQ : SlR X (rSlQ X.K) := by
  intro pins s σ H x v vl vu lo hi sl Q I rx hs pl pu h
  obtain ⟨a, xs, e, hx, q0, q1⟩ := h
  by_cases hw : HT.sIx xs.length 0 lo = 0 ∧ HT.sIx xs.length xs.length hi = xs.length
  · subst e
    cases rx
    obtain ⟨its, r, ht, hz⟩ := I.tuple hx
    have hlen : its.toArray.size = xs.length := by rw [List.size_toArray]; exact r.length.symm
    refine ⟨"tuple", _, PyProof.Rows.slot_tuple_getitem.lookup, ht.typeIs, ?_⟩
    refine tup_whole ht hs pl pu (by rw [hlen]; exact hw.1) (by rw [hlen]; exact hw.2) ⟨.ref a, H, I, rfl, q0 ?_⟩
    unfold cutV
    rw [hw.1, hw.2]
    simp
  · exact sl_tup pins s σ H x v vl vu lo hi sl Q I rx hs pl pu ⟨a, xs, e, hx, hw, q1⟩
end
/-! ### loops -/
section
variable {K : PySem.W.Frag} {a : Addr} {xs : List V} {g : TG} {tb : TS} {σ : L2.St} {H : Hp} {nx : L2.St → Hp → Prop} {rt : VK}
theorem f_list (Pv : Nat → L2.St → Hp → Prop) (h0 : Pv 0 σ H) (hl : ∀ i σ H, i ≤ xs.length → Pv i σ H → SqL K H a xs)
    (hs : ∀ i x σ H, xs[i]? = some x → Pv i σ H → g x σ H fun σ2 H2 => tb ⟨Pv (i + 1), rt, nx, Pv (i + 1)⟩ σ2 H2) (hd : ∀ σ H, Pv xs.length σ H → nx σ H) :
    ∃ W : Nat → Nat → L2.St → Hp → Prop, (∃ m, W 0 m σ H) ∧ ∀ i m σ H, W i m σ H →
      ((Itl K a).stop i H ∧ nx σ H) ∨ ((Itl K a).go i H ∧ ∃ N : L2.St → Hp → Prop, (∀ σ' H', N σ' H' → ∃ m', m' < m ∧ W (i + 1) m' σ' H') ∧ ∀ x H', (Itl K a).yld i H x H' → g x σ H' fun σ2 H2 => tb ⟨N, rt, nx, N⟩ σ2 H2) :=
  for_list (D := ⟨nx, rt, fun _ _ => False, fun _ _ => False⟩) Pv h0 hl hs hd
theorem f_tup (Pv : Nat → L2.St → Hp → Prop) (h0 : Pv 0 σ H) (hl : ∀ i σ H, i ≤ xs.length → Pv i σ H → SqT K H a xs)
    (hs : ∀ i x σ H, xs[i]? = some x → Pv i σ H → g x σ H fun σ2 H2 => tb ⟨Pv (i + 1), rt, nx, Pv (i + 1)⟩ σ2 H2) (hd : ∀ σ H, Pv xs.length σ H → nx σ H) :
    ∃ W : Nat → Nat → L2.St → Hp → Prop, (∃ m, W 0 m σ H) ∧ ∀ i m σ H, W i m σ H →
      ((Itt K a).stop i H ∧ nx σ H) ∨ ((Itt K a).go i H ∧ ∃ N : L2.St → Hp → Prop, (∀ σ' H', N σ' H' → ∃ m', m' < m ∧ W (i + 1) m' σ' H') ∧ ∀ x H', (Itt K a).yld i H x H' → g x σ H' fun σ2 H2 => tb ⟨N, rt, nx, N⟩ σ2 H2) :=
  for_tup (D := ⟨nx, rt, fun _ _ => False, fun _ _ => False⟩) Pv h0 hl hs hd
theorem f_range {lo : Int} {n : Nat} (Pv : Nat → L2.St → Hp → Prop) (h0 : Pv 0 σ H)
    (hs : ∀ i σ H, i < n → Pv i σ H → g (.int (lo + i)) σ H fun σ2 H2 => tb ⟨Pv (i + 1), rt, nx, Pv (i + 1)⟩ σ2 H2) (hd : ∀ σ H, Pv n σ H → nx σ H) :
    ∃ W : Nat → Nat → L2.St → Hp → Prop, (∃ m, W 0 m σ H) ∧ ∀ i m σ H, W i m σ H →
      ((Itr lo n).stop i H ∧ nx σ H) ∨ ((Itr lo n).go i H ∧ ∃ N : L2.St → Hp → Prop, (∀ σ' H', N σ' H' → ∃ m', m' < m ∧ W (i + 1) m' σ' H') ∧ ∀ x H', (Itr lo n).yld i H x H' → g x σ H' fun σ2 H2 => tb ⟨N, rt, nx, N⟩ σ2 H2) :=
  for_range (D := ⟨nx, rt, fun _ _ => False, fun _ _ => False⟩) Pv h0 hs hd
theorem f_rangeC {lo c : Int} {n : Nat} (Pv : Nat → L2.St → Hp → Prop) (h0 : Pv 0 σ H)
    (hs : ∀ i σ H, i < n → Pv i σ H → g (.int (lo + (i : Nat) * c)) σ H fun σ2 H2 => tb ⟨Pv (i + 1), rt, nx, Pv (i + 1)⟩ σ2 H2) (hd : ∀ σ H, Pv n σ H → nx σ H) :
    ∃ W : Nat → Nat → L2.St → Hp → Prop, (∃ m, W 0 m σ H) ∧ ∀ i m σ H, W i m σ H →
      ((Itc lo c n).stop i H ∧ nx σ H) ∨ ((Itc lo c n).go i H ∧ ∃ N : L2.St → Hp → Prop, (∀ σ' H', N σ' H' → ∃ m', m' < m ∧ W (i + 1) m' σ' H') ∧ ∀ x H', (Itc lo c n).yld i H x H' → g x σ H' fun σ2 H2 => tb ⟨N, rt, nx, N⟩ σ2 H2) :=
  for_rangeC (D := ⟨nx, rt, fun _ _ => False, fun _ _ => False⟩) Pv h0 hs hd
theorem i_rng3 {ta : TA} {R : It → Hp → Prop} (h : ta σ H fun vs H1 => ∃ (i j c : Int) (n : Nat), vs = [.int i, .int j, .int c] ∧ RgC i j c n ∧ R (Itc i c n) H1) : iRng3 ta σ H R := h
variable {tt : TT} {te : TE} {ws : List Nat} {D : Addr} {Qd : Hp → Prop} {σ' : L2.St}
theorem l_list (Pv : Nat → Hp → Prop) (h0 : Pv 0 (upd H D (.lst []))) (hl : ∀ i H, i ≤ xs.length → Pv i H → SqL K H a xs)
    (hs : ∀ i x H, xs[i]? = some x → Pv i H → g x σ' H fun σ2 H2 => wipe σ2 ws = σ' ∧ tt σ2 H2 fun b H3 =>
      if b = true then te σ2 H3 fun y H4 => ∃ acc, H4 D = some (.lst acc) ∧ acc.length < sizeLine ∧ Pv (i + 1) (upd H4 D (.lst (acc ++ [y]))) else Pv (i + 1) H3) (hd : ∀ H, Pv xs.length H → Qd H) (e : wipe σ' ws = σ' := by rfl) :
    ∃ W : Nat → Nat → Hp → Prop, (∃ m, W 0 m (upd H D (.lst []))) ∧ ∀ i m H, W i m H →
      ((Itl K a).stop i H ∧ Qd H) ∨ ((Itl K a).go i H ∧ ∃ Nx : Hp → Prop, (∀ H', Nx H' → ∃ m', m' < m ∧ W (i + 1) m' H') ∧ ∀ x H', (Itl K a).yld i H x H' → g x σ' H' fun σ2 H2 => wipe σ2 ws = σ' ∧ tt σ2 H2 fun b H3 =>
        if b = true then te σ2 H3 fun y H4 => ∃ acc, H4 D = some (.lst acc) ∧ acc.length < sizeLine ∧ Nx (upd H4 D (.lst (acc ++ [y]))) else Nx H3) := by
  have h := lc_list (K := K) (a := a) (xs := xs) (g := g) (tt := tt) (te := te) (vs := ws) (σ := σ') (H1 := H) (D := D) (Qd := Qd) Pv h0 hl (by rw [e]; exact hs) hd
  rw [e] at h
  exact h
theorem l_tup (Pv : Nat → Hp → Prop) (h0 : Pv 0 (upd H D (.lst []))) (hl : ∀ i H, i ≤ xs.length → Pv i H → SqT K H a xs)
    (hs : ∀ i x H, xs[i]? = some x → Pv i H → g x σ' H fun σ2 H2 => wipe σ2 ws = σ' ∧ tt σ2 H2 fun b H3 =>
      if b = true then te σ2 H3 fun y H4 => ∃ acc, H4 D = some (.lst acc) ∧ acc.length < sizeLine ∧ Pv (i + 1) (upd H4 D (.lst (acc ++ [y]))) else Pv (i + 1) H3) (hd : ∀ H, Pv xs.length H → Qd H) (e : wipe σ' ws = σ' := by rfl) :
    ∃ W : Nat → Nat → Hp → Prop, (∃ m, W 0 m (upd H D (.lst []))) ∧ ∀ i m H, W i m H →
      ((Itt K a).stop i H ∧ Qd H) ∨ ((Itt K a).go i H ∧ ∃ Nx : Hp → Prop, (∀ H', Nx H' → ∃ m', m' < m ∧ W (i + 1) m' H') ∧ ∀ x H', (Itt K a).yld i H x H' → g x σ' H' fun σ2 H2 => wipe σ2 ws = σ' ∧ tt σ2 H2 fun b H3 =>
        if b = true then te σ2 H3 fun y H4 => ∃ acc, H4 D = some (.lst acc) ∧ acc.length < sizeLine ∧ Nx (upd H4 D (.lst (acc ++ [y]))) else Nx H3) := by
  have h := lc_tup (K := K) (a := a) (xs := xs) (g := g) (tt := tt) (te := te) (vs := ws) (σ := σ') (H1 := H) (D := D) (Qd := Qd) Pv h0 hl (by rw [e]; exact hs) hd
  rw [e] at h
  exact h
theorem l_range {lo : Int} {n : Nat} (Pv : Nat → Hp → Prop) (h0 : Pv 0 (upd H D (.lst [])))
    (hs : ∀ i H, i < n → Pv i H → g (.int (lo + i)) σ' H fun σ2 H2 => wipe σ2 ws = σ' ∧ tt σ2 H2 fun b H3 =>
      if b = true then te σ2 H3 fun y H4 => ∃ acc, H4 D = some (.lst acc) ∧ acc.length < sizeLine ∧ Pv (i + 1) (upd H4 D (.lst (acc ++ [y]))) else Pv (i + 1) H3) (hd : ∀ H, Pv n H → Qd H) (e : wipe σ' ws = σ' := by rfl) :
    ∃ W : Nat → Nat → Hp → Prop, (∃ m, W 0 m (upd H D (.lst []))) ∧ ∀ i m H, W i m H →
      ((Itr lo n).stop i H ∧ Qd H) ∨ ((Itr lo n).go i H ∧ ∃ Nx : Hp → Prop, (∀ H', Nx H' → ∃ m', m' < m ∧ W (i + 1) m' H') ∧ ∀ x H', (Itr lo n).yld i H x H' → g x σ' H' fun σ2 H2 => wipe σ2 ws = σ' ∧ tt σ2 H2 fun b H3 =>
        if b = true then te σ2 H3 fun y H4 => ∃ acc, H4 D = some (.lst acc) ∧ acc.length < sizeLine ∧ Nx (upd H4 D (.lst (acc ++ [y]))) else Nx H3) := by
  have h := lc_range (lo := lo) (n := n) (g := g) (tt := tt) (te := te) (vs := ws) (σ := σ') (H1 := H) (D := D) (Qd := Qd) Pv h0 (by rw [e]; exact hs) hd
  rw [e] at h
  exact h
/-! a comprehension whose elements lay nothing -/
theorem l_rangeP {lo : Int} {n : Nat} (f : Nat → V) (hD : H D = none) (hn : n ≤ 1000000)
    (hs : ∀ i H' (R : VK), i < n → Same H H' → R (f i) H' → g (.int (lo + i)) σ' H' fun σ2 H2 => wipe σ2 ws = σ' ∧ tt σ2 H2 fun b H3 => if b = true then te σ2 H3 R else False)
    (hd : ∀ H', Same H H' → H' D = some (.lst ((List.range n).map f)) → Qd H') (e : wipe σ' ws = σ' := by rfl)
    (htt : ∀ (σ2 : L2.St) (H2 : Hp) (A : Hp → Prop) (B : Hp → Prop), (tt σ2 H2 fun b H3 => if b = true then A H3 else False) → tt σ2 H2 fun b H3 => if b = true then A H3 else B H3 := by intro _ _ _ _ h; exact h) (hg : ∀ x (σ2 : L2.St) (H2 : Hp) (A B : L2.St → Hp → Prop), (∀ s h, A s h → B s h) → g x σ2 H2 A → g x σ2 H2 B := by intro _ _ _ _ _ h q; exact h _ _ q) :
    ∃ W : Nat → Nat → Hp → Prop, (∃ m, W 0 m (upd H D (.lst []))) ∧ ∀ i m H, W i m H →
      ((Itr lo n).stop i H ∧ Qd H) ∨ ((Itr lo n).go i H ∧ ∃ Nx : Hp → Prop, (∀ H', Nx H' → ∃ m', m' < m ∧ W (i + 1) m' H') ∧ ∀ x H', (Itr lo n).yld i H x H' → g x σ' H' fun σ2 H2 => wipe σ2 ws = σ' ∧ tt σ2 H2 fun b H3 =>
        if b = true then te σ2 H3 fun y H4 => ∃ acc, H4 D = some (.lst acc) ∧ acc.length < sizeLine ∧ Nx (upd H4 D (.lst (acc ++ [y]))) else Nx H3) := by
  refine l_range (fun i H' => Same H H' ∧ H' D = some (.lst ((List.range i).map f))) ⟨same_new hD, upd_same⟩ (fun i H' hi h => ?_) (fun H' h => hd H' h.1 h.2) e
  obtain ⟨s, hD'⟩ := h
  refine hg _ _ _ _ _ (fun σ2 H2 q => ⟨q.1, htt _ _ _ _ q.2⟩) (hs i H' _ hi s ⟨_, hD', ?_, fun b o hb => ?_, ?_⟩)
  · rw [List.length_map, List.length_range, sizeLine_eq]; omega
  · rw [upd_ne (ne_of_none hb hD)]; exact s _ _ hb
  · rw [upd_same, List.range_succ, List.map_append] <;> rfl
theorem l_listP (f : Nat → V) (hD : H D = none) (hn : xs.length ≤ 1000000) (hx : SqL K H a xs)
    (hs : ∀ i x H' (R : VK), xs[i]? = some x → Same H H' → R (f i) H' → g x σ' H' fun σ2 H2 => wipe σ2 ws = σ' ∧ tt σ2 H2 fun b H3 => if b = true then te σ2 H3 R else False)
    (hd : ∀ H', Same H H' → H' D = some (.lst ((List.range xs.length).map f)) → Qd H') (e : wipe σ' ws = σ' := by rfl)
    (htt : ∀ (σ2 : L2.St) (H2 : Hp) (A : Hp → Prop) (B : Hp → Prop), (tt σ2 H2 fun b H3 => if b = true then A H3 else False) → tt σ2 H2 fun b H3 => if b = true then A H3 else B H3 := by intro _ _ _ _ h; exact h) (hg : ∀ x (σ2 : L2.St) (H2 : Hp) (A B : L2.St → Hp → Prop), (∀ s h, A s h → B s h) → g x σ2 H2 A → g x σ2 H2 B := by intro _ _ _ _ _ h q; exact h _ _ q) :
    ∃ W : Nat → Nat → Hp → Prop, (∃ m, W 0 m (upd H D (.lst []))) ∧ ∀ i m H, W i m H →
      ((Itl K a).stop i H ∧ Qd H) ∨ ((Itl K a).go i H ∧ ∃ Nx : Hp → Prop, (∀ H', Nx H' → ∃ m', m' < m ∧ W (i + 1) m' H') ∧ ∀ x H', (Itl K a).yld i H x H' → g x σ' H' fun σ2 H2 => wipe σ2 ws = σ' ∧ tt σ2 H2 fun b H3 =>
        if b = true then te σ2 H3 fun y H4 => ∃ acc, H4 D = some (.lst acc) ∧ acc.length < sizeLine ∧ Nx (upd H4 D (.lst (acc ++ [y]))) else Nx H3) := by
  refine l_list (xs := xs) (fun i H' => Same H H' ∧ H' D = some (.lst ((List.range i).map f))) ⟨same_new hD, upd_same⟩ (fun i H' _ h => Same.seq h.1 hx) (fun i x H' hi h => ?_) (fun H' h => hd H' h.1 h.2) e
  obtain ⟨s, hD'⟩ := h
  have hlt := (List.getElem?_eq_some_iff.mp hi).1
  refine hg _ _ _ _ _ (fun σ2 H2 q => ⟨q.1, htt _ _ _ _ q.2⟩) (hs i x H' _ hi s ⟨_, hD', ?_, fun b o hb => ?_, ?_⟩)
  · rw [List.length_map, List.length_range, sizeLine_eq]; omega
  · rw [upd_ne (ne_of_none hb hD)]; exact s _ _ hb
  · rw [upd_same, List.range_succ, List.map_append] <;> rfl
theorem l_tupP (f : Nat → V) (hD : H D = none) (hn : xs.length ≤ 1000000) (hx : SqT K H a xs)
    (hs : ∀ i x H' (R : VK), xs[i]? = some x → Same H H' → R (f i) H' → g x σ' H' fun σ2 H2 => wipe σ2 ws = σ' ∧ tt σ2 H2 fun b H3 => if b = true then te σ2 H3 R else False)
    (hd : ∀ H', Same H H' → H' D = some (.lst ((List.range xs.length).map f)) → Qd H') (e : wipe σ' ws = σ' := by rfl)
    (htt : ∀ (σ2 : L2.St) (H2 : Hp) (A : Hp → Prop) (B : Hp → Prop), (tt σ2 H2 fun b H3 => if b = true then A H3 else False) → tt σ2 H2 fun b H3 => if b = true then A H3 else B H3 := by intro _ _ _ _ h; exact h) (hg : ∀ x (σ2 : L2.St) (H2 : Hp) (A B : L2.St → Hp → Prop), (∀ s h, A s h → B s h) → g x σ2 H2 A → g x σ2 H2 B := by intro _ _ _ _ _ h q; exact h _ _ q) :
    ∃ W : Nat → Nat → Hp → Prop, (∃ m, W 0 m (upd H D (.lst []))) ∧ ∀ i m H, W i m H →
      ((Itt K a).stop i H ∧ Qd H) ∨ ((Itt K a).go i H ∧ ∃ Nx : Hp → Prop, (∀ H', Nx H' → ∃ m', m' < m ∧ W (i + 1) m' H') ∧ ∀ x H', (Itt K a).yld i H x H' → g x σ' H' fun σ2 H2 => wipe σ2 ws = σ' ∧ tt σ2 H2 fun b H3 =>
        if b = true then te σ2 H3 fun y H4 => ∃ acc, H4 D = some (.lst acc) ∧ acc.length < sizeLine ∧ Nx (upd H4 D (.lst (acc ++ [y]))) else Nx H3) := by
  refine l_tup (xs := xs) (fun i H' => Same H H' ∧ H' D = some (.lst ((List.range i).map f))) ⟨same_new hD, upd_same⟩ (fun i H' _ h => Same.tup h.1 hx) (fun i x H' hi h => ?_) (fun H' h => hd H' h.1 h.2) e
  obtain ⟨s, hD'⟩ := h
  have hlt := (List.getElem?_eq_some_iff.mp hi).1
  refine hg _ _ _ _ _ (fun σ2 H2 q => ⟨q.1, htt _ _ _ _ q.2⟩) (hs i x H' _ hi s ⟨_, hD', ?_, fun b o hb => ?_, ?_⟩)
  · rw [List.length_map, List.length_range, sizeLine_eq]; omega
  · rw [upd_ne (ne_of_none hb hD)]; exact s _ _ hb
  · rw [upd_same, List.range_succ, List.map_append] <;> rfl
end
theorem i_yes {σ : L2.St} {H : Hp} {Q : Bool → Hp → Prop} (q : Q true H) : tYes σ H Q := q
/-! ### ifs -/
theorem c_dec {P A B : Prop} [Decidable P] (h1 : P → A) (h2 : ¬ P → B) : if decide P = true then A else B := by
  by_cases h : P
  · rw [if_pos (decide_eq_true h)]; exact h1 h
  · rw [if_neg (by rw [decide_eq_false h]; exact Bool.false_ne_true)]; exact h2 h
theorem c_decN {P A B : Prop} [Decidable P] (h1 : ¬ P → A) (h2 : P → B) : if (!decide P) = true then A else B := by
  by_cases h : P
  · rw [if_neg (by rw [decide_eq_true h]; exact Bool.false_ne_true)]; exact h2 h
  · rw [if_pos (by rw [decide_eq_false h]; rfl)]; exact h1 h
theorem c_nt {A B : Prop} (h : B) : if (!true) = true then A else B := iteF h
theorem c_nf {A B : Prop} (h : A) : if (!false) = true then A else B := iteT h
theorem c_bool {b : Bool} {A B : Prop} (h1 : b = true → A) (h2 : b = false → B) : if b = true then A else B := by
  cases b
  · exact iteF (h2 rfl)
  · exact iteT (h1 rfl)
theorem c_yes {P A B : Prop} [Decidable P] (h : P) (h1 : A) : if decide P = true then A else B := by rw [if_pos (decide_eq_true h)]; exact h1
theorem c_no {P A B : Prop} [Decidable P] (h : ¬ P) (h1 : B) : if decide P = true then A else B := by rw [if_neg (by rw [decide_eq_false h]; exact Bool.false_ne_true)]; exact h1
theorem c_yesN {P A B : Prop} [Decidable P] (h : ¬ P) (h1 : A) : if (!decide P) = true then A else B := by rw [if_pos (by rw [decide_eq_false h]; rfl)]; exact h1
theorem c_noN {P A B : Prop} [Decidable P] (h : P) (h1 : B) : if (!decide P) = true then A else B := by rw [if_neg (by rw [decide_eq_true h]; exact Bool.false_ne_true)]; exact h1
section
variable {K : PySem.W.Frag} {σ : L2.St} {H : Hp} {Q : VK}
theorem i_slA {p : Addr} {xs : List V} {lo hi : Option Int} (h : SqT K H p xs) (q : ∀ (r : Addr) (H' : Hp), Same H H' → SqT K H' r (cutV xs lo hi) → Q (.ref r) H') : rSlQ K (.ref p) lo hi H Q :=
  ⟨p, xs, rfl, h, fun e => q p H (Same.refl H) (by rw [e]; exact h), fun r hr => q r _ (same_new hr) (SqT.of upd_same)⟩
theorem i_eqD {x y : V} {d e : PyData} {n m : Nat} (h1 : Dp K H x d) (h2 : Dp K H y e) (s1 : Shp n d) (s2 : Shp m e) (hn : n ≤ 64) (hm : m ≤ 64) (q : Q (.bl (PyData.eqv d e)) H) : rEqD K x y H Q := ⟨d, e, h1, h2, s1.shaped hn, s2.shaped hm, q⟩
theorem i_neD {x y : V} {d e : PyData} {n m : Nat} (h1 : Dp K H x d) (h2 : Dp K H y e) (s1 : Shp n d) (s2 : Shp m e) (hn : n ≤ 64) (hm : m ≤ 64) (q : Q (.bl (!PyData.eqv d e)) H) : rNeD K x y H Q := ⟨d, e, h1, h2, s1.shaped hn, s2.shaped hm, q⟩
/-- == and != of the same data -/
theorem i_eqS' {x y : V} {d : PyData} {n : Nat} (h1 : Dp K H x d) (h2 : Dp K H y d) (s1 : Shp n d) (hn : n ≤ 64) (q : Q (.bl true) H) : rEqD K x y H Q := i_eqD h1 h2 s1 s1 hn hn (by rw [s1.eqv]; exact q)
theorem i_neS' {x y : V} {d : PyData} {n : Nat} (h1 : Dp K H x d) (h2 : Dp K H y d) (s1 : Shp n d) (hn : n ≤ 64) (q : Q (.bl false) H) : rNeD K x y H Q := i_neD h1 h2 s1 s1 hn hn (by rw [s1.eqv]; exact q)
theorem i_while {c : TT} {tb : TS} {nx : L2.St → Hp → Prop} {rt : VK} {bk ct : L2.St → Hp → Prop} (W : Nat → L2.St → Hp → Prop) (h0 : ∃ m, W m σ H) (h : ∀ m σ H, W m σ H →
  c σ H fun b H1 => if b = true then ∃ N : L2.St → Hp → Prop, (∀ σ' H', N σ' H' → ∃ m', m' < m ∧ W m' σ' H') ∧ tb ⟨N, rt, nx, N⟩ σ H1 else nx σ H1) : tWhile c tb ⟨nx, rt, bk, ct⟩ σ H := ⟨W, h0, h⟩
theorem i_par {i j : Nat} {ta : TA} {nx : L2.St → Hp → Prop} {rt : VK} {bk ct : L2.St → Hp → Prop} (h : ta σ H fun vs H1 => ∃ v w, vs = [v, w] ∧ nx ((σ.set i (some v)).set j (some w)) H1) : tPar i j ta ⟨nx, rt, bk, ct⟩ σ H := h
theorem i_two {x y : V} {R : V → V → Prop} (q : R x y) : ∃ v w, [x, y] = [v, w] ∧ R v w := ⟨x, y, rfl, q⟩
theorem Dp.same {K : PySem.W.Frag} {H H' : Hp} (s : Same H H') : ∀ (d : PyData) (v : V), Dp K H v d → Dp K H' v d := by
  intro d v h
  exact Dp.rec (motive_1 := fun v d _ => Dp K H' v d) (motive_2 := fun vs ds _ => DpAll K H' vs ds) .non (fun b => .bl b) (fun i => .int i) (fun x => .str x) (fun h _ q => .lst (s.seq h) q) (fun h _ q => .tup (Same.tup s h) q) .nil (fun _ _ h1 h2 => .cons h1 h2) h
end
/-! ### a def that can be called -/
structure Df (K : PySem.W.Frag) (mg : Str → Option Value) (x : Str) (st : Stmt) (f : Addr) (fd : FuncData) (ps : List Str) : Prop where
  fn : Fun K x x st f fd
  mgf : mg x = some (.ref f)
  bi : Binds K fd ps []
/-- a def of the text by its promise: it lets no exception out -/
structure Cl (P : Program) (w : World) (K : PySem.W.Frag) (mg : Str → Option Value) (base : Heap) (k : Nat) (x : Str) (sp : Sp) : Prop where
  ex : ∃ (f : Addr) (fd : FuncData) (ps : List Str), FnOk P w K mg base CX0 k f fd ps sp ∧ mg x = some (.ref f) ∧ PySem.W.keepIn K (.ref f) = true ∧ Binds K fd ps []
section
variable {P : Program} {w : World} {K : PySem.W.Frag} {mg : Str → Option Value} {base : Heap}
theorem Df.ok {x : Str} {st : Stmt} {f : Addr} {fd : FuncData} {ps N : List Str} {k : Nat} {sp : Sp} (F : Df K mg x st f fd ps) (S : FnScope N ps (defScope st)) (len : ∀ vs H Q E, sp vs H Q E → vs.length = ps.length)
    (hbody : ∀ (cdv : Value) (A : Around) (outer : List Env) (s : Shared) (H : Hp) (vs : List V) (Q : VK) (E : XK), Room k (A.deeper (envOfC x (defScope st) s.heap.objs.size f cdv)) → sp vs H Q E →
      ∃ t, PSs (cxOf CX0 P w K mg base N x (defScope st) f cdv A outer s H E).nox (defBody st) t ∧ t { nx := fun _ H' => Q .non H', rt := Q } (start N vs) H) : FnOk P w K mg base CX0 (k + 1) f fd ps sp :=
  F.fn.ok S len hbody
theorem Df.cl {x : Str} {st : Stmt} {f : Addr} {fd : FuncData} {ps : List Str} {k : Nat} {sp : Sp} (F : Df K mg x st f fd ps) (o : FnOk P w K mg base CX0 k f fd ps sp) : Cl P w K mg base k x sp :=
  ⟨f, fd, ps, o, F.mgf, F.fn.kp, F.bi⟩
variable {X : Cx}
theorem pe_cl {x : Str} {sp : Sp} {j k : Nat} {e : Expr} {es : List Expr} {t : TA} {p pos : Pos} (c : Cl X.prog X.w X.K X.mg X.base k x sp) (hr : Room j X.A) (hk : k ≤ j) (hg : Gl X x) (ha : PA X (e :: es) t)
    (hdb : (x == ("__debug__" : Str)) = false := by decide) (he : starEach (e :: es) X.env = (false, eval e X.env) :: starEach es X.env := by rfl) (hpl : (backTo pos (starEach es X.env)).any (·.1) = false := by rfl) :
    PE X (.Call (.Name x p) (e :: es) [] pos) (tCall sp [] E0 t) := by
  obtain ⟨f, fd, ps, F, hm, kp, b⟩ := c.ex
  exact pe_call F (hr.mono hk) hg hm kp b .nil pass0 ha hdb he hpl
theorem pe_cl0 {x : Str} {sp : Sp} {j k : Nat} {p pos : Pos} (c : Cl X.prog X.w X.K X.mg X.base k x sp) (hr : Room j X.A) (hk : k ≤ j) (hg : Gl X x) (hdb : (x == ("__debug__" : Str)) = false := by decide) :
    PE X (.Call (.Name x p) [] [] pos) (tCall sp [] E0 tNil) := by
  obtain ⟨f, fd, ps, F, hm, kp, b⟩ := c.ex
  exact pe_call0 F (hr.mono hk) hg hm kp b .nil pass0 hdb
/-- a constant of the module's top -/
def Cn (mg : Str → Option Value) (x : Str) (v : V) : Prop := ∃ u, mg x = some u ∧ RelV v u
theorem pe_cn {x : Str} {v : V} {pos : Pos} (hg : Gl X x) (h : Cn X.mg x v) (hd : (x == ("__debug__" : Str)) = false := by decide) : PE X (.Name x pos) (tC v) := by
  obtain ⟨u, hm, r⟩ := h
  exact pe_glob hg hm r hd
section
variable {K : PySem.W.Frag} {T : String} {name : Str} {id : String} {r : V → List V → Hp → VK → Prop} {o e : Expr} {es : List Expr} {apos cpos pos : Pos} {to ta : TE} {t : TA}
theorem pe_bm0K (hK : X.K = K) (pa : PlainAttrs T) (slot : Slot T name id) (hty : typeOf (.builtin id) = pure (.type "method_descriptor")) (hm : MtR X id r) (ho : PE X o to)
    (hbase : attributeBase o name X.env (eval o X.env) = eval o X.env := by rfl) (hline : (apos.endLine == cpos.line) = true := by rfl) : PE X (.Call (.Attribute o name apos) [] [] cpos) (tBM0 K T r to) := by
  subst hK; exact pe_bm0 pa slot hty hm ho hbase hline
theorem pe_bmK (hK : X.K = K) (pa : PlainAttrs T) (slot : Slot T name id) (hty : typeOf (.builtin id) = pure (.type "method_descriptor")) (hm : MtR X id r) (ho : PE X o to) (ha : PA X (e :: es) t)
    (hbase : attributeBase o name X.env (eval o X.env) = eval o X.env := by rfl)
    (hfew : ((backTo cpos (starEach (e :: es) X.env)).all (fun x => !x.1) && (backToKw cpos (keywordEach [] X.env)).all (fun x => x.1.isSome)
      && decide ((e :: es).length + ([] : List Keyword).length + (if ([] : List Keyword).isEmpty then 0 else 1) < 30)) = true := by rfl)
    (hline : (apos.endLine == cpos.line) = true := by rfl) (hs : starEach (e :: es) X.env = (false, eval e X.env) :: starEach es X.env := by rfl) (hplain : (backTo cpos (starEach es X.env)).any (·.1) = false := by rfl) :
    PE X (.Call (.Attribute o name apos) (e :: es) [] cpos) (tBM K T r to t) := by
  subst hK; exact pe_bm pa slot hty hm ho ha hbase hfew hline hs hplain
theorem pe_fldK (hK : X.K = K) {f : Str} (he : PE X e ta) (hb : attributeBase e f X.env (eval e X.env) = eval e X.env) : PE X (.Attribute e f pos) (tFld K ta f) := by
  subst hK; exact pe_fld he hb
theorem pg_tupK (hK : X.K = K) {es : List Expr} {k : Nat} {t : TGs} {n : Nat} (hc : X.calm = true) (h : PGs X es t)
    (hn : (assignEach es X.env).length = n := by rfl) (hst : (assignEach es X.env).findIdx? (·.1) = none := by rfl) : PG X (.Tuple es k pos) (gTup K n t) := by
  subst hK; exact pg_tup hc h hn hst
end
theorem get_list : L2.PGet X (rIxL X.K) := by
  intro pins s σ H x y v u Q I rx ry h
  obtain ⟨p, xs, i, z, rfl, rfl, hq, he, q⟩ := h
  cases rx
  obtain ⟨t, rfl⟩ := ry
  obtain ⟨its, r, pl, hz⟩ := I.list hq
  obtain ⟨j, h1, h2, h3, h4, h5⟩ := atI_get he
  obtain ⟨w, ew, rw'⟩ := r.get h2
  have hl := r.length
  have hn := line63
  have fin : EP X pins σ Q w s := ⟨z, H, I, rw', q⟩
  by_cases h0 : 0 ≤ i
  · have hj : i.toNat = j := by
      rw [seqIndex_of h0 h5] at h1
      exact Option.some.inj h1
    exact wpAny_getItem_list pl.isList h0 (by omega) (by rw [hj]; simpa using ew) fin
  · have hj : (i + (its.toArray.size : Int)).toNat = j := by
      rw [seqIndex_neg (by omega) h4] at h1
      rw [List.size_toArray, ← hl]
      exact Option.some.inj h1
    exact wpAny_getItem_list_neg pl.isList (by omega) (by rw [List.size_toArray] <;> omega) (by omega) (by rw [hj]; simpa using ew) fin
end
theorem perm_erase {α : Type} : ∀ (l : List α) (i : Nat) (h : i < l.length), (l[i] :: l.eraseIdx i).Perm l
  | x :: r, 0, _ => List.Perm.refl _
  | x :: r, i + 1, h => (List.Perm.swap x (r[i]'(Nat.lt_of_succ_lt_succ h)) (r.eraseIdx i)).trans ((perm_erase r i (Nat.lt_of_succ_lt_succ h)).cons x)
theorem ints_at {ns : List Int} {i : Nat} {x : V} (h : (ns.map V.int)[i]? = some x) : ∃ z, x = .int z ∧ ns[i]? = some z ∧ ns.take (i + 1) = ns.take i ++ [z] ∧ i < ns.length := by
  rw [List.getElem?_map] at h
  cases e : ns[i]? with
  | none => rw [e] at h; cases h
  | some z =>
    rw [e] at h
    exact ⟨z, (Option.some.inj h).symm, rfl, by rw [List.take_add_one, e]; rfl, (List.getElem?_eq_some_iff.mp e).1⟩
theorem at_lt {α : Type} {xs : List α} {i : Int} (h0 : 0 ≤ i) (h : i < xs.length) : ∃ v, atI xs i = some v ∧ v ∈ xs ∧ xs[i.toNat]? = some v := by
  have hl : i.toNat < xs.length := by omega
  refine ⟨xs[i.toNat], ?_, List.getElem_mem hl, List.getElem?_eq_getElem hl⟩
  have := atI_nat (xs := xs) (j := i.toNat) (v := xs[i.toNat]) (List.getElem?_eq_getElem hl)
  rw [Int.toNat_of_nonneg h0] at this
  exact this
theorem ixN_of {n : Nat} {i : Int} (h0 : 0 ≤ i) (h : i < n) : ixN n i = some i.toNat := by
  unfold ixN
  rw [if_pos h0, if_pos h]
end Jp

/-! ### own classes: methods and instances -/
namespace Jp
open PySem PySem.Spec PyProof.Rows L2
/-- a method of the class C -/
structure Dm (K : PySem.W.Frag) (C : Addr) (x q : Str) (st : Stmt) (f : Addr) (fd : FuncData) (ps : List Str) : Prop where
  fn : Fun K x q st f fd
  mt : Meth K C x f
  bi : Binds K fd ps []
structure Mt (P : Program) (w : World) (K : PySem.W.Frag) (mg : Str → Option Value) (base : Heap) (k : Nat) (C : Addr) (m : Str) (sp : Sp) : Prop where
  ex : ∃ (f : Addr) (fd : FuncData) (ps : List Str), FnOk P w K mg base CX0 k f fd ps sp ∧ Meth K C m f ∧ Binds K fd ps []
structure Mkc (P : Program) (w : World) (K : PySem.W.Frag) (mg : Str → Option Value) (base : Heap) (k : Nat) (C : Addr) (sp : Sp) : Prop where
  ex : ∃ (f : Addr) (fd : FuncData) (ps : List Str), FnOk P w K mg base CX0 k f fd ps sp ∧ Mk K C f ∧ Binds K fd ps []
section
variable {P : Program} {w : World} {K : PySem.W.Frag} {mg : Str → Option Value} {base : Heap}
theorem Dm.ok {C : Addr} {x q : Str} {st : Stmt} {f : Addr} {fd : FuncData} {ps N : List Str} {k : Nat} {sp : Sp} (F : Dm K C x q st f fd ps) (S : FnScope N ps (defScope st)) (len : ∀ vs H Q E, sp vs H Q E → vs.length = ps.length)
    (hbody : ∀ (cdv : Value) (A : Around) (outer : List Env) (s : Shared) (H : Hp) (vs : List V) (Q : VK) (E : XK), Room k (A.deeper (envOfC q (defScope st) s.heap.objs.size f cdv)) → sp vs H Q E →
      ∃ t, PSs (cxOf CX0 P w K mg base N q (defScope st) f cdv A outer s H E).nox (defBody st) t ∧ t { nx := fun _ H' => Q .non H', rt := Q } (start N vs) H) : FnOk P w K mg base CX0 (k + 1) f fd ps sp :=
  F.fn.ok S len hbody
variable {X : Cx}
theorem pe_mtc {pl : Sem Bool} {C : Addr} {m : Str} {sp : Sp} {j k : Nat} {o e : Expr} {es : List Expr} {ta : TE} {t : TA} {apos pos : Pos} (c : Mt X.prog X.w X.K X.mg X.base k C m sp) (cl : Cls X.K C) (hr : Room j X.A) (hk : k ≤ j) (he : PE X o ta) (ha : PA X (e :: es) t)
    (hst : starEach (e :: es) X.env = (false, eval e X.env) :: starEach es X.env := by rfl) (hpl : (backTo pos (starEach es X.env)).any (·.1) = false := by rfl)
    (ht : eval (.Call (.Attribute o m apos) (e :: es) [] pos) X.env = (do
      let ov ← eval o X.env
      standAt apos.atName
      let (f, first) ← holding [ov] (getMethod ov m pl)
      callWith pos f first (backTo pos (starEach (e :: es) X.env)) (backToKw pos (keywordEach [] X.env))) := by rfl) : PE X (.Call (.Attribute o m apos) (e :: es) [] pos) (tMeth C m sp [] E0 ta t) := by
  obtain ⟨f, fd, ps, F, hm, b⟩ := c.ex
  exact pe_meth he cl hm F (hr.mono hk) b .nil pass0 ha hst hpl ht
theorem pe_mtc0 {pl : Sem Bool} {C : Addr} {m : Str} {sp : Sp} {j k : Nat} {o : Expr} {ta : TE} {apos pos : Pos} (c : Mt X.prog X.w X.K X.mg X.base k C m sp) (cl : Cls X.K C) (hr : Room j X.A) (hk : k ≤ j) (he : PE X o ta)
    (ht : eval (.Call (.Attribute o m apos) [] [] pos) X.env = (do
      let ov ← eval o X.env
      standAt apos.atName
      let (f, first) ← holding [ov] (getMethod ov m pl)
      callWith pos f first (backTo pos (starEach [] X.env)) (backToKw pos (keywordEach [] X.env))) := by rfl) : PE X (.Call (.Attribute o m apos) [] [] pos) (tMeth C m sp [] E0 ta tNil) := by
  obtain ⟨f, fd, ps, F, hm, b⟩ := c.ex
  exact pe_meth0 he cl hm F (hr.mono hk) b .nil pass0 ht
theorem pe_mkc {C : Addr} {x : Str} {sp : Sp} {j k : Nat} {e : Expr} {es : List Expr} {t : TA} {p pos : Pos} (c : Mkc X.prog X.w X.K X.mg X.base k C sp) (hr : Room j X.A) (hk : k + 1 ≤ j) (hg : Gl X x) (hm : X.mg x = some (.ref C)) (ha : PA X (e :: es) t)
    (hdb : (x == ("__debug__" : Str)) = false := by decide) (he : starEach (e :: es) X.env = (false, eval e X.env) :: starEach es X.env := by rfl) (hpl : (backTo pos (starEach es X.env)).any (·.1) = false := by rfl) : PE X (.Call (.Name x p) (e :: es) [] pos) (tMake C sp [] E0 t) := by
  obtain ⟨f, fd, ps, F, M, b⟩ := c.ex
  exact pe_make M F (hr.mono hk) hg hm b .nil pass0 ha hdb he hpl
section
variable {σ : L2.St} {H : Hp} {Q : VK}
theorem i_fld {ta : TE} {f : Str} (h : ta σ H fun x H1 => ∃ a C dx fs v, x = .ref a ∧ H1 a = some (.ins C dx fs) ∧ Cls K C ∧ NoAttr K C f ∧ fs.lookup f = some v ∧ Q v H1) : tFld K ta f σ H Q := h
theorem i_ins {a C dx : Addr} {f : Str} {fs : List (Str × V)} {v : V} {R : V → Prop} (h : H a = some (.ins C dx fs)) (c : Cls K C) (n : NoAttr K C f) (l : fs.lookup f = some v) (q : R v) : ∃ a' C' dx' fs' v', V.ref a = .ref a' ∧ H a' = some (.ins C' dx' fs') ∧ Cls K C' ∧ NoAttr K C' f ∧ fs'.lookup f = some v' ∧ R v' := ⟨a, C, dx, fs, v, rfl, h, c, n, l, q⟩
theorem i_insS {a C dx : Addr} {f : Str} {fs : List (Str × V)} {R : Addr → Addr → Addr → List (Str × V) → Prop} (h : H a = some (.ins C dx fs)) (c : Cls K C) (n : NoAttr K C f) (l : fs.length < 1000) (q : R a C dx fs) : ∃ a' C' dx' fs', V.ref a = .ref a' ∧ H a' = some (.ins C' dx' fs') ∧ Cls K C' ∧ NoAttr K C' f ∧ fs'.length < 1000 ∧ R a' C' dx' fs' := ⟨a, C, dx, fs, rfl, h, c, n, l, q⟩
theorem i_sfld {ta tv : TE} {f : Str} {nx : L2.St → Hp → Prop} {rt : VK} {bk ct : L2.St → Hp → Prop} (h : tv σ H fun y H1 => ta σ H1 fun x H2 => ∃ a C dx fs, x = .ref a ∧ H2 a = some (.ins C dx fs) ∧ Cls K C ∧ NoAttr K C f ∧ fs.length < 1000 ∧ nx σ (upd H2 a (.ins C dx (putF f y fs)))) : sFld K ta tv f ⟨nx, rt, bk, ct⟩ σ H := h
theorem i_meth {C : Addr} {m : Str} {sp : Sp} {E : XK} {ta : TE} {t : TA} (h : ta σ H fun x H1 => ∃ a dx fs, x = .ref a ∧ H1 a = some (.ins C dx fs) ∧ fs.lookup m = none ∧ t σ H1 fun vs H2 => sp (x :: (vs ++ [])) H2 Q E) : tMeth C m sp [] E ta t σ H Q := h
theorem i_make {C : Addr} {sp : Sp} {E : XK} {t : TA} (h : t σ H fun vs H1 => ∀ x dx, H1 x = none → H1 dx = none → dx ≠ x → sp (.ref x :: (vs ++ [])) (upd (upd H1 dx (.own x)) x (.ins C dx [])) (fun v H2 => v = .non ∧ Q (.ref x) H2) E) : tMake C sp [] E t σ H Q := h
end
end
end Jp

/-! ### sorted of triples of ints, any number of them -/
namespace Srt3
open PySem PySem.Spec PyProof.Rows L2 Srt SrtO
def lex3 (p q : Int × Int × Int) : Bool := if p.1 = q.1 then (if p.2.1 = q.2.1 then decide (p.2.2 < q.2.2) else decide (p.2.1 < q.2.1)) else decide (p.1 < q.1)
theorem lex3_iff {p q : Int × Int × Int} : lex3 p q = true ↔ p.1 < q.1 ∨ (p.1 = q.1 ∧ (p.2.1 < q.2.1 ∨ (p.2.1 = q.2.1 ∧ p.2.2 < q.2.2))) := by
  unfold lex3
  by_cases e : p.1 = q.1
  · rw [if_pos e]
    by_cases e2 : p.2.1 = q.2.1
    · rw [if_pos e2, decide_eq_true_eq]
      omega
    · rw [if_neg e2, decide_eq_true_eq]
      omega
  · rw [if_neg e, decide_eq_true_eq]
    omega
theorem lex3_no {p q : Int × Int × Int} : lex3 p q = false ↔ ¬ (p.1 < q.1 ∨ (p.1 = q.1 ∧ (p.2.1 < q.2.1 ∨ (p.2.1 = q.2.1 ∧ p.2.2 < q.2.2)))) := by
  rw [← lex3_iff]
  cases lex3 p q <;> simp
theorem swo3 {α : Type} (k : α → Int × Int × Int) : Swo fun v u => lex3 (k v) (k u) := by
  refine ⟨fun x y h => ?_, fun x y z h1 h2 => ?_⟩
  · have a := lex3_iff.mp h
    refine lex3_no.mpr ?_
    omega
  · have a := lex3_no.mp h1
    have b := lex3_no.mp h2
    refine lex3_no.mpr ?_
    omega
def IsT3 (h : Heap) (v : Value) (k : Int × Int × Int) : Prop := ∃ a o t u r n, v = .ref a ∧ h.get? a = some o ∧ o.cls = .type "tuple" ∧ o.data = .seq #[.int k.1 t, .int k.2.1 u, .int k.2.2 r] n
theorem IsT3.keeps {h h' : Heap} {v : Value} {z : Int × Int × Int} (p : IsT3 h v z) (k : ∀ b o, h.get? b = some o → o.cls = .type "tuple" → h'.get? b = some o) : IsT3 h' v z := by
  obtain ⟨a, o, t, u, r, n, e, ho, hc, hd⟩ := p
  exact ⟨a, o, t, u, r, n, e, k _ _ ho hc, hc, hd⟩
theorem firsts3 {h : Heap} : ∀ {vs : List Value}, (∀ v ∈ vs, ∃ k, IsT3 h v k) → ∃ fs : List Value, PySem.W.KatTups h vs fs ∧ fs.length = vs.length ∧ ∀ f ∈ fs, ∃ x t, f = Value.int x t
  | [], _ => ⟨[], PySem.W.KatTups.nil, rfl, fun _ hm => by simp at hm⟩
  | v :: vs, hp => by
    obtain ⟨fs, h1, h2, h3⟩ := firsts3 (vs := vs) fun v' hm => hp v' (List.mem_cons_of_mem _ hm)
    obtain ⟨k, a, o, t, u, r, n, e, ho, hc, hd⟩ := hp v (List.mem_cons_self ..)
    subst e
    refine ⟨.int k.1 t :: fs, PySem.W.KatTups.cons ho hc hd rfl h1, by rw [List.length_cons, List.length_cons, h2], fun f hm => ?_⟩
    rcases List.mem_cons.mp hm with rfl | hm
    · exact ⟨_, t, rfl⟩
    · exact h3 f hm
section
variable {prog : Program} {w : World} {A : Around} {E : Value → Shared → Prop} {s : Shared}
theorem cmp3 {vs : List Value} {k : Value → Int × Int × Int} (hp : ∀ v ∈ vs, IsT3 s.heap v (k v)) : Cmp prog w A s (tuples' true) (fun p => p.1 ∈ vs) (lt2 fun v u => lex3 (k v) (k u)) := by
  intro p q hm hm'
  have h1 := hp _ hm
  have h2 := hp _ hm'
  show wpAny (model prog w) A (keyLt' (tuples' true) p.1 q.1) (fun r s' => s' = s ∧ r = lex3 (k p.1) (k q.1)) (fun _ _ => False) s
  unfold lex3
  generalize k p.1 = kp at h1 ⊢
  generalize k q.1 = kq at h2 ⊢
  obtain ⟨x, y, z⟩ := kp
  obtain ⟨x', y', z'⟩ := kq
  obtain ⟨a, o, t, u, r, n, e, ho, hc, hd⟩ := h1
  obtain ⟨a', o', t', u', r', n', e', ho', hc', hd'⟩ := h2
  simp only at hd hd' ⊢
  rw [e, e']
  refine PySem.W.kat_lt ho hd ho' hd' ?_
  show PySem.W.KatLex prog w A true (decide (3 < 3)) _ [(.int x t, .int x' t'), (.int y u, .int y' u'), (.int z r, .int z' r')] 0 s
  refine PySem.W.kat_cons (SeqAt.EqAt.int_int x t x' t' prog w _ _ ?_)
  refine PySem.W.kat_go (fun e1 => ?_) (fun e1 => ?_)
  · have ex : x = x' := by simpa using e1
    rw [if_pos ex]
    refine PySem.W.kat_yes (PySem.W.kat_cons (SeqAt.EqAt.int_int y u y' u' prog w _ _ ?_))
    refine PySem.W.kat_go (fun e2 => ?_) (fun e2 => ?_)
    · have ey : y = y' := by simpa using e2
      rw [if_pos ey]
      refine PySem.W.kat_yes (PySem.W.kat_cons (SeqAt.EqAt.int_int z r z' r' prog w _ _ ?_))
      refine PySem.W.kat_go (fun e3 => ?_) (fun e3 => ?_)
      · have ez : z = z' := by simpa using e3
        have e4 : decide (z < z') = false := by
          rw [ez]
          exact decide_eq_false (Int.lt_irrefl _)
        exact PySem.W.kat_yes (PySem.W.kat_nil ⟨rfl, e4.symm⟩)
      · refine PySem.W.kat_no (PySem.W.kat_one _ _ (PyProof.Rows.lt_int ?_))
        exact (show s = s ∧ decide (z < z') = decide (z < z') from ⟨rfl, rfl⟩)
    · have ey : ¬ y = y' := by simpa using e2
      rw [if_neg ey]
      refine PySem.W.kat_no (PySem.W.kat_one _ _ (PyProof.Rows.lt_int ?_))
      exact (show s = s ∧ decide (y < y') = decide (y < y') from ⟨rfl, rfl⟩)
  · have ex : ¬ x = x' := by simpa using e1
    rw [if_neg ex]
    exact PySem.W.kat_no (oneLt_int ⟨rfl, rfl⟩)
theorem sortable3 {a : Addr} {vs : List Value} {k : Value → Int × Int × Int} (h0 : 0 < vs.length) (hp : ∀ v ∈ vs, IsT3 s.heap v (k v)) (ha : ∀ o, s.heap.get? a = some o → o.cls ≠ .type "tuple") : SortableO prog w A s a vs fun v u => lex3 (k v) (k u) := by
  intro h' keep
  have hp' : ∀ v ∈ vs, IsT3 h' v (k v) := fun v hm => (hp v hm).keeps fun b o e c => keep b o (fun z => by subst z; exact ha o e c) e
  obtain ⟨fs, h1, h2, h3⟩ := firsts3 fun v hm => ⟨_, hp' v hm⟩
  refine ⟨tuples' true, fun Q E hq => ?_, cmp3 hp'⟩
  refine PySem.W.kat_kind (T := .type "int") h1 (by omega) (fun f hm => ?_) (by rfl) ?_
  · obtain ⟨x, t, rfl⟩ := h3 f hm
    exact PySem.W.Looks.now
  · have e : (Value.type "int" != Value.type "tuple") = true := by first | decide +kernel | rfl | decide
    rw [e]
    exact hq
theorem sorted3 {l : Addr} {vs : List Value} {k : Value → Int × Int × Int} {Q : Value → Shared → Prop} (hl : s.heap.IsList l vs.toArray) (hz : vs.length ≤ sizeLine) (hp : ∀ v ∈ vs, IsT3 s.heap v (k v))
    (h : ∀ (h' : Heap) (d : Addr) (out : List Value), Srtd (fun v u => lex3 (k v) (k u)) out → Stb (fun v u => lex3 (k v) (k u)) out vs → (∀ b o, s.heap.get? b = some o → h'.get? b = some o) → s.heap.objs.size ≤ d → (∃ n, h'.get? d = some (seqObj "list" out.toArray n)) → Q (.ref d) { s with heap := h' }) :
    wpAny (model prog w) A (call (.builtin "sorted") [.ref l]) Q E s := by
  refine sorted_ord (swo3 k) hl hz (fun h2 h₁ a ha kk => ?_) fun out hs hb => ?_
  · refine sortable3 (s := { s with heap := h₁ }) (by omega) (fun v hm => (hp v hm).keeps fun b o e _ => (kk b o e).2) fun o e => ?_
    have e' : some o = some (seqObj "list" vs.toArray 0) := e.symm.trans ha
    cases e'
    intro c
    exact absurd (Value.type.inj c) (by decide)
  · exact h _ _ out hs hb (fun b o e => sortedAll_old e) (Nat.le_succ _) (sortedAll_at s.heap vs out.toArray)
end
abbrev ltP3 (k : V → Int × Int × Int) (x y : V) : Bool := lex3 (k x) (k y)
/-- sorted(xs), xs a list of triples of ints: a new list, sorted, equal ones in their order -/
def rSorted3 (K : PySem.W.Frag) : List V → Hp → VK → Prop := fun vs H Q => ∃ (a : Addr) (xs : List V) (k : V → Int × Int × Int), vs = [V.ref a] ∧ SqL K H a xs ∧ (∀ x ∈ xs, ∃ t, x = V.ref t ∧ H t = some (.tup [.int (k x).1, .int (k x).2.1, .int (k x).2.2])) ∧
  ∀ ys p, SrtO.Srtd (ltP3 k) ys → SrtO.Stb (ltP3 k) ys xs → H p = none → Q (.ref p) (upd H p (.lst ys))
section
variable {X : Cx}
theorem cr_sorted3 : CallR X (.builtin "sorted") (rSorted3 X.K) := by
  intro pins s σ H vs us Q I r h
  obtain ⟨a, xs, k, rfl, hs, hx, q⟩ := h
  obtain ⟨its, rv, hl, hz⟩ := I.list hs
  obtain ⟨u, rfl, ru⟩ := vals1 r
  obtain rfl : u = Value.ref a := ru
  obtain ⟨e1, e2⟩ := refs_back rv fun x m => by
    obtain ⟨t, e, _⟩ := hx x m
    exact ⟨t, e⟩
  refine sorted3 (k := fun u => k (backV u)) hl.isList (by rw [← rv.length]; exact hz) (fun v hv => ?_) fun h' d out h1 h2 kp hd hn => ?_
  · obtain ⟨t, rfl⟩ := e2 v hv
    have hm : V.ref t ∈ xs := by rw [e1]; exact List.mem_map.mpr ⟨_, hv, rfl⟩
    obtain ⟨t', e, ht⟩ := hx _ hm
    cases e
    obtain ⟨_, its2, r2, o, ho, hc, n, hd⟩ := I.hok _ _ ht
    obtain ⟨u1, r3, rfl, ri, r4⟩ : ∃ u1 r3, its2 = u1 :: r3 ∧ RelV (.int (k (.ref t)).1) u1 ∧ Vals [.int (k (.ref t)).2.1, .int (k (.ref t)).2.2] r3 := by
      cases r2 with
      | cons a b => exact ⟨_, _, rfl, a, b⟩
    obtain ⟨u2, u3, rfl, rj, rk⟩ := vals2 r4
    obtain ⟨t1, rfl⟩ := ri
    obtain ⟨t2, rfl⟩ := rj
    obtain ⟨t3, rfl⟩ := rk
    exact ⟨t, o, t1, t2, t3, n, rfl, ho, hc, hd⟩
  · have h3 : ∀ u ∈ out, ∃ a, u = Value.ref a := fun u hu => e2 u (h2.perm.mem_iff.mp hu)
    obtain ⟨n, hn⟩ := hn
    have hb : SrtO.Stb (ltP3 k) (out.map backV) xs := by
      rw [e1]
      exact SrtO.Stb.map (swo3 k) backV h2
    refine ⟨.ref d, upd H d (.lst (out.map backV)), I.laid (t' := s.toks) kp hd ⟨?_, out, n, vals_back h3, hn⟩, rfl, q _ d (SrtO.srtd_map h1) hb (I.hok.fresh hd)⟩
    rw [hb.len]
    exact hz
end
end Srt3

namespace Law
open PySem PySem.Spec PyProof.Rows L2 Jp
/-! ### the walk's small steps -/
local macro_rules | `(tactic| wtm_at "jset") => `(tactic| (first | (simp only [wipe, List.map_cons, List.map_nil, List.set_cons_zero, List.set_cons_succ]; done) | (simp only [wipe, List.map_cons, List.map_nil, List.set_cons_zero, List.set_cons_succ]; exact rfl) | exact rfl))
local macro_rules | `(tactic| wtm_at "jw1") => `(tactic| first
  | ((with_reducible refine' i_var ?h ?_); (case h => exact rfl))
  | with_reducible refine' i_c ?_ | with_reducible refine' i_op ?_ | with_reducible refine' i_seq ?_ | with_reducible refine' i_asg ?_
  | ((with_reducible refine' i_gNameE ?e ?_); (case e => wtm_at "jset"))
  | with_reducible refine' i_ret ?_ | with_reducible refine' i_test ?_ | with_reducible refine' i_isb ?_
  | with_reducible refine' i_cons ?_ | with_reducible refine' i_nil ?_ | with_reducible refine' i_call ?_ | with_reducible refine' i_cb ?_
  | with_reducible refine' i_rI0 ?_ | ((with_reducible refine' i_rI ?c ?_); (case c => wtm_at "jside")) | with_reducible refine' i_rU ?_
  | with_reducible refine' i_eqI ?_ | with_reducible refine' i_neI ?_ | with_reducible refine' i_eqB ?_ | with_reducible refine' i_neB ?_ | with_reducible refine' i_eqS ?_ | with_reducible refine' i_neS ?_
  | with_reducible refine' i_isN ?_ | with_reducible refine' i_notN ?_
  | with_reducible refine' i_un ?_ | with_reducible refine' i_drop ?_ | with_reducible refine' i_retN ?_ | with_reducible refine' i_next ?_
  | ((with_reducible refine' i_ixL ?h ?e ?_); (case h => wtm_at "jsq"); (case e => wtm_at "jat"))
  | ((with_reducible refine' i_ixT ?h ?e ?_); (case h => wtm_at "jsq"); (case e => wtm_at "jat"))
  | ((with_reducible refine' i_ix1 (i_ixL ?h ?e ?_)); (case h => wtm_at "jsq"); (case e => wtm_at "jat"))
  | ((with_reducible refine' i_ix2 (i_ixT ?h ?e ?_)); (case h => wtm_at "jsq"); (case e => wtm_at "jat"))
  | with_reducible refine' i_gSub ?_
  | ((with_reducible refine' i_setL ?h ?e ?_); (case h => wtm_at "jhp"); (case e => wtm_at "jixn"))
  | ((with_reducible refine' i_gTup ?h ?e ?_); (case h => wtm_at "jsq"); (case e => rfl)) | with_reducible refine' i_gCons ?_ | with_reducible refine' i_gNil ?_
  | with_reducible refine' i_int ?_ | with_reducible refine' i_intB ?_ | with_reducible refine' i_abs ?_ | with_reducible refine' i_max2 ?_ | with_reducible refine' i_min2 ?_
  | ((with_reducible refine' i_lenL ?h ?_); (case h => wtm_at "jsq")) | ((with_reducible refine' i_lenT ?h ?_); (case h => wtm_at "jsq"))
  | ((with_reducible refine' i_tupL ?h ?_); (case h => wtm_at "jsq")) | ((with_reducible refine' i_lstL ?h ?_); (case h => wtm_at "jsq")) | ((with_reducible refine' i_lstT ?h ?_); (case h => wtm_at "jsq")) | ((with_reducible refine' i_tupT ?h ?_); (case h => wtm_at "jsq"))
  | ((with_reducible refine' i_new ?h ?_); (case h => wtm_at "jlen"))
  | with_reducible refine' i_tup ?_ | with_reducible refine' i_lst ?_ | with_reducible refine' i_if ?_ | with_reducible refine' i_andV ?_ | with_reducible refine' i_orV ?_ | with_reducible refine' i_notV ?_ | with_reducible refine' i_B ?_
  | with_reducible refine' i_and ?_ | with_reducible refine' i_or ?_ | with_reducible refine' i_not ?_ | with_reducible refine' i_break ?_ | with_reducible refine' i_cont ?_
  | ((with_reducible refine' i_augE ?h ?_); (case h => exact rfl)) | with_reducible refine' i_augS ?_ | with_reducible refine' i_ipI ?_
  | with_reducible refine' i_for ?_ | with_reducible refine' i_iList ?_ | with_reducible refine' i_iTup ?_ | ((with_reducible refine' i_isL ?h ?_); (case h => wtm_at "jsq")) | ((with_reducible refine' i_isT ?h ?_); (case h => wtm_at "jsq"))
  | with_reducible refine' i_rng1 ?_ | with_reducible refine' i_rng2 ?_
  | ((with_reducible refine' i_isR1 ?h1 ?h2 ?_); (case h1 => wtm_at "jside"); (case h2 => wtm_at "jside"))
  | ((with_reducible refine' i_isR2 ?h1 ?h2 ?h3 ?h4 ?_); (case h1 => wtm_at "jside"); (case h2 => wtm_at "jside"); (case h3 => wtm_at "jside"); (case h4 => wtm_at "jside"))
  | ((with_reducible refine' i_lc ?e ?_); (case e => wtm_at "jset"))
  | with_reducible refine' i_yes ?_ | with_reducible refine' i_sl ?_ | with_reducible refine' i_par ?_ | with_reducible refine' i_two ?_ | with_reducible refine' i_noPart ?_ | with_reducible refine' i_part ?_ | with_reducible refine' i_isI ?_
  | with_reducible refine' i_bm ?_ | with_reducible refine' i_bm0 ?_ | ((with_reducible refine' i_tyL ?h ?_); (case h => wtm_at "jsq"))
  | ((with_reducible refine' i_app ?h ?e ?_); (case h => wtm_at "jhp"); (case e => wtm_at "jsmall"))
  | with_reducible refine' i_chain ?_ | ((with_reducible refine' i_cat ?h1 ?h2 ?e ?_); (case h1 => wtm_at "jhp"); (case h2 => wtm_at "jhp"); (case e => wtm_at "jlen"))
  | with_reducible refine iteT ?_ | with_reducible refine iteF ?_ | with_reducible refine' c_nt ?_ | with_reducible refine' c_nf ?_)
local macro_rules | `(tactic| wtm_at "js") => `(tactic| repeat (wtm_at "jw1"))
local macro_rules | `(tactic| wtm_at "jw") => `(tactic| repeat (first | wtm_at "jw1" | with_reducible refine' i_ifS ?_))
local macro_rules | `(tactic| wtm_at "jlen") => `(tactic| first | decide | (simp [sizeLine]; done) | omega)
/- a condition of an operation -/
local macro_rules | `(tactic| wtm_at "jside") => `(tactic| first | with_reducible assumption | omega | decide | (simp only [List.length_map]; omega) | (refine Or.inl ?_; decide) | (refine Or.inr ?_; decide) | (refine ⟨?_, ?_⟩ <;> omega) | (refine Or.inl ?_; constructor <;> omega) | (refine Or.inr ?_; constructor <;> omega) | (refine ⟨by decide, by decide, by decide⟩) | (with_reducible refine wide_div ?_ (b := 64) ?_ ?_ ?_ <;> first | omega | decide))
/- H p = some o -/
local macro_rules | `(tactic| wtm_at "jhp") => `(tactic| first | assumption | with_reducible exact upd_same | ((with_reducible refine' Eq.trans (upd_ne ?hne) ?hgo); (case hne => wtm_at "jne"); (case hgo => wtm_at "jhp")))
local macro_rules | `(tactic| wtm_at "jne") => `(tactic| first | assumption | (refine Ne.symm ?_; assumption) | (refine ne_of_none (by assumption) (by assumption)) | (refine (ne_of_none (by assumption) (by assumption)).symm))
local macro_rules | `(tactic| wtm_at "jsq") => `(tactic| first | assumption | ((with_reducible refine' SqL.of ?hh); (case hh => wtm_at "jhp")) | ((with_reducible refine' SqT.of ?hh); (case hh => wtm_at "jhp")) | ((with_reducible refine' Same.seq (same_new ?hn) ?hh); (case hn => assumption); (case hh => wtm_at "jsq")) | ((with_reducible refine' Same.tup (same_new ?hn) ?hh); (case hn => assumption); (case hh => wtm_at "jsq")))
/- the item at a place -/
local macro_rules | `(tactic| wtm_at "jat") => `(tactic| first | exact rfl | assumption)
local macro_rules | `(tactic| wtm_at "jixn") => `(tactic| first | exact rfl | assumption)
local macro_rules | `(tactic| wtm_at "jsmall") => `(tactic| first | assumption | exact small1000 (by first | assumption | omega | (simp; done) | (simp; omega)))

def top (i : Nat) : Stmt := PySem.Challenge.pw_judgedplay_k29_post_brings.main.body.getD i (.Pass ⟨0, 0, 0, 0⟩)
abbrev s__law_begin : Stmt := top 5
abbrev N__law_begin : List Str := ["script", "cell"]
theorem sc__law_begin : FnScope N__law_begin ["script"] (defScope s__law_begin) := ⟨rfl, rfl, rfl, by decide +kernel, rfl, by decide +kernel, by decide +kernel⟩
abbrev s__law_draw : Stmt := top 6
abbrev N__law_draw : List Str := ["d", "many", "found", "size", "cell"]
theorem sc__law_draw : FnScope N__law_draw ["d", "many"] (defScope s__law_draw) := ⟨rfl, rfl, rfl, by decide +kernel, rfl, by decide +kernel, by decide +kernel⟩
abbrev s__law_pick : Stmt := top 7
abbrev N__law_pick : List Str := ["d", "row"]
theorem sc__law_pick : FnScope N__law_pick ["d", "row"] (defScope s__law_pick) := ⟨rfl, rfl, rfl, by decide +kernel, rfl, by decide +kernel, by decide +kernel⟩
abbrev s__law_shuffled : Stmt := top 9
abbrev N__law_shuffled : List Str := ["d", "row", "left", "found", "k"]
theorem sc__law_shuffled : FnScope N__law_shuffled ["d", "row"] (defScope s__law_shuffled) := ⟨rfl, rfl, rfl, by decide +kernel, rfl, by decide +kernel, by decide +kernel⟩
abbrev s__law_rare : Stmt := top 8
abbrev N__law_rare : List Str := ["d", "many"]
theorem sc__law_rare : FnScope N__law_rare ["d", "many"] (defScope s__law_rare) := ⟨rfl, rfl, rfl, by decide +kernel, rfl, by decide +kernel, by decide +kernel⟩
abbrev s__law_fates : Stmt := top 10
abbrev N__law_fates : List Str := ["d", "frames", "late", "lost", "found", "run", "k", "one"]
theorem sc__law_fates : FnScope N__law_fates ["d", "frames", "late", "lost"] (defScope s__law_fates) := ⟨rfl, rfl, rfl, by decide +kernel, rfl, by decide +kernel, by decide +kernel⟩
abbrev s__law_road : Stmt := top 11
abbrev N__law_road : List Str := ["d", "seats", "receivers", "frames", "late", "lost", "found", "sender", "rows", "receiver"]
theorem sc__law_road : FnScope N__law_road ["d", "seats", "receivers", "frames", "late", "lost"] (defScope s__law_road) := ⟨rfl, rfl, rfl, by decide +kernel, rfl, by decide +kernel, by decide +kernel⟩
abbrev s__law_late_row : Stmt := top 12
abbrev N__law_late_row : List Str := ["d", "frames", "late", "lost", "phase", "fate", "frame"]
theorem sc__law_late_row : FnScope N__law_late_row ["d", "frames", "late", "lost"] (defScope s__law_late_row) := ⟨rfl, rfl, rfl, by decide +kernel, rfl, by decide +kernel, by decide +kernel⟩
abbrev s__law_any_road : Stmt := top 13
abbrev N__law_any_road : List Str := ["d", "seats", "receivers", "frames", "late", "lost", "found", "sender", "rows", "receiver"]
theorem sc__law_any_road : FnScope N__law_any_road ["d", "seats", "receivers", "frames", "late", "lost"] (defScope s__law_any_road) := ⟨rfl, rfl, rfl, by decide +kernel, rfl, by decide +kernel, by decide +kernel⟩
abbrev s_Post___init__ : Stmt := inClass (top 1) 0
abbrev N_Post___init__ : List Str := ["self", "road"]
theorem sc_Post___init__ : FnScope N_Post___init__ ["self", "road"] (defScope s_Post___init__) := ⟨rfl, rfl, rfl, by decide +kernel, rfl, by decide +kernel, by decide +kernel⟩
abbrev s__law_lasts : Stmt := top 15
abbrev N__law_lasts : List Str := ["d", "seats", "rounds", "found", "sender"]
theorem sc__law_lasts : FnScope N__law_lasts ["d", "seats", "rounds"] (defScope s__law_lasts) := ⟨rfl, rfl, rfl, by decide +kernel, rfl, by decide +kernel, by decide +kernel⟩
abbrev s_Post_arriving : Stmt := inClass (top 1) 2
abbrev N_Post_arriving : List Str := ["self", "receiver", "frame", "bag", "order", "k", "row"]
theorem sc_Post_arriving : FnScope N_Post_arriving ["self", "receiver", "frame"] (defScope s_Post_arriving) := ⟨rfl, rfl, rfl, by decide +kernel, rfl, by decide +kernel, by decide +kernel⟩
abbrev s__law_arrivals : Stmt := top 17
abbrev N__law_arrivals : List Str := ["road", "sent", "receiver", "frame", "found", "sender", "start", "fates", "fate", "delay"]
theorem sc__law_arrivals : FnScope N__law_arrivals ["road", "sent", "receiver", "frame"] (defScope s__law_arrivals) := ⟨rfl, rfl, rfl, by decide +kernel, rfl, by decide +kernel, by decide +kernel⟩
abbrev s__law_brings : Stmt := top 18
abbrev N__law_brings : List Str := ["post", "road", "sent", "receiver", "frame", "told"]
theorem sc__law_brings : FnScope N__law_brings ["post", "road", "sent", "receiver", "frame"] (defScope s__law_brings) := ⟨rfl, rfl, rfl, by decide +kernel, rfl, by decide +kernel, by decide +kernel⟩
abbrev s__law_letter : Stmt := top 14
abbrev N__law_letter : List Str := ["d", "sender", "frame", "number", "tick", "words", "k", "marks"]
theorem sc__law_letter : FnScope N__law_letter ["d", "sender", "frame"] (defScope s__law_letter) := ⟨rfl, rfl, rfl, by decide +kernel, rfl, by decide +kernel, by decide +kernel⟩
abbrev s_Post_send : Stmt := inClass (top 1) 1
abbrev N_Post_send : List Str := ["self", "sender", "receiver", "frame", "letter", "fates", "fate", "delay", "key"]
theorem sc_Post_send : FnScope N_Post_send ["self", "sender", "receiver", "frame", "letter"] (defScope s_Post_send) := ⟨rfl, rfl, rfl, by decide +kernel, rfl, by decide +kernel, by decide +kernel⟩
abbrev s__law_is_sent : Stmt := top 16
abbrev N__law_is_sent : List Str := ["d", "post", "sent", "senders", "receivers", "frame", "pairs", "sender", "receiver", "letter"]
theorem sc__law_is_sent : FnScope N__law_is_sent ["d", "post", "sent", "senders", "receivers", "frame"] (defScope s__law_is_sent) := ⟨rfl, rfl, rfl, by decide +kernel, rfl, by decide +kernel, by decide +kernel⟩
abbrev s__law_is_heard : Stmt := top 19
abbrev N__law_is_heard : List Str := ["rows", "sender", "last", "lost", "most", "start", "times", "row"]
theorem sc__law_is_heard : FnScope N__law_is_heard ["rows", "sender", "last", "lost", "most"] (defScope s__law_is_heard) := ⟨rfl, rfl, rfl, by decide +kernel, rfl, by decide +kernel, by decide +kernel⟩
abbrev s__law_all_heard : Stmt := top 20
abbrev N__law_all_heard : List Str := ["post", "lasts", "receiver", "rounds", "lost", "most", "rows", "frame", "letter", "sender"]
theorem sc__law_all_heard : FnScope N__law_all_heard ["post", "lasts", "receiver", "rounds", "lost", "most"] (defScope s__law_all_heard) := ⟨rfl, rfl, rfl, by decide +kernel, rfl, by decide +kernel, by decide +kernel⟩
abbrev s_lateness : Stmt := top 3
abbrev N_lateness : List Str := ["d", "l"]
theorem sc_lateness : FnScope N_lateness ["d", "l"] (defScope s_lateness) := ⟨rfl, rfl, rfl, by decide +kernel, rfl, by decide +kernel, by decide +kernel⟩
abbrev s_law : Stmt := top 21
abbrev N_law : List Str := ["script", "d", "seats", "receivers", "frames", "late", "lost", "rounds", "roads", "k", "posts", "road", "sents", "lasts", "frame", "senders", "sender", "receiver"]
theorem sc_law : FnScope N_law ["script"] (defScope s_law) := ⟨rfl, rfl, rfl, by decide +kernel, rfl, by decide +kernel, by decide +kernel⟩
/-- what the text's top has: built-ins that are still so, constants -/
structure Txt (K : PySem.W.Frag) (mg : Str → Option Value) (C_Post : Addr) : Prop where
  cl_Post : Cls K C_Post
  mg_Post : mg "Post" = some (.ref C_Post)
  na_Post_road : NoAttr K C_Post "road"
  na_Post_bags : NoAttr K C_Post "bags"
  b_int : mg "int" = none
  b_len : mg "len" = none
  b_abs : mg "abs" = none
  b_list : mg "list" = none
  b_range : mg "range" = none
  b_tuple : mg "tuple" = none
  b_sorted : mg "sorted" = none
  b_isinstance : mg "isinstance" = none
  b_min : mg "min" = none
/-! ### the draws -/
/-- a row of draws stands at p, its cells at a -/
def DrawAt (H : Hp) (p a : Addr) : Prop := ∃ (ns : List Int) (pos pend seed : Int), H p = some (.lst [.ref a, .int pos, .int pend, .int seed]) ∧ H a = some (.lst (ns.map V.int)) ∧ a ≠ p ∧ 0 ≤ pos
theorem DrawAt.same {H H' : Hp} {p a : Addr} (d : DrawAt H p a) (s : Same H H') : DrawAt H' p a := by
  obtain ⟨ns, pos, pend, seed, h1, h2, h3, h4⟩ := d
  exact ⟨ns, pos, pend, seed, s _ _ h1, s _ _ h2, h3, h4⟩
/-- behind draws: the row stands, all else is as it was -/
structure Drew (p a : Addr) (H H' : Hp) : Prop where
  at_ : DrawAt H' p a
  kp : Kp p H H'
theorem Drew.trans {p a : Addr} {H H1 H2 : Hp} (x : Drew p a H H1) (y : Drew p a H1 H2) : Drew p a H H2 := ⟨y.at_, x.kp.trans y.kp⟩
theorem Drew.new {p a q : Addr} {H H1 : Hp} {o : HO} (x : Drew p a H H1) (h : H1 q = none) : Drew p a H (upd H1 q o) := ⟨x.at_.same (same_new h), x.kp.trans (.of (same_new h))⟩
theorem Drew.same {p a : Addr} {H H1 H2 : Hp} (x : Drew p a H H1) (s : Same H1 H2) : Drew p a H H2 := ⟨x.at_.same s, x.kp.trans (.of s)⟩
theorem DrawAt.drew {p a : Addr} {H : Hp} (d : DrawAt H p a) : Drew p a H H := ⟨d, Kp.refl⟩
theorem DrawAt.some {H : Hp} {p a : Addr} (d : DrawAt H p a) : ∃ xs, H p = some (.lst xs) := by
  obtain ⟨ns, pos, pend, seed, h1, _⟩ := d
  exact ⟨_, h1⟩
theorem DrawAt.ne_none {H : Hp} {p a q : Addr} (d : DrawAt H p a) (h : H q = none) : q ≠ p := by
  obtain ⟨xs, e⟩ := d.some
  exact (ne_of_none e h).symm
theorem DrawAt.ne_noneA {H : Hp} {p a q : Addr} (d : DrawAt H p a) (h : H q = none) : q ≠ a := by
  obtain ⟨ns, pos, pend, seed, _, h1, _⟩ := d
  exact (ne_of_none h1 h).symm
theorem Drew.free {p a q : Addr} {H H' : Hp} (w : Drew p a H H') (h : H' q = none) : H q = none := by
  cases e : H q with
  | none => rfl
  | some o =>
    by_cases hq : q = p
    · obtain ⟨xs, e'⟩ := w.at_.some
      rw [hq, e'] at h; cases h
    · rw [w.kp _ _ e hq] at h; cases h
/-- a thing of our own, made behind H, is written -/
theorem Drew.put {p a q : Addr} {H H1 : Hp} {o : HO} (x : Drew p a H H1) (d : DrawAt H p a) (h : H q = none) : Drew p a H (upd H1 q o) := by
  have n1 := d.ne_none h
  have n2 := d.ne_noneA h
  obtain ⟨ns, pos, pend, seed, h1, h2, h3, h4⟩ := x.at_
  refine ⟨⟨ns, pos, pend, seed, by rw [upd_ne n1.symm]; exact h1, by rw [upd_ne n2.symm]; exact h2, h3, h4⟩, fun b u hb hne => ?_⟩
  rw [upd_ne (ne_of_none hb h)]
  exact x.kp _ _ hb hne
theorem Drew.tps {p a : Addr} {H H' : Hp} (w : Drew p a H H') (d : DrawAt H p a) : Tps H H' := by
  obtain ⟨xs, e⟩ := d.some
  exact w.kp.tps e
def sp__law_begin (K : PySem.W.Frag) : Sp := fun vs H Q _ => ∃ (a : Addr) (ns : List Int), vs = [.ref a] ∧ SqL K H a (ns.map V.int) ∧ ns.length ≤ 63 ∧
  ∀ (p c : Addr) (H' : Hp), Same H H' → H p = none → H c = none → DrawAt H' p c → Q (.ref p) H'
theorem ok__law_begin {P : Program} {w : World} {K : PySem.W.Frag} {mg : Str → Option Value} {base : Heap} {C_Post : Addr} {f : Addr} {fd : FuncData} (F : Df K mg "_law_begin" s__law_begin f fd ["script"]) (T : Txt K mg C_Post) : FnOk P w K mg base CX0 1 f fd ["script"] (sp__law_begin K) := by
  refine F.ok sc__law_begin (fun vs H Q E h => ?_) (fun cdv A outer s H vs Q E hr h => ?_)
  · obtain ⟨a, ns, rfl, _⟩ := h
    rfl
  · obtain ⟨a, ns, rfl, hS, hl, k⟩ := h
    refine ⟨_, (pss_one (ps_ret (pe_lst (pa_cons (pe_lc (own := [("cell", 1)]) (g := gName 1) (tt := tYes) rfl sc__law_begin.nd (pi_list (pv 0)) (blkOk_by (own := [("cell", 1)]) (N := N__law_begin) (sc := defScope s__law_begin) (by decide +kernel)) (fun _ _ _ _ _ => (pg_name (i := 1) sc__law_begin.nd rfl (Or.inl rfl))) (fun _ _ _ _ _ => pts_nil) (fun _ _ _ _ _ => (pe_callTy (T := "int") c_int (by rfl) T.b_int (by decide +kernel) (pa_cons (pv 1) pa_nil)))) (pa_cons pe_int (pa_cons pe_int (pa_cons pe_int pa_nil))))))), ?_⟩
    try dsimp only [cxOf, Cx.nox, Cx.wish]
    refine st_of (σ' := [some _, none]) rfl ?_
    wtm_at "jw"
    intro D hD
    refine l_list (xs := ns.map V.int) (fun i H1 => Same H H1 ∧ H1 D = some (.lst ((ns.take i).map V.int))) ⟨same_new hD, upd_same⟩ (fun i H1 _ h => h.1.seq hS) (fun i x H1 hi h => ?_) (fun H1 h => ?_)
    · obtain ⟨s1, h1⟩ := h
      rw [List.getElem?_map] at hi
      cases e : ns[i]? with
      | none => rw [e] at hi; cases hi
      | some z =>
        rw [e] at hi
        cases hi
        have hlt : i < ns.length := (List.getElem?_eq_some_iff.mp e).1
        wtm_at "jw"
        refine ⟨rfl, ?_⟩
        wtm_at "jw"
        refine ⟨_, h1, small1000 (by rw [List.length_map, List.length_take]; omega), ?_, ?_⟩
        · intro b o hb
          have hne : b ≠ D := ne_of_none hb hD
          rw [upd_ne hne]
          exact s1 _ _ hb
        · rw [upd_same, List.take_add_one, e, List.map_append]
          rfl
    · obtain ⟨s1, h1⟩ := h
      rw [List.length_map, List.take_length] at h1
      wtm_at "jw"
      intro p hp
      have hne : D ≠ p := ne_of_none h1 hp
      refine k p D _ (fun b o hb => ?_) (s1.free hp) hD ⟨ns, 0, 0, 11, upd_same, by rw [upd_ne hne]; exact h1, hne, by decide⟩
      rw [upd_ne (ne_of_none (s1 _ _ hb) hp)]
      exact s1 _ _ hb
def sp__law_draw (K : PySem.W.Frag) : Sp := fun vs H Q _ => ∃ (p a : Addr) (many : Int), vs = [.ref p, .int many] ∧ DrawAt H p a ∧ 0 < many ∧ many < 18446744073709551616 ∧
  ∀ (r : Int) (H' : Hp), 0 ≤ r → r < many → Drew p a H H' → Q (.int r) H'
theorem ok__law_draw {P : Program} {w : World} {K : PySem.W.Frag} {mg : Str → Option Value} {base : Heap} {C_Post : Addr} {f : Addr} {fd : FuncData} (F : Df K mg "_law_draw" s__law_draw f fd ["d", "many"]) (T : Txt K mg C_Post) : FnOk P w K mg base CX0 1 f fd ["d", "many"] (sp__law_draw K) := by
  refine F.ok sc__law_draw (fun vs H Q E h => ?_) (fun cdv A outer s H vs Q E hr h => ?_)
  · obtain ⟨p, a, m, rfl, _⟩ := h
    rfl
  · obtain ⟨p, a, m, rfl, ⟨ns, pos, pend, seed, hp, ha, nap, h0⟩, hm0, hm1, k⟩ := h
    have fin : ∀ (z : Int) (pos' pend' seed' : Int) (H' : Hp), 0 ≤ pos' → H' p = some (.lst [.ref a, .int pos', .int pend', .int seed']) → Kp p H H' → Q (.int (z % m)) H' := fun z pos' pend' seed' H' hp' h1 h2 =>
      k _ _ (Int.emod_nonneg _ (by omega)) (Int.emod_lt_of_pos _ hm0) ⟨⟨ns, pos', pend', seed', h1, h2 _ _ ha nap, nap, hp'⟩, h2⟩
    refine ⟨_, (pss_cons (ps_if (pt_cmpR op_gt (pe_ix (r := rIxL K) ix_list (pv 0) pe_int (fun _ _ => rfl)) pe_int (nomark _)) (pss_cons (ps_set (i := 2) sc__law_draw.nd rfl (Or.inl rfl) (pe_ix (r := rIxL K) ix_list (pv 0) pe_int (fun _ _ => rfl)))
      (pss_cons (ps_asg (pe_op op_fdivW (pv 2) (pv 1)) (pg_sub (pv 0) pe_int set_list))
      (pss_one (ps_ret (pe_op op_mod (pe_callTy (T := "int") c_int (by rfl) T.b_int (by decide +kernel) (pa_cons (pv 2) pa_nil)) (pv 1)))))) pss_nil)
      (pss_cons (ps_set (i := 3) sc__law_draw.nd rfl (Or.inl rfl) pe_int)
      (pss_cons (ps_if (pt_cmpR op_lt (pe_ix (r := rIxL K) ix_list (pv 0) pe_int (fun _ _ => rfl)) (pe_callB (id := "len") (r := qLen K) c_len (by rfl) T.b_len (by decide +kernel) (pa_cons (pe_ix (r := rIxL K) ix_list (pv 0) pe_int (fun _ _ => rfl)) pa_nil)) (nomark _)) (pss_cons (ps_set (i := 4) sc__law_draw.nd rfl (Or.inl rfl) (pe_ix (r := rIx K) ix_seq (pe_ix (r := rIxL K) ix_list (pv 0) pe_int (fun _ _ => rfl)) (pe_ix (r := rIxL K) ix_list (pv 0) pe_int (fun _ _ => rfl)) (fun _ _ => rfl)))
      (pss_one (ps_set (i := 3) sc__law_draw.nd rfl (Or.inl rfl) (pe_op op_add (pe_op op_mul pe_int (pe_callB (id := "abs") c_abs (by rfl) T.b_abs (by decide +kernel) (pa_cons (pv 4) pa_nil))) (pe_callTy (T := "int") c_int (by rfl) T.b_int (by decide +kernel) (pa_cons (pe_cmpR op_lt (pv 4) pe_int (nomark _)) pa_nil)))))) pss_nil)
      (pss_cons (ps_augS (pv 0) pe_int get_list pe_int iop_add set_list)
      (pss_cons (ps_if (pt_cmpR op_ge (pv 3) (pe_op op_mul pe_int (pe_op op_pow pe_int pe_int)) (nomark _)) (pss_cons (ps_set (i := 2) sc__law_draw.nd rfl (Or.inl rfl) (pe_op op_mod (pe_callTy (T := "int") c_int (by rfl) T.b_int (by decide +kernel) (pa_cons (pe_op op_fdiv (pv 3) pe_int) pa_nil)) (pe_op op_shl pe_int pe_int)))
      (pss_cons (ps_asg (pe_op op_fdivW (pv 2) (pv 1)) (pg_sub (pv 0) pe_int set_list))
      (pss_one (ps_ret (pe_op op_mod (pe_callTy (T := "int") c_int (by rfl) T.b_int (by decide +kernel) (pa_cons (pv 2) pa_nil)) (pv 1)))))) pss_nil)
      (pss_cons (ps_asg (pe_op op_mod (pe_callTy (T := "int") c_int (by rfl) T.b_int (by decide +kernel) (pa_cons (pe_op op_add (pe_op op_add (pe_op op_add (pe_op op_mul (pe_ix (r := rIxL K) ix_list (pv 0) pe_int (fun _ _ => rfl)) pe_int) (pe_op op_mul (pe_op op_mod (pe_callTy (T := "int") c_int (by rfl) T.b_int (by decide +kernel) (pa_cons (pv 3) pa_nil)) pe_int) pe_int)) (pe_op op_mul (pe_ix (r := rIxL K) ix_list (pv 0) pe_int (fun _ _ => rfl)) pe_int)) pe_int) pa_nil)) pe_int) (pg_sub (pv 0) pe_int set_list))
      (pss_one (ps_ret (pe_op op_mod (pe_callTy (T := "int") c_int (by rfl) T.b_int (by decide +kernel) (pa_cons (pe_op op_fdiv (pe_ix (r := rIxL K) ix_list (pv 0) pe_int (fun _ _ => rfl)) pe_int) pa_nil)) (pv 1)))))))))), ?_⟩
    try dsimp only [cxOf, Cx.nox, Cx.wish]
    refine st_of (σ' := [some _, some _, none, none, none]) rfl ?_
    wtm_at "jw"
    refine c_dec (fun h => ?_) (fun h => ?_)
    · wtm_at "jw"
      exact fin _ _ _ _ _ h0 upd_same Kp.upd
    · wtm_at "jw"
      refine c_dec (fun h1 => ?_) (fun h1 => ?_)
      · obtain ⟨c, hc⟩ : ∃ c : Int, atI (ns.map V.int) pos = some (.int c) := by
          obtain ⟨v, e, hv, _⟩ := at_lt (xs := ns.map V.int) h0 h1
          obtain ⟨z, _, rfl⟩ := List.mem_map.mp hv
          exact ⟨z, e⟩
        wtm_at "jw"
        refine c_dec (fun h2 => ?_) (fun h2 => ?_)
        · wtm_at "jw"
          exact fin _ (pos + 1) _ _ _ (by omega) upd_same (Kp.upd.trans Kp.upd)
        · wtm_at "jw"
          exact fin _ (pos + 1) _ _ _ (by omega) upd_same (Kp.upd.trans Kp.upd)
      · wtm_at "jw"
        refine c_dec (fun h2 => ?_) (fun h2 => ?_)
        · wtm_at "jw"
          exact fin _ (pos + 1) _ _ _ (by omega) upd_same (Kp.upd.trans Kp.upd)
        · wtm_at "jw"
          exact fin _ (pos + 1) _ _ _ (by omega) upd_same (Kp.upd.trans Kp.upd)

def sp__law_pick (K : PySem.W.Frag) : Sp := fun vs H Q _ => ∃ (p a b : Addr) (xs : List V), vs = [.ref p, .ref b] ∧ DrawAt H p a ∧ ((b ≠ p ∧ SqL K H b xs) ∨ SqT K H b xs) ∧ 0 < xs.length ∧ xs.length < 1073741824 ∧
  ∀ (x : V) (H' : Hp), x ∈ xs → Drew p a H H' → Q x H'
theorem ok__law_pick {P : Program} {w : World} {K : PySem.W.Frag} {mg : Str → Option Value} {base : Heap} {C_Post : Addr} {f : Addr} {fd : FuncData} (F : Df K mg "_law_pick" s__law_pick f fd ["d", "row"]) (T : Txt K mg C_Post)
    (c__law_draw : Cl P w K mg base 1 "_law_draw" (sp__law_draw K)) : FnOk P w K mg base CX0 2 f fd ["d", "row"] (sp__law_pick K) := by
  refine F.ok sc__law_pick (fun vs H Q E h => ?_) (fun cdv A outer s H vs Q E hr h => ?_)
  · obtain ⟨p, a, b, xs, rfl, _⟩ := h
    rfl
  · obtain ⟨p, a, b, xs, rfl, hd, hb, hl0, hl1, k⟩ := h
    refine ⟨_, (pss_one (ps_ret (pe_ix (r := rIx K) ix_seq (pv 1) (pe_cl c__law_draw hr (by decide) rfl (pa_cons (pv 0) (pa_cons (pe_callB (id := "len") (r := qLen K) c_len (by rfl) T.b_len (by decide +kernel) (pa_cons (pv 1) pa_nil)) pa_nil))) (fun _ _ => rfl)))), ?_⟩
    try dsimp only [cxOf, Cx.nox, Cx.wish]
    refine st_of (σ' := [some _, some _]) rfl ?_
    rcases hb with ⟨nb, hb⟩ | hb
    all_goals
      wtm_at "jw"
      refine ⟨p, a, _, rfl, hd, by omega, by omega, fun r H' hr0 hr1 w => ?_⟩
      obtain ⟨v, e, hv, _⟩ := at_lt hr0 hr1
    · have hb' := w.kp.seq hb nb
      wtm_at "jw"
      exact k _ _ hv w
    · have hb' := (w.tps hd).sq hb
      wtm_at "jw"
      exact k _ _ hv w

def sp__law_shuffled (K : PySem.W.Frag) : Sp := fun vs H Q _ => ∃ (p a b : Addr) (xs : List V), vs = [.ref p, .ref b] ∧ DrawAt H p a ∧ (SqL K H b xs ∨ SqT K H b xs) ∧ xs.length ≤ 1000 ∧
  ∀ (q : Addr) (ys : List V) (H' : Hp), Drew p a H H' → H q = none → H' q = some (.lst ys) → ys.Perm xs → Q (.ref q) H'
theorem ok__law_shuffled {P : Program} {w : World} {K : PySem.W.Frag} {mg : Str → Option Value} {base : Heap} {C_Post : Addr} {f : Addr} {fd : FuncData} (F : Df K mg "_law_shuffled" s__law_shuffled f fd ["d", "row"]) (T : Txt K mg C_Post)
    (c__law_draw : Cl P w K mg base 1 "_law_draw" (sp__law_draw K)) : FnOk P w K mg base CX0 2 f fd ["d", "row"] (sp__law_shuffled K) := by
  refine F.ok sc__law_shuffled (fun vs H Q E h => ?_) (fun cdv A outer s H vs Q E hr h => ?_)
  · obtain ⟨p, a, b, xs, rfl, _⟩ := h
    rfl
  · obtain ⟨p, a, b, xs, rfl, hd, hb, hl, k⟩ := h
    refine ⟨_, (pss_cons (ps_set (i := 2) sc__law_shuffled.nd rfl (Or.inl rfl) (pe_callTy (T := "list") (r := rLstOf K) c_lst (by rfl) T.b_list (by decide +kernel) (pa_cons (pv 1) pa_nil)))
      (pss_cons (ps_set (i := 3) sc__law_shuffled.nd rfl (Or.inl rfl) (pe_lst pa_nil))
      (pss_cons (ps_for PassesOwn.never rfl (pi_range1 rfl T.b_range (pa_cons (pe_callB (id := "len") (r := qLen K) c_len (by rfl) T.b_len (by decide +kernel) (pa_cons (pv 2) pa_nil)) pa_nil)) (pg_name (i := 4) sc__law_shuffled.nd rfl (Or.inl rfl)) (pss_one (ps_expr (pe_bmK (K := K) rfl PySem.F.plainAttrs_list PySem.F.slot_list_append PySem.F.type_list_append mt_append (pv 3) (pa_cons (pe_bmK (K := K) rfl PySem.F.plainAttrs_list PySem.F.slot_list_pop PySem.F.type_list_pop mt_popAt (pv 2) (pa_cons (pe_cl c__law_draw hr (by decide) rfl (pa_cons (pv 0) (pa_cons (pe_callB (id := "len") (r := qLen K) c_len (by rfl) T.b_len (by decide +kernel) (pa_cons (pv 2) pa_nil)) pa_nil))) pa_nil)) pa_nil)))))
      (pss_one (ps_ret (pv 3)))))), ?_⟩
    try dsimp only [cxOf, Cx.nox, Cx.wish]
    refine st_of (σ' := [some _, some _, none, none, none]) rfl ?_
    wtm_at "js"
    refine ⟨b, xs, rfl, hb, fun L hL => ?_⟩
    wtm_at "js"
    intro D hD
    have nLD : L ≠ D := by
      intro e
      rw [e, upd_same] at hD
      cases hD
    have hD0 : H D = none := by rw [upd_ne nLD.symm] at hD; exact hD
    wtm_at "js"
    have d0 : Drew p a H (upd (upd H L (.lst xs)) D (.lst [])) := (hd.drew.new hL).put hd hD0
    refine f_range (fun i σ H' => ∃ (v : Option V) (us ws : List V), σ = [some (.ref p), some (.ref b), some (.ref L), some (.ref D), v] ∧ Drew p a H H' ∧ H' L = some (.lst us) ∧ H' D = some (.lst ws) ∧ (ws ++ us).Perm xs ∧ ws.length = i) ⟨none, xs, [], rfl, d0, by rw [upd_ne nLD]; exact upd_same, upd_same, List.Perm.refl _, rfl⟩ (fun i σ H' hi h => ?_) (fun σ H' h => ?_)
    · obtain ⟨v, us, ws, rfl, d1, hL1, hD1, hp, hw⟩ := h
      have hlen : ws.length + us.length = xs.length := by
        have := hp.length_eq
        rw [List.length_append] at this
        exact this
      have hi' : i < xs.length := by omega
      wtm_at "js"
      refine ⟨p, a, _, rfl, d1.at_, by omega, by omega, fun r H2 r0 r1 d2 => ?_⟩
      have nLp : L ≠ p := hd.ne_none hL
      have nDp : D ≠ p := hd.ne_none hD0
      have hL2 := d2.kp _ _ hL1 nLp
      have hD2 := d2.kp _ _ hD1 nDp
      have hrl : r.toNat < us.length := by omega
      wtm_at "js"
      refine i_popAt hL2 r0 r1 (by omega) (List.getElem?_eq_getElem hrl) ?_
      have d3 := (d1.trans d2).put (o := .lst (us.eraseIdx r.toNat)) hd hL
      have hD3 : (upd H2 L (.lst (us.eraseIdx r.toNat))) D = some (.lst ws) := by rw [upd_ne nLD.symm]; exact hD2
      have hws : ws.length < sizeLine := small1000 (by omega)
      wtm_at "js"
      refine ⟨_, us.eraseIdx r.toNat, ws ++ [us[r.toNat]], rfl, d3.put hd hD0, by rw [upd_ne nLD, upd_same], upd_same, ?_, by simp [hw]⟩
      have e : (us[r.toNat] :: us.eraseIdx r.toNat).Perm us := perm_erase us _ hrl
      rw [List.append_assoc]
      exact ((List.Perm.refl ws).append e).trans hp
    · obtain ⟨v, us, ws, rfl, d1, hL1, hD1, hp, hw⟩ := h
      have hlen := hp.length_eq
      rw [List.length_append] at hlen
      have hus : us = [] := List.eq_nil_of_length_eq_zero (by omega)
      rw [hus, List.append_nil] at hp
      wtm_at "js"
      exact k D ws _ d1 hD0 hD1 hp

/-! ### pairs of ints, tuples of them -/
/-- the pairs of rows stand at rs -/
def Prw (H : Hp) (rs : List Addr) (rows : List (Int × Int)) : Prop := rs.length = rows.length ∧ ∀ (i : Nat) (r : Addr) (p : Int × Int), rs[i]? = some r → rows[i]? = some p → H r = some (.tup [.int p.1, .int p.2])
/-- a tuple of pairs -/
def Prs (H : Hp) (a : Addr) (rows : List (Int × Int)) : Prop := ∃ rs : List Addr, H a = some (.tup (rs.map V.ref)) ∧ Prw H rs rows
/-- a list of pairs -/
def LPr (H : Hp) (a : Addr) (rows : List (Int × Int)) : Prop := ∃ rs : List Addr, H a = some (.lst (rs.map V.ref)) ∧ Prw H rs rows
theorem Prw.nil {H : Hp} : Prw H [] [] := ⟨rfl, fun i r p h => by simp at h⟩
theorem Prw.tps {H H' : Hp} {rs : List Addr} {rows : List (Int × Int)} (w : Prw H rs rows) (t : Tps H H') : Prw H' rs rows := ⟨w.1, fun i r p h1 h2 => (t r).1 _ (w.2 i r p h1 h2)⟩
theorem Prw.same {H H' : Hp} {rs : List Addr} {rows : List (Int × Int)} (w : Prw H rs rows) (s : Same H H') : Prw H' rs rows := w.tps (Tps.of s)
theorem Prw.snoc {H : Hp} {rs : List Addr} {rows : List (Int × Int)} {q : Addr} {x y : Int} (w : Prw H rs rows) (h : H q = some (.tup [.int x, .int y])) : Prw H (rs ++ [q]) (rows ++ [(x, y)]) := by
  refine ⟨by simp [w.1], fun i r p h1 h2 => ?_⟩
  have hl := w.1
  by_cases hi : i < rs.length
  · rw [List.getElem?_append_left hi] at h1
    rw [List.getElem?_append_left (by omega)] at h2
    exact w.2 i r p h1 h2
  · rw [List.getElem?_append_right (by omega)] at h1
    rw [List.getElem?_append_right (by omega)] at h2
    rw [hl] at h1
    cases e : i - rows.length with
    | zero =>
      rw [e] at h1 h2
      cases h1
      cases h2
      exact h
    | succ n =>
      rw [e] at h1
      cases h1
theorem Prs.tps {H H' : Hp} {a : Addr} {rows : List (Int × Int)} (h : Prs H a rows) (t : Tps H H') : Prs H' a rows := by
  obtain ⟨rs, ha, w⟩ := h
  exact ⟨rs, (t a).1 _ ha, w.tps t⟩
theorem Prs.same {H H' : Hp} {a : Addr} {rows : List (Int × Int)} (h : Prs H a rows) (s : Same H H') : Prs H' a rows := h.tps (Tps.of s)
theorem LPr.same {H H' : Hp} {a : Addr} {rows : List (Int × Int)} (h : LPr H a rows) (s : Same H H') : LPr H' a rows := by
  obtain ⟨rs, ha, w⟩ := h
  exact ⟨rs, s _ _ ha, w.same s⟩
theorem LPr.kp {H H' : Hp} {p a : Addr} {xs : List V} {rows : List (Int × Int)} (h : LPr H a rows) (k : Kp p H H') (hp : H p = some (.lst xs)) (n : a ≠ p) : LPr H' a rows := by
  obtain ⟨rs, ha, w⟩ := h
  exact ⟨rs, k _ _ ha n, w.tps (k.tps hp)⟩
theorem Prw.put {H : Hp} {D : Addr} {rs : List Addr} {xs ys : List V} {rows : List (Int × Int)} (w : Prw H rs rows) (h : H D = some (.lst xs)) : Prw (upd H D (.lst ys)) rs rows := by
  refine ⟨w.1, fun i r p h1 h2 => ?_⟩
  have hr := w.2 i r p h1 h2
  rw [upd_ne (ne_of hr h (by intro z; cases z))]
  exact hr
/-- a new pair behind the others -/
theorem LPr.add {H : Hp} {D q : Addr} {rs : List Addr} {rows : List (Int × Int)} {x y : Int} (h : H D = some (.lst (rs.map V.ref))) (w : Prw H rs rows) (hq : H q = none) :
    LPr (upd (upd H q (.tup [.int x, .int y])) D (.lst (rs.map V.ref ++ [.ref q]))) D (rows ++ [(x, y)]) := by
  have hD : upd H q (.tup [.int x, .int y]) D = some (.lst (rs.map V.ref)) := by rw [upd_ne (ne_of_none h hq)]; exact h
  refine ⟨rs ++ [q], by rw [upd_same, List.map_append]; rfl, Prw.put (xs := rs.map V.ref) ((w.same (same_new hq)).snoc upd_same) hD⟩
/-- a pair that stands already -/
theorem LPr.add' {H : Hp} {D q : Addr} {rs : List Addr} {rows : List (Int × Int)} {x y : Int} (h : H D = some (.lst (rs.map V.ref))) (w : Prw H rs rows) (hq : H q = some (.tup [.int x, .int y])) :
    LPr (upd H D (.lst (rs.map V.ref ++ [.ref q]))) D (rows ++ [(x, y)]) :=
  ⟨rs ++ [q], by rw [upd_same, List.map_append]; rfl, (w.snoc hq).put h⟩
theorem Prw.at {H : Hp} {rs : List Addr} {rows : List (Int × Int)} {i : Nat} {v : V} (w : Prw H rs rows) (h : (rs.map V.ref)[i]? = some v) : ∃ r p, v = .ref r ∧ rs[i]? = some r ∧ rows[i]? = some p ∧ H r = some (.tup [.int p.1, .int p.2]) ∧ rows.take (i + 1) = rows.take i ++ [p] ∧ i < rows.length := by
  rw [List.getElem?_map] at h
  cases e : rs[i]? with
  | none => rw [e] at h; cases h
  | some r =>
    rw [e] at h
    have hi := (List.getElem?_eq_some_iff.mp e).1
    have hl := w.1
    have e2 : rows[i]? = some (rows[i]'(by omega)) := List.getElem?_eq_getElem (by omega)
    exact ⟨r, _, (Option.some.inj h).symm, rfl, e2, w.2 i r _ e e2, by rw [List.take_add_one, e2]; rfl, by omega⟩
def prD (p : Int × Int) : PyData := .tuple [.int p.1, .int p.2]
theorem dp_prs {K : PySem.W.Frag} {H : Hp} {a : Addr} {rows : List (Int × Int)} (h : Prs H a rows) : Dp K H (.ref a) (.tuple (rows.map prD)) := by
  obtain ⟨rs, ha, w⟩ := h
  refine .tup (SqT.of ha) (dpAll_of (by simp [w.1]) fun i x d h1 h2 => ?_)
  obtain ⟨r, p, rfl, e1, e2, hr, _⟩ := w.at h1
  rw [List.getElem?_map, e2] at h2
  cases h2
  exact dp_ints (ns := [p.1, p.2]) (SqT.of hr)
theorem shp_prs (rows : List (Int × Int)) : Shp 2 (.tuple (rows.map prD)) :=
  Shp.tup fun d hd => by
    obtain ⟨p, _, rfl⟩ := List.mem_map.mp hd
    exact Shp.tup fun e he => by
      rcases List.mem_cons.mp he with rfl | he
      · exact (Shp.int _)
      · rcases List.mem_cons.mp he with rfl | he
        · exact (Shp.int _)
        · cases he
theorem shp_ints (ns : List Int) : Shp 1 (.tuple (ns.map PyData.int)) :=
  Shp.tup fun d hd => by
    obtain ⟨p, _, rfl⟩ := List.mem_map.mp hd
    exact Shp.int _
theorem put_same {H H' : Hp} {D : Addr} {o : HO} (s : Same H H') (h : H D = none) : Same H (upd H' D o) := fun b u hb => by
  rw [upd_ne (ne_of_none hb h)]
  exact s _ _ hb
theorem tps_put {H : Hp} {D : Addr} {xs ys : List V} (h : H D = some (.lst xs)) : Tps H (upd H D (.lst ys)) := (Kp.upd (p := D)).tps h

/-! ### dicts with int keys -/
section
variable {K : PySem.W.Frag} {σ : L2.St} {H : Hp} {Q : VK}
theorem i_dget {td ty : TE} (h : td σ H fun x H1 => ty σ H1 fun y H2 => ∃ a v, x = .ref a ∧ DGet H2 a y (some v) ∧ Q v H2) : tDGet td ty σ H Q := h
theorem i_dgetI {p : Addr} {i : Int} {v : V} {kvs : List (L2.Key × V)} {R : V → Prop} (h : Rd H p (.dK kvs)) (e : valV kvs (.inl i) = some v) (q : R v) : ∃ a v', V.ref p = .ref a ∧ DGet H a (.int i) (some v') ∧ R v' :=
  ⟨p, v, rfl, .inl ⟨kvs, .inl i, h, rfl, e.symm⟩, q⟩
theorem i_din {td ty : TE} (h : ty σ H fun y H1 => td σ H1 fun x H2 => ∃ a o, x = .ref a ∧ DGet H2 a y o ∧ Q (.bl o.isSome) H2) : tDIn ty td σ H Q := h
theorem i_dinI {p : Addr} {i : Int} {kvs : List (L2.Key × V)} {R : Option V → Prop} (h : Rd H p (.dK kvs)) (q : R (valV kvs (.inl i))) : ∃ a o, V.ref p = .ref a ∧ DGet H a (.int i) o ∧ R o :=
  ⟨p, _, rfl, .inl ⟨kvs, .inl i, h, rfl, rfl⟩, q⟩
theorem i_dput {td ty tv : TE} {nx : L2.St → Hp → Prop} {rt : VK} {bk ct : L2.St → Hp → Prop} (h : tv σ H fun v H1 => td σ H1 fun x H2 => ty σ H2 fun y H3 => ∃ a H4, x = .ref a ∧ DPut H3 a y v H4 ∧ nx σ H4) : sDPut td ty tv ⟨nx, rt, bk, ct⟩ σ H := h
theorem i_dputI {p : Addr} {i : Int} {v : V} {kvs : List (L2.Key × V)} {R : Hp → Prop} (h : H p = some (.dK kvs)) (hl : kvs.length ≤ 10000) (q : R (upd H p (.dK (putK kvs (.inl i) v)))) : ∃ a H4, V.ref p = .ref a ∧ DPut H a (.int i) v H4 ∧ R H4 :=
  ⟨p, _, rfl, .inl ⟨kvs, .inl i, h, rfl, by rw [sizeLine_eq]; omega, rfl⟩, q⟩
theorem i_dnew (q : ∀ p, H p = none → Q (.ref p) (upd H p (.dK []))) : tDNewK σ H Q := q
def rSortDI : List V → Hp → VK → Prop := fun xs H Q => ∃ (a : Addr) (kvs : List (L2.Key × V)) (ks : List Int), xs = [.ref a] ∧ Rd H a (.dK kvs) ∧ kvs.map (·.1) = ks.map Sum.inl ∧ ks.length < 64 ∧ ∀ (ys : List Int) (p : Addr), ys.Perm ks → ys.Pairwise (· ≤ ·) → H p = none → Q (.ref p) (upd H p (.lst (ys.map V.int)))
theorem c_sortDI {X : Cx} (hc : X.calm = true) : CallR X (.builtin "sorted") rSortDI := call_sortedDI hc
end
/-- the dict's entries are the map m of ints -/
def DI (kvs : List (L2.Key × V)) (m : Int → Option Int) : Prop := (∀ i : Int, valV kvs (.inl i) = (m i).map V.int) ∧ ∃ ks : List Int, kvs.map (·.1) = ks.map Sum.inl ∧ ks.Nodup
theorem DI.nil : DI [] fun _ => none := ⟨fun _ => rfl, [], rfl, List.nodup_nil⟩
theorem putK_keys {kvs : List (L2.Key × V)} {k : L2.Key} {v : V} : (putK kvs k v).map (·.1) = if (valV kvs k).isSome = true then kvs.map (·.1) else kvs.map (·.1) ++ [k] := by
  unfold putK
  rw [valV_any]
  by_cases h : (valV kvs k).isSome = true
  · rw [if_pos h, if_pos h, List.map_map]
    refine List.map_congr_left fun p _ => ?_
    show (if p.1 = k then (p.1, v) else p).1 = p.1
    split <;> rfl
  · rw [if_neg h, if_neg h, List.map_append]
    rfl
theorem DI.put {kvs : List (L2.Key × V)} {m : Int → Option Int} {i v : Int} (d : DI kvs m) : DI (putK kvs (.inl i) (.int v)) (fun j => if j = i then some v else m j) := by
  obtain ⟨h, ks, hk, hn⟩ := d
  refine ⟨fun j => ?_, ?_⟩
  · rw [valV_put]
    show _ = Option.map V.int (if j = i then some v else m j)
    by_cases e : j = i
    · subst e
      rw [if_pos rfl, if_pos rfl]
      rfl
    · rw [if_neg (by intro z; exact e (Sum.inl.inj z)), if_neg e]
      exact h j
  · rw [putK_keys]
    by_cases e : (valV kvs (.inl i)).isSome = true
    · rw [if_pos e]
      exact ⟨ks, hk, hn⟩
    · rw [if_neg e, hk]
      refine ⟨ks ++ [i], by rw [List.map_append]; rfl, ?_⟩
      have hni : ¬ i ∈ ks := fun hi => by
        have e1 : valV kvs (.inl i) = none := by
          cases q : valV kvs (.inl i) with
          | none => rfl
          | some z => rw [q] at e; exact absurd rfl e
        refine valV_not e1 ?_
        rw [hk]
        exact List.mem_map.mpr ⟨i, hi, rfl⟩
      exact nd_snoc hn hni
theorem DI.mem {kvs : List (L2.Key × V)} {m : Int → Option Int} {ks : List Int} (d : DI kvs m) (hk : kvs.map (·.1) = ks.map Sum.inl) (i : Int) : i ∈ ks ↔ (m i).isSome = true := by
  have h := d.1 i
  constructor
  · intro hi
    cases e : m i with
    | some z => rfl
    | none =>
      rw [e] at h
      refine absurd ?_ (valV_not h)
      rw [hk]
      exact List.mem_map.mpr ⟨i, hi, rfl⟩
  · intro hi
    obtain ⟨z, hz⟩ := Option.isSome_iff_exists.mp hi
    rw [hz] at h
    have := valV_in h
    rw [hk] at this
    obtain ⟨j, hj, e⟩ := List.mem_map.mp this
    exact Sum.inl.inj e ▸ hj
/-- distinct ints of 0 .. n - 1 are at most n -/
theorem nodup_len : ∀ (n : Nat) (l : List Int), l.Nodup → (∀ x ∈ l, 0 ≤ x ∧ x < n) → l.length ≤ n
  | 0, l, _, h => by
    cases l with
    | nil => exact Nat.le_refl _
    | cons x r => have := h x List.mem_cons_self; omega
  | n + 1, l, hn, h => by
    by_cases hm : (n : Int) ∈ l
    · have e := List.length_erase_of_mem hm
      have := nodup_len n (l.erase (n : Int)) (hn.erase _) fun x hx => by
        have h1 := (List.Nodup.mem_erase_iff hn).mp hx
        have h2 := h x h1.2
        have : x ≠ (n : Int) := h1.1
        omega
      omega
    · have := nodup_len n l hn fun x hx => by
        have h2 := h x hx
        have : x ≠ (n : Int) := fun e => hm (e ▸ hx)
        omega
      omega
theorem DI.len {kvs : List (L2.Key × V)} {m : Int → Option Int} {n : Nat} (d : DI kvs m) (h : ∀ i, (m i).isSome = true → 0 ≤ i ∧ i < n) : kvs.length ≤ n := by
  obtain ⟨ks, hk, hn⟩ := d.2
  have e : kvs.length = ks.length := by
    have := congrArg List.length hk
    rw [List.length_map, List.length_map] at this
    exact this
  rw [e]
  exact nodup_len n ks hn fun x hx => h x ((d.mem hk x).mp hx)
/-- ints in order, all of them distinct -/
theorem lt_of_le_nodup : ∀ {l : List Int}, l.Pairwise (· ≤ ·) → l.Nodup → l.Pairwise (· < ·)
  | [], _, _ => .nil
  | a :: r, h, n => by
    rw [List.pairwise_cons] at h
    rw [List.nodup_cons] at n
    refine List.pairwise_cons.mpr ⟨fun x hx => ?_, lt_of_le_nodup h.2 n.2⟩
    have h1 := h.1 x hx
    have h2 : x ≠ a := fun e => n.1 (e ▸ hx)
    omega
theorem sorted_ext : ∀ {l1 l2 : List Int}, l1.Pairwise (· < ·) → l2.Pairwise (· < ·) → (∀ x, x ∈ l1 ↔ x ∈ l2) → l1 = l2
  | [], [], _, _, _ => rfl
  | [], b :: r, _, _, h => by have := (h b).mpr List.mem_cons_self; cases this
  | a :: r, [], _, _, h => by have := (h a).mp List.mem_cons_self; cases this
  | a :: r, b :: t, h1, h2, h => by
    rw [List.pairwise_cons] at h1 h2
    have ha := (h a).mp List.mem_cons_self
    have hb := (h b).mpr List.mem_cons_self
    have e : a = b := by
      rcases List.mem_cons.mp ha with e | ha
      · exact e
      · rcases List.mem_cons.mp hb with e | hb
        · exact e.symm
        · have := h2.1 a ha
          have := h1.1 b hb
          omega
    subst e
    rw [sorted_ext h1.2 h2.2 fun x => ⟨fun hx => ?_, fun hx => ?_⟩]
    · rcases List.mem_cons.mp ((h x).mp (List.mem_cons_of_mem _ hx)) with e | q
      · have := h1.1 x hx
        omega
      · exact q
    · rcases List.mem_cons.mp ((h x).mpr (List.mem_cons_of_mem _ hx)) with e | q
      · have := h2.1 x hx
        omega
      · exact q
theorem putK_le {kvs : List (L2.Key × V)} {k : L2.Key} {v : V} : (putK kvs k v).length ≤ kvs.length + 1 := by
  have h := congrArg List.length (putK_keys (kvs := kvs) (k := k) (v := v))
  rw [List.length_map] at h
  rw [h]
  split
  · rw [List.length_map]; omega
  · rw [List.length_append, List.length_map]; simp

/-! ### immutable data: None, bools, ints, texts, tuples of them -/
mutual
inductive TD (K : PySem.W.Frag) (H : Hp) : V → PyData → Prop
  | non : TD K H .non .none
  | bl (b : Bool) : TD K H (.bl b) (.bool b)
  | int (i : Int) : TD K H (.int i) (.int i)
  | str (x : Str) : TD K H (.str x) (.str x)
  | tup {a : Addr} {xs : List V} {ds : List PyData} : SqT K H a xs → TDs K H xs ds → TD K H (.ref a) (.tuple ds)
inductive TDs (K : PySem.W.Frag) (H : Hp) : List V → List PyData → Prop
  | nil : TDs K H [] []
  | cons {v : V} {vs : List V} {d : PyData} {ds : List PyData} : TD K H v d → TDs K H vs ds → TDs K H (v :: vs) (d :: ds)
end
def oD : Option Int → PyData
  | none => .none
  | some z => .int z
def ovO : Option Int → V
  | none => .non
  | some z => .int z
def pD (p : Int × Int) : PyData := .tuple [.int p.1, .int p.2]
section
variable {K : PySem.W.Frag} {H H' : Hp}
theorem TD.tps (t : Tps H H') {v : V} {d : PyData} (h : TD K H v d) : TD K H' v d :=
  TD.rec (motive_1 := fun v d _ => TD K H' v d) (motive_2 := fun vs ds _ => TDs K H' vs ds) .non (fun b => .bl b) (fun i => .int i) (fun x => .str x) (fun h _ q => .tup (t.sq h) q) .nil (fun _ _ h1 h2 => .cons h1 h2) h
theorem TDs.tps (t : Tps H H') {vs : List V} {ds : List PyData} (h : TDs K H vs ds) : TDs K H' vs ds :=
  TDs.rec (motive_1 := fun v d _ => TD K H' v d) (motive_2 := fun vs ds _ => TDs K H' vs ds) .non (fun b => .bl b) (fun i => .int i) (fun x => .str x) (fun h _ q => .tup (t.sq h) q) .nil (fun _ _ h1 h2 => .cons h1 h2) h
theorem TD.dp {v : V} {d : PyData} (h : TD K H v d) : Dp K H v d :=
  TD.rec (motive_1 := fun v d _ => Dp K H v d) (motive_2 := fun vs ds _ => DpAll K H vs ds) .non (fun b => .bl b) (fun i => .int i) (fun x => .str x) (fun h _ q => .tup h q) .nil (fun _ _ h1 h2 => .cons h1 h2) h
theorem TDs.dp {vs : List V} {ds : List PyData} (h : TDs K H vs ds) : DpAll K H vs ds :=
  TDs.rec (motive_1 := fun v d _ => Dp K H v d) (motive_2 := fun vs ds _ => DpAll K H vs ds) .non (fun b => .bl b) (fun i => .int i) (fun x => .str x) (fun h _ q => .tup h q) .nil (fun _ _ h1 h2 => .cons h1 h2) h
theorem TD.same (s : Same H H') {v : V} {d : PyData} (h : TD K H v d) : TD K H' v d := h.tps (Tps.of s)
theorem TDs.same (s : Same H H') {vs : List V} {ds : List PyData} (h : TDs K H vs ds) : TDs K H' vs ds := h.tps (Tps.of s)
theorem TDs.len : ∀ {vs : List V} {ds : List PyData}, TDs K H vs ds → vs.length = ds.length
  | [], _, .nil => rfl
  | v :: vs, _, .cons h t => by rw [List.length_cons, List.length_cons, TDs.len t]
theorem TDs.get : ∀ {vs : List V} {ds : List PyData} {i : Nat} {d : PyData}, TDs K H vs ds → ds[i]? = some d → ∃ v, vs[i]? = some v ∧ TD K H v d
  | _, _, _, _, .nil, e => by simp at e
  | _, _, 0, _, .cons (v := v) h t, e => by
    cases e
    exact ⟨v, rfl, h⟩
  | _, _, i + 1, _, .cons h t, e => by
    obtain ⟨v, e2, q⟩ := TDs.get (i := i) t (by simpa using e)
    exact ⟨v, by simpa using e2, q⟩
theorem TDs.at {vs : List V} {ds : List PyData} {i : Nat} {v : V} (h : TDs K H vs ds) (e : vs[i]? = some v) : ∃ d, ds[i]? = some d ∧ TD K H v d ∧ ds.take (i + 1) = ds.take i ++ [d] ∧ i < ds.length := by
  have hi := (List.getElem?_eq_some_iff.mp e).1
  have hl := h.len
  have e2 : ds[i]? = some (ds[i]'(by omega)) := List.getElem?_eq_getElem (by omega)
  obtain ⟨v', e3, q⟩ := h.get e2
  rw [e] at e3
  cases e3
  exact ⟨_, e2, q, by rw [List.take_add_one, e2]; rfl, by omega⟩
theorem TDs.mem {vs : List V} {ds : List PyData} {v : V} (h : TDs K H vs ds) (hv : v ∈ vs) : ∃ d, d ∈ ds ∧ TD K H v d := by
  obtain ⟨i, hi⟩ := List.getElem?_of_mem hv
  obtain ⟨d, e, q, _⟩ := h.at hi
  exact ⟨d, List.mem_of_getElem? e, q⟩
theorem TDs.of : ∀ {vs : List V} {ds : List PyData}, vs.length = ds.length → (∀ (i : Nat) v d, vs[i]? = some v → ds[i]? = some d → TD K H v d) → TDs K H vs ds
  | [], [], _, _ => .nil
  | v :: vs, d :: ds, hl, h => .cons (h 0 v d rfl rfl) (TDs.of (by simpa using hl) fun i y e h1 h2 => h (i + 1) y e (by simpa using h1) (by simpa using h2))
theorem TDs.app : ∀ {vs us : List V} {ds es : List PyData}, TDs K H vs ds → TDs K H us es → TDs K H (vs ++ us) (ds ++ es)
  | _, _, _, _, .nil, h => h
  | _, _, _, _, .cons h t, q => .cons h (TDs.app t q)
theorem TDs.snoc {vs : List V} {ds : List PyData} {v : V} {d : PyData} (h : TDs K H vs ds) (q : TD K H v d) : TDs K H (vs ++ [v]) (ds ++ [d]) := h.app (.cons q .nil)
theorem TDs.map {α : Type} {f : α → V} {g : α → PyData} : ∀ {l : List α}, (∀ x ∈ l, TD K H (f x) (g x)) → TDs K H (l.map f) (l.map g)
  | [], _ => .nil
  | x :: r, h => .cons (h x List.mem_cons_self) (TDs.map fun y hy => h y (List.mem_cons_of_mem _ hy))
theorem TDs.ints (ns : List Int) : TDs K H (ns.map V.int) (ns.map PyData.int) := TDs.map fun x _ => .int x
theorem TD.ovO (o : Option Int) : TD K H (ovO o) (oD o) := by cases o <;> constructor
theorem TDs.ovs (os : List (Option Int)) : TDs K H (os.map Law.ovO) (os.map oD) := TDs.map fun x _ => TD.ovO x
theorem TD.tup_inv {v : V} {ds : List PyData} (h : TD K H v (.tuple ds)) : ∃ a xs, v = .ref a ∧ SqT K H a xs ∧ TDs K H xs ds := by
  cases h with
  | tup a b => exact ⟨_, _, rfl, a, b⟩
theorem TD.int_inv {v : V} {i : Int} (h : TD K H v (.int i)) : v = .int i := by cases h; rfl
theorem TD.non_inv {v : V} (h : TD K H v .none) : v = .non := by cases h; rfl
theorem TD.str_inv {v : V} {i : Str} (h : TD K H v (.str i)) : v = .str i := by cases h; rfl
theorem TD.bl_inv {v : V} {i : Bool} (h : TD K H v (.bool i)) : v = .bl i := by cases h; rfl
theorem TD.ov_inv {v : V} {o : Option Int} (h : TD K H v (oD o)) : v = Law.ovO o := by
  cases o with
  | none => exact h.non_inv
  | some z => exact h.int_inv
theorem TDs.ints_inv : ∀ {ns : List Int} {vs : List V}, TDs K H vs (ns.map PyData.int) → vs = ns.map V.int
  | [], _, h => by cases h; rfl
  | n :: ns, _, h => by
    cases h with
    | cons a b => rw [a.int_inv, TDs.ints_inv b]; rfl
theorem TDs.ovs_inv : ∀ {os : List (Option Int)} {vs : List V}, TDs K H vs (os.map oD) → vs = os.map Law.ovO
  | [], _, h => by cases h; rfl
  | n :: ns, _, h => by
    cases h with
    | cons a b => rw [a.ov_inv, TDs.ovs_inv b]; rfl
theorem TD.pair_inv {v : V} {p : Int × Int} (h : TD K H v (pD p)) : ∃ a, v = .ref a ∧ SqT K H a [.int p.1, .int p.2] := by
  obtain ⟨a, xs, e, s, q⟩ := h.tup_inv
  rw [TDs.ints_inv (ns := [p.1, p.2]) q] at s
  exact ⟨a, e, s⟩
theorem TD.of {a : Addr} {xs : List V} {ds : List PyData} (h : H a = some (.tup xs)) (q : TDs K H xs ds) : TD K H (.ref a) (.tuple ds) := .tup (SqT.of h) q
/-- a new tuple of data -/
theorem TD.new {a : Addr} {xs : List V} {ds : List PyData} (h : H a = none) (q : TDs K H xs ds) : TD K (upd H a (.tup xs)) (.ref a) (.tuple ds) := .of upd_same (q.same (same_new h))
/-- a list of data -/
def LD (K : PySem.W.Frag) (H : Hp) (a : Addr) (ds : List PyData) : Prop := ∃ vs, H a = some (.lst vs) ∧ TDs K H vs ds
theorem LD.same (s : Same H H') {a : Addr} {ds : List PyData} (h : LD K H a ds) : LD K H' a ds := by
  obtain ⟨vs, e, q⟩ := h
  exact ⟨vs, s _ _ e, q.same s⟩
theorem LD.kp {p a : Addr} {xs : List V} {ds : List PyData} (h : LD K H a ds) (k : Kp p H H') (hp : H p = some (.lst xs)) (n : a ≠ p) : LD K H' a ds := by
  obtain ⟨vs, e, q⟩ := h
  exact ⟨vs, k _ _ e n, q.tps (k.tps hp)⟩
theorem LD.put {a : Addr} {xs vs : List V} {ds : List PyData} (h : H a = some (.lst xs)) (q : TDs K H vs ds) : LD K (upd H a (.lst vs)) a ds := ⟨vs, upd_same, q.tps (tps_put h)⟩
theorem LD.new {a : Addr} {vs : List V} {ds : List PyData} (h : H a = none) (q : TDs K H vs ds) : LD K (upd H a (.lst vs)) a ds := ⟨vs, upd_same, q.same (same_new h)⟩
theorem LD.snoc {a : Addr} {vs : List V} {v : V} {d : PyData} {ds : List PyData} (h : H a = some (.lst vs)) (q : TDs K H vs ds) (x : TD K H v d) : LD K (upd H a (.lst (vs ++ [v]))) a (ds ++ [d]) := .put h (q.snoc x)
variable {σ : L2.St} {Q : VK}
theorem i_tyLD {p : Addr} {ds : List PyData} {R : Prop} (s : LD K H p ds) (q : R) : tyV K "list" (.ref p) H ∧ R := by
  obtain ⟨vs, e, _⟩ := s
  exact i_tyL (SqL.of e) q
theorem i_lenLD {p : Addr} {ds : List PyData} (s : LD K H p ds) (q : Q (.int ds.length) H) : qLen K [.ref p] H Q := by
  obtain ⟨vs, e, t⟩ := s
  rw [← t.len] at q
  exact i_lenL (SqL.of e) q
theorem i_ixD {p : V} {ds : List PyData} {i : Int} {d : PyData} (h : TD K H p (.tuple ds)) (h0 : 0 ≤ i) (e : ds[i.toNat]? = some d) (q : ∀ y, TD K H y d → Q y H) : rIxT K p (.int i) H Q := by
  obtain ⟨a, xs, rfl, s, t⟩ := h.tup_inv
  obtain ⟨y, ey, hy⟩ := t.get e
  refine ⟨a, xs, i, y, rfl, rfl, s, ?_, q y hy⟩
  have := atI_nat (xs := xs) (j := i.toNat) (v := y) ey
  rw [Int.toNat_of_nonneg h0] at this
  exact this
theorem i_ixDI {p : V} {ds : List PyData} {i j : Int} (h : TD K H p (.tuple ds)) (h0 : 0 ≤ i) (e : ds[i.toNat]? = some (.int j)) (q : Q (.int j) H) : rIxT K p (.int i) H Q :=
  i_ixD h h0 e fun y hy => by rw [hy.int_inv]; exact q
theorem i_ixDO {p : V} {ds : List PyData} {i : Int} {o : Option Int} (h : TD K H p (.tuple ds)) (h0 : 0 ≤ i) (e : ds[i.toNat]? = some (oD o)) (q : Q (ovO o) H) : rIxT K p (.int i) H Q :=
  i_ixD h h0 e fun y hy => by rw [hy.ov_inv]; exact q
theorem i_ixDS {p : V} {ds : List PyData} {i : Int} {j : Str} (h : TD K H p (.tuple ds)) (h0 : 0 ≤ i) (e : ds[i.toNat]? = some (.str j)) (q : Q (.str j) H) : rIxT K p (.int i) H Q :=
  i_ixD h h0 e fun y hy => by rw [hy.str_inv]; exact q
theorem i_lenDt {p : V} {ds : List PyData} (h : TD K H p (.tuple ds)) (q : Q (.int ds.length) H) : qLen K [p] H Q := by
  obtain ⟨a, xs, rfl, s, t⟩ := h.tup_inv
  rw [← t.len] at q
  exact i_lenT s q
theorem i_gTupD {n : Nat} {t : TGs} {v : V} {ds : List PyData} {R : L2.St → Hp → Prop} (h : TD K H v (.tuple ds)) (e : ds.length = n) (q : ∀ xs, TDs K H xs ds → t xs σ H R) : gTup K n t v σ H R := by
  obtain ⟨a, xs, rfl, s, u⟩ := h.tup_inv
  exact i_gTup s (by rw [u.len, e]) (q xs u)
theorem i_gPair {n : Nat} {t : TGs} {v : V} {p : Int × Int} {R : L2.St → Hp → Prop} (h : TD K H v (pD p)) (e : 2 = n) (q : t [.int p.1, .int p.2] σ H R) : gTup K n t v σ H R := by
  obtain ⟨a, rfl, s⟩ := h.pair_inv
  exact i_gTup s e q
theorem i_isTD {v : V} {ds : List PyData} {R : Addr → Prop} (h : TD K H v (.tuple ds)) (q : ∀ a xs, v = .ref a → SqT K H a xs → TDs K H xs ds → R a) : ∃ a', v = .ref a' ∧ (∃ xs, SqT K H a' xs) ∧ R a' := by
  obtain ⟨a, xs, e, s, t⟩ := h.tup_inv
  exact ⟨a, e, ⟨xs, s⟩, q a xs e s t⟩
theorem i_lstTD {v : V} {ds : List PyData} (h : TD K H v (.tuple ds)) (q : ∀ xs l, TDs K H xs ds → H l = none → Q (.ref l) (upd H l (.lst xs))) : rLstOf K [v] H Q := by
  obtain ⟨a, xs, rfl, s, t⟩ := h.tup_inv
  exact i_lstT s fun l hl => q xs l t hl
theorem i_tupTD {v : V} {ds : List PyData} (h : TD K H v (.tuple ds)) (q : Q v H) : rTupOf K [v] H Q := by
  obtain ⟨a, xs, rfl, s, t⟩ := h.tup_inv
  exact i_tupT s q
theorem TDs.pair_at {vs : List V} {ps : List (Int × Int)} {i : Nat} {v : V} (h : TDs K H vs (ps.map pD)) (e : vs[i]? = some v) : ∃ p, ps[i]? = some p ∧ TD K H v (pD p) ∧ ps.take (i + 1) = ps.take i ++ [p] ∧ i < ps.length := by
  obtain ⟨d, e1, t, _, hl⟩ := h.at e
  rw [List.getElem?_map] at e1
  cases e2 : ps[i]? with
  | none => rw [e2] at e1; cases e1
  | some p =>
    rw [e2] at e1
    cases e1
    exact ⟨p, rfl, t, by rw [List.take_add_one, e2]; rfl, (List.getElem?_eq_some_iff.mp e2).1⟩
theorem i_eqNI {j : Int} (q : Q (.bl false) H) : rEq .non (.int j) H Q := ⟨rfl, by
  have e : decide (V.non = V.int j) = false := by simp
  rw [e]; exact q⟩
/-! shapes -/
theorem Shp.str {x : Str} (h : PyData.canLay0 (.str x) = true) : Shp 0 (.str x) := ⟨h, by simp [PyData.depth]⟩
theorem Shp.oD (o : Option Int) : Shp 0 (oD o) := by
  cases o with
  | none => exact Shp.non
  | some z => exact Shp.int z
theorem Shp.ovs (os : List (Option Int)) : Shp 1 (.tuple (os.map Law.oD)) := Shp.tup fun d hd => by
  obtain ⟨x, _, rfl⟩ := List.mem_map.mp hd
  exact Shp.oD x
theorem Shp.pD (p : Int × Int) : Shp 1 (pD p) := Shp.tup fun d hd => by
  rcases List.mem_cons.mp hd with rfl | hd
  · exact Shp.int _
  · rcases List.mem_cons.mp hd with rfl | hd
    · exact Shp.int _
    · cases hd
theorem Shp.prs (ps : List (Int × Int)) : Shp 2 (.tuple (ps.map Law.pD)) := Shp.tup fun d hd => by
  obtain ⟨x, _, rfl⟩ := List.mem_map.mp hd
  exact Shp.pD x
/-! dicts with text keys -/
theorem i_disp {trs : List (TE × TE)} (h : ∀ p, H p = none → tPairs trs σ (upd H p (.dK [])) fun ps H2 => H2 p = some (.dK []) ∧ ∃ kvs : List (L2.Key × V), ps = kvs.map (fun kv => (kV kv.1, kv.2)) ∧ kvs.length ≤ 15 ∧ Q (.ref p) (upd H2 p (.dK (mergeK [] kvs)))) : tDisp trs σ H Q := h
theorem i_pNil {R : List (V × V) → Hp → Prop} (h : R [] H) : tPairs [] σ H R := h
theorem i_pCons {tk tv : TE} {r : List (TE × TE)} {R : List (V × V) → Hp → Prop} (h : tk σ H fun x H1 => tv σ H1 fun y H2 => tPairs r σ H2 fun ps H3 => R ((x, y) :: ps) H3) : tPairs ((tk, tv) :: r) σ H R := h
theorem i_dgetS {p : Addr} {i : Str} {v : V} {kvs : List (L2.Key × V)} {R : V → Prop} (h : Rd H p (.dK kvs)) (e : valV kvs (.inr i) = some v) (q : R v) : ∃ a v', V.ref p = .ref a ∧ DGet H a (.str i) (some v') ∧ R v' :=
  ⟨p, v, rfl, .inl ⟨kvs, .inr i, h, rfl, e.symm⟩, q⟩
end
/- data at the heap of the goal -/
local macro_rules | `(tactic| wtm_at "jtd") => `(tactic| first | assumption | ((with_reducible refine' TD.same (same_new ?hn) ?hh); (case hn => assumption); (case hh => wtm_at "jtd")))
local macro_rules | `(tactic| wtm_at "jw1") => `(tactic| first
  | ((with_reducible refine' i_ixDI ?h ?h0 ?e ?_); (case h => wtm_at "jtd"); (case h0 => wtm_at "jside"); (case e => wtm_at "jat"))
  | ((with_reducible refine' i_ixDO ?h ?h0 ?e ?_); (case h => wtm_at "jtd"); (case h0 => wtm_at "jside"); (case e => wtm_at "jat"))
  | ((with_reducible refine' i_ixDS ?h ?h0 ?e ?_); (case h => wtm_at "jtd"); (case h0 => wtm_at "jside"); (case e => wtm_at "jat"))
  | ((with_reducible refine' i_ix2 (i_ixDI ?h ?h0 ?e ?_)); (case h => wtm_at "jtd"); (case h0 => wtm_at "jside"); (case e => wtm_at "jat"))
  | ((with_reducible refine' i_ix2 (i_ixDO ?h ?h0 ?e ?_)); (case h => wtm_at "jtd"); (case h0 => wtm_at "jside"); (case e => wtm_at "jat"))
  | ((with_reducible refine' i_ixD ?h ?h0 ?e ?_); (case h => wtm_at "jtd"); (case h0 => wtm_at "jside"); (case e => wtm_at "jat"); intro _ _)
  | ((with_reducible refine' i_ix2 (i_ixD ?h ?h0 ?e ?_)); (case h => wtm_at "jtd"); (case h0 => wtm_at "jside"); (case e => wtm_at "jat"); intro _ _)
  | ((with_reducible refine' i_lenDt ?h ?_); (case h => wtm_at "jtd"))
  | with_reducible refine' i_eqNI ?_
  | ((with_reducible refine' i_tyLD ?h ?_); (case h => assumption))
  | ((with_reducible refine' i_lenLD ?h ?_); (case h => assumption))
  | ((with_reducible refine' i_gPair ?h ?e ?_); (case h => wtm_at "jtd"); (case e => rfl))
  | with_reducible refine' i_pNil ?_ | with_reducible refine' i_pCons ?_)

/-! ### draws and picks, said shortly -/
section
variable {K : PySem.W.Frag} {p a B : Addr} {H0 H : Hp} {Q : VK} {E : XK}
theorem drawL {m : Int} (w : Drew p a H0 H) (h0 : 0 < m) (h1 : m < 18446744073709551616) (q : ∀ z H', 0 ≤ z → z < m → Drew p a H H' → Drew p a H0 H' → Q (.int z) H') : sp__law_draw K [.ref p, .int m] H Q E :=
  ⟨p, a, m, rfl, w.at_, h0, h1, fun z H' z0 z1 e => q z H' z0 z1 e (w.trans e)⟩
theorem pickL {xs : List V} (P : Int → Prop) (ns : List Int) (w : Drew p a H0 H) (hB : H B = none) (e : xs = ns.map V.int) (h0 : 0 < ns.length) (h1 : ns.length < 1000) (hP : ∀ z ∈ ns, P z)
    (q : ∀ z H', P z → Drew p a H H' → Drew p a H0 H' → Q (.int z) H') : sp__law_pick K [.ref p, .ref B] (upd H B (.lst xs)) Q E := by
  subst e
  refine ⟨p, a, B, ns.map V.int, rfl, w.at_.same (same_new hB), .inl ⟨w.at_.ne_none hB, SqL.of upd_same⟩, by rw [List.length_map]; exact h0, by rw [List.length_map]; omega, fun x H' hx e => ?_⟩
  obtain ⟨z, hz, rfl⟩ := List.mem_map.mp hx
  have e1 := (w.at_.drew.new (o := .lst (ns.map V.int)) hB).trans e
  exact q z H' (hP z hz) e1 (w.trans e1)
theorem pickV {xs : List V} (w : Drew p a H0 H) (hB : H B = none) (h0 : 0 < xs.length) (h1 : xs.length < 1000) (q : ∀ x H', x ∈ xs → Drew p a H H' → Drew p a H0 H' → Q x H') : sp__law_pick K [.ref p, .ref B] (upd H B (.lst xs)) Q E := by
  refine ⟨p, a, B, xs, rfl, w.at_.same (same_new hB), .inl ⟨w.at_.ne_none hB, SqL.of upd_same⟩, h0, by omega, fun x H' hx e => ?_⟩
  have e1 := (w.at_.drew.new (o := .lst xs) hB).trans e
  exact q x H' hx e1 (w.trans e1)
/-- a pick out of a list that stands -/
theorem pickS {xs : List V} (w : Drew p a H0 H) (hB : H B = some (.lst xs)) (n : B ≠ p) (h0 : 0 < xs.length) (h1 : xs.length < 1000000) (q : ∀ x H', x ∈ xs → Drew p a H H' → Drew p a H0 H' → Q x H') : sp__law_pick K [.ref p, .ref B] H Q E :=
  ⟨p, a, B, xs, rfl, w.at_, .inl ⟨n, SqL.of hB⟩, h0, by omega, fun x H' hx e => q x H' hx e (w.trans e)⟩
theorem pickT {xs : List V} (w : Drew p a H0 H) (hB : SqT K H B xs) (h0 : 0 < xs.length) (h1 : xs.length < 1000000) (q : ∀ x H', x ∈ xs → Drew p a H H' → Drew p a H0 H' → Q x H') : sp__law_pick K [.ref p, .ref B] H Q E :=
  ⟨p, a, B, xs, rfl, w.at_, .inr hB, h0, by omega, fun x H' hx e => q x H' hx e (w.trans e)⟩
end
theorem LD.drew {K : PySem.W.Frag} {p a f : Addr} {H H' : Hp} {ds : List PyData} (h : LD K H f ds) (d : DrawAt H p a) (e : Drew p a H H') (n : f ≠ p) : LD K H' f ds := by
  obtain ⟨xs, hp⟩ := d.some
  exact h.kp e.kp hp n
theorem LPr.drew {p a f : Addr} {H H' : Hp} {fo : List (Int × Int)} (h : LPr H f fo) (d : DrawAt H p a) (e : Drew p a H H') (n : f ≠ p) : LPr H' f fo := by
  obtain ⟨xs, hp⟩ := d.some
  exact h.kp e.kp hp n
/-- a pure choice of two -/
theorem i_ifP {σ : L2.St} {H : Hp} {Q : VK} {c : TT} {ta tb : TE} (P : V → Prop) (hc : ∀ R : Bool → Hp → Prop, (∀ b, R b H) → c σ H R) (ha : ∀ R : VK, (∀ v, P v → R v H) → ta σ H R) (hb : ∀ R : VK, (∀ v, P v → R v H) → tb σ H R) (q : ∀ v, P v → Q v H) : tIf c ta tb σ H Q :=
  hc _ fun b => by
    cases b
    · exact hb _ q
    · exact ha _ q
theorem all_two {P : Int → Prop} {x y : Int} (h1 : P x) (h2 : P y) : ∀ z ∈ [x, y], P z := by simp; exact ⟨h1, h2⟩

theorem i_andTJ {t u : TT} {σ : L2.St} {H : Hp} {Q : Bool → Hp → Prop} (J : Bool → Hp → Prop) (h1 : ∀ b H', J b H' → Q b H') (h2 : ∀ R : Bool → Hp → Prop, (∀ b H', J b H' → R b H') → tAnd t u σ H R) : tAnd t u σ H Q := h2 _ h1
/-- what is wanted of each place -/
def AllI {α : Type} (P : Nat → α → Prop) (l : List α) : Prop := ∀ i x, l[i]? = some x → P i x
/-- an if-expression that draws, told once behind it -/
theorem i_ifJ {σ : L2.St} {H : Hp} {Q : VK} {c : TT} {ta tb : TE} (J : V → Hp → Prop) (h1 : ∀ v H', J v H' → Q v H') (h2 : ∀ R : VK, (∀ v H', J v H' → R v H') → tIf c ta tb σ H R) : tIf c ta tb σ H Q := h2 _ h1
local macro_rules | `(tactic| wtm_at "jif") => `(tactic| repeat ((fail_if_success (with_reducible refine' i_if ?_)); wtm_at "jw1"))
theorem AllI.nil {α : Type} {P : Nat → α → Prop} : AllI P ([] : List α) := fun i x h => by simp at h
theorem AllI.snoc {α : Type} {P : Nat → α → Prop} {l : List α} {x : α} (h : AllI P l) (hx : P l.length x) : AllI P (l ++ [x]) := fun i y hy => by
  by_cases hi : i < l.length
  · rw [List.getElem?_append_left hi] at hy
    exact h i y hy
  · rw [List.getElem?_append_right (by omega)] at hy
    cases e : i - l.length with
    | zero =>
      rw [e] at hy
      cases hy
      obtain rfl : i = l.length := by omega
      exact hx
    | succ n =>
      rw [e] at hy
      cases hy

/-! ### dicts whose keys are pairs of ints: how often each pair was met -/
section
variable {K : PySem.W.Frag} {σ : L2.St} {H : Hp} {Q : VK}
theorem i_dgetT {p b : Addr} {k : List L2.Key} {v : V} {kvs : List (List L2.Key × V)} {R : V → Prop} (h : Rd H p (.dT kvs)) (eb : H b = some (.tup (k.map kV))) (e : valV kvs k = some v) (q : R v) : ∃ a v', V.ref p = .ref a ∧ DGet H a (.ref b) (some v') ∧ R v' :=
  ⟨p, v, rfl, .inr ⟨kvs, k, b, h, rfl, eb, e.symm⟩, q⟩
theorem i_dputT {p b : Addr} {k : List L2.Key} {v : V} {kvs : List (List L2.Key × V)} {R : Hp → Prop} (h : H p = some (.dT kvs)) (eb : H b = some (.tup (k.map kV))) (hl : kvs.length ≤ 10000) (q : R (upd H p (.dT (putK kvs k v)))) : ∃ a H4, V.ref p = .ref a ∧ DPut H a (.ref b) v H4 ∧ R H4 :=
  ⟨p, _, rfl, .inr ⟨kvs, k, b, h, rfl, eb, by rw [sizeLine_eq]; omega, rfl⟩, q⟩
theorem i_dget2 {td ty tx : TE} (h : td σ H fun x H1 => ∃ a, x = .ref a ∧ IsD H1 a ∧ ty σ H1 fun y H2 => tx σ H2 fun z H3 => ∃ o, DGet H3 a y o ∧ Q (o.getD z) H3) : tDGet2 td ty tx σ H Q := h
theorem i_isDT {p : Addr} {kvs : List (List L2.Key × V)} {R : Addr → Prop} (h : H p = some (.dT kvs)) (q : R p) : ∃ a, V.ref p = .ref a ∧ IsD H a ∧ R a := ⟨p, rfl, .inr ⟨kvs, .inl h⟩, q⟩
theorem i_isDK {p : Addr} {kvs : List (L2.Key × V)} {R : Addr → Prop} (h : H p = some (.dK kvs)) (q : R p) : ∃ a, V.ref p = .ref a ∧ IsD H a ∧ R a := ⟨p, rfl, .inl ⟨kvs, .inl h⟩, q⟩
theorem i_ogetT {p b : Addr} {k : List L2.Key} {kvs : List (List L2.Key × V)} {R : Option V → Prop} (h : Rd H p (.dT kvs)) (eb : H b = some (.tup (k.map kV))) (q : R (valV kvs k)) : ∃ o, DGet H p (.ref b) o ∧ R o :=
  ⟨_, .inr ⟨kvs, k, b, h, rfl, eb, rfl⟩, q⟩
theorem i_dnewT (q : ∀ p, H p = none → Q (.ref p) (upd H p (.dT []))) : tDNewT σ H Q := q
theorem i_lockE {t : TE} {d : Addr} {u : HO} (h : H d = some u) (mu : Mut (some u)) (q : ∀ od, t σ (upd H d (.frz od u)) fun v H' => H' d = some (.frz od u) ∧ Q v (upd H' d u)) : tLockE t σ H Q := ⟨d, u, h, mu, q⟩
theorem i_iKeys {td : TE} {R : It → Hp → Prop} (h : td σ H fun x H1 => ∃ d o, x = .ref d ∧ ((∃ kvs, H1 d = some (.frz o (.dK kvs)) ∧ R (Itk d o kvs) H1) ∨ ∃ kvs, H1 d = some (.frz o (.dT kvs)) ∧ R (Itkt d o kvs) H1)) : iKeys td σ H R := h
theorem i_itK {d : Addr} {o : Obj} {kvs : List (L2.Key × V)} {R : It → Prop} (h : H d = some (.frz o (.dK kvs))) (q : R (Itk d o kvs)) : ∃ d' o', V.ref d = .ref d' ∧ ((∃ kvs, H d' = some (.frz o' (.dK kvs)) ∧ R (Itk d' o' kvs)) ∨ ∃ kvs, H d' = some (.frz o' (.dT kvs)) ∧ R (Itkt d' o' kvs)) := ⟨d, o, rfl, .inl ⟨kvs, h, q⟩⟩
theorem i_itT {d : Addr} {o : Obj} {kvs : List (List L2.Key × V)} {R : It → Prop} (h : H d = some (.frz o (.dT kvs))) (q : R (Itkt d o kvs)) : ∃ d' o', V.ref d = .ref d' ∧ ((∃ kvs, H d' = some (.frz o' (.dK kvs)) ∧ R (Itk d' o' kvs)) ∨ ∃ kvs, H d' = some (.frz o' (.dT kvs)) ∧ R (Itkt d' o' kvs)) := ⟨d, o, rfl, .inr ⟨kvs, h, q⟩⟩
end
section
variable {d : Addr} {o : Obj} {g : TG} {tt : TT} {te : TE} {ws : List Nat} {D : Addr} {Qd : Hp → Prop} {σ' : L2.St} {H : Hp}
theorem l_keysT {kvs : List (List L2.Key × V)} (Pv : Nat → Hp → Prop) (h0 : Pv 0 (upd H D (.lst []))) (hl : ∀ i H, i ≤ kvs.length → Pv i H → H d = some (.frz o (.dT kvs)))
    (hs : ∀ i (k : List L2.Key) v q H, kvs[i]? = some (k, v) → H q = some (.tup (k.map kV)) → Pv i H → g (.ref q) σ' H fun σ2 H2 => wipe σ2 ws = σ' ∧ tt σ2 H2 fun b H3 =>
      if b = true then te σ2 H3 fun y H4 => ∃ acc, H4 D = some (.lst acc) ∧ acc.length < sizeLine ∧ Pv (i + 1) (upd H4 D (.lst (acc ++ [y]))) else Pv (i + 1) H3) (hd : ∀ H, Pv kvs.length H → Qd H) (e : wipe σ' ws = σ' := by rfl) :
    ∃ W : Nat → Nat → Hp → Prop, (∃ m, W 0 m (upd H D (.lst []))) ∧ ∀ i m H, W i m H →
      ((Itkt d o kvs).stop i H ∧ Qd H) ∨ ((Itkt d o kvs).go i H ∧ ∃ Nx : Hp → Prop, (∀ H', Nx H' → ∃ m', m' < m ∧ W (i + 1) m' H') ∧ ∀ x H', (Itkt d o kvs).yld i H x H' → g x σ' H' fun σ2 H2 => wipe σ2 ws = σ' ∧ tt σ2 H2 fun b H3 =>
        if b = true then te σ2 H3 fun y H4 => ∃ acc, H4 D = some (.lst acc) ∧ acc.length < sizeLine ∧ Nx (upd H4 D (.lst (acc ++ [y]))) else Nx H3) := by
  have h := lc_it (walk_keysT (d := d) (o := o) (kvs := kvs)) (g := g) (tt := tt) (te := te) (vs := ws) (σ := σ') (H1 := H) (D := D) (Qd := Qd) Pv h0 hl (by
    rw [e]
    rintro i x H1 H2 hi hp ⟨rfl, k, v, q, hk, rfl, hq⟩
    exact hs i k v q _ hk hq hp) hd
  rw [e] at h
  exact h
theorem l_keys {kvs : List (L2.Key × V)} (Pv : Nat → Hp → Prop) (h0 : Pv 0 (upd H D (.lst []))) (hl : ∀ i H, i ≤ kvs.length → Pv i H → H d = some (.frz o (.dK kvs)))
    (hs : ∀ i k v H, kvs[i]? = some (k, v) → Pv i H → g (kV k) σ' H fun σ2 H2 => wipe σ2 ws = σ' ∧ tt σ2 H2 fun b H3 =>
      if b = true then te σ2 H3 fun y H4 => ∃ acc, H4 D = some (.lst acc) ∧ acc.length < sizeLine ∧ Pv (i + 1) (upd H4 D (.lst (acc ++ [y]))) else Pv (i + 1) H3) (hd : ∀ H, Pv kvs.length H → Qd H) (e : wipe σ' ws = σ' := by rfl) :
    ∃ W : Nat → Nat → Hp → Prop, (∃ m, W 0 m (upd H D (.lst []))) ∧ ∀ i m H, W i m H →
      ((Itk d o kvs).stop i H ∧ Qd H) ∨ ((Itk d o kvs).go i H ∧ ∃ Nx : Hp → Prop, (∀ H', Nx H' → ∃ m', m' < m ∧ W (i + 1) m' H') ∧ ∀ x H', (Itk d o kvs).yld i H x H' → g x σ' H' fun σ2 H2 => wipe σ2 ws = σ' ∧ tt σ2 H2 fun b H3 =>
        if b = true then te σ2 H3 fun y H4 => ∃ acc, H4 D = some (.lst acc) ∧ acc.length < sizeLine ∧ Nx (upd H4 D (.lst (acc ++ [y]))) else Nx H3) := by
  have h := lc_it (walk_keys (d := d) (o := o) (kvs := kvs)) (g := g) (tt := tt) (te := te) (vs := ws) (σ := σ') (H1 := H) (D := D) (Qd := Qd) Pv h0 hl (by
    rw [e]
    rintro i x H1 H2 hi hp ⟨rfl, k, v, hk, rfl⟩
    exact hs i k v _ hk hp) hd
  rw [e] at h
  exact h
end
/-- an entry: the pair and how often -/
def ent (e : (Int × Int) × Int) : List L2.Key × V := ([.inl e.1.1, .inl e.1.2], .int e.2)
def lk : List ((Int × Int) × Int) → Int × Int → Option Int
  | [], _ => none
  | e :: r, p => if e.1 = p then some e.2 else lk r p
def bump : List ((Int × Int) × Int) → Int × Int → List ((Int × Int) × Int)
  | [], p => [(p, 1)]
  | e :: r, p => if e.1 = p then (e.1, e.2 + 1) :: r else e :: bump r p
theorem ent_key {e : (Int × Int) × Int} {p : Int × Int} : ((ent e).1 = [.inl p.1, .inl p.2]) ↔ e.1 = p := by
  unfold ent
  constructor
  · intro h
    injection h with h1 h2
    injection h2 with h3
    exact Prod.ext (Sum.inl.inj h1) (Sum.inl.inj h3)
  · intro h
    rw [h]
theorem lk_val (p : Int × Int) : ∀ es, valV (es.map ent) [.inl p.1, .inl p.2] = (lk es p).map V.int
  | [] => rfl
  | e :: r => by
    rw [List.map_cons, lk]
    by_cases h : e.1 = p
    · rw [if_pos h, valV_pos (ent_key.mpr h)]; rfl
    · rw [if_neg h, valV_neg (fun z => h (ent_key.mp z)), lk_val p r]
theorem lk_bump (p q : Int × Int) : ∀ es, lk (bump es p) q = if q = p then some ((lk es p).getD 0 + 1) else lk es q
  | [] => by
    rw [bump, lk, lk, lk]
    by_cases h : q = p
    · rw [if_pos h.symm, if_pos h]; rfl
    · rw [if_neg (fun z => h z.symm), if_neg h]; rfl
  | e :: r => by
    have ih := lk_bump p q r
    rw [bump]
    by_cases h : e.1 = p
    · rw [if_pos h, lk, lk, if_pos h, lk]
      by_cases h2 : q = p
      · rw [if_pos h2, if_pos (by rw [h, h2])]; rfl
      · have nh : ¬ e.1 = q := fun z => h2 (z.symm.trans h)
        simp [h2, nh]
    · rw [if_neg h, lk, ih, lk, if_neg h, lk]
      by_cases h2 : q = p
      · rw [if_pos h2, if_pos h2, if_neg (fun z => h (z.trans h2))]
      · rw [if_neg h2, if_neg h2]
theorem bump_keys (p : Int × Int) : ∀ es, (∀ q, q ∈ (bump es p).map (·.1) ↔ q = p ∨ q ∈ es.map (·.1)) ∧ ((es.map (·.1)).Nodup → ((bump es p).map (·.1)).Nodup)
  | [] => ⟨fun q => by simp [bump], fun _ => by simp [bump]⟩
  | e :: r => by
    obtain ⟨h1, h2⟩ := bump_keys p r
    rw [bump]
    by_cases h : e.1 = p
    · rw [if_pos h]
      refine ⟨fun q => ?_, fun n => n⟩
      rw [List.map_cons, List.map_cons, List.mem_cons]
      show q = e.1 ∨ _ ↔ q = p ∨ q = e.1 ∨ _
      rw [h]
      constructor
      · rintro (a | a)
        · exact .inl a
        · exact .inr (.inr a)
      · rintro (a | a | a)
        · exact .inl a
        · exact .inl a
        · exact .inr a
    · rw [if_neg h]
      refine ⟨fun q => ?_, fun n => ?_⟩
      · rw [List.map_cons, List.mem_cons, h1, List.map_cons, List.mem_cons]
        constructor
        · rintro (a | a | a)
          · exact .inr (.inl a)
          · exact .inl a
          · exact .inr (.inr a)
        · rintro (a | a | a)
          · exact .inr (.inl a)
          · exact .inl a
          · exact .inr (.inr a)
      · rw [List.map_cons, List.nodup_cons] at n ⊢
        refine ⟨fun z => ?_, h2 n.2⟩
        rcases (h1 _).mp z with a | a
        · exact h a
        · exact n.1 a
theorem lk_none (p : Int × Int) : ∀ es, lk es p = none ↔ ¬ p ∈ es.map (·.1)
  | [] => by simp [lk]
  | e :: r => by
    rw [lk, List.map_cons, List.mem_cons]
    by_cases h : e.1 = p
    · rw [if_pos h]
      exact ⟨fun z => (nomatch z), fun z => (z (.inl h.symm)).elim⟩
    · rw [if_neg h, lk_none p r]
      exact ⟨fun z w => w.elim (fun a => h a.symm) z, fun z w => z (.inr w)⟩
theorem bump_new (p : Int × Int) : ∀ es, lk es p = none → bump es p = es ++ [(p, 1)]
  | [], _ => rfl
  | e :: r, h => by
    rw [lk] at h
    by_cases h2 : e.1 = p
    · rw [if_pos h2] at h; cases h
    · rw [if_neg h2] at h
      rw [bump, if_neg h2, bump_new p r h]; rfl
theorem map_same (p : Int × Int) (v : Int) : ∀ es : List ((Int × Int) × Int), ¬ p ∈ es.map (·.1) → (es.map ent).map (fun kv => if kv.1 = [.inl p.1, .inl p.2] then (kv.1, V.int v) else kv) = es.map ent
  | [], _ => rfl
  | e :: r, h => by
    rw [List.map_cons, List.mem_cons] at h
    rw [List.map_cons, List.map_cons, map_same p v r (fun z => h (.inr z)), if_neg (fun z => h (.inl (ent_key.mp z).symm))]
theorem bump_map (p : Int × Int) : ∀ es : List ((Int × Int) × Int), (es.map (·.1)).Nodup → (lk es p).isSome = true → (es.map ent).map (fun kv => if kv.1 = [.inl p.1, .inl p.2] then (kv.1, V.int ((lk es p).getD 0 + 1)) else kv) = (bump es p).map ent
  | [], _, h => by cases h
  | e :: r, n, h => by
    rw [List.map_cons, List.nodup_cons] at n
    rw [List.map_cons, List.map_cons, bump]
    by_cases h2 : e.1 = p
    · rw [if_pos (ent_key.mpr h2), if_pos h2, map_same p _ r (by rw [← h2]; exact n.1), List.map_cons, lk, if_pos h2]
      rfl
    · rw [if_neg (fun z => h2 (ent_key.mp z)), if_neg h2, List.map_cons]
      rw [lk, if_neg h2] at h ⊢
      rw [bump_map p r n.2 h]
theorem bump_put {p : Int × Int} {es : List ((Int × Int) × Int)} (n : (es.map (·.1)).Nodup) : putK (es.map ent) [.inl p.1, .inl p.2] (.int ((lk es p).getD 0 + 1)) = (bump es p).map ent := by
  cases h : lk es p with
  | none =>
    rw [putK_new _ (by rw [lk_val, h]; rfl), bump_new p es h, List.map_append]
    rfl
  | some z =>
    unfold putK
    rw [valV_any, lk_val, h, if_pos (show (Option.map V.int (some z)).isSome = true from rfl)]
    have := bump_map p es n (by rw [h]; rfl)
    rw [h] at this
    exact this
/-- the counts of a row of pairs -/
def cntE (ev : List (Int × Int)) : List ((Int × Int) × Int) := ev.foldl bump []
theorem cntE_snoc (ev : List (Int × Int)) (p : Int × Int) : cntE (ev ++ [p]) = bump (cntE ev) p := by
  unfold cntE
  rw [List.foldl_append]
  rfl
theorem cntE_nodup (ev : List (Int × Int)) : ((cntE ev).map (·.1)).Nodup := by
  unfold cntE
  suffices h : ∀ (l : List (Int × Int)) es, (es.map (·.1)).Nodup → ((l.foldl bump es).map (fun (x : (Int × Int) × Int) => x.1)).Nodup from h ev [] List.nodup_nil
  intro l
  induction l with
  | nil => intro es h; exact h
  | cons p r ih => intro es h; exact ih _ ((bump_keys p es).2 h)
theorem bump_len (p : Int × Int) : ∀ es, (bump es p).length ≤ es.length + 1
  | [] => Nat.le_refl _
  | e :: r => by
    have := bump_len p r
    rw [bump]
    split
    · simp
    · simp; omega
theorem cntE_len (ev : List (Int × Int)) : (cntE ev).length ≤ ev.length := by
  unfold cntE
  suffices h : ∀ (l : List (Int × Int)) (es : List ((Int × Int) × Int)), (l.foldl bump es).length ≤ es.length + l.length by
    have := h ev []
    simpa using this
  intro l
  induction l with
  | nil => intro es; exact Nat.le_refl _
  | cons p r ih =>
    intro es
    have h1 := ih (bump es p)
    have h2 := bump_len p es
    rw [List.foldl_cons, List.length_cons]
    omega
theorem cntE_lk (ev : List (Int × Int)) (p : Int × Int) : (lk (cntE ev) p).getD 0 = (ev.count p : Nat) := by
  suffices h : ∀ (l : List (Int × Int)) (es : List ((Int × Int) × Int)), (lk (l.foldl bump es) p).getD 0 = (lk es p).getD 0 + (l.count p : Nat) by
    have := h ev []
    simpa [lk, cntE] using this
  intro l
  induction l with
  | nil => intro es; simp
  | cons q r ih =>
    intro es
    rw [List.foldl_cons, ih, lk_bump, List.count_cons]
    by_cases h : p = q
    · subst h
      simp
      omega
    · rw [if_neg h]
      have : (q == p) = false := by simp; exact fun z => h z.symm
      rw [this]
      simp
/-- the counts of the pairs that have a property -/
theorem cntE_sum (pr : Int × Int → Bool) (ev : List (Int × Int)) : (((cntE ev).filter fun e => pr e.1).map (·.2)).sum = ((ev.countP pr : Nat) : Int) := by
  have hb : ∀ (p : Int × Int) es, (((bump es p).filter fun e => pr e.1).map (·.2)).sum = ((es.filter fun e => pr e.1).map (fun (x : (Int × Int) × Int) => x.2)).sum + (if pr p = true then 1 else 0) := by
    intro p es
    induction es with
    | nil => by_cases h : pr p = true <;> simp [bump, h]
    | cons e r ih =>
      rw [bump]
      by_cases h : e.1 = p
      · rw [if_pos h]
        by_cases h2 : pr p = true
        · simp [h, h2]; omega
        · simp [h, h2]
      · rw [if_neg h]
        by_cases h2 : pr e.1 = true
        · simp only [List.filter_cons, h2, if_true, List.map_cons, List.sum_cons, ih]; omega
        · rw [List.filter_cons_of_neg (p := fun (e : (Int × Int) × Int) => pr e.1) h2, List.filter_cons_of_neg (p := fun (e : (Int × Int) × Int) => pr e.1) h2]
          exact ih
  suffices h : ∀ (l : List (Int × Int)) (es : List ((Int × Int) × Int)), (((l.foldl bump es).filter fun e => pr e.1).map (·.2)).sum = ((es.filter fun e => pr e.1).map (fun (x : (Int × Int) × Int) => x.2)).sum + (l.countP pr : Nat) by
    have := h ev []
    simpa [cntE] using this
  intro l
  induction l with
  | nil => intro es; simp
  | cons q r ih =>
    intro es
    rw [List.foldl_cons, ih, hb, List.countP_cons]
    by_cases h : pr q = true
    · simp [h]; omega
    · simp [h]
theorem lk_get (p : Int × Int) (es : List ((Int × Int) × Int)) : (valV (es.map ent) [.inl p.1, .inl p.2]).getD (.int 0) = .int ((lk es p).getD 0) := by
  rw [lk_val]
  cases lk es p <;> rfl
theorem lk_mem : ∀ {es : List ((Int × Int) × Int)}, (es.map (·.1)).Nodup → ∀ e ∈ es, lk es e.1 = some e.2
  | [], _, e, h => (nomatch h)
  | x :: r, n, e, h => by
    rw [List.map_cons, List.nodup_cons] at n
    rw [lk]
    rcases List.mem_cons.mp h with rfl | h
    · rw [if_pos rfl]
    · have : ¬ x.1 = e.1 := fun z => n.1 (by rw [z]; exact List.mem_map.mpr ⟨e, h, rfl⟩)
      rw [if_neg this, lk_mem n.2 e h]
theorem tps_frz {H : Hp} {d : Addr} {kvs : List (List L2.Key × V)} {o : HO} (h : H d = some (.dT kvs)) : Tps H (upd H d o) := fun c => by
  by_cases e : c = d
  · subst e
    exact ⟨fun xs z => (by rw [h] at z; cases z), fun o xs z => (by rw [h] at z; cases z)⟩
  · exact ⟨fun xs z => (by rw [upd_ne e]; exact z), fun o xs z => (by rw [upd_ne e]; exact z)⟩
theorem ent_at {es : List ((Int × Int) × Int)} {i : Nat} {k : List L2.Key} {v : V} (h : (es.map ent)[i]? = some (k, v)) : ∃ e, es[i]? = some e ∧ k = [.inl e.1.1, .inl e.1.2] ∧ v = .int e.2 ∧ es.take (i + 1) = es.take i ++ [e] := by
  rw [List.getElem?_map] at h
  cases e1 : es[i]? with
  | none => rw [e1] at h; cases h
  | some e =>
    rw [e1] at h
    have h2 := Option.some.inj h
    unfold ent at h2
    injection h2 with a b
    exact ⟨e, rfl, a.symm, b.symm, by rw [List.take_add_one, e1]; rfl⟩

/-! ### the post -/
local macro_rules | `(tactic| wtm_at "jw1") => `(tactic| first
  | with_reducible refine' i_fld ?_ | with_reducible refine' i_sfld ?_ | with_reducible refine' i_meth ?_ | with_reducible refine' i_make ?_)
def pf (v : V) (D : Addr) : List (Str × V) := putF "bags" (.ref D) (putF "road" v [])
theorem pf_road (v : V) (D : Addr) : (pf v D).lookup ("road" : Str) = some v := by
  unfold pf
  rw [lookup_putF, if_neg (by decide +kernel), lookup_putF, if_pos rfl]
theorem pf_bags (v : V) (D : Addr) : (pf v D).lookup ("bags" : Str) = some (.ref D) := by
  unfold pf
  rw [lookup_putF, if_pos rfl]
theorem pf_no (v : V) (D : Addr) {m : Str} (h1 : ¬ m = "road") (h2 : ¬ m = "bags") : (pf v D).lookup m = none := by
  unfold pf
  rw [lookup_putF, if_neg h2, lookup_putF, if_neg h1]
  all_goals rfl
theorem i_dnin {σ : L2.St} {H : Hp} {Q : VK} {td ty : TE} (h : ty σ H fun y H1 => td σ H1 fun x H2 => ∃ a o, x = .ref a ∧ DGet H2 a y o ∧ Q (.bl (!o.isSome)) H2) : tDNotIn ty td σ H Q := h
def sp_Post___init__ (K : PySem.W.Frag) (C_Post : Addr) : Sp := fun vs H Q _ => ∃ (p dx : Addr) (v : V), vs = [.ref p, v] ∧ H p = some (.ins C_Post dx []) ∧ ∀ D H', H' p = some (.ins C_Post dx (pf v D)) → H D = none → H' D = some (.dT []) → (∀ b o, H b = some o → b ≠ p → H' b = some o) → Q .non H'
theorem ok_Post___init__ {P : Program} {w : World} {K : PySem.W.Frag} {mg : Str → Option Value} {base : Heap} {C_Post : Addr} {f : Addr} {fd : FuncData} (F : Dm K C_Post "__init__" "Post.__init__" s_Post___init__ f fd ["self", "road"]) (T : Txt K mg C_Post) : FnOk P w K mg base CX0 1 f fd ["self", "road"] (sp_Post___init__ K C_Post) := by
  refine F.ok sc_Post___init__ (fun vs H Q E h => ?_) (fun cdv A outer s H vs Q E hr h => ?_)
  · obtain ⟨p, dx, v, rfl, _⟩ := h
    rfl
  · obtain ⟨p, dx, v, rfl, hp, q⟩ := h
    refine ⟨_, (pss_cons (ps_fld (pv 0) (pv 1) rfl)
      (pss_one (ps_fld (pv 0) pe_dnewT rfl))), ?_⟩
    try dsimp only [cxOf, Cx.nox, Cx.wish]
    refine st_of (σ' := [some _, some _]) rfl ?_
    wtm_at "jw"
    refine i_insS hp T.cl_Post T.na_Post_road (by decide) ?_
    wtm_at "jw"
    intro D hD
    have npD : p ≠ D := by
      intro z
      rw [z, upd_same] at hD
      cases hD
    have hDH : H D = none := by rw [upd_ne npD.symm] at hD; exact hD
    wtm_at "jw"
    refine i_insS (by rw [upd_ne npD]; exact upd_same) T.cl_Post T.na_Post_bags (by show 1 < 1000; decide) ?_
    wtm_at "jw"
    refine q D _ upd_same hDH (by rw [upd_ne npD.symm, upd_same]) fun b o hb hn => ?_
    rw [upd_ne hn, upd_ne (ne_of_none hb hDH), upd_ne hn]
    exact hb
/-! ### the bags of a post, plainly (for k29) -/
abbrev Ent := Int × Int × PyData
def eD (e : Ent) : PyData := .tuple [.int e.1, .int e.2.1, e.2.2]
abbrev Bag := (Int × Int) × Addr × List Ent
def keyI (k : Int × Int) : List L2.Key := [.inl k.1, .inl k.2]
def bkv (b : Bag) : List L2.Key × V := (keyI b.1, .ref b.2.1)
def lkA : List Bag → Int × Int → Option Addr
  | [], _ => none
  | b :: r, k => if b.1 = k then some b.2.1 else lkA r k
def conB : List Bag → Int × Int → List Ent
  | [], _ => []
  | b :: r, k => if b.1 = k then b.2.2 else conB r k
theorem keyI_eq {j k : Int × Int} : keyI j = keyI k ↔ j = k := by
  unfold keyI
  constructor
  · intro h
    injection h with h1 h2
    injection h2 with h3
    exact Prod.ext (Sum.inl.inj h1) (Sum.inl.inj h3)
  · intro h
    rw [h]
theorem bkv_val (k : Int × Int) : ∀ bs : List Bag, valV (bs.map bkv) (keyI k) = (lkA bs k).map V.ref
  | [] => rfl
  | b :: r => by
    rw [List.map_cons, lkA]
    by_cases h : b.1 = k
    · rw [if_pos h, valV_pos (keyI_eq.mpr h)]; rfl
    · rw [if_neg h, valV_neg (fun z => h (keyI_eq.mp z)), bkv_val k r]
theorem put_new {bs : List Bag} {k : Int × Int} {L : Addr} (h : lkA bs k = none) : putK (bs.map bkv) (keyI k) (.ref L) = (bs ++ [(k, L, [])]).map bkv := by
  unfold putK
  rw [valV_any, bkv_val, h, List.map_append]
  rfl
theorem lkA_new {k : Int × Int} {L : Addr} : ∀ {bs : List Bag}, lkA bs k = none → lkA (bs ++ [(k, L, [])]) k = some L
  | [], _ => by simp [lkA]
  | b :: r, h => by
    rw [lkA] at h
    by_cases e : b.1 = k
    · rw [if_pos e] at h; cases h
    · rw [if_neg e] at h
      rw [List.cons_append, lkA, if_neg e]
      exact lkA_new h
theorem conB_new (k : Int × Int) (L : Addr) (j : Int × Int) : ∀ bs : List Bag, conB (bs ++ [(k, L, [])]) j = conB bs j
  | [] => by
    show (if k = j then ([] : List Ent) else []) = []
    split <;> rfl
  | b :: r => by
    rw [List.cons_append, conB, conB, conB_new k L j r]
def modB (bs : List Bag) (k : Int × Int) (e : Ent) : List Bag := bs.map fun b => if b.1 = k then (b.1, b.2.1, b.2.2 ++ [e]) else b
theorem modB_kv (bs : List Bag) (k : Int × Int) (e : Ent) : (modB bs k e).map bkv = bs.map bkv := by
  unfold modB
  rw [List.map_map]
  refine List.map_congr_left fun b _ => ?_
  show bkv (if b.1 = k then (b.1, b.2.1, b.2.2 ++ [e]) else b) = bkv b
  split <;> rfl
theorem modB_ad (bs : List Bag) (k : Int × Int) (e : Ent) : (modB bs k e).map (·.2.1) = bs.map (·.2.1) := by
  unfold modB
  rw [List.map_map]
  refine List.map_congr_left fun b _ => ?_
  show (if b.1 = k then (b.1, b.2.1, b.2.2 ++ [e]) else b).2.1 = b.2.1
  split <;> rfl
theorem modB_key (bs : List Bag) (k : Int × Int) (e : Ent) : (modB bs k e).map (·.1) = bs.map (·.1) := by
  unfold modB
  rw [List.map_map]
  refine List.map_congr_left fun b _ => ?_
  show (if b.1 = k then (b.1, b.2.1, b.2.2 ++ [e]) else b).1 = b.1
  split <;> rfl
theorem conB_mod {k : Int × Int} {e : Ent} {L : Addr} (j : Int × Int) : ∀ {bs : List Bag}, lkA bs k = some L → conB (modB bs k e) j = if j = k then conB bs k ++ [e] else conB bs j
  | [], h => by cases h
  | b :: r, h => by
    rw [lkA] at h
    by_cases hb : b.1 = k
    · have e1 : modB (b :: r) k e = (b.1, b.2.1, b.2.2 ++ [e]) :: modB r k e := by unfold modB; rw [List.map_cons, if_pos hb]
      rw [e1]
      simp only [conB]
      by_cases hj : j = k
      · rw [if_pos hj, hj, if_pos hb, if_pos hb]
      · rw [if_neg hj, if_neg (fun z => hj (z.symm.trans hb)), if_neg (fun z => hj (z.symm.trans hb))]
        clear h e1
        induction r with
        | nil => rfl
        | cons c r ih =>
          have e2 : modB (c :: r) k e = (if c.1 = k then (c.1, c.2.1, c.2.2 ++ [e]) else c) :: modB r k e := rfl
          rw [e2]
          by_cases hc : c.1 = k
          · rw [if_pos hc]
            simp only [conB]
            rw [if_neg (fun z => hj (z.symm.trans hc)), if_neg (fun z => hj (z.symm.trans hc)), ih]
          · rw [if_neg hc]
            simp only [conB]
            rw [ih]
    · rw [if_neg hb] at h
      have e1 : modB (b :: r) k e = b :: modB r k e := by unfold modB; rw [List.map_cons, if_neg hb]
      rw [e1]
      simp only [conB]
      rw [if_neg hb]
      by_cases hj : j = k
      · rw [if_pos hj]
        by_cases hbj : b.1 = j
        · exact absurd (hbj.trans hj) hb
        · rw [if_neg hbj, conB_mod j h, if_pos hj]
      · rw [if_neg hj]
        by_cases hbj : b.1 = j
        · rw [if_pos hbj, if_pos hbj]
        · rw [if_neg hbj, if_neg hbj, conB_mod j h, if_neg hj]
theorem lkA_mem {k : Int × Int} {L : Addr} : ∀ {bs : List Bag}, lkA bs k = some L → ∃ b ∈ bs, b.1 = k ∧ b.2.1 = L ∧ conB bs k = b.2.2
  | [], h => by cases h
  | b :: r, h => by
    rw [lkA] at h
    by_cases hb : b.1 = k
    · rw [if_pos hb] at h
      cases h
      exact ⟨b, List.mem_cons_self, hb, rfl, by rw [conB, if_pos hb]⟩
    · rw [if_neg hb] at h
      obtain ⟨c, hc, h1, h2, h3⟩ := lkA_mem h
      exact ⟨c, List.mem_cons_of_mem _ hc, h1, h2, by rw [conB, if_neg hb]; exact h3⟩
theorem lkA_none {k : Int × Int} : ∀ {bs : List Bag}, lkA bs k = none → k ∉ bs.map (·.1) ∧ conB bs k = []
  | [], _ => ⟨by simp, rfl⟩
  | b :: r, h => by
    rw [lkA] at h
    by_cases hb : b.1 = k
    · rw [if_pos hb] at h; cases h
    · rw [if_neg hb] at h
      obtain ⟨h1, h2⟩ := lkA_none h
      refine ⟨fun z => ?_, by rw [conB, if_neg hb]; exact h2⟩
      rw [List.map_cons] at z
      rcases List.mem_cons.mp z with z | z
      · exact hb z.symm
      · exact h1 z
theorem nodup_fst {α β : Type} {f : α → β} : ∀ {l : List α}, (l.map f).Nodup → ∀ {x y : α}, x ∈ l → y ∈ l → f x = f y → x = y
  | a :: l, h, x, y, hx, hy, e => by
    rw [List.map_cons, List.nodup_cons] at h
    rcases List.mem_cons.mp hx with hx1 | hx1
    · rcases List.mem_cons.mp hy with hy1 | hy1
      · rw [hx1, hy1]
      · exact absurd (List.mem_map.mpr ⟨y, hy1, by rw [← e, hx1]⟩) h.1
    · rcases List.mem_cons.mp hy with hy1 | hy1
      · exact absurd (List.mem_map.mpr ⟨x, hx1, by rw [e, hy1]⟩) h.1
      · exact nodup_fst h.2 hx1 hy1 e
/-- a post stands at a: its road, its dict at D, its bags -/
structure PostAt (K : PySem.W.Frag) (C : Addr) (H : Hp) (a : Addr) (v : V) (D : Addr) (bs : List Bag) : Prop where
  ob : ∃ dx, H a = some (.ins C dx (pf v D))
  dct : H D = some (.dT (bs.map bkv))
  ls : ∀ b ∈ bs, LD K H b.2.1 (b.2.2.map eD)
  nd : (bs.map (·.2.1)).Nodup
  nk : (bs.map (·.1)).Nodup
theorem PostAt.same {K : PySem.W.Frag} {C : Addr} {H H' : Hp} {a : Addr} {v : V} {D : Addr} {bs : List Bag} (p : PostAt K C H a v D bs) (s : Same H H') : PostAt K C H' a v D bs := by
  obtain ⟨⟨dx, h⟩, h2, h3, h4, h5⟩ := p
  exact ⟨⟨dx, s _ _ h⟩, s _ _ h2, fun b hb => (h3 b hb).same s, h4, h5⟩
/-- a new bag -/
theorem PostAt.bag {K : PySem.W.Frag} {C : Addr} {H : Hp} {a : Addr} {v : V} {D L : Addr} {bs : List Bag} {k : Int × Int} (p : PostAt K C H a v D bs) (hL : H L = some (.lst [])) (nL : L ∉ bs.map (·.2.1)) (h : lkA bs k = none) : PostAt K C (upd H D (.dT (putK (bs.map bkv) (keyI k) (.ref L)))) a v D (bs ++ [(k, L, [])]) := by
  obtain ⟨⟨dx, h1⟩, h2, h3, h4, h5⟩ := p
  have nDa : a ≠ D := ne_of h1 h2 (by intro z; cases z)
  have nDL : L ≠ D := ne_of hL h2 (by intro z; cases z)
  have tp : Tps H (upd H D (.dT (putK (bs.map bkv) (keyI k) (.ref L)))) := fun b => ⟨fun xs e => by rw [upd_ne (ne_of e h2 (by intro z; cases z))]; exact e, fun o xs e => by rw [upd_ne (ne_of e h2 (by intro z; cases z))]; exact e⟩
  refine ⟨⟨dx, by rw [upd_ne nDa]; exact h1⟩, by rw [upd_same, put_new h], fun b hb => ?_, ?_, ?_⟩
  · rcases List.mem_append.mp hb with hb | hb
    · obtain ⟨us, hu, tu⟩ := h3 b hb
      exact ⟨us, by rw [upd_ne (ne_of hu h2 (by intro z; cases z))]; exact hu, tu.tps tp⟩
    · rw [List.mem_singleton.mp hb]
      exact ⟨[], by rw [upd_ne nDL]; exact hL, .nil⟩
  · rw [List.map_append, List.nodup_append]
    refine ⟨h4, by simp, fun x hx y hy e => ?_⟩
    have : y = L := by simpa using hy
    subst this
    subst e
    exact nL hx
  · rw [List.map_append, List.nodup_append]
    refine ⟨h5, by simp, fun x hx y hy e => ?_⟩
    have : y = k := by simpa using hy
    subst this
    subst e
    exact (lkA_none h).1 hx
/-- an entry behind the others of a bag -/
theorem PostAt.put {K : PySem.W.Frag} {C : Addr} {H : Hp} {a : Addr} {v x : V} {D L : Addr} {bs : List Bag} {k : Int × Int} {e : Ent} (p : PostAt K C H a v D bs) (h : lkA bs k = some L) (tx : TD K H x (eD e)) :
    ∃ us, H L = some (.lst us) ∧ us.length = (conB bs k).length ∧ PostAt K C (upd H L (.lst (us ++ [x]))) a v D (modB bs k e) := by
  obtain ⟨⟨dx, h1⟩, h2, h3, h4, h5⟩ := p
  obtain ⟨b, hb, hk, hL, hc⟩ := lkA_mem h
  obtain ⟨us, hu, tu⟩ := h3 b hb
  rw [hL] at hu
  have naL : a ≠ L := ne_of h1 hu (by intro z; cases z)
  have nDL : D ≠ L := ne_of h2 hu (by intro z; cases z)
  refine ⟨us, hu, by rw [tu.len, List.length_map, hc], ⟨dx, by rw [upd_ne naL]; exact h1⟩, by rw [upd_ne nDL, modB_kv]; exact h2, fun c hc' => ?_, by rw [modB_ad]; exact h4, by rw [modB_key]; exact h5⟩
  obtain ⟨c0, hc0, rfl⟩ := List.mem_map.mp hc'
  by_cases hck : c0.1 = k
  · have e0 : c0 = b := nodup_fst h5 hc0 hb (hck.trans hk.symm)
    subst e0
    rw [if_pos hck]
    show LD K _ c0.2.1 ((c0.2.2 ++ [e]).map eD)
    rw [hL, List.map_append]
    exact LD.snoc hu tu tx
  · rw [if_neg hck]
    have nc : c0.2.1 ≠ L := fun z => hck (by rw [nodup_fst (f := fun b : Bag => b.2.1) h4 hc0 hb (z.trans hL.symm)]; exact hk)
    obtain ⟨ws, hw, tw⟩ := h3 c0 hc0
    exact ⟨ws, by rw [upd_ne nc]; exact hw, tw.tps (tps_put hu)⟩

/-- what the delays of a letter add to a bag -/
def addD (dl : List Int) (r f : Int) (e : Ent) (k : Int × Int) : List Ent := (dl.filter fun d => decide ((r, f + d) = k)).map fun _ => e
theorem addD_snoc (dl : List Int) (d r f : Int) (e : Ent) (k : Int × Int) : addD (dl ++ [d]) r f e k = addD dl r f e k ++ (if (r, f + d) = k then [e] else []) := by
  unfold addD
  rw [List.filter_append, List.map_append]
  congr 1
  by_cases h : (r, f + d) = k
  · rw [List.filter_cons_of_pos (by simpa using h), List.filter_nil, if_pos h]; rfl
  · rw [List.filter_cons_of_neg (by simpa using h), List.filter_nil, if_neg h]; rfl
/-- what is the post's own -/
def own (D : Addr) (bs : List Bag) (b : Addr) : Prop := b = D ∨ b ∈ bs.map (·.2.1)
def rdD (G : List (List PyData)) : PyData := .tuple (G.map PyData.tuple)
/-- the fate of a frame -/
def fateD (fs : List PyData) (f : Nat) : PyData := fs[f]?.getD (.tuple [.int 0])
def sp_Post_send (K : PySem.W.Frag) (C_Post : Addr) : Sp := fun vs H Q _ => ∃ (p D : Addr) (v x : V) (bs : List Bag) (rows cells fs : List PyData) (s r f : Nat) (dl : List Int) (L : PyData), vs = [.ref p, .int (s : Int), .int (r : Int), .int (f : Int), x] ∧
  PostAt K C_Post H p v D bs ∧ TD K H v (.tuple rows) ∧ rows[s]? = some (.tuple cells) ∧ cells[r]? = some (.tuple fs) ∧ fateD fs f = .tuple (dl.map PyData.int) ∧ TD K H x L ∧ bs.length ≤ 9000 ∧ dl.length ≤ 10 ∧ (∀ b ∈ bs, b.2.2.length ≤ 9000) ∧
  ∀ (bs' : List Bag) H', PostAt K C_Post H' p v D bs' → (∀ k, conB bs' k = conB bs k ++ addD dl r f ((s : Int), (f : Int), L) k) → Tps H H' → (∀ b o, H b = some o → ¬ own D bs b → H' b = some o) → (∀ b, own D bs' b → own D bs b ∨ H b = none) → bs'.length ≤ bs.length + 10 → Q .non H'
theorem ok_Post_send {P : Program} {w : World} {K : PySem.W.Frag} {mg : Str → Option Value} {base : Heap} {C_Post : Addr} {f : Addr} {fd : FuncData} (F : Dm K C_Post "send" "Post.send" s_Post_send f fd ["self", "sender", "receiver", "frame", "letter"]) (T : Txt K mg C_Post) : FnOk P w K mg base CX0 1 f fd ["self", "sender", "receiver", "frame", "letter"] (sp_Post_send K C_Post) := by
  refine F.ok sc_Post_send (fun vs H Q E h => ?_) (fun cdv A outer s H vs Q E hr h => ?_)
  · obtain ⟨p, D, v, x, bs, rows, cells, fs, s, r, f, dl, L, rfl, _⟩ := h
    rfl
  · obtain ⟨p, D, v, x, bs, rows, cells, fs, s, r, f, dl, L, rfl, hp, hv, hs, hr', hf, hx, bl, dll, cl, q⟩ := h
    have es : rows[((s : Nat) : Int).toNat]? = some (.tuple cells) := by rw [Int.toNat_natCast]; exact hs
    have er : cells[((r : Nat) : Int).toNat]? = some (.tuple fs) := by rw [Int.toNat_natCast]; exact hr'
    have s0 : (0 : Int) ≤ (s : Int) := by omega
    have r0 : (0 : Int) ≤ (r : Int) := by omega
    obtain ⟨dx, hob⟩ := hp.ob
    have hu := hu_of hr
    refine ⟨_, (pss_cons (ps_set (i := 5) sc_Post_send.nd rfl (Or.inl rfl) (pe_ix (r := rIxT K) ix_tup (pe_ix (r := rIxT K) ix_tup (pe_fldK (K := K) rfl (pv 0) rfl) (pv 1) (fun _ _ => rfl)) (pv 2) (fun _ _ => rfl)))
      (pss_cons (ps_set (i := 6) sc_Post_send.nd rfl (Or.inl rfl) (pe_ifExp (pt_cmpR op_lt (pv 3) (pe_callB (id := "len") (r := qLen K) c_len (by rfl) T.b_len (by decide +kernel) (pa_cons (pv 5) pa_nil)) (nomark _)) (pe_ix (r := rIxT K) ix_tup (pv 5) (pv 3) (fun _ _ => rfl)) (pe_tup (pa_cons pe_int pa_nil))))
      (pss_one (ps_for PassesOwn.never rfl (pi_tup (pv 6)) (pg_name (i := 7) sc_Post_send.nd rfl (Or.inl rfl)) (pss_cons (ps_set (i := 8) sc_Post_send.nd rfl (Or.inl rfl) (pe_tup (pa_cons (pv 2) (pa_cons (pe_op op_add (pv 3) (pv 7)) pa_nil))))
      (pss_cons (ps_if (pt_cmp (pc_dnotin hu (pv 8) (pe_fldK (K := K) rfl (pv 0) rfl))) (pss_one (ps_dput hu (pe_fldK (K := K) rfl (pv 0) rfl) (pv 8) (pe_lst pa_nil) rfl)) pss_nil)
      (pss_one (ps_expr (pe_bmK (K := K) rfl PySem.F.plainAttrs_list PySem.F.slot_list_append PySem.F.type_list_append mt_append (pe_dget hu (pe_fldK (K := K) rfl (pv 0) rfl) (pv 8) (fun _ _ => rfl)) (pa_cons (pe_tup (pa_cons (pv 1) (pa_cons (pv 3) (pa_cons (pv 4) pa_nil)))) pa_nil)))))))))), ?_⟩
    try dsimp only [cxOf, Cx.nox, Cx.wish]
    refine st_of (σ' := [some _, some _, some _, some _, some _, none, none, none, none]) rfl ?_
    wtm_at "jw1"
    wtm_at "jif"
    refine i_ins hob T.cl_Post T.na_Post_road (pf_road v D) ?_
    wtm_at "jif"
    rename_i y1 hy1 y2 hy2
    refine i_ifJ (fun u H' => Same H H' ∧ TD K H' u (.tuple (dl.map PyData.int))) (fun u H1 h => ?_) (fun R' hR => ?_)
    · obtain ⟨s1, tu⟩ := h
      obtain ⟨ua, ux, rfl, uS, uT⟩ := tu.tup_inv
      rw [uT.ints_inv] at uS
      wtm_at "jw"
      refine f_tup (xs := dl.map V.int) (fun i σ H' => Tps H1 H' ∧ (∃ bi, PostAt K C_Post H' p v D bi ∧ (∀ k, conB bi k = conB bs k ++ addD (dl.take i) r f ((s : Int), (f : Int), L) k) ∧ Tps H H' ∧ (∀ b o, H b = some o → ¬ own D bs b → H' b = some o) ∧ (∀ b, own D bi b → own D bs b ∨ H b = none) ∧ bi.length ≤ bs.length + i ∧ (∀ b ∈ bi, b.2.2.length ≤ 9000 + i)) ∧
          ∃ v7 v8, σ = [some (.ref p), some (.int (s : Int)), some (.int (r : Int)), some (.int (f : Int)), some x, some y2, some (.ref ua), v7, v8])
        ⟨fun b => ⟨fun _ h => h, fun _ _ h => h⟩, ⟨bs, hp.same s1, fun k => by simp [addD], Tps.of s1, fun b o hb _ => s1 _ _ hb, fun b hb => .inl hb, by omega, fun b hb => by have := cl b hb; omega⟩, none, none, rfl⟩
        (fun i σ H' _ h => h.1.sq uS) (fun i z σ H' hi h => ?_) (fun σ H' h => ?_)
      · obtain ⟨t1, ⟨bi, hpi, hc, tp, fr, ow, li, lb⟩, v7, v8, rfl⟩ := h
        obtain ⟨d, rfl, hd, htk, hil⟩ := ints_at hi
        obtain ⟨dx1, hob1⟩ := hpi.ob
        have tx := hx.tps tp
        wtm_at "jw"
        intro T0 hT0
        have s2 := same_new (o := .tup [.int (r : Int), .int ((f : Int) + d)]) hT0
        have hp2 := hpi.same s2
        have hT2 : upd H' T0 (.tup [.int (r : Int), .int ((f : Int) + d)]) T0 = some (.tup ((keyI ((r : Int), (f : Int) + d)).map kV)) := upd_same
        have tp2 := tp.trans (Tps.of s2)
        have t2 := t1.trans (Tps.of s2)
        have tx2 := tx.same s2
        have fr2 : ∀ b o, H b = some o → ¬ own D bs b → upd H' T0 (.tup [.int (r : Int), .int ((f : Int) + d)]) b = some o := fun b o hb hn => s2 _ _ (fr b o hb hn)
        have hfree : ∀ b, upd H' T0 (.tup [.int (r : Int), .int ((f : Int) + d)]) b = none → own D bs b ∨ H b = none := fun b hb => by
          by_cases ho : own D bs b
          · exact .inl ho
          · cases e : H b with
            | none => exact .inr rfl
            | some o => rw [fr2 b o e ho] at hb; cases hb
        generalize upd H' T0 (.tup [.int (r : Int), .int ((f : Int) + d)]) = H2 at hp2 hT2 tp2 t2 tx2 fr2 hfree ⊢
        obtain ⟨dx2, hob2⟩ := hp2.ob
        rw [htk]
        generalize hk : ((r : Int), (f : Int) + d) = k at hT2
        wtm_at "js"
        refine i_ifC (fun σ' H3 => H3 T0 = some (.tup ((keyI k).map kV)) ∧ (∃ b1 L1, PostAt K C_Post H3 p v D b1 ∧ lkA b1 k = some L1 ∧ (∀ j, conB b1 j = conB bi j) ∧ Tps H2 H3 ∧ (∀ b o, H b = some o → ¬ own D bs b → H3 b = some o) ∧ (∀ b, own D b1 b → own D bs b ∨ H b = none) ∧ b1.length ≤ bs.length + i + 1 ∧ (∀ b ∈ b1, b.2.2.length ≤ 9000 + i)) ∧
          σ' = [some (.ref p), some (.int (s : Int)), some (.int (r : Int)), some (.int (f : Int)), some x, some y2, some (.ref ua), some (.int d), some (.ref T0)]) (fun σ' H3 h => ?_) (fun N hN => ?_)
        · obtain ⟨hT3, ⟨b1, L1, hp3, hlk, hc3, t3, fr3, ow3, li3, lb3⟩, rfl⟩ := h
          obtain ⟨dx3, hob3⟩ := hp3.ob
          have tx3 := tx2.tps t3
          wtm_at "jw"
          refine i_dget ?_
          wtm_at "jw"
          refine i_ins hob3 T.cl_Post T.na_Post_bags (pf_bags v D) ?_
          wtm_at "jw"
          refine ⟨D, .ref L1, rfl, ?_, ?_⟩
          · have g := DGet.t hp3.dct hT3
            rw [bkv_val, hlk] at g
            exact g
          · obtain ⟨bq, hbq, hbk, hbL, hbc⟩ := lkA_mem hlk
            obtain ⟨us0, hu0, tu0⟩ := hp3.ls bq hbq
            rw [hbL] at hu0
            refine i_tyL (SqL.of hu0) ?_
            wtm_at "jw"
            intro T1 hT1
            have s4 := same_new (o := .tup [.int (s : Int), .int (f : Int), x]) hT1
            have hp4 := hp3.same s4
            have te : TD K (upd H3 T1 (.tup [.int (s : Int), .int (f : Int), x])) (.ref T1) (eD ((s : Int), (f : Int), L)) := TD.new hT1 (.cons (.int _) (.cons (.int _) (.cons tx3 .nil)))
            obtain ⟨us, hus, hul, hp5⟩ := hp4.put hlk te
            have fr4 : ∀ b o, H b = some o → ¬ own D bs b → upd H3 T1 (.tup [.int (s : Int), .int (f : Int), x]) b = some o := fun b o hb hn => s4 _ _ (fr3 b o hb hn)
            have t4 := t3.trans (Tps.of s4)
            have ulen : us.length ≤ 9100 := by
              rw [hul, hbc]
              have := lb3 bq hbq
              omega
            generalize upd H3 T1 (.tup [.int (s : Int), .int (f : Int), x]) = H4 at hp5 hus fr4 t4 ⊢
            wtm_at "jw"
            refine i_app hus (by rw [sizeLine_eq]; omega) ?_
            have t5 : Tps H2 (upd H4 L1 (.lst (us ++ [.ref T1]))) := t4.trans (tps_put hus)
            refine ⟨t2.trans t5, ⟨_, hp5, fun j => ?_, tp2.trans t5, fun b o hb hn => ?_, fun b hb => ?_, by unfold modB; rw [List.length_map]; omega, fun b hb => ?_⟩, _, _, rfl⟩
            · rw [conB_mod j hlk, addD_snoc, ← List.append_assoc, ← hc j, hk]
              by_cases hj : j = k
              · rw [if_pos hj, if_pos hj.symm, hc3, hj]
              · rw [if_neg hj, if_neg (fun z => hj z.symm), List.append_nil, hc3]
            · have : b ≠ L1 := fun z => by
                subst z
                rcases ow3 b (.inr (List.mem_map.mpr ⟨bq, hbq, hbL⟩)) with h | h
                · exact hn h
                · rw [h] at hb; cases hb
              rw [upd_ne this]
              exact fr4 b o hb hn
            · rcases hb with hb | hb
              · exact .inl (.inl hb)
              · rw [modB_ad] at hb
                exact ow3 b (.inr hb)
            · unfold modB at hb
              obtain ⟨c, hc', rfl⟩ := List.mem_map.mp hb
              have := lb3 c hc'
              split
              · show (c.2.2 ++ [_]).length ≤ _
                rw [List.length_append]
                simp
                omega
              · omega
        · refine i_ifS ?_
          wtm_at "js"
          refine i_dnin ?_
          wtm_at "jw"
          refine i_ins hob2 T.cl_Post T.na_Post_bags (pf_bags v D) ?_
          refine ⟨D, _, rfl, DGet.t hp2.dct hT2, ?_⟩
          rw [bkv_val]
          cases hl : lkA bi k with
          | some L1 =>
            wtm_at "jw"
            refine hN _ _ ⟨hT2, ⟨bi, L1, hp2, hl, fun j => rfl, fun b => ⟨fun _ h => h, fun _ _ h => h⟩, fr2, ow, by omega, lb⟩, rfl⟩
          | none =>
            refine ⟨_, rfl, ?_⟩
            rw [if_pos (by rfl)]
            refine i_dput ?_
            wtm_at "jw"
            intro L1 hL1
            have s3 := same_new (o := .lst []) hL1
            have hp3 := hp2.same s3
            have hT3 := s3 _ _ hT2
            have hob3 := s3 _ _ hob2
            have fL1 := hfree L1 hL1
            have nL1 : L1 ∉ bi.map (·.2.1) := fun hm => by
              obtain ⟨b, hb, e⟩ := List.mem_map.mp hm
              obtain ⟨us, hu, _⟩ := hp2.ls b hb
              rw [e, hL1] at hu
              cases hu
            have hp4 := hp3.bag (k := k) (L := L1) upd_same nL1 hl
            wtm_at "jw"
            refine i_ins hob3 T.cl_Post T.na_Post_bags (pf_bags v D) ?_
            wtm_at "jw"
            refine ⟨D, _, rfl, DPut.t hp3.dct hT3 (by rw [List.length_map, sizeLine_eq]; omega), ?_⟩
            wtm_at "jw"
            have nTD : T0 ≠ D := ne_of hT3 hp3.dct (by intro z; cases z)
            refine hN _ _ ⟨by rw [upd_ne nTD]; exact hT3, ⟨_, L1, hp4, lkA_new hl, fun j => conB_new k L1 j bi, ?_, fun b o hb hn => ?_, fun b hb => ?_, by simp; omega, fun b hb => ?_⟩, rfl⟩
            · refine (Tps.of s3).trans fun b => ⟨fun xs e => ?_, fun o xs e => ?_⟩
              · rw [upd_ne (ne_of e hp3.dct (by intro z; cases z))]; exact e
              · rw [upd_ne (ne_of e hp3.dct (by intro z; cases z))]; exact e
            · rw [upd_ne (fun z => hn (.inl z))]
              exact s3 _ _ (fr2 b o hb hn)
            · rcases hb with hb | hb
              · exact .inl (.inl hb)
              · rw [List.map_append] at hb
                rcases List.mem_append.mp hb with hb | hb
                · exact ow b (.inr hb)
                · have : b = L1 := by simpa using hb
                  subst this
                  exact fL1
            · rcases List.mem_append.mp hb with hb | hb
              · exact lb b hb
              · rw [List.mem_singleton.mp hb]
                simp
      · obtain ⟨t1, ⟨bi, hpi, hc, tp, fr, ow, li, lb⟩, v7, v8, rfl⟩ := h
        rw [List.length_map] at li
        rw [List.length_map, List.take_length] at hc
        exact q bi _ hpi hc tp fr ow (by omega)
    · wtm_at "jw"
      refine c_dec (fun h => ?_) (fun h => ?_)
      · have hfl : f < fs.length := by omega
        have ef : fs[((f : Nat) : Int).toNat]? = some (.tuple (dl.map PyData.int)) := by
          rw [Int.toNat_natCast, List.getElem?_eq_getElem hfl]
          rw [← hf]
          unfold fateD
          rw [List.getElem?_eq_getElem hfl]
          rfl
        have f0 : (0 : Int) ≤ (f : Int) := by omega
        wtm_at "jw"
        rename_i y3 hy3
        exact hR _ _ ⟨Same.refl H, hy3⟩
      · have hfl : ¬ f < fs.length := by omega
        have ef : dl.map PyData.int = [PyData.int 0] := by
          unfold fateD at hf
          rw [List.getElem?_eq_none (by omega)] at hf
          exact (PyData.tuple.inj hf).symm
        wtm_at "jw"
        intro T0 hT0
        refine hR _ _ ⟨same_new hT0, ?_⟩
        rw [ef]
        exact TD.new hT0 (.cons (.int _) .nil)
/-! ### triples of ints, lists of them, sorted -/
abbrev T3 := Int × Int × Int
def Prw3 (H : Hp) (rs : List Addr) (rows : List T3) : Prop := rs.length = rows.length ∧ ∀ (i : Nat) (r : Addr) (p : T3), rs[i]? = some r → rows[i]? = some p → H r = some (.tup [.int p.1, .int p.2.1, .int p.2.2])
def LPr3 (H : Hp) (a : Addr) (rows : List T3) : Prop := ∃ rs : List Addr, H a = some (.lst (rs.map V.ref)) ∧ Prw3 H rs rows
theorem Prw3.nil {H : Hp} : Prw3 H [] [] := ⟨rfl, fun i r p h => by simp at h⟩
theorem Prw3.tps {H H' : Hp} {rs : List Addr} {rows : List T3} (w : Prw3 H rs rows) (t : Tps H H') : Prw3 H' rs rows := ⟨w.1, fun i r p h1 h2 => (t r).1 _ (w.2 i r p h1 h2)⟩
theorem Prw3.snoc {H : Hp} {rs : List Addr} {rows : List T3} {q : Addr} {p : T3} (w : Prw3 H rs rows) (h : H q = some (.tup [.int p.1, .int p.2.1, .int p.2.2])) : Prw3 H (rs ++ [q]) (rows ++ [p]) := by
  refine ⟨by simp [w.1], fun i r p' h1 h2 => ?_⟩
  have hl := w.1
  by_cases hi : i < rs.length
  · rw [List.getElem?_append_left hi] at h1
    rw [List.getElem?_append_left (by omega)] at h2
    exact w.2 i r p' h1 h2
  · rw [List.getElem?_append_right (by omega)] at h1
    rw [List.getElem?_append_right (by omega)] at h2
    rw [hl] at h1
    cases e : i - rows.length with
    | zero =>
      rw [e] at h1 h2
      cases h1
      cases h2
      exact h
    | succ n =>
      rw [e] at h1
      cases h1
theorem Prw3.at {H : Hp} {rs : List Addr} {rows : List T3} {i : Nat} {v : V} (w : Prw3 H rs rows) (h : (rs.map V.ref)[i]? = some v) : ∃ r p, v = .ref r ∧ rs[i]? = some r ∧ rows[i]? = some p ∧ H r = some (.tup [.int p.1, .int p.2.1, .int p.2.2]) ∧ rows.take (i + 1) = rows.take i ++ [p] ∧ i < rows.length := by
  rw [List.getElem?_map] at h
  cases e : rs[i]? with
  | none => rw [e] at h; cases h
  | some r =>
    rw [e] at h
    have hi := (List.getElem?_eq_some_iff.mp e).1
    have hl := w.1
    have e2 : rows[i]? = some (rows[i]'(by omega)) := List.getElem?_eq_getElem (by omega)
    exact ⟨r, _, (Option.some.inj h).symm, rfl, e2, w.2 i r _ e e2, by rw [List.take_add_one, e2]; rfl, by omega⟩
def kP3 (H : Hp) : V → T3
  | .ref t => match H t with
    | some (.tup [.int i, .int j, .int k]) => (i, j, k)
    | _ => (0, 0, 0)
  | _ => (0, 0, 0)
def adr3 : V → Addr
  | .ref t => t
  | _ => 0
theorem kP3_of {H : Hp} {t : Addr} {p : T3} (h : H t = some (.tup [.int p.1, .int p.2.1, .int p.2.2])) : kP3 H (.ref t) = p := by
  simp only [kP3, h]
theorem Prw3.keys {H : Hp} : ∀ {rs : List Addr} {rows : List T3}, Prw3 H rs rows → (rs.map V.ref).map (kP3 H) = rows
  | [], [], _ => rfl
  | r :: rs, p :: rows, h => by
    rw [List.map_cons, List.map_cons, kP3_of (h.2 0 r p rfl rfl), Prw3.keys (rs := rs) (rows := rows) ⟨by simpa using h.1, fun i r' p' h1 h2 => h.2 (i + 1) r' p' (by simpa using h1) (by simpa using h2)⟩]
  | [], _ :: _, h => by cases h.1
  | _ :: _, [], h => by cases h.1
def Sorts3 (ps L : List T3) : Prop := ps.Perm L ∧ ps.Pairwise fun p q => Srt3.lex3 q p = false
theorem i_sort3 {K : PySem.W.Frag} {H : Hp} {Q : VK} {a : Addr} {rows : List T3} (h : LPr3 H a rows)
    (q : ∀ r H' ps, Same H H' → Sorts3 ps rows → H r = none → LPr3 H' r ps → Q (.ref r) H') : Srt3.rSorted3 K [.ref a] H Q := by
  obtain ⟨rs, ha, w⟩ := h
  have mem : ∀ x ∈ rs.map V.ref, ∃ t, x = V.ref t ∧ H t = some (.tup [.int (kP3 H x).1, .int (kP3 H x).2.1, .int (kP3 H x).2.2]) := fun x hx => by
    obtain ⟨i, hi⟩ := List.getElem?_of_mem hx
    obtain ⟨r, p, rfl, _, _, hr, _⟩ := w.at hi
    exact ⟨r, rfl, by rw [kP3_of hr]; exact hr⟩
  refine ⟨a, rs.map V.ref, kP3 H, rfl, SqL.of ha, mem, fun ys p srt stb hp => ?_⟩
  have pm := stb.perm
  have e1 : (ys.map adr3).map V.ref = ys := by
    rw [List.map_map]
    conv => rhs; rw [← List.map_id ys]
    refine List.map_congr_left fun y hy => ?_
    obtain ⟨t, rfl, _⟩ := mem y (pm.mem_iff.mp hy)
    rfl
  refine q p _ (ys.map (kP3 H)) (same_new hp) ⟨?_, ?_⟩ hp ⟨ys.map adr3, by rw [upd_same, e1], ?_⟩
  · have := pm.map (kP3 H)
    rw [w.keys] at this
    exact this
  · rw [List.pairwise_map]
    exact srt
  · refine Prw3.tps (H := H) ⟨by simp, fun i r' p' h1 h2 => ?_⟩ (Tps.of (same_new hp))
    rw [List.getElem?_map] at h1 h2
    cases e : ys[i]? with
    | none => rw [e] at h1; cases h1
    | some y =>
      rw [e] at h1 h2
      cases h1
      cases h2
      obtain ⟨t, rfl, ht⟩ := mem y (pm.mem_iff.mp (List.mem_of_getElem? e))
      exact ht

/-- by sender, then by the frame of sending -/
def leE (a b : Ent) : Prop := a.1 < b.1 ∨ (a.1 = b.1 ∧ a.2.1 ≤ b.2.1)
def entN (es : List Ent) (k : Nat) : Ent := es[k]?.getD (0, 0, PyData.none)
def tripE (es : List Ent) (n : Nat) : List T3 := (List.range n).map fun (k : Nat) => ((entN es k).1, (entN es k).2.1, (k : Int))
theorem entN_at {es : List Ent} {k : Nat} (h : k < es.length) : es[k]? = some (entN es k) := by
  unfold entN
  rw [List.getElem?_eq_getElem h]
  rfl
theorem trip_step (es : List Ent) (n : Nat) : tripE es (n + 1) = tripE es n ++ [((entN es n).1, (entN es n).2.1, (n : Int))] := by
  unfold tripE
  rw [List.range_succ, List.map_append]
  rfl
theorem map_entN (es : List Ent) : (List.range es.length).map (entN es) = es := by
  refine List.ext_getElem (by simp) fun i h1 h2 => ?_
  rw [List.getElem_map, List.getElem_range]
  have := entN_at h2
  rw [List.getElem?_eq_getElem h2] at this
  exact (Option.some.inj this).symm
/-- the sorted numbers, read back -/
theorem sorts_ent {es : List Ent} {ps : List T3} (h : Sorts3 ps (tripE es es.length)) : (ps.map fun p => entN es p.2.2.toNat).Perm es ∧ (ps.map fun p => entN es p.2.2.toNat).Pairwise leE ∧ ∀ p ∈ ps, 0 ≤ p.2.2 ∧ p.2.2.toNat < es.length := by
  obtain ⟨pm, pw⟩ := h
  have mem : ∀ p ∈ ps, ∃ k, k < es.length ∧ p = ((entN es k).1, (entN es k).2.1, (k : Int)) := fun p hp => by
    obtain ⟨k, hk, rfl⟩ := List.mem_map.mp (pm.mem_iff.mp hp)
    exact ⟨k, List.mem_range.mp hk, rfl⟩
  refine ⟨?_, ?_, fun p hp => ?_⟩
  · have h1 := pm.map fun p : T3 => entN es p.2.2.toNat
    have e : (tripE es es.length).map (fun p : T3 => entN es p.2.2.toNat) = es := by
      unfold tripE
      rw [List.map_map]
      refine Eq.trans (List.map_congr_left fun k _ => ?_) (map_entN es)
      rfl
    rw [e] at h1
    exact h1
  · rw [List.pairwise_map]
    refine List.Pairwise.imp_of_mem (fun {p q} hp hq h => ?_) pw
    obtain ⟨i, _, rfl⟩ := mem p hp
    obtain ⟨j, _, rfl⟩ := mem q hq
    rw [Srt3.lex3_no] at h
    unfold leE
    simp only [Int.toNat_natCast] at h ⊢
    omega
  · obtain ⟨k, hk, rfl⟩ := mem p hp
    exact ⟨by simp, by simpa using hk⟩
def sp_Post_arriving (K : PySem.W.Frag) (C_Post : Addr) : Sp := fun vs H Q _ => ∃ (p D : Addr) (v : V) (bs : List Bag) (r f : Int), vs = [.ref p, .int r, .int f] ∧ PostAt K C_Post H p v D bs ∧ (conB bs (r, f)).length ≤ 900 ∧
  ∀ R (ss : List Ent) H', Same H H' → H R = none → ss.Perm (conB bs (r, f)) → ss.Pairwise leE → LD K H' R (ss.map (·.2.2)) → Q (.ref R) H'
theorem ok_Post_arriving {P : Program} {w : World} {K : PySem.W.Frag} {mg : Str → Option Value} {base : Heap} {C_Post : Addr} {f : Addr} {fd : FuncData} (F : Dm K C_Post "arriving" "Post.arriving" s_Post_arriving f fd ["self", "receiver", "frame"]) (T : Txt K mg C_Post) : FnOk P w K mg base CX0 1 f fd ["self", "receiver", "frame"] (sp_Post_arriving K C_Post) := by
  refine F.ok sc_Post_arriving (fun vs H Q E h => ?_) (fun cdv A outer s H vs Q E hr h => ?_)
  · obtain ⟨p, D, v, bs, r, f, rfl, _⟩ := h
    rfl
  · obtain ⟨p, D, v, bs, r, f, rfl, hp, hlen, q⟩ := h
    obtain ⟨dx, hob⟩ := hp.ob
    have hu := hu_of hr
    refine ⟨_, (pss_cons (ps_set (i := 3) sc_Post_arriving.nd rfl (Or.inr rfl) (pe_dget2 hu (pe_fldK (K := K) rfl (pv 0) rfl) (pe_tup (pa_cons (pv 1) (pa_cons (pv 2) pa_nil))) (pe_lst pa_nil) ⟨rfl, rfl, rfl, rfl⟩))
      (pss_cons (ps_set (i := 4) sc_Post_arriving.nd rfl (Or.inl rfl) (pe_callB (id := "sorted") (r := Srt3.rSorted3 K) Srt3.cr_sorted3 (by rfl) T.b_sorted (by decide +kernel) (pa_cons (pe_lc (own := [("k", 5)]) (g := gName 5) (tt := tYes) rfl sc_Post_arriving.nd (pi_range1 rfl T.b_range (pa_cons (pe_callB (id := "len") (r := qLen K) c_len (by rfl) T.b_len (by decide +kernel) (pa_cons (pv 3) pa_nil)) pa_nil)) (blkOk_by (own := [("k", 5)]) (N := N_Post_arriving) (sc := defScope s_Post_arriving) (by decide +kernel)) (fun _ _ _ _ _ => (pg_name (i := 5) sc_Post_arriving.nd rfl (Or.inl rfl))) (fun _ _ _ _ _ => pts_nil) (fun _ _ _ _ _ => (pe_tup (pa_cons (pe_ix (r := rIxT K) ix_tup (pe_ix (r := rIxL K) ix_list (pv 3) (pv 5) (fun _ _ => rfl)) pe_int (fun _ _ => rfl)) (pa_cons (pe_ix (r := rIxT K) ix_tup (pe_ix (r := rIxL K) ix_list (pv 3) (pv 5) (fun _ _ => rfl)) pe_int (fun _ _ => rfl)) (pa_cons (pv 5) pa_nil)))))) pa_nil)))
      (pss_one (ps_ret (pe_lc (own := [("row", 6)]) (g := gName 6) (tt := tYes) rfl sc_Post_arriving.nd (pi_list (pv 4)) (blkOk_by (own := [("row", 6)]) (N := N_Post_arriving) (sc := defScope s_Post_arriving) (by decide +kernel)) (fun _ _ _ _ _ => (pg_name (i := 6) sc_Post_arriving.nd rfl (Or.inl rfl))) (fun _ _ _ _ _ => pts_nil) (fun _ _ _ _ _ => (pe_ix (r := rIxT K) ix_tup (pe_ix (r := rIxL K) ix_list (pv 3) (pe_ix (r := rIxT K) ix_tup (pv 6) pe_int (fun _ _ => rfl)) (fun _ _ => rfl)) pe_int (fun _ _ => rfl)))))))), ?_⟩
    try dsimp only [cxOf, Cx.nox, Cx.wish]
    refine st_of (σ' := [some _, some _, some _, none, none, none, none]) rfl ?_
    wtm_at "jw"
    refine i_dget2 ?_
    wtm_at "jw"
    refine i_ins hob T.cl_Post T.na_Post_bags (pf_bags v D) ?_
    refine i_isDT hp.dct ?_
    wtm_at "jw"
    intro T0 hT0
    have s1 := same_new (o := .tup [.int r, .int f]) hT0
    have hT1 : upd H T0 (.tup [.int r, .int f]) T0 = some (.tup ((keyI (r, f)).map kV)) := upd_same
    have hp1 := hp.same s1
    generalize upd H T0 (.tup [.int r, .int f]) = H1 at s1 hT1 hp1 ⊢
    wtm_at "jw"
    intro N hN
    have s2 := s1.trans (same_new (o := .lst []) hN)
    have hp2 := hp1.same (same_new (o := .lst []) hN)
    have hT2 := same_new (o := .lst []) hN _ _ hT1
    have hN2 : upd H1 N (.lst []) N = some (.lst []) := upd_same
    generalize upd H1 N (.lst []) = H2 at s2 hp2 hT2 hN2 ⊢
    have hg := DGet.t hp2.dct hT2
    rw [bkv_val] at hg
    have hB : ∃ B us, ((lkA bs (r, f)).map V.ref).getD (V.ref N) = .ref B ∧ H2 B = some (.lst us) ∧ TDs K H2 us ((conB bs (r, f)).map eD) := by
      cases e : lkA bs (r, f) with
      | none =>
        obtain ⟨_, h2⟩ := lkA_none e
        exact ⟨N, [], rfl, hN2, by rw [h2]; exact .nil⟩
      | some L =>
        obtain ⟨b, hb, _, hL, hc⟩ := lkA_mem e
        obtain ⟨us, hu, tu⟩ := hp2.ls b hb
        rw [hL] at hu
        exact ⟨L, us, rfl, hu, by rw [hc]; exact tu⟩
    obtain ⟨B, us, eB, hu, tu⟩ := hB
    refine ⟨_, hg, ?_⟩
    rw [eB]
    generalize conB bs (r, f) = es at hlen q tu
    have hul := tu.len
    rw [List.length_map] at hul
    clear eB hg
    wtm_at "jw"
    intro C hC
    refine l_range (fun i H' => Same H2 H' ∧ LPr3 H' C (tripE es i)) ⟨same_new hC, [], upd_same, .nil⟩ (fun i H' hi h => ?_) (fun H3 h => ?_)
    · obtain ⟨s3, rs, hrs, wr⟩ := h
      have hi' : i < es.length := by omega
      have hei := entN_at hi'
      obtain ⟨x, hx, tx⟩ := tu.get (i := i) (d := eD (entN es i)) (by rw [List.getElem?_map, hei]; rfl)
      have ax : atI us (i : Int) = some x := atI_nat hx
      have hu3 := s3 _ _ hu
      have tx3 : TD K H' x (.tuple [.int (entN es i).1, .int (entN es i).2.1, (entN es i).2.2]) := tx.same s3
      rw [Int.zero_add]
      wtm_at "jw"
      refine ⟨rfl, ?_⟩
      wtm_at "jw"
      intro T1 hT1
      have hrl : rs.length ≤ 900 := by
        rw [wr.1]
        unfold tripE
        rw [List.length_map, List.length_range]
        omega
      refine ⟨rs.map V.ref, same_new hT1 _ _ hrs, small1000 (by rw [List.length_map]; omega), put_same (s3.trans (same_new hT1)) hC, ?_⟩
      rw [trip_step]
      have nC : upd H' T1 (.tup [.int (entN es i).1, .int (entN es i).2.1, .int (i : Int)]) C = some (.lst (rs.map V.ref)) := same_new hT1 _ _ hrs
      exact ⟨rs ++ [T1], by rw [upd_same, List.map_append]; rfl, ((wr.tps (Tps.of (same_new hT1))).snoc upd_same).tps (tps_put nC)⟩
    · obtain ⟨s3, hL⟩ := h
      rw [show ((us.length : Nat) : Int).toNat = es.length by omega] at hL
      wtm_at "jw"
      refine i_sort3 hL fun O H4 ps s4 srt hO hLO => ?_
      obtain ⟨pm, pw, pb⟩ := sorts_ent srt
      obtain ⟨ors, hor, wor⟩ := hLO
      have s24 := s3.trans s4
      have hpl : ps.length ≤ 900 := by
        have := pm.length_eq
        rw [List.length_map] at this
        omega
      wtm_at "jw"
      intro D2 hD2
      refine l_list (xs := ors.map V.ref) (fun i H' => Same H4 H' ∧ LD K H' D2 (((ps.take i).map fun p => entN es p.2.2.toNat).map (·.2.2))) ⟨same_new hD2, .new hD2 .nil⟩ (fun i H' _ h => SqL.of (h.1 _ _ hor)) (fun i x H' hi h => ?_) (fun H5 h => ?_)
      · obtain ⟨s5, ws, hws, tws⟩ := h
        obtain ⟨r0, p0, rfl, _, ep, hr0, htk, hil⟩ := wor.at hi
        have hpb := pb p0 (List.mem_of_getElem? ep)
        have hei := entN_at hpb.2
        obtain ⟨x, hx, tx⟩ := tu.get (i := p0.2.2.toNat) (d := eD (entN es p0.2.2.toNat)) (by rw [List.getElem?_map, hei]; rfl)
        have ax : atI us p0.2.2 = some x := by
          have := atI_nat hx
          rw [Int.toNat_of_nonneg hpb.1] at this
          exact this
        have hu5 := s5 _ _ (s24 _ _ hu)
        have tx5 : TD K H' x (.tuple [.int (entN es p0.2.2.toNat).1, .int (entN es p0.2.2.toNat).2.1, (entN es p0.2.2.toNat).2.2]) := (tx.same s24).same s5
        have hr5 := SqT.of (K := K) (s5 _ _ hr0)
        have hwl := tws.len
        rw [List.length_map, List.length_map, List.length_take] at hwl
        wtm_at "jw"
        refine ⟨rfl, ?_⟩
        wtm_at "jw"
        rename_i y hy
        refine ⟨ws, hws, small1000 (by omega), put_same s5 hD2, ?_⟩
        rw [htk, List.map_append, List.map_append]
        exact LD.snoc hws tws hy
      · obtain ⟨s5, hL5⟩ := h
        rw [List.length_map, wor.1, List.take_length] at hL5
        exact q D2 _ _ ((s2.trans s24).trans s5) ((s2.trans s24).free hD2) pm pw hL5
/-! ### what roads keep, plainly (the defs of roads.lean without the walk) -/
def okI (lo hi : Int) : PyData → Bool
  | .int z => decide (lo ≤ z) && decide (z ≤ hi)
  | _ => false
def iD (ds : List PyData) (i : Nat) : Int := match ds[i]? with
  | some (.int z) => z
  | _ => 0
def fateB (dl : Int) : PyData → Bool
  | .tuple ds => ds.all (okI 0 dl) && (decide (ds.length ≤ 2) && (decide (ds.length < 2) || decide (iD ds 0 ≤ iD ds 1)))
  | _ => false
theorem fateB_t (dl : Int) (ds : List PyData) : fateB dl (.tuple ds) = (ds.all (okI 0 dl) && (decide (ds.length ≤ 2) && (decide (ds.length < 2) || decide (iD ds 0 ≤ iD ds 1)))) := rfl
def emT : PyData → Bool
  | .tuple [] => true
  | _ => false
def kstep (l : Int) (st : Option Int) (f : PyData) : Option Int := match st with
  | none => none
  | some lost => if emT f then (if lost + 1 > l then none else some (lost + 1)) else some 0
theorem kstep_s (l lost : Int) (d : PyData) : kstep l (some lost) d = if emT d = true then (if lost + 1 > l then none else some (lost + 1)) else some 0 := rfl
def keepB (l : Int) (ds : List PyData) : Bool := (ds.foldl (kstep l) (some 0)).isSome
theorem kst_none {l : Int} : ∀ ds : List PyData, ds.foldl (kstep l) none = none
  | [] => rfl
  | d :: ds => by rw [List.foldl_cons]; exact kst_none ds
def fatesB (fr dl l : Int) : PyData → Bool
  | .tuple ds => decide ((ds.length : Int) = fr) && (ds.all (fateB dl) && keepB l ds)
  | _ => false
theorem fatesB_t (fr dl l : Int) (ds : List PyData) : fatesB fr dl l (.tuple ds) = (decide ((ds.length : Int) = fr) && (ds.all (fateB dl) && keepB l ds)) := rfl
def gD (ds : List PyData) (i : Nat) : PyData := ds[i]?.getD .none
def cellB (fr dl l : Int) (s r : Nat) (x : PyData) : Bool := if r = s then PyData.eqv x (.tuple []) else fatesB fr dl l x
def rowsB (R : Nat) (fr dl l : Int) (s : Nat) : PyData → Bool
  | .tuple ds => decide ((ds.length : Int) = (R : Int)) && (List.range R).all fun r => cellB fr dl l s r (gD ds r)
  | _ => false
def roadB (S R : Nat) (fr dl l : Int) : PyData → Bool
  | .tuple ds => decide ((ds.length : Int) = (S : Int)) && (List.range S).all fun s => rowsB R fr dl l s (gD ds s)
  | _ => false
theorem gD_at {ds : List PyData} {i : Nat} (h : i < ds.length) : ds[i]? = some (gD ds i) := by
  unfold gD
  rw [List.getElem?_eq_getElem h]
  rfl

/-! ### roads, plainly (for k27, k28, k29) -/
def fD (f : List Int) : PyData := .tuple (f.map PyData.int)
def fsD (F : List (List Int)) : PyData := .tuple (F.map fD)
theorem em_fD (f : List Int) : emT (fD f) = f.isEmpty := by cases f <;> rfl
def rowC (R s : Nat) (c : PyData) : PyData := .tuple ((List.range R).map fun r => if r = s then .tuple [] else c)
def roadC (S R : Nat) (c : PyData) : PyData := .tuple ((List.range S).map fun s => rowC R s c)
def CellP (P : PyData → Prop) (s r : Nat) (c : PyData) : Prop := (r = s → c = .tuple []) ∧ (r ≠ s → P c)
def RowP (R : Nat) (P : PyData → Prop) (s : Nat) (row : PyData) : Prop := ∃ cells, row = .tuple cells ∧ cells.length = R ∧ AllI (CellP P s) cells
def RoadP (S R : Nat) (P : PyData → Prop) (d : PyData) : Prop := ∃ rows, d = .tuple rows ∧ rows.length = S ∧ AllI (RowP R P) rows
theorem roadC_P (S R : Nat) (c : PyData) : RoadP S R (· = c) (roadC S R c) := by
  refine ⟨_, rfl, by simp, fun s row hr => ?_⟩
  rw [List.getElem?_map] at hr
  cases e : (List.range S)[s]? with
  | none => rw [e] at hr; cases hr
  | some s' =>
    obtain ⟨h1, h2⟩ := List.getElem?_eq_some_iff.mp e
    rw [List.getElem_range] at h2
    subst h2
    rw [e] at hr
    cases hr
    refine ⟨_, rfl, by simp, fun r c' hc => ?_⟩
    rw [List.getElem?_map] at hc
    cases e2 : (List.range R)[r]? with
    | none => rw [e2] at hc; cases hc
    | some r' =>
      obtain ⟨h3, h4⟩ := List.getElem?_eq_some_iff.mp e2
      rw [List.getElem_range] at h4
      subst h4
      rw [e2] at hc
      cases hc
      exact ⟨fun h => if_pos h, fun h => if_neg h⟩
theorem eqv_nil : PyData.eqv (.tuple []) (.tuple []) = true := by simp [PyData.eqv, PyData.eqvAll]
theorem roadP_B {S R : Nat} {fr dl l : Int} {P : PyData → Prop} {d : PyData} {b : Bool} (h : RoadP S R P d) (hb : ∀ c, P c → fatesB fr dl l c = b) (h1 : 1 ≤ S) (h2 : S ≤ R) : roadB S R fr dl l d = (b || decide (R = 1)) := by
  obtain ⟨rows, rfl, hl, hr⟩ := h
  unfold roadB
  simp only
  rw [decide_eq_true (show (rows.length : Int) = (S : Int) by omega), Bool.true_and]
  have row : ∀ s, s < S → rowsB R fr dl l s (gD rows s) = ((List.range R).all fun r => decide (r = s) || b) := fun s hs => by
    obtain ⟨cells, e, hcl, hc⟩ := hr s _ (gD_at (by omega))
    rw [e]
    unfold rowsB
    simp only
    rw [decide_eq_true (show (cells.length : Int) = (R : Int) by omega), Bool.true_and]
    rw [Bool.eq_iff_iff, List.all_eq_true, List.all_eq_true]
    refine forall_congr' fun r => ⟨fun h hr' => ?_, fun h hr' => ?_⟩
    · have := h hr'
      have hrl : r < R := List.mem_range.mp hr'
      have hp := hc r _ (gD_at (by omega))
      unfold cellB at this
      by_cases e2 : r = s
      · simp [e2]
      · rw [if_neg e2, hb _ (hp.2 e2)] at this
        simp [this]
    · have := h hr'
      have hrl : r < R := List.mem_range.mp hr'
      have hp := hc r _ (gD_at (by omega))
      unfold cellB
      by_cases e2 : r = s
      · rw [if_pos e2, hp.1 e2]
        exact eqv_nil
      · rw [if_neg e2, hb _ (hp.2 e2)]
        simpa [e2] using this
  have e3 : ((List.range S).all fun s => rowsB R fr dl l s (gD rows s)) = ((List.range S).all fun s => (List.range R).all fun r => decide (r = s) || b) := by
    rw [Bool.eq_iff_iff, List.all_eq_true, List.all_eq_true]
    refine forall_congr' fun s => ?_
    constructor
    · intro h hs
      rw [← row s (List.mem_range.mp hs)]
      exact h hs
    · intro h hs
      rw [row s (List.mem_range.mp hs)]
      exact h hs
  rw [e3]
  cases b with
  | true => simp
  | false =>
    rw [Bool.false_or, Bool.eq_iff_iff, List.all_eq_true, decide_eq_true_eq]
    constructor
    · intro h
      have h3 := h 0 (List.mem_range.mpr (by omega))
      rw [List.all_eq_true] at h3
      by_cases hR : R = 1
      · exact hR
      · have h4 := h3 1 (List.mem_range.mpr (by omega))
        simp at h4
    · intro hR s hs
      rw [List.all_eq_true]
      intro r hr'
      have := List.mem_range.mp hs
      have := List.mem_range.mp hr'
      simp
      omega
/-- fates within bounds -/
def GoodF (late lost : Nat) (F : List (List Int)) : Prop := (∀ f ∈ F, f = [] ∨ (∃ x : Int, 0 ≤ x ∧ x ≤ late ∧ f = [x]) ∨ ∃ x y : Int, 0 ≤ x ∧ x ≤ y ∧ y ≤ late ∧ f = [x, y]) ∧ ∃ n, (F.map fD).foldl (kstep lost) (some 0) = some n
theorem good_B {fr late lost : Nat} {F : List (List Int)} (h : GoodF late lost F) (hl : F.length = fr) : fatesB fr late lost (fsD F) = true := by
  obtain ⟨h1, n, h2⟩ := h
  unfold fatesB fsD
  simp only
  have e1 : (F.map fD).all (fateB late) = true := by
    rw [List.all_eq_true]
    intro d hd
    obtain ⟨f, hf, rfl⟩ := List.mem_map.mp hd
    rcases h1 f hf with rfl | ⟨x, x0, x1, rfl⟩ | ⟨x, y, x0, xy, y1, rfl⟩
    · rfl
    · simp [fD, fateB, okI, x0, x1]
    · simp [fD, fateB, okI, iD, x0, xy, y1]
      omega
  have e2 : keepB lost (F.map fD) = true := by unfold keepB; rw [h2]; rfl
  rw [e1, e2, decide_eq_true (by rw [List.length_map, hl])]
  rfl
theorem GoodF.nonneg {late lost : Nat} {F : List (List Int)} (h : GoodF late lost F) : ∀ f ∈ F, ∀ x ∈ f, 0 ≤ x ∧ x ≤ (late : Int) := fun f hf x hx => by
  rcases h.1 f hf with rfl | ⟨a, a0, a1, rfl⟩ | ⟨a, b, a0, ab, b1, rfl⟩
  · cases hx
  · rcases List.mem_cons.mp hx with rfl | hx
    · exact ⟨a0, a1⟩
    · cases hx
  · rcases List.mem_cons.mp hx with rfl | hx
    · exact ⟨a0, by omega⟩
    · rcases List.mem_cons.mp hx with rfl | hx
      · exact ⟨by omega, b1⟩
      · cases hx
/-! when a letter is heard -/
def hst (acc : Option Int) (z : Int) : Option Int := match acc with
  | none => some z
  | some b => if z < b then some z else some b
def gF (F : List (List Int)) (f : Nat) : List Int := F[f]?.getD []
def comesF (F : List (List Int)) (a n : Nat) : List Int := (List.range' a n).flatMap fun f => (gF F f).map fun z => (f : Int) + z
def hF (F : List (List Int)) (a : Nat) : Option Int := (comesF F a (F.length - a)).foldl hst none
theorem hst_min : ∀ (l : List Int) (b : Int), ∃ c, l.foldl hst (some b) = some c ∧ c ≤ b ∧ (∀ x ∈ l, c ≤ x) ∧ (c = b ∨ c ∈ l)
  | [], b => ⟨b, rfl, by omega, fun x hx => (by cases hx), .inl rfl⟩
  | x :: l, b => by
    rw [List.foldl_cons]
    by_cases h : x < b
    · obtain ⟨c, e, h1, h2, h3⟩ := hst_min l x
      refine ⟨c, by rw [show hst (some b) x = some x from if_pos h]; exact e, by omega, fun y hy => ?_, ?_⟩
      · rcases List.mem_cons.mp hy with rfl | hy
        · exact h1
        · exact h2 y hy
      · rcases h3 with rfl | h3
        · exact .inr List.mem_cons_self
        · exact .inr (List.mem_cons_of_mem _ h3)
    · obtain ⟨c, e, h1, h2, h3⟩ := hst_min l b
      refine ⟨c, by rw [show hst (some b) x = some b from if_neg h]; exact e, h1, fun y hy => ?_, ?_⟩
      · rcases List.mem_cons.mp hy with rfl | hy
        · omega
        · exact h2 y hy
      · rcases h3 with rfl | h3
        · exact .inl rfl
        · exact .inr (List.mem_cons_of_mem _ h3)
theorem hst_none (l : List Int) : (l = [] ∧ l.foldl hst none = none) ∨ ∃ c, l.foldl hst none = some c ∧ c ∈ l ∧ ∀ x ∈ l, c ≤ x := by
  cases l with
  | nil => exact .inl ⟨rfl, rfl⟩
  | cons x l =>
    obtain ⟨c, e, h1, h2, h3⟩ := hst_min l x
    refine .inr ⟨c, e, ?_, fun y hy => ?_⟩
    · rcases h3 with rfl | h3
      · exact List.mem_cons_self
      · exact List.mem_cons_of_mem _ h3
    · rcases List.mem_cons.mp hy with rfl | hy
      · exact h1
      · exact h2 y hy
theorem mem_comes {F : List (List Int)} {a : Nat} {z : Int} : z ∈ comesF F a (F.length - a) ↔ ∃ f, a ≤ f ∧ f < F.length ∧ ∃ x ∈ gF F f, z = (f : Int) + x := by
  unfold comesF
  rw [List.mem_flatMap]
  constructor
  · rintro ⟨f, hf, h⟩
    obtain ⟨x, hx, rfl⟩ := List.mem_map.mp h
    have := List.mem_range'_1.mp hf
    exact ⟨f, this.1, by omega, x, hx, rfl⟩
  · rintro ⟨f, h1, h2, x, hx, rfl⟩
    exact ⟨f, List.mem_range'_1.mpr ⟨h1, by omega⟩, List.mem_map.mpr ⟨x, hx, rfl⟩⟩
theorem hF_eq {F : List (List Int)} {a f : Nat} {x z : Int} (h1 : a ≤ f) (h2 : f < F.length) (hx : x ∈ gF F f) (hz : z = (f : Int) + x) (hm : ∀ g, a ≤ g → g < F.length → ∀ y ∈ gF F g, z ≤ (g : Int) + y) : hF F a = some z := by
  unfold hF
  rcases hst_none (comesF F a (F.length - a)) with ⟨e, _⟩ | ⟨c, e, hc, hmin⟩
  · have := mem_comes.mpr ⟨f, h1, h2, x, hx, rfl⟩
    rw [e] at this
    cases this
  · rw [e]
    obtain ⟨g, g1, g2, y, hy, rfl⟩ := mem_comes.mp hc
    have h3 := hm g g1 g2 y hy
    have h4 := hmin z (mem_comes.mpr ⟨f, h1, h2, x, hx, hz⟩)
    congr 1
    omega
/-- in time: what is asked of a frame -/
def InT (F : List (List Int)) (lost most f : Nat) : Prop := (hF F f = none → ¬ f + lost < F.length) ∧ ∀ b, hF F f = some b → (f : Int) ≤ b ∧ b ≤ (f : Int) + most
theorem kst_run {l : Nat} : ∀ (L : List PyData) (a : Int), 0 ≤ a → (∃ n, L.foldl (kstep l) (some a) = some n) → (l : Int) < a + L.length → ∃ (g : Nat) (d : PyData), (L[g]? = some d ∧ emT d = false ∧ (g : Int) ≤ l - a) ∨ (l : Int) < a
  | [], a, h0, _, hl => ⟨0, .none, .inr (by simpa using hl)⟩
  | d :: L, a, h0, ⟨n, hn⟩, hl => by
    rw [List.foldl_cons] at hn
    by_cases hla : (l : Int) < a
    · exact ⟨0, .none, .inr hla⟩
    · cases e : emT d with
      | false => exact ⟨0, d, .inl ⟨rfl, e, by omega⟩⟩
      | true =>
        have e1 : kstep l (some a) d = if a + 1 > (l : Int) then none else some (a + 1) := by unfold kstep; simp only [e, if_true]
        by_cases h2 : a + 1 > (l : Int)
        · rw [e1, if_pos h2, kst_none] at hn
          cases hn
        · rw [e1, if_neg h2] at hn
          obtain ⟨g, d', h | h⟩ := kst_run L (a + 1) (by omega) ⟨n, hn⟩ (by rw [List.length_cons] at hl; omega)
          · exact ⟨g + 1, d', .inl ⟨by simpa using h.1, h.2.1, by omega⟩⟩
          · omega
theorem kst_pre {l : Nat} {L M : List PyData} {n : Int} (h : (L ++ M).foldl (kstep l) (some 0) = some n) : ∃ a, L.foldl (kstep l) (some 0) = some a ∧ M.foldl (kstep l) (some a) = some n := by
  rw [List.foldl_append] at h
  cases e : L.foldl (kstep l) (some 0) with
  | none => rw [e, kst_none] at h; cases h
  | some a => rw [e] at h; exact ⟨a, rfl, h⟩
theorem kst_nn {l : Nat} : ∀ (L : List PyData) (a n : Int), 0 ≤ a → a ≤ l → L.foldl (kstep l) (some a) = some n → 0 ≤ n ∧ n ≤ l
  | [], a, n, h0, h1, h => by cases h; exact ⟨h0, h1⟩
  | d :: L, a, n, h0, h1, h => by
    rw [List.foldl_cons] at h
    cases e : emT d with
    | false =>
      have e1 : kstep l (some a) d = some 0 := by unfold kstep; simp only [e, if_neg Bool.false_ne_true]
      rw [e1] at h
      exact kst_nn L 0 n (by omega) (by omega) h
    | true =>
      have e1 : kstep l (some a) d = if a + 1 > (l : Int) then none else some (a + 1) := by unfold kstep; simp only [e, if_true]
      by_cases h2 : a + 1 > (l : Int)
      · rw [e1, if_pos h2, kst_none] at h
        cases h
      · rw [e1, if_neg h2] at h
        exact kst_nn L (a + 1) n (by omega) (by omega) h
theorem GoodF.inT {late lost : Nat} {F : List (List Int)} (h : GoodF late lost F) : ∀ f, f < F.length → InT F lost (late + lost) f := fun f hf => by
  obtain ⟨_, n, hk⟩ := id h
  have nn := h.nonneg
  have gmem : ∀ g, g < F.length → gF F g ∈ F := fun g hg => by
    unfold gF
    rw [List.getElem?_eq_getElem hg]
    exact List.getElem_mem hg
  -- the first letter behind f that is not lost
  have first : f + lost < F.length → ∃ g, f ≤ g ∧ g ≤ f + lost ∧ g < F.length ∧ gF F g ≠ [] := fun hl => by
    rw [← List.take_append_drop f F, List.map_append] at hk
    obtain ⟨a, h1, h2⟩ := kst_pre hk
    obtain ⟨a0, a1⟩ := kst_nn _ 0 a (by omega) (by omega) h1
    obtain ⟨g, d, h3 | h3⟩ := kst_run _ a a0 ⟨n, h2⟩ (by rw [List.length_map, List.length_drop]; omega)
    · obtain ⟨h3, h4, h5⟩ := h3
      rw [List.getElem?_map, List.getElem?_drop] at h3
      cases e : F[f + g]? with
      | none => rw [e] at h3; cases h3
      | some w =>
        rw [e] at h3
        cases h3
        rw [em_fD] at h4
        refine ⟨f + g, by omega, by omega, (List.getElem?_eq_some_iff.mp e).1, ?_⟩
        unfold gF
        rw [e]
        intro z
        change w = [] at z
        rw [z] at h4
        cases h4
    · omega
  constructor
  · intro hn hl
    obtain ⟨g, g1, g2, g3, g4⟩ := first hl
    cases e : gF F g with
    | nil => exact g4 e
    | cons x r =>
      unfold hF at hn
      rcases hst_none (comesF F f (F.length - f)) with ⟨e2, _⟩ | ⟨c, e2, _⟩
      · have := mem_comes.mpr ⟨g, g1, g3, x, by rw [e]; exact List.mem_cons_self, rfl⟩
        rw [e2] at this
        cases this
      · rw [e2] at hn
        cases hn
  · intro b hb
    unfold hF at hb
    rcases hst_none (comesF F f (F.length - f)) with ⟨e2, e3⟩ | ⟨c, e2, hc, hmin⟩
    · rw [e3] at hb
      cases hb
    · rw [e2] at hb
      cases hb
      obtain ⟨g, g1, g2, y, hy, rfl⟩ := mem_comes.mp hc
      have := nn _ (gmem g g2) y hy
      refine ⟨by omega, ?_⟩
      by_cases hl : f + lost < F.length
      · obtain ⟨g', p1, p2, p3, p4⟩ := first hl
        cases e : gF F g' with
        | nil => exact absurd e p4
        | cons x r =>
          have hx : x ∈ gF F g' := by rw [e]; exact List.mem_cons_self
          have h6 := hmin _ (mem_comes.mpr ⟨g', p1, p3, x, hx, rfl⟩)
          have h7 := nn _ (gmem g' p3) x hx
          omega
      · omega

/-! ### the law's drawn fates -/
def sp__law_fates (K : PySem.W.Frag) : Sp := fun vs H Q _ => ∃ (p a : Addr) (fr late lost : Nat), vs = [.ref p, .int (fr : Int), .int (late : Int), .int (lost : Int)] ∧ DrawAt H p a ∧ fr < 1000 ∧ late < 1000 ∧ ∀ v (F : List (List Int)) H', Drew p a H H' → TD K H' v (fsD F) → F.length = fr → GoodF late lost F → Q v H'
theorem ok__law_fates {P : Program} {w : World} {K : PySem.W.Frag} {mg : Str → Option Value} {base : Heap} {C_Post : Addr} {f : Addr} {fd : FuncData} (F : Df K mg "_law_fates" s__law_fates f fd ["d", "frames", "late", "lost"]) (T : Txt K mg C_Post)
    (c__law_draw : Cl P w K mg base 1 "_law_draw" (sp__law_draw K)) : FnOk P w K mg base CX0 2 f fd ["d", "frames", "late", "lost"] (sp__law_fates K) := by
  refine F.ok sc__law_fates (fun vs H Q E h => ?_) (fun cdv A outer s H vs Q E hr h => ?_)
  · obtain ⟨p, a, fr, late, lost, rfl, _⟩ := h
    rfl
  · obtain ⟨p, a, fr, late, lost, rfl, d0, f1, l1, q⟩ := h
    refine ⟨_, (pss_cons (ps_set (i := 4) sc__law_fates.nd rfl (Or.inl rfl) (pe_lst pa_nil))
      (pss_cons (ps_set (i := 5) sc__law_fates.nd rfl (Or.inl rfl) pe_int)
      (pss_cons (ps_for PassesOwn.never rfl (pi_range1 rfl T.b_range (pa_cons (pv 1) pa_nil)) (pg_name (i := 6) sc__law_fates.nd rfl (Or.inl rfl)) (pss_one (ps_if (PW.pt (pw_and (pt_cmpR op_lt (pv 5) (pv 3) (nomark _)) (pw_and1 (pt_cmpR op_eq (pe_cl c__law_draw hr (by decide) rfl (pa_cons (pv 0) (pa_cons pe_int pa_nil))) pe_int (nomark _))))) (pss_cons (ps_aug (i := 5) sc__law_fates.nd rfl (Or.inl rfl) pe_int iop_add)
      (pss_one (ps_expr (pe_bmK (K := K) rfl PySem.F.plainAttrs_list PySem.F.slot_list_append PySem.F.type_list_append mt_append (pv 4) (pa_cons (pe_tup pa_nil) pa_nil))))) (pss_cons (ps_set (i := 5) sc__law_fates.nd rfl (Or.inl rfl) pe_int)
      (pss_cons (ps_set (i := 7) sc__law_fates.nd rfl (Or.inl rfl) (pe_cl c__law_draw hr (by decide) rfl (pa_cons (pv 0) (pa_cons (pe_op op_add (pv 2) pe_int) pa_nil))))
      (pss_one (ps_if (pt_cmpR op_eq (pe_cl c__law_draw hr (by decide) rfl (pa_cons (pv 0) (pa_cons pe_int pa_nil))) pe_int (nomark _)) (pss_one (ps_expr (pe_bmK (K := K) rfl PySem.F.plainAttrs_list PySem.F.slot_list_append PySem.F.type_list_append mt_append (pv 4) (pa_cons (pe_tup (pa_cons (pv 7) (pa_cons (pe_op op_add (pv 7) (pe_cl c__law_draw hr (by decide) rfl (pa_cons (pv 0) (pa_cons (pe_op op_sub (pe_op op_add (pv 2) pe_int) (pv 7)) pa_nil)))) pa_nil))) pa_nil)))) (pss_one (ps_expr (pe_bmK (K := K) rfl PySem.F.plainAttrs_list PySem.F.slot_list_append PySem.F.type_list_append mt_append (pv 4) (pa_cons (pe_tup (pa_cons (pv 7) pa_nil)) pa_nil)))))))))))
      (pss_one (ps_ret (pe_callTy (T := "tuple") (r := rTupOf K) c_tup (by rfl) T.b_tuple (by decide +kernel) (pa_cons (pv 4) pa_nil))))))), ?_⟩
    try dsimp only [cxOf, Cx.nox, Cx.wish]
    refine st_of (σ' := [some _, some _, some _, some _, none, none, none, none]) rfl ?_
    wtm_at "jw"
    intro BL hBL
    have nB := d0.ne_none hBL
    wtm_at "jw"
    refine f_range (fun i σ H' => Drew p a H H' ∧ ∃ (F : List (List Int)) (run : Int) (v6 v7 : Option V), LD K H' BL (F.map fD) ∧ F.length = i ∧ (∀ f ∈ F, f = [] ∨ (∃ x : Int, 0 ≤ x ∧ x ≤ late ∧ f = [x]) ∨ ∃ x y : Int, 0 ≤ x ∧ x ≤ y ∧ y ≤ late ∧ f = [x, y]) ∧ (F.map fD).foldl (kstep lost) (some 0) = some run ∧
        σ = [some (.ref p), some (.int (fr : Int)), some (.int (late : Int)), some (.int (lost : Int)), some (.ref BL), some (.int run), v6, v7])
      ⟨d0.drew.new hBL, [], 0, none, none, .new hBL .nil, rfl, fun f h => (by cases h), rfl, rfl⟩ (fun i σ H' hi h => ?_) (fun σ H' h => ?_)
    · obtain ⟨w1, F, run, v6, v7, hB1, hFl, hFb, hrun, rfl⟩ := h
      have hi' : i < fr := by simpa using hi
      wtm_at "jw1"
      refine i_ifS ?_
      refine i_andTJ (fun b H2 => Drew p a H' H2 ∧ (b = true → run < (lost : Int))) (fun b H2 h => ?_) (fun R hR => ?_)
      · obtain ⟨e2, hb⟩ := h
        have w2 := w1.trans e2
        have hB2 := hB1.drew w1.at_ e2 nB
        refine c_bool (fun e => ?_) (fun e => ?_)
        · have hlt := hb e
          obtain ⟨us, hus, tus⟩ := hB2
          have hul := tus.len
          rw [List.length_map] at hul
          wtm_at "jw"
          intro T hT
          have tT : TD K (upd H2 T (.tup [])) (.ref T) (fD []) := TD.new hT .nil
          have hus3 := same_new (o := .tup []) hT _ _ hus
          have tus3 := tus.same (same_new (o := .tup []) hT)
          have w3 := w2.new (o := .tup []) hT
          generalize upd H2 T (.tup []) = H3 at w3 tT hus3 tus3 ⊢
          have hsm : us.length < sizeLine := small1000 (by omega)
          wtm_at "jw"
          refine ⟨w3.put d0 hBL, F ++ [[]], run + 1, _, _, by rw [List.map_append]; exact LD.snoc hus3 tus3 tT, by simp [hFl], fun f hf => ?_, ?_, rfl⟩
          · rcases List.mem_append.mp hf with hf | hf
            · exact hFb f hf
            · exact .inl (List.mem_singleton.mp hf)
          · rw [List.map_append, List.foldl_append, hrun]
            show (if run + 1 > (lost : Int) then none else some (run + 1)) = some (run + 1)
            rw [if_neg (by omega)]
        · wtm_at "jw"
          refine drawL w2 (by omega) (by omega) fun x H3 x0 x1 e3 w3 => ?_
          have hB3 := hB2.drew w2.at_ e3 nB
          wtm_at "jw"
          refine drawL w3 (by decide) (by decide) fun z H4 _ _ e4 w4 => ?_
          have hB4 := hB3.drew w3.at_ e4 nB
          wtm_at "jw"
          refine c_dec (fun hz => ?_) (fun hz => ?_)
          · wtm_at "jw"
            refine drawL w4 (by omega) (by omega) fun y H5 y0 y1 e5 w5 => ?_
            obtain ⟨us, hus, tus⟩ := hB4.drew w4.at_ e5 nB
            have hul := tus.len
            rw [List.length_map] at hul
            wtm_at "jw"
            intro T hT
            have tT : TD K (upd H5 T (.tup [.int x, .int (x + y)])) (.ref T) (fD [x, x + y]) := TD.new hT (.cons (.int _) (.cons (.int _) .nil))
            have hus3 := same_new (o := .tup [.int x, .int (x + y)]) hT _ _ hus
            have tus3 := tus.same (same_new (o := .tup [.int x, .int (x + y)]) hT)
            have w6 := w5.new (o := .tup [.int x, .int (x + y)]) hT
            generalize upd H5 T (.tup [.int x, .int (x + y)]) = H6 at w6 tT hus3 tus3 ⊢
            have hsm : us.length < sizeLine := small1000 (by omega)
            wtm_at "jw"
            refine ⟨w6.put d0 hBL, F ++ [[x, x + y]], 0, _, _, by rw [List.map_append]; exact LD.snoc hus3 tus3 tT, by simp [hFl], fun f hf => ?_, ?_, rfl⟩
            · rcases List.mem_append.mp hf with hf | hf
              · exact hFb f hf
              · exact .inr (.inr ⟨x, x + y, x0, by omega, by omega, List.mem_singleton.mp hf⟩)
            · rw [List.map_append, List.foldl_append, hrun]
              rfl
          · obtain ⟨us, hus, tus⟩ := hB4
            have hul := tus.len
            rw [List.length_map] at hul
            wtm_at "jw"
            intro T hT
            have tT : TD K (upd H4 T (.tup [.int x])) (.ref T) (fD [x]) := TD.new hT (.cons (.int _) .nil)
            have hus3 := same_new (o := .tup [.int x]) hT _ _ hus
            have tus3 := tus.same (same_new (o := .tup [.int x]) hT)
            have w6 := w4.new (o := .tup [.int x]) hT
            generalize upd H4 T (.tup [.int x]) = H6 at w6 tT hus3 tus3 ⊢
            have hsm : us.length < sizeLine := small1000 (by omega)
            wtm_at "jw"
            refine ⟨w6.put d0 hBL, F ++ [[x]], 0, _, _, by rw [List.map_append]; exact LD.snoc hus3 tus3 tT, by simp [hFl], fun f hf => ?_, ?_, rfl⟩
            · rcases List.mem_append.mp hf with hf | hf
              · exact hFb f hf
              · exact .inr (.inl ⟨x, x0, by omega, List.mem_singleton.mp hf⟩)
            · rw [List.map_append, List.foldl_append, hrun]
              rfl
      · wtm_at "jw"
        refine c_dec (fun h => ?_) (fun h => ?_)
        · wtm_at "jw"
          refine drawL w1 (by decide) (by decide) fun z H3 _ _ e3 w3 => ?_
          wtm_at "jw"
          exact hR _ _ ⟨e3, fun _ => h⟩
        · wtm_at "jw"
          exact hR _ _ ⟨w1.at_.drew, fun h => by cases h⟩
    · obtain ⟨w1, F, run, v6, v7, ⟨us, hus, tus⟩, hFl, hFb, hrun, rfl⟩ := h
      wtm_at "jw"
      intro T hT
      exact q _ F _ (w1.new hT) (TD.new hT tus) (by simpa using hFl) ⟨hFb, run, hrun⟩

def RndP (fr late lost : Nat) (c : PyData) : Prop := ∃ F, c = fsD F ∧ F.length = fr ∧ GoodF late lost F
def sp__law_road (K : PySem.W.Frag) : Sp := fun vs H Q _ => ∃ (p a : Addr) (S R fr late lost : Nat), vs = [.ref p, .int (S : Int), .int (R : Int), .int (fr : Int), .int (late : Int), .int (lost : Int)] ∧ DrawAt H p a ∧ S < 1000 ∧ R < 1000 ∧ fr < 1000 ∧ late < 1000 ∧ ∀ v d H', Drew p a H H' → TD K H' v d → RoadP S R (RndP fr late lost) d → Q v H'
theorem ok__law_road {P : Program} {w : World} {K : PySem.W.Frag} {mg : Str → Option Value} {base : Heap} {C_Post : Addr} {f : Addr} {fd : FuncData} (F : Df K mg "_law_road" s__law_road f fd ["d", "seats", "receivers", "frames", "late", "lost"]) (T : Txt K mg C_Post)
    (c__law_fates : Cl P w K mg base 2 "_law_fates" (sp__law_fates K)) : FnOk P w K mg base CX0 3 f fd ["d", "seats", "receivers", "frames", "late", "lost"] (sp__law_road K) := by
  refine F.ok sc__law_road (fun vs H Q E h => ?_) (fun cdv A outer s H vs Q E hr h => ?_)
  · obtain ⟨p, a, S, R, fr, late, lost, rfl, _⟩ := h
    rfl
  · obtain ⟨p, a, S, R, fr, late, lost, rfl, d0, S1, R1, f1, l1, q⟩ := h
    refine ⟨_, (pss_cons (ps_set (i := 6) sc__law_road.nd rfl (Or.inl rfl) (pe_lst pa_nil))
      (pss_cons (ps_for PassesOwn.never rfl (pi_range1 rfl T.b_range (pa_cons (pv 1) pa_nil)) (pg_name (i := 7) sc__law_road.nd rfl (Or.inl rfl)) (pss_cons (ps_set (i := 8) sc__law_road.nd rfl (Or.inl rfl) (pe_lst pa_nil))
      (pss_cons (ps_for PassesOwn.never rfl (pi_range1 rfl T.b_range (pa_cons (pv 2) pa_nil)) (pg_name (i := 9) sc__law_road.nd rfl (Or.inl rfl)) (pss_one (ps_if (pt_cmpR op_eq (pv 9) (pv 7) (nomark _)) (pss_one (ps_expr (pe_bmK (K := K) rfl PySem.F.plainAttrs_list PySem.F.slot_list_append PySem.F.type_list_append mt_append (pv 8) (pa_cons (pe_tup pa_nil) pa_nil)))) (pss_one (ps_expr (pe_bmK (K := K) rfl PySem.F.plainAttrs_list PySem.F.slot_list_append PySem.F.type_list_append mt_append (pv 8) (pa_cons (pe_cl c__law_fates hr (by decide) rfl (pa_cons (pv 0) (pa_cons (pv 3) (pa_cons (pv 4) (pa_cons (pv 5) pa_nil))))) pa_nil)))))))
      (pss_one (ps_expr (pe_bmK (K := K) rfl PySem.F.plainAttrs_list PySem.F.slot_list_append PySem.F.type_list_append mt_append (pv 6) (pa_cons (pe_callTy (T := "tuple") (r := rTupOf K) c_tup (by rfl) T.b_tuple (by decide +kernel) (pa_cons (pv 8) pa_nil)) pa_nil)))))))
      (pss_one (ps_ret (pe_callTy (T := "tuple") (r := rTupOf K) c_tup (by rfl) T.b_tuple (by decide +kernel) (pa_cons (pv 6) pa_nil)))))), ?_⟩
    try dsimp only [cxOf, Cx.nox, Cx.wish]
    refine st_of (σ' := [some _, some _, some _, some _, some _, some _, none, none, none, none]) rfl ?_
    wtm_at "jw"
    intro BL hBL
    have nB := d0.ne_none hBL
    wtm_at "jw"
    refine f_range (fun i σ H' => Drew p a H H' ∧ ∃ (ds : List PyData) (v7 v8 v9 : Option V), LD K H' BL ds ∧ ds.length = i ∧ AllI (RowP R (RndP fr late lost)) ds ∧
        σ = [some (.ref p), some (.int (S : Int)), some (.int (R : Int)), some (.int (fr : Int)), some (.int (late : Int)), some (.int (lost : Int)), some (.ref BL), v7, v8, v9])
      ⟨d0.drew.new hBL, [], none, none, none, .new hBL .nil, rfl, .nil, rfl⟩ (fun i σ H' hi h => ?_) (fun σ H' h => ?_)
    · obtain ⟨w1, ds, v7, v8, v9, hB1, hdl, hds, rfl⟩ := h
      rw [Int.zero_add]
      have hi' : i < S := by simpa using hi
      wtm_at "jw"
      intro CL hCL
      have CLH := w1.free hCL
      have nC := d0.ne_none CLH
      have nCB : BL ≠ CL := by
        obtain ⟨us, hus, _⟩ := hB1
        exact ne_of_none hus hCL
      wtm_at "jw"
      refine f_range (fun j σ H' => Drew p a H H' ∧ LD K H' BL ds ∧ ∃ (cs : List PyData) (v9 : Option V), LD K H' CL cs ∧ cs.length = j ∧ AllI (CellP (RndP fr late lost) i) cs ∧
          σ = [some (.ref p), some (.int (S : Int)), some (.int (R : Int)), some (.int (fr : Int)), some (.int (late : Int)), some (.int (lost : Int)), some (.ref BL), some (.int (i : Int)), some (.ref CL), v9])
        ⟨w1.new hCL, hB1.same (same_new hCL), [], v9, .new hCL .nil, rfl, .nil, rfl⟩ (fun j σ H' hj h => ?_) (fun σ H' h => ?_)
      · obtain ⟨w2, hB2, cs, v9, hC2, hcl, hcs, rfl⟩ := h
        rw [Int.zero_add]
        have hj' : j < R := by simpa using hj
        wtm_at "jw"
        refine c_dec (fun h => ?_) (fun h => ?_)
        · obtain ⟨us, hus, tus⟩ := hC2
          have hul := tus.len
          wtm_at "jw"
          intro T hT
          have tT : TD K (upd H' T (.tup [])) (.ref T) (.tuple []) := TD.new hT .nil
          have s3 := same_new (o := .tup []) hT
          have hus3 := s3 _ _ hus
          have tus3 := tus.same s3
          have w3 := w2.same s3
          have hB3 := hB2.same s3
          generalize upd H' T (.tup []) = H3 at w3 tT hus3 tus3 hB3 ⊢
          have hsm : us.length < sizeLine := small1000 (by omega)
          wtm_at "jw"
          exact ⟨w3.put d0 CLH, hB3.kp Kp.upd hus3 nCB, cs ++ [.tuple []], _, LD.snoc hus3 tus3 tT, by simp [hcl], hcs.snoc ⟨fun _ => rfl, fun n => absurd (show cs.length = i by omega) n⟩, rfl⟩
        · wtm_at "jw"
          refine ⟨p, a, fr, late, lost, rfl, w2.at_, f1, l1, fun v F H3 e3 tv fl gf => ?_⟩
          have hB3 := hB2.drew w2.at_ e3 nB
          obtain ⟨us, hus, tus⟩ := hC2.drew w2.at_ e3 nC
          have hul := tus.len
          have hsm : us.length < sizeLine := small1000 (by omega)
          wtm_at "jw"
          exact ⟨(w2.trans e3).put d0 CLH, hB3.kp Kp.upd hus nCB, cs ++ [fsD F], _, LD.snoc hus tus tv, by simp [hcl], hcs.snoc ⟨fun e => absurd (show (j : Int) = i by omega) h, fun _ => ⟨F, rfl, fl, gf⟩⟩, rfl⟩
      · obtain ⟨w2, ⟨us, hus, tus⟩, cs, v9, ⟨us2, hus2, tus2⟩, hcl, hcs, rfl⟩ := h
        have hul := tus.len
        wtm_at "jw"
        intro T hT
        have tT : TD K (upd H' T (.tup us2)) (.ref T) (.tuple cs) := TD.new hT tus2
        have s3 := same_new (o := .tup us2) hT
        have hus3 := s3 _ _ hus
        have tus3 := tus.same s3
        have w3 := w2.same s3
        generalize upd H' T (.tup us2) = H3 at w3 tT hus3 tus3 ⊢
        have hsm : us.length < sizeLine := small1000 (by omega)
        wtm_at "jw"
        refine ⟨w3.put d0 hBL, ds ++ [.tuple cs], _, _, _, LD.snoc hus3 tus3 tT, by simp [hdl], hds.snoc ⟨cs, rfl, by simpa using hcl, by rw [hdl]; exact hcs⟩, rfl⟩
    · obtain ⟨w1, ds, v7, v8, v9, ⟨us, hus, tus⟩, hdl, hds, rfl⟩ := h
      wtm_at "jw"
      intro T hT
      exact q _ _ _ (w1.new hT) (TD.new hT tus) ⟨ds, rfl, by simpa using hdl, hds⟩

/-! ### what is sent, what arrives, plainly (for k29) -/
def decI : PyData → Int
  | .int z => z
  | _ => 0
def decf : PyData → List Int
  | .tuple l => l.map decI
  | _ => []
def decF : PyData → List (List Int)
  | .tuple l => l.map decf
  | _ => []
theorem dec_ints (f : List Int) : (f.map PyData.int).map decI = f := by
  rw [List.map_map]
  exact (List.map_congr_left fun _ _ => rfl).trans (List.map_id' f)
theorem dec_fsD (F : List (List Int)) : decF (fsD F) = F := by
  show (F.map fD).map decf = F
  rw [List.map_map]
  exact (List.map_congr_left fun f _ => dec_ints f).trans (List.map_id' F)
abbrev RG := Nat → Nat → List (List Int)
/-- the road's data by its fates -/
def RoadG (S R : Nat) (G : RG) (rows : List PyData) : Prop := rows.length = S ∧ ∀ s, s < S → ∃ cells, rows[s]? = some (.tuple cells) ∧ cells.length = R ∧ ∀ r, r < R → cells[r]? = some (fsD (G s r))
def GoodG (S R fr late lost : Nat) (G : RG) : Prop := ∀ s r, s < S → r < R → r ≠ s → (G s r).length = fr ∧ GoodF late lost (G s r)
theorem road_G {S R fr late lost : Nat} {d : PyData} (h : RoadP S R (RndP fr late lost) d) : ∃ G rows, d = .tuple rows ∧ RoadG S R G rows ∧ GoodG S R fr late lost G ∧ ∀ s, s < S → s < R → G s s = [] := by
  obtain ⟨rows, rfl, hl, hr⟩ := h
  refine ⟨fun s r => match gD rows s with
    | .tuple cells => decF (gD cells r)
    | _ => [], rows, rfl, ⟨hl, fun s hs => ?_⟩, fun s r hs hr' ne => ?_, fun s hs hs' => ?_⟩
  · obtain ⟨cells, e, lc, hc⟩ := hr s _ (gD_at (by omega))
    refine ⟨cells, by rw [gD_at (by omega), e], lc, fun r hr' => ?_⟩
    simp only [e]
    obtain ⟨h1, h2⟩ := hc r _ (gD_at (by omega))
    rw [gD_at (by omega)]
    by_cases ne : r = s
    · rw [h1 ne]; rfl
    · obtain ⟨F, e2, _⟩ := h2 ne
      rw [e2, dec_fsD]
  · obtain ⟨cells, e, lc, hc⟩ := hr s _ (gD_at (by omega))
    simp only [e]
    obtain ⟨F, e2, h3, h4⟩ := (hc r _ (gD_at (by omega))).2 ne
    rw [e2, dec_fsD]
    exact ⟨h3, h4⟩
  · obtain ⟨cells, e, lc, hc⟩ := hr s _ (gD_at (by omega))
    simp only [e]
    rw [(hc s _ (gD_at (by omega))).1 rfl]
    rfl
def dlG (G : RG) (s r f : Nat) : List Int := (G s r)[f]?.getD [0]
theorem dlG_fate {S R : Nat} {G : RG} {rows : List PyData} (h : RoadG S R G rows) {s r f : Nat} (hs : s < S) (hr : r < R) : ∃ cells, rows[s]? = some (.tuple cells) ∧ cells[r]? = some (.tuple ((G s r).map fD)) ∧ fateD ((G s r).map fD) f = .tuple ((dlG G s r f).map PyData.int) := by
  obtain ⟨cells, h1, _, h2⟩ := h.2 s hs
  refine ⟨cells, h1, h2 r hr, ?_⟩
  unfold fateD dlG
  rw [List.getElem?_map]
  cases (G s r)[f]? <;> rfl
theorem dlG_ok {S R fr late lost : Nat} {G : RG} (h : GoodG S R fr late lost G) {s r f : Nat} (hs : s < S) (hr : r < R) (ne : r ≠ s) : (∀ d ∈ dlG G s r f, 0 ≤ d ∧ d ≤ (late : Int)) ∧ (dlG G s r f).length ≤ 2 := by
  obtain ⟨_, hg⟩ := h s r hs hr ne
  unfold dlG
  cases e : (G s r)[f]? with
  | none => exact ⟨fun d hd => by rw [List.mem_singleton.mp hd]; omega, by decide⟩
  | some x =>
    have hm := List.mem_of_getElem? e
    refine ⟨hg.nonneg x hm, ?_⟩
    rcases hg.1 x hm with h | ⟨a, _, _, h⟩ | ⟨a, b, _, _, _, h⟩ <;> rw [h] <;> simp
abbrev K3 := Nat × Nat × Nat
abbrev Sent := List (K3 × PyData)
def bagOf (G : RG) (S : Sent) (k : Int × Int) : List Ent := S.flatMap fun e => addD (dlG G e.1.1 e.1.2.1 e.1.2.2) e.1.2.1 e.1.2.2 ((e.1.1 : Int), (e.1.2.2 : Int), e.2) k
theorem bagOf_snoc (G : RG) (S : Sent) (e : K3 × PyData) (k : Int × Int) : bagOf G (S ++ [e]) k = bagOf G S k ++ addD (dlG G e.1.1 e.1.2.1 e.1.2.2) e.1.2.1 e.1.2.2 ((e.1.1 : Int), (e.1.2.2 : Int), e.2) k := by
  unfold bagOf
  rw [List.flatMap_append]
  simp
def lkS : Sent → K3 → Option PyData
  | [], _ => none
  | e :: r, k => if e.1 = k then some e.2 else lkS r k
theorem lkS_none {k : K3} : ∀ {S : Sent}, lkS S k = none ↔ k ∉ S.map (·.1)
  | [] => by simp [lkS]
  | e :: r => by
    rw [lkS, List.map_cons, List.mem_cons]
    by_cases h : e.1 = k
    · rw [if_pos h]; simp [h]
    · rw [if_neg h, lkS_none]
      constructor
      · intro h1 h2
        rcases h2 with h2 | h2
        · exact h h2.symm
        · exact h1 h2
      · intro h1 h2
        exact h1 (.inr h2)
theorem lkS_snoc {k : K3} {e : K3 × PyData} : ∀ {S : Sent}, lkS S e.1 = none → lkS (S ++ [e]) k = if k = e.1 then some e.2 else lkS S k
  | [], _ => by
    show (if e.1 = k then some e.2 else none) = _
    by_cases h : k = e.1
    · rw [if_pos h, if_pos h.symm]
    · rw [if_neg h, if_neg (fun z => h z.symm)]; rfl
  | c :: r, h => by
    rw [lkS] at h
    by_cases hc : c.1 = e.1
    · rw [if_pos hc] at h; cases h
    · rw [if_neg hc] at h
      rw [List.cons_append, lkS, lkS_snoc h, lkS]
      by_cases hk : k = e.1
      · rw [if_pos hk, if_pos hk, if_neg (fun z => hc (z.trans hk))]
      · rw [if_neg hk, if_neg hk]
def blkE (G : RG) (S : Sent) (r f s st : Nat) : List Ent := match lkS S (s, r, st) with
  | some L => ((dlG G s r st).filter fun d => decide ((st : Int) + d = f)).map fun _ => ((s : Int), (st : Int), L)
  | none => []
def arrE (G : RG) (S : Sent) (n r f : Nat) : List Ent := (List.range n).flatMap fun s => (List.range (f + 1)).flatMap fun st => blkE G S r f s st
def arrL (G : RG) (S : Sent) (n r f : Nat) : List PyData := (arrE G S n r f).map (·.2.2)
/-- one place of a walk gets a block -/
theorem flat_one {α β : Type} [DecidableEq α] {h h' : α → List β} {a : α} : ∀ {l : List α}, l.Nodup → a ∈ l → (∀ x ∈ l, x ≠ a → h' x = h x) → ∀ {B : List β}, (h' a).Perm (h a ++ B) → (l.flatMap h').Perm (l.flatMap h ++ B)
  | x :: l, nd, ha, he, B, hB => by
    rw [List.nodup_cons] at nd
    rw [List.flatMap_cons, List.flatMap_cons]
    by_cases hx : x = a
    · subst hx
      have e : l.flatMap h' = l.flatMap h := by
        have : ∀ y ∈ l, h' y = h y := fun y hy => he y (List.mem_cons_of_mem _ hy) fun z => nd.1 (z ▸ hy)
        clear he ha nd hB
        induction l with
        | nil => rfl
        | cons y l ih => rw [List.flatMap_cons, List.flatMap_cons, this y List.mem_cons_self, ih fun z hz => this z (List.mem_cons_of_mem _ hz)]
      rw [e]
      refine (hB.append_right _).trans ?_
      rw [List.append_assoc, List.append_assoc]
      exact List.perm_append_comm.append_left _
    · rw [he x List.mem_cons_self hx]
      have ha' : a ∈ l := by
        rcases List.mem_cons.mp ha with h | h
        · exact absurd h.symm hx
        · exact h
      have := flat_one nd.2 ha' (fun y hy => he y (List.mem_cons_of_mem _ hy)) hB
      rw [List.append_assoc]
      exact this.append_left _
theorem flat_none {α β : Type} {h h' : α → List β} : ∀ {l : List α}, (∀ x ∈ l, h' x = h x) → l.flatMap h' = l.flatMap h
  | [], _ => rfl
  | x :: l, he => by rw [List.flatMap_cons, List.flatMap_cons, he x List.mem_cons_self, flat_none fun y hy => he y (List.mem_cons_of_mem _ hy)]
theorem snoc_ind {α : Type} {P : List α → Prop} (h0 : P []) (h1 : ∀ l x, P l → P (l ++ [x])) (l : List α) : P l := by
  have : ∀ m : List α, P m.reverse := fun m => by
    induction m with
    | nil => exact h0
    | cons x r ih => rw [List.reverse_cons]; exact h1 _ _ ih
  have := this l.reverse
  rwa [List.reverse_reverse] at this
theorem arr_perm {G : RG} {n r f : Nat} : ∀ (S : Sent), (S.map (·.1)).Nodup → (∀ e ∈ S, e.1.1 < n ∧ ∀ d ∈ dlG G e.1.1 e.1.2.1 e.1.2.2, 0 ≤ d) → (arrE G S n r f).Perm (bagOf G S ((r : Int), (f : Int))) := fun S => by
  refine snoc_ind (P := fun S => (S.map (·.1)).Nodup → (∀ e ∈ S, e.1.1 < n ∧ ∀ d ∈ dlG G e.1.1 e.1.2.1 e.1.2.2, 0 ≤ d) → (arrE G S n r f).Perm (bagOf G S ((r : Int), (f : Int)))) ?_ ?_ S
  · intro _ _
    have : arrE G [] n r f = [] := by
      unfold arrE blkE
      simp [lkS]
    rw [this]
    exact List.Perm.refl _
  · intro S e ih nd hb
    rw [List.map_append, List.nodup_append] at nd
    have hn : lkS S e.1 = none := lkS_none.mpr fun hm => nd.2.2 _ hm e.1 (by simp) rfl
    have ih' := ih nd.1 fun c hc => hb c (List.mem_append_left _ hc)
    obtain ⟨hs, hd⟩ := hb e (by simp)
    rw [bagOf_snoc]
    refine List.Perm.trans ?_ (ih'.append_right _)
    obtain ⟨⟨s0, r0, t0⟩, L⟩ := e
    simp only at hs hd hn ⊢
    have hlk : ∀ k, lkS (S ++ [((s0, r0, t0), L)]) k = if k = (s0, r0, t0) then some L else lkS S k := fun k => lkS_snoc (e := ((s0, r0, t0), L)) hn
    by_cases hr : r0 = r
    · subst hr
      by_cases ht : t0 < f + 1
      · unfold arrE
        refine flat_one (a := s0) List.nodup_range (List.mem_range.mpr hs) (fun s _ ne => ?_) ?_
        · refine flat_none fun st _ => ?_
          unfold blkE
          rw [hlk, if_neg (fun z => ne (Prod.ext_iff.mp z).1)]
        · refine flat_one (a := t0) List.nodup_range (List.mem_range.mpr ht) (fun st _ ne => ?_) ?_
          · unfold blkE
            rw [hlk, if_neg (fun z => ne (Prod.ext_iff.mp (Prod.ext_iff.mp z).2).2)]
          · have e1 : blkE G S r0 f s0 t0 = [] := by unfold blkE; rw [hn]
            have e2 : blkE G (S ++ [((s0, r0, t0), L)]) r0 f s0 t0 = addD (dlG G s0 r0 t0) r0 t0 ((s0 : Int), (t0 : Int), L) ((r0 : Int), (f : Int)) := by
              unfold blkE addD
              rw [hlk, if_pos rfl]
              simp only
              congr 1
              refine List.filter_congr fun d _ => ?_
              rw [decide_eq_decide, Prod.mk.injEq]
              exact ⟨fun h => ⟨rfl, h⟩, fun h => h.2⟩
            rw [e1, e2]
            exact List.Perm.refl _
      · have e1 : addD (dlG G s0 r0 t0) r0 t0 ((s0 : Int), (t0 : Int), L) ((r0 : Int), (f : Int)) = [] := by
          unfold addD
          rw [List.filter_eq_nil_iff.mpr, List.map_nil]
          intro d hd' hq
          have h1 := of_decide_eq_true hq
          have h2 := (Prod.ext_iff.mp h1).2
          have h3 := hd d hd'
          simp only at h2
          omega
        rw [e1, List.append_nil]
        refine List.Perm.of_eq (flat_none fun s _ => flat_none fun st hst => ?_)
        unfold blkE
        rw [hlk, if_neg (fun z => ?_)]
        have h1 := (Prod.ext_iff.mp (Prod.ext_iff.mp z).2).2
        have h2 := List.mem_range.mp hst
        simp only at h1
        omega
    · have e1 : addD (dlG G s0 r0 t0) r0 t0 ((s0 : Int), (t0 : Int), L) ((r : Int), (f : Int)) = [] := by
        unfold addD
        rw [List.filter_eq_nil_iff.mpr, List.map_nil]
        intro d _ hq
        have h1 := of_decide_eq_true hq
        have h2 := (Prod.ext_iff.mp h1).1
        simp only at h2
        omega
      rw [e1, List.append_nil]
      refine List.Perm.of_eq (flat_none fun s _ => flat_none fun st hst => ?_)
      unfold blkE
      rw [hlk, if_neg (fun z => ?_)]
      have h1 := (Prod.ext_iff.mp (Prod.ext_iff.mp z).2).1
      exact hr h1.symm
theorem blk_mem {G : RG} {S : Sent} {r f s st : Nat} {x : Ent} (h : x ∈ blkE G S r f s st) : x.1 = (s : Int) ∧ x.2.1 = (st : Int) ∧ lkS S (s, r, st) = some x.2.2 := by
  unfold blkE at h
  cases e : lkS S (s, r, st) with
  | none => rw [e] at h; cases h
  | some L =>
    rw [e] at h
    obtain ⟨d, _, rfl⟩ := List.mem_map.mp h
    exact ⟨rfl, rfl, rfl⟩
theorem arr_sorted (G : RG) (S : Sent) (n r f : Nat) : (arrE G S n r f).Pairwise leE := by
  unfold arrE
  rw [List.pairwise_flatMap]
  refine ⟨fun s _ => ?_, (List.pairwise_lt_range).imp fun h x hx y hy => ?_⟩
  · rw [List.pairwise_flatMap]
    refine ⟨fun st _ => ?_, (List.pairwise_lt_range).imp fun h x hx y hy => ?_⟩
    · refine List.pairwise_of_forall_mem_list fun x hx y hy => ?_
      obtain ⟨h1, h2, _⟩ := blk_mem hx
      obtain ⟨h3, h4, _⟩ := blk_mem hy
      unfold leE
      omega
    · obtain ⟨h1, h2, _⟩ := blk_mem hx
      obtain ⟨h3, h4, _⟩ := blk_mem hy
      unfold leE
      omega
  · obtain ⟨_, _, hx⟩ := List.mem_flatMap.mp hx
    obtain ⟨_, _, hy⟩ := List.mem_flatMap.mp hy
    obtain ⟨h1, h2, _⟩ := blk_mem hx
    obtain ⟨h3, h4, _⟩ := blk_mem hy
    unfold leE
    omega
theorem arr_told {G : RG} {S : Sent} {n r f : Nat} {ss : List Ent} (nd : (S.map (·.1)).Nodup) (hb : ∀ e ∈ S, e.1.1 < n ∧ ∀ d ∈ dlG G e.1.1 e.1.2.1 e.1.2.2, 0 ≤ d) (pm : ss.Perm (bagOf G S ((r : Int), (f : Int)))) (srt : ss.Pairwise leE) : ss.map (·.2.2) = arrL G S n r f := by
  have pm2 := pm.trans (arr_perm S nd hb).symm
  have : ss = arrE G S n r f := by
    refine List.Perm.eq_of_pairwise (le := leE) (fun a b ha hb' h1 h2 => ?_) srt (arr_sorted G S n r f) pm2
    have ha2 := pm2.mem_iff.mp ha
    unfold arrE at ha2 hb'
    obtain ⟨s, _, ha3⟩ := List.mem_flatMap.mp ha2
    obtain ⟨st, _, ha4⟩ := List.mem_flatMap.mp ha3
    obtain ⟨s', _, hb3⟩ := List.mem_flatMap.mp hb'
    obtain ⟨st', _, hb4⟩ := List.mem_flatMap.mp hb3
    obtain ⟨a1, a2, a3⟩ := blk_mem ha4
    obtain ⟨b1, b2, b3⟩ := blk_mem hb4
    unfold leE at h1 h2
    have e1 : s = s' := by omega
    have e2 : st = st' := by omega
    subst e1 e2
    rw [a3] at b3
    exact Prod.ext (by omega) (Prod.ext (by omega) (Option.some.inj b3))
  rw [this]
  rfl

/-! ### the law's dict of what was sent -/
def key3 (k : K3) : List L2.Key := [.inl (k.1 : Int), .inl (k.2.1 : Int), .inl (k.2.2 : Int)]
def kv3 (e : K3 × V) : List L2.Key × V := (key3 e.1, e.2)
theorem key3_eq {j k : K3} : key3 j = key3 k ↔ j = k := by
  unfold key3
  constructor
  · intro h
    injection h with h1 h2
    injection h2 with h3 h4
    injection h4 with h5
    have e1 := Sum.inl.inj h1
    have e2 := Sum.inl.inj h3
    have e3 := Sum.inl.inj h5
    exact Prod.ext (by omega) (Prod.ext (by omega) (by omega))
  · intro h
    rw [h]
def SR (K : PySem.W.Frag) (H : Hp) : List (K3 × V) → Sent → Prop
  | [], [] => True
  | a :: l, b :: m => a.1 = b.1 ∧ TD K H a.2 b.2 ∧ SR K H l m
  | _, _ => False
section
variable {K : PySem.W.Frag} {H H' : Hp}
theorem SR.tps (t : Tps H H') : ∀ {l : List (K3 × V)} {m : Sent}, SR K H l m → SR K H' l m
  | [], [], _ => trivial
  | a :: l, b :: m, h => ⟨h.1, h.2.1.tps t, SR.tps t h.2.2⟩
  | [], _ :: _, h => h.elim
  | _ :: _, [], h => h.elim
theorem SR.snoc {e : K3 × V} {c : K3 × PyData} (h1 : e.1 = c.1) (h2 : TD K H e.2 c.2) : ∀ {l : List (K3 × V)} {m : Sent}, SR K H l m → SR K H (l ++ [e]) (m ++ [c])
  | [], [], _ => ⟨h1, h2, trivial⟩
  | a :: l, b :: m, h => ⟨h.1, h.2.1, SR.snoc h1 h2 h.2.2⟩
  | [], _ :: _, h => h.elim
  | _ :: _, [], h => h.elim
theorem SR.len : ∀ {l : List (K3 × V)} {m : Sent}, SR K H l m → l.length = m.length
  | [], [], _ => rfl
  | a :: l, b :: m, h => by rw [List.length_cons, List.length_cons, SR.len h.2.2]
  | [], _ :: _, h => h.elim
  | _ :: _, [], h => h.elim
theorem SR.look (k : K3) : ∀ {l : List (K3 × V)} {m : Sent}, SR K H l m → (lkS m k = none ∧ valV (l.map kv3) (key3 k) = none) ∨ ∃ v d, lkS m k = some d ∧ valV (l.map kv3) (key3 k) = some v ∧ TD K H v d
  | [], [], _ => .inl ⟨rfl, rfl⟩
  | a :: l, b :: m, h => by
    rw [List.map_cons, lkS]
    by_cases hk : b.1 = k
    · rw [if_pos hk, valV_pos (show (kv3 a).1 = key3 k from key3_eq.mpr (h.1.trans hk))]
      exact .inr ⟨_, _, rfl, rfl, h.2.1⟩
    · rw [if_neg hk, valV_neg (show ¬ (kv3 a).1 = key3 k from fun z => hk (h.1.symm.trans (key3_eq.mp z)))]
      exact SR.look k h.2.2
  | [], _ :: _, h => h.elim
  | _ :: _, [], h => h.elim
/-- the dict at X has S -/
def SentAt (K : PySem.W.Frag) (H : Hp) (X : Addr) (S : Sent) : Prop := ∃ vl, H X = some (.dT (vl.map kv3)) ∧ SR K H vl S
theorem SentAt.same {X : Addr} {S : Sent} (h : SentAt K H X S) (s : Same H H') : SentAt K H' X S := by
  obtain ⟨vl, h1, h2⟩ := h
  exact ⟨vl, s _ _ h1, h2.tps (Tps.of s)⟩
theorem SentAt.look {X b : Addr} {S : Sent} {k : K3} (h : SentAt K H X S) (hb : H b = some (.tup ((key3 k).map kV))) : ∃ o, DGet H X (.ref b) o ∧ ((lkS S k = none ∧ o = none) ∨ ∃ v d, lkS S k = some d ∧ o = some v ∧ TD K H v d) := by
  obtain ⟨vl, h1, h2⟩ := h
  refine ⟨_, DGet.t h1 hb, ?_⟩
  rcases h2.look k with ⟨a, c⟩ | ⟨v, d, a, c, e⟩
  · exact .inl ⟨a, c⟩
  · exact .inr ⟨v, d, a, c, e⟩
theorem SentAt.put {X b : Addr} {S : Sent} {k : K3} {v : V} {d : PyData} (h : SentAt K H X S) (hb : H b = some (.tup ((key3 k).map kV))) (hn : lkS S k = none) (hl : S.length ≤ 9000) (tv : TD K H v d) : ∃ H1, DPut H X (.ref b) v H1 ∧ SentAt K H1 X (S ++ [(k, d)]) ∧ Tps H H1 ∧ ∀ c o, H c = some o → c ≠ X → H1 c = some o := by
  obtain ⟨vl, h1, h2⟩ := h
  have hvl := h2.len
  have e : putK (vl.map kv3) (key3 k) v = (vl ++ [(k, v)]).map kv3 := by
    unfold putK
    rw [valV_any]
    rcases h2.look k with ⟨_, c⟩ | ⟨v', d', a, _, _⟩
    · rw [c, List.map_append]; rfl
    · rw [hn] at a; cases a
  have tp : Tps H (upd H X (.dT (putK (vl.map kv3) (key3 k) v))) := fun c => ⟨fun xs he => by rw [upd_ne (ne_of he h1 (by intro z; cases z))]; exact he, fun o xs he => by rw [upd_ne (ne_of he h1 (by intro z; cases z))]; exact he⟩
  refine ⟨_, DPut.t h1 hb (by rw [List.length_map, sizeLine_eq]; omega), ⟨vl ++ [(k, v)], by rw [upd_same, e], (SR.snoc (e := (k, v)) (c := (k, d)) rfl tv h2).tps tp⟩, tp, fun c o hc hn => by rw [upd_ne hn]; exact hc⟩
end

/-! ### windows and runs (for k27) -/
def winB (lost : Nat) (ds : List PyData) : Bool := (List.range (ds.length - lost)).all fun f => ((ds.drop f).take (lost + 1)).any fun d => !emT d
theorem win_ok {lost : Nat} {ds : List PyData} (h : winB lost ds = true) : ∀ i, i ≤ ds.length → ∃ r : Nat, (ds.take i).foldl (kstep lost) (some 0) = some (r : Int) ∧ r ≤ lost ∧ r ≤ i ∧ ∀ j, i ≤ j + r → j < i → ∃ d, ds[j]? = some d ∧ emT d = true
  | 0, _ => ⟨0, rfl, by omega, by omega, fun j _ h => by omega⟩
  | i + 1, hi => by
    obtain ⟨r, h1, h2, h3, h4⟩ := win_ok h i (by omega)
    have hd : ds[i]? = some (ds[i]'(by omega)) := List.getElem?_eq_getElem (by omega)
    generalize ds[i]'(by omega) = d at hd
    have e1 : (ds.take (i + 1)).foldl (kstep lost) (some 0) = kstep lost (some (r : Int)) d := by
      rw [List.take_add_one, hd, List.foldl_append, h1]
      rfl
    rw [e1, kstep_s]
    cases e : emT d with
    | false => exact ⟨0, by simp, by omega, by omega, fun j _ h => by omega⟩
    | true =>
      rw [if_pos rfl]
      by_cases hr : (r : Int) + 1 > (lost : Int)
      · exfalso
        have hrl : r = lost := by omega
        subst hrl
        unfold winB at h
        rw [List.all_eq_true] at h
        have hw := h (i - r) (List.mem_range.mpr (by omega))
        rw [List.any_eq_true] at hw
        obtain ⟨x, hx, hne⟩ := hw
        obtain ⟨g, hg⟩ := List.getElem?_of_mem hx
        have hgl := (List.getElem?_eq_some_iff.mp hg).1
        rw [List.length_take] at hgl
        rw [List.getElem?_take, if_pos (by omega), List.getElem?_drop] at hg
        by_cases hgi : i - r + g = i
        · rw [hgi, hd] at hg
          cases hg
          rw [e] at hne
          cases hne
        · obtain ⟨d', hd', e'⟩ := h4 (i - r + g) (by omega) (by omega)
          rw [hd'] at hg
          cases hg
          rw [e'] at hne
          cases hne
      · rw [if_neg hr]
        refine ⟨r + 1, rfl, by omega, by omega, fun j hj hji => ?_⟩
        by_cases e2 : j = i
        · subst e2
          exact ⟨d, hd, e⟩
        · exact h4 j (by omega) (by omega)
theorem win_keep (lost : Nat) (ds : List PyData) : keepB lost ds = winB lost ds := by
  cases hw : winB lost ds with
  | true =>
    obtain ⟨r, h1, _⟩ := win_ok hw ds.length (Nat.le_refl _)
    rw [List.take_length] at h1
    unfold keepB
    rw [h1]
    rfl
  | false =>
    cases hk : keepB lost ds with
    | false => rfl
    | true =>
      exfalso
      unfold keepB at hk
      obtain ⟨n, hn⟩ := Option.isSome_iff_exists.mp hk
      have : winB lost ds = true := by
        unfold winB
        rw [List.all_eq_true]
        intro f hf
        have hf' := List.mem_range.mp hf
        have hn' := hn
        rw [← List.take_append_drop f ds] at hn'
        obtain ⟨a, h1, h2⟩ := kst_pre hn'
        obtain ⟨a0, a1⟩ := kst_nn _ 0 a (by omega) (by omega) h1
        obtain ⟨g, d, h3 | h3⟩ := kst_run _ a a0 ⟨n, h2⟩ (by rw [List.length_drop]; omega)
        · obtain ⟨h3, h4, h5⟩ := h3
          rw [List.any_eq_true]
          refine ⟨d, ?_, by rw [h4]; rfl⟩
          refine List.mem_of_getElem? (i := g) ?_
          rw [List.getElem?_take, if_pos (by omega)]
          exact h3
        · omega
      rw [this] at hw
      cases hw

def sp_lateness (K : PySem.W.Frag) : Sp := fun vs H Q _ => ∃ (d l : Int), vs = [.int d, .int l] ∧ Q (.int (d + l)) H
theorem ok_lateness {P : Program} {w : World} {K : PySem.W.Frag} {mg : Str → Option Value} {base : Heap} {C_Post : Addr} {f : Addr} {fd : FuncData} (F : Df K mg "lateness" s_lateness f fd ["d", "l"]) (T : Txt K mg C_Post) : FnOk P w K mg base CX0 1 f fd ["d", "l"] (sp_lateness K) := by
  refine F.ok sc_lateness (fun vs H Q E h => ?_) (fun cdv A outer s H vs Q E hr h => ?_)
  · obtain ⟨d, l, rfl, _⟩ := h
    rfl
  · obtain ⟨d, l, rfl, q⟩ := h
    refine ⟨_, (pss_one (ps_ret (pe_op op_add (pv 0) (pv 1)))), ?_⟩
    try dsimp only [cxOf, Cx.nox, Cx.wish]
    refine st_of (σ' := [some _, some _]) rfl ?_
    wtm_at "jw"
    exact q
def sp__law_rare (K : PySem.W.Frag) : Sp := fun vs H Q _ => ∃ (p a : Addr) (m : Int), vs = [.ref p, .int m] ∧ DrawAt H p a ∧ 0 < m ∧ m < 1000 ∧ ∀ b H', Drew p a H H' → Q (.bl b) H'
theorem ok__law_rare {P : Program} {w : World} {K : PySem.W.Frag} {mg : Str → Option Value} {base : Heap} {C_Post : Addr} {f : Addr} {fd : FuncData} (F : Df K mg "_law_rare" s__law_rare f fd ["d", "many"]) (T : Txt K mg C_Post)
    (c__law_draw : Cl P w K mg base 1 "_law_draw" (sp__law_draw K)) : FnOk P w K mg base CX0 2 f fd ["d", "many"] (sp__law_rare K) := by
  refine F.ok sc__law_rare (fun vs H Q E h => ?_) (fun cdv A outer s H vs Q E hr h => ?_)
  · obtain ⟨p, a, m, rfl, _⟩ := h
    rfl
  · obtain ⟨p, a, m, rfl, d0, h0, h1, q⟩ := h
    refine ⟨_, (pss_one (ps_ret (pe_cmpR op_eq (pe_cl c__law_draw hr (by decide) rfl (pa_cons (pv 0) (pa_cons (pv 1) pa_nil))) (pe_op op_fdiv (pv 1) pe_int) (nomark _)))), ?_⟩
    try dsimp only [cxOf, Cx.nox, Cx.wish]
    refine st_of (σ' := [some _, some _]) rfl ?_
    wtm_at "jw"
    refine drawL d0.drew (by omega) (by omega) fun z H' _ _ e w => ?_
    wtm_at "jw"
    exact q _ _ w
def lateRow (fr phase lost : Nat) (x : List Int) : List (List Int) := (List.range fr).map fun f => if (f + phase) % (lost + 1) = lost then x else []
theorem lateRow_good {fr phase late lost : Nat} {x : List Int} (hl : lost < 4) (hx : (∃ y : Int, 0 ≤ y ∧ y ≤ late ∧ x = [y]) ∨ ∃ y z : Int, 0 ≤ y ∧ y ≤ z ∧ z ≤ late ∧ x = [y, z]) : GoodF late lost (lateRow fr phase lost x) := by
  refine ⟨fun f hf => ?_, ?_⟩
  · obtain ⟨g, _, rfl⟩ := List.mem_map.mp hf
    split
    · rcases hx with h | h
      · exact .inr (.inl h)
      · exact .inr (.inr h)
    · exact .inl rfl
  · have hw : winB lost ((lateRow fr phase lost x).map fD) = true := by
      unfold winB
      rw [List.all_eq_true]
      intro f hf
      have hf' := List.mem_range.mp hf
      have hlen : ((lateRow fr phase lost x).map fD).length = fr := by unfold lateRow; simp
      rw [hlen] at hf'
      obtain ⟨g, g1, g2⟩ : ∃ g, g ≤ lost ∧ (f + g + phase) % (lost + 1) = lost := by
        rcases (by omega : lost = 0 ∨ lost = 1 ∨ lost = 2 ∨ lost = 3) with rfl | rfl | rfl | rfl
        · exact ⟨0, by omega, by omega⟩
        · by_cases h : (f + phase) % 2 = 1
          · exact ⟨0, by omega, by omega⟩
          · exact ⟨1, by omega, by omega⟩
        · rcases (by omega : (f + phase) % 3 = 2 ∨ (f + phase) % 3 = 1 ∨ (f + phase) % 3 = 0) with h | h | h
          · exact ⟨0, by omega, by omega⟩
          · exact ⟨1, by omega, by omega⟩
          · exact ⟨2, by omega, by omega⟩
        · rcases (by omega : (f + phase) % 4 = 3 ∨ (f + phase) % 4 = 2 ∨ (f + phase) % 4 = 1 ∨ (f + phase) % 4 = 0) with h | h | h | h
          · exact ⟨0, by omega, by omega⟩
          · exact ⟨1, by omega, by omega⟩
          · exact ⟨2, by omega, by omega⟩
          · exact ⟨3, by omega, by omega⟩
      rw [List.any_eq_true]
      refine ⟨fD x, ?_, ?_⟩
      · refine List.mem_of_getElem? (i := g) ?_
        rw [List.getElem?_take, if_pos (by omega), List.getElem?_drop, List.getElem?_map]
        unfold lateRow
        rw [List.getElem?_map, List.getElem?_eq_getElem (by simp; omega), List.getElem_range]
        simp [g2]
      · rw [em_fD]
        rcases hx with ⟨y, _, _, rfl⟩ | ⟨y, z, _, _, _, rfl⟩ <;> rfl
    obtain ⟨r, h1, _⟩ := win_ok hw _ (Nat.le_refl _)
    rw [List.take_length] at h1
    exact ⟨_, h1⟩
theorem mod_iff2 (f ph l : Nat) : (((f : Int) + (ph : Int)) % ((l : Int) + 1) = (l : Int)) ↔ (f + ph) % (l + 1) = l := by
  rw [show ((l : Int) + 1) = ((l + 1 : Nat) : Int) from rfl, ← Int.natCast_add, ← Int.natCast_emod]
  omega
def sp__law_late_row (K : PySem.W.Frag) : Sp := fun vs H Q _ => ∃ (p a : Addr) (fr late lost : Nat), vs = [.ref p, .int (fr : Int), .int (late : Int), .int (lost : Int)] ∧ DrawAt H p a ∧ fr < 1000 ∧ late < 1000 ∧ lost < 4 ∧ ∀ v c H', Drew p a H H' → TD K H' v c → RndP fr late lost c → Q v H'
theorem ok__law_late_row {P : Program} {w : World} {K : PySem.W.Frag} {mg : Str → Option Value} {base : Heap} {C_Post : Addr} {f : Addr} {fd : FuncData} (F : Df K mg "_law_late_row" s__law_late_row f fd ["d", "frames", "late", "lost"]) (T : Txt K mg C_Post)
    (c__law_draw : Cl P w K mg base 1 "_law_draw" (sp__law_draw K))
    (c__law_pick : Cl P w K mg base 2 "_law_pick" (sp__law_pick K)) : FnOk P w K mg base CX0 3 f fd ["d", "frames", "late", "lost"] (sp__law_late_row K) := by
  refine F.ok sc__law_late_row (fun vs H Q E h => ?_) (fun cdv A outer s H vs Q E hr h => ?_)
  · obtain ⟨p, a, fr, late, lost, rfl, _⟩ := h
    rfl
  · obtain ⟨p, a, fr, late, lost, rfl, d0, f1, l1, l2, q⟩ := h
    refine ⟨_, (pss_cons (ps_set (i := 4) sc__law_late_row.nd rfl (Or.inr rfl) (pe_cl c__law_draw hr (by decide) rfl (pa_cons (pv 0) (pa_cons (pe_op op_add (pv 3) pe_int) pa_nil))))
      (pss_cons (ps_set (i := 5) sc__law_late_row.nd rfl (Or.inr rfl) (pe_cl c__law_pick hr (by decide) rfl (pa_cons (pv 0) (pa_cons (pe_lst (pa_cons (pe_tup (pa_cons (pv 2) pa_nil)) (pa_cons (pe_tup (pa_cons (pv 2) (pa_cons (pv 2) pa_nil))) (pa_cons (pe_tup (pa_cons pe_int (pa_cons (pv 2) pa_nil))) (pa_cons (pe_tup (pa_cons (pe_cl c__law_draw hr (by decide) rfl (pa_cons (pv 0) (pa_cons (pe_op op_add (pv 2) pe_int) pa_nil))) pa_nil)) pa_nil))))) pa_nil))))
      (pss_one (ps_ret (pe_callTy (T := "tuple") (r := rTupOf K) c_tup (by rfl) T.b_tuple (by decide +kernel) (pa_cons (pe_lc (own := [("frame", 6)]) (g := gName 6) (tt := tYes) rfl sc__law_late_row.nd (pi_range1 rfl T.b_range (pa_cons (pv 1) pa_nil)) (blkOk_by (own := [("frame", 6)]) (N := N__law_late_row) (sc := defScope s__law_late_row) (by decide +kernel)) (fun _ _ _ _ _ => (pg_name (i := 6) sc__law_late_row.nd rfl (Or.inl rfl))) (fun _ _ _ _ _ => pts_nil) (fun _ _ _ _ _ => (pe_ifExp (pt_cmpR op_eq (pe_op op_mod (pe_callTy (T := "int") c_int (by rfl) T.b_int (by decide +kernel) (pa_cons (pe_op op_add (pv 6) (pv 4)) pa_nil)) (pe_op op_add (pv 3) pe_int)) (pv 3) (nomark _)) (pv 5) (pe_tup pa_nil)))) pa_nil)))))), ?_⟩
    try dsimp only [cxOf, Cx.nox, Cx.wish]
    refine st_of (σ' := [some _, some _, some _, some _, none, none, none]) rfl ?_
    wtm_at "jw"
    refine drawL d0.drew (by omega) (by omega) fun z1 H1 z10 z11 _ w1 => ?_
    obtain ⟨ph, rfl⟩ := Int.eq_ofNat_of_zero_le z10
    wtm_at "jw"
    intro A1 hA1
    have t1 : TD K (upd H1 A1 (.tup [.int (late : Int)])) (.ref A1) (fD [(late : Int)]) := TD.new hA1 (.cons (.int _) .nil)
    have w2 := w1.new (o := .tup [.int (late : Int)]) hA1
    generalize upd H1 A1 (.tup [.int (late : Int)]) = H2 at t1 w2 ⊢
    wtm_at "jw"
    intro A2 hA2
    have t2 : TD K (upd H2 A2 (.tup [.int (late : Int), .int (late : Int)])) (.ref A2) (fD [(late : Int), late]) := TD.new hA2 (.cons (.int _) (.cons (.int _) .nil))
    have s2 := same_new (o := .tup [.int (late : Int), .int (late : Int)]) hA2
    have t1 := t1.same s2
    have w3 := w2.same s2
    generalize upd H2 A2 (.tup [.int (late : Int), .int (late : Int)]) = H3 at t1 t2 w3 ⊢
    wtm_at "jw"
    intro A3 hA3
    have t3 : TD K (upd H3 A3 (.tup [.int 0, .int (late : Int)])) (.ref A3) (fD [0, (late : Int)]) := TD.new hA3 (.cons (.int _) (.cons (.int _) .nil))
    have s3 := same_new (o := .tup [.int 0, .int (late : Int)]) hA3
    have t1 := t1.same s3
    have t2 := t2.same s3
    have w4 := w3.same s3
    generalize upd H3 A3 (.tup [.int 0, .int (late : Int)]) = H4 at t1 t2 t3 w4 ⊢
    wtm_at "jw"
    refine drawL w4 (by omega) (by omega) fun y H5 y0 y1 e5 w5 => ?_
    have tp5 := e5.tps w4.at_
    wtm_at "jw"
    intro A4 hA4
    have t4 : TD K (upd H5 A4 (.tup [.int y])) (.ref A4) (fD [y]) := TD.new hA4 (.cons (.int _) .nil)
    have s4 := same_new (o := .tup [.int y]) hA4
    have t1 := (t1.tps tp5).same s4
    have t2 := (t2.tps tp5).same s4
    have t3 := (t3.tps tp5).same s4
    have w6 := w5.same s4
    generalize upd H5 A4 (.tup [.int y]) = H6 at t1 t2 t3 t4 w6 ⊢
    wtm_at "jw"
    intro B hB
    wtm_at "jw"
    refine pickV w6 hB (by simp) (by simp) fun u H7 hu e7 w7 => ?_
    have tp7 := e7.tps w6.at_
    obtain ⟨x, tu, hx⟩ : ∃ x : List Int, TD K H7 u (fD x) ∧ ((∃ y : Int, 0 ≤ y ∧ y ≤ late ∧ x = [y]) ∨ ∃ y z : Int, 0 ≤ y ∧ y ≤ z ∧ z ≤ late ∧ x = [y, z]) := by
      simp only [List.mem_cons, List.not_mem_nil, or_false] at hu
      rcases hu with rfl | rfl | rfl | rfl
      · exact ⟨_, t1.tps tp7, .inl ⟨late, by omega, by omega, rfl⟩⟩
      · exact ⟨_, t2.tps tp7, .inr ⟨late, late, by omega, by omega, by omega, rfl⟩⟩
      · exact ⟨_, t3.tps tp7, .inr ⟨0, late, by omega, by omega, by omega, rfl⟩⟩
      · exact ⟨_, t4.tps tp7, .inl ⟨y, y0, by omega, rfl⟩⟩
    wtm_at "jw"
    intro C hC
    have CH := w7.free hC
    refine l_range (fun j H' => Same H7 H' ∧ LD K H' C ((lateRow j ph lost x).map fD)) ⟨same_new hC, .new hC .nil⟩ (fun j H' hj h => ?_) (fun H' h => ?_)
    · obtain ⟨s8, us, hus, tus⟩ := h
      have hj' : j < fr := by simpa using hj
      have hul := tus.len
      have hll : (lateRow j ph lost x).length = j := by unfold lateRow; simp
      rw [List.length_map, hll] at hul
      have hsm : us.length < sizeLine := small1000 (by omega)
      have est : lateRow (j + 1) ph lost x = lateRow j ph lost x ++ [if (j + ph) % (lost + 1) = lost then x else []] := by
        unfold lateRow
        rw [List.range_succ, List.map_append]
        rfl
      rw [Int.zero_add]
      wtm_at "jw"
      refine ⟨rfl, ?_⟩
      wtm_at "jw"
      refine c_dec (fun h => ?_) (fun h => ?_)
      · rw [if_pos ((mod_iff2 j ph lost).mp h)] at est
        wtm_at "jw"
        refine ⟨us, hus, hsm, put_same s8 hC, ?_⟩
        rw [est, List.map_append]
        exact LD.snoc hus tus (tu.same s8)
      · rw [if_neg (fun z => h ((mod_iff2 j ph lost).mpr z))] at est
        wtm_at "jw"
        intro T hT
        have tT : TD K (upd H' T (.tup [])) (.ref T) (fD []) := TD.new hT .nil
        have s9 := same_new (o := .tup []) hT
        refine ⟨us, s9 _ _ hus, hsm, put_same (s8.trans s9) hC, ?_⟩
        rw [est, List.map_append]
        exact LD.snoc (s9 _ _ hus) (tus.same s9) tT
    · obtain ⟨s8, us, hus, tus⟩ := h
      rw [show ((fr : Nat) : Int).toNat = fr from Int.toNat_natCast fr] at tus
      wtm_at "jw"
      intro T hT
      refine q _ _ _ ((w7.same s8).new hT) (TD.new hT tus) ⟨_, rfl, by unfold lateRow; simp, lateRow_good l2 hx⟩
def sp__law_any_road (K : PySem.W.Frag) : Sp := fun vs H Q _ => ∃ (p a : Addr) (S R fr late lost : Nat), vs = [.ref p, .int (S : Int), .int (R : Int), .int (fr : Int), .int (late : Int), .int (lost : Int)] ∧ DrawAt H p a ∧ S < 1000 ∧ R < 1000 ∧ fr < 1000 ∧ late < 1000 ∧ lost < 4 ∧ ∀ v d H', Drew p a H H' → TD K H' v d → RoadP S R (RndP fr late lost) d → Q v H'
theorem ok__law_any_road {P : Program} {w : World} {K : PySem.W.Frag} {mg : Str → Option Value} {base : Heap} {C_Post : Addr} {f : Addr} {fd : FuncData} (F : Df K mg "_law_any_road" s__law_any_road f fd ["d", "seats", "receivers", "frames", "late", "lost"]) (T : Txt K mg C_Post)
    (c__law_draw : Cl P w K mg base 1 "_law_draw" (sp__law_draw K))
    (c__law_road : Cl P w K mg base 3 "_law_road" (sp__law_road K))
    (c__law_late_row : Cl P w K mg base 3 "_law_late_row" (sp__law_late_row K)) : FnOk P w K mg base CX0 4 f fd ["d", "seats", "receivers", "frames", "late", "lost"] (sp__law_any_road K) := by
  refine F.ok sc__law_any_road (fun vs H Q E h => ?_) (fun cdv A outer s H vs Q E hr h => ?_)
  · obtain ⟨p, a, S, R, fr, late, lost, rfl, _⟩ := h
    rfl
  · obtain ⟨p, a, S, R, fr, late, lost, rfl, d0, S1, R1, f1, l1, l2, q⟩ := h
    refine ⟨_, (pss_cons (ps_if (pt_cmpR op_gt (pe_cl c__law_draw hr (by decide) rfl (pa_cons (pv 0) (pa_cons pe_int pa_nil))) pe_int (nomark _)) (pss_one (ps_ret (pe_cl c__law_road hr (by decide) rfl (pa_cons (pv 0) (pa_cons (pv 1) (pa_cons (pv 2) (pa_cons (pv 3) (pa_cons (pv 4) (pa_cons (pv 5) pa_nil))))))))) pss_nil)
      (pss_cons (ps_set (i := 6) sc__law_any_road.nd rfl (Or.inl rfl) (pe_lst pa_nil))
      (pss_cons (ps_for PassesOwn.never rfl (pi_range1 rfl T.b_range (pa_cons (pv 1) pa_nil)) (pg_name (i := 7) sc__law_any_road.nd rfl (Or.inl rfl)) (pss_cons (ps_set (i := 8) sc__law_any_road.nd rfl (Or.inl rfl) (pe_lst pa_nil))
      (pss_cons (ps_for PassesOwn.never rfl (pi_range1 rfl T.b_range (pa_cons (pv 2) pa_nil)) (pg_name (i := 9) sc__law_any_road.nd rfl (Or.inl rfl)) (pss_one (ps_expr (pe_bmK (K := K) rfl PySem.F.plainAttrs_list PySem.F.slot_list_append PySem.F.type_list_append mt_append (pv 8) (pa_cons (pe_ifExp (pt_cmpR op_eq (pv 9) (pv 7) (nomark _)) (pe_tup pa_nil) (pe_cl c__law_late_row hr (by decide) rfl (pa_cons (pv 0) (pa_cons (pv 3) (pa_cons (pv 4) (pa_cons (pv 5) pa_nil)))))) pa_nil)))))
      (pss_one (ps_expr (pe_bmK (K := K) rfl PySem.F.plainAttrs_list PySem.F.slot_list_append PySem.F.type_list_append mt_append (pv 6) (pa_cons (pe_callTy (T := "tuple") (r := rTupOf K) c_tup (by rfl) T.b_tuple (by decide +kernel) (pa_cons (pv 8) pa_nil)) pa_nil)))))))
      (pss_one (ps_ret (pe_callTy (T := "tuple") (r := rTupOf K) c_tup (by rfl) T.b_tuple (by decide +kernel) (pa_cons (pv 6) pa_nil))))))), ?_⟩
    try dsimp only [cxOf, Cx.nox, Cx.wish]
    refine st_of (σ' := [some _, some _, some _, some _, some _, some _, none, none, none, none]) rfl ?_
    wtm_at "jw"
    refine drawL d0.drew (by omega) (by omega) fun z H0 _ _ e0 w0 => ?_
    wtm_at "jw"
    refine c_dec (fun h => ?_) (fun h => ?_)
    · wtm_at "jw"
      refine ⟨p, a, S, R, fr, late, lost, rfl, w0.at_, S1, R1, f1, l1, fun v d H' e t r => q v d H' (w0.trans e) t r⟩
    · wtm_at "jw"
      intro BL hBL
      have BLH := w0.free hBL
      have nB := d0.ne_none BLH
      wtm_at "jw"
      refine f_range (fun i σ H' => Drew p a H H' ∧ ∃ (ds : List PyData) (v7 v8 v9 : Option V), LD K H' BL ds ∧ ds.length = i ∧ AllI (RowP R (RndP fr late lost)) ds ∧
          σ = [some (.ref p), some (.int (S : Int)), some (.int (R : Int)), some (.int (fr : Int)), some (.int (late : Int)), some (.int (lost : Int)), some (.ref BL), v7, v8, v9])
        ⟨w0.new hBL, [], none, none, none, .new hBL .nil, rfl, .nil, rfl⟩ (fun i σ H' hi h => ?_) (fun σ H' h => ?_)
      · obtain ⟨w1, ds, v7, v8, v9, hB1, hdl, hds, rfl⟩ := h
        rw [Int.zero_add]
        have hi' : i < S := by simpa using hi
        wtm_at "jw"
        intro CL hCL
        have CLH := w1.free hCL
        have nC := d0.ne_none CLH
        have nCB : BL ≠ CL := by
          obtain ⟨us, hus, _⟩ := hB1
          exact ne_of_none hus hCL
        wtm_at "jw"
        refine f_range (fun j σ H' => Drew p a H H' ∧ LD K H' BL ds ∧ ∃ (cs : List PyData) (v9 : Option V), LD K H' CL cs ∧ cs.length = j ∧ AllI (CellP (RndP fr late lost) i) cs ∧
            σ = [some (.ref p), some (.int (S : Int)), some (.int (R : Int)), some (.int (fr : Int)), some (.int (late : Int)), some (.int (lost : Int)), some (.ref BL), some (.int (i : Int)), some (.ref CL), v9])
          ⟨w1.new hCL, hB1.same (same_new hCL), [], v9, .new hCL .nil, rfl, .nil, rfl⟩ (fun j σ H' hj h => ?_) (fun σ H' h => ?_)
        · obtain ⟨w2, hB2, cs, v9, hC2, hcl, hcs, rfl⟩ := h
          rw [Int.zero_add]
          have hj' : j < R := by simpa using hj
          wtm_at "jw"
          refine c_dec (fun h => ?_) (fun h => ?_)
          · obtain ⟨us, hus, tus⟩ := hC2
            have hul := tus.len
            wtm_at "jw"
            intro T hT
            have tT : TD K (upd H' T (.tup [])) (.ref T) (.tuple []) := TD.new hT .nil
            have s3 := same_new (o := .tup []) hT
            have hus3 := s3 _ _ hus
            have tus3 := tus.same s3
            have w3 := w2.same s3
            have hB3 := hB2.same s3
            generalize upd H' T (.tup []) = H3 at w3 tT hus3 tus3 hB3 ⊢
            have hsm : us.length < sizeLine := small1000 (by omega)
            wtm_at "jw"
            exact ⟨w3.put d0 CLH, hB3.kp Kp.upd hus3 nCB, cs ++ [.tuple []], _, LD.snoc hus3 tus3 tT, by simp [hcl], hcs.snoc ⟨fun _ => rfl, fun n => absurd (show cs.length = i by omega) n⟩, rfl⟩
          · wtm_at "jw"
            refine ⟨p, a, fr, late, lost, rfl, w2.at_, f1, l1, l2, fun v c H3 e3 tv rd => ?_⟩
            have hB3 := hB2.drew w2.at_ e3 nB
            obtain ⟨us, hus, tus⟩ := hC2.drew w2.at_ e3 nC
            have hul := tus.len
            have hsm : us.length < sizeLine := small1000 (by omega)
            wtm_at "jw"
            exact ⟨(w2.trans e3).put d0 CLH, hB3.kp Kp.upd hus nCB, cs ++ [c], _, LD.snoc hus tus tv, by simp [hcl], hcs.snoc ⟨fun e => absurd (show (j : Int) = i by omega) h, fun _ => rd⟩, rfl⟩
        · obtain ⟨w2, ⟨us, hus, tus⟩, cs, v9, ⟨us2, hus2, tus2⟩, hcl, hcs, rfl⟩ := h
          have hul := tus.len
          wtm_at "jw"
          intro T hT
          have tT : TD K (upd H' T (.tup us2)) (.ref T) (.tuple cs) := TD.new hT tus2
          have s3 := same_new (o := .tup us2) hT
          have hus3 := s3 _ _ hus
          have tus3 := tus.same s3
          have w3 := w2.same s3
          generalize upd H' T (.tup us2) = H3 at w3 tT hus3 tus3 ⊢
          have hsm : us.length < sizeLine := small1000 (by omega)
          wtm_at "jw"
          refine ⟨w3.put d0 BLH, ds ++ [.tuple cs], _, _, _, LD.snoc hus3 tus3 tT, by simp [hdl], hds.snoc ⟨cs, rfl, by simpa using hcl, by rw [hdl]; exact hcs⟩, rfl⟩
      · obtain ⟨w1, ds, v7, v8, v9, ⟨us, hus, tus⟩, hdl, hds, rfl⟩ := h
        wtm_at "jw"
        intro T hT
        exact q _ _ _ (w1.new hT) (TD.new hT tus) ⟨ds, rfl, by simpa using hdl, hds⟩
def sp__law_lasts (K : PySem.W.Frag) : Sp := fun vs H Q _ => ∃ (p a : Addr) (S rounds : Nat), vs = [.ref p, .int (S : Int), .int (rounds : Int)] ∧ DrawAt H p a ∧ S < 1000 ∧ rounds < 1000 ∧ ∀ R (ls : List Nat) H', Drew p a H H' → H R = none → H' R = some (.lst (ls.map fun (k : Nat) => V.int (k : Int))) → ls.length = S → (∀ l ∈ ls, l ≤ rounds) → Q (.ref R) H'
theorem ok__law_lasts {P : Program} {w : World} {K : PySem.W.Frag} {mg : Str → Option Value} {base : Heap} {C_Post : Addr} {f : Addr} {fd : FuncData} (F : Df K mg "_law_lasts" s__law_lasts f fd ["d", "seats", "rounds"]) (T : Txt K mg C_Post)
    (c__law_draw : Cl P w K mg base 1 "_law_draw" (sp__law_draw K)) : FnOk P w K mg base CX0 2 f fd ["d", "seats", "rounds"] (sp__law_lasts K) := by
  refine F.ok sc__law_lasts (fun vs H Q E h => ?_) (fun cdv A outer s H vs Q E hr h => ?_)
  · obtain ⟨p, a, S, rounds, rfl, _⟩ := h
    rfl
  · obtain ⟨p, a, S, rounds, rfl, d0, S1, r1, q⟩ := h
    refine ⟨_, (pss_cons (ps_set (i := 3) sc__law_lasts.nd rfl (Or.inl rfl) (pe_lst pa_nil))
      (pss_cons (ps_for PassesOwn.never rfl (pi_range1 rfl T.b_range (pa_cons (pv 1) pa_nil)) (pg_name (i := 4) sc__law_lasts.nd rfl (Or.inl rfl)) (pss_one (ps_expr (pe_bmK (K := K) rfl PySem.F.plainAttrs_list PySem.F.slot_list_append PySem.F.type_list_append mt_append (pv 3) (pa_cons (pe_ifExp (pt_cmpR op_gt (pe_cl c__law_draw hr (by decide) rfl (pa_cons (pv 0) (pa_cons pe_int pa_nil))) pe_int (nomark _)) (pv 2) (pe_cl c__law_draw hr (by decide) rfl (pa_cons (pv 0) (pa_cons (pe_op op_add (pv 2) pe_int) pa_nil)))) pa_nil)))))
      (pss_one (ps_ret (pv 3))))), ?_⟩
    try dsimp only [cxOf, Cx.nox, Cx.wish]
    refine st_of (σ' := [some _, some _, some _, none, none]) rfl ?_
    wtm_at "jw"
    intro BL hBL
    have nB := d0.ne_none hBL
    wtm_at "jw"
    refine f_range (fun i σ H' => Drew p a H H' ∧ ∃ (ls : List Nat) (v4 : Option V), H' BL = some (.lst (ls.map fun (k : Nat) => V.int (k : Int))) ∧ ls.length = i ∧ (∀ l ∈ ls, l ≤ rounds) ∧ σ = [some (.ref p), some (.int (S : Int)), some (.int (rounds : Int)), some (.ref BL), v4])
      ⟨d0.drew.new hBL, [], none, upd_same, rfl, by simp, rfl⟩ (fun i σ H' hi h => ?_) (fun σ H' h => ?_)
    · obtain ⟨w1, ls, v4, hL, ll, hb, rfl⟩ := h
      have hi' : i < S := by simpa using hi
      wtm_at "jw"
      refine drawL w1 (by decide) (by decide) fun z H2 _ _ e2 w2 => ?_
      have hL2 := e2.kp _ _ hL nB
      have hsm : (ls.map fun (k : Nat) => V.int (k : Int)).length < sizeLine := small1000 (by rw [List.length_map]; omega)
      have fin : ∀ (x : Nat) (H3 : Hp), Drew p a H H3 → H3 BL = some (.lst (ls.map fun (k : Nat) => V.int (k : Int))) → x ≤ rounds → Drew p a H (upd H3 BL (.lst ((ls.map fun (k : Nat) => V.int (k : Int)) ++ [.int (x : Int)]))) ∧ ∃ (ls' : List Nat) (v4 : Option V), upd H3 BL (.lst ((ls.map fun (k : Nat) => V.int (k : Int)) ++ [.int (x : Int)])) BL = some (.lst (ls'.map fun (k : Nat) => V.int (k : Int))) ∧ ls'.length = i + 1 ∧ (∀ l ∈ ls', l ≤ rounds) ∧
          ([some (.ref p), some (.int (S : Int)), some (.int (rounds : Int)), some (.ref BL), some (.int (0 + (i : Int)))] : L2.St) = [some (.ref p), some (.int (S : Int)), some (.int (rounds : Int)), some (.ref BL), v4] := fun x H3 w3 h3 hx => by
        refine ⟨w3.put d0 hBL, ls ++ [x], _, by rw [upd_same, List.map_append]; rfl, by simp [ll], fun l hl => ?_, rfl⟩
        rcases List.mem_append.mp hl with hl | hl
        · exact hb l hl
        · rw [List.mem_singleton.mp hl]; exact hx
      wtm_at "jw"
      refine c_dec (fun h => ?_) (fun h => ?_)
      · wtm_at "jw"
        exact fin rounds _ w2 hL2 (Nat.le_refl _)
      · wtm_at "jw"
        refine drawL w2 (by omega) (by omega) fun y H3 y0 y1 e3 w3 => ?_
        obtain ⟨yn, rfl⟩ := Int.eq_ofNat_of_zero_le y0
        have hL3 := e3.kp _ _ hL2 nB
        wtm_at "jw"
        exact fin yn _ w3 hL3 (by omega)
    · obtain ⟨w1, ls, v4, hL, ll, hb, rfl⟩ := h
      wtm_at "jw"
      exact q BL ls _ w1 hBL hL (by simpa using ll) hb
/-- a letter of the law -/
def LetD (s f : Int) (L : PyData) : Prop := ∃ w m, L = .tuple [.str (Str.ofString "letter"), .int s, .int f, w, m, .none] ∧ Shp 2 w ∧ Shp 2 m
theorem LetD.shp {s f : Int} {L : PyData} (h : LetD s f L) : Shp 3 L := by
  obtain ⟨w, m, rfl, h1, h2⟩ := h
  refine Shp.tup fun d hd => ?_
  simp only [List.mem_cons, List.not_mem_nil, or_false] at hd
  rcases hd with rfl | rfl | rfl | rfl | rfl | rfl
  · exact (Shp.str (by decide +kernel)).mono (by omega)
  · exact (Shp.int _).mono (by omega)
  · exact (Shp.int _).mono (by omega)
  · exact h1
  · exact h2
  · exact Shp.non.mono (by omega)
def sp__law_letter (K : PySem.W.Frag) : Sp := fun vs H Q _ => ∃ (p a : Addr) (s f : Nat), vs = [.ref p, .int (s : Int), .int (f : Int)] ∧ DrawAt H p a ∧ ∀ v L H', Drew p a H H' → TD K H' v L → LetD s f L → Q v H'
theorem ok__law_letter {P : Program} {w : World} {K : PySem.W.Frag} {mg : Str → Option Value} {base : Heap} {C_Post : Addr} {f : Addr} {fd : FuncData} (F : Df K mg "_law_letter" s__law_letter f fd ["d", "sender", "frame"]) (T : Txt K mg C_Post)
    (c__law_draw : Cl P w K mg base 1 "_law_draw" (sp__law_draw K)) : FnOk P w K mg base CX0 2 f fd ["d", "sender", "frame"] (sp__law_letter K) := by
  refine F.ok sc__law_letter (fun vs H Q E h => ?_) (fun cdv A outer s H vs Q E hr h => ?_)
  · obtain ⟨p, a, s, f, rfl, _⟩ := h
    rfl
  · obtain ⟨p, a, s, f, rfl, d0, q⟩ := h
    refine ⟨_, (pss_cons (ps_set (i := 3) sc__law_letter.nd rfl (Or.inr rfl) (pe_cl c__law_draw hr (by decide) rfl (pa_cons (pv 0) (pa_cons pe_int pa_nil))))
      (pss_cons (ps_set (i := 4) sc__law_letter.nd rfl (Or.inr rfl) (pe_op op_mod (pe_callTy (T := "int") c_int (by rfl) T.b_int (by decide +kernel) (pa_cons (pv 2) pa_nil)) pe_int))
      (pss_cons (ps_set (i := 5) sc__law_letter.nd rfl (Or.inl rfl) (pe_callTy (T := "tuple") (r := rTupOf K) c_tup (by rfl) T.b_tuple (by decide +kernel) (pa_cons (pe_lc (own := [("k", 6)]) (g := gName 6) (tt := tYes) rfl sc__law_letter.nd (pi_range1 rfl T.b_range (pa_cons (pe_op op_mod (pe_callTy (T := "int") c_int (by rfl) T.b_int (by decide +kernel) (pa_cons (pv 3) pa_nil)) pe_int) pa_nil)) (blkOk_by (own := [("k", 6)]) (N := N__law_letter) (sc := defScope s__law_letter) (by decide +kernel)) (fun _ _ _ _ _ => (pg_name (i := 6) sc__law_letter.nd rfl (Or.inl rfl))) (fun _ _ _ _ _ => pts_nil) (fun _ _ _ _ _ => (pe_tup (pa_cons (pv 1) (pa_cons (pv 4) (pa_cons (pv 6) (pa_cons (pv 3) pa_nil))))))) pa_nil)))
      (pss_cons (ps_set (i := 7) sc__law_letter.nd rfl (Or.inl rfl) (pe_tup (pa_cons (pe_tup (pa_cons (pv 4) (pa_cons (pv 3) (pa_cons (pe_op op_add (pv 3) pe_int) pa_nil)))) pa_nil)))
      (pss_one (ps_ret (pe_tup (pa_cons pe_str (pa_cons (pv 1) (pa_cons (pv 2) (pa_cons (pv 5) (pa_cons (pe_slice (r := rSlQ K) sl_tupQ (pv 7) po_none (po_some (pe_op op_fdiv (pv 3) pe_int))) (pa_cons pe_non pa_nil))))))))))))), ?_⟩
    try dsimp only [cxOf, Cx.nox, Cx.wish]
    refine st_of (σ' := [some _, some _, some _, none, none, none, none, none]) rfl ?_
    wtm_at "jw"
    refine drawL d0.drew (by omega) (by omega) fun z H1 z0 z1 _ w1 => ?_
    obtain ⟨n, rfl⟩ := Int.eq_ofNat_of_zero_le z0
    wtm_at "jw"
    have h3 : (n : Int) % 3 = ((n % 3 : Nat) : Int) := by rw [Int.natCast_emod]; rfl
    rw [h3]
    have h3l : n % 3 < 3 := Nat.mod_lt _ (by decide)
    generalize n % 3 = m at h3l
    generalize (f : Int) % 24 = tk
    wtm_at "jw"
    intro C hC
    have CH := w1.free hC
    refine l_range (fun j H' => Same H1 H' ∧ ∃ ds, LD K H' C ds ∧ ds.length = j ∧ ∀ d ∈ ds, Shp 1 d) ⟨same_new hC, [], .new hC .nil, rfl, fun d h => by cases h⟩ (fun j H' hj h => ?_) (fun H' h => ?_)
    · obtain ⟨s2, ds, ⟨us, hus, tus⟩, dl, hds⟩ := h
      have hj' : j < m := by simpa using hj
      have hul := tus.len
      wtm_at "jw"
      refine ⟨rfl, ?_⟩
      wtm_at "jw"
      intro T hT
      have s3 := same_new (o := .tup [.int (s : Int), .int tk, .int (0 + (j : Int)), .int (n : Int)]) hT
      refine ⟨us, s3 _ _ hus, small1000 (by omega), put_same (s2.trans s3) hC, ds ++ [.tuple [.int s, .int tk, .int (0 + (j : Int)), .int n]], LD.snoc (s3 _ _ hus) (tus.same s3) (TD.new hT (.cons (.int _) (.cons (.int _) (.cons (.int _) (.cons (.int _) .nil))))), by simp [dl], fun d hd => ?_⟩
      rcases List.mem_append.mp hd with hd | hd
      · exact hds d hd
      · rw [List.mem_singleton.mp hd]
        exact shp_ints [(s : Int), tk, 0 + (j : Int), n]
    · obtain ⟨s2, ds, ⟨us, hus, tus⟩, dl, hds⟩ := h
      wtm_at "jw"
      intro W hW
      have tW : TD K (upd H' W (.tup us)) (.ref W) (.tuple ds) := TD.new hW tus
      have s3 := s2.trans (same_new (o := .tup us) hW)
      generalize upd H' W (.tup us) = H3 at tW s3 ⊢
      wtm_at "jw"
      intro T1 hT1
      have t1 : TD K (upd H3 T1 (.tup [.int tk, .int (n : Int), .int ((n : Int) + 1)])) (.ref T1) (.tuple [.int tk, .int n, .int ((n : Int) + 1)]) := TD.new hT1 (.cons (.int _) (.cons (.int _) (.cons (.int _) .nil)))
      have s4' := same_new (o := .tup [.int tk, .int (n : Int), .int ((n : Int) + 1)]) hT1
      have s4 := s3.trans s4'
      have tW := tW.same s4'
      generalize upd H3 T1 (.tup [.int tk, .int (n : Int), .int ((n : Int) + 1)]) = H4 at t1 s4 tW ⊢
      wtm_at "jw"
      intro T2 hT2
      have tM : TDs K (upd H4 T2 (.tup [.ref T1])) [.ref T1] [.tuple [.int tk, .int n, .int ((n : Int) + 1)]] := .cons (t1.same (same_new hT2)) .nil
      have hM : SqT K (upd H4 T2 (.tup [.ref T1])) T2 [.ref T1] := SqT.of upd_same
      have s5 := s4.trans (same_new (o := .tup [.ref T1]) hT2)
      have tW := tW.same (same_new (o := .tup [.ref T1]) hT2)
      generalize upd H4 T2 (.tup [.ref T1]) = H5 at tM hM s5 tW ⊢
      wtm_at "jw"
      refine i_slA hM fun r H6 s6 hr6 => ?_
      have tr : ∃ ms, TDs K H6 (cutV [.ref T1] none (some ((n : Int) / 300))) ms ∧ Shp 2 (.tuple ms) := by
        have sh : Shp 1 (.tuple [.int tk, .int n, .int ((n : Int) + 1)]) := shp_ints [tk, (n : Int), (n : Int) + 1]
        unfold cutV
        rw [show ([V.ref T1].drop (HT.sIx [V.ref T1].length 0 none)) = [V.ref T1] from rfl]
        cases hk : (HT.sIx [V.ref T1].length [V.ref T1].length (some ((n : Int) / 300)) - HT.sIx [V.ref T1].length 0 none) with
        | zero => exact ⟨[], .nil, Shp.tup fun _ h => by cases h⟩
        | succ k =>
          rw [show [V.ref T1].take (k + 1) = [V.ref T1] by simp]
          exact ⟨_, TDs.tps (Tps.of s6) tM, Shp.tup fun d hd => by rw [List.mem_singleton.mp hd]; exact sh⟩
      obtain ⟨ms, tms, sms⟩ := tr
      wtm_at "jw"
      intro T3 hT3
      refine q _ _ _ ((w1.same (s5.trans s6)).new hT3) (TD.new hT3 (.cons (.str _) (.cons (.int _) (.cons (.int _) (.cons (tW.same s6) (.cons (.tup hr6 tms) (.cons .non .nil))))))) ⟨_, _, rfl, Shp.tup hds, sms⟩
theorem flat_len {α β : Type} {h : α → List β} {c : Nat} : ∀ {l : List α}, (∀ x ∈ l, (h x).length ≤ c) → (l.flatMap h).length ≤ l.length * c
  | [], _ => by simp
  | x :: l, hh => by
    rw [List.flatMap_cons, List.length_append, List.length_cons, Nat.succ_mul]
    have h1 := hh x List.mem_cons_self
    have h2 := flat_len (l := l) fun y hy => hh y (List.mem_cons_of_mem _ hy)
    omega
theorem blk_len {G : RG} {S : Sent} {r f s st : Nat} (h : (dlG G s r st).length ≤ 2) : (blkE G S r f s st).length ≤ 2 := by
  unfold blkE
  cases lkS S (s, r, st) with
  | none => simp
  | some L =>
    show (List.map _ _).length ≤ 2
    rw [List.length_map]
    exact Nat.le_trans (List.length_filter_le _ _) h
theorem flat_snoc {β : Type} (h : Nat → List β) (i : Nat) : (List.range (i + 1)).flatMap h = (List.range i).flatMap h ++ h i := by
  rw [List.range_succ, List.flatMap_append]
  simp
def rowE (G : RG) (S : Sent) (r f s : Nat) : List Ent := (List.range (f + 1)).flatMap fun st => blkE G S r f s st
theorem pre_snoc {α β : Type} (pre : List β) (F : List α) (d : α) (e : β) : pre ++ (F ++ [d]).map (fun _ => e) = (pre ++ F.map fun _ => e) ++ [e] := by simp
def sp__law_arrivals (K : PySem.W.Frag) : Sp := fun vs H Q _ => ∃ (v : V) (X : Addr) (n R : Nat) (G : RG) (rows : List PyData) (S : Sent) (r f : Nat), vs = [v, .ref X, .int (r : Int), .int (f : Int)] ∧ TD K H v (.tuple rows) ∧ RoadG n R G rows ∧ SentAt K H X S ∧ r < R ∧ n ≤ 10 ∧ f < 100 ∧ (∀ s st, s < n → (dlG G s r st).length ≤ 2) ∧
  ∀ A H', Same H H' → H A = none → LD K H' A (arrL G S n r f) → Q (.ref A) H'
theorem ok__law_arrivals {P : Program} {w : World} {K : PySem.W.Frag} {mg : Str → Option Value} {base : Heap} {C_Post : Addr} {f : Addr} {fd : FuncData} (F : Df K mg "_law_arrivals" s__law_arrivals f fd ["road", "sent", "receiver", "frame"]) (T : Txt K mg C_Post) : FnOk P w K mg base CX0 1 f fd ["road", "sent", "receiver", "frame"] (sp__law_arrivals K) := by
  refine F.ok sc__law_arrivals (fun vs H Q E h => ?_) (fun cdv A outer s H vs Q E hr h => ?_)
  · obtain ⟨v, X, n, R, G, rows, S, r, f, rfl, _⟩ := h
    rfl
  · obtain ⟨v, X, n, R, G, rows, S, r, f, rfl, hv, hG, hX, hrR, n1, f1, hd2, q⟩ := h
    have hrl := hG.1
    have hu := hu_of hr
    refine ⟨_, (pss_cons (ps_set (i := 4) sc__law_arrivals.nd rfl (Or.inl rfl) (pe_lst pa_nil))
      (pss_cons (ps_for PassesOwn.never rfl (pi_range1 rfl T.b_range (pa_cons (pe_callB (id := "len") (r := qLen K) c_len (by rfl) T.b_len (by decide +kernel) (pa_cons (pv 0) pa_nil)) pa_nil)) (pg_name (i := 5) sc__law_arrivals.nd rfl (Or.inl rfl)) (pss_one (ps_for PassesOwn.never rfl (pi_range1 rfl T.b_range (pa_cons (pe_op op_add (pv 3) pe_int) pa_nil)) (pg_name (i := 6) sc__law_arrivals.nd rfl (Or.inl rfl)) (pss_one (ps_if (pt_cmp (pc_din hu (pe_tup (pa_cons (pv 5) (pa_cons (pv 2) (pa_cons (pv 6) pa_nil)))) (pv 1))) (pss_cons (ps_set (i := 7) sc__law_arrivals.nd rfl (Or.inl rfl) (pe_ix (r := rIxT K) ix_tup (pe_ix (r := rIxT K) ix_tup (pv 0) (pv 5) (fun _ _ => rfl)) (pv 2) (fun _ _ => rfl)))
      (pss_cons (ps_set (i := 8) sc__law_arrivals.nd rfl (Or.inl rfl) (pe_ifExp (pt_cmpR op_lt (pv 6) (pe_callB (id := "len") (r := qLen K) c_len (by rfl) T.b_len (by decide +kernel) (pa_cons (pv 7) pa_nil)) (nomark _)) (pe_ix (r := rIxT K) ix_tup (pv 7) (pv 6) (fun _ _ => rfl)) (pe_tup (pa_cons pe_int pa_nil))))
      (pss_one (ps_for PassesOwn.never rfl (pi_tup (pv 8)) (pg_name (i := 9) sc__law_arrivals.nd rfl (Or.inl rfl)) (pss_one (ps_if (pt_cmpR op_eq (pe_op op_add (pv 6) (pv 9)) (pv 3) (nomark _)) (pss_one (ps_expr (pe_bmK (K := K) rfl PySem.F.plainAttrs_list PySem.F.slot_list_append PySem.F.type_list_append mt_append (pv 4) (pa_cons (pe_dget hu (pv 1) (pe_tup (pa_cons (pv 5) (pa_cons (pv 2) (pa_cons (pv 6) pa_nil)))) (fun _ _ => rfl)) pa_nil)))) pss_nil)))))) pss_nil)))))
      (pss_one (ps_ret (pv 4))))), ?_⟩
    try dsimp only [cxOf, Cx.nox, Cx.wish]
    refine st_of (σ' := [some _, some _, some _, some _, none, none, none, none, none, none]) rfl ?_
    wtm_at "jw"
    intro A hA
    have sA := same_new (o := .lst []) hA
    have hv1 := hv.same sA
    have hA1 : LD K (upd H A (.lst [])) A [] := .new hA .nil
    generalize upd H A (.lst []) = H1 at sA hv1 hA1 ⊢
    wtm_at "jw"
    refine f_range (fun i σ H' => Same H H' ∧ LD K H' A (((List.range i).flatMap (rowE G S r f)).map (·.2.2)) ∧ ∃ v5 v6 v7 v8 v9, σ = [some v, some (.ref X), some (.int (r : Int)), some (.int (f : Int)), some (.ref A), v5, v6, v7, v8, v9])
      ⟨sA, hA1, none, none, none, none, none, rfl⟩ (fun i σ H' hi h => ?_) (fun σ H' h => ?_)
    · obtain ⟨s2, hA2, v5, v6, v7, v8, v9, rfl⟩ := h
      have hi' : i < n := by omega
      have li : ((List.range i).flatMap (rowE G S r f)).length ≤ 10 * (100 * 2) := by
        refine Nat.le_trans (flat_len (c := 100 * 2) fun s hs => ?_) (by rw [List.length_range]; exact Nat.mul_le_mul (by omega) (Nat.le_refl _))
        unfold rowE
        refine Nat.le_trans (flat_len (c := 2) fun st _ => blk_len (hd2 s st (by have := List.mem_range.mp hs; omega))) ?_
        rw [List.length_range]
        exact Nat.mul_le_mul (by omega) (Nat.le_refl _)
      obtain ⟨cells, er, ec, _⟩ := dlG_fate hG hi' hrR (f := 0)
      have er' : rows[((i : Nat) : Int).toNat]? = some (.tuple cells) := by rw [Int.toNat_natCast]; exact er
      have ec' : cells[((r : Nat) : Int).toNat]? = some (.tuple ((G i r).map fD)) := by rw [Int.toNat_natCast]; exact ec
      have i0 : (0 : Int) ≤ (i : Int) := by omega
      have r0 : (0 : Int) ≤ (r : Int) := by omega
      rw [Int.zero_add]
      wtm_at "jw"
      refine f_range (fun j σ H' => Same H H' ∧ LD K H' A (((List.range i).flatMap (rowE G S r f) ++ (List.range j).flatMap (fun st => blkE G S r f i st)).map (·.2.2)) ∧ ∃ v6 v7 v8 v9, σ = [some v, some (.ref X), some (.int (r : Int)), some (.int (f : Int)), some (.ref A), some (.int (i : Int)), v6, v7, v8, v9])
        ⟨s2, by simpa using hA2, v6, v7, v8, v9, rfl⟩ (fun j σ H' hj h => ?_) (fun σ H' h => ?_)
      · obtain ⟨s3, hA3, v6, v7, v8, v9, rfl⟩ := h
        have hj' : j < f + 1 := by omega
        have lj : ((List.range j).flatMap (fun st => blkE G S r f i st)).length ≤ 100 * 2 := by
          refine Nat.le_trans (flat_len (c := 2) fun st _ => blk_len (hd2 i st hi')) ?_
          rw [List.length_range]
          exact Nat.mul_le_mul (by omega) (Nat.le_refl _)
        rw [Int.zero_add]
        rw [flat_snoc, ← List.append_assoc]
        have lp : ((List.range i).flatMap (rowE G S r f) ++ (List.range j).flatMap (fun st => blkE G S r f i st)).length ≤ 3000 := by rw [List.length_append]; omega
        generalize (List.range i).flatMap (rowE G S r f) ++ (List.range j).flatMap (fun st => blkE G S r f i st) = pre at hA3 lp ⊢
        wtm_at "jw1"
        refine i_ifS ?_
        wtm_at "js"
        refine i_din ?_
        wtm_at "jw"
        intro T hT
        have sT := same_new (o := .tup [.int (i : Int), .int (r : Int), .int (j : Int)]) hT
        have s4 := s3.trans sT
        have hA4 := hA3.same sT
        have hX4 := hX.same s4
        have hT4 : upd H' T (.tup [.int (i : Int), .int (r : Int), .int (j : Int)]) T = some (.tup ((key3 (i, r, j)).map kV)) := upd_same
        generalize upd H' T (.tup [.int (i : Int), .int (r : Int), .int (j : Int)]) = H4 at s4 hA4 hX4 hT4 ⊢
        wtm_at "jw"
        obtain ⟨o, hg, ho⟩ := hX4.look hT4
        refine ⟨X, o, rfl, hg, ?_⟩
        rcases ho with ⟨hlk, rfl⟩ | ⟨lv, L, hlk, rfl, tL⟩
        · have e1 : blkE G S r f i j = [] := by unfold blkE; rw [hlk]
          rw [e1, List.append_nil]
          refine ⟨_, rfl, ?_⟩
          rw [if_neg (by decide)]
          wtm_at "jw"
          exact ⟨s4, hA4, _, _, _, _, rfl⟩
        · have e1 : blkE G S r f i j = ((dlG G i r j).filter fun d => decide ((j : Int) + d = f)).map fun _ => ((i : Int), (j : Int), L) := by unfold blkE; rw [hlk]
          rw [e1]
          refine ⟨_, rfl, ?_⟩
          rw [if_pos (by rfl)]
          have hv4 := hv.same s4
          wtm_at "jif"
          rename_i y1 hy1 y2 hy2
          refine i_ifJ (fun u H' => Same H4 H' ∧ TD K H' u (.tuple ((dlG G i r j).map PyData.int))) (fun u H5 h => ?_) (fun R' hR => ?_)
          · obtain ⟨s5, tu⟩ := h
            obtain ⟨ua, ux, rfl, uS, uT⟩ := tu.tup_inv
            rw [uT.ints_inv] at uS
            have hA5 := hA4.same s5
            wtm_at "jw"
            refine f_tup (xs := (dlG G i r j).map V.int) (fun c σ H' => Same H H' ∧ Tps H5 H' ∧ LD K H' A ((pre ++ (((dlG G i r j).take c).filter fun d => decide ((j : Int) + d = f)).map fun _ => ((i : Int), (j : Int), L)).map (·.2.2)) ∧ ∃ v9, σ = [some v, some (.ref X), some (.int (r : Int)), some (.int (f : Int)), some (.ref A), some (.int (i : Int)), some (.int (j : Int)), some y2, some (.ref ua), v9])
              ⟨s4.trans s5, fun b => ⟨fun _ h => h, fun _ _ h => h⟩, by simpa using hA5, v9, rfl⟩ (fun c σ H' _ h => h.2.1.sq uS) (fun c z σ H' hc h => ?_) (fun σ H' h => ?_)
            · obtain ⟨s6, t6, hA6, v9, rfl⟩ := h
              obtain ⟨d, rfl, hd, htk, hcl⟩ := ints_at hc
              rw [htk, List.filter_append]
              have hdl := hd2 i j hi'
              have lfl := List.length_filter_le (fun d => decide ((j : Int) + d = (f : Int))) ((dlG G i r j).take c)
              rw [List.length_take] at lfl
              wtm_at "jw"
              refine c_dec (fun h => ?_) (fun h => ?_)
              · rw [List.filter_cons_of_pos (by simpa using h), List.filter_nil, pre_snoc]
                obtain ⟨us, hus, tus⟩ := hA6
                have hul := tus.len
                rw [List.length_map, List.length_append, List.length_map] at hul
                wtm_at "jw"
                refine i_dget ?_
                wtm_at "jw"
                intro T2 hT2
                have sT2 := same_new (o := .tup [.int (i : Int), .int (r : Int), .int (j : Int)]) hT2
                have hX7 := (hX.same s6).same sT2
                have hT7 : upd H' T2 (.tup [.int (i : Int), .int (r : Int), .int (j : Int)]) T2 = some (.tup ((key3 (i, r, j)).map kV)) := upd_same
                have hus7 := sT2 _ _ hus
                have tus7 := tus.same sT2
                have s7 := s6.trans sT2
                have t7 := t6.trans (Tps.of sT2)
                generalize upd H' T2 (.tup [.int (i : Int), .int (r : Int), .int (j : Int)]) = H7 at hX7 hT7 hus7 tus7 s7 t7 ⊢
                obtain ⟨o2, hg2, ho2⟩ := hX7.look hT7
                rw [hlk] at ho2
                rcases ho2 with ⟨h0, _⟩ | ⟨lv2, L2, hL2, rfl, tL2⟩
                · cases h0
                · cases hL2
                  refine ⟨X, lv2, rfl, hg2, ?_⟩
                  wtm_at "jw"
                  refine i_app hus7 (by rw [sizeLine_eq]; omega) ?_
                  refine ⟨put_same s7 hA, t7.trans (tps_put hus7), ?_, _, rfl⟩
                  rw [List.map_append]
                  exact LD.snoc hus7 tus7 tL2
              · rw [List.filter_cons_of_neg (by simpa using h), List.filter_nil, List.append_nil]
                wtm_at "jw"
                exact ⟨s6, t6, hA6, _, rfl⟩
            · obtain ⟨s6, t6, hA6, v9, rfl⟩ := h
              rw [List.length_map, List.take_length] at hA6
              exact ⟨s6, hA6, _, _, _, _, rfl⟩
          · obtain ⟨_, _, _, ef⟩ := dlG_fate hG hi' hrR (f := j)
            have j0 : (0 : Int) ≤ (j : Int) := by omega
            wtm_at "jw"
            refine c_dec (fun h => ?_) (fun h => ?_)
            · have hfl : j < ((G i r).map fD).length := by omega
              have ef' : ((G i r).map fD)[((j : Nat) : Int).toNat]? = some (.tuple ((dlG G i r j).map PyData.int)) := by
                rw [Int.toNat_natCast, ← ef]
                unfold fateD
                rw [List.getElem?_eq_getElem hfl]
                rfl
              wtm_at "jw"
              rename_i y3 hy3
              exact hR _ _ ⟨Same.refl _, hy3⟩
            · have ef' : (dlG G i r j).map PyData.int = [PyData.int 0] := by
                unfold fateD at ef
                rw [List.getElem?_eq_none (by omega)] at ef
                exact (PyData.tuple.inj ef).symm
              wtm_at "jw"
              intro T0 hT0
              refine hR _ _ ⟨same_new hT0, ?_⟩
              rw [ef']
              exact TD.new hT0 (.cons (.int _) .nil)
      · obtain ⟨s3, hA3, v6, v7, v8, v9, rfl⟩ := h
        rw [show (((f : Int) + 1).toNat) = f + 1 by omega] at hA3
        refine ⟨s3, ?_, _, _, _, _, _, rfl⟩
        rw [flat_snoc]
        exact hA3
    · obtain ⟨s2, hA2, v5, v6, v7, v8, v9, rfl⟩ := h
      rw [show ((rows.length : Nat) : Int).toNat = n by omega] at hA2
      wtm_at "jw"
      exact q A _ s2 hA hA2
def SentOk (n R f : Nat) (S : Sent) : Prop := (S.map (·.1)).Nodup ∧ ∀ e ∈ S, e.1.1 < n ∧ e.1.2.1 < R ∧ e.1.2.1 ≠ e.1.1 ∧ e.1.2.2 < f ∧ LetD e.1.1 e.1.2.2 e.2
/-- a road's post and what was sent by it, ahead of frame f -/
structure PS (K : PySem.W.Frag) (C : Addr) (H : Hp) (pa D : Addr) (v : V) (X : Addr) (n R : Nat) (G : RG) (rows : List PyData) (S : Sent) (f : Nat) (bs : List Bag) : Prop where
  post : PostAt K C H pa v D bs
  sent : SentAt K H X S
  road : TD K H v (.tuple rows)
  cons : ∀ k, conB bs k = bagOf G S k
  ok : SentOk n R f S
  bl : bs.length ≤ 10 * S.length
theorem PS.same {K : PySem.W.Frag} {C : Addr} {H H' : Hp} {pa D : Addr} {v : V} {X : Addr} {n R : Nat} {G : RG} {rows : List PyData} {S : Sent} {f : Nat} {bs : List Bag} (p : PS K C H pa D v X n R G rows S f bs) (s : Same H H') : PS K C H' pa D v X n R G rows S f bs := ⟨p.post.same s, p.sent.same s, p.road.same s, p.cons, p.ok, p.bl⟩
/-- the road's facts -/
structure RoadF (n R fr late lost : Nat) (G : RG) (rows : List PyData) : Prop where
  g : RoadG n R G rows
  good : GoodG n R fr late lost G
  diag : ∀ s f, s < n → (dlG G s s f).length ≤ 2
  n4 : n ≤ 4
  nR : n ≤ R
  R5 : R ≤ 5
  la : late < 4
  lo : lost < 4
theorem RoadF.dl2 {n R fr late lost : Nat} {G : RG} {rows : List PyData} (h : RoadF n R fr late lost G rows) {s r : Nat} (f : Nat) (hs : s < n) (hr : r < R) : (dlG G s r f).length ≤ 2 := by
  by_cases e : r = s
  · rw [e]; exact h.diag s f hs
  · exact (dlG_ok h.good hs hr e).2
theorem arr_len {n R fr late lost : Nat} {G : RG} {rows : List PyData} (h : RoadF n R fr late lost G rows) {S : Sent} {r f : Nat} (hr : r < R) (hf : f < 100) : (arrE G S n r f).length ≤ 800 := by
  unfold arrE
  refine Nat.le_trans (flat_len (c := 100 * 2) fun s hs => ?_) ?_
  · refine Nat.le_trans (flat_len (c := 2) fun st _ => blk_len (h.dl2 st (List.mem_range.mp hs) hr)) ?_
    rw [List.length_range]
    exact Nat.mul_le_mul (by omega) (Nat.le_refl _)
  · rw [List.length_range]
    have := h.n4
    omega
theorem SentOk.pos {n R fr late lost f : Nat} {G : RG} {S : Sent} {rows : List PyData} (h : SentOk n R f S) (g : RoadF n R fr late lost G rows) : ∀ e ∈ S, e.1.1 < n ∧ ∀ d ∈ dlG G e.1.1 e.1.2.1 e.1.2.2, 0 ≤ d := fun e he => by
  obtain ⟨h1, h2, h3, _⟩ := h.2 e he
  exact ⟨h1, fun d hd => ((dlG_ok g.good h1 h2 h3).1 d hd).1⟩
theorem lkS_mem {k : K3} {d : PyData} : ∀ {S : Sent}, lkS S k = some d → ∃ e ∈ S, e.2 = d
  | [], h => by cases h
  | e :: S, hl => by
    rw [lkS] at hl
    by_cases he : e.1 = k
    · rw [if_pos he] at hl
      exact ⟨e, List.mem_cons_self, Option.some.inj hl⟩
    · rw [if_neg he] at hl
      obtain ⟨c, hc, h⟩ := lkS_mem hl
      exact ⟨c, List.mem_cons_of_mem _ hc, h⟩
theorem arrL_shp {n R f : Nat} {G : RG} {S : Sent} {m r k : Nat} (h : SentOk n R f S) : ∀ d ∈ arrL G S m r k, Shp 3 d := fun d hd => by
  obtain ⟨x, hx, rfl⟩ := List.mem_map.mp hd
  unfold arrE at hx
  obtain ⟨s, _, hx⟩ := List.mem_flatMap.mp hx
  obtain ⟨st, _, hx⟩ := List.mem_flatMap.mp hx
  obtain ⟨_, _, hl⟩ := blk_mem hx
  have : ∃ e ∈ S, e.2 = x.2.2 := lkS_mem hl
  obtain ⟨e, he, h2⟩ := this
  rw [← h2]
  exact (h.2 e he).2.2.2.2.shp
def sp__law_brings (K : PySem.W.Frag) (C_Post : Addr) : Sp := fun vs H Q _ => ∃ (pa D X : Addr) (v : V) (n R fr late lost : Nat) (G : RG) (rows : List PyData) (S : Sent) (g : Nat) (bs : List Bag) (r f : Nat), vs = [.ref pa, v, .ref X, .int (r : Int), .int (f : Int)] ∧
  PS K C_Post H pa D v X n R G rows S g bs ∧ RoadF n R fr late lost G rows ∧ r < R ∧ f < 100 ∧ ∀ H', Same H H' → Q (.bl true) H'
theorem ok__law_brings {P : Program} {w : World} {K : PySem.W.Frag} {mg : Str → Option Value} {base : Heap} {C_Post : Addr} {f : Addr} {fd : FuncData} (F : Df K mg "_law_brings" s__law_brings f fd ["post", "road", "sent", "receiver", "frame"]) (T : Txt K mg C_Post)
    (c_Post_arriving : Mt P w K mg base 1 C_Post "arriving" (sp_Post_arriving K C_Post))
    (c__law_arrivals : Cl P w K mg base 1 "_law_arrivals" (sp__law_arrivals K)) : FnOk P w K mg base CX0 2 f fd ["post", "road", "sent", "receiver", "frame"] (sp__law_brings K C_Post) := by
  refine F.ok sc__law_brings (fun vs H Q E h => ?_) (fun cdv A outer s H vs Q E hr h => ?_)
  · obtain ⟨pa, D, X, v, n, R, fr, late, lost, G, rows, S, g, bs, r, f, rfl, _⟩ := h
    rfl
  · obtain ⟨pa, D, X, v, n, R, fr, late, lost, G, rows, S, g, bs, r, f, rfl, hps, hrf, hrR, f1, q⟩ := h
    obtain ⟨dx, hob⟩ := hps.post.ob
    have hlen : (conB bs ((r : Int), (f : Int))).length ≤ 900 := by
      rw [hps.cons, ← (arr_perm S hps.ok.1 (hps.ok.pos hrf)).length_eq]
      exact Nat.le_trans (arr_len hrf hrR f1) (by decide)
    have ho := hps.ok
    refine ⟨_, (pss_cons (ps_set (i := 5) sc__law_brings.nd rfl (Or.inl rfl) (pe_mtc c_Post_arriving T.cl_Post hr (by decide) (pv 0) (pa_cons (pv 3) (pa_cons (pv 4) pa_nil))))
      (pss_cons (ps_if (PW.pt (pw_or (pt_not (pt_val (pe_callB (id := "isinstance") (r := rIsi K) call_isi (by rfl) T.b_isinstance (by decide +kernel) (pa_cons (pv 5) (pa_cons (pe_bltn (v := .ty "list") (u := Value.type "list") (by rfl) T.b_list (by decide +kernel) rfl) pa_nil))))) (pw_or1 (pt_cmpR (r := rNeD K) (op_neD hr.units) (pv 5) (pe_cl c__law_arrivals hr (by decide) rfl (pa_cons (pv 1) (pa_cons (pv 2) (pa_cons (pv 3) (pa_cons (pv 4) pa_nil))))) (nomark _))))) (pss_one (ps_ret pe_bl)) pss_nil)
      (pss_cons (ps_expr (pe_bmK (K := K) rfl PySem.F.plainAttrs_list PySem.F.slot_list_append PySem.F.type_list_append mt_append (pv 5) (pa_cons (pe_tup (pa_cons pe_str (pa_cons pe_int (pa_cons (pv 4) (pa_cons (pe_tup pa_nil) (pa_cons (pe_tup pa_nil) (pa_cons pe_non pa_nil))))))) pa_nil)))
      (pss_one (ps_ret pe_bl))))), ?_⟩
    try dsimp only [cxOf, Cx.nox, Cx.wish]
    refine st_of (σ' := [some _, some _, some _, some _, some _, none]) rfl ?_
    wtm_at "jw"
    refine ⟨pa, dx, _, rfl, hob, pf_no v D (by decide +kernel) (by decide +kernel), ?_⟩
    wtm_at "jw"
    refine ⟨pa, D, v, bs, r, f, rfl, hps.post, hlen, fun T ss H1 s1 hT pm pw hL => ?_⟩
    rw [hps.cons] at pm
    have et : ss.map (·.2.2) = arrL G S n r f := arr_told ho.1 (ho.pos hrf) pm pw
    rw [et] at hL
    have hps1 := hps.same s1
    obtain ⟨us, hus, tus⟩ := hL
    wtm_at "jw"
    refine i_isi (.base (.lst hus)) rfl ?_
    wtm_at "jw"
    refine ⟨v, X, n, R, G, rows, S, r, f, rfl, hps1.road, hrf.g, hps1.sent, hrR, by have := hrf.n4; omega, f1, fun s st hs => hrf.dl2 st hs hrR, fun A2 H2 s2 hA2 hL2 => ?_⟩
    obtain ⟨us2, hus2, tus2⟩ := hL2
    have hus1 := s2 _ _ hus
    refine i_neS' (d := .list (arrL G S n r f)) (n := 4) (.lst (SqL.of hus1) (tus.same s2).dp) (.lst (SqL.of hus2) tus2.dp) (Shp.lst (arrL_shp ho)) (by decide) ?_
    have hul : us.length ≤ 900 := by
      rw [tus.len, ← et, List.length_map]
      have := pm.length_eq
      rw [hps.cons] at hlen
      omega
    have s12 := s1.trans s2
    wtm_at "jw"
    intro T1 hT1
    have s3 := s12.trans (same_new (o := .tup []) hT1)
    have hus3 := same_new (o := .tup []) hT1 _ _ hus1
    generalize upd H2 T1 (.tup []) = H3 at s3 hus3 ⊢
    wtm_at "jw"
    intro T2 hT2
    have s4 := s3.trans (same_new (o := .tup []) hT2)
    have hus4 := same_new (o := .tup []) hT2 _ _ hus3
    generalize upd H3 T2 (.tup []) = H4 at s4 hus4 ⊢
    wtm_at "jw"
    intro T3 hT3
    have s5 := s4.trans (same_new (o := .tup [.str (Str.ofString "letter"), .int 0, .int (f : Int), .ref T1, .ref T2, .non]) hT3)
    have hus5 := same_new (o := .tup [.str (Str.ofString "letter"), .int 0, .int (f : Int), .ref T1, .ref T2, .non]) hT3 _ _ hus4
    generalize upd H4 T3 (.tup [.str (Str.ofString "letter"), .int 0, .int (f : Int), .ref T1, .ref T2, .non]) = H5 at s5 hus5 ⊢
    wtm_at "jw"
    try refine i_app hus5 (by rw [sizeLine_eq]; omega) ?_
    wtm_at "jw"
    exact q _ (put_same s5 hT)
theorem bag_len {n R fr late lost f : Nat} {G : RG} {S : Sent} {rows : List PyData} (h : SentOk n R f S) (g : RoadF n R fr late lost G rows) (k : Int × Int) : (bagOf G S k).length ≤ S.length * 2 := by
  unfold bagOf
  refine flat_len fun e he => ?_
  obtain ⟨h1, h2, h3, _⟩ := h.2 e he
  unfold addD
  rw [List.length_map]
  exact Nat.le_trans (List.length_filter_le _ _) (dlG_ok g.good h1 h2 h3).2
theorem conB_mem : ∀ {bs : List Bag}, (bs.map (·.1)).Nodup → ∀ b ∈ bs, conB bs b.1 = b.2.2
  | c :: r, nd, b, hb => by
    rw [List.map_cons, List.nodup_cons] at nd
    rcases List.mem_cons.mp hb with rfl | hb
    · rw [conB, if_pos rfl]
    · have : ¬ c.1 = b.1 := fun z => nd.1 (by rw [z]; exact List.mem_map.mpr ⟨b, hb, rfl⟩)
      rw [conB, if_neg this]
      exact conB_mem nd.2 b hb
theorem PostAt.own_some {K : PySem.W.Frag} {C : Addr} {H : Hp} {a : Addr} {v : V} {D : Addr} {bs : List Bag} (p : PostAt K C H a v D bs) {b : Addr} (h : own D bs b) : ∃ o, H b = some o := by
  rcases h with rfl | h
  · exact ⟨_, p.dct⟩
  · obtain ⟨c, hc, rfl⟩ := List.mem_map.mp h
    obtain ⟨us, hu, _⟩ := p.ls c hc
    exact ⟨_, hu⟩
theorem drawAt_keep {H H' : Hp} {p a : Addr} (d : DrawAt H p a) (h1 : ∀ o, H p = some o → H' p = some o) (h2 : ∀ o, H a = some o → H' a = some o) : DrawAt H' p a := by
  obtain ⟨ns, pos, pend, seed, e1, e2, e3, e4⟩ := d
  exact ⟨ns, pos, pend, seed, h1 _ e1, h2 _ e2, e3, e4⟩
theorem drawAt_two {H : Hp} {p a : Addr} (d : DrawAt H p a) : (∃ o, H p = some o) ∧ ∃ o, H a = some o := by
  obtain ⟨ns, pos, pend, seed, e1, e2, _⟩ := d
  exact ⟨⟨_, e1⟩, ⟨_, e2⟩⟩
def kP (H : Hp) : V → Int × Int
  | .ref t => match H t with
    | some (.tup [.int i, .int j]) => (i, j)
    | _ => (0, 0)
  | _ => (0, 0)
def adr : V → Addr
  | .ref t => t
  | _ => 0
theorem kP_of {H : Hp} {t : Addr} {p : Int × Int} (h : H t = some (.tup [.int p.1, .int p.2])) : kP H (.ref t) = p := by
  simp only [kP, h]
theorem Prw.keys {H : Hp} : ∀ {rs : List Addr} {rows : List (Int × Int)}, Prw H rs rows → (rs.map V.ref).map (kP H) = rows
  | [], [], _ => rfl
  | r :: rs, p :: rows, h => by
    rw [List.map_cons, List.map_cons, kP_of (h.2 0 r p rfl rfl), Prw.keys (rs := rs) (rows := rows) ⟨by simpa using h.1, fun i r' p' h1 h2 => h.2 (i + 1) r' p' (by simpa using h1) (by simpa using h2)⟩]
  | [], _ :: _, h => by cases h.1
  | _ :: _, [], h => by cases h.1
theorem postAt_move {K : PySem.W.Frag} {C : Addr} {H H' : Hp} {a p : Addr} {v : V} {D : Addr} {bs : List Bag} (h : PostAt K C H a v D bs) (t : Tps H H') (k : ∀ b o, H b = some o → b ≠ p → H' b = some o) (na : a ≠ p) (no : ¬ own D bs p) : PostAt K C H' a v D bs := by
  obtain ⟨⟨dx, o1⟩, o2, o3, o4, o5⟩ := h
  refine ⟨⟨dx, k _ _ o1 na⟩, k _ _ o2 (fun z => no (.inl z.symm)), fun b hb => ?_, o4, o5⟩
  obtain ⟨us, hu, tu⟩ := o3 b hb
  exact ⟨us, k _ _ hu (fun z => no (.inr (List.mem_map.mpr ⟨b, hb, z⟩))), tu.tps t⟩
theorem sentAt_move {K : PySem.W.Frag} {H H' : Hp} {X : Addr} {S : Sent} (h : SentAt K H X S) (t : Tps H H') (k : ∀ o, H X = some o → H' X = some o) : SentAt K H' X S := by
  obtain ⟨vl, h1, h2⟩ := h
  exact ⟨vl, k _ h1, h2.tps t⟩
theorem sentAt_dct {K : PySem.W.Frag} {H : Hp} {X : Addr} {S : Sent} (h : SentAt K H X S) : ∃ kvs, H X = some (.dT kvs) := by
  obtain ⟨vl, h1, _⟩ := h
  exact ⟨_, h1⟩
theorem sentOk_snoc {n R f : Nat} {S : Sent} {s r : Nat} {L : PyData} (h : SentOk n R (f + 1) S) (hn : (s, r, f) ∉ S.map (·.1)) (hs : s < n) (hr : r < R) (ne : r ≠ s) (hl : LetD s f L) : SentOk n R (f + 1) (S ++ [((s, r, f), L)]) := by
  refine ⟨?_, fun e he => ?_⟩
  · rw [List.map_append, List.nodup_append]
    refine ⟨h.1, by simp, fun x hx y hy e => ?_⟩
    simp only [List.map_cons, List.map_nil, List.mem_singleton] at hy
    rw [e, hy] at hx
    exact hn hx
  · rcases List.mem_append.mp he with he | he
    · exact h.2 e he
    · rw [List.mem_singleton.mp he]
      exact ⟨hs, hr, ne, Nat.lt_succ_self _, hl⟩
/-- the ways of a frame -/
def waysN (sl : List Nat) (R : Nat) : List (Nat × Nat) := sl.flatMap fun s => ((List.range R).filter fun r => decide (r ≠ s)).map fun r => (s, r)
def toI2 (q : Nat × Nat) : Int × Int := ((q.1 : Int), (q.2 : Int))
theorem mem_ways {sl : List Nat} {R s r : Nat} : (s, r) ∈ waysN sl R ↔ s ∈ sl ∧ r < R ∧ r ≠ s := by
  unfold waysN
  rw [List.mem_flatMap]
  constructor
  · rintro ⟨s', hs, h⟩
    obtain ⟨r', hr, e⟩ := List.mem_map.mp h
    cases e
    obtain ⟨h1, h2⟩ := List.mem_filter.mp hr
    exact ⟨hs, List.mem_range.mp h1, of_decide_eq_true h2⟩
  · rintro ⟨h1, h2, h3⟩
    exact ⟨s, h1, List.mem_map.mpr ⟨r, List.mem_filter.mpr ⟨List.mem_range.mpr h2, decide_eq_true h3⟩, rfl⟩⟩
theorem ways_nodup {sl : List Nat} (R : Nat) (h : sl.Nodup) : (waysN sl R).Nodup := by
  unfold waysN
  rw [List.Nodup, List.pairwise_flatMap]
  refine ⟨fun s _ => ?_, h.imp fun hne x hx y hy e => ?_⟩
  · rw [List.pairwise_map]
    refine (List.nodup_range.filter _).imp fun hne e => hne (Prod.ext_iff.mp e).2
  · obtain ⟨_, _, rfl⟩ := List.mem_map.mp hx
    obtain ⟨_, _, rfl⟩ := List.mem_map.mp hy
    exact hne (Prod.ext_iff.mp e).1
theorem ways_len {sl : List Nat} {R : Nat} (h : sl.length ≤ 4) (hR : R ≤ 5) : (waysN sl R).length ≤ 20 := by
  refine Nat.le_trans (flat_len (c := R) fun s _ => ?_) (Nat.mul_le_mul h hR)
  rw [List.length_map]
  exact Nat.le_trans (List.length_filter_le _ _) (by simp)
theorem ways_snoc (sl : List Nat) (s R : Nat) : waysN (sl ++ [s]) R = waysN sl R ++ ((List.range R).filter fun r => decide (r ≠ s)).map fun r => (s, r) := by
  unfold waysN
  rw [List.flatMap_append]
  simp
def kq (f : Nat) (q : Int × Int) : K3 := (q.1.toNat, q.2.toNat, f)
def sp__law_is_sent (K : PySem.W.Frag) (C_Post : Addr) : Sp := fun vs H Q _ => ∃ (p a SL pa D X : Addr) (v : V) (n R fr late lost : Nat) (G : RG) (rows : List PyData) (S : Sent) (f : Nat) (bs : List Bag) (sl : List Nat), vs = [.ref p, .ref pa, .ref X, .ref SL, .int (R : Int), .int (f : Int)] ∧
  DrawAt H p a ∧ PS K C_Post H pa D v X n R G rows S f bs ∧ RoadF n R fr late lost G rows ∧ H SL = some (.lst (sl.map fun (k : Nat) => V.int (k : Int))) ∧ sl.Nodup ∧ sl.length ≤ 4 ∧ (∀ s ∈ sl, s < n) ∧ f < 40 ∧ S.length ≤ 20 * f ∧ X ≠ p ∧ X ≠ a ∧ pa ≠ p ∧ ¬ own D bs p ∧ ¬ own D bs a ∧ ¬ own D bs X ∧ X ≠ SL ∧ ¬ own D bs SL ∧
  ∀ (bs' : List Bag) (S' : Sent) H', DrawAt H' p a → PS K C_Post H' pa D v X n R G rows S' (f + 1) bs' → Tps H H' → (∀ b o, H b = some o → b ≠ p → b ≠ X → ¬ own D bs b → H' b = some o) → (∀ b, own D bs' b → own D bs b ∨ H b = none) → S'.length ≤ 20 * (f + 1) → (∀ k ∈ S.map (·.1), k ∈ S'.map (·.1)) → (∀ s ∈ sl, ∀ r, r < R → r ≠ s → (s, r, f) ∈ S'.map (·.1)) → Q (.bl true) H'
theorem ok__law_is_sent {P : Program} {w : World} {K : PySem.W.Frag} {mg : Str → Option Value} {base : Heap} {C_Post : Addr} {f : Addr} {fd : FuncData} (F : Df K mg "_law_is_sent" s__law_is_sent f fd ["d", "post", "sent", "senders", "receivers", "frame"]) (T : Txt K mg C_Post)
    (c__law_shuffled : Cl P w K mg base 2 "_law_shuffled" (sp__law_shuffled K))
    (c__law_letter : Cl P w K mg base 2 "_law_letter" (sp__law_letter K))
    (c_Post_send : Mt P w K mg base 1 C_Post "send" (sp_Post_send K C_Post)) : FnOk P w K mg base CX0 3 f fd ["d", "post", "sent", "senders", "receivers", "frame"] (sp__law_is_sent K C_Post) := by
  refine F.ok sc__law_is_sent (fun vs H Q E h => ?_) (fun cdv A outer s H vs Q E hr h => ?_)
  · obtain ⟨p, a, SL, pa, D, X, v, n, R, fr, late, lost, G, rows, S, f, bs, sl, rfl, _⟩ := h
    rfl
  · obtain ⟨p, a, SL, pa, D, X, v, n, R, fr, late, lost, G, rows, S, f, bs, sl, rfl, d0, hps, hrf, hSL, snd, sl4, sln, f1, Sl, nXp, nXa, npp, nop, noa, noX, nXS, noS, q⟩ := h
    have R5 := hrf.R5
    have hu := hu_of hr
    refine ⟨_, (pss_cons (ps_set (i := 6) sc__law_is_sent.nd rfl (Or.inl rfl) (pe_lst pa_nil))
      (pss_cons (ps_for PassesOwn.never rfl (pi_list (pv 3)) (pg_name (i := 7) sc__law_is_sent.nd rfl (Or.inl rfl)) (pss_one (ps_for PassesOwn.never rfl (pi_range1 rfl T.b_range (pa_cons (pv 4) pa_nil)) (pg_name (i := 8) sc__law_is_sent.nd rfl (Or.inl rfl)) (pss_one (ps_if (pt_cmpR op_ne (pv 8) (pv 7) (nomark _)) (pss_one (ps_expr (pe_bmK (K := K) rfl PySem.F.plainAttrs_list PySem.F.slot_list_append PySem.F.type_list_append mt_append (pv 6) (pa_cons (pe_tup (pa_cons (pv 7) (pa_cons (pv 8) pa_nil))) pa_nil)))) pss_nil)))))
      (pss_cons (ps_for PassesOwn.never rfl (pi_list (pe_cl c__law_shuffled hr (by decide) rfl (pa_cons (pv 0) (pa_cons (pv 6) pa_nil)))) (pg_tupK (K := K) rfl rfl (pgs_cons (pg_name (i := 7) sc__law_is_sent.nd rfl (Or.inl rfl)) (pgs_cons (pg_name (i := 8) sc__law_is_sent.nd rfl (Or.inl rfl)) pgs_nil))) (pss_cons (ps_set (i := 9) sc__law_is_sent.nd rfl (Or.inl rfl) (pe_cl c__law_letter hr (by decide) rfl (pa_cons (pv 0) (pa_cons (pv 7) (pa_cons (pv 5) pa_nil)))))
      (pss_cons (ps_if (pt_cmpR o_notN (pe_mtc c_Post_send T.cl_Post hr (by decide) (pv 1) (pa_cons (pv 7) (pa_cons (pv 8) (pa_cons (pv 5) (pa_cons (pv 9) pa_nil))))) pe_non (nomark _)) (pss_one (ps_ret pe_bl)) pss_nil)
      (pss_one (ps_dput hu (pv 2) (pe_tup (pa_cons (pv 7) (pa_cons (pv 8) (pa_cons (pv 5) pa_nil)))) (pv 9) rfl)))))
      (pss_one (ps_ret pe_bl))))), ?_⟩
    try dsimp only [cxOf, Cx.nox, Cx.wish]
    refine st_of (σ' := [some _, some _, some _, some _, some _, some _, none, none, none, none]) rfl ?_
    wtm_at "jw"
    intro PL hPL
    have s1 := same_new (o := .lst []) hPL
    have hP1 : LPr (upd H PL (.lst [])) PL [] := ⟨[], upd_same, .nil⟩
    have hSL1 := s1 _ _ hSL
    generalize upd H PL (.lst []) = H1 at s1 hP1 hSL1 ⊢
    wtm_at "jw"
    refine f_list (xs := sl.map fun (k : Nat) => V.int (k : Int)) (fun i σ H' => Same H H' ∧ LPr H' PL ((waysN (sl.take i) R).map toI2) ∧ ∃ v7 v8, σ = [some (.ref p), some (.ref pa), some (.ref X), some (.ref SL), some (.int (R : Int)), some (.int (f : Int)), some (.ref PL), v7, v8, none])
      ⟨s1, by simpa [waysN] using hP1, none, none, rfl⟩ (fun i σ H' _ h => SqL.of (h.1 _ _ hSL)) (fun i x σ H' hi h => ?_) (fun σ H' h => ?_)
    · obtain ⟨s2, hP2, v7, v8, rfl⟩ := h
      rw [List.getElem?_map] at hi
      obtain ⟨sn, hsn⟩ : ∃ sn, sl[i]? = some sn := by
        cases e : sl[i]? with
        | none => rw [e] at hi; cases hi
        | some z => exact ⟨z, rfl⟩
      rw [hsn] at hi
      cases hi
      have htk : sl.take (i + 1) = sl.take i ++ [sn] := by rw [List.take_add_one, hsn]; rfl
      have hil := (List.getElem?_eq_some_iff.mp hsn).1
      rw [htk, ways_snoc]
      have lw := ways_len (sl := sl.take i) (R := R) (by rw [List.length_take]; omega) R5
      generalize waysN (sl.take i) R = ws at hP2 lw ⊢
      wtm_at "jw"
      refine f_range (fun j σ H' => Same H H' ∧ LPr H' PL ((ws ++ ((List.range j).filter fun r => decide (r ≠ sn)).map fun r => (sn, r)).map toI2) ∧ ∃ v8, σ = [some (.ref p), some (.ref pa), some (.ref X), some (.ref SL), some (.int (R : Int)), some (.int (f : Int)), some (.ref PL), some (.int (sn : Int)), v8, none])
        ⟨s2, by simpa using hP2, v8, rfl⟩ (fun j σ H' hj h => ?_) (fun σ H' h => ?_)
      · obtain ⟨s3, ⟨rs, hrs, wr⟩, v8, rfl⟩ := h
        have hj' : j < R := by simpa using hj
        have hrl := wr.1
        rw [List.length_map, List.length_append, List.length_map] at hrl
        have hfl := List.length_filter_le (fun r => decide (r ≠ sn)) (List.range j)
        rw [List.length_range] at hfl
        rw [Int.zero_add, List.range_succ, List.filter_append]
        wtm_at "jw"
        refine c_decN (fun h => ?_) (fun h => ?_)
        · have hne : j ≠ sn := by omega
          rw [List.filter_cons_of_pos (by simpa using hne), List.filter_nil]
          wtm_at "jw"
          intro T hT
          have hrsT := same_new (o := .tup [.int (sn : Int), .int (j : Int)]) hT _ _ hrs
          have hsm : (rs.map V.ref).length < sizeLine := small1000 (by rw [List.length_map]; omega)
          wtm_at "jw"
          refine ⟨put_same (s3.trans (same_new hT)) hPL, ?_, _, rfl⟩
          have := LPr.add (x := (sn : Int)) (y := (j : Int)) hrs wr hT
          have e : ∀ F : List Nat, (ws ++ (F ++ [j]).map fun r => (sn, r)).map toI2 = (ws ++ F.map fun r => (sn, r)).map toI2 ++ [((sn : Int), (j : Int))] := fun F => by simp [toI2]
          rw [e]
          exact this
        · have hne : ¬ j ≠ sn := by omega
          rw [List.filter_cons_of_neg (by simpa using hne), List.filter_nil, List.append_nil]
          wtm_at "jw"
          exact ⟨s3, ⟨rs, hrs, wr⟩, _, rfl⟩
      · obtain ⟨s3, hP3, v8, rfl⟩ := h
        rw [show ((R : Nat) : Int).toNat = R from Int.toNat_natCast R] at hP3
        exact ⟨s3, hP3, _, _, rfl⟩
    · obtain ⟨s2, ⟨rs, hrs, wr⟩, v7, v8, rfl⟩ := h
      rw [List.length_map, List.take_length] at wr
      have lw := ways_len (sl := sl) (R := R) sl4 R5
      have hrl := wr.1
      rw [List.length_map] at hrl
      wtm_at "jw"
      refine ⟨p, a, PL, rs.map V.ref, rfl, d0.same s2, .inl (SqL.of hrs), by rw [List.length_map]; omega, fun YL ys H3 e3 hYL hY3 perm => ?_⟩
      have t3 := e3.tps (d0.same s2)
      have wr3 := wr.tps t3
      have hYH := s2.free hYL
      have hd3 := e3.at_
      -- H to H3
      have k3 : ∀ b o, H b = some o → b ≠ p → H3 b = some o := fun b o hb hn => e3.kp _ _ (s2 _ _ hb) hn
      have nYp : YL ≠ p := (d0.same s2).ne_none hYL
      have hnp3 : ∀ b, own D bs b → b ≠ p := fun b hb z => nop (z ▸ hb)
      have hps3 : PS K C_Post H3 pa D v X n R G rows S (f + 1) bs := by
        obtain ⟨⟨⟨dx, o1⟩, o2, o3, o4, o5⟩, ⟨vl, x1, x2⟩, r1, c1, ⟨k1, k2⟩, b1⟩ := hps
        have tH := (Tps.of s2).trans t3
        refine ⟨⟨⟨dx, k3 _ _ o1 npp⟩, k3 _ _ o2 (hnp3 _ (.inl rfl)), fun b hb => ?_, o4, o5⟩, ⟨vl, k3 _ _ x1 nXp, x2.tps tH⟩, r1.tps tH, c1, ⟨k1, fun e he => ?_⟩, b1⟩
        · obtain ⟨us, hu, tu⟩ := o3 b hb
          exact ⟨us, k3 _ _ hu (hnp3 _ (.inr (List.mem_map.mpr ⟨b, hb, rfl⟩))), tu.tps tH⟩
        · obtain ⟨z1, z2, z3, z4, z5⟩ := k2 e he
          exact ⟨z1, z2, z3, by omega, z5⟩
      have old : ∀ e ∈ S, e.1.2.2 < f := fun e he => (hps.ok.2 e he).2.2.2.1
      obtain ⟨qs, hqs, hqp⟩ : ∃ qs : List (Int × Int), (∀ (i : Nat) (y : V), ys[i]? = some y → ∃ t z, y = .ref t ∧ qs[i]? = some z ∧ H3 t = some (.tup [.int z.1, .int z.2])) ∧ qs.Perm ((waysN sl R).map toI2) := by
        refine ⟨ys.map (kP H3), fun i y hy => ?_, ?_⟩
        · obtain ⟨j, hj⟩ := List.getElem?_of_mem (perm.mem_iff.mp (List.mem_of_getElem? hy))
          obtain ⟨t, z, rfl, _, _, ht, _⟩ := wr3.at hj
          exact ⟨t, z, rfl, by rw [List.getElem?_map, hy]; exact congrArg some (kP_of ht), ht⟩
        · have := perm.map (kP H3)
          rw [wr3.keys] at this
          exact this
      have hql : ys.length = qs.length := by
        have h1 := perm.length_eq
        have h2 := hqp.length_eq
        rw [List.length_map] at h1 h2
        omega
      have hql20 : qs.length ≤ 20 := by
        have h2 := hqp.length_eq
        rw [List.length_map] at h2
        omega
      have hqn : (qs.map (kq f)).Nodup := by
        have h1 : (((waysN sl R).map toI2).map (kq f)).Nodup := by
          rw [List.map_map]
          refine List.Pairwise.map _ (fun x y hne e => hne ?_) (ways_nodup R snd)
          have e1 := (Prod.ext_iff.mp e).1
          have e2 := (Prod.ext_iff.mp (Prod.ext_iff.mp e).2).1
          exact Prod.ext (by simpa [kq, toI2] using e1) (by simpa [kq, toI2] using e2)
        exact (hqp.map (kq f)).nodup_iff.mpr h1
      wtm_at "jw"
      refine f_list (xs := ys) (fun i σ H' => DrawAt H' p a ∧ H' YL = some (.lst ys) ∧ Tps H3 H' ∧ (∀ b o, H3 b = some o → b ≠ p → b ≠ X → ¬ own D bs b → H' b = some o) ∧ (∃ bi Si, PS K C_Post H' pa D v X n R G rows Si (f + 1) bi ∧ Si.map (·.1) = S.map (·.1) ++ (qs.take i).map (kq f) ∧ (∀ b, own D bi b → own D bs b ∨ H3 b = none)) ∧
          ∃ v7 v8 v9, σ = [some (.ref p), some (.ref pa), some (.ref X), some (.ref SL), some (.int (R : Int)), some (.int (f : Int)), some (.ref PL), v7, v8, v9])
        ⟨hd3, hY3, fun b => ⟨fun _ h => h, fun _ _ h => h⟩, fun b o hb _ _ _ => hb, ⟨bs, S, hps3, by simp, fun b hb => .inl hb⟩, v7, v8, none, rfl⟩ (fun i σ H' _ h => SqL.of h.2.1) (fun i y σ H' hi h => ?_) (fun σ H' h => ?_)
      · obtain ⟨d4, hY4, t4, fr4, ⟨bi, Si, hpi, hki, owi⟩, v7, v8, v9, rfl⟩ := h
        obtain ⟨yt, qz, rfl, hqi, hyt⟩ := hqs i _ hi
        have hqz := hqp.mem_iff.mp (List.mem_of_getElem? hqi)
        obtain ⟨⟨sn, rn⟩, hw, rfl⟩ := List.mem_map.mp hqz
        obtain ⟨w1, w2, w3⟩ := mem_ways.mp hw
        have snn := sln sn w1
        have htk : qs.take (i + 1) = qs.take i ++ [toI2 (sn, rn)] := by rw [List.take_add_one, hqi]; rfl
        have hiq := (List.getElem?_eq_some_iff.mp hqi).1
        have hkn : (sn, rn, f) ∉ Si.map (·.1) := by
          intro hm
          rw [hki] at hm
          rcases List.mem_append.mp hm with hm | hm
          · obtain ⟨e, he, hk⟩ := List.mem_map.mp hm
            have := old e he
            rw [show e.1 = (sn, rn, f) from hk] at this
            exact Nat.lt_irrefl _ this
          · have h2 : (qs.take (i + 1)).map (kq f) = (qs.take i).map (kq f) ++ [(sn, rn, f)] := by rw [htk, List.map_append]; rfl
            have h3 : ((qs.take (i + 1)).map (kq f)).Nodup := (List.Sublist.map _ (List.take_sublist _ _)).nodup hqn
            rw [h2, List.nodup_append] at h3
            exact h3.2.2 _ hm _ (List.mem_singleton_self _) rfl
        have hyt4 : H' yt = some (.tup [.int (sn : Int), .int (rn : Int)]) := (t4 yt).1 _ hyt
        wtm_at "jw"
        refine ⟨p, a, sn, f, rfl, d4, fun w L5 H5 d5 tL lL => ?_⟩
        have t5 : Tps H' H5 := d5.tps d4
        have d5a := d5.at_
        have hown3 : ∀ b o, H3 b = some o → ¬ own D bs b → ¬ own D bi b := fun b o hb h1 h2 => by
          rcases owi b h2 with h | h
          · exact h1 h
          · rw [hb] at h; cases h
        obtain ⟨⟨op, hp3⟩, ⟨oa, ha3⟩⟩ := drawAt_two hd3
        obtain ⟨kX, hX3⟩ := sentAt_dct hps3.sent
        obtain ⟨dxa, hob3⟩ := hps3.post.ob
        have nip := hown3 p _ hp3 nop
        have nia := hown3 a _ ha3 noa
        have niX := hown3 X _ hX3 noX
        have noY : ¬ own D bs YL := fun z => by
          obtain ⟨o, ho⟩ := hps.post.own_some z
          rw [ho] at hYH; cases hYH
        have niY := hown3 YL _ hY3 noY
        have nYX : YL ≠ X := ne_of hY3 hX3 (by intro z; cases z)
        have naX : pa ≠ X := ne_of hob3 hX3 (by intro z; cases z)
        have hpo5 := postAt_move hpi.post t5 (fun b o hb hn => d5.kp b o hb hn) npp nip
        have hse5 := sentAt_move hpi.sent t5 (fun o ho => d5.kp X o ho nXp)
        have hro5 := hpi.road.tps t5
        have hY5 := d5.kp _ _ hY4 nYp
        obtain ⟨dx5, hob5⟩ := hpo5.ob
        have hSil : Si.length ≤ S.length + i := by
          have := congrArg List.length hki
          rw [List.length_map, List.length_append, List.length_map, List.length_map] at this
          have h2 := List.length_take_le i qs
          omega
        obtain ⟨cells, er, ec, ef⟩ := dlG_fate hrf.g snn w2 (f := f)
        have dl2 := hrf.dl2 f snn w2
        have hbl := hpi.bl
        wtm_at "jw"
        refine ⟨pa, dx5, _, rfl, hob5, pf_no v D (by decide +kernel) (by decide +kernel), ?_⟩
        wtm_at "jw"
        refine ⟨pa, D, v, w, bi, rows, cells, _, sn, rn, f, dlG G sn rn f, L5, rfl, hpo5, hro5, er, ec, ef, tL, by omega, by omega, fun b hb => ?_, fun b6 H6 hpo6 hc6 t6 fr6 ow6 l6 => ?_⟩
        · rw [← conB_mem hpo5.nk b hb, hpi.cons]
          have := bag_len hpi.ok hrf b.1
          omega
        have d6 : DrawAt H6 p a := drawAt_keep d5a (fun o ho => fr6 p o ho nip) (fun o ho => fr6 a o ho nia)
        have hse6 := sentAt_move hse5 t6 (fun o ho => fr6 X o ho niX)
        have hY6 := fr6 _ _ hY5 niY
        have tL6 := tL.tps t6
        wtm_at "jw"
        rw [if_neg (by decide)]
        wtm_at "jw"
        refine i_dput ?_
        wtm_at "jw"
        intro T hT
        have s7 := same_new (o := .tup [.int (sn : Int), .int (rn : Int), .int (f : Int)]) hT
        have hT7 : upd H6 T (.tup [.int (sn : Int), .int (rn : Int), .int (f : Int)]) T = some (.tup ((key3 (sn, rn, f)).map kV)) := upd_same
        generalize upd H6 T (.tup [.int (sn : Int), .int (rn : Int), .int (f : Int)]) = H7 at s7 hT7 ⊢
        obtain ⟨H8, p8, hse8, t8, fr8⟩ := (hse6.same s7).put hT7 (lkS_none.mpr hkn) (by omega) (tL6.same s7)
        refine ⟨X, H8, rfl, p8, ?_⟩
        have n6X : ¬ own D b6 X := fun z => by
          rcases ow6 X z with h | h
          · exact niX h
          · obtain ⟨kX5, hX5⟩ := sentAt_dct hse5
            rw [hX5] at h; cases h
        have t68 := (Tps.of s7).trans t8
        have t58 := t6.trans t68
        refine ⟨drawAt_keep d6 (fun o ho => fr8 p o (s7 _ _ ho) (Ne.symm nXp)) (fun o ho => fr8 a o (s7 _ _ ho) (Ne.symm nXa)), fr8 _ _ (s7 _ _ hY6) nYX, t4.trans (t5.trans t58), fun b o hb n1 n2 n3 => fr8 _ _ (s7 _ _ (fr6 _ _ (d5.kp _ _ (fr4 b o hb n1 n2 n3) n1) (hown3 b o hb n3))) n2, ⟨b6, Si ++ [((sn, rn, f), L5)], ⟨postAt_move (p := X) (hpo6.same s7) t8 (fun b o hb hn => fr8 b o hb hn) naX n6X, hse8, hro5.tps t58, fun k => ?_, sentOk_snoc hpi.ok hkn snn w2 w3 lL, ?_⟩, ?_, fun b hb => ?_⟩, _, _, _, rfl⟩
        · rw [hc6, hpi.cons, bagOf_snoc]
        · rw [List.length_append]
          show b6.length ≤ 10 * (Si.length + 1)
          omega
        · rw [List.map_append, hki, htk, List.map_append, List.append_assoc]
          rfl
        · rcases ow6 b hb with h | h
          · exact owi b h
          · by_cases ho : own D bs b
            · exact .inl ho
            · cases e : H3 b with
              | none => exact .inr rfl
              | some o =>
                by_cases hbp : b = p
                · rw [hbp] at h
                  obtain ⟨⟨o5, ho5⟩, _⟩ := drawAt_two d5a
                  rw [ho5] at h; cases h
                · by_cases hbX : b = X
                  · rw [hbX] at h
                    obtain ⟨kX5, hX5⟩ := sentAt_dct hse5
                    rw [hX5] at h; cases h
                  · rw [d5.kp _ _ (fr4 b o e hbp hbX ho) hbp] at h; cases h
      · obtain ⟨d4, hY4, t4, fr4, ⟨bi, Si, hpi, hki, owi⟩, v7, v8, v9, rfl⟩ := h
        rw [hql, List.take_length] at hki
        wtm_at "jw"
        have hlen : Si.length = S.length + qs.length := by
          have := congrArg List.length hki
          simpa using this
        refine q bi Si H' d4 hpi ((Tps.of s2).trans (t3.trans t4)) (fun b o hb n1 n2 n3 => fr4 b o (k3 b o hb n1) n1 n2 n3) (fun b hb => ?_) (by omega) (fun k hk => by rw [hki]; exact List.mem_append_left _ hk) fun s hs r hr ne => ?_
        · rcases owi b hb with h | h
          · exact .inl h
          · by_cases hbp : b = p
            · obtain ⟨o, ho⟩ := (drawAt_two d4).1
              obtain ⟨⟨o3, ho3⟩, _⟩ := drawAt_two hd3
              rw [hbp, ho3] at h
              cases h
            · cases e : H b with
              | none => exact .inr rfl
              | some o => rw [k3 b o e hbp] at h; cases h
        · rw [hki]
          refine List.mem_append_right _ (List.mem_map.mpr ⟨((s : Int), (r : Int)), hqp.mem_iff.mpr (List.mem_map.mpr ⟨(s, r), mem_ways.mpr ⟨hs, hr, ne⟩, rfl⟩), rfl⟩)
/-- what is heard in time -/
def heardR (ts : List T3) (s last lost most : Nat) : Prop := ∀ st : Nat, st + lost < last → ∃ t ∈ ts, t.2.1 = (s : Int) ∧ (st : Int) ≤ t.2.2 ∧ t.1 ≤ (st : Int) + (most : Int)
def hrC (s st : Nat) (t : T3) : Bool := decide (t.2.1 = (s : Int)) && decide ((st : Int) ≤ t.2.2)
def sp__law_is_heard (K : PySem.W.Frag) : Sp := fun vs H Q _ => ∃ (a : Addr) (ts : List T3) (s last lost most : Nat), vs = [.ref a, .int (s : Int), .int (last : Int), .int (lost : Int), .int (most : Int)] ∧ LPr3 H a ts ∧ ts.length ≤ 900000 ∧ last ≤ 100 ∧ lost < 4 ∧ most ≤ 100 ∧ heardR ts s last lost most ∧ ∀ H', Same H H' → Q (.bl true) H'
theorem ok__law_is_heard {P : Program} {w : World} {K : PySem.W.Frag} {mg : Str → Option Value} {base : Heap} {C_Post : Addr} {f : Addr} {fd : FuncData} (F : Df K mg "_law_is_heard" s__law_is_heard f fd ["rows", "sender", "last", "lost", "most"]) (T : Txt K mg C_Post) : FnOk P w K mg base CX0 1 f fd ["rows", "sender", "last", "lost", "most"] (sp__law_is_heard K) := by
  refine F.ok sc__law_is_heard (fun vs H Q E h => ?_) (fun cdv A outer s H vs Q E hr h => ?_)
  · obtain ⟨a, ts, sn, last, lost, most, rfl, _⟩ := h
    rfl
  · obtain ⟨a, ts, sn, last, lost, most, rfl, ⟨rs, hrs, wr⟩, tl, l1, l2, l3, hh, q⟩ := h
    refine ⟨_, (pss_cons (ps_for PassesOwn.never rfl (pi_range1 rfl T.b_range (pa_cons (pe_op op_sub (pv 2) (pv 3)) pa_nil)) (pg_name (i := 5) sc__law_is_heard.nd rfl (Or.inr rfl)) (pss_cons (ps_setLc (i := 6) (own := [("row", 7)]) (g := gName 7) rfl sc__law_is_heard.nd rfl rfl (sw_true rfl rfl rfl (by decide +kernel)) (pi_list (pv 0)) (blkOk_by (own := [("row", 7)]) (N := N__law_is_heard) (sc := defScope s__law_is_heard) (by decide +kernel)) (fun _ _ _ _ _ => (pg_name (i := 7) sc__law_is_heard.nd rfl (Or.inl rfl))) (fun _ _ _ _ _ => pts_one (PW.pt (pw_and (pt_cmpR op_eq (pe_ix (r := rIxT K) ix_tup (pv 7) pe_int (fun _ _ => rfl)) (pv 1) (nomark _)) (pw_and1 (pt_cmpR op_ge (pe_ix (r := rIxT K) ix_tup (pv 7) pe_int (fun _ _ => rfl)) (pv 5) (nomark _)))))) (fun _ _ _ _ _ => (pe_ix (r := rIxT K) ix_tup (pv 7) pe_int (fun _ _ => rfl))))
      (pss_one (ps_if (PW.pt (pw_or (pt_cmpR op_eq (pe_callB (id := "len") (r := qLen K) c_len (by rfl) T.b_len (by decide +kernel) (pa_cons (pv 6) pa_nil)) pe_int (nomark _)) (pw_or1 (pt_cmpR op_gt (pe_callB (id := "min") (r := rMin K) (cr_min rfl) (by rfl) T.b_min (by decide +kernel) (pa_cons (pv 6) pa_nil)) (pe_op op_add (pv 5) (pv 4)) (nomark _))))) (pss_one (ps_ret pe_bl)) pss_nil))))
      (pss_one (ps_ret pe_bl))), ?_⟩
    try dsimp only [cxOf, Cx.nox, Cx.wish]
    refine st_of (σ' := [some _, some _, some _, some _, some _, none, none, none]) rfl ?_
    wtm_at "jw"
    refine f_range (fun i σ H' => Same H H' ∧ ∃ v5 v6, σ = [some (.ref a), some (.int (sn : Int)), some (.int (last : Int)), some (.int (lost : Int)), some (.int (most : Int)), v5, v6, none])
      ⟨Same.refl _, none, none, rfl⟩ (fun i σ H' hi h => ?_) (fun σ H' h => ?_)
    · obtain ⟨s2, v5, v6, rfl⟩ := h
      have hrs2 := s2 _ _ hrs
      have wr2 := wr.tps (Tps.of s2)
      obtain ⟨t0, ht0, e1, e2, e3⟩ := hh i (by omega)
      rw [Int.zero_add]
      wtm_at "jw"
      intro D hD
      have hDH := hD
      refine l_list (xs := rs.map V.ref) (fun j H3 => Same H' H3 ∧ H3 D = some (.lst ((((ts.take j).filter (hrC sn i)).map (·.1)).map V.int))) ⟨same_new hD, by rw [upd_same]; rfl⟩ (fun j H3 _ h => SqL.of (h.1 _ _ hrs2)) (fun j x H3 hx h => ?_) (fun H3 h => ?_)
      · obtain ⟨s3, hD3⟩ := h
        obtain ⟨r, pp, rfl, _, _, hr3, htk, hjl⟩ := (wr2.tps (Tps.of s3)).at hx
        have lt : (((ts.take j).filter (hrC sn i)).map (·.1)).length ≤ 900000 := by
          rw [List.length_map]
          refine Nat.le_trans (List.length_filter_le _ _) ?_
          rw [List.length_take]
          omega
        rw [htk, List.filter_append]
        wtm_at "jw"
        refine ⟨rfl, ?_⟩
        wtm_at "jw"
        refine c_dec (fun h1 => ?_) (fun h1 => ?_)
        · wtm_at "jw"
          refine c_dec (fun h2 => ?_) (fun h2 => ?_)
          · have ec : hrC sn i pp = true := by unfold hrC; rw [decide_eq_true h1, decide_eq_true h2]; rfl
            rw [List.filter_cons_of_pos ec, List.filter_nil]
            wtm_at "jw"
            refine ⟨_, hD3, by rw [List.length_map, sizeLine_eq]; omega, put_same s3 hD, ?_⟩
            rw [upd_same, List.map_append, List.map_append]
            rfl
          · have ec : ¬ hrC sn i pp = true := by unfold hrC; rw [decide_eq_true h1, decide_eq_false h2]; decide
            rw [List.filter_cons_of_neg ec, List.filter_nil, List.append_nil]
            wtm_at "jw"
            exact ⟨s3, hD3⟩
        · have ec : ¬ hrC sn i pp = true := by unfold hrC; rw [decide_eq_false h1, Bool.false_and]; decide
          rw [List.filter_cons_of_neg ec, List.filter_nil, List.append_nil]
          wtm_at "jw"
          exact ⟨s3, hD3⟩
      · obtain ⟨s3, hD3⟩ := h
        have h3s := s3
        have hl : (rs.map V.ref).length = ts.length := by rw [List.length_map, wr.1]
        rw [hl, List.take_length] at hD3
        have hm : t0.1 ∈ (ts.filter (hrC sn i)).map (·.1) := by
          refine List.mem_map.mpr ⟨t0, List.mem_filter.mpr ⟨ht0, ?_⟩, rfl⟩
          unfold hrC
          rw [decide_eq_true e1, decide_eq_true e2]
          rfl
        have lt : ((ts.filter (hrC sn i)).map (·.1)).length ≤ 900000 := by
          rw [List.length_map]
          exact Nat.le_trans (List.length_filter_le _ _) tl
        have lp : 0 < ((ts.filter (hrC sn i)).map (·.1)).length := List.length_pos_of_mem hm
        generalize (ts.filter (hrC sn i)).map (·.1) = ms at hD3 hm lt lp
        wtm_at "jw"
        refine c_dec (fun h1 => ?_) (fun h1 => ?_)
        · rw [List.length_map] at h1
          omega
        · wtm_at "jw"
          refine ⟨D, ms, rfl, SqL.of hD3, lp, fun m hm1 hm2 => ?_⟩
          have := hm2 _ hm
          wtm_at "jw"
          refine c_dec (fun h2 => ?_) (fun h2 => ?_)
          · omega
          · wtm_at "jw"
            exact ⟨s2.trans h3s, _, _, rfl⟩
    · obtain ⟨s2, v5, v6, rfl⟩ := h
      wtm_at "jw"
      exact q _ s2
/-! ### the law's world: two posts -/
structure W29 where
  p : Addr
  c : Addr
  RL : Addr
  PL : Addr
  SL : Addr
  LL : Addr
  P : Nat → Addr
  D : Nat → Addr
  X : Nat → Addr
  L : Nat → Addr
  v : Nat → V
  G : Nat → RG
  rows : Nat → List PyData
  ls : Nat → List Nat
  n : Nat
  R : Nat
  fr : Nat
  late : Nat
  lost : Nat
  rounds : Nat
def natL (l : List Nat) : List V := l.map fun (k : Nat) => V.int (k : Int)
def Fx (w : W29) (z : Addr) : Prop := z = w.c ∨ z = w.RL ∨ z = w.PL ∨ z = w.SL ∨ z = w.LL ∨ ∃ j, j < 2 ∧ (z = w.L j ∨ z = w.X j ∨ z = w.P j)
structure WOk (w : W29) : Prop where
  rf : ∀ k, k < 2 → RoadF w.n w.R w.fr w.late w.lost (w.G k) (w.rows k)
  ll : ∀ k, k < 2 → (w.ls k).length = w.n
  lr : ∀ k, k < 2 → ∀ l ∈ w.ls k, l ≤ w.rounds
  xx : ∀ k j, k < 2 → j < 2 → k ≠ j → w.X k ≠ w.X j
  np : ∀ z, Fx w z → z ≠ w.p
  ro : w.rounds ≤ 36
structure LS (K : PySem.W.Frag) (C : Addr) (w : W29) (H : Hp) (S : Nat → Sent) (g : Nat → Nat) (bs : Nat → List Bag) : Prop where
  dr : DrawAt H w.p w.c
  rl : H w.RL = some (.lst [w.v 0, w.v 1])
  pl : H w.PL = some (.lst [.ref (w.P 0), .ref (w.P 1)])
  sl : H w.SL = some (.lst [.ref (w.X 0), .ref (w.X 1)])
  ll : H w.LL = some (.lst [.ref (w.L 0), .ref (w.L 1)])
  l : ∀ k, k < 2 → H (w.L k) = some (.lst (natL (w.ls k)))
  ps : ∀ k, k < 2 → PS K C H (w.P k) (w.D k) (w.v k) (w.X k) w.n w.R (w.G k) (w.rows k) (S k) (g k) (bs k)
  ow : ∀ k, k < 2 → ∀ z, z = w.p ∨ Fx w z → ¬ own (w.D k) (bs k) z
  ap : ∀ k j, k < 2 → j < 2 → k ≠ j → ∀ b, own (w.D k) (bs k) b → ¬ own (w.D j) (bs j) b
  sz : ∀ k, k < 2 → (S k).length ≤ 20 * g k
  al : ∀ k, k < 2 → ∀ (s l : Nat), (w.ls k)[s]? = some l → ∀ st, st < l → st < g k → ∀ r, r < w.R → r ≠ s → (s, r, st) ∈ (S k).map (·.1)
theorem postAt_keep {K : PySem.W.Frag} {C : Addr} {H H' : Hp} {a : Addr} {v : V} {D : Addr} {bs : List Bag} (h : PostAt K C H a v D bs) (t : Tps H H') (ka : ∀ o, H a = some o → H' a = some o) (kb : ∀ b o, own D bs b → H b = some o → H' b = some o) : PostAt K C H' a v D bs := by
  obtain ⟨⟨dx, o1⟩, o2, o3, o4, o5⟩ := h
  refine ⟨⟨dx, ka _ o1⟩, kb _ _ (.inl rfl) o2, fun b hb => ?_, o4, o5⟩
  obtain ⟨us, hu, tu⟩ := o3 b hb
  exact ⟨us, kb _ _ (.inr (List.mem_map.mpr ⟨b, hb, rfl⟩)) hu, tu.tps t⟩
theorem LS.keep {K : PySem.W.Frag} {C : Addr} {w : W29} {H H' : Hp} {S : Nat → Sent} {g : Nat → Nat} {bs : Nat → List Bag} (h : LS K C w H S g bs) (ok : WOk w) (d : DrawAt H' w.p w.c) (t : Tps H H') (k : ∀ b o, H b = some o → b ≠ w.p → H' b = some o) : LS K C w H' S g bs := by
  have f : ∀ z o, Fx w z → H z = some o → H' z = some o := fun z o hz ho => k z o ho (ok.np z hz)
  refine ⟨d, f _ _ (.inr (.inl rfl)) h.rl, f _ _ (.inr (.inr (.inl rfl))) h.pl, f _ _ (.inr (.inr (.inr (.inl rfl)))) h.sl, f _ _ (.inr (.inr (.inr (.inr (.inl rfl))))) h.ll, fun j hj => f _ _ (.inr (.inr (.inr (.inr (.inr ⟨j, hj, .inl rfl⟩))))) (h.l j hj), fun j hj => ?_, h.ow, h.ap, h.sz, h.al⟩
  have q := h.ps j hj
  exact ⟨postAt_keep q.post t (fun o ho => f _ _ (.inr (.inr (.inr (.inr (.inr ⟨j, hj, .inr (.inr rfl)⟩))))) ho) (fun b o hb ho => k b o ho fun e => h.ow j hj _ (.inl rfl) (e ▸ hb)), sentAt_move q.sent t (fun o ho => f _ _ (.inr (.inr (.inr (.inr (.inr ⟨j, hj, .inr (.inl rfl)⟩))))) ho), q.road.tps t, q.cons, q.ok, q.bl⟩
theorem LS.same {K : PySem.W.Frag} {C : Addr} {w : W29} {H H' : Hp} {S : Nat → Sent} {g : Nat → Nat} {bs : Nat → List Bag} (h : LS K C w H S g bs) (ok : WOk w) (s : Same H H') : LS K C w H' S g bs := h.keep ok (h.dr.same s) (Tps.of s) (fun b o hb _ => s b o hb)
theorem LS.drew {K : PySem.W.Frag} {C : Addr} {w : W29} {H H' : Hp} {S : Nat → Sent} {g : Nat → Nat} {bs : Nat → List Bag} (h : LS K C w H S g bs) (ok : WOk w) (e : Drew w.p w.c H H') : LS K C w H' S g bs := h.keep ok e.at_ (e.tps h.dr) (fun b o hb hn => e.kp b o hb hn)
theorem LS.fx {K : PySem.W.Frag} {C : Addr} {w : W29} {H : Hp} {S : Nat → Sent} {g : Nat → Nat} {bs : Nat → List Bag} (h : LS K C w H S g bs) {z : Addr} (hz : z = w.p ∨ Fx w z) : ∃ o, H z = some o := by
  obtain ⟨x1, x2⟩ := drawAt_two h.dr
  rcases hz with rfl | rfl | rfl | rfl | rfl | rfl | ⟨j, hj, rfl | rfl | rfl⟩
  · exact x1
  · exact x2
  · exact ⟨_, h.rl⟩
  · exact ⟨_, h.pl⟩
  · exact ⟨_, h.sl⟩
  · exact ⟨_, h.ll⟩
  · exact ⟨_, h.l j hj⟩
  · obtain ⟨kvs, e⟩ := sentAt_dct (h.ps j hj).sent
    exact ⟨_, e⟩
  · obtain ⟨dx, e⟩ := (h.ps j hj).post.ob
    exact ⟨_, e⟩
def setN {α : Type} (k : Nat) (x : α) (f : Nat → α) : Nat → α := fun j => if j = k then x else f j
theorem setN_at {α : Type} (k : Nat) (x : α) (f : Nat → α) : setN k x f k = x := if_pos rfl
theorem setN_ne {α : Type} {k j : Nat} (x : α) (f : Nat → α) (h : j ≠ k) : setN k x f j = f j := if_neg h
theorem LS.sent {K : PySem.W.Frag} {C : Addr} {w : W29} {H H' : Hp} {S : Nat → Sent} {g : Nat → Nat} {bs : Nat → List Bag} (h : LS K C w H S g bs) (ok : WOk w) {k : Nat} (hk : k < 2) {b' : List Bag} {S' : Sent} {sl : List Nat} (d : DrawAt H' w.p w.c)
    (q : PS K C H' (w.P k) (w.D k) (w.v k) (w.X k) w.n w.R (w.G k) (w.rows k) S' (g k + 1) b') (t : Tps H H') (kp : ∀ b o, H b = some o → b ≠ w.p → b ≠ w.X k → ¬ own (w.D k) (bs k) b → H' b = some o)
    (ow' : ∀ b, own (w.D k) b' b → own (w.D k) (bs k) b ∨ H b = none) (len : S'.length ≤ 20 * (g k + 1)) (old : ∀ e ∈ (S k).map (·.1), e ∈ S'.map (·.1)) (new : ∀ s ∈ sl, ∀ r, r < w.R → r ≠ s → (s, r, g k) ∈ S'.map (·.1))
    (hsl : ∀ (s l : Nat), (w.ls k)[s]? = some l → g k < l → s ∈ sl) : LS K C w H' (setN k S' S) (setN k (g k + 1) g) (setN k b' bs) := by
  obtain ⟨kX, hX⟩ := sentAt_dct (h.ps k hk).sent
  have fxl : ∀ z xs, Fx w z → H z = some (.lst xs) → H' z = some (.lst xs) := fun z xs hz ho => kp z _ ho (ok.np z hz) (ne_of ho hX (by intro z; cases z)) (h.ow k hk z (.inr hz))
  have own' : ∀ z, z = w.p ∨ Fx w z → ¬ own (w.D k) b' z := fun z hz hb => by
    rcases ow' z hb with h1 | h1
    · exact h.ow k hk z hz h1
    · obtain ⟨o, ho⟩ := h.fx hz
      rw [ho] at h1; cases h1
  have apk : ∀ j, j < 2 → j ≠ k → ∀ b, own (w.D j) (bs j) b → ¬ own (w.D k) b' b := fun j hj ne b hb hb' => by
    rcases ow' b hb' with h1 | h1
    · exact h.ap k j hk hj (Ne.symm ne) b h1 hb
    · obtain ⟨o, ho⟩ := (h.ps j hj).post.own_some hb
      rw [ho] at h1; cases h1
  refine ⟨d, fxl _ _ (.inr (.inl rfl)) h.rl, fxl _ _ (.inr (.inr (.inl rfl))) h.pl, fxl _ _ (.inr (.inr (.inr (.inl rfl)))) h.sl, fxl _ _ (.inr (.inr (.inr (.inr (.inl rfl))))) h.ll, fun j hj => fxl _ _ (.inr (.inr (.inr (.inr (.inr ⟨j, hj, .inl rfl⟩))))) (h.l j hj), fun j hj => ?_, fun j hj z hz => ?_, fun i j hi hj ne b hb => ?_, fun j hj => ?_, fun j hj s l hl st h1 h2 r hr ne => ?_⟩
  · by_cases e : j = k
    · subst e
      rw [setN_at, setN_at, setN_at]
      exact q
    · rw [setN_ne _ _ e, setN_ne _ _ e, setN_ne _ _ e]
      have u := h.ps j hj
      have fP : Fx w (w.P j) := .inr (.inr (.inr (.inr (.inr ⟨j, hj, .inr (.inr rfl)⟩))))
      have fX : Fx w (w.X j) := .inr (.inr (.inr (.inr (.inr ⟨j, hj, .inr (.inl rfl)⟩))))
      have fXk : Fx w (w.X k) := .inr (.inr (.inr (.inr (.inr ⟨k, hk, .inr (.inl rfl)⟩))))
      refine ⟨postAt_keep u.post t (fun o ho => ?_) (fun b o hb ho => ?_), sentAt_move u.sent t (fun o ho => ?_), u.road.tps t, u.cons, u.ok, u.bl⟩
      · obtain ⟨dx, hob⟩ := u.post.ob
        exact kp _ _ ho (ok.np _ fP) (ne_of hob hX (by intro z; cases z)) (h.ow k hk _ (.inr fP))
      · exact kp _ _ ho (fun e => h.ow j hj _ (.inl rfl) (e ▸ hb)) (fun e => h.ow j hj _ (.inr fXk) (e ▸ hb)) (fun h1 => h.ap j k hj hk e b hb h1)
      · exact kp _ _ ho (ok.np _ fX) (ok.xx j k hj hk e) (h.ow k hk _ (.inr fX))
  · by_cases e : j = k
    · subst e; rw [setN_at]; exact own' z hz
    · rw [setN_ne _ _ e]; exact h.ow j hj z hz
  · by_cases e1 : i = k
    · subst e1
      rw [setN_at] at hb
      rw [setN_ne _ _ (Ne.symm ne)]
      exact fun h1 => apk j hj (Ne.symm ne) b h1 hb
    · rw [setN_ne _ _ e1] at hb
      by_cases e2 : j = k
      · subst e2; rw [setN_at]; exact apk i hi e1 b hb
      · rw [setN_ne _ _ e2]; exact h.ap i j hi hj ne b hb
  · by_cases e : j = k
    · subst e; rw [setN_at, setN_at]; exact len
    · rw [setN_ne _ _ e, setN_ne _ _ e]; exact h.sz j hj
  · by_cases e : j = k
    · subst e
      rw [setN_at] at h2 ⊢
      by_cases e2 : st = g j
      · subst e2
        exact new s (hsl s l hl h1) r hr ne
      · exact old _ (h.al j hj s l hl st h1 (by omega) r hr ne)
    · rw [setN_ne _ _ e] at h2 ⊢
      exact h.al j hj s l hl st h1 h2 r hr ne
theorem two_at {f : Nat → V} {k : Nat} (hk : k < 2) : atI [f 0, f 1] (k : Int) = some (f k) := by
  match k, hk with
  | 0, _ => rfl
  | 1, _ => rfl
/-- who speaks in a frame -/
def spk (l : List Nat) (f : Nat) (s : Nat) : Bool := decide (f < (l[s]?).getD 0)
def spkL (l : List Nat) (f n : Nat) : List Nat := (List.range n).filter (spk l f)
theorem spkL_snoc (l : List Nat) (f j : Nat) : spkL l f (j + 1) = spkL l f j ++ (if f < (l[j]?).getD 0 then [j] else []) := by
  unfold spkL
  rw [List.range_succ, List.filter_append]
  by_cases h : f < (l[j]?).getD 0
  · rw [if_pos h, List.filter_cons_of_pos (by unfold spk; exact decide_eq_true h), List.filter_nil]
  · rw [if_neg h, List.filter_cons_of_neg (by unfold spk; rw [decide_eq_false h]; decide), List.filter_nil]
theorem spkL_len (l : List Nat) (f n : Nat) : (spkL l f n).length ≤ n := by
  unfold spkL
  refine Nat.le_trans (List.length_filter_le _ _) ?_
  rw [List.length_range]
  exact Nat.le_refl _
theorem i_lr1 {ta : TE} {σ : L2.St} {H : Hp} {Q : VK} (h : ta σ H fun x H1 => ∃ n, x = .int n ∧ RgOk 0 n ∧ ∀ q, H1 q = none → Q (.ref q) (upd H1 q (.lst (rgV 0 n)))) : tLstRg (tRg1 ta) σ H Q := h
theorem rgV_nat (n : Nat) : rgV 0 (n : Int) = natL (List.range n) := by
  unfold rgV natL
  simp
theorem natL_mem {ys : List V} {n : Nat} (h : ys.Perm (natL (List.range n))) {c : Nat} {y : V} (hy : ys[c]? = some y) : ∃ r : Nat, y = .int (r : Int) ∧ r < n := by
  have := h.mem_iff.mp (List.mem_of_getElem? hy)
  obtain ⟨r, hr, rfl⟩ := List.mem_map.mp this
  exact ⟨r, rfl, List.mem_range.mp hr⟩

theorem ex_heard {n R fr late lost : Nat} {G : RG} (h : GoodG n R fr late lost G) {s r : Nat} (hs : s < n) (hr : r < R) (ne : r ≠ s) (st : Nat) : ∃ j, j ≤ lost ∧ dlG G s r (st + j) ≠ [] := by
  obtain ⟨hl, hg⟩ := h s r hs hr ne
  by_cases hb : st + lost < fr
  · have hk : keepB lost ((G s r).map fD) = true := by
      obtain ⟨_, m, hm⟩ := hg
      unfold keepB
      rw [hm]
      rfl
    rw [win_keep] at hk
    unfold winB at hk
    rw [List.all_eq_true] at hk
    have h1 := hk st (List.mem_range.mpr (by rw [List.length_map]; omega))
    rw [List.any_eq_true] at h1
    obtain ⟨d, hd, he⟩ := h1
    obtain ⟨j, hj⟩ := List.getElem?_of_mem hd
    rw [List.getElem?_take] at hj
    by_cases hjl : j < lost + 1
    · rw [if_pos hjl, List.getElem?_drop, List.getElem?_map] at hj
      refine ⟨j, by omega, fun e => ?_⟩
      unfold dlG at e
      cases e2 : (G s r)[st + j]? with
      | none => rw [e2] at hj; cases hj
      | some x =>
        rw [e2] at hj e
        cases hj
        have ex : x = [] := e
        rw [ex] at he
        exact absurd he (by decide)
    · rw [if_neg hjl] at hj
      cases hj
  · refine ⟨lost, Nat.le_refl _, fun e => ?_⟩
    unfold dlG at e
    rw [List.getElem?_eq_none (by omega)] at e
    cases e
theorem mem_bag {n R f : Nat} {G : RG} {S : Sent} {k : Int × Int} {e : Ent} (ok : SentOk n R f S) (h : e ∈ bagOf G S k) : ∃ s st : Nat, e.1 = (s : Int) ∧ e.2.1 = (st : Int) ∧ LetD s st e.2.2 := by
  unfold bagOf at h
  obtain ⟨x, hx, h⟩ := List.mem_flatMap.mp h
  unfold addD at h
  obtain ⟨d, _, rfl⟩ := List.mem_map.mp h
  exact ⟨_, _, rfl, rfl, (ok.2 x hx).2.2.2.2⟩
theorem bag_has {G : RG} {S : Sent} {s r st f : Nat} {d : Int} (hk : (s, r, st) ∈ S.map (·.1)) (hd : d ∈ dlG G s r st) (hf : (st : Int) + d = (f : Int)) : ∃ L, ((s : Int), (st : Int), L) ∈ bagOf G S ((r : Int), (f : Int)) := by
  obtain ⟨x, hx, e⟩ := List.mem_map.mp hk
  have e' : x.1 = (s, r, st) := e
  refine ⟨x.2, List.mem_flatMap.mpr ⟨x, hx, ?_⟩⟩
  rw [e']
  unfold addD
  exact List.mem_map.mpr ⟨d, List.mem_filter.mpr ⟨hd, decide_eq_true (Prod.ext rfl hf)⟩, rfl⟩
theorem heard_of {n R fr late lost rounds : Nat} {G : RG} {rows : List PyData} (g : RoadF n R fr late lost G rows) {S : Sent} {ts : List T3} {s r last : Nat} (hs : s < n) (hr : r < R) (ne : r ≠ s) (hl : last ≤ rounds)
    (hS : ∀ st, st < last → (s, r, st) ∈ S.map (·.1)) (hts : ∀ f, f < rounds + 4 → ∀ e ∈ bagOf G S ((r : Int), (f : Int)), ((f : Int), e.1, e.2.1) ∈ ts) : heardR ts s last lost (late + lost) := fun st hst => by
  obtain ⟨j, hj, hn⟩ := ex_heard g.good hs hr ne st
  obtain ⟨d, hd⟩ := List.exists_mem_of_ne_nil _ hn
  obtain ⟨d0, d1⟩ := (dlG_ok g.good hs hr ne).1 d hd
  obtain ⟨dn, rfl⟩ := Int.eq_ofNat_of_zero_le d0
  have la := g.la
  obtain ⟨L, hL⟩ := bag_has (f := st + j + dn) (hS (st + j) (by omega)) hd (by omega)
  exact ⟨_, hts (st + j + dn) (by omega) _ hL, rfl, by show (st : Int) ≤ ((st + j : Nat) : Int); omega, by show ((st + j + dn : Nat) : Int) ≤ _; omega⟩
def sp__law_all_heard (K : PySem.W.Frag) (C_Post : Addr) : Sp := fun vs H Q _ => ∃ (pa D X LL : Addr) (v : V) (n R fr late lost rounds : Nat) (G : RG) (rows : List PyData) (S : Sent) (g : Nat) (bs : List Bag) (r : Nat) (ls : List Nat), vs = [.ref pa, .ref LL, .int (r : Int), .int (rounds : Int), .int (lost : Int), .int (((late + lost : Nat)) : Int)] ∧
  PS K C_Post H pa D v X n R G rows S g bs ∧ RoadF n R fr late lost G rows ∧ r < R ∧ rounds + 4 < 100 ∧ H LL = some (.lst (ls.map fun (k : Nat) => V.int (k : Int))) ∧ ls.length = n ∧ (∀ l ∈ ls, l ≤ rounds) ∧ (∀ (s l : Nat), ls[s]? = some l → r ≠ s → ∀ st, st < l → (s, r, st) ∈ S.map (·.1)) ∧ ∀ H', Same H H' → Q (.bl true) H'
theorem ok__law_all_heard {P : Program} {w : World} {K : PySem.W.Frag} {mg : Str → Option Value} {base : Heap} {C_Post : Addr} {f : Addr} {fd : FuncData} (F : Df K mg "_law_all_heard" s__law_all_heard f fd ["post", "lasts", "receiver", "rounds", "lost", "most"]) (T : Txt K mg C_Post)
    (c_Post_arriving : Mt P w K mg base 1 C_Post "arriving" (sp_Post_arriving K C_Post))
    (c__law_is_heard : Cl P w K mg base 1 "_law_is_heard" (sp__law_is_heard K)) : FnOk P w K mg base CX0 2 f fd ["post", "lasts", "receiver", "rounds", "lost", "most"] (sp__law_all_heard K C_Post) := by
  refine F.ok sc__law_all_heard (fun vs H Q E h => ?_) (fun cdv A outer s H vs Q E hr h => ?_)
  · obtain ⟨pa, D, X, LL, v, n, R, fr, late, lost, rounds, G, rows, S, g, bs, r, ls, rfl, _⟩ := h
    rfl
  · obtain ⟨pa, D, X, LL, v, n, R, fr, late, lost, rounds, G, rows, S, g, bs, r, ls, rfl, hps, hrf, hrR, r1, hLL, lsl, lsr, hall, q⟩ := h
    have n4 := hrf.n4
    have lo4 := hrf.lo
    have la4 := hrf.la
    have ho := hps.ok
    refine ⟨_, (pss_cons (ps_set (i := 6) sc__law_all_heard.nd rfl (Or.inl rfl) (pe_lst pa_nil))
      (pss_cons (ps_for PassesOwn.never rfl (pi_range1 rfl T.b_range (pa_cons (pe_op op_add (pv 3) pe_int) pa_nil)) (pg_name (i := 7) sc__law_all_heard.nd rfl (Or.inl rfl)) (pss_one (ps_for PassesOwn.never rfl (pi_list (pe_mtc c_Post_arriving T.cl_Post hr (by decide) (pv 0) (pa_cons (pv 2) (pa_cons (pv 7) pa_nil)))) (pg_name (i := 8) sc__law_all_heard.nd rfl (Or.inl rfl)) (pss_one (ps_expr (pe_bmK (K := K) rfl PySem.F.plainAttrs_list PySem.F.slot_list_append PySem.F.type_list_append mt_append (pv 6) (pa_cons (pe_tup (pa_cons (pv 7) (pa_cons (pe_ix (r := rIxT K) ix_tup (pv 8) pe_int (fun _ _ => rfl)) (pa_cons (pe_ix (r := rIxT K) ix_tup (pv 8) pe_int (fun _ _ => rfl)) pa_nil)))) pa_nil)))))))
      (pss_cons (ps_for PassesOwn.never rfl (pi_range1 rfl T.b_range (pa_cons (pe_callB (id := "len") (r := qLen K) c_len (by rfl) T.b_len (by decide +kernel) (pa_cons (pv 1) pa_nil)) pa_nil)) (pg_name (i := 9) sc__law_all_heard.nd rfl (Or.inl rfl)) (pss_one (ps_if (PW.pt (pw_and (pt_cmpR op_ne (pv 9) (pv 2) (nomark _)) (pw_and1 (pt_not (pt_val (pe_cl c__law_is_heard hr (by decide) rfl (pa_cons (pv 6) (pa_cons (pv 9) (pa_cons (pe_ix (r := rIxL K) ix_list (pv 1) (pv 9) (fun _ _ => rfl)) (pa_cons (pv 4) (pa_cons (pv 5) pa_nil))))))))))) (pss_one (ps_ret pe_bl)) pss_nil)))
      (pss_one (ps_ret pe_bl))))), ?_⟩
    try dsimp only [cxOf, Cx.nox, Cx.wish]
    refine st_of (σ' := [some _, some _, some _, some _, some _, some _, none, none, none, none]) rfl ?_
    wtm_at "jw"
    intro A1 hA1
    have s1 := same_new (o := .lst []) hA1
    have hA1' : LPr3 (upd H A1 (.lst [])) A1 [] := ⟨[], upd_same, .nil⟩
    have hAn := hA1
    generalize upd H A1 (.lst []) = H1 at s1 hA1' ⊢
    wtm_at "jw"
    refine f_range (fun i σ H' => Same H H' ∧ (∃ ts, LPr3 H' A1 ts ∧ ts.length ≤ i * 1000 ∧ ∀ f, f < i → ∀ e ∈ bagOf G S ((r : Int), (f : Int)), ((f : Int), e.1, e.2.1) ∈ ts) ∧ ∃ v7 v8, σ = [some (.ref pa), some (.ref LL), some (.int (r : Int)), some (.int (rounds : Int)), some (.int (lost : Int)), some (.int (((late + lost : Nat)) : Int)), some (.ref A1), v7, v8, none])
      ⟨s1, ⟨[], hA1', by simp, fun f hf => absurd hf (Nat.not_lt_zero _)⟩, none, none, rfl⟩ (fun i σ H' hi h => ?_) (fun σ H' h => ?_)
    · obtain ⟨s2, ⟨ts, hts, tl, hm⟩, v7, v8, rfl⟩ := h
      have hi' : i < rounds + 4 := by omega
      rw [Int.zero_add]
      have hps2 := hps.same s2
      obtain ⟨dx, hob⟩ := hps2.post.ob
      have hlen : (conB bs ((r : Int), (i : Int))).length ≤ 900 := by
        rw [hps.cons, ← (arr_perm S hps.ok.1 (hps.ok.pos hrf)).length_eq]
        exact Nat.le_trans (arr_len hrf hrR (by omega)) (by decide)
      wtm_at "jw"
      refine ⟨pa, dx, _, rfl, hob, pf_no v D (by decide +kernel) (by decide +kernel), ?_⟩
      wtm_at "jw"
      refine ⟨pa, D, v, bs, r, i, rfl, hps2.post, hlen, fun L ss H3 s3 hL pm pw hLD => ?_⟩
      rw [hps.cons] at pm hlen
      obtain ⟨us, hus, tus⟩ := hLD
      have ssl := pm.length_eq
      have nLA : L ≠ A1 := by
        obtain ⟨rs, h1, _⟩ := hts
        exact fun z => by rw [z, h1] at hL; cases hL
      wtm_at "jw"
      refine f_list (xs := us) (fun j σ H' => Same H H' ∧ Tps H3 H' ∧ H' L = some (.lst us) ∧ (∃ ts', LPr3 H' A1 ts' ∧ ts'.length ≤ ts.length + j ∧ (∀ t ∈ ts, t ∈ ts') ∧ ∀ e ∈ ss.take j, ((i : Int), e.1, e.2.1) ∈ ts') ∧ ∃ v8, σ = [some (.ref pa), some (.ref LL), some (.int (r : Int)), some (.int (rounds : Int)), some (.int (lost : Int)), some (.int (((late + lost : Nat)) : Int)), some (.ref A1), some (.int (i : Int)), v8, none])
        ⟨s2.trans s3, .refl, hus, ⟨ts, by obtain ⟨rs, h1, h2⟩ := hts; exact ⟨rs, s3 _ _ h1, h2.tps (Tps.of s3)⟩, by omega, fun _ h => h, fun e h => by cases h⟩, v8, rfl⟩ (fun j σ H' _ h => SqL.of h.2.2.1) (fun j x σ H' hx h => ?_) (fun σ H' h => ?_)
      · obtain ⟨s4, t4, hus4, ⟨ts', ⟨rs, hrs, wr⟩, tl', hm1, hm2⟩, v8, rfl⟩ := h
        obtain ⟨d, hd, td, _, hjl⟩ := (tus.tps t4).at hx
        rw [List.getElem?_map] at hd
        rw [List.length_map] at hjl
        obtain ⟨e, he⟩ : ∃ e, ss[j]? = some e := ⟨_, List.getElem?_eq_getElem hjl⟩
        rw [he] at hd
        cases hd
        obtain ⟨e0, e1, e2⟩ := e
        obtain ⟨s0, st, rfl, rfl, w, m, eL, _, _⟩ := mem_bag ho (pm.mem_iff.mp (List.mem_of_getElem? he))
        simp only at eL td
        rw [eL] at td
        obtain ⟨xa, xs, rfl, xS, xT⟩ := td.tup_inv
        have htk : ss.take (j + 1) = ss.take j ++ [((s0 : Int), (st : Int), e2)] := by rw [List.take_add_one, he]; rfl
        rw [htk]
        cases xT with
        | cons y0 xT =>
        cases xT with
        | cons y1 xT =>
        cases xT with
        | cons y2 xT =>
        cases y1
        cases y2
        have hrl := wr.1
        wtm_at "jw"
        intro T hT
        have s5 := same_new (o := .tup [.int (i : Int), .int (s0 : Int), .int (st : Int)]) hT
        have hrs5 := s5 _ _ hrs
        have wr5 := (wr.tps (Tps.of s5)).snoc (p := ((i : Int), (s0 : Int), (st : Int))) (q := T) upd_same
        have hus5 := s5 _ _ hus4
        have s45 := s4.trans s5
        have t45 := t4.trans (Tps.of s5)
        generalize upd H' T (.tup [.int (i : Int), .int (s0 : Int), .int (st : Int)]) = H5 at s5 hrs5 wr5 hus5 s45 t45 ⊢
        wtm_at "jw"
        refine i_app hrs5 (by rw [List.length_map, sizeLine_eq]; omega) ?_
        have t6 := t45.trans (tps_put (ys := rs.map V.ref ++ [V.ref T]) hrs5)
        refine ⟨put_same s45 hAn, t6, by rw [upd_ne nLA]; exact hus5, ⟨ts' ++ [((i : Int), (s0 : Int), (st : Int))], ⟨rs ++ [T], by rw [upd_same, List.map_append]; rfl, wr5.tps (tps_put hrs5)⟩, by rw [List.length_append]; simp only [List.length_cons, List.length_nil]; omega, fun t ht => List.mem_append_left _ (hm1 t ht), fun e he => ?_⟩, _, rfl⟩
        rcases List.mem_append.mp he with he | he
        · exact List.mem_append_left _ (hm2 e he)
        · rw [List.mem_singleton.mp he]
          exact List.mem_append_right _ (List.mem_singleton_self _)
      · obtain ⟨s4, t4, hus4, ⟨ts', hts', tl', hm1, hm2⟩, v8, rfl⟩ := h
        have ul : us.length = ss.length := by rw [tus.len, List.length_map]
        rw [ul, List.take_length] at hm2
        refine ⟨s4, ⟨ts', hts', by rw [Nat.succ_mul]; omega, fun f hf e he => ?_⟩, _, _, rfl⟩
        by_cases hfi : f = i
        · rw [hfi] at he ⊢
          exact hm2 e (pm.mem_iff.mpr he)
        · exact hm1 _ (hm f (by omega) e he)
    · obtain ⟨s2, ⟨ts, hts, tl, hm⟩, v7, v8, rfl⟩ := h
      rw [show ((rounds : Int) + 4).toNat = rounds + 4 by omega] at hm tl
      have hLL2 := s2 _ _ hLL
      have lsm : (ls.map fun (k : Nat) => V.int (k : Int)).length = n := by rw [List.length_map, lsl]
      wtm_at "jw"
      refine f_range (fun i σ H2 => Same H' H2 ∧ ∃ v9, σ = [some (.ref pa), some (.ref LL), some (.int (r : Int)), some (.int (rounds : Int)), some (.int (lost : Int)), some (.int (((late + lost : Nat)) : Int)), some (.ref A1), v7, v8, v9])
        ⟨.refl _, none, rfl⟩ (fun i σ H2 hi h => ?_) (fun σ H2 h => ?_)
      · obtain ⟨s3, v9, rfl⟩ := h
        have hi' : i < n := by omega
        have hLL3 := s3 _ _ hLL2
        obtain ⟨l, hl⟩ : ∃ l, ls[i]? = some l := ⟨_, List.getElem?_eq_getElem (by omega)⟩
        have hlr := lsr l (List.mem_of_getElem? hl)
        have hat : atI (ls.map fun (k : Nat) => V.int (k : Int)) (i : Int) = some (.int (l : Int)) := atI_nat (by rw [List.getElem?_map, hl]; rfl)
        have hts3 : LPr3 H2 A1 ts := by obtain ⟨rs, h1, h2⟩ := hts; exact ⟨rs, s3 _ _ h1, h2.tps (Tps.of s3)⟩
        rw [Int.zero_add]
        wtm_at "jw"
        refine c_decN (fun h1 => ?_) (fun h1 => ?_)
        · have ne : r ≠ i := by omega
          wtm_at "jw"
          refine ⟨A1, ts, i, l, lost, late + lost, rfl, hts3, by omega, by omega, by omega, by omega, heard_of hrf hi' hrR ne hlr (fun st hst => hall i l hl ne st hst) hm, fun H4 s4 => ?_⟩
          wtm_at "jw"
          exact ⟨s3.trans s4, _, rfl⟩
        · wtm_at "jw"
          exact ⟨s3, _, rfl⟩
      · obtain ⟨s3, v9, rfl⟩ := h
        wtm_at "jw"
        exact q _ (s2.trans s3)
def sp_law (K : PySem.W.Frag) : Sp := fun vs H Q _ => ∃ (a : Addr) (ns : List Int), vs = [.ref a] ∧ SqL K H a (ns.map V.int) ∧ ns.length ≤ 63 ∧ ∀ H', Q (.bl true) H'
theorem ok_law {P : Program} {w : World} {K : PySem.W.Frag} {mg : Str → Option Value} {base : Heap} {C_Post : Addr} {f : Addr} {fd : FuncData} (F : Df K mg "law" s_law f fd ["script"]) (T : Txt K mg C_Post)
    (c__law_begin : Cl P w K mg base 1 "_law_begin" (sp__law_begin K))
    (c__law_pick : Cl P w K mg base 2 "_law_pick" (sp__law_pick K))
    (c__law_draw : Cl P w K mg base 1 "_law_draw" (sp__law_draw K))
    (c__law_shuffled : Cl P w K mg base 2 "_law_shuffled" (sp__law_shuffled K))
    (c__law_rare : Cl P w K mg base 2 "_law_rare" (sp__law_rare K))
    (c__law_any_road : Cl P w K mg base 4 "_law_any_road" (sp__law_any_road K))
    (c_Post___init__ : Mkc P w K mg base 1 C_Post (sp_Post___init__ K C_Post))
    (c__law_lasts : Cl P w K mg base 2 "_law_lasts" (sp__law_lasts K))
    (c__law_brings : Cl P w K mg base 2 "_law_brings" (sp__law_brings K C_Post))
    (c__law_is_sent : Cl P w K mg base 3 "_law_is_sent" (sp__law_is_sent K C_Post))
    (c__law_all_heard : Cl P w K mg base 2 "_law_all_heard" (sp__law_all_heard K C_Post))
    (c_lateness : Cl P w K mg base 1 "lateness" (sp_lateness K)) : FnOk P w K mg base CX0 5 f fd ["script"] (sp_law K) := by
  refine F.ok sc_law (fun vs H Q E h => ?_) (fun cdv A outer s H vs Q E hr h => ?_)
  · obtain ⟨a, ns, rfl, _⟩ := h
    rfl
  · obtain ⟨a, ns, rfl, hS, hl, q⟩ := h
    refine ⟨_, (pss_cons (ps_set (i := 1) sc_law.nd rfl (Or.inr rfl) (pe_cl c__law_begin hr (by decide) rfl (pa_cons (pv 0) pa_nil)))
      (pss_cons (ps_set (i := 2) sc_law.nd rfl (Or.inr rfl) (pe_cl c__law_pick hr (by decide) rfl (pa_cons (pv 1) (pa_cons (pe_lst (pa_cons pe_int (pa_cons pe_int (pa_cons pe_int (pa_cons pe_int (pa_cons pe_int pa_nil)))))) pa_nil))))
      (pss_cons (ps_set (i := 3) sc_law.nd rfl (Or.inr rfl) (pe_op op_add (pv 2) (pe_cl c__law_draw hr (by decide) rfl (pa_cons (pv 1) (pa_cons pe_int pa_nil)))))
      (pss_cons (ps_set (i := 4) sc_law.nd rfl (Or.inr rfl) (pe_ifExp (pt_val (pe_cl c__law_rare hr (by decide) rfl (pa_cons (pv 1) (pa_cons pe_int pa_nil)))) pe_int (pe_op op_add pe_int (pe_cl c__law_draw hr (by decide) rfl (pa_cons (pv 1) (pa_cons pe_int pa_nil))))))
      (pss_cons (ps_set (i := 5) sc_law.nd rfl (Or.inr rfl) (pe_cl c__law_draw hr (by decide) rfl (pa_cons (pv 1) (pa_cons pe_int pa_nil))))
      (pss_cons (ps_set (i := 6) sc_law.nd rfl (Or.inr rfl) (pe_cl c__law_draw hr (by decide) rfl (pa_cons (pv 1) (pa_cons pe_int pa_nil))))
      (pss_cons (ps_set (i := 7) sc_law.nd rfl (Or.inr rfl) (pe_op op_add (pv 4) (pe_cl c__law_draw hr (by decide) rfl (pa_cons (pv 1) (pa_cons pe_int pa_nil)))))
      (pss_cons (ps_setLc (i := 8) (own := [("k", 9)]) (g := gName 9) (tt := tYes) rfl sc_law.nd rfl rfl (sw_true rfl rfl rfl (by decide +kernel)) (pi_range1 rfl T.b_range (pa_cons pe_int pa_nil)) (blkOk_by (own := [("k", 9)]) (N := N_law) (sc := defScope s_law) (by decide +kernel)) (fun _ _ _ _ _ => (pg_name (i := 9) sc_law.nd rfl (Or.inl rfl))) (fun _ _ _ _ _ => pts_nil) (fun _ _ _ _ _ => (pe_cl c__law_any_road hr (by decide) rfl (pa_cons (pv 1) (pa_cons (pv 2) (pa_cons (pv 3) (pa_cons (pv 4) (pa_cons (pv 5) (pa_cons (pv 6) pa_nil)))))))))
      (pss_cons (ps_setLc (i := 10) (own := [("road", 11)]) (g := gName 11) (tt := tYes) rfl sc_law.nd rfl rfl (sw_true rfl rfl rfl (by decide +kernel)) (pi_list (pv 8)) (blkOk_by (own := [("road", 11)]) (N := N_law) (sc := defScope s_law) (by decide +kernel)) (fun _ _ _ _ _ => (pg_name (i := 11) sc_law.nd rfl (Or.inl rfl))) (fun _ _ _ _ _ => pts_nil) (fun _ _ _ _ _ => (pe_mkc c_Post___init__ hr (by decide) rfl T.mg_Post (pa_cons (pv 11) pa_nil))))
      (pss_cons (ps_set (i := 12) sc_law.nd rfl (Or.inl rfl) (pe_lst (pa_cons pe_dnewT (pa_cons pe_dnewT pa_nil))))
      (pss_cons (ps_set (i := 13) sc_law.nd rfl (Or.inr rfl) (pe_lc (own := [("k", 9)]) (g := gName 9) (tt := tYes) rfl sc_law.nd (pi_range1 rfl T.b_range (pa_cons pe_int pa_nil)) (blkOk_by (own := [("k", 9)]) (N := N_law) (sc := defScope s_law) (by decide +kernel)) (fun _ _ _ _ _ => (pg_name (i := 9) sc_law.nd rfl (Or.inl rfl))) (fun _ _ _ _ _ => pts_nil) (fun _ _ _ _ _ => (pe_cl c__law_lasts hr (by decide) rfl (pa_cons (pv 1) (pa_cons (pv 2) (pa_cons (pv 7) pa_nil)))))))
      (pss_cons (ps_for PassesOwn.never rfl (pi_range1 rfl T.b_range (pa_cons pe_int pa_nil)) (pg_name (i := 9) sc_law.nd rfl (Or.inr rfl)) (pss_one (ps_if (pt_not (pt_val (pe_cl c__law_brings hr (by decide) rfl (pa_cons (pe_ix (r := rIxL K) ix_list (pv 10) (pv 9) (fun _ _ => rfl)) (pa_cons (pe_ix (r := rIxL K) ix_list (pv 8) (pv 9) (fun _ _ => rfl)) (pa_cons pe_dnewT (pa_cons (pe_cl c__law_draw hr (by decide) rfl (pa_cons (pv 1) (pa_cons (pv 3) pa_nil))) (pa_cons (pe_cl c__law_draw hr (by decide) rfl (pa_cons (pv 1) (pa_cons (pe_op op_add (pv 7) pe_int) pa_nil))) pa_nil)))))))) (pss_one (ps_ret pe_bl)) pss_nil)))
      (pss_cons (ps_for PassesOwn.never rfl (pi_range1 rfl T.b_range (pa_cons (pv 7) pa_nil)) (pg_name (i := 14) sc_law.nd rfl (Or.inr rfl)) (pss_cons (ps_for PassesOwn.never rfl (pi_range1 rfl T.b_range (pa_cons pe_int pa_nil)) (pg_name (i := 9) sc_law.nd rfl (Or.inr rfl)) (pss_cons (ps_setLc (i := 15) (own := [("sender", 16)]) (g := gName 16) rfl sc_law.nd rfl rfl (sw_true rfl rfl rfl (by decide +kernel)) (pi_range1 rfl T.b_range (pa_cons (pv 2) pa_nil)) (blkOk_by (own := [("sender", 16)]) (N := N_law) (sc := defScope s_law) (by decide +kernel)) (fun _ _ _ _ _ => (pg_name (i := 16) sc_law.nd rfl (Or.inl rfl))) (fun _ _ _ _ _ => pts_one (pt_cmpR op_lt (pv 14) (pe_ix (r := rIxL K) ix_list (pe_ix (r := rIxL K) ix_list (pv 13) (pv 9) (fun _ _ => rfl)) (pv 16) (fun _ _ => rfl)) (nomark _))) (fun _ _ _ _ _ => (pv 16)))
      (pss_one (ps_if (pt_not (pt_val (pe_cl c__law_is_sent hr (by decide) rfl (pa_cons (pv 1) (pa_cons (pe_ix (r := rIxL K) ix_list (pv 10) (pv 9) (fun _ _ => rfl)) (pa_cons (pe_ix (r := rIxL K) ix_list (pv 12) (pv 9) (fun _ _ => rfl)) (pa_cons (pv 15) (pa_cons (pv 3) (pa_cons (pv 14) pa_nil))))))))) (pss_one (ps_ret pe_bl)) pss_nil))))
      (pss_cons (ps_for PassesOwn.never rfl (pi_list (pe_cl c__law_shuffled hr (by decide) rfl (pa_cons (pv 1) (pa_cons (pe_listRg rfl (by rfl) T.b_list (prg_1 (by rfl) T.b_range (pv 3))) pa_nil)))) (pg_name (i := 17) sc_law.nd rfl (Or.inl rfl)) (pss_one (ps_for PassesOwn.never rfl (pi_range1 rfl T.b_range (pa_cons pe_int pa_nil)) (pg_name (i := 9) sc_law.nd rfl (Or.inr rfl)) (pss_one (ps_if (pt_not (pt_val (pe_cl c__law_brings hr (by decide) rfl (pa_cons (pe_ix (r := rIxL K) ix_list (pv 10) (pv 9) (fun _ _ => rfl)) (pa_cons (pe_ix (r := rIxL K) ix_list (pv 8) (pv 9) (fun _ _ => rfl)) (pa_cons (pe_ix (r := rIxL K) ix_list (pv 12) (pv 9) (fun _ _ => rfl)) (pa_cons (pv 17) (pa_cons (pv 14) pa_nil)))))))) (pss_one (ps_ret pe_bl)) pss_nil)))))
      (pss_cons (ps_set (i := 9) sc_law.nd rfl (Or.inr rfl) (pe_cl c__law_draw hr (by decide) rfl (pa_cons (pv 1) (pa_cons pe_int pa_nil))))
      (pss_one (ps_if (pt_not (pt_val (pe_cl c__law_brings hr (by decide) rfl (pa_cons (pe_ix (r := rIxL K) ix_list (pv 10) (pv 9) (fun _ _ => rfl)) (pa_cons (pe_ix (r := rIxL K) ix_list (pv 8) (pv 9) (fun _ _ => rfl)) (pa_cons (pe_ix (r := rIxL K) ix_list (pv 12) (pv 9) (fun _ _ => rfl)) (pa_cons (pe_cl c__law_draw hr (by decide) rfl (pa_cons (pv 1) (pa_cons (pv 3) pa_nil))) (pa_cons (pe_cl c__law_draw hr (by decide) rfl (pa_cons (pv 1) (pa_cons (pe_op op_add (pv 7) pe_int) pa_nil))) pa_nil)))))))) (pss_one (ps_ret pe_bl)) pss_nil))))))
      (pss_cons (ps_for PassesOwn.never rfl (pi_list (pe_cl c__law_shuffled hr (by decide) rfl (pa_cons (pv 1) (pa_cons (pe_listRg rfl (by rfl) T.b_list (prg_1 (by rfl) T.b_range (pe_op op_add (pv 7) pe_int))) pa_nil)))) (pg_name (i := 14) sc_law.nd rfl (Or.inr rfl)) (pss_one (ps_for PassesOwn.never rfl (pi_range1 rfl T.b_range (pa_cons (pv 3) pa_nil)) (pg_name (i := 17) sc_law.nd rfl (Or.inl rfl)) (pss_one (ps_for PassesOwn.never rfl (pi_range1 rfl T.b_range (pa_cons pe_int pa_nil)) (pg_name (i := 9) sc_law.nd rfl (Or.inr rfl)) (pss_one (ps_if (pt_not (pt_val (pe_cl c__law_brings hr (by decide) rfl (pa_cons (pe_ix (r := rIxL K) ix_list (pv 10) (pv 9) (fun _ _ => rfl)) (pa_cons (pe_ix (r := rIxL K) ix_list (pv 8) (pv 9) (fun _ _ => rfl)) (pa_cons (pe_ix (r := rIxL K) ix_list (pv 12) (pv 9) (fun _ _ => rfl)) (pa_cons (pv 17) (pa_cons (pv 14) pa_nil)))))))) (pss_one (ps_ret pe_bl)) pss_nil)))))))
      (pss_cons (ps_for PassesOwn.never rfl (pi_range1 rfl T.b_range (pa_cons pe_int pa_nil)) (pg_name (i := 9) sc_law.nd rfl (Or.inr rfl)) (pss_one (ps_for PassesOwn.never rfl (pi_range1 rfl T.b_range (pa_cons (pv 3) pa_nil)) (pg_name (i := 17) sc_law.nd rfl (Or.inl rfl)) (pss_one (ps_if (pt_not (pt_val (pe_cl c__law_all_heard hr (by decide) rfl (pa_cons (pe_ix (r := rIxL K) ix_list (pv 10) (pv 9) (fun _ _ => rfl)) (pa_cons (pe_ix (r := rIxL K) ix_list (pv 13) (pv 9) (fun _ _ => rfl)) (pa_cons (pv 17) (pa_cons (pv 7) (pa_cons (pv 6) (pa_cons (pe_cl c_lateness hr (by decide) rfl (pa_cons (pv 5) (pa_cons (pv 6) pa_nil))) pa_nil))))))))) (pss_one (ps_ret pe_bl)) pss_nil)))))
      (pss_one (ps_ret pe_bl))))))))))))))))), ?_⟩
    try dsimp only [cxOf, Cx.nox, Cx.wish]
    refine st_of (σ' := [some _, none, none, none, none, none, none, none, none, none, none, none, none, none, none, none, none, none]) rfl ?_
    wtm_at "jw"
    refine ⟨a, ns, rfl, hS, hl, fun p c H1 s1 hp hc d1 => ?_⟩
    wtm_at "jw"
    intro B hB
    wtm_at "jw"
    refine pickL (fun z => 1 ≤ z ∧ z ≤ 4) [2, 3, 2, 1, 4] d1.drew hB rfl (by simp) (by simp) (by simp) fun z1 H2 hz1 _ w2 => ?_
    obtain ⟨n, rfl⟩ := Int.eq_ofNat_of_zero_le (show (0 : Int) ≤ z1 by omega)
    wtm_at "jw"
    refine drawL w2 (by decide) (by decide) fun z2 H3 z20 z21 _ w3 => ?_
    obtain ⟨zR, rfl⟩ := Int.eq_ofNat_of_zero_le z20
    obtain ⟨R, eR⟩ : ∃ R : Nat, R = n + zR := ⟨_, rfl⟩
    have eR' : (n : Int) + (zR : Int) = (R : Int) := by omega
    have n1 : 1 ≤ n := by omega
    have n4 : n ≤ 4 := by omega
    have nR : n ≤ R := by omega
    have R5 : R ≤ 5 := by omega
    wtm_at "jif"
    refine i_ifJ (fun v H' => Drew p c H1 H' ∧ ∃ fr : Nat, v = .int (fr : Int) ∧ fr ≤ 30) (fun v H4 h => ?_) (fun R' hR => ?_)
    · obtain ⟨w4, fr, rfl, f1⟩ := h
      rw [eR']
      wtm_at "jw"
      refine drawL w4 (by decide) (by decide) fun z3 H5 z30 z31 _ w5 => ?_
      obtain ⟨late, rfl⟩ := Int.eq_ofNat_of_zero_le z30
      wtm_at "jw"
      refine drawL w5 (by decide) (by decide) fun z4 H6 z40 z41 _ w6 => ?_
      obtain ⟨lost, rfl⟩ := Int.eq_ofNat_of_zero_le z40
      wtm_at "jw"
      refine drawL w6 (by decide) (by decide) fun z5 H7 z50 z51 _ w7 => ?_
      obtain ⟨zr, rfl⟩ := Int.eq_ofNat_of_zero_le z50
      obtain ⟨rounds, er⟩ : ∃ rounds : Nat, rounds = fr + zr := ⟨_, rfl⟩
      have er' : (fr : Int) + (zr : Int) = (rounds : Int) := by omega
      have la4 : late < 4 := by omega
      have lo4 : lost < 4 := by omega
      have ro : rounds ≤ 36 := by omega
      wtm_at "jw"
      intro RL hRL
      rw [er']
      refine l_range (fun i H' => Drew p c H7 H' ∧ ∃ (v : Nat → V) (d : Nat → PyData), H' RL = some (.lst ((List.range i).map v)) ∧ ∀ j, j < i → TD K H' (v j) (d j) ∧ RoadP n R (RndP fr late lost) (d j))
        ⟨w7.at_.drew.new hRL, fun _ => .non, fun _ => .none, by rw [upd_same]; rfl, fun j hj => absurd hj (Nat.not_lt_zero _)⟩ (fun j H' hj h => ?_) (fun H8 h => ?_)
      · obtain ⟨w8, v, d, hR8, hj8⟩ := h
        wtm_at "jw"
        refine ⟨rfl, ?_⟩
        wtm_at "jw"
        refine ⟨p, c, n, R, fr, late, lost, rfl, w8.at_, by omega, by omega, by omega, by omega, lo4, fun y yd H9 e9 ty ry => ?_⟩
        have nRp : RL ≠ p := w7.at_.ne_none hRL
        have t9 := e9.tps w8.at_
        have hR9 := e9.kp _ _ hR8 nRp
        refine ⟨_, hR9, by rw [List.length_map, List.length_range, sizeLine_eq]; omega, (w8.trans e9).put w7.at_ hRL, setN j y v, setN j yd d, ?_, fun i hi => ?_⟩
        · rw [upd_same, List.range_succ, List.map_append, List.map_cons, List.map_nil, setN_at]
          rw [List.map_congr_left fun i hi => setN_ne y v (by have := List.mem_range.mp hi; omega)]
        · by_cases e : i = j
          · subst e
            rw [setN_at, setN_at]
            exact ⟨ty.tps (tps_put hR9), ry⟩
          · rw [setN_ne _ _ e, setN_ne _ _ e]
            obtain ⟨a1, a2⟩ := hj8 i (by omega)
            exact ⟨a1.tps (t9.trans (tps_put hR9)), a2⟩
      · obtain ⟨w8, v, d, hR8, hj8⟩ := h
        have hR8' : H8 RL = some (.lst [v 0, v 1]) := hR8
        wtm_at "jw"
        intro PL hPL
        refine l_list (xs := [v 0, v 1]) (fun i H9 => Same H8 H9 ∧ ∃ (P D : Nat → Addr), H9 PL = some (.lst ((List.range i).map fun j => V.ref (P j))) ∧ (∀ j, j < i → H8 (P j) = none ∧ H8 (D j) = none ∧ (∃ dx, H9 (P j) = some (.ins C_Post dx (pf (v j) (D j)))) ∧ H9 (D j) = some (.dT [])) ∧ ∀ j k, j < i → k < i → j ≠ k → D j ≠ D k)
          ⟨same_new hPL, fun _ => 0, fun _ => 0, by rw [upd_same]; rfl, fun j hj => absurd hj (Nat.not_lt_zero _), fun j k hj => absurd hj (Nat.not_lt_zero _)⟩ (fun i H9 _ h => SqL.of (h.1 _ _ hR8')) (fun i x H9 hx h => ?_) (fun H9 h => ?_)
        · obtain ⟨s9, P, D, hP9, hj9, nd9⟩ := h
          have hil : i < 2 := (List.getElem?_eq_some_iff.mp hx).1
          have ex : x = v i := by
            match i, hil, hx with
            | 0, _, hx => exact (Option.some.inj hx).symm
            | 1, _, hx => exact (Option.some.inj hx).symm
          subst ex
          have pl9 : H9 PL ≠ none := by rw [hP9]; intro z; cases z
          wtm_at "jw"
          refine ⟨rfl, ?_⟩
          wtm_at "jw"
          intro A dx hA hdx ndx
          refine ⟨A, dx, v i, rfl, upd_same, fun DD H10 o10 hDD d10 k10 => ?_⟩
          have s10 : Same H9 (upd (upd H9 dx (.own A)) A (.ins C_Post dx [])) := (same_new hdx).trans (same_new (by rw [upd_ne (Ne.symm ndx)]; exact hA))
          have s11 : Same H9 H10 := fun b o hb => k10 _ _ (s10 b o hb) (fun e => by rw [e, hA] at hb; cases hb)
          have hDD9 : H9 DD = none := s10.free hDD
          have nAP : A ≠ PL := fun e => pl9 (e ▸ hA)
          have nDP : DD ≠ PL := fun e => pl9 (e ▸ hDD9)
          have hP11 := s11 _ _ hP9
          refine ⟨rfl, ?_⟩
          wtm_at "jw"
          refine ⟨_, hP11, by rw [List.length_map, List.length_range, sizeLine_eq]; omega, put_same (s9.trans s11) hPL, setN i A P, setN i DD D, ?_, fun j hj => ?_, fun j k hj hk ne => ?_⟩
          · rw [upd_same, List.range_succ, List.map_append, List.map_cons, List.map_nil, setN_at]
            have em : (List.range i).map (fun j => V.ref (setN i A P j)) = (List.range i).map fun j => V.ref (P j) := List.map_congr_left fun j hj => by rw [setN_ne A P (by have := List.mem_range.mp hj; omega)]
            rw [em]
          · by_cases e : j = i
            · subst e
              rw [setN_at, setN_at]
              exact ⟨s9.free hA, s9.free hDD9, ⟨dx, by rw [upd_ne nAP]; exact o10⟩, by rw [upd_ne nDP]; exact d10⟩
            · rw [setN_ne _ _ e, setN_ne _ _ e]
              obtain ⟨a1, a2, ⟨dx1, a3⟩, a4⟩ := hj9 j (by omega)
              exact ⟨a1, a2, ⟨dx1, by rw [upd_ne (fun e => by rw [e, hP9] at a3; cases a3)]; exact s11 _ _ a3⟩, by rw [upd_ne (fun e => by rw [e, hP9] at a4; cases a4)]; exact s11 _ _ a4⟩
          · by_cases e : j = i
            · subst e
              rw [setN_at, setN_ne _ _ (Ne.symm ne)]
              obtain ⟨_, _, _, a4⟩ := hj9 k (by omega)
              exact fun e => by rw [← e, hDD9] at a4; cases a4
            · rw [setN_ne _ _ e]
              by_cases e2 : k = i
              · subst e2
                rw [setN_at]
                obtain ⟨_, _, _, a4⟩ := hj9 j (by omega)
                exact fun e => by rw [e, hDD9] at a4; cases a4
              · rw [setN_ne _ _ e2]
                exact nd9 j k (by omega) (by omega) ne
        · obtain ⟨s9, P, D, hP9, hj9, nd9⟩ := h
          have w9 := w8.same s9
          have hP9' : H9 PL = some (.lst [.ref (P 0), .ref (P 1)]) := hP9
          have hR9' := s9 _ _ hR8'
          wtm_at "jw"
          intro X0 hX0
          wtm_at "jw"
          intro X1 hX1
          wtm_at "jw"
          intro SL hSL
          have n01 : X1 ≠ X0 := fun e => by rw [e, upd_same] at hX1; cases hX1
          have x0s : upd (upd (upd H9 X0 (.dT [])) X1 (.dT [])) SL (.lst [.ref X0, .ref X1]) X0 = some (.dT []) := by
            rw [upd_ne (fun e => by rw [← e, upd_ne (Ne.symm n01), upd_same] at hSL; cases hSL), upd_ne (Ne.symm n01), upd_same]
          have x1s : upd (upd (upd H9 X0 (.dT [])) X1 (.dT [])) SL (.lst [.ref X0, .ref X1]) X1 = some (.dT []) := by
            rw [upd_ne (fun e => by rw [← e, upd_same] at hSL; cases hSL), upd_same]
          have s10 : Same H9 (upd (upd (upd H9 X0 (.dT [])) X1 (.dT [])) SL (.lst [.ref X0, .ref X1])) := (same_new hX0).trans ((same_new hX1).trans (same_new hSL))
          have hX1' : H9 X1 = none := by rw [upd_ne n01] at hX1; exact hX1
          have hSL10 : upd (upd (upd H9 X0 (.dT [])) X1 (.dT [])) SL (.lst [.ref X0, .ref X1]) SL = some (.lst [.ref X0, .ref X1]) := upd_same
          generalize upd (upd (upd H9 X0 (.dT [])) X1 (.dT [])) SL (.lst [.ref X0, .ref X1]) = H10 at s10 x0s x1s hSL10 ⊢
          have w10 := w9.same s10
          wtm_at "jw"
          intro LL hLL
          have nLp : LL ≠ p := w10.at_.ne_none hLL
          refine l_range (fun i H' => Drew p c H10 H' ∧ ∃ (L : Nat → Addr) (ls : Nat → List Nat), H' LL = some (.lst ((List.range i).map fun j => V.ref (L j))) ∧ ∀ j, j < i → H' (L j) = some (.lst (natL (ls j))) ∧ L j ≠ LL ∧ L j ≠ p ∧ (ls j).length = n ∧ ∀ l ∈ ls j, l ≤ rounds)
            ⟨w10.at_.drew.new hLL, fun _ => 0, fun _ => [], by rw [upd_same]; rfl, fun j hj => absurd hj (Nat.not_lt_zero _)⟩ (fun i H' hi h => ?_) (fun H' h => ?_)
          · obtain ⟨w11, L, ls, hL11, hj11⟩ := h
            wtm_at "jw"
            refine ⟨rfl, ?_⟩
            wtm_at "jw"
            refine ⟨p, c, n, rounds, rfl, w11.at_, by omega, by omega, fun A us H12 e12 hA hA12 ul ur => ?_⟩
            have hL12 := e12.kp _ _ hL11 nLp
            have nAL : A ≠ LL := fun e => by rw [e, hL11] at hA; cases hA
            refine ⟨_, hL12, by rw [List.length_map, List.length_range, sizeLine_eq]; omega, (w11.trans e12).put w10.at_ hLL, setN i A L, setN i us ls, ?_, fun j hj => ?_⟩
            · rw [upd_same, List.range_succ, List.map_append, List.map_cons, List.map_nil, setN_at]
              have em : (List.range i).map (fun j => V.ref (setN i A L j)) = (List.range i).map fun j => V.ref (L j) := List.map_congr_left fun j hj => by rw [setN_ne A L (by have := List.mem_range.mp hj; omega)]
              rw [em]
            · by_cases e : j = i
              · subst e
                rw [setN_at, setN_at]
                exact ⟨by rw [upd_ne nAL]; exact hA12, nAL, w11.at_.ne_none hA, ul, ur⟩
              · rw [setN_ne _ _ e, setN_ne _ _ e]
                obtain ⟨a1, a2, a3, a4, a5⟩ := hj11 j (by omega)
                exact ⟨by rw [upd_ne a2]; exact e12.kp _ _ a1 a3, a2, a3, a4, a5⟩
          · obtain ⟨w11, L, ls, hL11, hj11⟩ := h
            have hL11' : H' LL = some (.lst [.ref (L 0), .ref (L 1)]) := hL11
            obtain ⟨G0, r0, e0, g0, gg0, gd0⟩ := road_G (hj8 0 (by decide)).2
            obtain ⟨G1, r1, e1, g1, gg1, gd1⟩ := road_G (hj8 1 (by decide)).2
            have td0 := (hj8 0 (by decide)).1
            have td1 := (hj8 1 (by decide)).1
            rw [e0] at td0
            rw [e1] at td1
            have t8 : Tps H8 H' := (Tps.of s9).trans ((Tps.of s10).trans (w11.tps w10.at_))
            obtain ⟨_, _, _, _, hp9, _⟩ := w9.at_
            obtain ⟨_, _, _, _, hp10, _⟩ := w10.at_
            obtain ⟨_, _, _, _, hp11, _⟩ := w11.at_
            have k9 : ∀ b o, H9 b = some o → b ≠ p → H' b = some o := fun b o hb hn => w11.kp _ _ (s10 _ _ hb) hn
            have nRL : RL ≠ p := w7.at_.ne_none hRL
            have nPL : PL ≠ p := fun e => by rw [e, hp9] at hP9'; cases hP9'
            have nSL : SL ≠ p := fun e => by rw [e, hp10] at hSL10; cases hSL10
            have n0 : X0 ≠ p := fun e => by rw [e, hp10] at x0s; cases x0s
            have n1x : X1 ≠ p := fun e => by rw [e, hp10] at x1s; cases x1s
            have nc : c ≠ p := by obtain ⟨_, _, _, _, _, _, h3, _⟩ := w10.at_; exact h3
            have nP : ∀ j, j < 2 → P j ≠ p := fun j hj e => by
              obtain ⟨_, _, ⟨dx, a3⟩, _⟩ := hj9 j hj
              rw [e, hp9] at a3; cases a3
            have nD : ∀ j, j < 2 → D j ≠ p := fun j hj e => by
              obtain ⟨_, _, _, a4⟩ := hj9 j hj
              rw [e, hp9] at a4; cases a4
            have hD11 : ∀ j, j < 2 → H' (D j) = some (.dT []) := fun j hj => k9 _ _ (hj9 j hj).2.2.2 (nD j hj)
            have nDX : ∀ j, j < 2 → D j ≠ X0 ∧ D j ≠ X1 := fun j hj => by
              obtain ⟨_, _, _, a4⟩ := hj9 j hj
              exact ⟨fun e => (by rw [e, hX0] at a4; cases a4), fun e => (by rw [e, hX1'] at a4; cases a4)⟩
            have hRL11 := k9 _ _ hR9' nRL
            have hPL11 := k9 _ _ hP9' nPL
            have hSL11 := w11.kp _ _ hSL10 nSL
            have x011 := w11.kp _ _ x0s n0
            have x111 := w11.kp _ _ x1s n1x
            have hP11 : ∀ j, j < 2 → ∃ dx, H' (P j) = some (.ins C_Post dx (pf (v j) (D j))) := fun j hj => by
              obtain ⟨_, _, ⟨dx, a3⟩, _⟩ := hj9 j hj
              exact ⟨dx, k9 _ _ a3 (nP j hj)⟩
            obtain ⟨w, hw⟩ : ∃ w : W29, w = ⟨p, c, RL, PL, SL, LL, P, D, setN 0 X0 (fun _ => X1), L, v, setN 0 G0 fun _ => G1, setN 0 r0 fun _ => r1, ls, n, R, fr, late, lost, rounds⟩ := ⟨_, rfl⟩
            have two : ∀ {Pr : Nat → Prop}, Pr 0 → Pr 1 → ∀ k, k < 2 → Pr k := fun h0 h1 k hk => by
              match k, hk with
              | 0, _ => exact h0
              | 1, _ => exact h1
            have rdf : ∀ {G : RG} {rows : List PyData}, RoadG n R G rows → GoodG n R fr late lost G → (∀ s, s < n → s < R → G s s = []) → RoadF n R fr late lost G rows := fun a b cc => ⟨a, b, fun s f hs => by unfold dlG; rw [cc s hs (by omega)]; simp, n4, nR, R5, la4, lo4⟩
            have wok : WOk w := by
              subst hw
              refine ⟨two (rdf g0 gg0 gd0) (rdf g1 gg1 gd1), fun k hk => (hj11 k hk).2.2.2.1, fun k hk => (hj11 k hk).2.2.2.2, fun k j hk hj ne => ?_, fun z hz => ?_, ro⟩
              · match k, j, hk, hj, ne with
                | 0, 1, _, _, _ => exact Ne.symm n01
                | 1, 0, _, _, _ => exact n01
                | 0, 0, _, _, ne => exact absurd rfl ne
                | 1, 1, _, _, ne => exact absurd rfl ne
              · rcases hz with rfl | rfl | rfl | rfl | rfl | ⟨j, hj, rfl | rfl | rfl⟩
                · exact nc
                · exact nRL
                · exact nPL
                · exact nSL
                · exact nLp
                · exact (hj11 j hj).2.2.1
                · match j, hj with
                  | 0, _ => exact n0
                  | 1, _ => exact n1x
                · exact nP j hj
            have psE : ∀ {k : Nat} {X : Addr} {G : RG} {rows : List PyData}, k < 2 → TD K H8 (v k) (.tuple rows) → H' X = some (.dT []) → PS K C_Post H' (P k) (D k) (v k) X n R G rows [] 0 [] := fun {k X G rows} hk htd hX => ⟨⟨hP11 k hk, hD11 k hk, fun b hb => (by cases hb), List.nodup_nil, List.nodup_nil⟩, ⟨[], hX, trivial⟩, htd.tps t8, fun _ => rfl, ⟨List.nodup_nil, fun e he => (by cases he)⟩, Nat.le_refl _⟩
            have ls0 : LS K C_Post w H' (fun _ => []) (fun _ => 0) (fun _ => []) := by
              subst hw
              refine ⟨w11.at_, hRL11, hPL11, hSL11, hL11', fun k hk => (hj11 k hk).1, two (psE (by decide) td0 x011) (psE (by decide) td1 x111), fun k hk z hz hb => ?_, fun k j hk hj ne b hb hb' => ?_, fun k _ => Nat.zero_le _, fun k hk s l _ st _ h2 => absurd h2 (Nat.not_lt_zero _)⟩
              · rcases hb with rfl | hb
                · have hd := hD11 k hk
                  rcases hz with hz | hz | hz | hz | hz | hz | ⟨j, hj, hz | hz | hz⟩
                  · exact nD k hk hz
                  · obtain ⟨_, _, _, _, _, h2, _⟩ := w11.at_
                    rw [show D k = c from hz, h2] at hd; cases hd
                  · rw [show D k = RL from hz, hRL11] at hd; cases hd
                  · rw [show D k = PL from hz, hPL11] at hd; cases hd
                  · rw [show D k = SL from hz, hSL11] at hd; cases hd
                  · rw [show D k = LL from hz, hL11'] at hd; cases hd
                  · rw [show D k = L j from hz, (hj11 j hj).1] at hd; cases hd
                  · match j, hj, hz with
                    | 0, _, hz => exact (nDX k hk).1 hz
                    | 1, _, hz => exact (nDX k hk).2 hz
                  · obtain ⟨dx, hp⟩ := hP11 j hj
                    rw [show D k = P j from hz, hp] at hd; cases hd
                · cases hb
              · rcases hb with rfl | hb
                · rcases hb' with hb' | hb'
                  · exact nd9 k j hk hj ne hb'
                  · cases hb'
                · cases hb
            have ew : w.p = p ∧ w.c = c ∧ w.RL = RL ∧ w.PL = PL ∧ w.SL = SL ∧ w.LL = LL ∧ w.n = n ∧ w.R = R ∧ w.late = late ∧ w.lost = lost ∧ w.rounds = rounds := by subst hw; exact ⟨rfl, rfl, rfl, rfl, rfl, rfl, rfl, rfl, rfl, rfl, rfl⟩
            clear hw psE two rdf
            obtain ⟨rfl, rfl, rfl, rfl, rfl, rfl, rfl, rfl, rfl, rfl, rfl⟩ := ew
            wtm_at "jw"
            refine f_range (fun i σ H' => LS K C_Post w H' (fun _ => []) (fun _ => 0) (fun _ => []) ∧ ∃ v9, σ = [some (.ref a), some (.ref w.p), some (.int (w.n : Int)), some (.int (w.R : Int)), some (.int (fr : Int)), some (.int (w.late : Int)), some (.int (w.lost : Int)), some (.int (w.rounds : Int)), some (.ref w.RL), v9, some (.ref w.PL), none, some (.ref w.SL), some (.ref w.LL), none, none, none, none])
              ⟨ls0, none, rfl⟩ (fun k σ H' hk h => ?_) (fun σ H' h => ?_)
            · obtain ⟨hls, v9, rfl⟩ := h
              have hk2 : k < 2 := hk
              have hrl := hls.rl
              have hpl := hls.pl
              have at1 := two_at (f := w.v) hk2
              have at2 := two_at (f := fun k => V.ref (w.P k)) hk2
              rw [Int.zero_add]
              wtm_at "jw"
              intro E hE
              have hE1 : upd H' E (.dT []) E = some (.dT []) := upd_same
              have hls1 := hls.same wok (same_new (o := .dT []) hE)
              generalize upd H' E (.dT []) = H2 at hE1 hls1 ⊢
              have nEp : E ≠ w.p := fun e => by
                obtain ⟨_, _, _, _, h0, _⟩ := hls1.dr
                rw [e, h0] at hE1; cases hE1
              wtm_at "jw"
              refine drawL hls1.dr.drew (by omega) (by omega) fun r H3 r0 r1 e3 _ => ?_
              obtain ⟨r, rfl⟩ := Int.eq_ofNat_of_zero_le r0
              have hls3 := hls1.drew wok e3
              have hE3 := e3.kp _ _ hE1 nEp
              wtm_at "jw"
              refine drawL hls3.dr.drew (by omega) (by omega) fun fz H4 f0 f1 e4 _ => ?_
              obtain ⟨fz, rfl⟩ := Int.eq_ofNat_of_zero_le f0
              have hls4 := hls3.drew wok e4
              have hE4 := e4.kp _ _ hE3 nEp
              have u := hls4.ps k hk2
              wtm_at "jw"
              refine ⟨w.P k, w.D k, E, w.v k, w.n, w.R, w.fr, w.late, w.lost, w.G k, w.rows k, [], 0, [], r, fz, rfl, ⟨u.post, ⟨[], hE4, trivial⟩, u.road, u.cons, u.ok, u.bl⟩, wok.rf k hk2, by omega, by omega, fun H5 s5 => ?_⟩
              wtm_at "jw"
              exact ⟨hls4.same wok s5, _, rfl⟩
            · obtain ⟨hls, v9, rfl⟩ := h
              wtm_at "jw"
              refine f_range (fun i σ H' => (∃ S g bs, LS K C_Post w H' S g bs ∧ ∀ k, k < 2 → g k = i) ∧ ∃ v9 v14 v15 v17, σ = [some (.ref a), some (.ref w.p), some (.int (w.n : Int)), some (.int (w.R : Int)), some (.int (fr : Int)), some (.int (w.late : Int)), some (.int (w.lost : Int)), some (.int (w.rounds : Int)), some (.ref w.RL), v9, some (.ref w.PL), none, some (.ref w.SL), some (.ref w.LL), v14, v15, none, v17])
                ⟨⟨_, _, _, hls, fun k _ => rfl⟩, v9, none, none, none, rfl⟩ (fun i σ H' hi h => ?_) (fun σ H' h => ?_)
              · obtain ⟨⟨S, g, bs, hls, hg⟩, v9, v14, v15, v17, rfl⟩ := h
                have hi' : i < w.rounds := by omega
                rw [Int.zero_add]
                wtm_at "jw"
                refine f_range (fun k σ H' => (∃ S g bs, LS K C_Post w H' S g bs ∧ ∀ j, j < 2 → g j = if j < k then i + 1 else i) ∧ ∃ v9 v15, σ = [some (.ref a), some (.ref w.p), some (.int (w.n : Int)), some (.int (w.R : Int)), some (.int (fr : Int)), some (.int (w.late : Int)), some (.int (w.lost : Int)), some (.int (w.rounds : Int)), some (.ref w.RL), v9, some (.ref w.PL), none, some (.ref w.SL), some (.ref w.LL), some (.int (i : Int)), v15, none, v17])
                  ⟨⟨S, g, bs, hls, fun j hj => by rw [hg j hj, if_neg (Nat.not_lt_zero _)]⟩, v9, v15, rfl⟩ (fun k σ H' hk h => ?_) (fun σ H' h => ?_)
                · obtain ⟨⟨S, g, bs, hls, hg⟩, v9, v15, rfl⟩ := h
                  have hk2 : k < 2 := hk
                  have hgk : g k = i := by rw [hg k hk2, if_neg (Nat.lt_irrefl _)]
                  have hpl := hls.pl
                  have hsl := hls.sl
                  have hll := hls.ll
                  have hlk := hls.l k hk2
                  have lkl := wok.ll k hk2
                  have hrfn := (wok.rf k hk2).n4
                  have at2 := two_at (f := fun k => V.ref (w.P k)) hk2
                  have at3 := two_at (f := fun k => V.ref (w.X k)) hk2
                  have at4 := two_at (f := fun k => V.ref (w.L k)) hk2
                  rw [Int.zero_add]
                  wtm_at "jw"
                  intro SN hSN
                  refine l_range (fun j H2 => Same H' H2 ∧ H2 SN = some (.lst (natL (spkL (w.ls k) i j)))) ⟨same_new hSN, by rw [upd_same]; rfl⟩ (fun j H2 hj h => ?_) (fun H2 h => ?_)
                  · obtain ⟨s2, hS2⟩ := h
                    have hj' : j < w.n := by omega
                    have hll2 := s2 _ _ hll
                    have hlk2 := s2 _ _ hlk
                    obtain ⟨l, hl⟩ : ∃ l, (w.ls k)[j]? = some l := ⟨_, List.getElem?_eq_getElem (by omega)⟩
                    have hat : atI (natL (w.ls k)) (j : Int) = some (.int (l : Int)) := atI_nat (by unfold natL; rw [List.getElem?_map, hl]; rfl)
                    have hle := spkL_len (w.ls k) i j
                    rw [spkL_snoc, hl, Int.zero_add]
                    wtm_at "jw"
                    refine ⟨rfl, ?_⟩
                    wtm_at "jw"
                    refine c_dec (fun h1 => ?_) (fun h1 => ?_)
                    · rw [if_pos (show i < (some l).getD 0 from (by show i < l; omega))]
                      wtm_at "jw"
                      refine ⟨_, hS2, by unfold natL; rw [List.length_map, sizeLine_eq]; have := hrfn; omega, put_same s2 hSN, ?_⟩
                      rw [upd_same]
                      unfold natL
                      rw [List.map_append]
                      rfl
                    · rw [if_neg (show ¬ i < (some l).getD 0 from (by show ¬ i < l; omega)), List.append_nil]
                      wtm_at "jw"
                      exact ⟨s2, hS2⟩
                  · obtain ⟨s2, hS2⟩ := h
                    rw [Int.toNat_natCast] at hS2
                    have hls2 := hls.same wok s2
                    have u := hls2.ps k hk2
                    have hpl2 := hls2.pl
                    have hsl2 := hls2.sl
                    have fP : Fx w (w.P k) := .inr (.inr (.inr (.inr (.inr ⟨k, hk2, .inr (.inr rfl)⟩))))
                    have fX : Fx w (w.X k) := .inr (.inr (.inr (.inr (.inr ⟨k, hk2, .inr (.inl rfl)⟩))))
                    obtain ⟨kX, hX⟩ := sentAt_dct u.sent
                    obtain ⟨_, _, _, _, hpp2, hcc2, _⟩ := hls2.dr
                    wtm_at "jw"
                    refine ⟨w.p, w.c, SN, w.P k, w.D k, w.X k, w.v k, w.n, w.R, w.fr, w.late, w.lost, w.G k, w.rows k, S k, i, bs k, spkL (w.ls k) i w.n, rfl, hls2.dr, ?_, wok.rf k hk2, hS2, List.nodup_range.filter _, Nat.le_trans (spkL_len _ _ _) hrfn, fun s hs => List.mem_range.mp (List.mem_filter.mp hs).1, by omega, by have := hls2.sz k hk2; omega, wok.np _ fX, ne_of hX hcc2 (by intro z; cases z), wok.np _ fP, hls2.ow k hk2 _ (.inl rfl), hls2.ow k hk2 _ (.inr (.inl rfl)), hls2.ow k hk2 _ (.inr fX), ne_of hX hS2 (by intro z; cases z), fun z => ?_, fun b' S' H3 d3 q3 t3 kp3 ow3 len3 old3 new3 => ?_⟩
                    · rw [← hgk]; exact u
                    · obtain ⟨o, ho⟩ := (hls.ps k hk2).post.own_some z
                      rw [hSN] at ho; cases ho
                    · rw [← hgk] at q3 len3 new3
                      have hls3 := hls2.sent wok hk2 d3 q3 t3 kp3 ow3 len3 old3 new3 (fun s l hl hlt => List.mem_filter.mpr ⟨List.mem_range.mpr (by have := (List.getElem?_eq_some_iff.mp hl).1; omega), by unfold spk; rw [hl]; exact decide_eq_true (show g k < l from hlt)⟩)
                      wtm_at "jw"
                      refine ⟨⟨_, _, _, hls3, fun j hj => ?_⟩, _, _, rfl⟩
                      by_cases e : j = k
                      · subst e
                        rw [setN_at, hgk, if_pos (Nat.lt_succ_self _)]
                      · rw [setN_ne _ _ e, hg j hj]
                        by_cases e2 : j < k
                        · rw [if_pos e2, if_pos (by omega)]
                        · rw [if_neg e2, if_neg (by omega)]
                · obtain ⟨⟨S, g, bs, hls, hg⟩, v9, v15, rfl⟩ := h
                  have hg' : ∀ j, j < 2 → g j = i + 1 := fun j hj => by rw [hg j hj]; exact if_pos hj
                  wtm_at "jw"
                  refine i_lr1 ?_
                  wtm_at "jw"
                  refine ⟨RgOk.of_le (by omega) (by omega) (by decide) (by omega), fun RR hRR => ?_⟩
                  rw [rgV_nat]
                  have hls1 := hls.same wok (same_new (o := .lst (natL (List.range w.R))) hRR)
                  have hR1 : upd H' RR (.lst (natL (List.range w.R))) RR = some (.lst (natL (List.range w.R))) := upd_same
                  generalize upd H' RR (.lst (natL (List.range w.R))) = H1 at hls1 hR1 ⊢
                  wtm_at "jw"
                  refine ⟨w.p, w.c, RR, _, rfl, hls1.dr, .inl (SqL.of hR1), by unfold natL; rw [List.length_map, List.length_range]; omega, fun YL ys H3 e3 hYL hY3 perm => ?_⟩
                  have hls3 := hls1.drew wok e3
                  wtm_at "jw"
                  refine f_list (xs := ys) (fun c σ H' => Same H3 H' ∧ ∃ v9 v17, σ = [some (.ref a), some (.ref w.p), some (.int (w.n : Int)), some (.int (w.R : Int)), some (.int (fr : Int)), some (.int (w.late : Int)), some (.int (w.lost : Int)), some (.int (w.rounds : Int)), some (.ref w.RL), v9, some (.ref w.PL), none, some (.ref w.SL), some (.ref w.LL), some (.int (i : Int)), v15, none, v17])
                    ⟨.refl _, v9, v17, rfl⟩ (fun c σ H' _ h => SqL.of (h.1 _ _ hY3)) (fun c y σ H' hy h => ?_) (fun σ H' h => ?_)
                  · obtain ⟨s4, v9, v17, rfl⟩ := h
                    obtain ⟨r, rfl, hr⟩ := natL_mem perm hy
                    wtm_at "jw"
                    refine f_range (fun k σ H' => Same H3 H' ∧ ∃ v9, σ = [some (.ref a), some (.ref w.p), some (.int (w.n : Int)), some (.int (w.R : Int)), some (.int (fr : Int)), some (.int (w.late : Int)), some (.int (w.lost : Int)), some (.int (w.rounds : Int)), some (.ref w.RL), v9, some (.ref w.PL), none, some (.ref w.SL), some (.ref w.LL), some (.int (i : Int)), v15, none, some (.int (r : Int))])
                      ⟨s4, v9, rfl⟩ (fun k σ H' hk h => ?_) (fun σ H' h => ?_)
                    · obtain ⟨s5, v9, rfl⟩ := h
                      have hls5 := hls3.same wok s5
                      have hk2 : k < 2 := hk
                      have hrl := hls5.rl
                      have hpl := hls5.pl
                      have hsl := hls5.sl
                      have at1 := two_at (f := w.v) hk2
                      have at2 := two_at (f := fun k => V.ref (w.P k)) hk2
                      have at3 := two_at (f := fun k => V.ref (w.X k)) hk2
                      rw [Int.zero_add]
                      wtm_at "jw"
                      refine ⟨w.P k, w.D k, w.X k, w.v k, w.n, w.R, w.fr, w.late, w.lost, w.G k, w.rows k, S k, g k, bs k, r, i, rfl, hls5.ps k hk2, wok.rf k hk2, hr, by omega, fun H6 s6 => ?_⟩
                      wtm_at "jw"
                      exact ⟨s5.trans s6, _, rfl⟩
                    · obtain ⟨s5, v9, rfl⟩ := h
                      exact ⟨s5, _, _, rfl⟩
                  · obtain ⟨s4, v9, v17, rfl⟩ := h
                    have hls4 := hls3.same wok s4
                    wtm_at "jw"
                    refine drawL hls4.dr.drew (by decide) (by decide) fun kz H5 k0 k1 e5 _ => ?_
                    obtain ⟨k, rfl⟩ := Int.eq_ofNat_of_zero_le k0
                    have hls5 := hls4.drew wok e5
                    have hk : k < 2 := by omega
                    have hk2 : k < 2 := hk
                    have hrl := hls5.rl
                    have hpl := hls5.pl
                    have hsl := hls5.sl
                    have at1 := two_at (f := w.v) hk2
                    have at2 := two_at (f := fun k => V.ref (w.P k)) hk2
                    have at3 := two_at (f := fun k => V.ref (w.X k)) hk2
                    wtm_at "jw"
                    refine drawL hls5.dr.drew (by omega) (by omega) fun rz H6 r0 r1 e6 _ => ?_
                    obtain ⟨r, rfl⟩ := Int.eq_ofNat_of_zero_le r0
                    have hls6 := hls5.drew wok e6
                    wtm_at "jw"
                    refine drawL hls6.dr.drew (by omega) (by omega) fun fz H7 f0 f1 e7 _ => ?_
                    obtain ⟨fz, rfl⟩ := Int.eq_ofNat_of_zero_le f0
                    have hls7 := hls6.drew wok e7
                    wtm_at "jw"
                    refine ⟨w.P k, w.D k, w.X k, w.v k, w.n, w.R, w.fr, w.late, w.lost, w.G k, w.rows k, S k, g k, bs k, r, fz, rfl, hls7.ps k hk2, wok.rf k hk2, by omega, by omega, fun H8 s8 => ?_⟩
                    wtm_at "jw"
                    exact ⟨⟨_, _, _, hls7.same wok s8, hg'⟩, _, _, _, _, rfl⟩
              · obtain ⟨⟨S, g, bs, hls, hg⟩, v9, v14, v15, v17, rfl⟩ := h
                rw [Int.toNat_natCast] at hg
                wtm_at "jw"
                refine i_lr1 ?_
                wtm_at "jw"
                refine ⟨RgOk.of_le (by omega) (by omega) (by decide) (by omega), fun RR hRR => ?_⟩
                rw [show (w.rounds : Int) + 4 = ((w.rounds + 4 : Nat) : Int) by omega, rgV_nat]
                have hls1 := hls.same wok (same_new (o := .lst (natL (List.range (w.rounds + 4)))) hRR)
                have hR1 : upd H' RR (.lst (natL (List.range (w.rounds + 4)))) RR = some (.lst (natL (List.range (w.rounds + 4)))) := upd_same
                generalize upd H' RR (.lst (natL (List.range (w.rounds + 4)))) = H1 at hls1 hR1 ⊢
                wtm_at "jw"
                refine ⟨w.p, w.c, RR, _, rfl, hls1.dr, .inl (SqL.of hR1), by unfold natL; rw [List.length_map, List.length_range]; omega, fun YL ys H3 e3 hYL hY3 perm => ?_⟩
                have hls3 := hls1.drew wok e3
                wtm_at "jw"
                refine f_list (xs := ys) (fun c σ H' => Same H3 H' ∧ ∃ v9 v14 v17, σ = [some (.ref a), some (.ref w.p), some (.int (w.n : Int)), some (.int (w.R : Int)), some (.int (fr : Int)), some (.int (w.late : Int)), some (.int (w.lost : Int)), some (.int (w.rounds : Int)), some (.ref w.RL), v9, some (.ref w.PL), none, some (.ref w.SL), some (.ref w.LL), v14, v15, none, v17])
                  ⟨.refl _, v9, v14, v17, rfl⟩ (fun c σ H' _ h => SqL.of (h.1 _ _ hY3)) (fun c y σ H' hy h => ?_) (fun σ H' h => ?_)
                · obtain ⟨s4, v9, v14, v17, rfl⟩ := h
                  obtain ⟨f, rfl, hf⟩ := natL_mem perm hy
                  wtm_at "jw"
                  refine f_range (fun r σ H' => Same H3 H' ∧ ∃ v9 v17, σ = [some (.ref a), some (.ref w.p), some (.int (w.n : Int)), some (.int (w.R : Int)), some (.int (fr : Int)), some (.int (w.late : Int)), some (.int (w.lost : Int)), some (.int (w.rounds : Int)), some (.ref w.RL), v9, some (.ref w.PL), none, some (.ref w.SL), some (.ref w.LL), some (.int (f : Int)), v15, none, v17])
                    ⟨s4, v9, v17, rfl⟩ (fun r σ H' hr h => ?_) (fun σ H' h => ?_)
                  · obtain ⟨s5, v9, v17, rfl⟩ := h
                    have hr' : r < w.R := by omega
                    rw [Int.zero_add]
                    wtm_at "jw"
                    refine f_range (fun k σ H' => Same H3 H' ∧ ∃ v9, σ = [some (.ref a), some (.ref w.p), some (.int (w.n : Int)), some (.int (w.R : Int)), some (.int (fr : Int)), some (.int (w.late : Int)), some (.int (w.lost : Int)), some (.int (w.rounds : Int)), some (.ref w.RL), v9, some (.ref w.PL), none, some (.ref w.SL), some (.ref w.LL), some (.int (f : Int)), v15, none, some (.int (r : Int))])
                      ⟨s5, v9, rfl⟩ (fun k σ H' hk h => ?_) (fun σ H' h => ?_)
                    · obtain ⟨s5, v9, rfl⟩ := h
                      have hls5 := hls3.same wok s5
                      have hk2 : k < 2 := hk
                      have hrl := hls5.rl
                      have hpl := hls5.pl
                      have hsl := hls5.sl
                      have at1 := two_at (f := w.v) hk2
                      have at2 := two_at (f := fun k => V.ref (w.P k)) hk2
                      have at3 := two_at (f := fun k => V.ref (w.X k)) hk2
                      rw [Int.zero_add]
                      wtm_at "jw"
                      refine ⟨w.P k, w.D k, w.X k, w.v k, w.n, w.R, w.fr, w.late, w.lost, w.G k, w.rows k, S k, g k, bs k, r, f, rfl, hls5.ps k hk2, wok.rf k hk2, hr', by omega, fun H6 s6 => ?_⟩
                      wtm_at "jw"
                      exact ⟨s5.trans s6, _, rfl⟩
                    · obtain ⟨s5, v9, rfl⟩ := h
                      exact ⟨s5, _, _, rfl⟩
                  · obtain ⟨s5, v9, v17, rfl⟩ := h
                    exact ⟨s5, _, _, _, rfl⟩
                · obtain ⟨s4, v9, v14, v17, rfl⟩ := h
                  wtm_at "jw"
                  refine f_range (fun k σ H' => Same H3 H' ∧ ∃ v9 v17, σ = [some (.ref a), some (.ref w.p), some (.int (w.n : Int)), some (.int (w.R : Int)), some (.int (fr : Int)), some (.int (w.late : Int)), some (.int (w.lost : Int)), some (.int (w.rounds : Int)), some (.ref w.RL), v9, some (.ref w.PL), none, some (.ref w.SL), some (.ref w.LL), v14, v15, none, v17])
                    ⟨s4, v9, v17, rfl⟩ (fun k σ H' hk h => ?_) (fun σ H' h => ?_)
                  · obtain ⟨s5, v9, v17, rfl⟩ := h
                    rw [Int.zero_add]
                    wtm_at "jw"
                    refine f_range (fun r σ H' => Same H3 H' ∧ ∃ v17, σ = [some (.ref a), some (.ref w.p), some (.int (w.n : Int)), some (.int (w.R : Int)), some (.int (fr : Int)), some (.int (w.late : Int)), some (.int (w.lost : Int)), some (.int (w.rounds : Int)), some (.ref w.RL), some (.int (k : Int)), some (.ref w.PL), none, some (.ref w.SL), some (.ref w.LL), v14, v15, none, v17])
                      ⟨s5, v17, rfl⟩ (fun r σ H' hr h => ?_) (fun σ H' h => ?_)
                    · obtain ⟨s5, v17, rfl⟩ := h
                      have hr' : r < w.R := by omega
                      have hls5 := hls3.same wok s5
                      have hk2 : k < 2 := hk
                      have hrl := hls5.rl
                      have hpl := hls5.pl
                      have hsl := hls5.sl
                      have at1 := two_at (f := w.v) hk2
                      have at2 := two_at (f := fun k => V.ref (w.P k)) hk2
                      have at3 := two_at (f := fun k => V.ref (w.X k)) hk2
                      have hll := hls5.ll
                      have at4 := two_at (f := fun k => V.ref (w.L k)) hk2
                      rw [Int.zero_add]
                      wtm_at "jw"
                      refine ⟨_, _, rfl, ?_⟩
                      wtm_at "jw"
                      refine ⟨w.P k, w.D k, w.X k, w.L k, w.v k, w.n, w.R, w.fr, w.late, w.lost, w.rounds, w.G k, w.rows k, S k, g k, bs k, r, w.ls k, by rw [Int.natCast_add]; rfl, hls5.ps k hk2, wok.rf k hk2, hr', by omega, hls5.l k hk2, wok.ll k hk2, wok.lr k hk2, fun s l hl ne st hst => hls5.al k hk2 s l hl st hst (by have := wok.lr k hk2 l (List.mem_of_getElem? hl); have := hg k hk2; omega) r hr' ne, fun H6 s6 => ?_⟩
                      wtm_at "jw"
                      exact ⟨s5.trans s6, _, rfl⟩
                    · obtain ⟨s5, v17, rfl⟩ := h
                      exact ⟨s5, _, _, rfl⟩
                  · obtain ⟨s5, v9, v17, rfl⟩ := h
                    wtm_at "jw"
                    exact q _
    · wtm_at "jw"
      refine ⟨p, c, 29, rfl, w3.at_, by decide, by decide, fun b H4 e4 => ?_⟩
      have w4 := w3.trans e4
      wtm_at "jw"
      refine c_bool (fun e => ?_) (fun e => ?_)
      · wtm_at "jw"
        exact hR _ _ ⟨w4, 30, rfl, by decide⟩
      · wtm_at "jw"
        refine drawL w4 (by decide) (by decide) fun z3 H5 z30 z31 _ w5 => ?_
        obtain ⟨zf, rfl⟩ := Int.eq_ofNat_of_zero_le z30
        wtm_at "jw"
        exact hR _ _ ⟨w5, 1 + zf, by rw [Int.natCast_add]; rfl, by omega⟩
theorem law_hands {K : PySem.W.Frag} {H : Hp} (a : Addr) (ns : List Int) (hl : ns.length ≤ 63) (hb : ∀ z ∈ ns, Builtin.Int.intBits z ≤ 1048576) (h : SqL K H a (ns.map V.int)) :
    sp_law K [.ref a] H (fun v _ => v = .bl true) fun _ _ _ => False := ⟨a, ns, rfl, h, hl, fun _ => rfl⟩
theorem all_mk {l : PySem.W.OpenLaw} {w : World} {K : PySem.W.Frag} {h : Heap} {mg : Str → Option Value} {fa : Addr} (X : K.In h) (G : h.Ns mainGlobals mg) (hfa : mg "law" = some (.ref fa))
    {C_Post : Addr} (a_Post : PySem.W.nsIn K mainGlobals "Post" = some (some (.ref C_Post)))
    (pg_Post : PySem.W.plainGet K C_Post Str.empty = true) (hd_Post : PySem.W.hasDictIn K C_Post = true) (po_Post : PySem.W.plainOver K C_Post = true) (sa_Post : PySem.W.findIn K (.ref C_Post) "__setattr__" = some (some (.builtin "object.__setattr__"))) (mk_Post : PySem.W.makesIn K C_Post = true) (kc_Post : PySem.W.keepIn K (.ref C_Post) = true)
    (n_Post_road : PySem.W.findIn K (.ref C_Post) "road" = some none)
    (n_Post_bags : PySem.W.findIn K (.ref C_Post) "bags" = some none)
    {f__law_begin : Addr} {od__law_begin an__law_begin : Option Addr} {sl__law_begin : Array (Option Value)} {oc__law_begin kV__law_begin dc__law_begin pm__law_begin cd__law_begin ct__law_begin : Value}
    {f__law_draw : Addr} {od__law_draw an__law_draw : Option Addr} {sl__law_draw : Array (Option Value)} {oc__law_draw kV__law_draw dc__law_draw pm__law_draw cd__law_draw ct__law_draw : Value}
    {f__law_pick : Addr} {od__law_pick an__law_pick : Option Addr} {sl__law_pick : Array (Option Value)} {oc__law_pick kV__law_pick dc__law_pick pm__law_pick cd__law_pick ct__law_pick : Value}
    {f__law_shuffled : Addr} {od__law_shuffled an__law_shuffled : Option Addr} {sl__law_shuffled : Array (Option Value)} {oc__law_shuffled kV__law_shuffled dc__law_shuffled pm__law_shuffled cd__law_shuffled ct__law_shuffled : Value}
    {f__law_rare : Addr} {od__law_rare an__law_rare : Option Addr} {sl__law_rare : Array (Option Value)} {oc__law_rare kV__law_rare dc__law_rare pm__law_rare cd__law_rare ct__law_rare : Value}
    {f__law_fates : Addr} {od__law_fates an__law_fates : Option Addr} {sl__law_fates : Array (Option Value)} {oc__law_fates kV__law_fates dc__law_fates pm__law_fates cd__law_fates ct__law_fates : Value}
    {f__law_road : Addr} {od__law_road an__law_road : Option Addr} {sl__law_road : Array (Option Value)} {oc__law_road kV__law_road dc__law_road pm__law_road cd__law_road ct__law_road : Value}
    {f__law_late_row : Addr} {od__law_late_row an__law_late_row : Option Addr} {sl__law_late_row : Array (Option Value)} {oc__law_late_row kV__law_late_row dc__law_late_row pm__law_late_row cd__law_late_row ct__law_late_row : Value}
    {f__law_any_road : Addr} {od__law_any_road an__law_any_road : Option Addr} {sl__law_any_road : Array (Option Value)} {oc__law_any_road kV__law_any_road dc__law_any_road pm__law_any_road cd__law_any_road ct__law_any_road : Value}
    {f_Post___init__ : Addr} {od_Post___init__ an_Post___init__ : Option Addr} {sl_Post___init__ : Array (Option Value)} {oc_Post___init__ kV_Post___init__ dc_Post___init__ pm_Post___init__ cd_Post___init__ ct_Post___init__ : Value}
    {f__law_lasts : Addr} {od__law_lasts an__law_lasts : Option Addr} {sl__law_lasts : Array (Option Value)} {oc__law_lasts kV__law_lasts dc__law_lasts pm__law_lasts cd__law_lasts ct__law_lasts : Value}
    {f_Post_arriving : Addr} {od_Post_arriving an_Post_arriving : Option Addr} {sl_Post_arriving : Array (Option Value)} {oc_Post_arriving kV_Post_arriving dc_Post_arriving pm_Post_arriving cd_Post_arriving ct_Post_arriving : Value}
    {f__law_arrivals : Addr} {od__law_arrivals an__law_arrivals : Option Addr} {sl__law_arrivals : Array (Option Value)} {oc__law_arrivals kV__law_arrivals dc__law_arrivals pm__law_arrivals cd__law_arrivals ct__law_arrivals : Value}
    {f__law_brings : Addr} {od__law_brings an__law_brings : Option Addr} {sl__law_brings : Array (Option Value)} {oc__law_brings kV__law_brings dc__law_brings pm__law_brings cd__law_brings ct__law_brings : Value}
    {f__law_letter : Addr} {od__law_letter an__law_letter : Option Addr} {sl__law_letter : Array (Option Value)} {oc__law_letter kV__law_letter dc__law_letter pm__law_letter cd__law_letter ct__law_letter : Value}
    {f_Post_send : Addr} {od_Post_send an_Post_send : Option Addr} {sl_Post_send : Array (Option Value)} {oc_Post_send kV_Post_send dc_Post_send pm_Post_send cd_Post_send ct_Post_send : Value}
    {f__law_is_sent : Addr} {od__law_is_sent an__law_is_sent : Option Addr} {sl__law_is_sent : Array (Option Value)} {oc__law_is_sent kV__law_is_sent dc__law_is_sent pm__law_is_sent cd__law_is_sent ct__law_is_sent : Value}
    {f__law_is_heard : Addr} {od__law_is_heard an__law_is_heard : Option Addr} {sl__law_is_heard : Array (Option Value)} {oc__law_is_heard kV__law_is_heard dc__law_is_heard pm__law_is_heard cd__law_is_heard ct__law_is_heard : Value}
    {f__law_all_heard : Addr} {od__law_all_heard an__law_all_heard : Option Addr} {sl__law_all_heard : Array (Option Value)} {oc__law_all_heard kV__law_all_heard dc__law_all_heard pm__law_all_heard cd__law_all_heard ct__law_all_heard : Value}
    {f_lateness : Addr} {od_lateness an_lateness : Option Addr} {sl_lateness : Array (Option Value)} {oc_lateness kV_lateness dc_lateness pm_lateness cd_lateness ct_lateness : Value}
    {f_law : Addr} {od_law an_law : Option Addr} {sl_law : Array (Option Value)} {oc_law kV_law dc_law pm_law cd_law ct_law : Value}
    (a__law_begin : PySem.W.nsIn K mainGlobals "_law_begin" = some (some (.ref f__law_begin))) (l__law_begin : K.lookup f__law_begin = some ⟨oc__law_begin, od__law_begin, .func (PySem.W.fnOf "_law_begin" "_law_begin" (defArgs s__law_begin) (defBody s__law_begin) (defScope s__law_begin) .none kV__law_begin dc__law_begin pm__law_begin an__law_begin cd__law_begin ct__law_begin), sl__law_begin⟩) (c__law_begin : PySem.W.codeIn K cd__law_begin "_law_begin" = true) (k__law_begin : PySem.W.keepIn K (.ref f__law_begin) = true)
    (a__law_draw : PySem.W.nsIn K mainGlobals "_law_draw" = some (some (.ref f__law_draw))) (l__law_draw : K.lookup f__law_draw = some ⟨oc__law_draw, od__law_draw, .func (PySem.W.fnOf "_law_draw" "_law_draw" (defArgs s__law_draw) (defBody s__law_draw) (defScope s__law_draw) .none kV__law_draw dc__law_draw pm__law_draw an__law_draw cd__law_draw ct__law_draw), sl__law_draw⟩) (c__law_draw : PySem.W.codeIn K cd__law_draw "_law_draw" = true) (k__law_draw : PySem.W.keepIn K (.ref f__law_draw) = true)
    (a__law_pick : PySem.W.nsIn K mainGlobals "_law_pick" = some (some (.ref f__law_pick))) (l__law_pick : K.lookup f__law_pick = some ⟨oc__law_pick, od__law_pick, .func (PySem.W.fnOf "_law_pick" "_law_pick" (defArgs s__law_pick) (defBody s__law_pick) (defScope s__law_pick) .none kV__law_pick dc__law_pick pm__law_pick an__law_pick cd__law_pick ct__law_pick), sl__law_pick⟩) (c__law_pick : PySem.W.codeIn K cd__law_pick "_law_pick" = true) (k__law_pick : PySem.W.keepIn K (.ref f__law_pick) = true)
    (a__law_shuffled : PySem.W.nsIn K mainGlobals "_law_shuffled" = some (some (.ref f__law_shuffled))) (l__law_shuffled : K.lookup f__law_shuffled = some ⟨oc__law_shuffled, od__law_shuffled, .func (PySem.W.fnOf "_law_shuffled" "_law_shuffled" (defArgs s__law_shuffled) (defBody s__law_shuffled) (defScope s__law_shuffled) .none kV__law_shuffled dc__law_shuffled pm__law_shuffled an__law_shuffled cd__law_shuffled ct__law_shuffled), sl__law_shuffled⟩) (c__law_shuffled : PySem.W.codeIn K cd__law_shuffled "_law_shuffled" = true) (k__law_shuffled : PySem.W.keepIn K (.ref f__law_shuffled) = true)
    (a__law_rare : PySem.W.nsIn K mainGlobals "_law_rare" = some (some (.ref f__law_rare))) (l__law_rare : K.lookup f__law_rare = some ⟨oc__law_rare, od__law_rare, .func (PySem.W.fnOf "_law_rare" "_law_rare" (defArgs s__law_rare) (defBody s__law_rare) (defScope s__law_rare) .none kV__law_rare dc__law_rare pm__law_rare an__law_rare cd__law_rare ct__law_rare), sl__law_rare⟩) (c__law_rare : PySem.W.codeIn K cd__law_rare "_law_rare" = true) (k__law_rare : PySem.W.keepIn K (.ref f__law_rare) = true)
    (a__law_fates : PySem.W.nsIn K mainGlobals "_law_fates" = some (some (.ref f__law_fates))) (l__law_fates : K.lookup f__law_fates = some ⟨oc__law_fates, od__law_fates, .func (PySem.W.fnOf "_law_fates" "_law_fates" (defArgs s__law_fates) (defBody s__law_fates) (defScope s__law_fates) .none kV__law_fates dc__law_fates pm__law_fates an__law_fates cd__law_fates ct__law_fates), sl__law_fates⟩) (c__law_fates : PySem.W.codeIn K cd__law_fates "_law_fates" = true) (k__law_fates : PySem.W.keepIn K (.ref f__law_fates) = true)
    (a__law_road : PySem.W.nsIn K mainGlobals "_law_road" = some (some (.ref f__law_road))) (l__law_road : K.lookup f__law_road = some ⟨oc__law_road, od__law_road, .func (PySem.W.fnOf "_law_road" "_law_road" (defArgs s__law_road) (defBody s__law_road) (defScope s__law_road) .none kV__law_road dc__law_road pm__law_road an__law_road cd__law_road ct__law_road), sl__law_road⟩) (c__law_road : PySem.W.codeIn K cd__law_road "_law_road" = true) (k__law_road : PySem.W.keepIn K (.ref f__law_road) = true)
    (a__law_late_row : PySem.W.nsIn K mainGlobals "_law_late_row" = some (some (.ref f__law_late_row))) (l__law_late_row : K.lookup f__law_late_row = some ⟨oc__law_late_row, od__law_late_row, .func (PySem.W.fnOf "_law_late_row" "_law_late_row" (defArgs s__law_late_row) (defBody s__law_late_row) (defScope s__law_late_row) .none kV__law_late_row dc__law_late_row pm__law_late_row an__law_late_row cd__law_late_row ct__law_late_row), sl__law_late_row⟩) (c__law_late_row : PySem.W.codeIn K cd__law_late_row "_law_late_row" = true) (k__law_late_row : PySem.W.keepIn K (.ref f__law_late_row) = true)
    (a__law_any_road : PySem.W.nsIn K mainGlobals "_law_any_road" = some (some (.ref f__law_any_road))) (l__law_any_road : K.lookup f__law_any_road = some ⟨oc__law_any_road, od__law_any_road, .func (PySem.W.fnOf "_law_any_road" "_law_any_road" (defArgs s__law_any_road) (defBody s__law_any_road) (defScope s__law_any_road) .none kV__law_any_road dc__law_any_road pm__law_any_road an__law_any_road cd__law_any_road ct__law_any_road), sl__law_any_road⟩) (c__law_any_road : PySem.W.codeIn K cd__law_any_road "_law_any_road" = true) (k__law_any_road : PySem.W.keepIn K (.ref f__law_any_road) = true)
    (a_Post___init__ : PySem.W.findIn K (.ref C_Post) "__init__" = some (some (.ref f_Post___init__))) (i_Post___init__ : PySem.W.isFn K (.ref f_Post___init__) = true) (l_Post___init__ : K.lookup f_Post___init__ = some ⟨oc_Post___init__, od_Post___init__, .func (PySem.W.fnOf "__init__" "Post.__init__" (defArgs s_Post___init__) (defBody s_Post___init__) (defScope s_Post___init__) .none kV_Post___init__ dc_Post___init__ pm_Post___init__ an_Post___init__ cd_Post___init__ ct_Post___init__), sl_Post___init__⟩) (c_Post___init__ : PySem.W.codeIn K cd_Post___init__ "Post.__init__" = true) (k_Post___init__ : PySem.W.keepIn K (.ref f_Post___init__) = true)
    (a__law_lasts : PySem.W.nsIn K mainGlobals "_law_lasts" = some (some (.ref f__law_lasts))) (l__law_lasts : K.lookup f__law_lasts = some ⟨oc__law_lasts, od__law_lasts, .func (PySem.W.fnOf "_law_lasts" "_law_lasts" (defArgs s__law_lasts) (defBody s__law_lasts) (defScope s__law_lasts) .none kV__law_lasts dc__law_lasts pm__law_lasts an__law_lasts cd__law_lasts ct__law_lasts), sl__law_lasts⟩) (c__law_lasts : PySem.W.codeIn K cd__law_lasts "_law_lasts" = true) (k__law_lasts : PySem.W.keepIn K (.ref f__law_lasts) = true)
    (a_Post_arriving : PySem.W.findIn K (.ref C_Post) "arriving" = some (some (.ref f_Post_arriving))) (i_Post_arriving : PySem.W.isFn K (.ref f_Post_arriving) = true) (l_Post_arriving : K.lookup f_Post_arriving = some ⟨oc_Post_arriving, od_Post_arriving, .func (PySem.W.fnOf "arriving" "Post.arriving" (defArgs s_Post_arriving) (defBody s_Post_arriving) (defScope s_Post_arriving) .none kV_Post_arriving dc_Post_arriving pm_Post_arriving an_Post_arriving cd_Post_arriving ct_Post_arriving), sl_Post_arriving⟩) (c_Post_arriving : PySem.W.codeIn K cd_Post_arriving "Post.arriving" = true) (k_Post_arriving : PySem.W.keepIn K (.ref f_Post_arriving) = true)
    (a__law_arrivals : PySem.W.nsIn K mainGlobals "_law_arrivals" = some (some (.ref f__law_arrivals))) (l__law_arrivals : K.lookup f__law_arrivals = some ⟨oc__law_arrivals, od__law_arrivals, .func (PySem.W.fnOf "_law_arrivals" "_law_arrivals" (defArgs s__law_arrivals) (defBody s__law_arrivals) (defScope s__law_arrivals) .none kV__law_arrivals dc__law_arrivals pm__law_arrivals an__law_arrivals cd__law_arrivals ct__law_arrivals), sl__law_arrivals⟩) (c__law_arrivals : PySem.W.codeIn K cd__law_arrivals "_law_arrivals" = true) (k__law_arrivals : PySem.W.keepIn K (.ref f__law_arrivals) = true)
    (a__law_brings : PySem.W.nsIn K mainGlobals "_law_brings" = some (some (.ref f__law_brings))) (l__law_brings : K.lookup f__law_brings = some ⟨oc__law_brings, od__law_brings, .func (PySem.W.fnOf "_law_brings" "_law_brings" (defArgs s__law_brings) (defBody s__law_brings) (defScope s__law_brings) .none kV__law_brings dc__law_brings pm__law_brings an__law_brings cd__law_brings ct__law_brings), sl__law_brings⟩) (c__law_brings : PySem.W.codeIn K cd__law_brings "_law_brings" = true) (k__law_brings : PySem.W.keepIn K (.ref f__law_brings) = true)
    (a__law_letter : PySem.W.nsIn K mainGlobals "_law_letter" = some (some (.ref f__law_letter))) (l__law_letter : K.lookup f__law_letter = some ⟨oc__law_letter, od__law_letter, .func (PySem.W.fnOf "_law_letter" "_law_letter" (defArgs s__law_letter) (defBody s__law_letter) (defScope s__law_letter) .none kV__law_letter dc__law_letter pm__law_letter an__law_letter cd__law_letter ct__law_letter), sl__law_letter⟩) (c__law_letter : PySem.W.codeIn K cd__law_letter "_law_letter" = true) (k__law_letter : PySem.W.keepIn K (.ref f__law_letter) = true)
    (a_Post_send : PySem.W.findIn K (.ref C_Post) "send" = some (some (.ref f_Post_send))) (i_Post_send : PySem.W.isFn K (.ref f_Post_send) = true) (l_Post_send : K.lookup f_Post_send = some ⟨oc_Post_send, od_Post_send, .func (PySem.W.fnOf "send" "Post.send" (defArgs s_Post_send) (defBody s_Post_send) (defScope s_Post_send) .none kV_Post_send dc_Post_send pm_Post_send an_Post_send cd_Post_send ct_Post_send), sl_Post_send⟩) (c_Post_send : PySem.W.codeIn K cd_Post_send "Post.send" = true) (k_Post_send : PySem.W.keepIn K (.ref f_Post_send) = true)
    (a__law_is_sent : PySem.W.nsIn K mainGlobals "_law_is_sent" = some (some (.ref f__law_is_sent))) (l__law_is_sent : K.lookup f__law_is_sent = some ⟨oc__law_is_sent, od__law_is_sent, .func (PySem.W.fnOf "_law_is_sent" "_law_is_sent" (defArgs s__law_is_sent) (defBody s__law_is_sent) (defScope s__law_is_sent) .none kV__law_is_sent dc__law_is_sent pm__law_is_sent an__law_is_sent cd__law_is_sent ct__law_is_sent), sl__law_is_sent⟩) (c__law_is_sent : PySem.W.codeIn K cd__law_is_sent "_law_is_sent" = true) (k__law_is_sent : PySem.W.keepIn K (.ref f__law_is_sent) = true)
    (a__law_is_heard : PySem.W.nsIn K mainGlobals "_law_is_heard" = some (some (.ref f__law_is_heard))) (l__law_is_heard : K.lookup f__law_is_heard = some ⟨oc__law_is_heard, od__law_is_heard, .func (PySem.W.fnOf "_law_is_heard" "_law_is_heard" (defArgs s__law_is_heard) (defBody s__law_is_heard) (defScope s__law_is_heard) .none kV__law_is_heard dc__law_is_heard pm__law_is_heard an__law_is_heard cd__law_is_heard ct__law_is_heard), sl__law_is_heard⟩) (c__law_is_heard : PySem.W.codeIn K cd__law_is_heard "_law_is_heard" = true) (k__law_is_heard : PySem.W.keepIn K (.ref f__law_is_heard) = true)
    (a__law_all_heard : PySem.W.nsIn K mainGlobals "_law_all_heard" = some (some (.ref f__law_all_heard))) (l__law_all_heard : K.lookup f__law_all_heard = some ⟨oc__law_all_heard, od__law_all_heard, .func (PySem.W.fnOf "_law_all_heard" "_law_all_heard" (defArgs s__law_all_heard) (defBody s__law_all_heard) (defScope s__law_all_heard) .none kV__law_all_heard dc__law_all_heard pm__law_all_heard an__law_all_heard cd__law_all_heard ct__law_all_heard), sl__law_all_heard⟩) (c__law_all_heard : PySem.W.codeIn K cd__law_all_heard "_law_all_heard" = true) (k__law_all_heard : PySem.W.keepIn K (.ref f__law_all_heard) = true)
    (a_lateness : PySem.W.nsIn K mainGlobals "lateness" = some (some (.ref f_lateness))) (l_lateness : K.lookup f_lateness = some ⟨oc_lateness, od_lateness, .func (PySem.W.fnOf "lateness" "lateness" (defArgs s_lateness) (defBody s_lateness) (defScope s_lateness) .none kV_lateness dc_lateness pm_lateness an_lateness cd_lateness ct_lateness), sl_lateness⟩) (c_lateness : PySem.W.codeIn K cd_lateness "lateness" = true) (k_lateness : PySem.W.keepIn K (.ref f_lateness) = true)
    (a_law : PySem.W.nsIn K mainGlobals "law" = some (some (.ref f_law))) (l_law : K.lookup f_law = some ⟨oc_law, od_law, .func (PySem.W.fnOf "law" "law" (defArgs s_law) (defBody s_law) (defScope s_law) .none kV_law dc_law pm_law an_law cd_law ct_law), sl_law⟩) (c_law : PySem.W.codeIn K cd_law "law" = true) (k_law : PySem.W.keepIn K (.ref f_law) = true)
    (z_int : PySem.W.nsIn K mainGlobals "int" = some none)
    (z_len : PySem.W.nsIn K mainGlobals "len" = some none)
    (z_abs : PySem.W.nsIn K mainGlobals "abs" = some none)
    (z_list : PySem.W.nsIn K mainGlobals "list" = some none)
    (z_range : PySem.W.nsIn K mainGlobals "range" = some none)
    (z_tuple : PySem.W.nsIn K mainGlobals "tuple" = some none)
    (z_sorted : PySem.W.nsIn K mainGlobals "sorted" = some none)
    (z_isinstance : PySem.W.nsIn K mainGlobals "isinstance" = some none)
    (z_min : PySem.W.nsIn K mainGlobals "min" = some none)
    : ∃ fd : FuncData, (∀ (s : Shared) (v : Value), BindsTo s fd ⟨[v], []⟩ [("script", v)]) ∧ ∀ base : Heap, K.In base → base.Ns mainGlobals mg → FnOk l.prog w K mg base CX0 5 fa fd ["script"] (sp_law K) := by
  have e := hfa.symm.trans (PySem.W.mg_of X G a_law)
  cases e
  have T : Txt K mg C_Post := ⟨⟨pg_Post, hd_Post, po_Post, sa_Post⟩, PySem.W.mg_of X G a_Post, n_Post_road, n_Post_bags, PySem.W.mg_none_of X G z_int, PySem.W.mg_none_of X G z_len, PySem.W.mg_none_of X G z_abs, PySem.W.mg_none_of X G z_list, PySem.W.mg_none_of X G z_range, PySem.W.mg_none_of X G z_tuple, PySem.W.mg_none_of X G z_sorted, PySem.W.mg_none_of X G z_isinstance, PySem.W.mg_none_of X G z_min⟩
  have F__law_begin := fun_mk (st := s__law_begin) l__law_begin c__law_begin k__law_begin
  have D__law_begin : Df K mg "_law_begin" s__law_begin f__law_begin _ ["script"] := ⟨F__law_begin, PySem.W.mg_of X G a__law_begin, F__law_begin.binds (ps := ["script"]) fun _ _ _ _ _ _ us hl => match us, hl with | [_], _ => rfl⟩
  have F__law_draw := fun_mk (st := s__law_draw) l__law_draw c__law_draw k__law_draw
  have D__law_draw : Df K mg "_law_draw" s__law_draw f__law_draw _ ["d", "many"] := ⟨F__law_draw, PySem.W.mg_of X G a__law_draw, F__law_draw.binds (ps := ["d", "many"]) fun _ _ _ _ _ _ us hl => match us, hl with | [_, _], _ => rfl⟩
  have F__law_pick := fun_mk (st := s__law_pick) l__law_pick c__law_pick k__law_pick
  have D__law_pick : Df K mg "_law_pick" s__law_pick f__law_pick _ ["d", "row"] := ⟨F__law_pick, PySem.W.mg_of X G a__law_pick, F__law_pick.binds (ps := ["d", "row"]) fun _ _ _ _ _ _ us hl => match us, hl with | [_, _], _ => rfl⟩
  have F__law_shuffled := fun_mk (st := s__law_shuffled) l__law_shuffled c__law_shuffled k__law_shuffled
  have D__law_shuffled : Df K mg "_law_shuffled" s__law_shuffled f__law_shuffled _ ["d", "row"] := ⟨F__law_shuffled, PySem.W.mg_of X G a__law_shuffled, F__law_shuffled.binds (ps := ["d", "row"]) fun _ _ _ _ _ _ us hl => match us, hl with | [_, _], _ => rfl⟩
  have F__law_rare := fun_mk (st := s__law_rare) l__law_rare c__law_rare k__law_rare
  have D__law_rare : Df K mg "_law_rare" s__law_rare f__law_rare _ ["d", "many"] := ⟨F__law_rare, PySem.W.mg_of X G a__law_rare, F__law_rare.binds (ps := ["d", "many"]) fun _ _ _ _ _ _ us hl => match us, hl with | [_, _], _ => rfl⟩
  have F__law_fates := fun_mk (st := s__law_fates) l__law_fates c__law_fates k__law_fates
  have D__law_fates : Df K mg "_law_fates" s__law_fates f__law_fates _ ["d", "frames", "late", "lost"] := ⟨F__law_fates, PySem.W.mg_of X G a__law_fates, F__law_fates.binds (ps := ["d", "frames", "late", "lost"]) fun _ _ _ _ _ _ us hl => match us, hl with | [_, _, _, _], _ => rfl⟩
  have F__law_road := fun_mk (st := s__law_road) l__law_road c__law_road k__law_road
  have D__law_road : Df K mg "_law_road" s__law_road f__law_road _ ["d", "seats", "receivers", "frames", "late", "lost"] := ⟨F__law_road, PySem.W.mg_of X G a__law_road, F__law_road.binds (ps := ["d", "seats", "receivers", "frames", "late", "lost"]) fun _ _ _ _ _ _ us hl => match us, hl with | [_, _, _, _, _, _], _ => rfl⟩
  have F__law_late_row := fun_mk (st := s__law_late_row) l__law_late_row c__law_late_row k__law_late_row
  have D__law_late_row : Df K mg "_law_late_row" s__law_late_row f__law_late_row _ ["d", "frames", "late", "lost"] := ⟨F__law_late_row, PySem.W.mg_of X G a__law_late_row, F__law_late_row.binds (ps := ["d", "frames", "late", "lost"]) fun _ _ _ _ _ _ us hl => match us, hl with | [_, _, _, _], _ => rfl⟩
  have F__law_any_road := fun_mk (st := s__law_any_road) l__law_any_road c__law_any_road k__law_any_road
  have D__law_any_road : Df K mg "_law_any_road" s__law_any_road f__law_any_road _ ["d", "seats", "receivers", "frames", "late", "lost"] := ⟨F__law_any_road, PySem.W.mg_of X G a__law_any_road, F__law_any_road.binds (ps := ["d", "seats", "receivers", "frames", "late", "lost"]) fun _ _ _ _ _ _ us hl => match us, hl with | [_, _, _, _, _, _], _ => rfl⟩
  have F_Post___init__ := fun_mk (st := s_Post___init__) l_Post___init__ c_Post___init__ k_Post___init__
  have D_Post___init__ : Dm K C_Post "__init__" "Post.__init__" s_Post___init__ f_Post___init__ _ ["self", "road"] := ⟨F_Post___init__, ⟨a_Post___init__, i_Post___init__, k_Post___init__⟩, F_Post___init__.binds (ps := ["self", "road"]) fun _ _ _ _ _ _ us hl => match us, hl with | [_, _], _ => rfl⟩
  have F__law_lasts := fun_mk (st := s__law_lasts) l__law_lasts c__law_lasts k__law_lasts
  have D__law_lasts : Df K mg "_law_lasts" s__law_lasts f__law_lasts _ ["d", "seats", "rounds"] := ⟨F__law_lasts, PySem.W.mg_of X G a__law_lasts, F__law_lasts.binds (ps := ["d", "seats", "rounds"]) fun _ _ _ _ _ _ us hl => match us, hl with | [_, _, _], _ => rfl⟩
  have F_Post_arriving := fun_mk (st := s_Post_arriving) l_Post_arriving c_Post_arriving k_Post_arriving
  have D_Post_arriving : Dm K C_Post "arriving" "Post.arriving" s_Post_arriving f_Post_arriving _ ["self", "receiver", "frame"] := ⟨F_Post_arriving, ⟨a_Post_arriving, i_Post_arriving, k_Post_arriving⟩, F_Post_arriving.binds (ps := ["self", "receiver", "frame"]) fun _ _ _ _ _ _ us hl => match us, hl with | [_, _, _], _ => rfl⟩
  have F__law_arrivals := fun_mk (st := s__law_arrivals) l__law_arrivals c__law_arrivals k__law_arrivals
  have D__law_arrivals : Df K mg "_law_arrivals" s__law_arrivals f__law_arrivals _ ["road", "sent", "receiver", "frame"] := ⟨F__law_arrivals, PySem.W.mg_of X G a__law_arrivals, F__law_arrivals.binds (ps := ["road", "sent", "receiver", "frame"]) fun _ _ _ _ _ _ us hl => match us, hl with | [_, _, _, _], _ => rfl⟩
  have F__law_brings := fun_mk (st := s__law_brings) l__law_brings c__law_brings k__law_brings
  have D__law_brings : Df K mg "_law_brings" s__law_brings f__law_brings _ ["post", "road", "sent", "receiver", "frame"] := ⟨F__law_brings, PySem.W.mg_of X G a__law_brings, F__law_brings.binds (ps := ["post", "road", "sent", "receiver", "frame"]) fun _ _ _ _ _ _ us hl => match us, hl with | [_, _, _, _, _], _ => rfl⟩
  have F__law_letter := fun_mk (st := s__law_letter) l__law_letter c__law_letter k__law_letter
  have D__law_letter : Df K mg "_law_letter" s__law_letter f__law_letter _ ["d", "sender", "frame"] := ⟨F__law_letter, PySem.W.mg_of X G a__law_letter, F__law_letter.binds (ps := ["d", "sender", "frame"]) fun _ _ _ _ _ _ us hl => match us, hl with | [_, _, _], _ => rfl⟩
  have F_Post_send := fun_mk (st := s_Post_send) l_Post_send c_Post_send k_Post_send
  have D_Post_send : Dm K C_Post "send" "Post.send" s_Post_send f_Post_send _ ["self", "sender", "receiver", "frame", "letter"] := ⟨F_Post_send, ⟨a_Post_send, i_Post_send, k_Post_send⟩, F_Post_send.binds (ps := ["self", "sender", "receiver", "frame", "letter"]) fun _ _ _ _ _ _ us hl => match us, hl with | [_, _, _, _, _], _ => rfl⟩
  have F__law_is_sent := fun_mk (st := s__law_is_sent) l__law_is_sent c__law_is_sent k__law_is_sent
  have D__law_is_sent : Df K mg "_law_is_sent" s__law_is_sent f__law_is_sent _ ["d", "post", "sent", "senders", "receivers", "frame"] := ⟨F__law_is_sent, PySem.W.mg_of X G a__law_is_sent, F__law_is_sent.binds (ps := ["d", "post", "sent", "senders", "receivers", "frame"]) fun _ _ _ _ _ _ us hl => match us, hl with | [_, _, _, _, _, _], _ => rfl⟩
  have F__law_is_heard := fun_mk (st := s__law_is_heard) l__law_is_heard c__law_is_heard k__law_is_heard
  have D__law_is_heard : Df K mg "_law_is_heard" s__law_is_heard f__law_is_heard _ ["rows", "sender", "last", "lost", "most"] := ⟨F__law_is_heard, PySem.W.mg_of X G a__law_is_heard, F__law_is_heard.binds (ps := ["rows", "sender", "last", "lost", "most"]) fun _ _ _ _ _ _ us hl => match us, hl with | [_, _, _, _, _], _ => rfl⟩
  have F__law_all_heard := fun_mk (st := s__law_all_heard) l__law_all_heard c__law_all_heard k__law_all_heard
  have D__law_all_heard : Df K mg "_law_all_heard" s__law_all_heard f__law_all_heard _ ["post", "lasts", "receiver", "rounds", "lost", "most"] := ⟨F__law_all_heard, PySem.W.mg_of X G a__law_all_heard, F__law_all_heard.binds (ps := ["post", "lasts", "receiver", "rounds", "lost", "most"]) fun _ _ _ _ _ _ us hl => match us, hl with | [_, _, _, _, _, _], _ => rfl⟩
  have F_lateness := fun_mk (st := s_lateness) l_lateness c_lateness k_lateness
  have D_lateness : Df K mg "lateness" s_lateness f_lateness _ ["d", "l"] := ⟨F_lateness, PySem.W.mg_of X G a_lateness, F_lateness.binds (ps := ["d", "l"]) fun _ _ _ _ _ _ us hl => match us, hl with | [_, _], _ => rfl⟩
  have F_law := fun_mk (st := s_law) l_law c_law k_law
  have D_law : Df K mg "law" s_law _ _ ["script"] := ⟨F_law, PySem.W.mg_of X G a_law, F_law.binds (ps := ["script"]) fun _ _ _ _ _ _ us hl => match us, hl with | [_], _ => rfl⟩
  refine ⟨PySem.W.fnOf "law" "law" (defArgs s_law) (defBody s_law) (defScope s_law) .none kV_law dc_law pm_law an_law cd_law ct_law, fun s v => .of_eq rfl, fun base _ _ => ?_⟩
  have C__law_begin : Cl l.prog w K mg base 1 "_law_begin" (sp__law_begin K) := D__law_begin.cl (ok__law_begin D__law_begin T )
  have C__law_draw : Cl l.prog w K mg base 1 "_law_draw" (sp__law_draw K) := D__law_draw.cl (ok__law_draw D__law_draw T )
  have C__law_pick : Cl l.prog w K mg base 2 "_law_pick" (sp__law_pick K) := D__law_pick.cl (ok__law_pick D__law_pick T C__law_draw)
  have C__law_shuffled : Cl l.prog w K mg base 2 "_law_shuffled" (sp__law_shuffled K) := D__law_shuffled.cl (ok__law_shuffled D__law_shuffled T C__law_draw)
  have C__law_rare : Cl l.prog w K mg base 2 "_law_rare" (sp__law_rare K) := D__law_rare.cl (ok__law_rare D__law_rare T C__law_draw)
  have C__law_fates : Cl l.prog w K mg base 2 "_law_fates" (sp__law_fates K) := D__law_fates.cl (ok__law_fates D__law_fates T C__law_draw)
  have C__law_road : Cl l.prog w K mg base 3 "_law_road" (sp__law_road K) := D__law_road.cl (ok__law_road D__law_road T C__law_fates)
  have C__law_late_row : Cl l.prog w K mg base 3 "_law_late_row" (sp__law_late_row K) := D__law_late_row.cl (ok__law_late_row D__law_late_row T C__law_draw C__law_pick)
  have C__law_any_road : Cl l.prog w K mg base 4 "_law_any_road" (sp__law_any_road K) := D__law_any_road.cl (ok__law_any_road D__law_any_road T C__law_draw C__law_road C__law_late_row)
  have C_Post___init__ : Mkc l.prog w K mg base 1 C_Post (sp_Post___init__ K C_Post) := ⟨_, _, _, ok_Post___init__ D_Post___init__ T , ⟨mk_Post, a_Post___init__, i_Post___init__, kc_Post⟩, D_Post___init__.bi⟩
  have C__law_lasts : Cl l.prog w K mg base 2 "_law_lasts" (sp__law_lasts K) := D__law_lasts.cl (ok__law_lasts D__law_lasts T C__law_draw)
  have C_Post_arriving : Mt l.prog w K mg base 1 C_Post "arriving" (sp_Post_arriving K C_Post) := ⟨_, _, _, ok_Post_arriving D_Post_arriving T , D_Post_arriving.mt, D_Post_arriving.bi⟩
  have C__law_arrivals : Cl l.prog w K mg base 1 "_law_arrivals" (sp__law_arrivals K) := D__law_arrivals.cl (ok__law_arrivals D__law_arrivals T )
  have C__law_brings : Cl l.prog w K mg base 2 "_law_brings" (sp__law_brings K C_Post) := D__law_brings.cl (ok__law_brings D__law_brings T C_Post_arriving C__law_arrivals)
  have C__law_letter : Cl l.prog w K mg base 2 "_law_letter" (sp__law_letter K) := D__law_letter.cl (ok__law_letter D__law_letter T C__law_draw)
  have C_Post_send : Mt l.prog w K mg base 1 C_Post "send" (sp_Post_send K C_Post) := ⟨_, _, _, ok_Post_send D_Post_send T , D_Post_send.mt, D_Post_send.bi⟩
  have C__law_is_sent : Cl l.prog w K mg base 3 "_law_is_sent" (sp__law_is_sent K C_Post) := D__law_is_sent.cl (ok__law_is_sent D__law_is_sent T C__law_shuffled C__law_letter C_Post_send)
  have C__law_is_heard : Cl l.prog w K mg base 1 "_law_is_heard" (sp__law_is_heard K) := D__law_is_heard.cl (ok__law_is_heard D__law_is_heard T )
  have C__law_all_heard : Cl l.prog w K mg base 2 "_law_all_heard" (sp__law_all_heard K C_Post) := D__law_all_heard.cl (ok__law_all_heard D__law_all_heard T C_Post_arriving C__law_is_heard)
  have C_lateness : Cl l.prog w K mg base 1 "lateness" (sp_lateness K) := D_lateness.cl (ok_lateness D_lateness T )
  exact ok_law D_law T C__law_begin C__law_pick C__law_draw C__law_shuffled C__law_rare C__law_any_road C_Post___init__ C__law_lasts C__law_brings C__law_is_sent C__law_all_heard C_lateness
theorem walk {l : PySem.W.OpenLaw} {q : Program} {loose : List Str} {XP : (Str → Option Value) → Heap → Prop} {YP : World → Heap → Prop} {d : DefRec} {K : Params → PySem.W.Frag} (hn : l.most = some 63) (hdf : d.params.defaults = [])
    (hY : ∀ (w : World) (h : Heap), YP w h → (K w.params).In h)
    (F : ∀ (w : World) (mg : Str → Option Value) (fa : Addr) (h : Heap), (K w.params).In h → h.Ns mainGlobals mg → mg d.name = some (.ref fa) →
      ∃ fd : FuncData, (∀ (s : Shared) (u : Value), BindsTo s fd ⟨[u], []⟩ [("script", u)]) ∧ ∀ base : Heap, (K w.params).In base → base.Ns mainGlobals mg → FnOk l.prog w (K w.params) mg base CX0 5 fa fd ["script"] (sp_law (K w.params))) :
    PySem.W.WalkO q loose XP YP l.row.toRowW d [] (fun f vs => PySem.call f vs) :=
  L2.walk_ofB (n := 63) (k := 5) (x := "script") (CX := fun _ => CX0) (sp := fun w => sp_law (K w.params)) hn (by decide) hdf ⟨rfl, by decide, by decide⟩ hY F (fun _ _ a ns hl hb _ hS => law_hands a ns hl hb hS) fun _ _ _ _ _ z => z
end Law
open PySem PySem.W PyProof.Rows in
set_option maxRecDepth 100000 in
set_option maxHeartbeats 0 in
theorem PySem.Challenge.cw_judgedplay_k29_post_brings_holds : PySem.Challenge.rw_judgedplay_k29_post_brings.Holds := by
  w_on; o_law; k_head; (case hw => w_witness2)
  k_fill
  refine Law.walk (l := PySem.Challenge.rw_judgedplay_k29_post_brings) rfl rfl (fun w h Y => PySem.W.kIn_of Y) ?F
  case F =>
    intro w mg fa h KX G hmg
    refine' Law.all_mk KX G hmg ?a_Post ?pg_Post ?hd_Post ?po_Post ?sa_Post ?mk_Post ?kc_Post ?n_Post_road ?n_Post_bags ?a__law_begin ?l__law_begin ?c__law_begin ?k__law_begin ?a__law_draw ?l__law_draw ?c__law_draw ?k__law_draw ?a__law_pick ?l__law_pick ?c__law_pick ?k__law_pick ?a__law_shuffled ?l__law_shuffled ?c__law_shuffled ?k__law_shuffled ?a__law_rare ?l__law_rare ?c__law_rare ?k__law_rare ?a__law_fates ?l__law_fates ?c__law_fates ?k__law_fates ?a__law_road ?l__law_road ?c__law_road ?k__law_road ?a__law_late_row ?l__law_late_row ?c__law_late_row ?k__law_late_row ?a__law_any_road ?l__law_any_road ?c__law_any_road ?k__law_any_road ?a_Post___init__ ?i_Post___init__ ?l_Post___init__ ?c_Post___init__ ?k_Post___init__ ?a__law_lasts ?l__law_lasts ?c__law_lasts ?k__law_lasts ?a_Post_arriving ?i_Post_arriving ?l_Post_arriving ?c_Post_arriving ?k_Post_arriving ?a__law_arrivals ?l__law_arrivals ?c__law_arrivals ?k__law_arrivals ?a__law_brings ?l__law_brings ?c__law_brings ?k__law_brings ?a__law_letter ?l__law_letter ?c__law_letter ?k__law_letter ?a_Post_send ?i_Post_send ?l_Post_send ?c_Post_send ?k_Post_send ?a__law_is_sent ?l__law_is_sent ?c__law_is_sent ?k__law_is_sent ?a__law_is_heard ?l__law_is_heard ?c__law_is_heard ?k__law_is_heard ?a__law_all_heard ?l__law_all_heard ?c__law_all_heard ?k__law_all_heard ?a_lateness ?l_lateness ?c_lateness ?k_lateness ?a_law ?l_law ?c_law ?k_law ?z_int ?z_len ?z_abs ?z_list ?z_range ?z_tuple ?z_sorted ?z_isinstance ?z_min
    (case a_Post => k_is)
    (case pg_Post => k_is)
    (case hd_Post => k_is)
    (case po_Post => k_is)
    (case sa_Post => k_is)
    (case mk_Post => k_is)
    (case kc_Post => k_is)
    (case n_Post_road => k_is)
    (case n_Post_bags => k_is)
    (case a__law_begin => k_is)
    (case l__law_begin => k_is)
    (case c__law_begin => k_is)
    (case k__law_begin => k_is)
    (case a__law_draw => k_is)
    (case l__law_draw => k_is)
    (case c__law_draw => k_is)
    (case k__law_draw => k_is)
    (case a__law_pick => k_is)
    (case l__law_pick => k_is)
    (case c__law_pick => k_is)
    (case k__law_pick => k_is)
    (case a__law_shuffled => k_is)
    (case l__law_shuffled => k_is)
    (case c__law_shuffled => k_is)
    (case k__law_shuffled => k_is)
    (case a__law_rare => k_is)
    (case l__law_rare => k_is)
    (case c__law_rare => k_is)
    (case k__law_rare => k_is)
    (case a__law_fates => k_is)
    (case l__law_fates => k_is)
    (case c__law_fates => k_is)
    (case k__law_fates => k_is)
    (case a__law_road => k_is)
    (case l__law_road => k_is)
    (case c__law_road => k_is)
    (case k__law_road => k_is)
    (case a__law_late_row => k_is)
    (case l__law_late_row => k_is)
    (case c__law_late_row => k_is)
    (case k__law_late_row => k_is)
    (case a__law_any_road => k_is)
    (case l__law_any_road => k_is)
    (case c__law_any_road => k_is)
    (case k__law_any_road => k_is)
    (case a_Post___init__ => k_is)
    (case i_Post___init__ => k_is)
    (case l_Post___init__ => k_is)
    (case c_Post___init__ => k_is)
    (case k_Post___init__ => k_is)
    (case a__law_lasts => k_is)
    (case l__law_lasts => k_is)
    (case c__law_lasts => k_is)
    (case k__law_lasts => k_is)
    (case a_Post_arriving => k_is)
    (case i_Post_arriving => k_is)
    (case l_Post_arriving => k_is)
    (case c_Post_arriving => k_is)
    (case k_Post_arriving => k_is)
    (case a__law_arrivals => k_is)
    (case l__law_arrivals => k_is)
    (case c__law_arrivals => k_is)
    (case k__law_arrivals => k_is)
    (case a__law_brings => k_is)
    (case l__law_brings => k_is)
    (case c__law_brings => k_is)
    (case k__law_brings => k_is)
    (case a__law_letter => k_is)
    (case l__law_letter => k_is)
    (case c__law_letter => k_is)
    (case k__law_letter => k_is)
    (case a_Post_send => k_is)
    (case i_Post_send => k_is)
    (case l_Post_send => k_is)
    (case c_Post_send => k_is)
    (case k_Post_send => k_is)
    (case a__law_is_sent => k_is)
    (case l__law_is_sent => k_is)
    (case c__law_is_sent => k_is)
    (case k__law_is_sent => k_is)
    (case a__law_is_heard => k_is)
    (case l__law_is_heard => k_is)
    (case c__law_is_heard => k_is)
    (case k__law_is_heard => k_is)
    (case a__law_all_heard => k_is)
    (case l__law_all_heard => k_is)
    (case c__law_all_heard => k_is)
    (case k__law_all_heard => k_is)
    (case a_lateness => k_is)
    (case l_lateness => k_is)
    (case c_lateness => k_is)
    (case k_lateness => k_is)
    (case a_law => k_is)
    (case l_law => k_is)
    (case c_law => k_is)
    (case k_law => k_is)
    (case z_int => k_is)
    (case z_len => k_is)
    (case z_abs => k_is)
    (case z_list => k_is)
    (case z_range => k_is)
    (case z_tuple => k_is)
    (case z_sorted => k_is)
    (case z_isinstance => k_is)
    (case z_min => k_is)
#print axioms PySem.Challenge.cw_judgedplay_k29_post_brings_holds
