import PyProof.Rows.All
import Wide.All
import OpenK.AllK
import Wide.FinOn
import HandS.ForMost
import HandS.Wide
import HandS.WideBits
import HandS.IsInst
import HandS.TupAny
import HandS.Deep
import HandS.EndBits
import HandS.More
import HandS.Walk
import HandS.SortRule
import HandS.Conv
import PySem.Challenge.RW_judgedplay_k38_presence
set_option Elab.async false
set_option linter.all false
set_option maxRecDepth 100000
set_option maxHeartbeats 4000000
/-! ### my own layer: introduction forms for the readings -/
namespace Jp
open PySem PySem.Spec PyProof.Rows L2
/-! rules by names -/
section
variable {X : Cx}
def rInt1 : List V → Hp → VK → Prop := fun xs H Q => (∃ i, xs = [.int i] ∧ Q (.int i) H) ∨ ∃ k, xs = [.bl k] ∧ Q (.int (if k then 1 else 0)) H
theorem c_int : CallR X (.type "int") rInt1 := call_int1
def rAbs : List V → Hp → VK → Prop := fun xs H Q => ∃ i, xs = [.int i] ∧ Q (.int (if i < 0 then -i else i)) H
theorem c_abs : CallR X (.builtin "abs") rAbs := call_abs
def rMax2 : List V → Hp → VK → Prop := fun xs H Q => ∃ i j, xs = [.int i, .int j] ∧ Q (.int (if j > i then j else i)) H
theorem c_max2 (hc : X.calm = true) : CallR X (.builtin "max") rMax2 := call_max2 hc
def rMin2 : List V → Hp → VK → Prop := fun xs H Q => ∃ i j, xs = [.int i, .int j] ∧ Q (.int (if j < i then j else i)) H
theorem c_min2 (hc : X.calm = true) : CallR X (.builtin "min") rMin2 := call_min2 hc
def qLen (K : PySem.W.Frag) : List V → Hp → VK → Prop := fun xs H Q => ∃ x n, xs = [x] ∧ LenV K x H n ∧ Q (.int (n : Nat)) H
theorem c_len : CallR X (.builtin "len") (qLen X.K) := call_len
def rLenD : List V → Hp → VK → Prop := fun xs H Q => ∃ a kvs, xs = [V.ref a] ∧ H a = some (.dK kvs) ∧ Q (.int kvs.length) H
theorem c_lenD : CallR X (.builtin "len") rLenD := call_lenD
def rTupOf (K : PySem.W.Frag) : List V → Hp → VK → Prop := fun xs H Q => ∃ p ys, xs = [.ref p] ∧ ((SqL K H p ys ∧ ∀ l, H l = none → Q (.ref l) (upd H l (.tup ys))) ∨ (SqT K H p ys ∧ Q (.ref p) H))
theorem c_tup : CallR X (.type "tuple") (rTupOf X.K) := call_tuple_of
def rLstOf (K : PySem.W.Frag) : List V → Hp → VK → Prop := fun xs H Q => ∃ p ys, xs = [.ref p] ∧ (SqL K H p ys ∨ SqT K H p ys) ∧ ∀ l, H l = none → Q (.ref l) (upd H l (.lst ys))
theorem c_lst : CallR X (.type "list") (rLstOf X.K) := call_list_of
def rBool1 : List V → Hp → VK → Prop := fun xs H Q => (∃ i, xs = [.int i] ∧ Q (.bl (i != 0)) H) ∨ ∃ k, xs = [.bl k] ∧ Q (.bl k) H
theorem c_bool1 : CallR X (.type "bool") rBool1 := call_bool1
def rIsNon : R2 := fun x y H Q => y = .non ∧ Q (.bl (decide (x = .non))) H
theorem o_isN : OpR X (compareOp .Is) rIsNon := op_isN
def rNotNon : R2 := fun x y H Q => y = .non ∧ Q (.bl (!decide (x = .non))) H
theorem o_notN : OpR X (compareOp .IsNot) rNotNon := op_notN
def rAddStr : R2 := fun x y H Q => ∃ i j, x = .str i ∧ y = .str j ∧ i.length + j.length ≤ sizeLine ∧ Q (.str (i ++ j)) H
theorem o_addS : OpR X (binaryOp .Add) rAddStr := op_add_str
theorem o_iaddS : OpR X (inplaceOp .Add) rAddStr := iop_add_str
end
section
variable {K : PySem.W.Frag} {σ : L2.St} {H : Hp} {Q : VK}
theorem i_isN {x : V} (q : Q (.bl (decide (x = .non))) H) : rIsNon x .non H Q := ⟨rfl, q⟩
theorem i_notN {x : V} (q : Q (.bl (!decide (x = .non))) H) : rNotNon x .non H Q := ⟨rfl, q⟩
theorem i_int {i : Int} (q : Q (.int i) H) : rInt1 [.int i] H Q := .inl ⟨i, rfl, q⟩
theorem i_intB {k : Bool} (q : Q (.int (if k then 1 else 0)) H) : rInt1 [.bl k] H Q := .inr ⟨k, rfl, q⟩
theorem i_abs {i : Int} (q : Q (.int (if i < 0 then -i else i)) H) : rAbs [.int i] H Q := ⟨i, rfl, q⟩
theorem i_max2 {i j : Int} (q : Q (.int (if j > i then j else i)) H) : rMax2 [.int i, .int j] H Q := ⟨i, j, rfl, q⟩
theorem i_min2 {i j : Int} (q : Q (.int (if j < i then j else i)) H) : rMin2 [.int i, .int j] H Q := ⟨i, j, rfl, q⟩
theorem i_lenL {p : Addr} {xs : List V} (h : SqL K H p xs) (q : Q (.int xs.length) H) : qLen K [.ref p] H Q := ⟨.ref p, xs.length, rfl, .inl ⟨xs, h, rfl⟩, q⟩
theorem i_lenT {p : Addr} {xs : List V} (h : SqT K H p xs) (q : Q (.int xs.length) H) : qLen K [.ref p] H Q := ⟨.ref p, xs.length, rfl, .inr ⟨xs, h, rfl⟩, q⟩
theorem i_lenS {x : Str} (h : x.length ≤ sizeLine) (q : Q (.int x.length) H) : qLen K [.str x] H Q := ⟨.str x, x.length, rfl, ⟨h, rfl⟩, q⟩
theorem i_lenD {p : Addr} {kvs : List (L2.Key × V)} (h : H p = some (.dK kvs)) (q : Q (.int kvs.length) H) : rLenD [.ref p] H Q := ⟨p, kvs, rfl, h, q⟩
theorem i_tupL {p : Addr} {ys : List V} (h : SqL K H p ys) (q : ∀ l, H l = none → Q (.ref l) (upd H l (.tup ys))) : rTupOf K [.ref p] H Q := ⟨p, ys, rfl, .inl ⟨h, q⟩⟩
theorem i_tupT {p : Addr} {ys : List V} (h : SqT K H p ys) (q : Q (.ref p) H) : rTupOf K [.ref p] H Q := ⟨p, ys, rfl, .inr ⟨h, q⟩⟩
theorem i_lstL {p : Addr} {ys : List V} (h : SqL K H p ys) (q : ∀ l, H l = none → Q (.ref l) (upd H l (.lst ys))) : rLstOf K [.ref p] H Q := ⟨p, ys, rfl, .inl h, q⟩
theorem i_lstT {p : Addr} {ys : List V} (h : SqT K H p ys) (q : ∀ l, H l = none → Q (.ref l) (upd H l (.lst ys))) : rLstOf K [.ref p] H Q := ⟨p, ys, rfl, .inr h, q⟩
theorem i_catA {p b : Addr} {xs ys : List V} (h1 : SqT K H p xs) (h2 : SqT K H b ys) (hl : xs.length + ys.length ≤ sizeLine) (q : ∀ (r : Addr) (H' : Hp), (∀ b o, H b = some o → H' b = some o) → SqT K H' r (xs ++ ys) → Q (.ref r) H') : rCatA K (.ref p) (.ref b) H Q := by
  refine ⟨p, b, xs, ys, rfl, rfl, h1, h2, hl, fun e => ?_, fun _ e => ?_, fun _ _ r hr => ?_⟩
  · subst e; exact q b H (fun _ _ h => h) h2
  · subst e; exact q p H (fun _ _ h => h) (by rw [List.append_nil]; exact h1)
  · exact q r _ (fun b o e => by rw [upd_ne (ne_of_none e hr)]; exact e) (.inl (.inl upd_same))
theorem i_catI {p b : Addr} {ns ms : List Int} (h1 : SqT K H p (ns.map V.int)) (h2 : SqT K H b (ms.map V.int)) (hl : ns.length + ms.length ≤ 10000) (q : ∀ (r : Addr) (H' : Hp), (∀ b o, H b = some o → H' b = some o) → SqT K H' r ((ns ++ ms).map V.int) → Q (.ref r) H') : rCatA K (.ref p) (.ref b) H Q :=
  i_catA h1 h2 (by rw [List.length_map, List.length_map]; exact Nat.le_trans hl (by decide)) fun r H' s t => q r H' s (by rw [List.map_append]; exact t)
/-- ns[lo:hi] -/
def cutI (ns : List Int) (lo hi : Option Int) : List Int := (ns.drop (HT.sIx ns.length 0 lo)).take (HT.sIx ns.length ns.length hi - HT.sIx ns.length 0 lo)
theorem cutI_len (ns : List Int) (lo hi : Option Int) : (cutI ns lo hi).length ≤ ns.length := by
  unfold cutI
  rw [List.length_take, List.length_drop]
  omega
theorem i_slI {p : Addr} {ns : List Int} {lo hi : Option Int} (h : SqT K H p (ns.map V.int)) (hw : ¬ (HT.sIx ns.length 0 lo = 0 ∧ HT.sIx ns.length ns.length hi = ns.length))
    (q : ∀ (r : Addr) (H' : Hp), (∀ b o, H b = some o → H' b = some o) → SqT K H' r ((cutI ns lo hi).map V.int) → Q (.ref r) H') : rSlT K (.ref p) lo hi H Q := by
  refine ⟨p, _, rfl, h, by rw [List.length_map]; exact hw, fun r hr => q r _ (fun b o e => by rw [upd_ne (ne_of_none e hr)]; exact e) (.inl (.inl ?_))⟩
  rw [upd_same]
  unfold cutV cutI
  rw [List.length_map, List.map_take, List.map_drop]
theorem i_sl {r : V → Option Int → Option Int → Hp → VK → Prop} {te : TE} {tl th : TO} (h : te σ H fun x H1 => tl σ H1 fun l H2 => th σ H2 fun u H3 => r x l u H3 Q) : tSl r te tl th σ H Q := h
theorem i_noPart {Q : Option Int → Hp → Prop} (q : Q none H) : tNoPart σ H Q := q
theorem i_part {t : TE} {Q : Option Int → Hp → Prop} (h : t σ H fun x H1 => ∃ i, x = .int i ∧ Q (some i) H1) : tPart t σ H Q := h
theorem i_cat {p b : Addr} {xs zs : List V} (h1 : H p = some (.lst xs)) (h2 : H b = some (.lst zs)) (hl : xs.length + zs.length ≤ sizeLine) (q : ∀ r, H r = none → Q (.ref r) (upd H r (.lst (xs ++ zs)))) : rCat (.ref p) (.ref b) H Q := ⟨p, b, xs, zs, rfl, rfl, h1, h2, hl, q⟩
theorem i_cat' {p b : Addr} {xs zs : List V} (e1 : H p = some (.lst xs)) (e2 : H b = some (.lst zs)) (hl : xs.length + zs.length ≤ 10000) (q : ∀ r H', (∀ b o, H b = some o → H' b = some o) → H r = none → H' r = some (.lst (xs ++ zs)) → Q (.ref r) H') : rCat (.ref p) (.ref b) H Q :=
  i_cat e1 e2 (by rw [sizeLine_eq]; omega) fun r hr => q r _ (fun b o e => by rw [upd_ne (ne_of_none e hr)]; exact e) hr upd_same
theorem i_slL {p : Addr} {xs : List V} {lo hi : Option Int} (h : SqL K H p xs) (q : ∀ r H', (∀ b o, H b = some o → H' b = some o) → H r = none → H' r = some (.lst (cutV xs lo hi)) → Q (.ref r) H') : rSlL K (.ref p) lo hi H Q :=
  ⟨p, xs, rfl, h, fun r hr => q r _ (fun b o e => by rw [upd_ne (ne_of_none e hr)]; exact e) hr upd_same⟩
theorem i_chain {r r' : R2} {ta tb tc : TE} (h : ta σ H fun x H1 => tb σ H1 fun y H2 => r x y H2 fun z H3 => ∃ k, z = .bl k ∧ (if k = true then tc σ H3 fun w' H4 => r' y w' H4 Q else Q (.bl false) H3)) : tChain r r' ta tb tc σ H Q := h
theorem i_popAt {p : Addr} {xs : List V} {i : Int} {y : V} (h : H p = some (.lst xs)) (h0 : 0 ≤ i) (h1 : i < xs.length) (h2 : xs.length ≤ 1000000) (e : xs[i.toNat]? = some y) (q : Q y (upd H p (.lst (xs.eraseIdx i.toNat)))) : rPopAt (.ref p) [.int i] H Q :=
  ⟨p, xs, i, i.toNat, y, rfl, rfl, h, by omega, by omega, seqIndex_of h0 h1, e, q⟩
theorem i_isI {i : Int} {Q : Int → Prop} (q : Q i) : ∃ i', V.int i = .int i' ∧ Q i' := ⟨i, rfl, q⟩
theorem i_bm {T : String} {r : V → List V → Hp → VK → Prop} {to : TE} {t : TA} (h : to σ H fun x H1 => tyV K T x H1 ∧ t σ H1 fun xs H2 => r x xs H2 Q) : tBM K T r to t σ H Q := h
theorem i_bm0 {T : String} {r : V → List V → Hp → VK → Prop} {to : TE} (h : to σ H fun x H1 => tyV K T x H1 ∧ r x [] H1 Q) : tBM0 K T r to σ H Q := h
theorem i_tyL {p : Addr} {xs : List V} {R : Prop} (s : SqL K H p xs) (q : R) : tyV K "list" (.ref p) H ∧ R := ⟨.inl ⟨rfl, xs, s⟩, q⟩
theorem i_app {p : Addr} {xs : List V} {y : V} (h : H p = some (.lst xs)) (hl : xs.length < sizeLine) (q : Q .non (upd H p (.lst (xs ++ [y])))) : rAppend (.ref p) [y] H Q := ⟨p, xs, y, rfl, rfl, h, hl, q⟩
theorem i_addS {x y : Str} (h : x.length + y.length ≤ sizeLine) (q : Q (.str (x ++ y)) H) : rAddStr (.str x) (.str y) H Q := ⟨x, y, rfl, rfl, h, q⟩
theorem i_isi {x : V} {n : String} {t : Value} {b : Bool} (ty : TyX K H x t) (e : PySem.W.kitOne K t (.type n) = some b) (q : Q (.bl b) H) : rIsi K [x, .ty n] H Q := ⟨x, .ty n, t, .type n, b, rfl, .ty n, ty, e, q⟩
theorem i_var {i : Nat} {v : V} (h : σ[i]? = some (some v)) (q : Q v H) : tVar i σ H Q := ⟨v, h, q⟩
theorem i_c {v : V} (q : Q v H) : tC v σ H Q := q
theorem i_op {r : R2} {ta tb : TE} (h : ta σ H fun x H1 => tb σ H1 fun y H2 => r x y H2 Q) : tOp r ta tb σ H Q := h
theorem i_un {r : V → Hp → VK → Prop} {ta : TE} (h : ta σ H fun x H1 => r x H1 Q) : tUn r ta σ H Q := h
theorem i_rI0 {g : Int → Int → V} {i j : Int} (q : Q (g i j) H) : rI0 g (.int i) (.int j) H Q := ⟨i, j, rfl, rfl, q⟩
theorem i_rI {C : Int → Int → Prop} {g : Int → Int → V} {i j : Int} (c : C i j) (q : Q (g i j) H) : rI C g (.int i) (.int j) H Q := ⟨i, j, rfl, rfl, c, q⟩
theorem i_rU {g : Int → V} {i : Int} (q : Q (g i) H) : rU g (.int i) H Q := ⟨i, rfl, q⟩
theorem i_eqI {i j : Int} (q : Q (.bl (decide (i = j))) H) : rEq (.int i) (.int j) H Q := ⟨rfl, by
  have e : decide (V.int i = V.int j) = decide (i = j) := by simp
  rw [e]; exact q⟩
theorem i_neI {i j : Int} (q : Q (.bl (!decide (i = j))) H) : rNe (.int i) (.int j) H Q := ⟨rfl, by
  have e : decide (V.int i = V.int j) = decide (i = j) := by simp
  rw [e]; exact q⟩
theorem i_eqB {i j : Bool} (q : Q (.bl (decide (i = j))) H) : rEq (.bl i) (.bl j) H Q := ⟨rfl, by
  have e : decide (V.bl i = V.bl j) = decide (i = j) := by simp
  rw [e]; exact q⟩
theorem i_neB {i j : Bool} (q : Q (.bl (!decide (i = j))) H) : rNe (.bl i) (.bl j) H Q := ⟨rfl, by
  have e : decide (V.bl i = V.bl j) = decide (i = j) := by simp
  rw [e]; exact q⟩
theorem i_eqS {i j : Str} (q : Q (.bl (decide (i = j))) H) : rEq (.str i) (.str j) H Q := ⟨rfl, by
  have e : decide (V.str i = V.str j) = decide (i = j) := by simp
  rw [e]; exact q⟩
theorem i_neS {i j : Str} (q : Q (.bl (!decide (i = j))) H) : rNe (.str i) (.str j) H Q := ⟨rfl, by
  have e : decide (V.str i = V.str j) = decide (i = j) := by simp
  rw [e]; exact q⟩
/-! index -/
theorem i_ixL {p : Addr} {xs : List V} {i : Int} {v : V} (h : SqL K H p xs) (e : atI xs i = some v) (q : Q v H) : rIxL K (.ref p) (.int i) H Q := ⟨p, xs, i, v, rfl, rfl, h, e, q⟩
theorem i_ixT {p : Addr} {xs : List V} {i : Int} {v : V} (h : SqT K H p xs) (e : atI xs i = some v) (q : Q v H) : rIxT K (.ref p) (.int i) H Q := ⟨p, xs, i, v, rfl, rfl, h, e, q⟩
theorem i_ix1 {x y : V} (h : rIxL K x y H Q) : rIx K x y H Q := .inl h
theorem i_ix2 {x y : V} (h : rIxT K x y H Q) : rIx K x y H Q := .inr (.inl h)
/-! arguments, calls, displays -/
theorem i_nil {Q : List V → Hp → Prop} (q : Q [] H) : tNil σ H Q := q
theorem i_cons {ta : TE} {tr : TA} {Q : List V → Hp → Prop} (h : ta σ H fun x H1 => tr σ H1 fun xs H2 => Q (x :: xs) H2) : tCons ta tr σ H Q := h
theorem i_call {sp : Sp} {E : XK} {t : TA} (h : t σ H fun vs H1 => sp (vs ++ []) H1 Q E) : tCall sp [] E t σ H Q := h
theorem i_cb {r : List V → Hp → VK → Prop} {t : TA} (h : t σ H fun vs H1 => r vs H1 Q) : tCB r t σ H Q := h
theorem i_tup {t : TA} (h : t σ H fun xs H1 => xs.length ≤ sizeLine ∧ ∀ p, H1 p = none → Q (.ref p) (upd H1 p (.tup xs))) : tTup t σ H Q := h
theorem i_lst {t : TA} (h : t σ H fun xs H1 => xs.length ≤ sizeLine ∧ ∀ p, H1 p = none → Q (.ref p) (upd H1 p (.lst xs))) : tLst t σ H Q := h
theorem i_new {n : Nat} {R : Addr → Prop} (h : n ≤ sizeLine) (q : ∀ p, H p = none → R p) : n ≤ sizeLine ∧ ∀ p, H p = none → R p := ⟨h, q⟩
theorem i_if {c : TT} {ta tb : TE} (h : c σ H fun b H1 => if b = true then ta σ H1 Q else tb σ H1 Q) : tIf c ta tb σ H Q := h
theorem i_andV {ta tb : TE} (h : ta σ H fun x H1 => ∃ c, x = .bl c ∧ if c = true then tb σ H1 Q else Q (.bl false) H1) : tAndV ta tb σ H Q := h
theorem i_orV {ta tb : TE} (h : ta σ H fun x H1 => ∃ c, x = .bl c ∧ if c = true then Q (.bl true) H1 else tb σ H1 Q) : tOrV ta tb σ H Q := h
theorem i_notV {ta : TE} (h : ta σ H fun x H1 => ∃ c, x = .bl c ∧ Q (.bl (!c)) H1) : tNotV ta σ H Q := h
/-! tests -/
theorem i_test {t : TE} {Q : Bool → Hp → Prop} (h : t σ H fun x H1 => ∃ k, x = .bl k ∧ Q k H1) : tTest t σ H Q := h
theorem i_B {t : TE} {Q : Bool → Hp → Prop} (h : t σ H fun x H1 => ∃ k, x = .bl k ∧ Q k H1) : tB t σ H Q := h
theorem i_isb {k : Bool} {Q : Bool → Prop} (q : Q k) : ∃ k', V.bl k = .bl k' ∧ Q k' := ⟨k, rfl, q⟩
theorem i_and {t u : TT} {Q : Bool → Hp → Prop} (h : t σ H fun c H1 => if c = true then u σ H1 Q else Q false H1) : tAnd t u σ H Q := h
theorem i_or {t u : TT} {Q : Bool → Hp → Prop} (h : t σ H fun c H1 => if c = true then Q true H1 else u σ H1 Q) : tOr t u σ H Q := h
theorem i_not {t : TT} {Q : Bool → Hp → Prop} (h : t σ H fun c H1 => Q (!c) H1) : tNot t σ H Q := h
/-! statements -/
section
variable {nx : L2.St → Hp → Prop} {rt : VK} {bk ct : L2.St → Hp → Prop}
theorem i_seq {t u : TS} (h : t ⟨u ⟨nx, rt, bk, ct⟩, rt, bk, ct⟩ σ H) : tSeq t u ⟨nx, rt, bk, ct⟩ σ H := h
theorem i_next (h : nx σ H) : tNext ⟨nx, rt, bk, ct⟩ σ H := h
theorem i_asg {te : TE} {g : TG} (h : te σ H fun x H1 => g x σ H1 nx) : tAsg te g ⟨nx, rt, bk, ct⟩ σ H := h
theorem i_drop {te : TE} (h : te σ H fun _ H1 => nx σ H1) : tDrop te ⟨nx, rt, bk, ct⟩ σ H := h
theorem i_ret {te : TE} (h : te σ H rt) : tRet te ⟨nx, rt, bk, ct⟩ σ H := h
theorem i_retN (h : rt .non H) : tRetN ⟨nx, rt, bk, ct⟩ σ H := h
theorem i_ifS {c : TT} {t u : TS} (h : c σ H fun b H1 => if b = true then t ⟨nx, rt, bk, ct⟩ σ H1 else u ⟨nx, rt, bk, ct⟩ σ H1) : tIfS c t u ⟨nx, rt, bk, ct⟩ σ H := h
theorem i_ifC {c : TT} {t u : TS} (J : L2.St → Hp → Prop) (h1 : ∀ σ' H', J σ' H' → nx σ' H') (h2 : ∀ N : L2.St → Hp → Prop, (∀ σ' H', J σ' H' → N σ' H') → tIfS c t u ⟨N, rt, bk, ct⟩ σ H) : tIfS c t u ⟨nx, rt, bk, ct⟩ σ H := h2 _ h1
theorem i_break (h : bk σ H) : tBreak ⟨nx, rt, bk, ct⟩ σ H := h
theorem i_cont (h : ct σ H) : tCont ⟨nx, rt, bk, ct⟩ σ H := h
theorem i_augE {i : Nat} {te : TE} {ti : TIp} {x : V} (e : σ[i]? = some (some x)) (h : te σ H fun y H1 => ti x y H1 fun z H2 => gName i z σ H2 nx) : tAug i te ti ⟨nx, rt, bk, ct⟩ σ H := ⟨x, e, h⟩
theorem i_augS {to ti te : TE} {tget : V → V → Hp → VK → Prop} {tip : TIp} {tset : TSet} (h : to σ H fun o H1 => ti σ H1 fun i H2 => tget o i H2 fun x H3 => te σ H3 fun y H4 => tip x y H4 fun z H5 => tset o i z H5 fun H6 => nx σ H6) : tAugS to ti te tget tip tset ⟨nx, rt, bk, ct⟩ σ H := h
theorem i_ipI {f : Int → Int → Int} {i j : Int} (q : Q (.int (f i j)) H) : ipI f (.int i) (.int j) H Q := ⟨i, j, rfl, rfl, q⟩
theorem i_for {wi : TI} {g : TG} {tb : TS} (h : wi σ H fun J H1 => ∃ W : Nat → Nat → L2.St → Hp → Prop, (∃ m, W 0 m σ H1) ∧ ∀ i m σ H, W i m σ H →
  (J.stop i H ∧ nx σ H) ∨ (J.go i H ∧ ∃ N : L2.St → Hp → Prop, (∀ σ' H', N σ' H' → ∃ m', m' < m ∧ W (i + 1) m' σ' H') ∧ ∀ x H', J.yld i H x H' → g x σ H' fun σ2 H2 => tb ⟨N, rt, nx, N⟩ σ2 H2)) : tFor wi g tb ⟨nx, rt, bk, ct⟩ σ H := h
theorem i_iList {tl : TE} {R : It → Hp → Prop} (h : tl σ H fun x H1 => ∃ a, x = .ref a ∧ (∃ xs, SqL K H1 a xs) ∧ R (Itl K a) H1) : iList K tl σ H R := h
theorem i_iTup {tl : TE} {R : It → Hp → Prop} (h : tl σ H fun x H1 => ∃ a, x = .ref a ∧ (∃ xs, SqT K H1 a xs) ∧ R (Itt K a) H1) : iTup K tl σ H R := h
theorem i_isL {a : Addr} {xs : List V} {R : Addr → Prop} (s : SqL K H a xs) (h : R a) : ∃ a', V.ref a = .ref a' ∧ (∃ xs, SqL K H a' xs) ∧ R a' := ⟨a, rfl, ⟨xs, s⟩, h⟩
theorem i_isT {a : Addr} {xs : List V} {R : Addr → Prop} (s : SqT K H a xs) (h : R a) : ∃ a', V.ref a = .ref a' ∧ (∃ xs, SqT K H a' xs) ∧ R a' := ⟨a, rfl, ⟨xs, s⟩, h⟩
theorem i_rng1 {ta : TA} {R : It → Hp → Prop} (h : ta σ H fun vs H1 => ∃ j : Int, vs = [.int j] ∧ -(2 ^ 62) ≤ j ∧ j < 2 ^ 62 ∧ R (Itr 0 j.toNat) H1) : iRng1 ta σ H R := h
theorem i_rng2 {ta : TA} {R : It → Hp → Prop} (h : ta σ H fun vs H1 => ∃ i j : Int, vs = [.int i, .int j] ∧ (-(2 ^ 62) ≤ i ∧ i < 2 ^ 62 ∧ -(2 ^ 62) ≤ j ∧ j < 2 ^ 62) ∧ R (Itr i (j - i).toNat) H1) : iRng2 ta σ H R := h
theorem i_isR1 {j : Int} {R : Int → Prop} (h1 : -(2 ^ 62) ≤ j) (h2 : j < 2 ^ 62) (h : R j) : ∃ j' : Int, [V.int j] = [.int j'] ∧ -(2 ^ 62) ≤ j' ∧ j' < 2 ^ 62 ∧ R j' := ⟨j, rfl, h1, h2, h⟩
theorem i_isR2 {i j : Int} {R : Int → Int → Prop} (h1 : -(2 ^ 62) ≤ i) (h2 : i < 2 ^ 62) (h3 : -(2 ^ 62) ≤ j) (h4 : j < 2 ^ 62) (h : R i j) : ∃ i' j' : Int, [V.int i, V.int j] = [.int i', .int j'] ∧ (-(2 ^ 62) ≤ i' ∧ i' < 2 ^ 62 ∧ -(2 ^ 62) ≤ j' ∧ j' < 2 ^ 62) ∧ R i' j' := ⟨i, j, rfl, ⟨h1, h2, h3, h4⟩, h⟩
end
/-! comprehensions -/
theorem i_lc {wi : TI} {g : TG} {tt : TT} {te : TE} {ws : List Nat} {σ' : L2.St} (e : wipe σ ws = σ') (h : wi σ H fun J H1 => ∀ D, H1 D = none → ∃ W : Nat → Nat → Hp → Prop, (∃ m, W 0 m (upd H1 D (.lst []))) ∧ ∀ i m H, W i m H →
  (J.stop i H ∧ Q (.ref D) H) ∨ (J.go i H ∧ ∃ Nx : Hp → Prop, (∀ H', Nx H' → ∃ m', m' < m ∧ W (i + 1) m' H') ∧ ∀ x H', J.yld i H x H' → g x σ' H' fun σ2 H2 => wipe σ2 ws = σ' ∧ tt σ2 H2 fun b H3 =>
    if b = true then te σ2 H3 fun y H4 => ∃ acc, H4 D = some (.lst acc) ∧ acc.length < sizeLine ∧ Nx (upd H4 D (.lst (acc ++ [y]))) else Nx H3)) : tLc wi g tt te ws σ H Q := by subst e; exact h
/-! targets -/
theorem i_gNameE {i : Nat} {v : V} {σ' : L2.St} {Q : L2.St → Hp → Prop} (e : σ.set i (some v) = σ') (q : Q σ' H) : gName i v σ H Q := by subst e; exact q
theorem st_of {t : TS} {D : Ends} {σ σ' : L2.St} {H : Hp} (e : σ = σ') (h : t D σ' H) : t D σ H := by subst e; exact h
theorem i_gName {i : Nat} {v : V} {Q : L2.St → Hp → Prop} (q : Q (σ.set i (some v)) H) : gName i v σ H Q := q
theorem i_gSub {to ti : TE} {t : TSet} {v : V} {Q : L2.St → Hp → Prop} (h : to σ H fun o H1 => ti σ H1 fun i H2 => t o i v H2 fun H3 => Q σ H3) : gSub to ti t v σ H Q := h
theorem i_setL {p : Addr} {xs : List V} {k : Int} {j : Nat} {v : V} {Q : Hp → Prop} (h : H p = some (.lst xs)) (e : ixN xs.length k = some j) (q : Q (upd H p (.lst (xs.set j v)))) : rSetL (.ref p) (.int k) v H Q := ⟨p, xs, k, j, rfl, rfl, h, e, q⟩
theorem i_gTup {n : Nat} {t : TGs} {a : Addr} {xs : List V} {Q : L2.St → Hp → Prop} (h : SqT K H a xs) (e : xs.length = n) (q : t xs σ H Q) : gTup K n t (.ref a) σ H Q := ⟨a, xs, rfl, h, e, q⟩
theorem i_gNil {Q : L2.St → Hp → Prop} (q : Q σ H) : gNil [] σ H Q := ⟨rfl, q⟩
theorem i_gCons {t : TG} {u : TGs} {v : V} {r : List V} {Q : L2.St → Hp → Prop} (q : t v σ H fun σ' H' => u r σ' H' Q) : gCons t u (v :: r) σ H Q := ⟨v, r, rfl, q⟩
/-! builtins' calls -/
end
/-! ### heaps -/
/-- all but p is as it was -/
def Kp (p : Addr) (H H' : Hp) : Prop := ∀ b o, H b = some o → b ≠ p → H' b = some o
theorem Kp.refl {p : Addr} {H : Hp} : Kp p H H := fun _ _ e _ => e
theorem Kp.of {p : Addr} {H H' : Hp} (s : Same H H') : Kp p H H' := fun b o e _ => s b o e
theorem Kp.trans {p : Addr} {H H1 H2 : Hp} (a : Kp p H H1) (b : Kp p H1 H2) : Kp p H H2 := fun c o e n => b c o (a c o e n) n
theorem Kp.upd {p : Addr} {H : Hp} {o : HO} : Kp p H (upd H p o) := fun b u e n => by rw [upd_ne n]; exact e
theorem same_new {H : Hp} {p : Addr} {o : HO} (h : H p = none) : Same H (upd H p o) := fun b x e => by
  rw [upd_ne (ne_of_none e h)]
  exact e
theorem Same.tup {K : PySem.W.Frag} {H H' : Hp} {a : Addr} {xs : List V} (e : Same H H') (h : SqT K H a xs) : SqT K H' a xs := by
  rcases h with (h | ⟨o, h⟩) | h
  · exact .inl (.inl (e _ _ h))
  · exact .inl (.inr ⟨o, e _ _ h⟩)
  · exact .inr h
/-- all tuples are as they were -/
def Tps (H H' : Hp) : Prop := ∀ a, (∀ xs, H a = some (.tup xs) → H' a = some (.tup xs)) ∧ ∀ o xs, H a = some (.frz o (.tup xs)) → H' a = some (.frz o (.tup xs))
theorem Tps.sq {K : PySem.W.Frag} {H H' : Hp} {a : Addr} {xs : List V} (e : Tps H H') (h : SqT K H a xs) : SqT K H' a xs := by
  rcases h with (h | ⟨o, h⟩) | h
  · exact .inl (.inl ((e a).1 _ h))
  · exact .inl (.inr ⟨o, (e a).2 _ _ h⟩)
  · exact .inr h
theorem Tps.refl {H : Hp} : Tps H H := fun _ => ⟨fun _ h => h, fun _ _ h => h⟩
theorem Tps.trans {H H1 H2 : Hp} (a : Tps H H1) (b : Tps H1 H2) : Tps H H2 := fun c => ⟨fun xs h => (b c).1 xs ((a c).1 xs h), fun o xs h => (b c).2 o xs ((a c).2 o xs h)⟩
theorem Tps.of {H H' : Hp} (s : Same H H') : Tps H H' := fun a => ⟨fun xs h => s _ _ h, fun o xs h => s _ _ h⟩
theorem Kp.tps {p : Addr} {H H' : Hp} (k : Kp p H H') {xs : List V} (h : H p = some (.lst xs)) : Tps H H' := fun a => ⟨fun ys e => k _ _ e (ne_of e h (by intro z; cases z)), fun o ys e => k _ _ e (ne_of e h (by intro z; cases z))⟩
theorem Kp.seq {K : PySem.W.Frag} {p b : Addr} {H H' : Hp} {xs : List V} (k : Kp p H H') (h : SqL K H b xs) (n : b ≠ p) : SqL K H' b xs := by
  rcases h with (h | ⟨o, h⟩) | h
  · exact .inl (.inl (k _ _ h n))
  · exact .inl (.inr ⟨o, k _ _ h n⟩)
  · exact .inr h
/-! ### data -/
def Shp (n : Nat) (d : PyData) : Prop := d.canLay0 = true ∧ d.depth ≤ n
theorem Shp.shaped {n : Nat} {d : PyData} (h : Shp n d) (hn : n ≤ 64) : SeqAt.shaped d = true := by
  unfold SeqAt.shaped
  rw [h.1, decide_eq_true (Nat.le_trans h.2 hn)]
  rfl
theorem Shp.eqv {n : Nat} {d : PyData} (h : Shp n d) : PyData.eqv d d = true := SeqAt.eqv_refl d h.1
theorem Shp.int (i : Int) : Shp 0 (.int i) := ⟨by simp [PyData.canLay0], by simp [PyData.depth]⟩
theorem Shp.non : Shp 0 .none := ⟨by simp [PyData.canLay0], by simp [PyData.depth]⟩
theorem Shp.bool (b : Bool) : Shp 0 (.bool b) := ⟨by simp [PyData.canLay0], by simp [PyData.depth]⟩
theorem Shp.mono {n m : Nat} {d : PyData} (h : Shp n d) (hm : n ≤ m) : Shp m d := ⟨h.1, Nat.le_trans h.2 hm⟩
theorem shpAll {n : Nat} : ∀ {ds : List PyData}, (∀ d ∈ ds, Shp n d) → PyData.canLayAll0 ds = true ∧ PyData.depthAll ds ≤ n
  | [], _ => ⟨by simp [PyData.canLayAll0], by simp [PyData.depthAll]⟩
  | d :: ds, h => by
    have h1 := h d List.mem_cons_self
    have h2 := shpAll (ds := ds) fun x hx => h x (List.mem_cons_of_mem _ hx)
    refine ⟨by rw [PyData.canLayAll0, h1.1, h2.1]; rfl, ?_⟩
    rw [PyData.depthAll]
    exact Nat.max_le.mpr ⟨h1.2, h2.2⟩
theorem Shp.tup {n : Nat} {ds : List PyData} (h : ∀ d ∈ ds, Shp n d) : Shp (n + 1) (.tuple ds) := by
  have := shpAll h
  exact ⟨by rw [PyData.canLay0]; exact this.1, by rw [PyData.depth]; omega⟩
theorem Shp.lst {n : Nat} {ds : List PyData} (h : ∀ d ∈ ds, Shp n d) : Shp (n + 1) (.list ds) := by
  have := shpAll h
  exact ⟨by rw [PyData.canLay0]; exact this.1, by rw [PyData.depth]; omega⟩
theorem dpAll_of {K : PySem.W.Frag} {H : Hp} : ∀ {xs : List V} {ds : List PyData}, xs.length = ds.length → (∀ (i : Nat) x d, xs[i]? = some x → ds[i]? = some d → Dp K H x d) → DpAll K H xs ds
  | [], [], _, _ => .nil
  | x :: xs, d :: ds, hl, h => .cons (h 0 x d rfl rfl) (dpAll_of (by simpa using hl) fun i y e h1 h2 => h (i + 1) y e (by simpa using h1) (by simpa using h2))
theorem dp_ints {K : PySem.W.Frag} {H : Hp} {a : Addr} {ns : List Int} (h : SqT K H a (ns.map V.int)) : Dp K H (.ref a) (.tuple (ns.map PyData.int)) := by
  refine .tup h (dpAll_of (by simp) fun i x d h1 h2 => ?_)
  rw [List.getElem?_map] at h1 h2
  cases e : ns[i]? with
  | none => rw [e] at h1; cases h1
  | some z =>
    rw [e] at h1 h2
    cases h1
    cases h2
    exact .int z
/-! ### slices of tuples -/
section
variable {prog : Program} {w : World} {A : Around} {E : Value → Shared → Prop} {s : Shared}
theorem tup_whole {t sl : Addr} {items : Array Value} {vl vu : Value} {lo hi : Option Int} {Q : Value → Shared → Prop} (ht : IsTup s.heap t items) (hs : s.heap.IsSliceOf sl vl vu .none) (pl : IsPart vl lo) (pu : IsPart vu hi)
    (h0 : HT.sIx items.size 0 lo = 0) (h1 : HT.sIx items.size items.size hi = items.size) (h : Q (.ref t) s) : wpAny (model prog w) A (getItem (.ref t) (.ref sl)) Q E s := by
  have hTs : s.TypeIs (.ref sl) "slice" := by
    obtain ⟨os, hos, hcs, _⟩ := id hs
    exact ⟨os, hos, hcs⟩
  unfold getItem
  try with_reducible refine wpAny_holding ?_
  first | refine wpAny_bind (wpAny_pure ?_) | skip
  refine wpAny_bind (wpAny_sequenceKey ht.typeIs (by decide) (wpAny_bind (wpAny_callSpecial?_slot (name := Str.ofString "__getitem__") ht.typeIs PyProof.Rows.slot_tuple_getitem (wpAny_call_entry PyProof.Rows.slot_tuple_getitem ht.typeIs entry_tuple_getitem ?_ (args_tuple_getitem _ _)))))
  show wpAny _ _ (Builtin.Tuple.tupleItemsOf (.ref t) >>= _) _ _ s
  refine wpAny_bind (tupleItemsOf_ ht (wpAny_bind (wpAny_typeOf hTs ?_)))
  rw [if_pos (by decide)]
  refine wpAny_bind (HT.sliceApplied_gen hs pl pu ?_)
  show wpAny _ _ (if (((HT.sIx items.size 0 lo : Nat) : Int) == 0 && (1 : Int) == 1 && (HT.sIx items.size items.size hi - HT.sIx items.size 0 lo) == items.size) = true then _ else _) _ _ s
  rw [h0, h1, if_pos (by simp)]
  unfold Builtin.Tuple.tupleIsExact
  refine wpAny_bind (wpAny_bind (wpAny_typeOf ht.typeIs (wpAny_pure ?_)))
  rw [if_pos (by decide)]
  first
    | exact wpAny_bind (wpAny_rule (wpAny_pure ⟨_, rfl, wpAny_pure h⟩))
    | exact wpAny_bind (wpAny_rule (wpAny_bind (wpAny_pure (wpAny_pure ⟨_, rfl, wpAny_pure h⟩))))
end
section
variable {X : Cx}
/-- t[lo:hi], the whole of it too (that is t itself) -/
def rSlQ (K : PySem.W.Frag) : V → Option Int → Option Int → Hp → VK → Prop := fun x lo hi H Q => ∃ a xs, x = .ref a ∧ SqT K H a xs ∧
  (cutV xs lo hi = xs → Q (.ref a) H) ∧ ∀ p, H p = none → Q (.ref p) (upd H p (.tup (cutV xs lo hi)))
theorem sl_tupQ : SlR X (rSlQ X.K) := by
  intro pins s σ H x v vl vu lo hi sl Q I rx hs pl pu h
  obtain ⟨a, xs, e, hx, q0, q1⟩ := h
  by_cases hw : HT.sIx xs.length 0 lo = 0 ∧ HT.sIx xs.length xs.length hi = xs.length
  · subst e
    cases rx
    obtain ⟨its, r, ht, hz⟩ := I.tuple hx
    have hlen : its.toArray.size = xs.length := by rw [List.size_toArray]; exact r.length.symm
    refine ⟨"tuple", _, PyProof.Rows.slot_tuple_getitem.lookup, ht.typeIs, ?_⟩
    refine tup_whole ht hs pl pu (by rw [hlen]; exact hw.1) (by rw [hlen]; exact hw.2) ⟨.ref a, H, I, rfl, q0 ?_⟩
    unfold cutV
    rw [hw.1, hw.2]
    simp
  · exact sl_tup pins s σ H x v vl vu lo hi sl Q I rx hs pl pu ⟨a, xs, e, hx, hw, q1⟩
end
/-! ### loops -/
section
variable {K : PySem.W.Frag} {a : Addr} {xs : List V} {g : TG} {tb : TS} {σ : L2.St} {H : Hp} {nx : L2.St → Hp → Prop} {rt : VK}
theorem f_list (Pv : Nat → L2.St → Hp → Prop) (h0 : Pv 0 σ H) (hl : ∀ i σ H, i ≤ xs.length → Pv i σ H → SqL K H a xs)
    (hs : ∀ i x σ H, xs[i]? = some x → Pv i σ H → g x σ H fun σ2 H2 => tb ⟨Pv (i + 1), rt, nx, Pv (i + 1)⟩ σ2 H2) (hd : ∀ σ H, Pv xs.length σ H → nx σ H) :
    ∃ W : Nat → Nat → L2.St → Hp → Prop, (∃ m, W 0 m σ H) ∧ ∀ i m σ H, W i m σ H →
      ((Itl K a).stop i H ∧ nx σ H) ∨ ((Itl K a).go i H ∧ ∃ N : L2.St → Hp → Prop, (∀ σ' H', N σ' H' → ∃ m', m' < m ∧ W (i + 1) m' σ' H') ∧ ∀ x H', (Itl K a).yld i H x H' → g x σ H' fun σ2 H2 => tb ⟨N, rt, nx, N⟩ σ2 H2) :=
  for_list (D := ⟨nx, rt, fun _ _ => False, fun _ _ => False⟩) Pv h0 hl hs hd
theorem f_tup (Pv : Nat → L2.St → Hp → Prop) (h0 : Pv 0 σ H) (hl : ∀ i σ H, i ≤ xs.length → Pv i σ H → SqT K H a xs)
    (hs : ∀ i x σ H, xs[i]? = some x → Pv i σ H → g x σ H fun σ2 H2 => tb ⟨Pv (i + 1), rt, nx, Pv (i + 1)⟩ σ2 H2) (hd : ∀ σ H, Pv xs.length σ H → nx σ H) :
    ∃ W : Nat → Nat → L2.St → Hp → Prop, (∃ m, W 0 m σ H) ∧ ∀ i m σ H, W i m σ H →
      ((Itt K a).stop i H ∧ nx σ H) ∨ ((Itt K a).go i H ∧ ∃ N : L2.St → Hp → Prop, (∀ σ' H', N σ' H' → ∃ m', m' < m ∧ W (i + 1) m' σ' H') ∧ ∀ x H', (Itt K a).yld i H x H' → g x σ H' fun σ2 H2 => tb ⟨N, rt, nx, N⟩ σ2 H2) :=
  for_tup (D := ⟨nx, rt, fun _ _ => False, fun _ _ => False⟩) Pv h0 hl hs hd
theorem f_range {lo : Int} {n : Nat} (Pv : Nat → L2.St → Hp → Prop) (h0 : Pv 0 σ H)
    (hs : ∀ i σ H, i < n → Pv i σ H → g (.int (lo + i)) σ H fun σ2 H2 => tb ⟨Pv (i + 1), rt, nx, Pv (i + 1)⟩ σ2 H2) (hd : ∀ σ H, Pv n σ H → nx σ H) :
    ∃ W : Nat → Nat → L2.St → Hp → Prop, (∃ m, W 0 m σ H) ∧ ∀ i m σ H, W i m σ H →
      ((Itr lo n).stop i H ∧ nx σ H) ∨ ((Itr lo n).go i H ∧ ∃ N : L2.St → Hp → Prop, (∀ σ' H', N σ' H' → ∃ m', m' < m ∧ W (i + 1) m' σ' H') ∧ ∀ x H', (Itr lo n).yld i H x H' → g x σ H' fun σ2 H2 => tb ⟨N, rt, nx, N⟩ σ2 H2) :=
  for_range (D := ⟨nx, rt, fun _ _ => False, fun _ _ => False⟩) Pv h0 hs hd
theorem f_rangeC {lo c : Int} {n : Nat} (Pv : Nat → L2.St → Hp → Prop) (h0 : Pv 0 σ H)
    (hs : ∀ i σ H, i < n → Pv i σ H → g (.int (lo + (i : Nat) * c)) σ H fun σ2 H2 => tb ⟨Pv (i + 1), rt, nx, Pv (i + 1)⟩ σ2 H2) (hd : ∀ σ H, Pv n σ H → nx σ H) :
    ∃ W : Nat → Nat → L2.St → Hp → Prop, (∃ m, W 0 m σ H) ∧ ∀ i m σ H, W i m σ H →
      ((Itc lo c n).stop i H ∧ nx σ H) ∨ ((Itc lo c n).go i H ∧ ∃ N : L2.St → Hp → Prop, (∀ σ' H', N σ' H' → ∃ m', m' < m ∧ W (i + 1) m' σ' H') ∧ ∀ x H', (Itc lo c n).yld i H x H' → g x σ H' fun σ2 H2 => tb ⟨N, rt, nx, N⟩ σ2 H2) :=
  for_rangeC (D := ⟨nx, rt, fun _ _ => False, fun _ _ => False⟩) Pv h0 hs hd
theorem i_rng3 {ta : TA} {R : It → Hp → Prop} (h : ta σ H fun vs H1 => ∃ (i j c : Int) (n : Nat), vs = [.int i, .int j, .int c] ∧ RgC i j c n ∧ R (Itc i c n) H1) : iRng3 ta σ H R := h
variable {tt : TT} {te : TE} {ws : List Nat} {D : Addr} {Qd : Hp → Prop} {σ' : L2.St}
theorem l_list (Pv : Nat → Hp → Prop) (h0 : Pv 0 (upd H D (.lst []))) (hl : ∀ i H, i ≤ xs.length → Pv i H → SqL K H a xs)
    (hs : ∀ i x H, xs[i]? = some x → Pv i H → g x σ' H fun σ2 H2 => wipe σ2 ws = σ' ∧ tt σ2 H2 fun b H3 =>
      if b = true then te σ2 H3 fun y H4 => ∃ acc, H4 D = some (.lst acc) ∧ acc.length < sizeLine ∧ Pv (i + 1) (upd H4 D (.lst (acc ++ [y]))) else Pv (i + 1) H3) (hd : ∀ H, Pv xs.length H → Qd H) (e : wipe σ' ws = σ' := by rfl) :
    ∃ W : Nat → Nat → Hp → Prop, (∃ m, W 0 m (upd H D (.lst []))) ∧ ∀ i m H, W i m H →
      ((Itl K a).stop i H ∧ Qd H) ∨ ((Itl K a).go i H ∧ ∃ Nx : Hp → Prop, (∀ H', Nx H' → ∃ m', m' < m ∧ W (i + 1) m' H') ∧ ∀ x H', (Itl K a).yld i H x H' → g x σ' H' fun σ2 H2 => wipe σ2 ws = σ' ∧ tt σ2 H2 fun b H3 =>
        if b = true then te σ2 H3 fun y H4 => ∃ acc, H4 D = some (.lst acc) ∧ acc.length < sizeLine ∧ Nx (upd H4 D (.lst (acc ++ [y]))) else Nx H3) := by
  have h := lc_list (K := K) (a := a) (xs := xs) (g := g) (tt := tt) (te := te) (vs := ws) (σ := σ') (H1 := H) (D := D) (Qd := Qd) Pv h0 hl (by rw [e]; exact hs) hd
  rw [e] at h
  exact h
theorem l_tup (Pv : Nat → Hp → Prop) (h0 : Pv 0 (upd H D (.lst []))) (hl : ∀ i H, i ≤ xs.length → Pv i H → SqT K H a xs)
    (hs : ∀ i x H, xs[i]? = some x → Pv i H → g x σ' H fun σ2 H2 => wipe σ2 ws = σ' ∧ tt σ2 H2 fun b H3 =>
      if b = true then te σ2 H3 fun y H4 => ∃ acc, H4 D = some (.lst acc) ∧ acc.length < sizeLine ∧ Pv (i + 1) (upd H4 D (.lst (acc ++ [y]))) else Pv (i + 1) H3) (hd : ∀ H, Pv xs.length H → Qd H) (e : wipe σ' ws = σ' := by rfl) :
    ∃ W : Nat → Nat → Hp → Prop, (∃ m, W 0 m (upd H D (.lst []))) ∧ ∀ i m H, W i m H →
      ((Itt K a).stop i H ∧ Qd H) ∨ ((Itt K a).go i H ∧ ∃ Nx : Hp → Prop, (∀ H', Nx H' → ∃ m', m' < m ∧ W (i + 1) m' H') ∧ ∀ x H', (Itt K a).yld i H x H' → g x σ' H' fun σ2 H2 => wipe σ2 ws = σ' ∧ tt σ2 H2 fun b H3 =>
        if b = true then te σ2 H3 fun y H4 => ∃ acc, H4 D = some (.lst acc) ∧ acc.length < sizeLine ∧ Nx (upd H4 D (.lst (acc ++ [y]))) else Nx H3) := by
  have h := lc_tup (K := K) (a := a) (xs := xs) (g := g) (tt := tt) (te := te) (vs := ws) (σ := σ') (H1 := H) (D := D) (Qd := Qd) Pv h0 hl (by rw [e]; exact hs) hd
  rw [e] at h
  exact h
theorem l_range {lo : Int} {n : Nat} (Pv : Nat → Hp → Prop) (h0 : Pv 0 (upd H D (.lst [])))
    (hs : ∀ i H, i < n → Pv i H → g (.int (lo + i)) σ' H fun σ2 H2 => wipe σ2 ws = σ' ∧ tt σ2 H2 fun b H3 =>
      if b = true then te σ2 H3 fun y H4 => ∃ acc, H4 D = some (.lst acc) ∧ acc.length < sizeLine ∧ Pv (i + 1) (upd H4 D (.lst (acc ++ [y]))) else Pv (i + 1) H3) (hd : ∀ H, Pv n H → Qd H) (e : wipe σ' ws = σ' := by rfl) :
    ∃ W : Nat → Nat → Hp → Prop, (∃ m, W 0 m (upd H D (.lst []))) ∧ ∀ i m H, W i m H →
      ((Itr lo n).stop i H ∧ Qd H) ∨ ((Itr lo n).go i H ∧ ∃ Nx : Hp → Prop, (∀ H', Nx H' → ∃ m', m' < m ∧ W (i + 1) m' H') ∧ ∀ x H', (Itr lo n).yld i H x H' → g x σ' H' fun σ2 H2 => wipe σ2 ws = σ' ∧ tt σ2 H2 fun b H3 =>
        if b = true then te σ2 H3 fun y H4 => ∃ acc, H4 D = some (.lst acc) ∧ acc.length < sizeLine ∧ Nx (upd H4 D (.lst (acc ++ [y]))) else Nx H3) := by
  have h := lc_range (lo := lo) (n := n) (g := g) (tt := tt) (te := te) (vs := ws) (σ := σ') (H1 := H) (D := D) (Qd := Qd) Pv h0 (by rw [e]; exact hs) hd
  rw [e] at h
  exact h
/-! a comprehension whose elements lay nothing -/
theorem l_rangeP {lo : Int} {n : Nat} (f : Nat → V) (hD : H D = none) (hn : n ≤ 1000000)
    (hs : ∀ i H' (R : VK), i < n → Same H H' → R (f i) H' → g (.int (lo + i)) σ' H' fun σ2 H2 => wipe σ2 ws = σ' ∧ tt σ2 H2 fun b H3 => if b = true then te σ2 H3 R else False)
    (hd : ∀ H', Same H H' → H' D = some (.lst ((List.range n).map f)) → Qd H') (e : wipe σ' ws = σ' := by rfl)
    (htt : ∀ (σ2 : L2.St) (H2 : Hp) (A : Hp → Prop) (B : Hp → Prop), (tt σ2 H2 fun b H3 => if b = true then A H3 else False) → tt σ2 H2 fun b H3 => if b = true then A H3 else B H3 := by intro _ _ _ _ h; exact h) (hg : ∀ x (σ2 : L2.St) (H2 : Hp) (A B : L2.St → Hp → Prop), (∀ s h, A s h → B s h) → g x σ2 H2 A → g x σ2 H2 B := by intro _ _ _ _ _ h q; exact h _ _ q) :
    ∃ W : Nat → Nat → Hp → Prop, (∃ m, W 0 m (upd H D (.lst []))) ∧ ∀ i m H, W i m H →
      ((Itr lo n).stop i H ∧ Qd H) ∨ ((Itr lo n).go i H ∧ ∃ Nx : Hp → Prop, (∀ H', Nx H' → ∃ m', m' < m ∧ W (i + 1) m' H') ∧ ∀ x H', (Itr lo n).yld i H x H' → g x σ' H' fun σ2 H2 => wipe σ2 ws = σ' ∧ tt σ2 H2 fun b H3 =>
        if b = true then te σ2 H3 fun y H4 => ∃ acc, H4 D = some (.lst acc) ∧ acc.length < sizeLine ∧ Nx (upd H4 D (.lst (acc ++ [y]))) else Nx H3) := by
  refine l_range (fun i H' => Same H H' ∧ H' D = some (.lst ((List.range i).map f))) ⟨same_new hD, upd_same⟩ (fun i H' hi h => ?_) (fun H' h => hd H' h.1 h.2) e
  obtain ⟨s, hD'⟩ := h
  refine hg _ _ _ _ _ (fun σ2 H2 q => ⟨q.1, htt _ _ _ _ q.2⟩) (hs i H' _ hi s ⟨_, hD', ?_, fun b o hb => ?_, ?_⟩)
  · rw [List.length_map, List.length_range, sizeLine_eq]; omega
  · rw [upd_ne (ne_of_none hb hD)]; exact s _ _ hb
  · rw [upd_same, List.range_succ, List.map_append] <;> rfl
theorem l_listP (f : Nat → V) (hD : H D = none) (hn : xs.length ≤ 1000000) (hx : SqL K H a xs)
    (hs : ∀ i x H' (R : VK), xs[i]? = some x → Same H H' → R (f i) H' → g x σ' H' fun σ2 H2 => wipe σ2 ws = σ' ∧ tt σ2 H2 fun b H3 => if b = true then te σ2 H3 R else False)
    (hd : ∀ H', Same H H' → H' D = some (.lst ((List.range xs.length).map f)) → Qd H') (e : wipe σ' ws = σ' := by rfl)
    (htt : ∀ (σ2 : L2.St) (H2 : Hp) (A : Hp → Prop) (B : Hp → Prop), (tt σ2 H2 fun b H3 => if b = true then A H3 else False) → tt σ2 H2 fun b H3 => if b = true then A H3 else B H3 := by intro _ _ _ _ h; exact h) (hg : ∀ x (σ2 : L2.St) (H2 : Hp) (A B : L2.St → Hp → Prop), (∀ s h, A s h → B s h) → g x σ2 H2 A → g x σ2 H2 B := by intro _ _ _ _ _ h q; exact h _ _ q) :
    ∃ W : Nat → Nat → Hp → Prop, (∃ m, W 0 m (upd H D (.lst []))) ∧ ∀ i m H, W i m H →
      ((Itl K a).stop i H ∧ Qd H) ∨ ((Itl K a).go i H ∧ ∃ Nx : Hp → Prop, (∀ H', Nx H' → ∃ m', m' < m ∧ W (i + 1) m' H') ∧ ∀ x H', (Itl K a).yld i H x H' → g x σ' H' fun σ2 H2 => wipe σ2 ws = σ' ∧ tt σ2 H2 fun b H3 =>
        if b = true then te σ2 H3 fun y H4 => ∃ acc, H4 D = some (.lst acc) ∧ acc.length < sizeLine ∧ Nx (upd H4 D (.lst (acc ++ [y]))) else Nx H3) := by
  refine l_list (xs := xs) (fun i H' => Same H H' ∧ H' D = some (.lst ((List.range i).map f))) ⟨same_new hD, upd_same⟩ (fun i H' _ h => Same.seq h.1 hx) (fun i x H' hi h => ?_) (fun H' h => hd H' h.1 h.2) e
  obtain ⟨s, hD'⟩ := h
  have hlt := (List.getElem?_eq_some_iff.mp hi).1
  refine hg _ _ _ _ _ (fun σ2 H2 q => ⟨q.1, htt _ _ _ _ q.2⟩) (hs i x H' _ hi s ⟨_, hD', ?_, fun b o hb => ?_, ?_⟩)
  · rw [List.length_map, List.length_range, sizeLine_eq]; omega
  · rw [upd_ne (ne_of_none hb hD)]; exact s _ _ hb
  · rw [upd_same, List.range_succ, List.map_append] <;> rfl
theorem l_tupP (f : Nat → V) (hD : H D = none) (hn : xs.length ≤ 1000000) (hx : SqT K H a xs)
    (hs : ∀ i x H' (R : VK), xs[i]? = some x → Same H H' → R (f i) H' → g x σ' H' fun σ2 H2 => wipe σ2 ws = σ' ∧ tt σ2 H2 fun b H3 => if b = true then te σ2 H3 R else False)
    (hd : ∀ H', Same H H' → H' D = some (.lst ((List.range xs.length).map f)) → Qd H') (e : wipe σ' ws = σ' := by rfl)
    (htt : ∀ (σ2 : L2.St) (H2 : Hp) (A : Hp → Prop) (B : Hp → Prop), (tt σ2 H2 fun b H3 => if b = true then A H3 else False) → tt σ2 H2 fun b H3 => if b = true then A H3 else B H3 := by intro _ _ _ _ h; exact h) (hg : ∀ x (σ2 : L2.St) (H2 : Hp) (A B : L2.St → Hp → Prop), (∀ s h, A s h → B s h) → g x σ2 H2 A → g x σ2 H2 B := by intro _ _ _ _ _ h q; exact h _ _ q) :
    ∃ W : Nat → Nat → Hp → Prop, (∃ m, W 0 m (upd H D (.lst []))) ∧ ∀ i m H, W i m H →
      ((Itt K a).stop i H ∧ Qd H) ∨ ((Itt K a).go i H ∧ ∃ Nx : Hp → Prop, (∀ H', Nx H' → ∃ m', m' < m ∧ W (i + 1) m' H') ∧ ∀ x H', (Itt K a).yld i H x H' → g x σ' H' fun σ2 H2 => wipe σ2 ws = σ' ∧ tt σ2 H2 fun b H3 =>
        if b = true then te σ2 H3 fun y H4 => ∃ acc, H4 D = some (.lst acc) ∧ acc.length < sizeLine ∧ Nx (upd H4 D (.lst (acc ++ [y]))) else Nx H3) := by
  refine l_tup (xs := xs) (fun i H' => Same H H' ∧ H' D = some (.lst ((List.range i).map f))) ⟨same_new hD, upd_same⟩ (fun i H' _ h => Same.tup h.1 hx) (fun i x H' hi h => ?_) (fun H' h => hd H' h.1 h.2) e
  obtain ⟨s, hD'⟩ := h
  have hlt := (List.getElem?_eq_some_iff.mp hi).1
  refine hg _ _ _ _ _ (fun σ2 H2 q => ⟨q.1, htt _ _ _ _ q.2⟩) (hs i x H' _ hi s ⟨_, hD', ?_, fun b o hb => ?_, ?_⟩)
  · rw [List.length_map, List.length_range, sizeLine_eq]; omega
  · rw [upd_ne (ne_of_none hb hD)]; exact s _ _ hb
  · rw [upd_same, List.range_succ, List.map_append] <;> rfl
end
theorem i_yes {σ : L2.St} {H : Hp} {Q : Bool → Hp → Prop} (q : Q true H) : tYes σ H Q := q
/-! ### ifs -/
theorem c_dec {P A B : Prop} [Decidable P] (h1 : P → A) (h2 : ¬ P → B) : if decide P = true then A else B := by
  by_cases h : P
  · rw [if_pos (decide_eq_true h)]; exact h1 h
  · rw [if_neg (by rw [decide_eq_false h]; exact Bool.false_ne_true)]; exact h2 h
theorem c_decN {P A B : Prop} [Decidable P] (h1 : ¬ P → A) (h2 : P → B) : if (!decide P) = true then A else B := by
  by_cases h : P
  · rw [if_neg (by rw [decide_eq_true h]; exact Bool.false_ne_true)]; exact h2 h
  · rw [if_pos (by rw [decide_eq_false h]; rfl)]; exact h1 h
theorem c_nt {A B : Prop} (h : B) : if (!true) = true then A else B := iteF h
theorem c_nf {A B : Prop} (h : A) : if (!false) = true then A else B := iteT h
theorem c_bool {b : Bool} {A B : Prop} (h1 : b = true → A) (h2 : b = false → B) : if b = true then A else B := by
  cases b
  · exact iteF (h2 rfl)
  · exact iteT (h1 rfl)
theorem c_yes {P A B : Prop} [Decidable P] (h : P) (h1 : A) : if decide P = true then A else B := by rw [if_pos (decide_eq_true h)]; exact h1
theorem c_no {P A B : Prop} [Decidable P] (h : ¬ P) (h1 : B) : if decide P = true then A else B := by rw [if_neg (by rw [decide_eq_false h]; exact Bool.false_ne_true)]; exact h1
theorem c_yesN {P A B : Prop} [Decidable P] (h : ¬ P) (h1 : A) : if (!decide P) = true then A else B := by rw [if_pos (by rw [decide_eq_false h]; rfl)]; exact h1
theorem c_noN {P A B : Prop} [Decidable P] (h : P) (h1 : B) : if (!decide P) = true then A else B := by rw [if_neg (by rw [decide_eq_true h]; exact Bool.false_ne_true)]; exact h1
section
variable {K : PySem.W.Frag} {σ : L2.St} {H : Hp} {Q : VK}
theorem i_slA {p : Addr} {xs : List V} {lo hi : Option Int} (h : SqT K H p xs) (q : ∀ (r : Addr) (H' : Hp), Same H H' → SqT K H' r (cutV xs lo hi) → Q (.ref r) H') : rSlQ K (.ref p) lo hi H Q :=
  ⟨p, xs, rfl, h, fun e => q p H (Same.refl H) (by rw [e]; exact h), fun r hr => q r _ (same_new hr) (SqT.of upd_same)⟩
theorem i_eqD {x y : V} {d e : PyData} {n m : Nat} (h1 : Dp K H x d) (h2 : Dp K H y e) (s1 : Shp n d) (s2 : Shp m e) (hn : n ≤ 64) (hm : m ≤ 64) (q : Q (.bl (PyData.eqv d e)) H) : rEqD K x y H Q := ⟨d, e, h1, h2, s1.shaped hn, s2.shaped hm, q⟩
theorem i_neD {x y : V} {d e : PyData} {n m : Nat} (h1 : Dp K H x d) (h2 : Dp K H y e) (s1 : Shp n d) (s2 : Shp m e) (hn : n ≤ 64) (hm : m ≤ 64) (q : Q (.bl (!PyData.eqv d e)) H) : rNeD K x y H Q := ⟨d, e, h1, h2, s1.shaped hn, s2.shaped hm, q⟩
/-- == and != of the same data -/
theorem i_eqS' {x y : V} {d : PyData} {n : Nat} (h1 : Dp K H x d) (h2 : Dp K H y d) (s1 : Shp n d) (hn : n ≤ 64) (q : Q (.bl true) H) : rEqD K x y H Q := i_eqD h1 h2 s1 s1 hn hn (by rw [s1.eqv]; exact q)
theorem i_neS' {x y : V} {d : PyData} {n : Nat} (h1 : Dp K H x d) (h2 : Dp K H y d) (s1 : Shp n d) (hn : n ≤ 64) (q : Q (.bl false) H) : rNeD K x y H Q := i_neD h1 h2 s1 s1 hn hn (by rw [s1.eqv]; exact q)
theorem i_while {c : TT} {tb : TS} {nx : L2.St → Hp → Prop} {rt : VK} {bk ct : L2.St → Hp → Prop} (W : Nat → L2.St → Hp → Prop) (h0 : ∃ m, W m σ H) (h : ∀ m σ H, W m σ H →
  c σ H fun b H1 => if b = true then ∃ N : L2.St → Hp → Prop, (∀ σ' H', N σ' H' → ∃ m', m' < m ∧ W m' σ' H') ∧ tb ⟨N, rt, nx, N⟩ σ H1 else nx σ H1) : tWhile c tb ⟨nx, rt, bk, ct⟩ σ H := ⟨W, h0, h⟩
theorem i_par {i j : Nat} {ta : TA} {nx : L2.St → Hp → Prop} {rt : VK} {bk ct : L2.St → Hp → Prop} (h : ta σ H fun vs H1 => ∃ v w, vs = [v, w] ∧ nx ((σ.set i (some v)).set j (some w)) H1) : tPar i j ta ⟨nx, rt, bk, ct⟩ σ H := h
theorem i_two {x y : V} {R : V → V → Prop} (q : R x y) : ∃ v w, [x, y] = [v, w] ∧ R v w := ⟨x, y, rfl, q⟩
theorem Dp.same {K : PySem.W.Frag} {H H' : Hp} (s : Same H H') : ∀ (d : PyData) (v : V), Dp K H v d → Dp K H' v d := by
  intro d v h
  exact Dp.rec (motive_1 := fun v d _ => Dp K H' v d) (motive_2 := fun vs ds _ => DpAll K H' vs ds) .non (fun b => .bl b) (fun i => .int i) (fun x => .str x) (fun h _ q => .lst (s.seq h) q) (fun h _ q => .tup (Same.tup s h) q) .nil (fun _ _ h1 h2 => .cons h1 h2) h
end
/-! ### a def that can be called -/
structure Df (K : PySem.W.Frag) (mg : Str → Option Value) (x : Str) (st : Stmt) (f : Addr) (fd : FuncData) (ps : List Str) : Prop where
  fn : Fun K x x st f fd
  mgf : mg x = some (.ref f)
  bi : Binds K fd ps []
/-- a def of the text by its promise: it lets no exception out -/
structure Cl (P : Program) (w : World) (K : PySem.W.Frag) (mg : Str → Option Value) (base : Heap) (k : Nat) (x : Str) (sp : Sp) : Prop where
  ex : ∃ (f : Addr) (fd : FuncData) (ps : List Str), FnOk P w K mg base CX0 k f fd ps sp ∧ mg x = some (.ref f) ∧ PySem.W.keepIn K (.ref f) = true ∧ Binds K fd ps []
section
variable {P : Program} {w : World} {K : PySem.W.Frag} {mg : Str → Option Value} {base : Heap}
theorem Df.ok {x : Str} {st : Stmt} {f : Addr} {fd : FuncData} {ps N : List Str} {k : Nat} {sp : Sp} (F : Df K mg x st f fd ps) (S : FnScope N ps (defScope st)) (len : ∀ vs H Q E, sp vs H Q E → vs.length = ps.length)
    (hbody : ∀ (cdv : Value) (A : Around) (outer : List Env) (s : Shared) (H : Hp) (vs : List V) (Q : VK) (E : XK), Room k (A.deeper (envOfC x (defScope st) s.heap.objs.size f cdv)) → sp vs H Q E →
      ∃ t, PSs (cxOf CX0 P w K mg base N x (defScope st) f cdv A outer s H E).nox (defBody st) t ∧ t { nx := fun _ H' => Q .non H', rt := Q } (start N vs) H) : FnOk P w K mg base CX0 (k + 1) f fd ps sp :=
  F.fn.ok S len hbody
theorem Df.cl {x : Str} {st : Stmt} {f : Addr} {fd : FuncData} {ps : List Str} {k : Nat} {sp : Sp} (F : Df K mg x st f fd ps) (o : FnOk P w K mg base CX0 k f fd ps sp) : Cl P w K mg base k x sp :=
  ⟨f, fd, ps, o, F.mgf, F.fn.kp, F.bi⟩
variable {X : Cx}
theorem pe_cl {x : Str} {sp : Sp} {j k : Nat} {e : Expr} {es : List Expr} {t : TA} {p pos : Pos} (c : Cl X.prog X.w X.K X.mg X.base k x sp) (hr : Room j X.A) (hk : k ≤ j) (hg : Gl X x) (ha : PA X (e :: es) t)
    (hdb : (x == ("__debug__" : Str)) = false := by decide) (he : starEach (e :: es) X.env = (false, eval e X.env) :: starEach es X.env := by rfl) (hpl : (backTo pos (starEach es X.env)).any (·.1) = false := by rfl) :
    PE X (.Call (.Name x p) (e :: es) [] pos) (tCall sp [] E0 t) := by
  obtain ⟨f, fd, ps, F, hm, kp, b⟩ := c.ex
  exact pe_call F (hr.mono hk) hg hm kp b .nil pass0 ha hdb he hpl
theorem pe_cl0 {x : Str} {sp : Sp} {j k : Nat} {p pos : Pos} (c : Cl X.prog X.w X.K X.mg X.base k x sp) (hr : Room j X.A) (hk : k ≤ j) (hg : Gl X x) (hdb : (x == ("__debug__" : Str)) = false := by decide) :
    PE X (.Call (.Name x p) [] [] pos) (tCall sp [] E0 tNil) := by
  obtain ⟨f, fd, ps, F, hm, kp, b⟩ := c.ex
  exact pe_call0 F (hr.mono hk) hg hm kp b .nil pass0 hdb
/-- a constant of the module's top -/
def Cn (mg : Str → Option Value) (x : Str) (v : V) : Prop := ∃ u, mg x = some u ∧ RelV v u
theorem pe_cn {x : Str} {v : V} {pos : Pos} (hg : Gl X x) (h : Cn X.mg x v) (hd : (x == ("__debug__" : Str)) = false := by decide) : PE X (.Name x pos) (tC v) := by
  obtain ⟨u, hm, r⟩ := h
  exact pe_glob hg hm r hd
section
variable {K : PySem.W.Frag} {T : String} {name : Str} {id : String} {r : V → List V → Hp → VK → Prop} {o e : Expr} {es : List Expr} {apos cpos pos : Pos} {to ta : TE} {t : TA}
theorem pe_bm0K (hK : X.K = K) (pa : PlainAttrs T) (slot : Slot T name id) (hty : typeOf (.builtin id) = pure (.type "method_descriptor")) (hm : MtR X id r) (ho : PE X o to)
    (hbase : attributeBase o name X.env (eval o X.env) = eval o X.env := by rfl) (hline : (apos.endLine == cpos.line) = true := by rfl) : PE X (.Call (.Attribute o name apos) [] [] cpos) (tBM0 K T r to) := by
  subst hK; exact pe_bm0 pa slot hty hm ho hbase hline
theorem pe_bmK (hK : X.K = K) (pa : PlainAttrs T) (slot : Slot T name id) (hty : typeOf (.builtin id) = pure (.type "method_descriptor")) (hm : MtR X id r) (ho : PE X o to) (ha : PA X (e :: es) t)
    (hbase : attributeBase o name X.env (eval o X.env) = eval o X.env := by rfl)
    (hfew : ((backTo cpos (starEach (e :: es) X.env)).all (fun x => !x.1) && (backToKw cpos (keywordEach [] X.env)).all (fun x => x.1.isSome)
      && decide ((e :: es).length + ([] : List Keyword).length + (if ([] : List Keyword).isEmpty then 0 else 1) < 30)) = true := by rfl)
    (hline : (apos.endLine == cpos.line) = true := by rfl) (hs : starEach (e :: es) X.env = (false, eval e X.env) :: starEach es X.env := by rfl) (hplain : (backTo cpos (starEach es X.env)).any (·.1) = false := by rfl) :
    PE X (.Call (.Attribute o name apos) (e :: es) [] cpos) (tBM K T r to t) := by
  subst hK; exact pe_bm pa slot hty hm ho ha hbase hfew hline hs hplain
theorem pe_fldK (hK : X.K = K) {f : Str} (he : PE X e ta) (hb : attributeBase e f X.env (eval e X.env) = eval e X.env) : PE X (.Attribute e f pos) (tFld K ta f) := by
  subst hK; exact pe_fld he hb
theorem pg_tupK (hK : X.K = K) {es : List Expr} {k : Nat} {t : TGs} {n : Nat} (hc : X.calm = true) (h : PGs X es t)
    (hn : (assignEach es X.env).length = n := by rfl) (hst : (assignEach es X.env).findIdx? (·.1) = none := by rfl) : PG X (.Tuple es k pos) (gTup K n t) := by
  subst hK; exact pg_tup hc h hn hst
end
theorem get_list : L2.PGet X (rIxL X.K) := by
  intro pins s σ H x y v u Q I rx ry h
  obtain ⟨p, xs, i, z, rfl, rfl, hq, he, q⟩ := h
  cases rx
  obtain ⟨t, rfl⟩ := ry
  obtain ⟨its, r, pl, hz⟩ := I.list hq
  obtain ⟨j, h1, h2, h3, h4, h5⟩ := atI_get he
  obtain ⟨w, ew, rw'⟩ := r.get h2
  have hl := r.length
  have hn := line63
  have fin : EP X pins σ Q w s := ⟨z, H, I, rw', q⟩
  by_cases h0 : 0 ≤ i
  · have hj : i.toNat = j := by
      rw [seqIndex_of h0 h5] at h1
      exact Option.some.inj h1
    exact wpAny_getItem_list pl.isList h0 (by omega) (by rw [hj]; simpa using ew) fin
  · have hj : (i + (its.toArray.size : Int)).toNat = j := by
      rw [seqIndex_neg (by omega) h4] at h1
      rw [List.size_toArray, ← hl]
      exact Option.some.inj h1
    exact wpAny_getItem_list_neg pl.isList (by omega) (by rw [List.size_toArray] <;> omega) (by omega) (by rw [hj]; simpa using ew) fin
end
theorem perm_erase {α : Type} : ∀ (l : List α) (i : Nat) (h : i < l.length), (l[i] :: l.eraseIdx i).Perm l
  | x :: r, 0, _ => List.Perm.refl _
  | x :: r, i + 1, h => (List.Perm.swap x (r[i]'(Nat.lt_of_succ_lt_succ h)) (r.eraseIdx i)).trans ((perm_erase r i (Nat.lt_of_succ_lt_succ h)).cons x)
theorem ints_at {ns : List Int} {i : Nat} {x : V} (h : (ns.map V.int)[i]? = some x) : ∃ z, x = .int z ∧ ns[i]? = some z ∧ ns.take (i + 1) = ns.take i ++ [z] ∧ i < ns.length := by
  rw [List.getElem?_map] at h
  cases e : ns[i]? with
  | none => rw [e] at h; cases h
  | some z =>
    rw [e] at h
    exact ⟨z, (Option.some.inj h).symm, rfl, by rw [List.take_add_one, e]; rfl, (List.getElem?_eq_some_iff.mp e).1⟩
theorem at_lt {α : Type} {xs : List α} {i : Int} (h0 : 0 ≤ i) (h : i < xs.length) : ∃ v, atI xs i = some v ∧ v ∈ xs ∧ xs[i.toNat]? = some v := by
  have hl : i.toNat < xs.length := by omega
  refine ⟨xs[i.toNat], ?_, List.getElem_mem hl, List.getElem?_eq_getElem hl⟩
  have := atI_nat (xs := xs) (j := i.toNat) (v := xs[i.toNat]) (List.getElem?_eq_getElem hl)
  rw [Int.toNat_of_nonneg h0] at this
  exact this
theorem ixN_of {n : Nat} {i : Int} (h0 : 0 ≤ i) (h : i < n) : ixN n i = some i.toNat := by
  unfold ixN
  rw [if_pos h0, if_pos h]
end Jp

/-! ### defs that ask for no guards around them: those that call repr of a container -/
namespace Jp
open PySem PySem.Spec PyProof.Rows L2
structure Gok (P : Program) (w : World) (K : PySem.W.Frag) (mg : Str → Option Value) (base : Heap) (k : Nat) (f : Addr) (fd : FuncData) (ps : List Str) (sp : Sp) : Prop where
  len : ∀ vs H Q E, sp vs H Q E → vs.length = ps.length
  go : ∀ (A : Around) (ou : List Env) (s : Shared) (H : Hp) (g : Args) (us : List Value) (vs : List V) (Q : VK) (E : XK), A.guards = some [] → Room k A → Env0 P w K mg base A ou s H → BindsTo s fd g (ps.zip us) → Vals vs us → sp vs H Q E →
    codeAny (model P w) A (.call (.ref f) g) (CR CX0 ou P w H s Q E) s
structure Cg (P : Program) (w : World) (K : PySem.W.Frag) (mg : Str → Option Value) (base : Heap) (k : Nat) (x : Str) (sp : Sp) : Prop where
  ex : ∃ (f : Addr) (fd : FuncData) (ps : List Str), Gok P w K mg base k f fd ps sp ∧ mg x = some (.ref f) ∧ PySem.W.keepIn K (.ref f) = true ∧ Binds K fd ps []
section
variable {P : Program} {w : World} {K : PySem.W.Frag} {mg : Str → Option Value} {base : Heap}
theorem Df.gok {x : Str} {st : Stmt} {f : Addr} {fd : FuncData} {ps N : List Str} {k : Nat} {sp : Sp} (F : Df K mg x st f fd ps) (S : FnScope N ps (defScope st)) (len : ∀ vs H Q E, sp vs H Q E → vs.length = ps.length)
    (body : ∀ (cdv : Value) (A : Around) (ou : List Env) (s : Shared) (H : Hp) (vs : List V) (Q : VK) (E : XK), Room k (A.deeper (envOfC x (defScope st) s.heap.objs.size f cdv)) → A.guards = some [] → sp vs H Q E →
      ∃ t, PSs (cxOf CX0 P w K mg base N x (defScope st) f cdv A ou s H E).nox (defBody st) t ∧ t { nx := fun _ H' => Q .non H', rt := Q } (start N vs) H) : Gok P w K mg base (k + 1) f fd ps sp := by
  obtain ⟨oc, od, kV, doc, pm, an, cdv, ct, osl, rfl, lk, hcd⟩ := F.fn.ex
  refine ⟨len, fun A ou s H g us vs Q E hgu rm e0 bi rv want => ?_⟩
  have many := len vs H Q E want
  have kin : K.In s.heap := e0.mod.kin.keeps fun b o z => (e0.bs b o z).1
  have noLim : s.heap.NoLimit := e0.mod.nolimit.keeps fun b o z => (e0.bs b o z).1
  have kinds : ∀ y ∈ ps.zip us, (defScope st).names.lookup y.1 = some .local ∨ ((defScope st).names.lookup y.1 = some .cell ∧ ((cellsFrom (s.heap.objs.size + 1) (defScope st).names []).lookup y.1).isSome = true) := by
    rintro ⟨n, v⟩ hy
    rcases S.par n (List.of_mem_zip hy).1 with l | c
    · exact .inl l
    · exact .inr ⟨c, PySem.W.cellsFrom_some _ _ _ (.inl c)⟩
  refine codeAny_call_function rm.depth (kin _ _ lk) rfl S.co S.gen rfl (PySem.W.codeRec_of kin hcd) (bi _ _ _ _ (wpAny_newFunctionEnv_cells S.kind kinds fun env he s1 x => ?_)); subst he
  refine ⟨noLim.keeps x.toInCall.keep, codeAny_func ?_⟩
  obtain ⟨t, ht, rd⟩ := body cdv A ou s H vs Q E (rm.deeper _) hgu want
  have inv : Inv (cxOf CX0 P w K mg base N _ (defScope st) f cdv A ou s H E) [] (start N vs) H s1 := inv_start S rm.hd e0 many rv x
  refine wpAny_mono (ht.nox.run [] s1 (start N vs) H _ inv rd) (fun fl s' hs => ?_) fun e s' z => z
  cases fl
  case ret u =>
    obtain ⟨v, σ', H', J, rr, q⟩ := hs
    exact ⟨v, H', J.os, J.bare, J.base, J.hok, rr, q⟩
  case next =>
    obtain ⟨σ', H', J, q⟩ := hs
    exact ⟨V.non, H', J.os, J.bare, J.base, J.hok, rfl, q⟩
  case brk => obtain ⟨_, _, _, q⟩ := hs; exact False.elim q
  case cont => obtain ⟨_, _, _, q⟩ := hs; exact False.elim q
theorem Df.cg {x : Str} {st : Stmt} {f : Addr} {fd : FuncData} {ps : List Str} {k : Nat} {sp : Sp} (F : Df K mg x st f fd ps) (o : Gok P w K mg base k f fd ps sp) : Cg P w K mg base k x sp :=
  ⟨f, fd, ps, o, F.mgf, F.fn.kp, F.bi⟩
end
section
variable {X : Cx}
theorem run_cg {k : Nat} {f : Addr} {fd : FuncData} {ps : List Str} {sp : Sp} {pins : List (Addr × Obj)} {σ : L2.St} {H : Hp} {s : Shared} {Q : VK} {us : List Value} {vs : List V} (F : Gok X.prog X.w X.K X.mg X.base k f fd ps sp) (rm : Room k X.A) (hgu : X.A.guards = some []) (bi : Binds X.K fd ps [])
    (I : Inv X pins σ H s) (rv : Vals vs us) (want : sp (vs ++ []) H Q E0) : wpAny (model X.prog X.w) X.A (call (.ref f) us) (EP X pins σ Q) X.xe s := by
  rw [List.append_nil] at want
  have many : (us ++ []).length = ps.length := by rw [List.append_nil, ← rv.length]; exact F.len _ _ _ _ want
  have bd := bi s us I.kIn many
  rw [List.append_nil] at bd
  refine wpAny_call (codeAny_mono (F.go X.A X.stack s H ⟨us, []⟩ us vs Q E0 hgu rm I.env0 bd rv want) fun r s' hq => ?_)
  cases r
  case error e => exact pass0 pins σ H s e s' I hq
  case ok fl =>
    cases fl
    case ret u => exact I.after hq
    all_goals exact False.elim hq
theorem pe_cg {x : Str} {sp : Sp} {j k : Nat} {e : Expr} {es : List Expr} {t : TA} {p pos : Pos} (c : Cg X.prog X.w X.K X.mg X.base k x sp) (hr : Room j X.A) (hgu : X.A.guards = some []) (hk : k ≤ j) (hg : Gl X x) (ha : PA X (e :: es) t)
    (hdb : (x == ("__debug__" : Str)) = false := by decide) (he : starEach (e :: es) X.env = (false, eval e X.env) :: starEach es X.env := by rfl) (hpl : (backTo pos (starEach es X.env)).any (·.1) = false := by rfl) :
    PE X (.Call (.Name x p) (e :: es) [] pos) (tCall sp [] E0 t) := by
  obtain ⟨f, fd, ps, F, hm, kp, b⟩ := c.ex
  refine ⟨fun pins s σ H Q I h => wpAny_Call_Name_kw (ld_glob I hg hm ?_ hdb)⟩
  refine PySem.W.callWith_K (h₀ := X.base) I.ok.mod.kin kp (thn (ha.run pos pins s σ H _ I h) fun us s1 hh => ?_) he hpl
  obtain ⟨vs, H1, I1, r, q⟩ := hh
  exact ⟨I1.kIn, run_cg F (hr.mono hk) hgu b I1 r q⟩
theorem pe_cg0 {x : Str} {sp : Sp} {j k : Nat} {p pos : Pos} (c : Cg X.prog X.w X.K X.mg X.base k x sp) (hr : Room j X.A) (hgu : X.A.guards = some []) (hk : k ≤ j) (hg : Gl X x) (hdb : (x == ("__debug__" : Str)) = false := by decide) :
    PE X (.Call (.Name x p) [] [] pos) (tCall sp [] E0 tNil) := by
  obtain ⟨f, fd, ps, F, hm, kp, b⟩ := c.ex
  exact ⟨fun pins s σ H Q I h => wpAny_Call_Name_kw (ld_glob I hg hm (PySem.W.callWith_K0 I.kIn kp (run_cg (us := []) F (hr.mono hk) hgu b I .nil h)) hdb)⟩
/-- repr of a container -/
def rReprD (K : PySem.W.Frag) : List V → Hp → VK → Prop := fun xs H Q => ∃ (a : Addr) (d : PyData), xs = [.ref a] ∧ Dp K H (.ref a) d ∧ PyData.layable0 d = true ∧ d.showable = true ∧ d.shown.length ≤ sizeLine ∧ d.depth ≤ 20 ∧ Q (.str d.shown) H
theorem c_reprD (hgu : X.A.guards = some []) (hu : X.A.units + 64 < cLine) : CallR X (.builtin "repr") (rReprD X.K) := by
  intro pins s σ H xs us Q I r h
  obtain ⟨a, d, rfl, hd, hl, hs, hz, hdp, q⟩ := h
  obtain ⟨u, rfl, ru⟩ := vals1 r
  obtain ⟨as, rd⟩ := Dp.reads I d _ u hd ru
  cases ru
  exact repr_of_reads' rd hs (PyData.noDict_hsm (PyData.hasDict_of_layable hl)) hgu (by omega) (fun _ _ e => e) (fun h' u tk hk => ⟨.str d.shown, H, I.kept hk, ⟨_, rfl⟩, q⟩) hz
end
/-- the law's call, where it stands alone -/
theorem law_cg {P : Program} {w : World} {K : PySem.W.Frag} {mg mb : Str → Option Value} {k : Nat} {fa a : Addr} {fd : FuncData} {x : Str} {sp : Sp} {s₁ : Shared} {vs : List Value} {ns : List Int}
    (KX : K.In s₁.heap) (hns : s₁.heap.Ns mainGlobals mg) (hb : s₁.heap.Ns builtinsNs mb) (hbb : ∀ x : Str, x ≠ "__name__" → mb x = bootBuiltins x) (hlim : s₁.heap.NoLimit) (hg : s₁.gens = #[])
    (ha : s₁.heap.get? a = some { cls := .type "list", data := .seq vs.toArray }) (hi : IntsAre vs ns) (hl : ns.length ≤ sizeLine) (hr : Room k callerA)
    (F : ∀ base : Heap, K.In base → base.Ns mainGlobals mg → Gok P w K mg base k fa fd [x] sp) (bind : ∀ (s : Shared) (u : Value), BindsTo s fd ⟨[u], []⟩ [(x, u)])
    (hsp : ∀ H : Hp, Only H → SqL K H a (ns.map V.int) → sp [.ref a] H (fun v _ => v = .bl true) fun _ _ _ => False) :
    codeAny (model P w) callerA (.call (.ref fa) ⟨[.ref a], []⟩) (fun r s' => r = .ok (.ret (.bool true)) ∧ OldK s₁.heap s'.heap ∧ s'.os = s₁.os ∧ AllBare s'.gens) s₁ := by
  have rv := vals_ints hi; have lenV := hi.length
  have main : ∀ H : Hp, Only H → SqL K H a (ns.map V.int) → HOk P w H s₁.heap → (∀ b, H b ≠ none → b = a) → (H a ≠ none → K.lookup a = none) → codeAny (model P w) callerA (.call (.ref fa) ⟨[.ref a], []⟩) (fun r s' => r = .ok (.ret (.bool true)) ∧ OldK s₁.heap s'.heap ∧ s'.os = s₁.os ∧ AllBare s'.gens) s₁ := by
    intro H only hS hok hA hK
    have isA : ∀ {b : Addr} {u : HO}, H b = some u → b = a := fun {b u} e => hA b (by rw [e]; exact Option.some_ne_none u)
    have notDict : ∀ {b : Addr} {o : Obj} {es : Array DictEntry} {ep : Nat}, s₁.heap.get? b = some o → o.data = .dict es ep → H b = none := by
      intro b o es ep e d
      cases q : H b with
      | none => rfl
      | some u =>
        obtain rfl := isA q
        rw [ha] at e
        cases e
        cases (show Data.seq vs.toArray _ = Data.dict es ep from d)
    have ns' : ∀ {b : Addr} {m : Str → Option Value}, s₁.heap.Ns b m → (hidT s₁.heap H).Ns b m := by
      intro b m hh
      obtain ⟨o, es, ep, e, d, r⟩ := hh
      exact ⟨o, es, ep, hidT_get e (notDict e d), d, r⟩
    have kIn : K.In (hidT s₁.heap H) := by
      intro b o e
      refine hidT_get (KX b o e) ?_
      cases q : H b with
      | none => rfl
      | some u =>
        obtain rfl := isA q
        rw [hK (by rw [q]; exact Option.some_ne_none u)] at e
        cases e
    have mod : Mod K mg (hidT s₁.heap H) := by
      obtain ⟨mc, h1, h2⟩ := hlim
      exact ⟨kIn, ns' hns, ⟨mb, ns' hb, hbb⟩, mc, ns' h1, h2⟩
    have e0 : Env0 P w K mg (hidT s₁.heap H) callerA [] s₁ H := ⟨rfl, mod, fun b o e => of_hidT e, Nat.le_of_eq (hidT_size _ _), trivial, fun b z => (nomatch (show b ∈ ([] : List Addr) from z)), hok, .of_eq hg⟩
    have run := (F _ kIn (ns' hns)).go callerA [] s₁ H ⟨[.ref a], []⟩ [.ref a] [.ref a] (fun v _ => v = .bl true) (fun _ _ _ => False) rfl hr e0 (bind s₁ (.ref a)) (.cons rfl .nil) (hsp H only hS)
    refine codeAny_mono run fun r s' h => ?_
    cases r
    case error e => exact False.elim h
    case ok fl =>
      cases fl
      case ret u =>
        obtain ⟨v, H', os, bare, un, hok', r', q⟩ := h
        obtain rfl : v = .bl true := q
        obtain rfl : u = Value.bool true := r'
        refine ⟨rfl, OldK.of_keep fun b o e => ?_, os, bare⟩
        cases q : H b with
        | none => exact un.keep b o e q (by intro z; exact (nomatch (show b ∈ ([] : List Addr) from z))) (by simp)
        | some u =>
          rcases only b with z | ⟨ob, xs, z⟩
          · rw [q] at z
            cases z
          · obtain ⟨e1, _⟩ := hok b _ z
            obtain ⟨e2, _⟩ := hok' b _ (un.frzs b ob _ z)
            rw [e] at e1
            cases e1
            exact e2
      all_goals exact False.elim h
  cases hk : K.lookup a with
  | some o =>
    have e := KX a o hk
    rw [ha] at e
    cases e
    refine main (fun _ => none) (fun _ => .inl rfl) (.inr ⟨_, vs.toArray, _, hk, rfl, rfl, rfl, by rw [List.size_toArray, lenV]; exact hl, by simpa using rv⟩) (fun b u z => (nomatch (show (none : Option HO) = some u from z))) (fun b z => absurd rfl z) fun z => absurd rfl z
  | none =>
    have at_ : ∀ b, b ≠ a → (if b = a then some (HO.frz { cls := .type "list", data := .seq vs.toArray } (.lst (ns.map V.int))) else none) = none := fun b n => if_neg n
    refine main (fun b => if b = a then some (.frz { cls := .type "list", data := .seq vs.toArray } (.lst (ns.map V.int))) else none) (fun b => ?_) (.inl (.inr ⟨_, if_pos rfl⟩)) (fun b u z => ?_) (fun b z => ?_) fun _ => hk
    · by_cases n : b = a
      · exact .inr ⟨_, _, if_pos n⟩
      · exact .inl (at_ b n)
    · by_cases n : b = a
      · have z' := (if_pos n).symm.trans z
        cases z'
        subst n
        exact ⟨ha, by rw [List.length_map]; exact hl, vs, _, rv, ha⟩
      · have z' := (at_ b n).symm.trans z
        cases z'
    · by_cases n : b = a
      · exact n
      · exact absurd (at_ b n) z
theorem walk_cg {l : PySem.W.OpenLaw} {n k : Nat} {q : Program} {loose : List Str} {XP : (Str → Option Value) → Heap → Prop} {YP : World → Heap → Prop} {d : DefRec} {K : Params → PySem.W.Frag} {sp : World → Sp} {x : Str}
    (hn : l.most = some n) (hn2 : n ≤ sizeLine) (hdf : d.params.defaults = []) (hr : Room k callerA) (hY : ∀ (w : World) (h : Heap), YP w h → (K w.params).In h)
    (F : ∀ (w : World) (mg : Str → Option Value) (fa : Addr) (h : Heap), (K w.params).In h → h.Ns mainGlobals mg → mg d.name = some (.ref fa) → ∃ fd : FuncData, (∀ (s : Shared) (u : Value), BindsTo s fd ⟨[u], []⟩ [(x, u)]) ∧ ∀ base : Heap, (K w.params).In base → base.Ns mainGlobals mg → Gok l.prog w (K w.params) mg base k fa fd [x] (sp w))
    (hsp : ∀ (w : World) (H : Hp) (a : Addr) (ns : List Int), ns.length ≤ n → (∀ z ∈ ns, Builtin.Int.intBits z ≤ 1048576) → Only H → SqL (K w.params) H a (ns.map V.int) → sp w [.ref a] H (fun v _ => v = .bl true) fun _ _ _ => False) :
    PySem.W.WalkO q loose XP YP l.row.toRowW d [] (fun f vs => PySem.call f vs) := by
  refine Att.attach_callB hn hdf fun w s₀ s₁ mg mb fa o pm cd doc a vs ns G Y _ _ _ hmg hobj hints hlen hbits hgen => ?_
  have kin := hY w _ Y
  obtain ⟨fd, hb, hF⟩ := F w mg fa _ kin G.T.g hmg
  exact law_cg kin G.T.g G.T.b G.T.builtins G.T.nolimit hgen hobj hints (Nat.le_trans hlen hn2) hr hF hb fun H hO hS => hsp w H a ns hlen hbits hO hS
/-! what can be shown -/
/-- data whose text is short -/
structure Rp (n w : Nat) (d : PyData) : Prop where
  lay : d.canLay0 = true
  dep : d.depth ≤ n
  wei : d.weight ≤ w
  short : d.intsShort 13 = true
  show_ : d.showable = true
theorem Rp.mono {n m w v : Nat} {d : PyData} (h : Rp n w d) (h1 : n ≤ m) (h2 : w ≤ v) : Rp m v d := ⟨h.lay, Nat.le_trans h.dep h1, Nat.le_trans h.wei h2, h.short, h.show_⟩
theorem Rp.non : Rp 0 0 .none := ⟨by simp [PyData.canLay0], by simp [PyData.depth], by simp [PyData.weight], by simp [PyData.intsShort], by simp [PyData.showable]⟩
theorem Rp.int {i : Int} (h : i.natAbs < 10 ^ 12) : Rp 0 40 (.int i) := by
  have e : (10 : Nat) ^ 12 < 2 ^ 40 := by decide
  have h1 : i.natAbs = 0 ∨ i.natAbs.log2 < 40 := by
    by_cases z : i.natAbs = 0
    · exact .inl z
    · exact .inr ((Nat.log2_lt z).mpr (by omega))
  refine ⟨by simp [PyData.canLay0], by simp [PyData.depth], ?_, ?_, ?_⟩
  · rw [PyData.weight]
    split
    · omega
    · rename_i hz
      rcases h1 with z | z
      · exact absurd (by simpa using z) hz
      · omega
  · rw [PyData.intsShort, PyData.shown]
    exact decide_eq_true (by rw [PySem.ofString_length]; exact int_text_length_le10 (k := 12) (by decide) h)
  · rw [PyData.showable]
    rcases h1 with z | z
    · rw [z]; decide
    · exact decide_eq_true (by omega)
theorem Rp.facts : Rp 0 40 (.str "facts") := ⟨by decide +kernel, by simp [PyData.depth], by decide +kernel, by simp [PyData.intsShort], by simp [PyData.showable]⟩
theorem rpAll {n w : Nat} : ∀ {ds : List PyData}, (∀ d ∈ ds, Rp n w d) → PyData.canLayAll0 ds = true ∧ PyData.depthAll ds ≤ n ∧ PyData.weightAll ds ≤ ds.length * (w + 1) ∧ PyData.intsShortAll 13 ds = true ∧ PyData.showableAll ds = true
  | [], _ => by simp [PyData.canLayAll0, PyData.depthAll, PyData.weightAll, PyData.intsShortAll, PyData.showableAll]
  | d :: ds, h => by
    have a := h d List.mem_cons_self
    obtain ⟨b1, b2, b3, b4, b5⟩ := rpAll (ds := ds) fun x hx => h x (List.mem_cons_of_mem _ hx)
    refine ⟨by rw [PyData.canLayAll0, a.lay, b1]; rfl, ?_, ?_, by rw [PyData.intsShortAll, a.short, b4]; rfl, by rw [PyData.showableAll, a.show_, b5]; rfl⟩
    · rw [PyData.depthAll]
      exact Nat.max_le.mpr ⟨a.dep, b2⟩
    · have := a.wei
      rw [PyData.weightAll, List.length_cons, Nat.succ_mul]
      omega
theorem Rp.tup {n w : Nat} {ds : List PyData} (h : ∀ d ∈ ds, Rp n w d) : Rp (n + 1) (ds.length * (w + 1)) (.tuple ds) := by
  obtain ⟨b1, b2, b3, b4, b5⟩ := rpAll h
  exact ⟨by rw [PyData.canLay0]; exact b1, by rw [PyData.depth]; omega, by rw [PyData.weight]; exact b3, by rw [PyData.intsShort]; exact b4, by rw [PyData.showable]; exact b5⟩
theorem Rp.layable {n w : Nat} {d : PyData} (h : Rp n w d) (hn : n ≤ 20) (hw : w ≤ 1000000) : PyData.layable0 d = true := by
  have := h.dep; have := h.wei
  unfold PyData.layable0
  rw [h.lay, decide_eq_true (show d.depth ≤ 64 by omega), decide_eq_true (show d.weight ≤ 2 ^ 20 by omega)]; rfl
theorem i_repr {K : PySem.W.Frag} {H : Hp} {Q : VK} {v : V} {ds : List PyData} {n w : Nat} (h : Dp K H v (.tuple ds)) (r : Rp n w (.tuple ds)) (hn : n ≤ 20) (hw : w ≤ 1000000) (q : Q (.str (PyData.tuple ds).shown) H) : rReprD K [v] H Q := by
  have hl := r.layable hn hw
  have hz : (PyData.tuple ds).shown.length ≤ sizeLine := by
    have := shown_le13 hl r.short
    rw [sizeLine_eq]; omega
  cases h with
  | tup a b => exact ⟨_, _, rfl, .tup a b, hl, r.show_, hz, Nat.le_trans r.dep hn, q⟩
theorem i_reprS {K : PySem.W.Frag} {H : Hp} {Q : VK} {v : V} {d : PyData} {n w : Nat} (h : Dp K H v d) (r : Rp n w d) (hn : n ≤ 20) (hw : w ≤ 1000000) (ht : ∃ ds, d = .tuple ds) (q : ∀ s, s = d.shown → Q (.str s) H) : rReprD K [v] H Q := by
  obtain ⟨ds, rfl⟩ := ht
  exact i_repr h r hn hw (q _ rfl)
end Jp

namespace Law
open PySem PySem.Spec PyProof.Rows L2 Jp
/-! ### the walk's small steps -/
local macro_rules | `(tactic| wtm_at "jset") => `(tactic| (first | (simp only [wipe, List.map_cons, List.map_nil, List.set_cons_zero, List.set_cons_succ]; done) | (simp only [wipe, List.map_cons, List.map_nil, List.set_cons_zero, List.set_cons_succ]; exact rfl) | exact rfl))
local macro_rules | `(tactic| wtm_at "jw1") => `(tactic| first
  | ((with_reducible refine' i_var ?h ?_); (case h => exact rfl))
  | with_reducible refine' i_c ?_ | with_reducible refine' i_op ?_ | with_reducible refine' i_seq ?_ | with_reducible refine' i_asg ?_
  | ((with_reducible refine' i_gNameE ?e ?_); (case e => wtm_at "jset"))
  | with_reducible refine' i_ret ?_ | with_reducible refine' i_test ?_ | with_reducible refine' i_isb ?_
  | with_reducible refine' i_cons ?_ | with_reducible refine' i_nil ?_ | with_reducible refine' i_call ?_ | with_reducible refine' i_cb ?_
  | with_reducible refine' i_rI0 ?_ | ((with_reducible refine' i_rI ?c ?_); (case c => wtm_at "jside")) | with_reducible refine' i_rU ?_
  | with_reducible refine' i_eqI ?_ | with_reducible refine' i_neI ?_ | with_reducible refine' i_eqB ?_ | with_reducible refine' i_neB ?_ | with_reducible refine' i_eqS ?_ | with_reducible refine' i_neS ?_
  | with_reducible refine' i_isN ?_ | with_reducible refine' i_notN ?_
  | with_reducible refine' i_un ?_ | with_reducible refine' i_drop ?_ | with_reducible refine' i_retN ?_ | with_reducible refine' i_next ?_
  | ((with_reducible refine' i_ixL ?h ?e ?_); (case h => wtm_at "jsq"); (case e => wtm_at "jat"))
  | ((with_reducible refine' i_ixT ?h ?e ?_); (case h => wtm_at "jsq"); (case e => wtm_at "jat"))
  | ((with_reducible refine' i_ix1 (i_ixL ?h ?e ?_)); (case h => wtm_at "jsq"); (case e => wtm_at "jat"))
  | ((with_reducible refine' i_ix2 (i_ixT ?h ?e ?_)); (case h => wtm_at "jsq"); (case e => wtm_at "jat"))
  | with_reducible refine' i_gSub ?_
  | ((with_reducible refine' i_setL ?h ?e ?_); (case h => wtm_at "jhp"); (case e => wtm_at "jixn"))
  | ((with_reducible refine' i_gTup ?h ?e ?_); (case h => wtm_at "jsq"); (case e => rfl)) | with_reducible refine' i_gCons ?_ | with_reducible refine' i_gNil ?_
  | with_reducible refine' i_int ?_ | with_reducible refine' i_intB ?_ | with_reducible refine' i_abs ?_ | with_reducible refine' i_max2 ?_ | with_reducible refine' i_min2 ?_
  | ((with_reducible refine' i_lenL ?h ?_); (case h => wtm_at "jsq")) | ((with_reducible refine' i_lenT ?h ?_); (case h => wtm_at "jsq"))
  | ((with_reducible refine' i_tupL ?h ?_); (case h => wtm_at "jsq")) | ((with_reducible refine' i_lstL ?h ?_); (case h => wtm_at "jsq")) | ((with_reducible refine' i_lstT ?h ?_); (case h => wtm_at "jsq")) | ((with_reducible refine' i_tupT ?h ?_); (case h => wtm_at "jsq"))
  | ((with_reducible refine' i_new ?h ?_); (case h => wtm_at "jlen"))
  | with_reducible refine' i_tup ?_ | with_reducible refine' i_lst ?_ | with_reducible refine' i_if ?_ | with_reducible refine' i_andV ?_ | with_reducible refine' i_orV ?_ | with_reducible refine' i_notV ?_ | with_reducible refine' i_B ?_
  | with_reducible refine' i_and ?_ | with_reducible refine' i_or ?_ | with_reducible refine' i_not ?_ | with_reducible refine' i_break ?_ | with_reducible refine' i_cont ?_
  | ((with_reducible refine' i_augE ?h ?_); (case h => exact rfl)) | with_reducible refine' i_augS ?_ | with_reducible refine' i_ipI ?_
  | with_reducible refine' i_for ?_ | with_reducible refine' i_iList ?_ | with_reducible refine' i_iTup ?_ | ((with_reducible refine' i_isL ?h ?_); (case h => wtm_at "jsq")) | ((with_reducible refine' i_isT ?h ?_); (case h => wtm_at "jsq"))
  | with_reducible refine' i_rng1 ?_ | with_reducible refine' i_rng2 ?_
  | ((with_reducible refine' i_isR1 ?h1 ?h2 ?_); (case h1 => wtm_at "jside"); (case h2 => wtm_at "jside"))
  | ((with_reducible refine' i_isR2 ?h1 ?h2 ?h3 ?h4 ?_); (case h1 => wtm_at "jside"); (case h2 => wtm_at "jside"); (case h3 => wtm_at "jside"); (case h4 => wtm_at "jside"))
  | ((with_reducible refine' i_lc ?e ?_); (case e => wtm_at "jset"))
  | with_reducible refine' i_yes ?_ | with_reducible refine' i_sl ?_ | with_reducible refine' i_par ?_ | with_reducible refine' i_two ?_ | with_reducible refine' i_noPart ?_ | with_reducible refine' i_part ?_ | with_reducible refine' i_isI ?_
  | with_reducible refine' i_bm ?_ | with_reducible refine' i_bm0 ?_ | ((with_reducible refine' i_tyL ?h ?_); (case h => wtm_at "jsq"))
  | ((with_reducible refine' i_app ?h ?e ?_); (case h => wtm_at "jhp"); (case e => wtm_at "jsmall"))
  | with_reducible refine' i_chain ?_ | ((with_reducible refine' i_cat ?h1 ?h2 ?e ?_); (case h1 => wtm_at "jhp"); (case h2 => wtm_at "jhp"); (case e => wtm_at "jlen"))
  | with_reducible refine iteT ?_ | with_reducible refine iteF ?_ | with_reducible refine' c_nt ?_ | with_reducible refine' c_nf ?_)
local macro_rules | `(tactic| wtm_at "js") => `(tactic| repeat (wtm_at "jw1"))
local macro_rules | `(tactic| wtm_at "jw") => `(tactic| repeat (first | wtm_at "jw1" | with_reducible refine' i_ifS ?_))
local macro_rules | `(tactic| wtm_at "jlen") => `(tactic| first | decide | (simp [sizeLine]; done) | omega)
/- a condition of an operation -/
local macro_rules | `(tactic| wtm_at "jside") => `(tactic| first | with_reducible assumption | omega | decide | (simp only [List.length_map]; omega) | (refine Or.inl ?_; decide) | (refine Or.inr ?_; decide) | (refine ⟨?_, ?_⟩ <;> omega) | (refine Or.inl ?_; constructor <;> omega) | (refine Or.inr ?_; constructor <;> omega) | (refine ⟨by decide, by decide, by decide⟩) | (with_reducible refine wide_div ?_ (b := 64) ?_ ?_ ?_ <;> first | omega | decide))
/- H p = some o -/
local macro_rules | `(tactic| wtm_at "jhp") => `(tactic| first | assumption | with_reducible exact upd_same | ((with_reducible refine' Eq.trans (upd_ne ?hne) ?hgo); (case hne => wtm_at "jne"); (case hgo => wtm_at "jhp")))
local macro_rules | `(tactic| wtm_at "jne") => `(tactic| first | assumption | (refine Ne.symm ?_; assumption) | (refine ne_of_none (by assumption) (by assumption)) | (refine (ne_of_none (by assumption) (by assumption)).symm))
local macro_rules | `(tactic| wtm_at "jsq") => `(tactic| first | assumption | ((with_reducible refine' SqL.of ?hh); (case hh => wtm_at "jhp")) | ((with_reducible refine' SqT.of ?hh); (case hh => wtm_at "jhp")) | ((with_reducible refine' Same.seq (same_new ?hn) ?hh); (case hn => assumption); (case hh => wtm_at "jsq")) | ((with_reducible refine' Same.tup (same_new ?hn) ?hh); (case hn => assumption); (case hh => wtm_at "jsq")))
/- the item at a place -/
local macro_rules | `(tactic| wtm_at "jat") => `(tactic| first | exact rfl | assumption)
local macro_rules | `(tactic| wtm_at "jixn") => `(tactic| first | exact rfl | assumption)
local macro_rules | `(tactic| wtm_at "jsmall") => `(tactic| first | assumption | exact small1000 (by first | assumption | omega | (simp; done) | (simp; omega)))

def top (i : Nat) : Stmt := PySem.Challenge.pw_judgedplay_k38_presence.main.body.getD i (.Pass ⟨0, 0, 0, 0⟩)
abbrev s__law_begin : Stmt := top 10
abbrev N__law_begin : List Str := ["script", "cell"]
theorem sc__law_begin : FnScope N__law_begin ["script"] (defScope s__law_begin) := ⟨rfl, rfl, rfl, by decide +kernel, rfl, by decide +kernel, by decide +kernel⟩
abbrev s__law_draw : Stmt := top 11
abbrev N__law_draw : List Str := ["d", "many", "found", "size", "cell"]
theorem sc__law_draw : FnScope N__law_draw ["d", "many"] (defScope s__law_draw) := ⟨rfl, rfl, rfl, by decide +kernel, rfl, by decide +kernel, by decide +kernel⟩
abbrev s__law_shuffled : Stmt := top 13
abbrev N__law_shuffled : List Str := ["d", "row", "left", "found", "k"]
theorem sc__law_shuffled : FnScope N__law_shuffled ["d", "row"] (defScope s__law_shuffled) := ⟨rfl, rfl, rfl, by decide +kernel, rfl, by decide +kernel, by decide +kernel⟩
abbrev s__law_pick : Stmt := top 12
abbrev N__law_pick : List Str := ["d", "row"]
theorem sc__law_pick : FnScope N__law_pick ["d", "row"] (defScope s__law_pick) := ⟨rfl, rfl, rfl, by decide +kernel, rfl, by decide +kernel, by decide +kernel⟩
abbrev s__law_begun : Stmt := top 19
abbrev N__law_begun : List Str := ["d", "seats", "begin", "seat", "sure"]
theorem sc__law_begun : FnScope N__law_begun ["d", "seats"] (defScope s__law_begun) := ⟨rfl, rfl, rfl, by decide +kernel, rfl, by decide +kernel, by decide +kernel⟩
abbrev s_first_facts : Stmt := top 4
abbrev N_first_facts : List Str := ["begin", "entered", "flag"]
theorem sc_first_facts : FnScope N_first_facts ["begin"] (defScope s_first_facts) := ⟨rfl, rfl, rfl, by decide +kernel, rfl, by decide +kernel, by decide +kernel⟩
abbrev s__law_present : Stmt := top 15
abbrev N__law_present : List Str := ["entered", "gone", "tick", "found", "seat"]
theorem sc__law_present : FnScope N__law_present ["entered", "gone", "tick"] (defScope s__law_present) := ⟨rfl, rfl, rfl, by decide +kernel, rfl, by decide +kernel, by decide +kernel⟩
abbrev s__law_order_counts : Stmt := top 16
abbrev N__law_order_counts : List Str := ["order", "patches", "entered"]
theorem sc__law_order_counts : FnScope N__law_order_counts ["order", "patches", "entered"] (defScope s__law_order_counts) := ⟨rfl, rfl, rfl, by decide +kernel, rfl, by decide +kernel, by decide +kernel⟩
abbrev s__law_take_order : Stmt := top 17
abbrev N__law_take_order : List Str := ["word", "many", "patches", "hold", "tick", "entered", "forces", "order"]
theorem sc__law_take_order : FnScope N__law_take_order ["word", "many", "patches", "hold", "tick", "entered", "forces"] (defScope s__law_take_order) := ⟨rfl, rfl, rfl, by decide +kernel, rfl, by decide +kernel, by decide +kernel⟩
abbrev s__law_past : Stmt := top 21
abbrev N__law_past : List Str := ["d", "begin", "holding", "ticks", "entered", "flag", "gone", "forces", "rate", "tick", "seat", "wish"]
theorem sc__law_past : FnScope N__law_past ["d", "begin", "holding", "ticks"] (defScope s__law_past) := ⟨rfl, rfl, rfl, by decide +kernel, rfl, by decide +kernel, by decide +kernel⟩
abbrev s__law_force : Stmt := top 18
abbrev N__law_force : List Str := ["forces", "tick", "force", "start", "order"]
theorem sc__law_force : FnScope N__law_force ["forces", "tick"] (defScope s__law_force) := ⟨rfl, rfl, rfl, by decide +kernel, rfl, by decide +kernel, by decide +kernel⟩
abbrev s__law_behind : Stmt := top 20
abbrev N__law_behind : List Str := ["past", "holding", "tick", "entered", "one", "gone", "pending", "row", "seat", "start"]
theorem sc__law_behind : FnScope N__law_behind ["past", "holding", "tick"] (defScope s__law_behind) := ⟨rfl, rfl, rfl, by decide +kernel, rfl, by decide +kernel, by decide +kernel⟩
abbrev s__law_here : Stmt := top 22
abbrev N__law_here : List Str := ["facts", "tick", "found", "seat", "entry", "start", "wish", "left"]
theorem sc__law_here : FnScope N__law_here ["facts", "tick"] (defScope s__law_here) := ⟨rfl, rfl, rfl, by decide +kernel, rfl, by decide +kernel, by decide +kernel⟩
abbrev s_entry_of : Stmt := top 2
abbrev N_entry_of : List Str := ["order"]
theorem sc_entry_of : FnScope N_entry_of ["order"] (defScope s_entry_of) := ⟨rfl, rfl, rfl, by decide +kernel, rfl, by decide +kernel, by decide +kernel⟩
abbrev s_entry_tick : Stmt := top 5
abbrev N_entry_tick : List Str := ["facts", "seat", "tick", "order"]
theorem sc_entry_tick : FnScope N_entry_tick ["facts", "seat"] (defScope s_entry_tick) := ⟨rfl, rfl, rfl, by decide +kernel, rfl, by decide +kernel, by decide +kernel⟩
abbrev s_is_present : Stmt := top 6
abbrev N_is_present : List Str := ["facts", "seat", "tick", "entry"]
theorem sc_is_present : FnScope N_is_present ["facts", "seat", "tick"] (defScope s_is_present) := ⟨rfl, rfl, rfl, by decide +kernel, rfl, by decide +kernel, by decide +kernel⟩
abbrev s_present_at : Stmt := top 7
abbrev N_present_at : List Str := ["facts", "tick", "seat"]
theorem sc_present_at : FnScope N_present_at ["facts", "tick"] (defScope s_present_at) := ⟨rfl, rfl, rfl, by decide +kernel, rfl, by decide +kernel, by decide +kernel⟩
abbrev s_speaker_at : Stmt := top 8
abbrev N_speaker_at : List Str := ["facts", "tick", "seat"]
theorem sc_speaker_at : FnScope N_speaker_at ["facts", "tick"] (defScope s_speaker_at) := ⟨rfl, rfl, rfl, by decide +kernel, rfl, by decide +kernel, by decide +kernel⟩
abbrev s__law_is_int : Stmt := top 14
abbrev N__law_is_int : List Str := ["thing"]
theorem sc__law_is_int : FnScope N__law_is_int ["thing"] (defScope s__law_is_int) := ⟨rfl, rfl, rfl, by decide +kernel, rfl, by decide +kernel, by decide +kernel⟩
abbrev s__law_is_asked : Stmt := top 23
abbrev N__law_is_asked : List Str := ["facts", "tick", "due", "told", "first"]
theorem sc__law_is_asked : FnScope N__law_is_asked ["facts", "tick"] (defScope s__law_is_asked) := ⟨rfl, rfl, rfl, by decide +kernel, rfl, by decide +kernel, by decide +kernel⟩
abbrev s_law : Stmt := top 24
abbrev N_law : List Str := ["script", "d", "pair", "turn", "seats", "holding", "begin", "due", "flag", "told", "ticks", "past", "tick", "facts"]
theorem sc_law : FnScope N_law ["script"] (defScope s_law) := ⟨rfl, rfl, rfl, by decide +kernel, rfl, by decide +kernel, by decide +kernel⟩
/-- what the text's top has: built-ins that are still so, constants -/
structure Txt (mg : Str → Option Value) : Prop where
  b_int : mg "int" = none
  b_len : mg "len" = none
  b_abs : mg "abs" = none
  b_list : mg "list" = none
  b_range : mg "range" = none
  b_tuple : mg "tuple" = none
  b_sorted : mg "sorted" = none
  b_isinstance : mg "isinstance" = none
  b_bool : mg "bool" = none
  b_repr : mg "repr" = none
  c_FIRST_ENTRY : Cn mg "FIRST_ENTRY" (.int 4)
/-! ### the draws -/
/-- a row of draws stands at p, its cells at a -/
def DrawAt (H : Hp) (p a : Addr) : Prop := ∃ (ns : List Int) (pos pend seed : Int), H p = some (.lst [.ref a, .int pos, .int pend, .int seed]) ∧ H a = some (.lst (ns.map V.int)) ∧ a ≠ p ∧ 0 ≤ pos
theorem DrawAt.same {H H' : Hp} {p a : Addr} (d : DrawAt H p a) (s : Same H H') : DrawAt H' p a := by
  obtain ⟨ns, pos, pend, seed, h1, h2, h3, h4⟩ := d
  exact ⟨ns, pos, pend, seed, s _ _ h1, s _ _ h2, h3, h4⟩
/-- behind draws: the row stands, all else is as it was -/
structure Drew (p a : Addr) (H H' : Hp) : Prop where
  at_ : DrawAt H' p a
  kp : Kp p H H'
theorem Drew.trans {p a : Addr} {H H1 H2 : Hp} (x : Drew p a H H1) (y : Drew p a H1 H2) : Drew p a H H2 := ⟨y.at_, x.kp.trans y.kp⟩
theorem Drew.new {p a q : Addr} {H H1 : Hp} {o : HO} (x : Drew p a H H1) (h : H1 q = none) : Drew p a H (upd H1 q o) := ⟨x.at_.same (same_new h), x.kp.trans (.of (same_new h))⟩
theorem Drew.same {p a : Addr} {H H1 H2 : Hp} (x : Drew p a H H1) (s : Same H1 H2) : Drew p a H H2 := ⟨x.at_.same s, x.kp.trans (.of s)⟩
theorem DrawAt.drew {p a : Addr} {H : Hp} (d : DrawAt H p a) : Drew p a H H := ⟨d, Kp.refl⟩
theorem DrawAt.some {H : Hp} {p a : Addr} (d : DrawAt H p a) : ∃ xs, H p = some (.lst xs) := by
  obtain ⟨ns, pos, pend, seed, h1, _⟩ := d
  exact ⟨_, h1⟩
theorem DrawAt.ne_none {H : Hp} {p a q : Addr} (d : DrawAt H p a) (h : H q = none) : q ≠ p := by
  obtain ⟨xs, e⟩ := d.some
  exact (ne_of_none e h).symm
theorem DrawAt.ne_noneA {H : Hp} {p a q : Addr} (d : DrawAt H p a) (h : H q = none) : q ≠ a := by
  obtain ⟨ns, pos, pend, seed, _, h1, _⟩ := d
  exact (ne_of_none h1 h).symm
theorem Drew.free {p a q : Addr} {H H' : Hp} (w : Drew p a H H') (h : H' q = none) : H q = none := by
  cases e : H q with
  | none => rfl
  | some o =>
    by_cases hq : q = p
    · obtain ⟨xs, e'⟩ := w.at_.some
      rw [hq, e'] at h; cases h
    · rw [w.kp _ _ e hq] at h; cases h
/-- a thing of our own, made behind H, is written -/
theorem Drew.put {p a q : Addr} {H H1 : Hp} {o : HO} (x : Drew p a H H1) (d : DrawAt H p a) (h : H q = none) : Drew p a H (upd H1 q o) := by
  have n1 := d.ne_none h
  have n2 := d.ne_noneA h
  obtain ⟨ns, pos, pend, seed, h1, h2, h3, h4⟩ := x.at_
  refine ⟨⟨ns, pos, pend, seed, by rw [upd_ne n1.symm]; exact h1, by rw [upd_ne n2.symm]; exact h2, h3, h4⟩, fun b u hb hne => ?_⟩
  rw [upd_ne (ne_of_none hb h)]
  exact x.kp _ _ hb hne
theorem Drew.tps {p a : Addr} {H H' : Hp} (w : Drew p a H H') (d : DrawAt H p a) : Tps H H' := by
  obtain ⟨xs, e⟩ := d.some
  exact w.kp.tps e
def sp__law_begin (K : PySem.W.Frag) : Sp := fun vs H Q _ => ∃ (a : Addr) (ns : List Int), vs = [.ref a] ∧ SqL K H a (ns.map V.int) ∧ ns.length ≤ 63 ∧
  ∀ (p c : Addr) (H' : Hp), Same H H' → H p = none → H c = none → DrawAt H' p c → Q (.ref p) H'
theorem ok__law_begin {P : Program} {w : World} {K : PySem.W.Frag} {mg : Str → Option Value} {base : Heap} {f : Addr} {fd : FuncData} (F : Df K mg "_law_begin" s__law_begin f fd ["script"]) (T : Txt mg) : FnOk P w K mg base CX0 1 f fd ["script"] (sp__law_begin K) := by
  refine F.ok sc__law_begin (fun vs H Q E h => ?_) (fun cdv A outer s H vs Q E hr h => ?_)
  · obtain ⟨a, ns, rfl, _⟩ := h
    rfl
  · obtain ⟨a, ns, rfl, hS, hl, k⟩ := h
    refine ⟨_, (pss_one (ps_ret (pe_lst (pa_cons (pe_lc (own := [("cell", 1)]) (g := gName 1) (tt := tYes) rfl sc__law_begin.nd (pi_list (pv 0)) (blkOk_by (own := [("cell", 1)]) (N := N__law_begin) (sc := defScope s__law_begin) (by decide +kernel)) (fun _ _ _ _ _ => (pg_name (i := 1) sc__law_begin.nd rfl (Or.inl rfl))) (fun _ _ _ _ _ => pts_nil) (fun _ _ _ _ _ => (pe_callTy (T := "int") c_int (by rfl) T.b_int (by decide +kernel) (pa_cons (pv 1) pa_nil)))) (pa_cons pe_int (pa_cons pe_int (pa_cons pe_int pa_nil))))))), ?_⟩
    try dsimp only [cxOf, Cx.nox, Cx.wish]
    refine st_of (σ' := [some _, none]) rfl ?_
    wtm_at "jw"
    intro D hD
    refine l_list (xs := ns.map V.int) (fun i H1 => Same H H1 ∧ H1 D = some (.lst ((ns.take i).map V.int))) ⟨same_new hD, upd_same⟩ (fun i H1 _ h => h.1.seq hS) (fun i x H1 hi h => ?_) (fun H1 h => ?_)
    · obtain ⟨s1, h1⟩ := h
      rw [List.getElem?_map] at hi
      cases e : ns[i]? with
      | none => rw [e] at hi; cases hi
      | some z =>
        rw [e] at hi
        cases hi
        have hlt : i < ns.length := (List.getElem?_eq_some_iff.mp e).1
        wtm_at "jw"
        refine ⟨rfl, ?_⟩
        wtm_at "jw"
        refine ⟨_, h1, small1000 (by rw [List.length_map, List.length_take]; omega), ?_, ?_⟩
        · intro b o hb
          have hne : b ≠ D := ne_of_none hb hD
          rw [upd_ne hne]
          exact s1 _ _ hb
        · rw [upd_same, List.take_add_one, e, List.map_append]
          rfl
    · obtain ⟨s1, h1⟩ := h
      rw [List.length_map, List.take_length] at h1
      wtm_at "jw"
      intro p hp
      have hne : D ≠ p := ne_of_none h1 hp
      refine k p D _ (fun b o hb => ?_) (s1.free hp) hD ⟨ns, 0, 0, 11, upd_same, by rw [upd_ne hne]; exact h1, hne, by decide⟩
      rw [upd_ne (ne_of_none (s1 _ _ hb) hp)]
      exact s1 _ _ hb
def sp__law_draw (K : PySem.W.Frag) : Sp := fun vs H Q _ => ∃ (p a : Addr) (many : Int), vs = [.ref p, .int many] ∧ DrawAt H p a ∧ 0 < many ∧ many < 18446744073709551616 ∧
  ∀ (r : Int) (H' : Hp), 0 ≤ r → r < many → Drew p a H H' → Q (.int r) H'
theorem ok__law_draw {P : Program} {w : World} {K : PySem.W.Frag} {mg : Str → Option Value} {base : Heap} {f : Addr} {fd : FuncData} (F : Df K mg "_law_draw" s__law_draw f fd ["d", "many"]) (T : Txt mg) : FnOk P w K mg base CX0 1 f fd ["d", "many"] (sp__law_draw K) := by
  refine F.ok sc__law_draw (fun vs H Q E h => ?_) (fun cdv A outer s H vs Q E hr h => ?_)
  · obtain ⟨p, a, m, rfl, _⟩ := h
    rfl
  · obtain ⟨p, a, m, rfl, ⟨ns, pos, pend, seed, hp, ha, nap, h0⟩, hm0, hm1, k⟩ := h
    have fin : ∀ (z : Int) (pos' pend' seed' : Int) (H' : Hp), 0 ≤ pos' → H' p = some (.lst [.ref a, .int pos', .int pend', .int seed']) → Kp p H H' → Q (.int (z % m)) H' := fun z pos' pend' seed' H' hp' h1 h2 =>
      k _ _ (Int.emod_nonneg _ (by omega)) (Int.emod_lt_of_pos _ hm0) ⟨⟨ns, pos', pend', seed', h1, h2 _ _ ha nap, nap, hp'⟩, h2⟩
    refine ⟨_, (pss_cons (ps_if (pt_cmpR op_gt (pe_ix (r := rIxL K) ix_list (pv 0) pe_int (fun _ _ => rfl)) pe_int (nomark _)) (pss_cons (ps_set (i := 2) sc__law_draw.nd rfl (Or.inl rfl) (pe_ix (r := rIxL K) ix_list (pv 0) pe_int (fun _ _ => rfl)))
      (pss_cons (ps_asg (pe_op op_fdivW (pv 2) (pv 1)) (pg_sub (pv 0) pe_int set_list))
      (pss_one (ps_ret (pe_op op_mod (pe_callTy (T := "int") c_int (by rfl) T.b_int (by decide +kernel) (pa_cons (pv 2) pa_nil)) (pv 1)))))) pss_nil)
      (pss_cons (ps_set (i := 3) sc__law_draw.nd rfl (Or.inl rfl) pe_int)
      (pss_cons (ps_if (pt_cmpR op_lt (pe_ix (r := rIxL K) ix_list (pv 0) pe_int (fun _ _ => rfl)) (pe_callB (id := "len") (r := qLen K) c_len (by rfl) T.b_len (by decide +kernel) (pa_cons (pe_ix (r := rIxL K) ix_list (pv 0) pe_int (fun _ _ => rfl)) pa_nil)) (nomark _)) (pss_cons (ps_set (i := 4) sc__law_draw.nd rfl (Or.inl rfl) (pe_ix (r := rIx K) ix_seq (pe_ix (r := rIxL K) ix_list (pv 0) pe_int (fun _ _ => rfl)) (pe_ix (r := rIxL K) ix_list (pv 0) pe_int (fun _ _ => rfl)) (fun _ _ => rfl)))
      (pss_one (ps_set (i := 3) sc__law_draw.nd rfl (Or.inl rfl) (pe_op op_add (pe_op op_mul pe_int (pe_callB (id := "abs") c_abs (by rfl) T.b_abs (by decide +kernel) (pa_cons (pv 4) pa_nil))) (pe_callTy (T := "int") c_int (by rfl) T.b_int (by decide +kernel) (pa_cons (pe_cmpR op_lt (pv 4) pe_int (nomark _)) pa_nil)))))) pss_nil)
      (pss_cons (ps_augS (pv 0) pe_int get_list pe_int iop_add set_list)
      (pss_cons (ps_if (pt_cmpR op_ge (pv 3) (pe_op op_mul pe_int (pe_op op_pow pe_int pe_int)) (nomark _)) (pss_cons (ps_set (i := 2) sc__law_draw.nd rfl (Or.inl rfl) (pe_op op_mod (pe_callTy (T := "int") c_int (by rfl) T.b_int (by decide +kernel) (pa_cons (pe_op op_fdiv (pv 3) pe_int) pa_nil)) (pe_op op_shl pe_int pe_int)))
      (pss_cons (ps_asg (pe_op op_fdivW (pv 2) (pv 1)) (pg_sub (pv 0) pe_int set_list))
      (pss_one (ps_ret (pe_op op_mod (pe_callTy (T := "int") c_int (by rfl) T.b_int (by decide +kernel) (pa_cons (pv 2) pa_nil)) (pv 1)))))) pss_nil)
      (pss_cons (ps_asg (pe_op op_mod (pe_callTy (T := "int") c_int (by rfl) T.b_int (by decide +kernel) (pa_cons (pe_op op_add (pe_op op_add (pe_op op_add (pe_op op_mul (pe_ix (r := rIxL K) ix_list (pv 0) pe_int (fun _ _ => rfl)) pe_int) (pe_op op_mul (pe_op op_mod (pe_callTy (T := "int") c_int (by rfl) T.b_int (by decide +kernel) (pa_cons (pv 3) pa_nil)) pe_int) pe_int)) (pe_op op_mul (pe_ix (r := rIxL K) ix_list (pv 0) pe_int (fun _ _ => rfl)) pe_int)) pe_int) pa_nil)) pe_int) (pg_sub (pv 0) pe_int set_list))
      (pss_one (ps_ret (pe_op op_mod (pe_callTy (T := "int") c_int (by rfl) T.b_int (by decide +kernel) (pa_cons (pe_op op_fdiv (pe_ix (r := rIxL K) ix_list (pv 0) pe_int (fun _ _ => rfl)) pe_int) pa_nil)) (pv 1)))))))))), ?_⟩
    try dsimp only [cxOf, Cx.nox, Cx.wish]
    refine st_of (σ' := [some _, some _, none, none, none]) rfl ?_
    wtm_at "jw"
    refine c_dec (fun h => ?_) (fun h => ?_)
    · wtm_at "jw"
      exact fin _ _ _ _ _ h0 upd_same Kp.upd
    · wtm_at "jw"
      refine c_dec (fun h1 => ?_) (fun h1 => ?_)
      · obtain ⟨c, hc⟩ : ∃ c : Int, atI (ns.map V.int) pos = some (.int c) := by
          obtain ⟨v, e, hv, _⟩ := at_lt (xs := ns.map V.int) h0 h1
          obtain ⟨z, _, rfl⟩ := List.mem_map.mp hv
          exact ⟨z, e⟩
        wtm_at "jw"
        refine c_dec (fun h2 => ?_) (fun h2 => ?_)
        · wtm_at "jw"
          exact fin _ (pos + 1) _ _ _ (by omega) upd_same (Kp.upd.trans Kp.upd)
        · wtm_at "jw"
          exact fin _ (pos + 1) _ _ _ (by omega) upd_same (Kp.upd.trans Kp.upd)
      · wtm_at "jw"
        refine c_dec (fun h2 => ?_) (fun h2 => ?_)
        · wtm_at "jw"
          exact fin _ (pos + 1) _ _ _ (by omega) upd_same (Kp.upd.trans Kp.upd)
        · wtm_at "jw"
          exact fin _ (pos + 1) _ _ _ (by omega) upd_same (Kp.upd.trans Kp.upd)

def sp__law_pick (K : PySem.W.Frag) : Sp := fun vs H Q _ => ∃ (p a b : Addr) (xs : List V), vs = [.ref p, .ref b] ∧ DrawAt H p a ∧ ((b ≠ p ∧ SqL K H b xs) ∨ SqT K H b xs) ∧ 0 < xs.length ∧ xs.length < 1073741824 ∧
  ∀ (x : V) (H' : Hp), x ∈ xs → Drew p a H H' → Q x H'
theorem ok__law_pick {P : Program} {w : World} {K : PySem.W.Frag} {mg : Str → Option Value} {base : Heap} {f : Addr} {fd : FuncData} (F : Df K mg "_law_pick" s__law_pick f fd ["d", "row"]) (T : Txt mg)
    (c__law_draw : Cl P w K mg base 1 "_law_draw" (sp__law_draw K)) : FnOk P w K mg base CX0 2 f fd ["d", "row"] (sp__law_pick K) := by
  refine F.ok sc__law_pick (fun vs H Q E h => ?_) (fun cdv A outer s H vs Q E hr h => ?_)
  · obtain ⟨p, a, b, xs, rfl, _⟩ := h
    rfl
  · obtain ⟨p, a, b, xs, rfl, hd, hb, hl0, hl1, k⟩ := h
    refine ⟨_, (pss_one (ps_ret (pe_ix (r := rIx K) ix_seq (pv 1) (pe_cl c__law_draw hr (by decide) rfl (pa_cons (pv 0) (pa_cons (pe_callB (id := "len") (r := qLen K) c_len (by rfl) T.b_len (by decide +kernel) (pa_cons (pv 1) pa_nil)) pa_nil))) (fun _ _ => rfl)))), ?_⟩
    try dsimp only [cxOf, Cx.nox, Cx.wish]
    refine st_of (σ' := [some _, some _]) rfl ?_
    rcases hb with ⟨nb, hb⟩ | hb
    all_goals
      wtm_at "jw"
      refine ⟨p, a, _, rfl, hd, by omega, by omega, fun r H' hr0 hr1 w => ?_⟩
      obtain ⟨v, e, hv, _⟩ := at_lt hr0 hr1
    · have hb' := w.kp.seq hb nb
      wtm_at "jw"
      exact k _ _ hv w
    · have hb' := (w.tps hd).sq hb
      wtm_at "jw"
      exact k _ _ hv w

def sp__law_shuffled (K : PySem.W.Frag) : Sp := fun vs H Q _ => ∃ (p a b : Addr) (xs : List V), vs = [.ref p, .ref b] ∧ DrawAt H p a ∧ (SqL K H b xs ∨ SqT K H b xs) ∧ xs.length ≤ 1000 ∧
  ∀ (q : Addr) (ys : List V) (H' : Hp), Drew p a H H' → H q = none → H' q = some (.lst ys) → ys.Perm xs → Q (.ref q) H'
theorem ok__law_shuffled {P : Program} {w : World} {K : PySem.W.Frag} {mg : Str → Option Value} {base : Heap} {f : Addr} {fd : FuncData} (F : Df K mg "_law_shuffled" s__law_shuffled f fd ["d", "row"]) (T : Txt mg)
    (c__law_draw : Cl P w K mg base 1 "_law_draw" (sp__law_draw K)) : FnOk P w K mg base CX0 2 f fd ["d", "row"] (sp__law_shuffled K) := by
  refine F.ok sc__law_shuffled (fun vs H Q E h => ?_) (fun cdv A outer s H vs Q E hr h => ?_)
  · obtain ⟨p, a, b, xs, rfl, _⟩ := h
    rfl
  · obtain ⟨p, a, b, xs, rfl, hd, hb, hl, k⟩ := h
    refine ⟨_, (pss_cons (ps_set (i := 2) sc__law_shuffled.nd rfl (Or.inl rfl) (pe_callTy (T := "list") (r := rLstOf K) c_lst (by rfl) T.b_list (by decide +kernel) (pa_cons (pv 1) pa_nil)))
      (pss_cons (ps_set (i := 3) sc__law_shuffled.nd rfl (Or.inl rfl) (pe_lst pa_nil))
      (pss_cons (ps_for PassesOwn.never rfl (pi_range1 rfl T.b_range (pa_cons (pe_callB (id := "len") (r := qLen K) c_len (by rfl) T.b_len (by decide +kernel) (pa_cons (pv 2) pa_nil)) pa_nil)) (pg_name (i := 4) sc__law_shuffled.nd rfl (Or.inl rfl)) (pss_one (ps_expr (pe_bmK (K := K) rfl PySem.F.plainAttrs_list PySem.F.slot_list_append PySem.F.type_list_append mt_append (pv 3) (pa_cons (pe_bmK (K := K) rfl PySem.F.plainAttrs_list PySem.F.slot_list_pop PySem.F.type_list_pop mt_popAt (pv 2) (pa_cons (pe_cl c__law_draw hr (by decide) rfl (pa_cons (pv 0) (pa_cons (pe_callB (id := "len") (r := qLen K) c_len (by rfl) T.b_len (by decide +kernel) (pa_cons (pv 2) pa_nil)) pa_nil))) pa_nil)) pa_nil)))))
      (pss_one (ps_ret (pv 3)))))), ?_⟩
    try dsimp only [cxOf, Cx.nox, Cx.wish]
    refine st_of (σ' := [some _, some _, none, none, none]) rfl ?_
    wtm_at "js"
    refine ⟨b, xs, rfl, hb, fun L hL => ?_⟩
    wtm_at "js"
    intro D hD
    have nLD : L ≠ D := by
      intro e
      rw [e, upd_same] at hD
      cases hD
    have hD0 : H D = none := by rw [upd_ne nLD.symm] at hD; exact hD
    wtm_at "js"
    have d0 : Drew p a H (upd (upd H L (.lst xs)) D (.lst [])) := (hd.drew.new hL).put hd hD0
    refine f_range (fun i σ H' => ∃ (v : Option V) (us ws : List V), σ = [some (.ref p), some (.ref b), some (.ref L), some (.ref D), v] ∧ Drew p a H H' ∧ H' L = some (.lst us) ∧ H' D = some (.lst ws) ∧ (ws ++ us).Perm xs ∧ ws.length = i) ⟨none, xs, [], rfl, d0, by rw [upd_ne nLD]; exact upd_same, upd_same, List.Perm.refl _, rfl⟩ (fun i σ H' hi h => ?_) (fun σ H' h => ?_)
    · obtain ⟨v, us, ws, rfl, d1, hL1, hD1, hp, hw⟩ := h
      have hlen : ws.length + us.length = xs.length := by
        have := hp.length_eq
        rw [List.length_append] at this
        exact this
      have hi' : i < xs.length := by omega
      wtm_at "js"
      refine ⟨p, a, _, rfl, d1.at_, by omega, by omega, fun r H2 r0 r1 d2 => ?_⟩
      have nLp : L ≠ p := hd.ne_none hL
      have nDp : D ≠ p := hd.ne_none hD0
      have hL2 := d2.kp _ _ hL1 nLp
      have hD2 := d2.kp _ _ hD1 nDp
      have hrl : r.toNat < us.length := by omega
      wtm_at "js"
      refine i_popAt hL2 r0 r1 (by omega) (List.getElem?_eq_getElem hrl) ?_
      have d3 := (d1.trans d2).put (o := .lst (us.eraseIdx r.toNat)) hd hL
      have hD3 : (upd H2 L (.lst (us.eraseIdx r.toNat))) D = some (.lst ws) := by rw [upd_ne nLD.symm]; exact hD2
      have hws : ws.length < sizeLine := small1000 (by omega)
      wtm_at "js"
      refine ⟨_, us.eraseIdx r.toNat, ws ++ [us[r.toNat]], rfl, d3.put hd hD0, by rw [upd_ne nLD, upd_same], upd_same, ?_, by simp [hw]⟩
      have e : (us[r.toNat] :: us.eraseIdx r.toNat).Perm us := perm_erase us _ hrl
      rw [List.append_assoc]
      exact ((List.Perm.refl ws).append e).trans hp
    · obtain ⟨v, us, ws, rfl, d1, hL1, hD1, hp, hw⟩ := h
      have hlen := hp.length_eq
      rw [List.length_append] at hlen
      have hus : us = [] := List.eq_nil_of_length_eq_zero (by omega)
      rw [hus, List.append_nil] at hp
      wtm_at "js"
      exact k D ws _ d1 hD0 hD1 hp

def sp__law_is_int (K : PySem.W.Frag) : Sp := fun vs H Q _ => ∃ (i : Int), vs = [.int i] ∧ Q (.bl true) H
theorem ok__law_is_int {P : Program} {w : World} {K : PySem.W.Frag} {mg : Str → Option Value} {base : Heap} {f : Addr} {fd : FuncData} (F : Df K mg "_law_is_int" s__law_is_int f fd ["thing"]) (T : Txt mg) : FnOk P w K mg base CX0 1 f fd ["thing"] (sp__law_is_int K) := by
  refine F.ok sc__law_is_int (fun vs H Q E h => ?_) (fun cdv A outer s H vs Q E hr h => ?_)
  · obtain ⟨i, rfl, _⟩ := h
    rfl
  · obtain ⟨i, rfl, k⟩ := h
    refine ⟨_, (pss_one (ps_ret (pe_and (pe_callB (id := "isinstance") (r := rIsi K) call_isi (by rfl) T.b_isinstance (by decide +kernel) (pa_cons (pv 0) (pa_cons (pe_bltn (v := .ty "int") (u := Value.type "int") (by rfl) T.b_int (by decide +kernel) rfl) pa_nil))) (pe_one (pe_not (pe_callB (id := "isinstance") (r := rIsi K) call_isi (by rfl) T.b_isinstance (by decide +kernel) (pa_cons (pv 0) (pa_cons (pe_bltn (v := .ty "bool") (u := Value.type "bool") (by rfl) T.b_bool (by decide +kernel) rfl) pa_nil)))))))), ?_⟩
    try dsimp only [cxOf, Cx.nox, Cx.wish]
    refine st_of (σ' := [some _]) rfl ?_
    wtm_at "jw"
    refine i_isi (.base (.int i)) rfl ?_
    wtm_at "jw"
    refine i_isi (.base (.int i)) rfl ?_
    wtm_at "jw"
    exact k

/-! ### pairs of ints, tuples of them -/
/-- the pairs of rows stand at rs -/
def Prw (H : Hp) (rs : List Addr) (rows : List (Int × Int)) : Prop := rs.length = rows.length ∧ ∀ (i : Nat) (r : Addr) (p : Int × Int), rs[i]? = some r → rows[i]? = some p → H r = some (.tup [.int p.1, .int p.2])
/-- a tuple of pairs -/
def Prs (H : Hp) (a : Addr) (rows : List (Int × Int)) : Prop := ∃ rs : List Addr, H a = some (.tup (rs.map V.ref)) ∧ Prw H rs rows
/-- a list of pairs -/
def LPr (H : Hp) (a : Addr) (rows : List (Int × Int)) : Prop := ∃ rs : List Addr, H a = some (.lst (rs.map V.ref)) ∧ Prw H rs rows
theorem Prw.nil {H : Hp} : Prw H [] [] := ⟨rfl, fun i r p h => by simp at h⟩
theorem Prw.tps {H H' : Hp} {rs : List Addr} {rows : List (Int × Int)} (w : Prw H rs rows) (t : Tps H H') : Prw H' rs rows := ⟨w.1, fun i r p h1 h2 => (t r).1 _ (w.2 i r p h1 h2)⟩
theorem Prw.same {H H' : Hp} {rs : List Addr} {rows : List (Int × Int)} (w : Prw H rs rows) (s : Same H H') : Prw H' rs rows := w.tps (Tps.of s)
theorem Prw.snoc {H : Hp} {rs : List Addr} {rows : List (Int × Int)} {q : Addr} {x y : Int} (w : Prw H rs rows) (h : H q = some (.tup [.int x, .int y])) : Prw H (rs ++ [q]) (rows ++ [(x, y)]) := by
  refine ⟨by simp [w.1], fun i r p h1 h2 => ?_⟩
  have hl := w.1
  by_cases hi : i < rs.length
  · rw [List.getElem?_append_left hi] at h1
    rw [List.getElem?_append_left (by omega)] at h2
    exact w.2 i r p h1 h2
  · rw [List.getElem?_append_right (by omega)] at h1
    rw [List.getElem?_append_right (by omega)] at h2
    rw [hl] at h1
    cases e : i - rows.length with
    | zero =>
      rw [e] at h1 h2
      cases h1
      cases h2
      exact h
    | succ n =>
      rw [e] at h1
      cases h1
theorem Prs.tps {H H' : Hp} {a : Addr} {rows : List (Int × Int)} (h : Prs H a rows) (t : Tps H H') : Prs H' a rows := by
  obtain ⟨rs, ha, w⟩ := h
  exact ⟨rs, (t a).1 _ ha, w.tps t⟩
theorem Prs.same {H H' : Hp} {a : Addr} {rows : List (Int × Int)} (h : Prs H a rows) (s : Same H H') : Prs H' a rows := h.tps (Tps.of s)
theorem LPr.same {H H' : Hp} {a : Addr} {rows : List (Int × Int)} (h : LPr H a rows) (s : Same H H') : LPr H' a rows := by
  obtain ⟨rs, ha, w⟩ := h
  exact ⟨rs, s _ _ ha, w.same s⟩
theorem LPr.kp {H H' : Hp} {p a : Addr} {xs : List V} {rows : List (Int × Int)} (h : LPr H a rows) (k : Kp p H H') (hp : H p = some (.lst xs)) (n : a ≠ p) : LPr H' a rows := by
  obtain ⟨rs, ha, w⟩ := h
  exact ⟨rs, k _ _ ha n, w.tps (k.tps hp)⟩
theorem Prw.put {H : Hp} {D : Addr} {rs : List Addr} {xs ys : List V} {rows : List (Int × Int)} (w : Prw H rs rows) (h : H D = some (.lst xs)) : Prw (upd H D (.lst ys)) rs rows := by
  refine ⟨w.1, fun i r p h1 h2 => ?_⟩
  have hr := w.2 i r p h1 h2
  rw [upd_ne (ne_of hr h (by intro z; cases z))]
  exact hr
/-- a new pair behind the others -/
theorem LPr.add {H : Hp} {D q : Addr} {rs : List Addr} {rows : List (Int × Int)} {x y : Int} (h : H D = some (.lst (rs.map V.ref))) (w : Prw H rs rows) (hq : H q = none) :
    LPr (upd (upd H q (.tup [.int x, .int y])) D (.lst (rs.map V.ref ++ [.ref q]))) D (rows ++ [(x, y)]) := by
  have hD : upd H q (.tup [.int x, .int y]) D = some (.lst (rs.map V.ref)) := by rw [upd_ne (ne_of_none h hq)]; exact h
  refine ⟨rs ++ [q], by rw [upd_same, List.map_append]; rfl, Prw.put (xs := rs.map V.ref) ((w.same (same_new hq)).snoc upd_same) hD⟩
/-- a pair that stands already -/
theorem LPr.add' {H : Hp} {D q : Addr} {rs : List Addr} {rows : List (Int × Int)} {x y : Int} (h : H D = some (.lst (rs.map V.ref))) (w : Prw H rs rows) (hq : H q = some (.tup [.int x, .int y])) :
    LPr (upd H D (.lst (rs.map V.ref ++ [.ref q]))) D (rows ++ [(x, y)]) :=
  ⟨rs ++ [q], by rw [upd_same, List.map_append]; rfl, (w.snoc hq).put h⟩
theorem Prw.at {H : Hp} {rs : List Addr} {rows : List (Int × Int)} {i : Nat} {v : V} (w : Prw H rs rows) (h : (rs.map V.ref)[i]? = some v) : ∃ r p, v = .ref r ∧ rs[i]? = some r ∧ rows[i]? = some p ∧ H r = some (.tup [.int p.1, .int p.2]) ∧ rows.take (i + 1) = rows.take i ++ [p] ∧ i < rows.length := by
  rw [List.getElem?_map] at h
  cases e : rs[i]? with
  | none => rw [e] at h; cases h
  | some r =>
    rw [e] at h
    have hi := (List.getElem?_eq_some_iff.mp e).1
    have hl := w.1
    have e2 : rows[i]? = some (rows[i]'(by omega)) := List.getElem?_eq_getElem (by omega)
    exact ⟨r, _, (Option.some.inj h).symm, rfl, e2, w.2 i r _ e e2, by rw [List.take_add_one, e2]; rfl, by omega⟩
def prD (p : Int × Int) : PyData := .tuple [.int p.1, .int p.2]
theorem dp_prs {K : PySem.W.Frag} {H : Hp} {a : Addr} {rows : List (Int × Int)} (h : Prs H a rows) : Dp K H (.ref a) (.tuple (rows.map prD)) := by
  obtain ⟨rs, ha, w⟩ := h
  refine .tup (SqT.of ha) (dpAll_of (by simp [w.1]) fun i x d h1 h2 => ?_)
  obtain ⟨r, p, rfl, e1, e2, hr, _⟩ := w.at h1
  rw [List.getElem?_map, e2] at h2
  cases h2
  exact dp_ints (ns := [p.1, p.2]) (SqT.of hr)
theorem shp_prs (rows : List (Int × Int)) : Shp 2 (.tuple (rows.map prD)) :=
  Shp.tup fun d hd => by
    obtain ⟨p, _, rfl⟩ := List.mem_map.mp hd
    exact Shp.tup fun e he => by
      rcases List.mem_cons.mp he with rfl | he
      · exact (Shp.int _)
      · rcases List.mem_cons.mp he with rfl | he
        · exact (Shp.int _)
        · cases he
theorem shp_ints (ns : List Int) : Shp 1 (.tuple (ns.map PyData.int)) :=
  Shp.tup fun d hd => by
    obtain ⟨p, _, rfl⟩ := List.mem_map.mp hd
    exact Shp.int _
theorem put_same {H H' : Hp} {D : Addr} {o : HO} (s : Same H H') (h : H D = none) : Same H (upd H' D o) := fun b u hb => by
  rw [upd_ne (ne_of_none hb h)]
  exact s _ _ hb
theorem tps_put {H : Hp} {D : Addr} {xs ys : List V} (h : H D = some (.lst xs)) : Tps H (upd H D (.lst ys)) := (Kp.upd (p := D)).tps h

/-! ### dicts with int keys -/
section
variable {K : PySem.W.Frag} {σ : L2.St} {H : Hp} {Q : VK}
theorem i_dget {td ty : TE} (h : td σ H fun x H1 => ty σ H1 fun y H2 => ∃ a v, x = .ref a ∧ DGet H2 a y (some v) ∧ Q v H2) : tDGet td ty σ H Q := h
theorem i_dgetI {p : Addr} {i : Int} {v : V} {kvs : List (L2.Key × V)} {R : V → Prop} (h : Rd H p (.dK kvs)) (e : valV kvs (.inl i) = some v) (q : R v) : ∃ a v', V.ref p = .ref a ∧ DGet H a (.int i) (some v') ∧ R v' :=
  ⟨p, v, rfl, .inl ⟨kvs, .inl i, h, rfl, e.symm⟩, q⟩
theorem i_din {td ty : TE} (h : ty σ H fun y H1 => td σ H1 fun x H2 => ∃ a o, x = .ref a ∧ DGet H2 a y o ∧ Q (.bl o.isSome) H2) : tDIn ty td σ H Q := h
theorem i_dinI {p : Addr} {i : Int} {kvs : List (L2.Key × V)} {R : Option V → Prop} (h : Rd H p (.dK kvs)) (q : R (valV kvs (.inl i))) : ∃ a o, V.ref p = .ref a ∧ DGet H a (.int i) o ∧ R o :=
  ⟨p, _, rfl, .inl ⟨kvs, .inl i, h, rfl, rfl⟩, q⟩
theorem i_dput {td ty tv : TE} {nx : L2.St → Hp → Prop} {rt : VK} {bk ct : L2.St → Hp → Prop} (h : tv σ H fun v H1 => td σ H1 fun x H2 => ty σ H2 fun y H3 => ∃ a H4, x = .ref a ∧ DPut H3 a y v H4 ∧ nx σ H4) : sDPut td ty tv ⟨nx, rt, bk, ct⟩ σ H := h
theorem i_dputI {p : Addr} {i : Int} {v : V} {kvs : List (L2.Key × V)} {R : Hp → Prop} (h : H p = some (.dK kvs)) (hl : kvs.length ≤ 10000) (q : R (upd H p (.dK (putK kvs (.inl i) v)))) : ∃ a H4, V.ref p = .ref a ∧ DPut H a (.int i) v H4 ∧ R H4 :=
  ⟨p, _, rfl, .inl ⟨kvs, .inl i, h, rfl, by rw [sizeLine_eq]; omega, rfl⟩, q⟩
theorem i_dnew (q : ∀ p, H p = none → Q (.ref p) (upd H p (.dK []))) : tDNewK σ H Q := q
def rSortDI : List V → Hp → VK → Prop := fun xs H Q => ∃ (a : Addr) (kvs : List (L2.Key × V)) (ks : List Int), xs = [.ref a] ∧ Rd H a (.dK kvs) ∧ kvs.map (·.1) = ks.map Sum.inl ∧ ks.length < 64 ∧ ∀ (ys : List Int) (p : Addr), ys.Perm ks → ys.Pairwise (· ≤ ·) → H p = none → Q (.ref p) (upd H p (.lst (ys.map V.int)))
theorem c_sortDI {X : Cx} (hc : X.calm = true) : CallR X (.builtin "sorted") rSortDI := call_sortedDI hc
end
/-- the dict's entries are the map m of ints -/
def DI (kvs : List (L2.Key × V)) (m : Int → Option Int) : Prop := (∀ i : Int, valV kvs (.inl i) = (m i).map V.int) ∧ ∃ ks : List Int, kvs.map (·.1) = ks.map Sum.inl ∧ ks.Nodup
theorem DI.nil : DI [] fun _ => none := ⟨fun _ => rfl, [], rfl, List.nodup_nil⟩
theorem putK_keys {kvs : List (L2.Key × V)} {k : L2.Key} {v : V} : (putK kvs k v).map (·.1) = if (valV kvs k).isSome = true then kvs.map (·.1) else kvs.map (·.1) ++ [k] := by
  unfold putK
  rw [valV_any]
  by_cases h : (valV kvs k).isSome = true
  · rw [if_pos h, if_pos h, List.map_map]
    refine List.map_congr_left fun p _ => ?_
    show (if p.1 = k then (p.1, v) else p).1 = p.1
    split <;> rfl
  · rw [if_neg h, if_neg h, List.map_append]
    rfl
theorem DI.put {kvs : List (L2.Key × V)} {m : Int → Option Int} {i v : Int} (d : DI kvs m) : DI (putK kvs (.inl i) (.int v)) (fun j => if j = i then some v else m j) := by
  obtain ⟨h, ks, hk, hn⟩ := d
  refine ⟨fun j => ?_, ?_⟩
  · rw [valV_put]
    show _ = Option.map V.int (if j = i then some v else m j)
    by_cases e : j = i
    · subst e
      rw [if_pos rfl, if_pos rfl]
      rfl
    · rw [if_neg (by intro z; exact e (Sum.inl.inj z)), if_neg e]
      exact h j
  · rw [putK_keys]
    by_cases e : (valV kvs (.inl i)).isSome = true
    · rw [if_pos e]
      exact ⟨ks, hk, hn⟩
    · rw [if_neg e, hk]
      refine ⟨ks ++ [i], by rw [List.map_append]; rfl, ?_⟩
      have hni : ¬ i ∈ ks := fun hi => by
        have e1 : valV kvs (.inl i) = none := by
          cases q : valV kvs (.inl i) with
          | none => rfl
          | some z => rw [q] at e; exact absurd rfl e
        refine valV_not e1 ?_
        rw [hk]
        exact List.mem_map.mpr ⟨i, hi, rfl⟩
      exact nd_snoc hn hni
theorem DI.mem {kvs : List (L2.Key × V)} {m : Int → Option Int} {ks : List Int} (d : DI kvs m) (hk : kvs.map (·.1) = ks.map Sum.inl) (i : Int) : i ∈ ks ↔ (m i).isSome = true := by
  have h := d.1 i
  constructor
  · intro hi
    cases e : m i with
    | some z => rfl
    | none =>
      rw [e] at h
      refine absurd ?_ (valV_not h)
      rw [hk]
      exact List.mem_map.mpr ⟨i, hi, rfl⟩
  · intro hi
    obtain ⟨z, hz⟩ := Option.isSome_iff_exists.mp hi
    rw [hz] at h
    have := valV_in h
    rw [hk] at this
    obtain ⟨j, hj, e⟩ := List.mem_map.mp this
    exact Sum.inl.inj e ▸ hj
/-- distinct ints of 0 .. n - 1 are at most n -/
theorem nodup_len : ∀ (n : Nat) (l : List Int), l.Nodup → (∀ x ∈ l, 0 ≤ x ∧ x < n) → l.length ≤ n
  | 0, l, _, h => by
    cases l with
    | nil => exact Nat.le_refl _
    | cons x r => have := h x List.mem_cons_self; omega
  | n + 1, l, hn, h => by
    by_cases hm : (n : Int) ∈ l
    · have e := List.length_erase_of_mem hm
      have := nodup_len n (l.erase (n : Int)) (hn.erase _) fun x hx => by
        have h1 := (List.Nodup.mem_erase_iff hn).mp hx
        have h2 := h x h1.2
        have : x ≠ (n : Int) := h1.1
        omega
      omega
    · have := nodup_len n l hn fun x hx => by
        have h2 := h x hx
        have : x ≠ (n : Int) := fun e => hm (e ▸ hx)
        omega
      omega
theorem DI.len {kvs : List (L2.Key × V)} {m : Int → Option Int} {n : Nat} (d : DI kvs m) (h : ∀ i, (m i).isSome = true → 0 ≤ i ∧ i < n) : kvs.length ≤ n := by
  obtain ⟨ks, hk, hn⟩ := d.2
  have e : kvs.length = ks.length := by
    have := congrArg List.length hk
    rw [List.length_map, List.length_map] at this
    exact this
  rw [e]
  exact nodup_len n ks hn fun x hx => h x ((d.mem hk x).mp hx)
/-- ints in order, all of them distinct -/
theorem lt_of_le_nodup : ∀ {l : List Int}, l.Pairwise (· ≤ ·) → l.Nodup → l.Pairwise (· < ·)
  | [], _, _ => .nil
  | a :: r, h, n => by
    rw [List.pairwise_cons] at h
    rw [List.nodup_cons] at n
    refine List.pairwise_cons.mpr ⟨fun x hx => ?_, lt_of_le_nodup h.2 n.2⟩
    have h1 := h.1 x hx
    have h2 : x ≠ a := fun e => n.1 (e ▸ hx)
    omega
theorem sorted_ext : ∀ {l1 l2 : List Int}, l1.Pairwise (· < ·) → l2.Pairwise (· < ·) → (∀ x, x ∈ l1 ↔ x ∈ l2) → l1 = l2
  | [], [], _, _, _ => rfl
  | [], b :: r, _, _, h => by have := (h b).mpr List.mem_cons_self; cases this
  | a :: r, [], _, _, h => by have := (h a).mp List.mem_cons_self; cases this
  | a :: r, b :: t, h1, h2, h => by
    rw [List.pairwise_cons] at h1 h2
    have ha := (h a).mp List.mem_cons_self
    have hb := (h b).mpr List.mem_cons_self
    have e : a = b := by
      rcases List.mem_cons.mp ha with e | ha
      · exact e
      · rcases List.mem_cons.mp hb with e | hb
        · exact e.symm
        · have := h2.1 a ha
          have := h1.1 b hb
          omega
    subst e
    rw [sorted_ext h1.2 h2.2 fun x => ⟨fun hx => ?_, fun hx => ?_⟩]
    · rcases List.mem_cons.mp ((h x).mp (List.mem_cons_of_mem _ hx)) with e | q
      · have := h1.1 x hx
        omega
      · exact q
    · rcases List.mem_cons.mp ((h x).mpr (List.mem_cons_of_mem _ hx)) with e | q
      · have := h2.1 x hx
        omega
      · exact q
theorem putK_le {kvs : List (L2.Key × V)} {k : L2.Key} {v : V} : (putK kvs k v).length ≤ kvs.length + 1 := by
  have h := congrArg List.length (putK_keys (kvs := kvs) (k := k) (v := v))
  rw [List.length_map] at h
  rw [h]
  split
  · rw [List.length_map]; omega
  · rw [List.length_append, List.length_map]; simp

/-! ### immutable data: None, bools, ints, texts, tuples of them -/
mutual
inductive TD (K : PySem.W.Frag) (H : Hp) : V → PyData → Prop
  | non : TD K H .non .none
  | bl (b : Bool) : TD K H (.bl b) (.bool b)
  | int (i : Int) : TD K H (.int i) (.int i)
  | str (x : Str) : TD K H (.str x) (.str x)
  | tup {a : Addr} {xs : List V} {ds : List PyData} : SqT K H a xs → TDs K H xs ds → TD K H (.ref a) (.tuple ds)
inductive TDs (K : PySem.W.Frag) (H : Hp) : List V → List PyData → Prop
  | nil : TDs K H [] []
  | cons {v : V} {vs : List V} {d : PyData} {ds : List PyData} : TD K H v d → TDs K H vs ds → TDs K H (v :: vs) (d :: ds)
end
def oD : Option Int → PyData
  | none => .none
  | some z => .int z
def ovO : Option Int → V
  | none => .non
  | some z => .int z
def pD (p : Int × Int) : PyData := .tuple [.int p.1, .int p.2]
section
variable {K : PySem.W.Frag} {H H' : Hp}
theorem TD.tps (t : Tps H H') {v : V} {d : PyData} (h : TD K H v d) : TD K H' v d :=
  TD.rec (motive_1 := fun v d _ => TD K H' v d) (motive_2 := fun vs ds _ => TDs K H' vs ds) .non (fun b => .bl b) (fun i => .int i) (fun x => .str x) (fun h _ q => .tup (t.sq h) q) .nil (fun _ _ h1 h2 => .cons h1 h2) h
theorem TDs.tps (t : Tps H H') {vs : List V} {ds : List PyData} (h : TDs K H vs ds) : TDs K H' vs ds :=
  TDs.rec (motive_1 := fun v d _ => TD K H' v d) (motive_2 := fun vs ds _ => TDs K H' vs ds) .non (fun b => .bl b) (fun i => .int i) (fun x => .str x) (fun h _ q => .tup (t.sq h) q) .nil (fun _ _ h1 h2 => .cons h1 h2) h
theorem TD.dp {v : V} {d : PyData} (h : TD K H v d) : Dp K H v d :=
  TD.rec (motive_1 := fun v d _ => Dp K H v d) (motive_2 := fun vs ds _ => DpAll K H vs ds) .non (fun b => .bl b) (fun i => .int i) (fun x => .str x) (fun h _ q => .tup h q) .nil (fun _ _ h1 h2 => .cons h1 h2) h
theorem TDs.dp {vs : List V} {ds : List PyData} (h : TDs K H vs ds) : DpAll K H vs ds :=
  TDs.rec (motive_1 := fun v d _ => Dp K H v d) (motive_2 := fun vs ds _ => DpAll K H vs ds) .non (fun b => .bl b) (fun i => .int i) (fun x => .str x) (fun h _ q => .tup h q) .nil (fun _ _ h1 h2 => .cons h1 h2) h
theorem TD.same (s : Same H H') {v : V} {d : PyData} (h : TD K H v d) : TD K H' v d := h.tps (Tps.of s)
theorem TDs.same (s : Same H H') {vs : List V} {ds : List PyData} (h : TDs K H vs ds) : TDs K H' vs ds := h.tps (Tps.of s)
theorem TDs.len : ∀ {vs : List V} {ds : List PyData}, TDs K H vs ds → vs.length = ds.length
  | [], _, .nil => rfl
  | v :: vs, _, .cons h t => by rw [List.length_cons, List.length_cons, TDs.len t]
theorem TDs.get : ∀ {vs : List V} {ds : List PyData} {i : Nat} {d : PyData}, TDs K H vs ds → ds[i]? = some d → ∃ v, vs[i]? = some v ∧ TD K H v d
  | _, _, _, _, .nil, e => by simp at e
  | _, _, 0, _, .cons (v := v) h t, e => by
    cases e
    exact ⟨v, rfl, h⟩
  | _, _, i + 1, _, .cons h t, e => by
    obtain ⟨v, e2, q⟩ := TDs.get (i := i) t (by simpa using e)
    exact ⟨v, by simpa using e2, q⟩
theorem TDs.at {vs : List V} {ds : List PyData} {i : Nat} {v : V} (h : TDs K H vs ds) (e : vs[i]? = some v) : ∃ d, ds[i]? = some d ∧ TD K H v d ∧ ds.take (i + 1) = ds.take i ++ [d] ∧ i < ds.length := by
  have hi := (List.getElem?_eq_some_iff.mp e).1
  have hl := h.len
  have e2 : ds[i]? = some (ds[i]'(by omega)) := List.getElem?_eq_getElem (by omega)
  obtain ⟨v', e3, q⟩ := h.get e2
  rw [e] at e3
  cases e3
  exact ⟨_, e2, q, by rw [List.take_add_one, e2]; rfl, by omega⟩
theorem TDs.mem {vs : List V} {ds : List PyData} {v : V} (h : TDs K H vs ds) (hv : v ∈ vs) : ∃ d, d ∈ ds ∧ TD K H v d := by
  obtain ⟨i, hi⟩ := List.getElem?_of_mem hv
  obtain ⟨d, e, q, _⟩ := h.at hi
  exact ⟨d, List.mem_of_getElem? e, q⟩
theorem TDs.of : ∀ {vs : List V} {ds : List PyData}, vs.length = ds.length → (∀ (i : Nat) v d, vs[i]? = some v → ds[i]? = some d → TD K H v d) → TDs K H vs ds
  | [], [], _, _ => .nil
  | v :: vs, d :: ds, hl, h => .cons (h 0 v d rfl rfl) (TDs.of (by simpa using hl) fun i y e h1 h2 => h (i + 1) y e (by simpa using h1) (by simpa using h2))
theorem TDs.app : ∀ {vs us : List V} {ds es : List PyData}, TDs K H vs ds → TDs K H us es → TDs K H (vs ++ us) (ds ++ es)
  | _, _, _, _, .nil, h => h
  | _, _, _, _, .cons h t, q => .cons h (TDs.app t q)
theorem TDs.snoc {vs : List V} {ds : List PyData} {v : V} {d : PyData} (h : TDs K H vs ds) (q : TD K H v d) : TDs K H (vs ++ [v]) (ds ++ [d]) := h.app (.cons q .nil)
theorem TDs.map {α : Type} {f : α → V} {g : α → PyData} : ∀ {l : List α}, (∀ x ∈ l, TD K H (f x) (g x)) → TDs K H (l.map f) (l.map g)
  | [], _ => .nil
  | x :: r, h => .cons (h x List.mem_cons_self) (TDs.map fun y hy => h y (List.mem_cons_of_mem _ hy))
theorem TDs.ints (ns : List Int) : TDs K H (ns.map V.int) (ns.map PyData.int) := TDs.map fun x _ => .int x
theorem TD.ovO (o : Option Int) : TD K H (ovO o) (oD o) := by cases o <;> constructor
theorem TDs.ovs (os : List (Option Int)) : TDs K H (os.map Law.ovO) (os.map oD) := TDs.map fun x _ => TD.ovO x
theorem TD.tup_inv {v : V} {ds : List PyData} (h : TD K H v (.tuple ds)) : ∃ a xs, v = .ref a ∧ SqT K H a xs ∧ TDs K H xs ds := by
  cases h with
  | tup a b => exact ⟨_, _, rfl, a, b⟩
theorem TD.int_inv {v : V} {i : Int} (h : TD K H v (.int i)) : v = .int i := by cases h; rfl
theorem TD.non_inv {v : V} (h : TD K H v .none) : v = .non := by cases h; rfl
theorem TD.str_inv {v : V} {i : Str} (h : TD K H v (.str i)) : v = .str i := by cases h; rfl
theorem TD.bl_inv {v : V} {i : Bool} (h : TD K H v (.bool i)) : v = .bl i := by cases h; rfl
theorem TD.ov_inv {v : V} {o : Option Int} (h : TD K H v (oD o)) : v = Law.ovO o := by
  cases o with
  | none => exact h.non_inv
  | some z => exact h.int_inv
theorem TDs.ints_inv : ∀ {ns : List Int} {vs : List V}, TDs K H vs (ns.map PyData.int) → vs = ns.map V.int
  | [], _, h => by cases h; rfl
  | n :: ns, _, h => by
    cases h with
    | cons a b => rw [a.int_inv, TDs.ints_inv b]; rfl
theorem TDs.ovs_inv : ∀ {os : List (Option Int)} {vs : List V}, TDs K H vs (os.map oD) → vs = os.map Law.ovO
  | [], _, h => by cases h; rfl
  | n :: ns, _, h => by
    cases h with
    | cons a b => rw [a.ov_inv, TDs.ovs_inv b]; rfl
theorem TD.pair_inv {v : V} {p : Int × Int} (h : TD K H v (pD p)) : ∃ a, v = .ref a ∧ SqT K H a [.int p.1, .int p.2] := by
  obtain ⟨a, xs, e, s, q⟩ := h.tup_inv
  rw [TDs.ints_inv (ns := [p.1, p.2]) q] at s
  exact ⟨a, e, s⟩
theorem TD.of {a : Addr} {xs : List V} {ds : List PyData} (h : H a = some (.tup xs)) (q : TDs K H xs ds) : TD K H (.ref a) (.tuple ds) := .tup (SqT.of h) q
/-- a new tuple of data -/
theorem TD.new {a : Addr} {xs : List V} {ds : List PyData} (h : H a = none) (q : TDs K H xs ds) : TD K (upd H a (.tup xs)) (.ref a) (.tuple ds) := .of upd_same (q.same (same_new h))
/-- a list of data -/
def LD (K : PySem.W.Frag) (H : Hp) (a : Addr) (ds : List PyData) : Prop := ∃ vs, H a = some (.lst vs) ∧ TDs K H vs ds
theorem LD.same (s : Same H H') {a : Addr} {ds : List PyData} (h : LD K H a ds) : LD K H' a ds := by
  obtain ⟨vs, e, q⟩ := h
  exact ⟨vs, s _ _ e, q.same s⟩
theorem LD.kp {p a : Addr} {xs : List V} {ds : List PyData} (h : LD K H a ds) (k : Kp p H H') (hp : H p = some (.lst xs)) (n : a ≠ p) : LD K H' a ds := by
  obtain ⟨vs, e, q⟩ := h
  exact ⟨vs, k _ _ e n, q.tps (k.tps hp)⟩
theorem LD.put {a : Addr} {xs vs : List V} {ds : List PyData} (h : H a = some (.lst xs)) (q : TDs K H vs ds) : LD K (upd H a (.lst vs)) a ds := ⟨vs, upd_same, q.tps (tps_put h)⟩
theorem LD.new {a : Addr} {vs : List V} {ds : List PyData} (h : H a = none) (q : TDs K H vs ds) : LD K (upd H a (.lst vs)) a ds := ⟨vs, upd_same, q.same (same_new h)⟩
theorem LD.snoc {a : Addr} {vs : List V} {v : V} {d : PyData} {ds : List PyData} (h : H a = some (.lst vs)) (q : TDs K H vs ds) (x : TD K H v d) : LD K (upd H a (.lst (vs ++ [v]))) a (ds ++ [d]) := .put h (q.snoc x)
variable {σ : L2.St} {Q : VK}
theorem i_ixD {p : V} {ds : List PyData} {i : Int} {d : PyData} (h : TD K H p (.tuple ds)) (h0 : 0 ≤ i) (e : ds[i.toNat]? = some d) (q : ∀ y, TD K H y d → Q y H) : rIxT K p (.int i) H Q := by
  obtain ⟨a, xs, rfl, s, t⟩ := h.tup_inv
  obtain ⟨y, ey, hy⟩ := t.get e
  refine ⟨a, xs, i, y, rfl, rfl, s, ?_, q y hy⟩
  have := atI_nat (xs := xs) (j := i.toNat) (v := y) ey
  rw [Int.toNat_of_nonneg h0] at this
  exact this
theorem i_ixDI {p : V} {ds : List PyData} {i j : Int} (h : TD K H p (.tuple ds)) (h0 : 0 ≤ i) (e : ds[i.toNat]? = some (.int j)) (q : Q (.int j) H) : rIxT K p (.int i) H Q :=
  i_ixD h h0 e fun y hy => by rw [hy.int_inv]; exact q
theorem i_ixDO {p : V} {ds : List PyData} {i : Int} {o : Option Int} (h : TD K H p (.tuple ds)) (h0 : 0 ≤ i) (e : ds[i.toNat]? = some (oD o)) (q : Q (ovO o) H) : rIxT K p (.int i) H Q :=
  i_ixD h h0 e fun y hy => by rw [hy.ov_inv]; exact q
theorem i_ixDS {p : V} {ds : List PyData} {i : Int} {j : Str} (h : TD K H p (.tuple ds)) (h0 : 0 ≤ i) (e : ds[i.toNat]? = some (.str j)) (q : Q (.str j) H) : rIxT K p (.int i) H Q :=
  i_ixD h h0 e fun y hy => by rw [hy.str_inv]; exact q
theorem i_lenDt {p : V} {ds : List PyData} (h : TD K H p (.tuple ds)) (q : Q (.int ds.length) H) : qLen K [p] H Q := by
  obtain ⟨a, xs, rfl, s, t⟩ := h.tup_inv
  rw [← t.len] at q
  exact i_lenT s q
theorem i_gTupD {n : Nat} {t : TGs} {v : V} {ds : List PyData} {R : L2.St → Hp → Prop} (h : TD K H v (.tuple ds)) (e : ds.length = n) (q : ∀ xs, TDs K H xs ds → t xs σ H R) : gTup K n t v σ H R := by
  obtain ⟨a, xs, rfl, s, u⟩ := h.tup_inv
  exact i_gTup s (by rw [u.len, e]) (q xs u)
theorem i_gPair {n : Nat} {t : TGs} {v : V} {p : Int × Int} {R : L2.St → Hp → Prop} (h : TD K H v (pD p)) (e : 2 = n) (q : t [.int p.1, .int p.2] σ H R) : gTup K n t v σ H R := by
  obtain ⟨a, rfl, s⟩ := h.pair_inv
  exact i_gTup s e q
theorem i_isTD {v : V} {ds : List PyData} {R : Addr → Prop} (h : TD K H v (.tuple ds)) (q : ∀ a xs, v = .ref a → SqT K H a xs → TDs K H xs ds → R a) : ∃ a', v = .ref a' ∧ (∃ xs, SqT K H a' xs) ∧ R a' := by
  obtain ⟨a, xs, e, s, t⟩ := h.tup_inv
  exact ⟨a, e, ⟨xs, s⟩, q a xs e s t⟩
theorem TDs.pair_at {vs : List V} {ps : List (Int × Int)} {i : Nat} {v : V} (h : TDs K H vs (ps.map pD)) (e : vs[i]? = some v) : ∃ p, ps[i]? = some p ∧ TD K H v (pD p) ∧ ps.take (i + 1) = ps.take i ++ [p] ∧ i < ps.length := by
  obtain ⟨d, e1, t, _, hl⟩ := h.at e
  rw [List.getElem?_map] at e1
  cases e2 : ps[i]? with
  | none => rw [e2] at e1; cases e1
  | some p =>
    rw [e2] at e1
    cases e1
    exact ⟨p, rfl, t, by rw [List.take_add_one, e2]; rfl, (List.getElem?_eq_some_iff.mp e2).1⟩
theorem i_eqNI {j : Int} (q : Q (.bl false) H) : rEq .non (.int j) H Q := ⟨rfl, by
  have e : decide (V.non = V.int j) = false := by simp
  rw [e]; exact q⟩
/-! shapes -/
theorem Shp.str {x : Str} (h : PyData.canLay0 (.str x) = true) : Shp 0 (.str x) := ⟨h, by simp [PyData.depth]⟩
theorem Shp.oD (o : Option Int) : Shp 0 (oD o) := by
  cases o with
  | none => exact Shp.non
  | some z => exact Shp.int z
theorem Shp.ovs (os : List (Option Int)) : Shp 1 (.tuple (os.map Law.oD)) := Shp.tup fun d hd => by
  obtain ⟨x, _, rfl⟩ := List.mem_map.mp hd
  exact Shp.oD x
theorem Shp.pD (p : Int × Int) : Shp 1 (pD p) := Shp.tup fun d hd => by
  rcases List.mem_cons.mp hd with rfl | hd
  · exact Shp.int _
  · rcases List.mem_cons.mp hd with rfl | hd
    · exact Shp.int _
    · cases hd
theorem Shp.prs (ps : List (Int × Int)) : Shp 2 (.tuple (ps.map Law.pD)) := Shp.tup fun d hd => by
  obtain ⟨x, _, rfl⟩ := List.mem_map.mp hd
  exact Shp.pD x
/-! dicts with text keys -/
theorem i_disp {trs : List (TE × TE)} (h : ∀ p, H p = none → tPairs trs σ (upd H p (.dK [])) fun ps H2 => H2 p = some (.dK []) ∧ ∃ kvs : List (L2.Key × V), ps = kvs.map (fun kv => (kV kv.1, kv.2)) ∧ kvs.length ≤ 15 ∧ Q (.ref p) (upd H2 p (.dK (mergeK [] kvs)))) : tDisp trs σ H Q := h
theorem i_pNil {R : List (V × V) → Hp → Prop} (h : R [] H) : tPairs [] σ H R := h
theorem i_pCons {tk tv : TE} {r : List (TE × TE)} {R : List (V × V) → Hp → Prop} (h : tk σ H fun x H1 => tv σ H1 fun y H2 => tPairs r σ H2 fun ps H3 => R ((x, y) :: ps) H3) : tPairs ((tk, tv) :: r) σ H R := h
theorem i_dgetS {p : Addr} {i : Str} {v : V} {kvs : List (L2.Key × V)} {R : V → Prop} (h : Rd H p (.dK kvs)) (e : valV kvs (.inr i) = some v) (q : R v) : ∃ a v', V.ref p = .ref a ∧ DGet H a (.str i) (some v') ∧ R v' :=
  ⟨p, v, rfl, .inl ⟨kvs, .inr i, h, rfl, e.symm⟩, q⟩
end
/- data at the heap of the goal -/
local macro_rules | `(tactic| wtm_at "jtd") => `(tactic| first | assumption | ((with_reducible refine' TD.same (same_new ?hn) ?hh); (case hn => assumption); (case hh => wtm_at "jtd")))
local macro_rules | `(tactic| wtm_at "jw1") => `(tactic| first
  | ((with_reducible refine' i_ixDI ?h ?h0 ?e ?_); (case h => wtm_at "jtd"); (case h0 => wtm_at "jside"); (case e => wtm_at "jat"))
  | ((with_reducible refine' i_ixDO ?h ?h0 ?e ?_); (case h => wtm_at "jtd"); (case h0 => wtm_at "jside"); (case e => wtm_at "jat"))
  | ((with_reducible refine' i_ixDS ?h ?h0 ?e ?_); (case h => wtm_at "jtd"); (case h0 => wtm_at "jside"); (case e => wtm_at "jat"))
  | ((with_reducible refine' i_ix2 (i_ixDI ?h ?h0 ?e ?_)); (case h => wtm_at "jtd"); (case h0 => wtm_at "jside"); (case e => wtm_at "jat"))
  | ((with_reducible refine' i_ix2 (i_ixDO ?h ?h0 ?e ?_)); (case h => wtm_at "jtd"); (case h0 => wtm_at "jside"); (case e => wtm_at "jat"))
  | ((with_reducible refine' i_ixD ?h ?h0 ?e ?_); (case h => wtm_at "jtd"); (case h0 => wtm_at "jside"); (case e => wtm_at "jat"); intro _ _)
  | ((with_reducible refine' i_ix2 (i_ixD ?h ?h0 ?e ?_)); (case h => wtm_at "jtd"); (case h0 => wtm_at "jside"); (case e => wtm_at "jat"); intro _ _)
  | ((with_reducible refine' i_lenDt ?h ?_); (case h => wtm_at "jtd"))
  | with_reducible refine' i_eqNI ?_
  | ((with_reducible refine' i_gPair ?h ?e ?_); (case h => wtm_at "jtd"); (case e => rfl))
  | with_reducible refine' i_pNil ?_ | with_reducible refine' i_pCons ?_)

/-! ### draws and picks, said shortly -/
section
variable {K : PySem.W.Frag} {p a B : Addr} {H0 H : Hp} {Q : VK} {E : XK}
theorem drawL {m : Int} (w : Drew p a H0 H) (h0 : 0 < m) (h1 : m < 18446744073709551616) (q : ∀ z H', 0 ≤ z → z < m → Drew p a H H' → Drew p a H0 H' → Q (.int z) H') : sp__law_draw K [.ref p, .int m] H Q E :=
  ⟨p, a, m, rfl, w.at_, h0, h1, fun z H' z0 z1 e => q z H' z0 z1 e (w.trans e)⟩
theorem pickL {xs : List V} (P : Int → Prop) (ns : List Int) (w : Drew p a H0 H) (hB : H B = none) (e : xs = ns.map V.int) (h0 : 0 < ns.length) (h1 : ns.length < 1000) (hP : ∀ z ∈ ns, P z)
    (q : ∀ z H', P z → Drew p a H H' → Drew p a H0 H' → Q (.int z) H') : sp__law_pick K [.ref p, .ref B] (upd H B (.lst xs)) Q E := by
  subst e
  refine ⟨p, a, B, ns.map V.int, rfl, w.at_.same (same_new hB), .inl ⟨w.at_.ne_none hB, SqL.of upd_same⟩, by rw [List.length_map]; exact h0, by rw [List.length_map]; omega, fun x H' hx e => ?_⟩
  obtain ⟨z, hz, rfl⟩ := List.mem_map.mp hx
  have e1 := (w.at_.drew.new (o := .lst (ns.map V.int)) hB).trans e
  exact q z H' (hP z hz) e1 (w.trans e1)
theorem pickV {xs : List V} (w : Drew p a H0 H) (hB : H B = none) (h0 : 0 < xs.length) (h1 : xs.length < 1000) (q : ∀ x H', x ∈ xs → Drew p a H H' → Drew p a H0 H' → Q x H') : sp__law_pick K [.ref p, .ref B] (upd H B (.lst xs)) Q E := by
  refine ⟨p, a, B, xs, rfl, w.at_.same (same_new hB), .inl ⟨w.at_.ne_none hB, SqL.of upd_same⟩, h0, by omega, fun x H' hx e => ?_⟩
  have e1 := (w.at_.drew.new (o := .lst xs) hB).trans e
  exact q x H' hx e1 (w.trans e1)
/-- a pick out of a list that stands -/
theorem pickS {xs : List V} (w : Drew p a H0 H) (hB : H B = some (.lst xs)) (n : B ≠ p) (h0 : 0 < xs.length) (h1 : xs.length < 1000000) (q : ∀ x H', x ∈ xs → Drew p a H H' → Drew p a H0 H' → Q x H') : sp__law_pick K [.ref p, .ref B] H Q E :=
  ⟨p, a, B, xs, rfl, w.at_, .inl ⟨n, SqL.of hB⟩, h0, by omega, fun x H' hx e => q x H' hx e (w.trans e)⟩
theorem pickT {xs : List V} (w : Drew p a H0 H) (hB : SqT K H B xs) (h0 : 0 < xs.length) (h1 : xs.length < 1000000) (q : ∀ x H', x ∈ xs → Drew p a H H' → Drew p a H0 H' → Q x H') : sp__law_pick K [.ref p, .ref B] H Q E :=
  ⟨p, a, B, xs, rfl, w.at_, .inr hB, h0, by omega, fun x H' hx e => q x H' hx e (w.trans e)⟩
end
theorem all_two {P : Int → Prop} {x y : Int} (h1 : P x) (h2 : P y) : ∀ z ∈ [x, y], P z := by simp; exact ⟨h1, h2⟩

/-! ### the history of entries, orders and gone seats -/
def og (os : List (Option Int)) (i : Nat) : Option Int := (os[i]?).getD none
def here (e g : Option Int) (t : Int) : Bool := match e with
  | none => false
  | some x => decide (x ≤ t) && (match g with | none => true | some y => decide (t < y))
theorem ov_at {os : List (Option Int)} {j : Int} {i : Nat} (hj : j = (i : Int)) (h : i < os.length) : atI (os.map ovO) j = some (ovO (og os i)) := by
  subst hj
  refine atI_nat ?_
  rw [List.getElem?_map, List.getElem?_eq_getElem h]
  unfold og
  rw [List.getElem?_eq_getElem h]
  rfl
theorem od_at {os : List (Option Int)} {i : Nat} (h : i < os.length) : (os.map oD)[i]? = some (oD (og os i)) := by
  rw [List.getElem?_map, List.getElem?_eq_getElem h]
  unfold og
  rw [List.getElem?_eq_getElem h]
  rfl
def presL (en go : List (Option Int)) (t : Int) (n : Nat) : List Nat := (List.range n).filter fun s => here (og en s) (og go s) t
theorem presL_succ (en go : List (Option Int)) (t : Int) (n : Nat) : presL en go t (n + 1) = if here (og en n) (og go n) t = true then presL en go t n ++ [n] else presL en go t n := by
  unfold presL
  rw [List.range_succ, List.filter_append]
  by_cases h : here (og en n) (og go n) t = true
  · rw [if_pos h, List.filter_cons_of_pos (p := fun s => here (og en s) (og go s) t) h]; rfl
  · rw [if_neg h, List.filter_cons_of_neg (p := fun s => here (og en s) (og go s) t) h]; simp
theorem presL_len (en go : List (Option Int)) (t : Int) (n : Nat) : (presL en go t n).length ≤ n := by
  have := List.length_filter_le (fun s => here (og en s) (og go s) t) (List.range n)
  rw [List.length_range] at this
  exact this
def iN (n : Nat) : V := .int (n : Int)
def sp__law_present (K : PySem.W.Frag) : Sp := fun vs H Q _ => ∃ (e g : Addr) (en go : List (Option Int)) (t : Int), vs = [.ref e, .ref g, .int t] ∧ H e = some (.lst (en.map ovO)) ∧ H g = some (.lst (go.map ovO)) ∧ en.length = go.length ∧ en.length ≤ 100 ∧
  ∀ r H', Same H H' → H r = none → H' r = some (.lst ((presL en go t en.length).map iN)) → Q (.ref r) H'
theorem ok__law_present {P : Program} {w : World} {K : PySem.W.Frag} {mg : Str → Option Value} {base : Heap} {f : Addr} {fd : FuncData} (F : Df K mg "_law_present" s__law_present f fd ["entered", "gone", "tick"]) (T : Txt mg) : FnOk P w K mg base CX0 1 f fd ["entered", "gone", "tick"] (sp__law_present K) := by
  refine F.ok sc__law_present (fun vs H Q E h => ?_) (fun cdv A outer s H vs Q E hr h => ?_)
  · obtain ⟨e, g, en, go, t, rfl, _⟩ := h
    rfl
  · obtain ⟨e, g, en, go, t, rfl, he, hg, hl, hn, q⟩ := h
    refine ⟨_, (pss_cons (ps_set (i := 3) sc__law_present.nd rfl (Or.inl rfl) (pe_lst pa_nil))
      (pss_cons (ps_for PassesOwn.never rfl (pi_range1 rfl T.b_range (pa_cons (pe_callB (id := "len") (r := qLen K) c_len (by rfl) T.b_len (by decide +kernel) (pa_cons (pv 0) pa_nil)) pa_nil)) (pg_name (i := 4) sc__law_present.nd rfl (Or.inl rfl)) (pss_one (ps_if (PW.pt (pw_and (pt_cmpR o_notN (pe_ix (r := rIxL K) ix_list (pv 0) (pv 4) (fun _ _ => rfl)) pe_non (nomark _)) (pw_and1 (pt_cmpR op_le (pe_ix (r := rIxL K) ix_list (pv 0) (pv 4) (fun _ _ => rfl)) (pv 2) (nomark _))))) (pss_one (ps_if (PW.pt (pw_or (pt_cmpR o_isN (pe_ix (r := rIxL K) ix_list (pv 1) (pv 4) (fun _ _ => rfl)) pe_non (nomark _)) (pw_or1 (pt_cmpR op_gt (pe_ix (r := rIxL K) ix_list (pv 1) (pv 4) (fun _ _ => rfl)) (pv 2) (nomark _))))) (pss_one (ps_expr (pe_bmK (K := K) rfl PySem.F.plainAttrs_list PySem.F.slot_list_append PySem.F.type_list_append mt_append (pv 3) (pa_cons (pv 4) pa_nil)))) pss_nil)) pss_nil)))
      (pss_one (ps_ret (pv 3))))), ?_⟩
    try dsimp only [cxOf, Cx.nox, Cx.wish]
    refine st_of (σ' := [some _, some _, some _, none, none]) rfl ?_
    wtm_at "jw"
    intro D hD
    have he0 := same_new (o := .lst []) hD _ _ he
    wtm_at "jw"
    refine f_range (fun i σ H' => Same H H' ∧ H' D = some (.lst ((presL en go t i).map iN)) ∧ ∃ v, σ = [some (.ref e), some (.ref g), some (.int t), some (.ref D), v]) ⟨same_new hD, upd_same, none, rfl⟩ (fun i σ H' hi h => ?_) (fun σ H' h => ?_)
    · obtain ⟨s1, hD1, v, rfl⟩ := h
      rw [List.length_map] at hi
      have hi' : i < en.length := by omega
      have he1 := s1 _ _ he
      have hg1 := s1 _ _ hg
      have hsz : ((presL en go t i).map iN).length < sizeLine := small1000 (by have := presL_len en go t i; rw [List.length_map]; omega)
      have ae := ov_at (os := en) (j := 0 + (i : Int)) (i := i) (by omega) hi'
      have ag := ov_at (os := go) (j := 0 + (i : Int)) (i := i) (by omega) (by omega)
      have no : ¬ here (og en i) (og go i) t = true → presL en go t (i + 1) = presL en go t i := fun h => by rw [presL_succ, if_neg h]
      have yes : here (og en i) (og go i) t = true → upd H' D (.lst ((presL en go t i).map iN ++ [.int (0 + (i : Int))])) D = some (.lst ((presL en go t (i + 1)).map iN)) := fun h => by
        rw [upd_same, presL_succ, if_pos h, List.map_append, Int.zero_add]; rfl
      cases e1 : og en i with
      | none =>
        replace ae : atI (en.map ovO) (0 + (i : Int)) = some V.non := by rw [ae, e1]; rfl
        wtm_at "jw"
        refine c_noN rfl ?_
        wtm_at "jw"
        exact ⟨s1, by rw [no (by rw [e1]; simp [here])]; exact hD1, _, rfl⟩
      | some x =>
        replace ae : atI (en.map ovO) (0 + (i : Int)) = some (V.int x) := by rw [ae, e1]; rfl
        wtm_at "jw"
        refine c_yesN (fun h => by cases h) ?_
        wtm_at "jw"
        refine c_dec (fun h1 => ?_) (fun h1 => ?_)
        · cases e2 : og go i with
          | none =>
            replace ag : atI (go.map ovO) (0 + (i : Int)) = some V.non := by rw [ag, e2]; rfl
            wtm_at "jw"
            refine c_yes rfl ?_
            wtm_at "jw"
            exact ⟨put_same s1 hD, yes (by rw [e1, e2]; simp [here, h1]), _, rfl⟩
          | some y =>
            replace ag : atI (go.map ovO) (0 + (i : Int)) = some (V.int y) := by rw [ag, e2]; rfl
            wtm_at "jw"
            refine c_no (fun h => by cases h) ?_
            wtm_at "jw"
            refine c_dec (fun h2 => ?_) (fun h2 => ?_)
            · wtm_at "jw"
              exact ⟨put_same s1 hD, yes (by rw [e1, e2]; simp [here, h1]; omega), _, rfl⟩
            · wtm_at "jw"
              exact ⟨s1, by rw [no (by rw [e1, e2]; simp [here, h1]; omega)]; exact hD1, _, rfl⟩
        · wtm_at "jw"
          exact ⟨s1, by rw [no (by rw [e1]; simp [here, h1])]; exact hD1, _, rfl⟩
    · obtain ⟨s1, hD1, v, rfl⟩ := h
      rw [List.length_map, Int.toNat_natCast] at hD1
      wtm_at "jw"
      exact q D H' s1 hD hD1
def cnts (o pa : Int) (en : List (Option Int)) : Bool := if o = 0 then false else if o < 4 then decide (o ≤ pa) else decide (o - 4 < en.length) && (og en (o - 4).toNat).isNone
def sp__law_order_counts (K : PySem.W.Frag) : Sp := fun vs H Q _ => ∃ (o pa : Int) (e : Addr) (en : List (Option Int)), vs = [.int o, .int pa, .ref e] ∧ H e = some (.lst (en.map ovO)) ∧ 0 ≤ o ∧ Q (.bl (cnts o pa en)) H
theorem ok__law_order_counts {P : Program} {w : World} {K : PySem.W.Frag} {mg : Str → Option Value} {base : Heap} {f : Addr} {fd : FuncData} (F : Df K mg "_law_order_counts" s__law_order_counts f fd ["order", "patches", "entered"]) (T : Txt mg) : FnOk P w K mg base CX0 1 f fd ["order", "patches", "entered"] (sp__law_order_counts K) := by
  refine F.ok sc__law_order_counts (fun vs H Q E h => ?_) (fun cdv A outer s H vs Q E hr h => ?_)
  · obtain ⟨o, pa, e, en, rfl, _⟩ := h
    rfl
  · obtain ⟨o, pa, e, en, rfl, he, h0, q⟩ := h
    unfold cnts at q
    refine ⟨_, (pss_cons (ps_if (pt_cmpR op_eq (pv 0) pe_int (nomark _)) (pss_one (ps_ret pe_bl)) pss_nil)
      (pss_cons (ps_if (pt_cmpR op_lt (pv 0) pe_int (nomark _)) (pss_one (ps_ret (pe_cmpR op_le (pv 0) (pv 1) (nomark _)))) pss_nil)
      (pss_one (ps_ret (pe_and (pe_cmpR op_lt (pe_op op_sub (pv 0) pe_int) (pe_callB (id := "len") (r := qLen K) c_len (by rfl) T.b_len (by decide +kernel) (pa_cons (pv 2) pa_nil)) (nomark _)) (pe_one (pe_cmpR o_isN (pe_ix (r := rIxL K) ix_list (pv 2) (pe_op op_sub (pv 0) pe_int) (fun _ _ => rfl)) pe_non (nomark _)))))))), ?_⟩
    try dsimp only [cxOf, Cx.nox, Cx.wish]
    refine st_of (σ' := [some _, some _, some _]) rfl ?_
    wtm_at "jw"
    refine c_dec (fun h1 => ?_) (fun h1 => ?_)
    · rw [if_pos h1] at q
      wtm_at "jw"
      exact q
    · rw [if_neg h1] at q
      wtm_at "jw"
      refine c_dec (fun h2 => ?_) (fun h2 => ?_)
      · rw [if_pos h2] at q
        wtm_at "jw"
        exact q
      · rw [if_neg h2] at q
        wtm_at "jw"
        rw [List.length_map]
        refine c_dec (fun h3 => ?_) (fun h3 => ?_)
        · rw [decide_eq_true h3, Bool.true_and] at q
          have ae := ov_at (os := en) (j := o - 4) (i := (o - 4).toNat) (by omega) (by omega)
          wtm_at "jw"
          cases e1 : og en (o - 4).toNat with
          | none => rw [e1] at q; exact q
          | some x => rw [e1] at q; exact q
        · rw [decide_eq_false h3, Bool.false_and] at q
          exact q
def takeE (o pa ho t : Int) (en : List (Option Int)) : List (Option Int) := if cnts o pa en = true then (if o < 4 then en else en.set (o - 4).toNat (some (t + ho))) else en
def takeF (o pa ho t : Int) (en : List (Option Int)) (fo : List (Int × Int)) : List (Int × Int) := if cnts o pa en = true then (if o < 4 then fo ++ [(t + ho, o)] else fo) else fo
def sp__law_take_order (K : PySem.W.Frag) : Sp := fun vs H Q _ => ∃ (w m pa ho t : Int) (e f : Addr) (en : List (Option Int)) (fo : List (Int × Int)), vs = [.int w, .int m, .int pa, .int ho, .int t, .ref e, .ref f] ∧ H e = some (.lst (en.map ovO)) ∧ LPr H f fo ∧ e ≠ f ∧ 0 ≤ w ∧ 0 < m ∧ m < 1000 ∧ fo.length ≤ 100 ∧
  ∀ H', (∀ b o, H b = some o → b ≠ e → b ≠ f → H' b = some o) → Tps H H' → H' e = some (.lst ((takeE (w / m) pa ho t en).map ovO)) → LPr H' f (takeF (w / m) pa ho t en fo) → Q .non H'
theorem ok__law_take_order {P : Program} {w : World} {K : PySem.W.Frag} {mg : Str → Option Value} {base : Heap} {f : Addr} {fd : FuncData} (F : Df K mg "_law_take_order" s__law_take_order f fd ["word", "many", "patches", "hold", "tick", "entered", "forces"]) (T : Txt mg)
    (c__law_order_counts : Cl P w K mg base 1 "_law_order_counts" (sp__law_order_counts K)) : FnOk P w K mg base CX0 2 f fd ["word", "many", "patches", "hold", "tick", "entered", "forces"] (sp__law_take_order K) := by
  refine F.ok sc__law_take_order (fun vs H Q E h => ?_) (fun cdv A outer s H vs Q E hr h => ?_)
  · obtain ⟨w, m, pa, ho, t, e, f, en, fo, rfl, _⟩ := h
    rfl
  · obtain ⟨w, m, pa, ho, t, e, f, en, fo, rfl, he, hf, nef, w0, m0, m1, hl, q⟩ := h
    have o0 : 0 ≤ w / m := Int.ediv_nonneg w0 (by omega)
    refine ⟨_, (pss_cons (ps_set (i := 7) sc__law_take_order.nd rfl (Or.inl rfl) (pe_op op_fdiv (pv 0) (pv 1)))
      (pss_one (ps_if (pt_val (pe_cl c__law_order_counts hr (by decide) rfl (pa_cons (pv 7) (pa_cons (pv 2) (pa_cons (pv 5) pa_nil))))) (pss_one (ps_if (pt_cmpR op_lt (pv 7) pe_int (nomark _)) (pss_one (ps_expr (pe_bmK (K := K) rfl PySem.F.plainAttrs_list PySem.F.slot_list_append PySem.F.type_list_append mt_append (pv 6) (pa_cons (pe_tup (pa_cons (pe_op op_add (pv 4) (pv 3)) (pa_cons (pv 7) pa_nil))) pa_nil)))) (pss_one (ps_asg (pe_op op_add (pv 4) (pv 3)) (pg_sub (pv 5) (pe_op op_sub (pv 7) pe_int) set_list))))) pss_nil))), ?_⟩
    try dsimp only [cxOf, Cx.nox, Cx.wish]
    refine st_of (σ' := [some _, some _, some _, some _, some _, some _, some _, none]) rfl ?_
    wtm_at "jw"
    generalize w / m = o at o0 q ⊢
    refine ⟨o, pa, e, en, rfl, he, o0, ?_⟩
    unfold takeE takeF at q
    wtm_at "jw"
    refine c_bool (fun h1 => ?_) (fun h1 => ?_)
    · rw [if_pos h1, if_pos h1] at q
      wtm_at "jw"
      refine c_dec (fun h2 => ?_) (fun h2 => ?_)
      · rw [if_pos h2, if_pos h2] at q
        obtain ⟨rs, hf1, hw⟩ := hf
        wtm_at "jw"
        intro u hu
        have hf2 := same_new (o := .tup [V.int (t + ho), V.int o]) hu _ _ hf1
        have hsz : (rs.map V.ref).length < sizeLine := small1000 (by rw [List.length_map, hw.1]; omega)
        wtm_at "jw"
        refine q _ (fun b o' hb _ n2 => ?_) ((Tps.of (same_new hu)).trans (tps_put hf2)) ?_ (LPr.add hf1 hw hu)
        · rw [upd_ne n2]; exact same_new hu _ _ hb
        · rw [upd_ne nef]; exact same_new hu _ _ he
      · rw [if_neg h2, if_neg h2] at q
        have hb : o - 4 < en.length := by
          unfold cnts at h1
          rw [if_neg (by omega), if_neg h2] at h1
          simp only [Bool.and_eq_true, decide_eq_true_eq] at h1
          exact h1.1
        have ix := ixN_of (n := (en.map ovO).length) (i := o - 4) (by omega) (by rw [List.length_map]; exact hb)
        wtm_at "jw"
        refine q _ (fun b o' hb n1 _ => ?_) (tps_put he) ?_ (LPr.kp hf Kp.upd he nef.symm)
        · rw [upd_ne n1]; exact hb
        · rw [upd_same, List.map_set]; rfl
    · rw [if_neg (by rw [h1]; exact Bool.false_ne_true), if_neg (by rw [h1]; exact Bool.false_ne_true)] at q
      wtm_at "jw"
      exact q H (fun b o hb _ _ => hb) Tps.refl he hf
def forceL (fo : List (Int × Int)) (t : Int) : Int := fo.foldl (fun a p => if p.1 ≤ t then p.2 else a) 0
theorem foldl_take {α β : Type} (f : β → α → β) (b : β) {l : List α} {i : Nat} {x : α} (h : l.take (i + 1) = l.take i ++ [x]) : (l.take (i + 1)).foldl f b = f ((l.take i).foldl f b) x := by
  rw [h, List.foldl_append]; rfl
def sp__law_force (K : PySem.W.Frag) : Sp := fun vs H Q _ => ∃ (f : Addr) (fo : List (Int × Int)) (t : Int), vs = [.ref f, .int t] ∧ LPr H f fo ∧ Q (.int (forceL fo t)) H
theorem ok__law_force {P : Program} {w : World} {K : PySem.W.Frag} {mg : Str → Option Value} {base : Heap} {f : Addr} {fd : FuncData} (F : Df K mg "_law_force" s__law_force f fd ["forces", "tick"]) (T : Txt mg) : FnOk P w K mg base CX0 1 f fd ["forces", "tick"] (sp__law_force K) := by
  refine F.ok sc__law_force (fun vs H Q E h => ?_) (fun cdv A outer s H vs Q E hr h => ?_)
  · obtain ⟨f, fo, t, rfl, _⟩ := h
    rfl
  · obtain ⟨f, fo, t, rfl, ⟨rs, hf, hw⟩, q⟩ := h
    refine ⟨_, (pss_cons (ps_set (i := 2) sc__law_force.nd rfl (Or.inl rfl) pe_int)
      (pss_cons (ps_for PassesOwn.never rfl (pi_list (pv 0)) (pg_tupK (K := K) rfl rfl (pgs_cons (pg_name (i := 3) sc__law_force.nd rfl (Or.inl rfl)) (pgs_cons (pg_name (i := 4) sc__law_force.nd rfl (Or.inl rfl)) pgs_nil))) (pss_one (ps_if (pt_cmpR op_le (pv 3) (pv 1) (nomark _)) (pss_one (ps_set (i := 2) sc__law_force.nd rfl (Or.inl rfl) (pv 4))) pss_nil)))
      (pss_one (ps_ret (pv 2))))), ?_⟩
    try dsimp only [cxOf, Cx.nox, Cx.wish]
    refine st_of (σ' := [some _, some _, none, none, none]) rfl ?_
    wtm_at "jw"
    refine f_list (xs := rs.map V.ref) (fun i σ H' => H' = H ∧ ∃ v1 v2, σ = [some (.ref f), some (.int t), some (.int (forceL (fo.take i) t)), v1, v2]) ⟨rfl, none, none, rfl⟩ (fun i σ H' _ h => by rw [h.1]; exact SqL.of hf) (fun i x σ H' hi h => ?_) (fun σ H' h => ?_)
    · obtain ⟨rfl, v1, v2, rfl⟩ := h
      obtain ⟨r, p, rfl, e1, e2, hr1, e3, hlt⟩ := hw.at hi
      have ef : forceL (fo.take (i + 1)) t = if p.1 ≤ t then p.2 else forceL (fo.take i) t := foldl_take _ _ e3
      wtm_at "jw"
      refine c_dec (fun h => ?_) (fun h => ?_)
      · wtm_at "jw"
        exact ⟨rfl, some (.int p.1), some (.int p.2), by rw [ef, if_pos h]⟩
      · wtm_at "jw"
        exact ⟨rfl, some (.int p.1), some (.int p.2), by rw [ef, if_neg h]⟩
    · obtain ⟨rfl, v1, v2, rfl⟩ := h
      rw [List.length_map, hw.1, List.take_length]
      wtm_at "jw"
      exact q
def sp__law_begun (K : PySem.W.Frag) : Sp := fun vs H Q _ => ∃ (p a : Addr) (n : Nat), vs = [.ref p, .int (n : Int)] ∧ DrawAt H p a ∧ 0 < n ∧ n ≤ 4 ∧
  ∀ (r : Addr) (bs : List Int) (H' : Hp), Drew p a H H' → H' r = some (.tup (bs.map V.int)) → bs.length = n → (∀ b ∈ bs, b = 0 ∨ b = 1) → Q (.ref r) H'
theorem ok__law_begun {P : Program} {w : World} {K : PySem.W.Frag} {mg : Str → Option Value} {base : Heap} {f : Addr} {fd : FuncData} (F : Df K mg "_law_begun" s__law_begun f fd ["d", "seats"]) (T : Txt mg)
    (c__law_draw : Cl P w K mg base 1 "_law_draw" (sp__law_draw K))
    (c__law_pick : Cl P w K mg base 2 "_law_pick" (sp__law_pick K)) : FnOk P w K mg base CX0 3 f fd ["d", "seats"] (sp__law_begun K) := by
  refine F.ok sc__law_begun (fun vs H Q E h => ?_) (fun cdv A outer s H vs Q E hr h => ?_)
  · obtain ⟨p, a, n, rfl, _⟩ := h
    rfl
  · obtain ⟨p, a, n, rfl, hd, n0, n4, q⟩ := h
    refine ⟨_, (pss_cons (ps_setLc (i := 2) (own := [("seat", 3)]) (g := gName 3) (tt := tYes) rfl sc__law_begun.nd rfl rfl (sw_true rfl rfl rfl (by decide +kernel)) (pi_range1 rfl T.b_range (pa_cons (pv 1) pa_nil)) (blkOk_by (own := [("seat", 3)]) (N := N__law_begun) (sc := defScope s__law_begun) (by decide +kernel)) (fun _ _ _ _ _ => (pg_name (i := 3) sc__law_begun.nd rfl (Or.inl rfl))) (fun _ _ _ _ _ => pts_nil) (fun _ _ _ _ _ => (pe_cl c__law_pick hr (by decide) rfl (pa_cons (pv 0) (pa_cons (pe_lst (pa_cons pe_int (pa_cons pe_int (pa_cons pe_int pa_nil)))) pa_nil)))))
      (pss_cons (ps_set (i := 4) sc__law_begun.nd rfl (Or.inl rfl) (pe_cl c__law_draw hr (by decide) rfl (pa_cons (pv 0) (pa_cons (pv 1) pa_nil))))
      (pss_cons (ps_asg pe_int (pg_sub (pv 2) (pv 4) set_list))
      (pss_one (ps_ret (pe_callTy (T := "tuple") (r := rTupOf K) c_tup (by rfl) T.b_tuple (by decide +kernel) (pa_cons (pv 2) pa_nil))))))), ?_⟩
    try dsimp only [cxOf, Cx.nox, Cx.wish]
    refine st_of (σ' := [some _, some _, none, none, none]) rfl ?_
    wtm_at "jw"
    intro D hD
    have nD := hd.ne_none hD
    refine l_range (fun i H' => Drew p a H H' ∧ ∃ bs : List Int, H' D = some (.lst (bs.map V.int)) ∧ bs.length = i ∧ ∀ b ∈ bs, b = 0 ∨ b = 1) ⟨hd.drew.new hD, [], upd_same, rfl, by simp⟩ (fun i H' hi h => ?_) (fun H' h => ?_)
    · obtain ⟨d1, bs, hD1, hl, hb⟩ := h
      wtm_at "jw"
      refine ⟨rfl, ?_⟩
      wtm_at "jw"
      intro B hB
      wtm_at "jw"
      refine pickL (fun z => z = 0 ∨ z = 1) [1, 1, 0] d1 hB rfl (by decide) (by decide) (by simp) fun z H2 hz e d2 => ?_
      have hD2 := e.kp _ _ hD1 nD
      refine ⟨_, hD2, small1000 (by rw [List.length_map]; omega), d2.put hd hD, bs ++ [z], by rw [upd_same, List.map_append]; rfl, by simp [hl], fun b hb' => ?_⟩
      rcases List.mem_append.mp hb' with h | h
      · exact hb b h
      · rw [List.mem_singleton.mp h]; exact hz
    · obtain ⟨d1, bs, hD1, hl, hb⟩ := h
      wtm_at "jw"
      refine drawL d1 (by omega) (by omega) fun z H2 z0 z1 e d2 => ?_
      have hD2 := e.kp _ _ hD1 nD
      have ix := ixN_of (n := (bs.map V.int).length) (i := z) z0 (by rw [List.length_map]; omega)
      wtm_at "jw"
      intro r hr'
      refine q r (bs.set z.toNat 1) _ ((d2.put hd hD).new hr') ?_ (by rw [List.length_set, hl]; omega) fun b hb' => ?_
      · rw [upd_same, List.map_set]
      · rcases List.mem_or_eq_of_mem_set hb' with h | h
        · exact hb b h
        · exact .inr h
theorem Drew.step {p a e f : Addr} {H H3 H4 : Hp} (d : Drew p a H H3) (hd : DrawAt H p a) (he : H e = none) (hf : H f = none) (k : ∀ b o, H3 b = some o → b ≠ e → b ≠ f → H4 b = some o) : Drew p a H H4 := by
  have n1 := hd.ne_none he
  have n2 := hd.ne_none hf
  have m1 := hd.ne_noneA he
  have m2 := hd.ne_noneA hf
  obtain ⟨ns, pos, pend, seed, h1, h2, h3, h4⟩ := d.at_
  refine ⟨⟨ns, pos, pend, seed, k _ _ h1 n1.symm n2.symm, k _ _ h2 m1.symm m2.symm, h3, h4⟩, fun b u hb hne => ?_⟩
  exact k _ _ (d.kp _ _ hb hne) (ne_of_none hb he) (ne_of_none hb hf)
theorem LPr.drew {p a f : Addr} {H H' : Hp} {fo : List (Int × Int)} (h : LPr H f fo) (d : DrawAt H p a) (e : Drew p a H H') (n : f ≠ p) : LPr H' f fo := by
  obtain ⟨xs, hp⟩ := d.some
  exact h.kp e.kp hp n
def entB (bs : List Int) : List (Option Int) := bs.map fun b => if b = 1 then some 0 else none
def nonB (bs : List Int) : List (Option Int) := bs.map fun _ => none
theorem takeE_len {o pa ho t : Int} {en : List (Option Int)} : (takeE o pa ho t en).length = en.length := by
  unfold takeE
  split
  · split
    · rfl
    · rw [List.length_set]
  · rfl
theorem takeF_len {o pa ho t : Int} {en : List (Option Int)} {fo : List (Int × Int)} : (takeF o pa ho t en fo).length ≤ fo.length + 1 := by
  unfold takeF
  split
  · split
    · simp
    · omega
  · omega
theorem takeF_small {o pa ho t : Int} {en : List (Option Int)} {fo : List (Int × Int)} (h0 : 0 ≤ o) (h : ∀ q ∈ fo, 1 ≤ q.2 ∧ q.2 ≤ 3) : ∀ q ∈ takeF o pa ho t en fo, 1 ≤ q.2 ∧ q.2 ≤ 3 := by
  unfold takeF
  split
  · rename_i hc
    split
    · intro q hq
      rcases List.mem_append.mp hq with hq | hq
      · exact h q hq
      · rw [List.mem_singleton.mp hq]
        have : o ≠ 0 := fun z => by subst z; simp [cnts] at hc
        show 1 ≤ o ∧ o ≤ 3
        omega
    · exact h
  · exact h
def pastK (e g f : Addr) : List (L2.Key × V) := [(.inr "entered", .ref e), (.inr "gone", .ref g), (.inr "forces", .ref f)]
theorem past_e (e g f : Addr) : valV (pastK e g f) (.inr "entered") = some (.ref e) := rfl
theorem past_g (e g f : Addr) : valV (pastK e g f) (.inr "gone") = some (.ref g) := rfl
theorem past_f (e g f : Addr) : valV (pastK e g f) (.inr "forces") = some (.ref f) := rfl
theorem past_m (e g f : Addr) : mergeK [] (pastK e g f) = pastK e g f := rfl
def sp__law_past (K : PySem.W.Frag) : Sp := fun vs H Q _ => ∃ (p a bg : Addr) (bs : List Int) (ho : Int) (ticks : Nat), vs = [.ref p, .ref bg, .int ho, .int (ticks : Int)] ∧ DrawAt H p a ∧ SqT K H bg (bs.map V.int) ∧ 0 < bs.length ∧ bs.length ≤ 4 ∧ ticks ≤ 24 ∧
  ∀ (r e g f : Addr) (en go : List (Option Int)) (fo : List (Int × Int)) (H' : Hp), Drew p a H H' → H' r = some (.dK (pastK e g f)) → H' e = some (.lst (en.map ovO)) → H' g = some (.lst (go.map ovO)) → LPr H' f fo → H e = none → H g = none → H f = none →
    en.length = bs.length → go.length = bs.length → (∀ q ∈ fo, 1 ≤ q.2 ∧ q.2 ≤ 3) → fo.length ≤ 24 → Q (.ref r) H'
theorem ok__law_past {P : Program} {w : World} {K : PySem.W.Frag} {mg : Str → Option Value} {base : Heap} {f : Addr} {fd : FuncData} (F : Df K mg "_law_past" s__law_past f fd ["d", "begin", "holding", "ticks"]) (T : Txt mg)
    (c__law_pick : Cl P w K mg base 2 "_law_pick" (sp__law_pick K))
    (c__law_present : Cl P w K mg base 1 "_law_present" (sp__law_present K))
    (c__law_take_order : Cl P w K mg base 2 "_law_take_order" (sp__law_take_order K))
    (c__law_draw : Cl P w K mg base 1 "_law_draw" (sp__law_draw K)) : FnOk P w K mg base CX0 3 f fd ["d", "begin", "holding", "ticks"] (sp__law_past K) := by
  refine F.ok sc__law_past (fun vs H Q E h => ?_) (fun cdv A outer s H vs Q E hr h => ?_)
  · obtain ⟨p, a, bg, bs, ho, ticks, rfl, _⟩ := h
    rfl
  · obtain ⟨p, a, bg, bs, ho, ticks, rfl, hd, hb, b0, b4, t24, q⟩ := h
    refine ⟨_, (pss_cons (ps_setLc (i := 4) (own := [("flag", 5)]) (g := gName 5) (tt := tYes) rfl sc__law_past.nd rfl rfl (sw_true rfl rfl rfl (by decide +kernel)) (pi_tup (pv 1)) (blkOk_by (own := [("flag", 5)]) (N := N__law_past) (sc := defScope s__law_past) (by decide +kernel)) (fun _ _ _ _ _ => (pg_name (i := 5) sc__law_past.nd rfl (Or.inl rfl))) (fun _ _ _ _ _ => pts_nil) (fun _ _ _ _ _ => (pe_ifExp (pt_cmpR op_eq (pv 5) pe_int (nomark _)) pe_int pe_non)))
      (pss_cons (ps_setLc (i := 6) (own := [("flag", 5)]) (g := gName 5) (tt := tYes) rfl sc__law_past.nd rfl rfl (sw_true rfl rfl rfl (by decide +kernel)) (pi_tup (pv 1)) (blkOk_by (own := [("flag", 5)]) (N := N__law_past) (sc := defScope s__law_past) (by decide +kernel)) (fun _ _ _ _ _ => (pg_name (i := 5) sc__law_past.nd rfl (Or.inl rfl))) (fun _ _ _ _ _ => pts_nil) (fun _ _ _ _ _ => pe_non))
      (pss_cons (ps_set (i := 7) sc__law_past.nd rfl (Or.inl rfl) (pe_lst pa_nil))
      (pss_cons (ps_set (i := 8) sc__law_past.nd rfl (Or.inl rfl) (pe_cl c__law_pick hr (by decide) rfl (pa_cons (pv 0) (pa_cons (pe_lst (pa_cons pe_int (pa_cons pe_int (pa_cons pe_int (pa_cons pe_int (pa_cons pe_int pa_nil)))))) pa_nil))))
      (pss_cons (ps_for PassesOwn.never rfl (pi_range1 rfl T.b_range (pa_cons (pv 3) pa_nil)) (pg_name (i := 9) sc__law_past.nd rfl (Or.inl rfl)) (pss_cons (ps_for PassesOwn.never rfl (pi_list (pe_cl c__law_present hr (by decide) rfl (pa_cons (pv 4) (pa_cons (pv 6) (pa_cons (pv 9) pa_nil))))) (pg_name (i := 10) sc__law_past.nd rfl (Or.inl rfl)) (pss_one (ps_if (pt_cmpR op_eq (pe_cl c__law_draw hr (by decide) rfl (pa_cons (pv 0) (pa_cons (pv 8) pa_nil))) pe_int (nomark _)) (pss_one (ps_asg (pv 9) (pg_sub (pv 6) (pv 10) set_list))) pss_nil)))
      (pss_one (ps_if (pt_cmpR op_gt (pe_callB (id := "len") (r := qLen K) c_len (by rfl) T.b_len (by decide +kernel) (pa_cons (pe_cl c__law_present hr (by decide) rfl (pa_cons (pv 4) (pa_cons (pv 6) (pa_cons (pv 9) pa_nil)))) pa_nil)) pe_int (nomark _)) (pss_cons (ps_set (i := 11) sc__law_past.nd rfl (Or.inl rfl) (pe_cl c__law_pick hr (by decide) rfl (pa_cons (pv 0) (pa_cons (pe_lst (pa_cons pe_int (pa_cons pe_int (pa_cons (pe_op op_add pe_int (pe_cl c__law_draw hr (by decide) rfl (pa_cons (pv 0) (pa_cons (pe_callB (id := "len") (r := qLen K) c_len (by rfl) T.b_len (by decide +kernel) (pa_cons (pv 1) pa_nil)) pa_nil)))) (pa_cons (pe_op op_add pe_int (pe_cl c__law_draw hr (by decide) rfl (pa_cons (pv 0) (pa_cons pe_int pa_nil)))) pa_nil))))) pa_nil))))
      (pss_one (ps_expr (pe_cl c__law_take_order hr (by decide) rfl (pa_cons (pv 11) (pa_cons pe_int (pa_cons pe_int (pa_cons (pv 2) (pa_cons (pv 9) (pa_cons (pv 4) (pa_cons (pv 7) pa_nil))))))))))) pss_nil))))
      (pss_one (ps_ret (pe_disp (pps_cons pe_str (pv 4) (pps_cons pe_str (pv 6) (pps_cons pe_str (pv 7) pps_nil))) (by rfl) (by rfl) (fun z => by cases z) (by decide))))))))), ?_⟩
    try dsimp only [cxOf, Cx.nox, Cx.wish]
    refine st_of (σ' := [some _, some _, some _, some _, none, none, none, none, none, none, none, none]) rfl ?_
    wtm_at "jw"
    intro E hE
    refine l_tup (xs := bs.map V.int) (fun i H' => Same H H' ∧ H' E = some (.lst ((entB (bs.take i)).map ovO))) ⟨same_new hE, upd_same⟩ (fun i H' _ h => Same.tup h.1 hb) (fun i x H' hi h => ?_) (fun H1 h => ?_)
    · obtain ⟨s1, hE1⟩ := h
      obtain ⟨z, rfl, e1, e2, hlt⟩ := ints_at hi
      have hsz : ((entB (bs.take i)).map ovO).length < sizeLine := small1000 (by unfold entB; rw [List.length_map, List.length_map, List.length_take]; omega)
      wtm_at "jw"
      refine ⟨rfl, ?_⟩
      wtm_at "jw"
      refine c_dec (fun h => ?_) (fun h => ?_)
      · wtm_at "jw"
        exact ⟨_, hE1, hsz, put_same s1 hE, by rw [upd_same, e2]; unfold entB; rw [List.map_append, List.map_append, List.map_singleton, if_pos h]; rfl⟩
      · wtm_at "jw"
        exact ⟨_, hE1, hsz, put_same s1 hE, by rw [upd_same, e2]; unfold entB; rw [List.map_append, List.map_append, List.map_singleton, if_neg h]; rfl⟩
    obtain ⟨s1, hE1⟩ := h
    rw [List.length_map, List.take_length] at hE1
    have hb1 := Same.tup s1 hb
    wtm_at "jw"
    intro G hG
    have nEG : E ≠ G := ne_of_none hE1 hG
    refine l_tup (xs := bs.map V.int) (fun i H' => Same H1 H' ∧ H' G = some (.lst ((nonB (bs.take i)).map ovO))) ⟨same_new hG, upd_same⟩ (fun i H' _ h => Same.tup h.1 hb1) (fun i x H' hi h => ?_) (fun H2 h => ?_)
    · obtain ⟨s2, hG1⟩ := h
      obtain ⟨z, rfl, e1, e2, hlt⟩ := ints_at hi
      have hsz : ((nonB (bs.take i)).map ovO).length < sizeLine := small1000 (by unfold nonB; rw [List.length_map, List.length_map, List.length_take]; omega)
      wtm_at "jw"
      refine ⟨rfl, ?_⟩
      wtm_at "jw"
      exact ⟨_, hG1, hsz, put_same s2 hG, by rw [upd_same, e2]; unfold nonB; rw [List.map_append, List.map_append, List.map_singleton]; rfl⟩
    obtain ⟨s2, hG2⟩ := h
    rw [List.length_map, List.take_length] at hG2
    have hE2 := s2 _ _ hE1
    wtm_at "jw"
    intro F hF
    have nEF : E ≠ F := ne_of_none hE2 hF
    have nGF : G ≠ F := ne_of_none hG2 hF
    have hG0 : H G = none := s1.free hG
    have s12 := s1.trans s2
    have hF0 : H F = none := s12.free hF
    have w1 : Drew p a H (upd H2 F (.lst [])) := hd.drew.same (s12.trans (same_new hF))
    have hE3 := same_new (o := .lst []) hF _ _ hE2
    have hG3 := same_new (o := .lst []) hF _ _ hG2
    have hF3 : LPr (upd H2 F (.lst [])) F [] := ⟨[], upd_same, .nil⟩
    generalize upd H2 F (.lst []) = H3 at w1 hE3 hG3 hF3 ⊢
    have nE := hd.ne_none hE
    have nG := hd.ne_none hG0
    have nF := hd.ne_none hF0
    wtm_at "jw"
    intro B hB
    wtm_at "jw"
    refine pickL (fun z => 0 < z ∧ z < 100) [1, 12, 30, 60, 5] w1 hB rfl (by decide) (by decide) (by decide) fun rate H4 hrate e1 w2 => ?_
    have hE4 := e1.kp _ _ hE3 nE
    have hG4 := e1.kp _ _ hG3 nG
    have hF4 := hF3.drew w1.at_ e1 nF
    wtm_at "jw"
    refine f_range (fun i σ H' => Drew p a H H' ∧ ∃ (en go : List (Option Int)) (fo : List (Int × Int)) (v1 v2 v3 v4 : Option V), H' E = some (.lst (en.map ovO)) ∧ H' G = some (.lst (go.map ovO)) ∧ LPr H' F fo ∧ en.length = bs.length ∧ go.length = bs.length ∧ (∀ q ∈ fo, 1 ≤ q.2 ∧ q.2 ≤ 3) ∧ fo.length ≤ i ∧
        σ = [some (.ref p), some (.ref bg), some (.int ho), some (.int (ticks : Int)), some (.ref E), v1, some (.ref G), some (.ref F), some (.int rate), v2, v3, v4])
      ⟨w2, entB bs, nonB bs, [], none, none, none, none, hE4, hG4, hF4, by simp [entB], by simp [nonB], by simp, Nat.le_refl _, rfl⟩ (fun i σ H' hi h => ?_) (fun σ H' h => ?_)
    · obtain ⟨w3, en, go, fo, v1, v2, v3, v4, hE5, hG5, hF5, len, lgo, hfo, lfo, rfl⟩ := h
      wtm_at "jw"
      refine ⟨E, G, en, go, _, rfl, hE5, hG5, by omega, by omega, fun r H5 s5 nr hr5 => ?_⟩
      have w4 := w3.same s5
      have nr0 := w3.free nr
      have nrp := hd.ne_none nr0
      have nrG : r ≠ G := (ne_of_none hG5 nr).symm
      have hE6 := s5 _ _ hE5
      have hG6 := s5 _ _ hG5
      have hF6 := hF5.same s5
      wtm_at "jw"
      refine f_list (xs := (presL en go (0 + (i : Int)) en.length).map iN) (fun k σ H' => Drew p a H H' ∧ H' r = some (.lst ((presL en go (0 + (i : Int)) en.length).map iN)) ∧ H' E = some (.lst (en.map ovO)) ∧ LPr H' F fo ∧ ∃ (go' : List (Option Int)) (v1 v3 v4 : Option V), H' G = some (.lst (go'.map ovO)) ∧ go'.length = bs.length ∧
          σ = [some (.ref p), some (.ref bg), some (.int ho), some (.int (ticks : Int)), some (.ref E), v1, some (.ref G), some (.ref F), some (.int rate), some (.int (0 + (i : Int))), v3, v4])
        ⟨w4, hr5, hE6, hF6, go, _, _, _, hG6, lgo, rfl⟩ (fun k σ H' _ h => SqL.of h.2.1) (fun k x σ H' hk h => ?_) (fun σ H' h => ?_)
      · obtain ⟨w5, hr6, hE7, hF7, go', v1, v3, v4, hG7, lgo', rfl⟩ := h
        rw [List.getElem?_map] at hk
        obtain ⟨y, hy, rfl⟩ : ∃ y, (presL en go (0 + (i : Int)) en.length)[k]? = some y ∧ x = iN y := by
          cases e : (presL en go (0 + (i : Int)) en.length)[k]? with
          | none => rw [e] at hk; cases hk
          | some y => rw [e] at hk; exact ⟨y, rfl, (Option.some.inj hk).symm⟩
        have hyl : y < en.length := by
          have := List.mem_of_getElem? hy
          unfold presL at this
          rw [List.mem_filter, List.mem_range] at this
          exact this.1
        unfold iN
        wtm_at "jw"
        refine drawL w5 hrate.1 (by omega) fun z H7 z0 z1 e w6 => ?_
        have hr7 := e.kp _ _ hr6 nrp
        have hE8 := e.kp _ _ hE7 nE
        have hG8 := e.kp _ _ hG7 nG
        have hF8 := hF7.drew w5.at_ e nF
        have ix := ixN_of (n := (go'.map ovO).length) (i := (y : Int)) (by omega) (by rw [List.length_map]; omega)
        wtm_at "jw"
        refine c_dec (fun h => ?_) (fun h => ?_)
        · wtm_at "jw"
          refine ⟨w6.put hd hG0, by rw [upd_ne nrG]; exact hr7, by rw [upd_ne nEG]; exact hE8, hF8.kp Kp.upd hG8 nGF.symm, go'.set y (some (0 + (i : Int))), _, _, _, ?_, by rw [List.length_set, lgo'], rfl⟩
          rw [upd_same, List.map_set]; rfl
        · wtm_at "jw"
          exact ⟨w6, hr7, hE8, hF8, go', _, _, _, hG8, lgo', rfl⟩
      · obtain ⟨w5, hr6, hE7, hF7, go', v1, v3, v4, hG7, lgo', rfl⟩ := h
        wtm_at "jw"
        refine ⟨E, G, en, go', _, rfl, hE7, hG7, by omega, by omega, fun r2 H7 s7 nr2 hr7 => ?_⟩
        have w6 := w5.same s7
        have hE8 := s7 _ _ hE7
        have hG8 := s7 _ _ hG7
        have hF8 := hF7.same s7
        have hb8 := (w6.tps hd).sq hb
        wtm_at "jw"
        refine c_dec (fun h => ?_) (fun h => ?_)
        · wtm_at "jw"
          rw [List.length_map]
          refine drawL w6 (by omega) (by omega) fun z H8 z0 z1 e w7 => ?_
          have hE9 := e.kp _ _ hE8 nE
          have hG9 := e.kp _ _ hG8 nG
          have hF9 := hF8.drew w6.at_ e nF
          wtm_at "jw"
          refine drawL w7 (by omega) (by omega) fun y H9 y0 y1 e w8 => ?_
          have hE10 := e.kp _ _ hE9 nE
          have hG10 := e.kp _ _ hG9 nG
          have hF10 := hF9.drew w7.at_ e nF
          wtm_at "jw"
          intro B2 hB2
          wtm_at "jw"
          refine pickL (fun z => 0 ≤ z ∧ z < 100) [0, 0, 4 + z, 1 + y] w8 hB2 rfl (by simp) (by simp) (by simp; omega) fun wish H10 hwish e w9 => ?_
          have hE11 := e.kp _ _ hE10 nE
          have hG11 := e.kp _ _ hG10 nG
          have hF11 := hF10.drew w8.at_ e nF
          wtm_at "jw"
          refine ⟨wish, 1, 3, ho, _, E, F, en, fo, rfl, hE11, hF11, nEF, hwish.1, by decide, by decide, by omega, fun H11 keep tp hE12 hF12 => ?_⟩
          wtm_at "jw"
          refine ⟨w9.step hd hE hF0 keep, _, go', _, _, _, _, _, hE12, keep _ _ hG11 nEG.symm nGF, hF12, by rw [takeE_len, len], lgo', takeF_small (by rw [Int.ediv_one]; exact hwish.1) hfo, Nat.le_trans takeF_len (by omega), rfl⟩
        · wtm_at "jw"
          exact ⟨w6, en, go', fo, _, _, _, _, hE8, hG8, hF8, len, lgo', hfo, by omega, rfl⟩
    · obtain ⟨w3, en, go, fo, v1, v2, v3, v4, hE5, hG5, hF5, len, lgo, hfo, lfo, rfl⟩ := h
      wtm_at "jw"
      refine i_disp fun R hR => ?_
      wtm_at "jw"
      refine ⟨upd_same, pastK E G F, rfl, by simp [pastK], ?_⟩
      rw [upd_upd, past_m]
      exact q R E G F en go fo _ (w3.new hR) upd_same (same_new hR _ _ hE5) (same_new hR _ _ hG5) (hF5.same (same_new hR)) hE hG0 hF0 len lgo hfo (by omega)
def cutE (t : Int) : Option Int → Option Int
  | some x => if x ≤ t then some x else none
  | none => none
def cutG (t : Int) : Option Int → Option Int
  | some x => if x < t then some x else none
  | none => none
def pendF (fo : List (Int × Int)) (ho t : Int) : List (Int × Int) := fo.filter fun p => decide (t < p.1) && decide (p.1 < t + ho)
def pendE (en : List (Option Int)) (ho t : Int) : Nat → List (Int × Int)
  | 0 => []
  | n + 1 => pendE en ho t n ++ (match og en n with
    | some x => if t < x ∧ x < t + ho then [(x, 4 + (n : Int))] else []
    | none => [])
def SortsTo (ps L : List (Int × Int)) : Prop := ps.Perm L ∧ ps.Pairwise fun p q => SrtO.lexB q p = false
def factsD (t f : Int) (en go : List (Option Int)) (pend : List (Int × Int)) : PyData := .tuple [.str "facts", .int t, .int f, .tuple (en.map oD), .tuple (go.map oD), .tuple (pend.map pD)]
theorem Prw.tds {K : PySem.W.Frag} {H : Hp} {rs : List Addr} {rows : List (Int × Int)} (w : Prw H rs rows) : TDs K H (rs.map V.ref) (rows.map pD) := by
  refine TDs.of (by simp [w.1]) fun i x d h1 h2 => ?_
  obtain ⟨r, p, rfl, e1, e2, hr, _⟩ := w.at h1
  rw [List.getElem?_map, e2] at h2
  cases h2
  exact TD.of (xs := [.int p.1, .int p.2]) hr (TDs.ints [p.1, p.2])
theorem og_take {os : List (Option Int)} {x : V} {i : Nat} (h : (os.map ovO)[i]? = some x) : x = ovO (og os i) ∧ os.take (i + 1) = os.take i ++ [og os i] ∧ i < os.length := by
  rw [List.getElem?_map] at h
  unfold og
  cases e : os[i]? with
  | none => rw [e] at h; cases h
  | some o =>
    rw [e] at h
    exact ⟨(Option.some.inj h).symm, by rw [List.take_add_one, e]; rfl, (List.getElem?_eq_some_iff.mp e).1⟩
/-- the pair at an address -/
def kP (H : Hp) : V → Int × Int
  | .ref t => match H t with
    | some (.tup [.int i, .int j]) => (i, j)
    | _ => (0, 0)
  | _ => (0, 0)
def adr : V → Addr
  | .ref t => t
  | _ => 0
theorem kP_of {H : Hp} {t : Addr} {p : Int × Int} (h : H t = some (.tup [.int p.1, .int p.2])) : kP H (.ref t) = p := by
  simp only [kP, h]
theorem Prw.keys {H : Hp} : ∀ {rs : List Addr} {rows : List (Int × Int)}, Prw H rs rows → (rs.map V.ref).map (kP H) = rows
  | [], [], _ => rfl
  | r :: rs, p :: rows, h => by
    rw [List.map_cons, List.map_cons, kP_of (h.2 0 r p rfl rfl), Prw.keys (rs := rs) (rows := rows) ⟨by simpa using h.1, fun i r' p' h1 h2 => h.2 (i + 1) r' p' (by simpa using h1) (by simpa using h2)⟩]
  | [], _ :: _, h => by cases h.1
  | _ :: _, [], h => by cases h.1
/-- sorted(a list of pairs) -/
theorem i_sortP {K : PySem.W.Frag} {H : Hp} {Q : VK} {a : Addr} {rows : List (Int × Int)} (h : LPr H a rows)
    (q : ∀ r H' ps, Same H H' → SortsTo ps rows → H r = none → LPr H' r ps → Q (.ref r) H') : rSortedPO K [.ref a] H Q := by
  obtain ⟨rs, ha, w⟩ := h
  have mem : ∀ x ∈ rs.map V.ref, ∃ t, x = V.ref t ∧ H t = some (.tup [.int (kP H x).1, .int (kP H x).2]) := fun x hx => by
    obtain ⟨i, hi⟩ := List.getElem?_of_mem hx
    obtain ⟨r, p, rfl, _, _, hr, _⟩ := w.at hi
    exact ⟨r, rfl, by rw [kP_of hr]; exact hr⟩
  refine ⟨a, rs.map V.ref, kP H, rfl, SqL.of ha, mem, fun ys p srt stb hp => ?_⟩
  have pm := stb.perm
  have e1 : (ys.map adr).map V.ref = ys := by
    rw [List.map_map]
    conv => rhs; rw [← List.map_id ys]
    refine List.map_congr_left fun y hy => ?_
    obtain ⟨t, rfl, _⟩ := mem y (pm.mem_iff.mp hy)
    rfl
  refine q p _ (ys.map (kP H)) (same_new hp) ⟨?_, ?_⟩ hp ⟨ys.map adr, by rw [upd_same, e1], ?_⟩
  · have := pm.map (kP H)
    rw [w.keys] at this
    exact this
  · rw [List.pairwise_map]
    exact srt
  · refine Prw.same (H := H) ⟨by simp, fun i r' p' h1 h2 => ?_⟩ (same_new hp)
    rw [List.getElem?_map] at h1 h2
    cases e : ys[i]? with
    | none => rw [e] at h1; cases h1
    | some y =>
      rw [e] at h1 h2
      cases h1
      cases h2
      obtain ⟨t, rfl, ht⟩ := mem y (pm.mem_iff.mp (List.mem_of_getElem? e))
      exact ht
theorem pendE_len (en : List (Option Int)) (ho t : Int) : ∀ n, (pendE en ho t n).length ≤ n
  | 0 => Nat.le_refl _
  | n + 1 => by
    have ih := pendE_len en ho t n
    rw [pendE, List.length_append]
    split
    · split <;> simp <;> omega
    · simp; omega
def sp__law_behind (K : PySem.W.Frag) : Sp := fun vs H Q _ => ∃ (r e g f : Addr) (en go : List (Option Int)) (fo : List (Int × Int)) (ho t : Int), vs = [.ref r, .int ho, .int t] ∧ H r = some (.dK (pastK e g f)) ∧ H e = some (.lst (en.map ovO)) ∧ H g = some (.lst (go.map ovO)) ∧ LPr H f fo ∧ en.length ≤ 100 ∧ go.length ≤ 100 ∧ fo.length ≤ 100 ∧
  ∀ (v : V) (H' : Hp) (pend : List (Int × Int)), Same H H' → SortsTo pend (pendF fo ho t ++ pendE en ho t en.length) → TD K H' v (factsD t (forceL fo t) (en.map (cutE t)) (go.map (cutG t)) pend) → Q v H'
theorem ok__law_behind {P : Program} {w : World} {K : PySem.W.Frag} {mg : Str → Option Value} {base : Heap} {f : Addr} {fd : FuncData} (F : Df K mg "_law_behind" s__law_behind f fd ["past", "holding", "tick"]) (T : Txt mg)
    (c__law_force : Cl P w K mg base 1 "_law_force" (sp__law_force K)) : FnOk P w K mg base CX0 2 f fd ["past", "holding", "tick"] (sp__law_behind K) := by
  refine F.ok sc__law_behind (fun vs H Q E h => ?_) (fun cdv A outer s H vs Q E hr h => ?_)
  · obtain ⟨r, e, g, f, en, go, fo, ho, t, rfl, _⟩ := h
    rfl
  · obtain ⟨r, e, g, f, en, go, fo, ho, t, rfl, hr0, he, hg, hf, len, lgo, lfo, q⟩ := h
    have hu := hu_of hr
    refine ⟨_, (pss_cons (ps_setLc (i := 3) (own := [("one", 4)]) (g := gName 4) (tt := tYes) rfl sc__law_behind.nd rfl rfl (sw_true rfl rfl rfl (by decide +kernel)) (pi_list (pe_dget hu (pv 0) pe_str (fun _ _ => rfl))) (blkOk_by (own := [("one", 4)]) (N := N__law_behind) (sc := defScope s__law_behind) (by decide +kernel)) (fun _ _ _ _ _ => (pg_name (i := 4) sc__law_behind.nd rfl (Or.inl rfl))) (fun _ _ _ _ _ => pts_nil) (fun _ _ _ _ _ => (pe_ifExp (PW.pt (pw_and (pt_cmpR o_notN (pv 4) pe_non (nomark _)) (pw_and1 (pt_cmpR op_le (pv 4) (pv 2) (nomark _))))) (pv 4) pe_non)))
      (pss_cons (ps_setLc (i := 5) (own := [("one", 4)]) (g := gName 4) (tt := tYes) rfl sc__law_behind.nd rfl rfl (sw_true rfl rfl rfl (by decide +kernel)) (pi_list (pe_dget hu (pv 0) pe_str (fun _ _ => rfl))) (blkOk_by (own := [("one", 4)]) (N := N__law_behind) (sc := defScope s__law_behind) (by decide +kernel)) (fun _ _ _ _ _ => (pg_name (i := 4) sc__law_behind.nd rfl (Or.inl rfl))) (fun _ _ _ _ _ => pts_nil) (fun _ _ _ _ _ => (pe_ifExp (PW.pt (pw_and (pt_cmpR o_notN (pv 4) pe_non (nomark _)) (pw_and1 (pt_cmpR op_lt (pv 4) (pv 2) (nomark _))))) (pv 4) pe_non)))
      (pss_cons (ps_setLc (i := 6) (own := [("row", 7)]) (g := gName 7) rfl sc__law_behind.nd rfl rfl (sw_true rfl rfl rfl (by decide +kernel)) (pi_list (pe_dget hu (pv 0) pe_str (fun _ _ => rfl))) (blkOk_by (own := [("row", 7)]) (N := N__law_behind) (sc := defScope s__law_behind) (by decide +kernel)) (fun _ _ _ _ _ => (pg_name (i := 7) sc__law_behind.nd rfl (Or.inl rfl))) (fun _ _ _ _ _ => pts_one (pt_chain op_lt op_lt (pv 2) (pe_ix (r := rIxT K) ix_tup (pv 7) pe_int (fun _ _ => rfl)) (pe_op op_add (pv 2) (pv 1)))) (fun _ _ _ _ _ => (pv 7)))
      (pss_cons (ps_for PassesOwn.never rfl (pi_range1 rfl T.b_range (pa_cons (pe_callB (id := "len") (r := qLen K) c_len (by rfl) T.b_len (by decide +kernel) (pa_cons (pv 3) pa_nil)) pa_nil)) (pg_name (i := 8) sc__law_behind.nd rfl (Or.inl rfl)) (pss_cons (ps_set (i := 9) sc__law_behind.nd rfl (Or.inl rfl) (pe_ix (r := rIxL K) ix_list (pe_dget hu (pv 0) pe_str (fun _ _ => rfl)) (pv 8) (fun _ _ => rfl)))
      (pss_one (ps_if (PW.pt (pw_and (pt_cmpR o_notN (pv 9) pe_non (nomark _)) (pw_and1 (pt_chain op_lt op_lt (pv 2) (pv 9) (pe_op op_add (pv 2) (pv 1)))))) (pss_one (ps_expr (pe_bmK (K := K) rfl PySem.F.plainAttrs_list PySem.F.slot_list_append PySem.F.type_list_append mt_append (pv 6) (pa_cons (pe_tup (pa_cons (pv 9) (pa_cons (pe_op op_add pe_int (pv 8)) pa_nil))) pa_nil)))) pss_nil))))
      (pss_one (ps_ret (pe_tup (pa_cons pe_str (pa_cons (pv 2) (pa_cons (pe_cl c__law_force hr (by decide) rfl (pa_cons (pe_dget hu (pv 0) pe_str (fun _ _ => rfl)) (pa_cons (pv 2) pa_nil))) (pa_cons (pe_callTy (T := "tuple") (r := rTupOf K) c_tup (by rfl) T.b_tuple (by decide +kernel) (pa_cons (pv 3) pa_nil)) (pa_cons (pe_callTy (T := "tuple") (r := rTupOf K) c_tup (by rfl) T.b_tuple (by decide +kernel) (pa_cons (pv 5) pa_nil)) (pa_cons (pe_callTy (T := "tuple") (r := rTupOf K) c_tup (by rfl) T.b_tuple (by decide +kernel) (pa_cons (pe_callB (id := "sorted") (r := rSortedPO K) cr_sortedPO (by rfl) T.b_sorted (by decide +kernel) (pa_cons (pv 6) pa_nil)) pa_nil)) pa_nil))))))))))))), ?_⟩
    try dsimp only [cxOf, Cx.nox, Cx.wish]
    refine st_of (σ' := [some _, some _, some _, none, none, none, none, none, none, none]) rfl ?_
    wtm_at "jw"
    refine i_dget ?_
    wtm_at "jw"
    refine i_dgetS (.inl hr0) (past_e e g f) ?_
    wtm_at "jw"
    intro E hE
    refine l_list (xs := en.map ovO) (fun i H' => Same H H' ∧ H' E = some (.lst (((en.take i).map (cutE t)).map ovO))) ⟨same_new hE, upd_same⟩ (fun i H' _ h => SqL.of (h.1 _ _ he)) (fun i x H' hi h => ?_) (fun H1 h => ?_)
    · obtain ⟨s1, hE1⟩ := h
      obtain ⟨rfl, e2, hlt⟩ := og_take hi
      have hsz : (((en.take i).map (cutE t)).map ovO).length < sizeLine := small1000 (by rw [List.length_map, List.length_map, List.length_take]; omega)
      have fin : ∀ (o : Option Int), cutE t (og en i) = o → upd H' E (.lst (((en.take i).map (cutE t)).map ovO ++ [ovO o])) E = some (.lst (((en.take (i + 1)).map (cutE t)).map ovO)) := fun o h => by
        rw [upd_same, e2, List.map_append, List.map_append, List.map_singleton, List.map_singleton, h]
      wtm_at "jw"
      refine ⟨rfl, ?_⟩
      cases e1 : og en i with
      | none =>
        unfold ovO
        wtm_at "jw"
        refine c_noN rfl ?_
        wtm_at "jw"
        exact ⟨_, hE1, hsz, put_same s1 hE, fin none (by rw [e1]; rfl)⟩
      | some x =>
        unfold ovO
        wtm_at "jw"
        refine c_yesN (fun h => by cases h) ?_
        wtm_at "jw"
        refine c_dec (fun h1 => ?_) (fun h1 => ?_)
        · wtm_at "jw"
          exact ⟨_, hE1, hsz, put_same s1 hE, fin (some x) (by rw [e1]; simp [cutE, h1])⟩
        · wtm_at "jw"
          exact ⟨_, hE1, hsz, put_same s1 hE, fin none (by rw [e1]; simp [cutE, h1])⟩
    obtain ⟨s1, hE1⟩ := h
    rw [List.length_map, List.take_length] at hE1
    have hr1 := s1 _ _ hr0
    have hg1 := s1 _ _ hg
    wtm_at "jw"
    refine i_dget ?_
    wtm_at "jw"
    refine i_dgetS (.inl hr1) (past_g e g f) ?_
    wtm_at "jw"
    intro G hG
    refine l_list (xs := go.map ovO) (fun i H' => Same H1 H' ∧ H' G = some (.lst (((go.take i).map (cutG t)).map ovO))) ⟨same_new hG, upd_same⟩ (fun i H' _ h => SqL.of (h.1 _ _ hg1)) (fun i x H' hi h => ?_) (fun H2 h => ?_)
    · obtain ⟨s2, hG1⟩ := h
      obtain ⟨rfl, e2, hlt⟩ := og_take hi
      have hsz : (((go.take i).map (cutG t)).map ovO).length < sizeLine := small1000 (by rw [List.length_map, List.length_map, List.length_take]; omega)
      have fin : ∀ (o : Option Int), cutG t (og go i) = o → upd H' G (.lst (((go.take i).map (cutG t)).map ovO ++ [ovO o])) G = some (.lst (((go.take (i + 1)).map (cutG t)).map ovO)) := fun o h => by
        rw [upd_same, e2, List.map_append, List.map_append, List.map_singleton, List.map_singleton, h]
      wtm_at "jw"
      refine ⟨rfl, ?_⟩
      cases e1 : og go i with
      | none =>
        unfold ovO
        wtm_at "jw"
        refine c_noN rfl ?_
        wtm_at "jw"
        exact ⟨_, hG1, hsz, put_same s2 hG, fin none (by rw [e1]; rfl)⟩
      | some x =>
        unfold ovO
        wtm_at "jw"
        refine c_yesN (fun h => by cases h) ?_
        wtm_at "jw"
        refine c_dec (fun h1 => ?_) (fun h1 => ?_)
        · wtm_at "jw"
          exact ⟨_, hG1, hsz, put_same s2 hG, fin (some x) (by rw [e1]; simp [cutG, h1])⟩
        · wtm_at "jw"
          exact ⟨_, hG1, hsz, put_same s2 hG, fin none (by rw [e1]; simp [cutG, h1])⟩
    obtain ⟨s2, hG1⟩ := h
    rw [List.length_map, List.take_length] at hG1
    have s12 := s1.trans s2
    have hr2 := s2 _ _ hr1
    obtain ⟨rs, hf1, hw1⟩ := hf.same s12
    wtm_at "jw"
    refine i_dget ?_
    wtm_at "jw"
    refine i_dgetS (.inl hr2) (past_f e g f) ?_
    wtm_at "jw"
    intro D hD
    refine l_list (xs := rs.map V.ref) (fun i H' => Same H2 H' ∧ LPr H' D (pendF (fo.take i) ho t)) ⟨same_new hD, [], upd_same, .nil⟩ (fun i H' _ h => SqL.of (h.1 _ _ hf1)) (fun i x H' hi h => ?_) (fun H3 h => ?_)
    · obtain ⟨s3, rs', hD1, hw2⟩ := h
      obtain ⟨r', p, rfl, e1, e2, hr', e3, hlt⟩ := (hw1.same s3).at hi
      have hsz : (rs'.map V.ref).length < sizeLine := small1000 (by
        have := List.length_filter_le (fun p => decide (t < p.1) && decide (p.1 < t + ho)) (fo.take i)
        rw [List.length_map, hw2.1]
        unfold pendF
        rw [List.length_take] at this
        omega)
      have yes : t < p.1 → p.1 < t + ho → pendF (fo.take (i + 1)) ho t = pendF (fo.take i) ho t ++ [p] := fun h1 h2 => by
        unfold pendF
        rw [e3, List.filter_append]
        simp [h1, h2]
      have no : ¬ (t < p.1 ∧ p.1 < t + ho) → pendF (fo.take (i + 1)) ho t = pendF (fo.take i) ho t := fun h1 => by
        unfold pendF
        rw [e3, List.filter_append]
        simp
        omega
      wtm_at "jw"
      refine ⟨rfl, ?_⟩
      wtm_at "jw"
      refine c_dec (fun h1 => ?_) (fun h1 => ?_)
      · wtm_at "jw"
        refine c_dec (fun h2 => ?_) (fun h2 => ?_)
        · wtm_at "jw"
          refine ⟨_, hD1, hsz, put_same s3 hD, ?_⟩
          rw [yes h1 h2]
          exact LPr.add' hD1 hw2 hr'
        · exact ⟨s3, by rw [no (by omega)]; exact ⟨rs', hD1, hw2⟩⟩
      · wtm_at "jw"
        exact ⟨s3, by rw [no (by omega)]; exact ⟨rs', hD1, hw2⟩⟩
    obtain ⟨s3, hD1⟩ := h
    rw [List.length_map, hw1.1, List.take_length] at hD1
    have hE3 := s3 _ _ (s2 _ _ hE1)
    have hG3 := s3 _ _ hG1
    have s13 := s12.trans s3
    have hD0 : H D = none := s12.free hD
    wtm_at "jw"
    rw [List.length_map, List.length_map, Int.toNat_natCast]
    have hDE : D ≠ E := (ne_of_none (s2 _ _ hE1) hD).symm
    have hDG : D ≠ G := (ne_of_none hG1 hD).symm
    refine f_range (fun i σ H' => Same H H' ∧ H' E = some (.lst ((en.map (cutE t)).map ovO)) ∧ H' G = some (.lst ((go.map (cutG t)).map ovO)) ∧ LPr H' D (pendF fo ho t ++ pendE en ho t i) ∧ ∃ (v1 v2 v3 v4 : Option V), σ = [some (.ref r), some (.int ho), some (.int t), some (.ref E), v1, some (.ref G), some (.ref D), v2, v3, v4])
      ⟨s13, hE3, hG3, by rw [pendE, List.append_nil]; exact hD1, _, _, _, _, rfl⟩ (fun i σ H' hi h => ?_) (fun σ H' h => ?_)
    · obtain ⟨s4, hE4, hG4, ⟨rs', hD4, hw4⟩, v1, v2, v3, v4, rfl⟩ := h
      have hr4 := s4 _ _ hr0
      have he4 := s4 _ _ he
      have ae := ov_at (os := en) (j := 0 + (i : Int)) (i := i) (by omega) hi
      have hsz : (rs'.map V.ref).length < sizeLine := small1000 (by
        have := List.length_filter_le (fun p => decide (t < p.1) && decide (p.1 < t + ho)) fo
        have h2 := pendE_len en ho t i
        rw [List.length_map, hw4.1, List.length_append]
        unfold pendF
        omega)
      cases e1 : og en i with
      | none =>
        replace ae : atI (en.map ovO) (0 + (i : Int)) = some V.non := by rw [ae, e1]; rfl
        have e2 : pendE en ho t (i + 1) = pendE en ho t i := by rw [pendE, e1]; simp
        rw [e2]
        wtm_at "jw"
        refine i_dget ?_
        wtm_at "jw"
        refine i_dgetS (.inl hr4) (past_e e g f) ?_
        wtm_at "jw"
        refine c_noN rfl ?_
        wtm_at "jw"
        exact ⟨s4, hE4, hG4, ⟨rs', hD4, hw4⟩, _, _, _, _, rfl⟩
      | some x =>
        replace ae : atI (en.map ovO) (0 + (i : Int)) = some (V.int x) := by rw [ae, e1]; rfl
        have e2 : pendE en ho t (i + 1) = pendE en ho t i ++ (if t < x ∧ x < t + ho then [(x, 4 + (i : Int))] else []) := by rw [pendE, e1]
        rw [e2]
        wtm_at "jw"
        refine i_dget ?_
        wtm_at "jw"
        refine i_dgetS (.inl hr4) (past_e e g f) ?_
        wtm_at "jw"
        refine c_yesN (fun h => by cases h) ?_
        wtm_at "jw"
        refine c_dec (fun h1 => ?_) (fun h1 => ?_)
        · wtm_at "jw"
          refine c_dec (fun h2 => ?_) (fun h2 => ?_)
          · rw [if_pos ⟨h1, h2⟩, ← List.append_assoc]
            wtm_at "jw"
            intro u hu
            have hD5 := same_new (o := .tup [V.int x, V.int (4 + (0 + (i : Int)))]) hu _ _ hD4
            wtm_at "jw"
            have hn := LPr.add hD4 hw4 (x := x) (y := 4 + (i : Int)) hu
            rw [Int.zero_add] at hD5 ⊢
            have s5 := s4.trans (same_new (o := .tup [V.int x, V.int (4 + (i : Int))]) hu)
            exact ⟨put_same s5 hD0, by rw [upd_ne hDE.symm]; exact same_new hu _ _ hE4, by rw [upd_ne hDG.symm]; exact same_new hu _ _ hG4, hn, _, _, _, _, rfl⟩
          · rw [if_neg (by omega), List.append_nil]
            wtm_at "jw"
            exact ⟨s4, hE4, hG4, ⟨rs', hD4, hw4⟩, _, _, _, _, rfl⟩
        · rw [if_neg (by omega), List.append_nil]
          wtm_at "jw"
          exact ⟨s4, hE4, hG4, ⟨rs', hD4, hw4⟩, _, _, _, _, rfl⟩
    · obtain ⟨s4, hE4, hG4, hD4, v1, v2, v3, v4, rfl⟩ := h
      have hr4 := s4 _ _ hr0
      have hf4 := hf.same s4
      wtm_at "jw"
      refine i_dget ?_
      wtm_at "jw"
      refine i_dgetS (.inl hr4) (past_f e g f) ?_
      wtm_at "jw"
      refine ⟨f, fo, t, rfl, hf4, ?_⟩
      wtm_at "jw"
      intro T1 hT1
      have s5 := same_new (o := .tup ((en.map (cutE t)).map ovO)) hT1
      have k1 : TD K (upd H' T1 (.tup ((en.map (cutE t)).map ovO))) (.ref T1) (.tuple ((en.map (cutE t)).map oD)) := TD.new hT1 (TDs.ovs _)
      have hG5 := s5 _ _ hG4
      have hD5 := hD4.same s5
      generalize upd H' T1 (.tup ((en.map (cutE t)).map ovO)) = H5 at s5 k1 hG5 hD5 ⊢
      wtm_at "jw"
      intro T2 hT2
      have s6 := same_new (o := .tup ((go.map (cutG t)).map ovO)) hT2
      have k2 : TD K (upd H5 T2 (.tup ((go.map (cutG t)).map ovO))) (.ref T2) (.tuple ((go.map (cutG t)).map oD)) := TD.new hT2 (TDs.ovs _)
      have k1' := k1.same s6
      have hD6 := hD5.same s6
      generalize upd H5 T2 (.tup ((go.map (cutG t)).map ovO)) = H6 at s6 k1' k2 hD6 ⊢
      wtm_at "jw"
      refine i_sortP hD6 fun R H7 pend s7 srt nR hR => ?_
      obtain ⟨rs7, hR7, hw7⟩ := hR
      have k1'' := k1'.same s7
      have k2' := k2.same s7
      wtm_at "jw"
      intro T3 hT3
      have s8 := same_new (o := .tup (rs7.map V.ref)) hT3
      have k3 : TD K (upd H7 T3 (.tup (rs7.map V.ref))) (.ref T3) (.tuple (pend.map pD)) := TD.new hT3 hw7.tds
      have k1a := k1''.same s8
      have k2a := k2'.same s8
      generalize upd H7 T3 (.tup (rs7.map V.ref)) = H8 at s8 k3 k1a k2a ⊢
      wtm_at "jw"
      intro T4 hT4
      exact q _ _ pend ((((s4.trans s5).trans s6).trans s7).trans (s8.trans (same_new hT4))) srt
        (TD.new hT4 (.cons (.str _) (.cons (.int _) (.cons (.int _) (.cons k1a (.cons k2a (.cons k3 .nil)))))))
theorem LD.drew {K : PySem.W.Frag} {p a f : Addr} {H H' : Hp} {ds : List PyData} (h : LD K H f ds) (d : DrawAt H p a) (e : Drew p a H H') (n : f ≠ p) : LD K H' f ds := by
  obtain ⟨xs, hp⟩ := d.some
  exact h.kp e.kp hp n
theorem og_map {f : Option Int → Option Int} (hf : f none = none) (os : List (Option Int)) (i : Nat) : og (os.map f) i = f (og os i) := by
  unfold og
  rw [List.getElem?_map]
  cases os[i]? with
  | none => exact hf.symm
  | some o => rfl
/-- the entry tick as the law finds it -/
def entP (e : Option Int) (s : Nat) (pend : List (Int × Int)) : Option Int := pend.foldl (fun a p => if p.2 = 4 + (s : Int) then some p.1 else a) e
/-- the entry tick as the program finds it -/
def entT (e : Option Int) (s : Nat) (pend : List (Int × Int)) : Option Int := match e with
  | some x => some x
  | none => (pend.find? fun p => decide (p.2 = 4 + (s : Int))).map (·.1)
theorem foldl_filter (s : Nat) : ∀ (l : List (Int × Int)) (e : Option Int), l.foldl (fun a p => if p.2 = 4 + (s : Int) then some p.1 else a) e = (l.filter fun p => decide (p.2 = 4 + (s : Int))).foldl (fun a p => if p.2 = 4 + (s : Int) then some p.1 else a) e
  | [], _ => rfl
  | p :: r, e => by
    rw [List.foldl_cons, foldl_filter s r]
    by_cases h : p.2 = 4 + (s : Int)
    · rw [List.filter_cons_of_pos (p := fun p : Int × Int => decide (p.2 = 4 + (s : Int))) (by simp [h]), List.foldl_cons]
    · rw [List.filter_cons_of_neg (p := fun p : Int × Int => decide (p.2 = 4 + (s : Int))) (by simp [h]), if_neg h]
def mine (en : List (Option Int)) (ho t : Int) (s : Nat) : List (Int × Int) := match og en s with
  | some x => if t < x ∧ x < t + ho then [(x, 4 + (s : Int))] else []
  | none => []
theorem mine_or (en : List (Option Int)) (ho t : Int) (s : Nat) : mine en ho t s = [] ∨ ∃ x, og en s = some x ∧ t < x ∧ x < t + ho ∧ mine en ho t s = [(x, 4 + (s : Int))] := by
  unfold mine
  cases e : og en s with
  | none => exact .inl rfl
  | some x =>
    by_cases h : t < x ∧ x < t + ho
    · exact .inr ⟨x, rfl, h.1, h.2, if_pos h⟩
    · exact .inl (if_neg h)
theorem pendE_filter (en : List (Option Int)) (ho t : Int) (s : Nat) : ∀ n, (pendE en ho t n).filter (fun p => decide (p.2 = 4 + (s : Int))) = if s < n then mine en ho t s else []
  | 0 => rfl
  | n + 1 => by
    rw [show pendE en ho t (n + 1) = pendE en ho t n ++ mine en ho t n from rfl, List.filter_append, pendE_filter en ho t s n]
    by_cases hn : n = s
    · subst hn
      rw [if_neg (by omega), if_pos (by omega), List.nil_append]
      rcases mine_or en ho t n with h | ⟨x, _, _, _, h⟩
      · rw [h]; rfl
      · rw [h, List.filter_cons_of_pos (p := fun p : Int × Int => decide (p.2 = 4 + (n : Int))) (by simp)]; rfl
    · have : (mine en ho t n).filter (fun p => decide (p.2 = 4 + (s : Int))) = [] := by
        rcases mine_or en ho t n with h | ⟨x, _, _, _, h⟩
        · rw [h]; rfl
        · rw [h, List.filter_cons_of_neg (p := fun p : Int × Int => decide (p.2 = 4 + (s : Int))) (by simp; omega)]; rfl
      rw [this, List.append_nil]
      by_cases h : s < n
      · rw [if_pos h, if_pos (by omega)]
      · rw [if_neg h, if_neg (by omega)]
theorem pend_filter {pend fo : List (Int × Int)} {en : List (Option Int)} {ho t : Int} {s : Nat} (h : SortsTo pend (pendF fo ho t ++ pendE en ho t en.length)) (hfo : ∀ q ∈ fo, 1 ≤ q.2 ∧ q.2 ≤ 3) (hs : s < en.length) :
    pend.filter (fun p => decide (p.2 = 4 + (s : Int))) = mine en ho t s := by
  have pm := h.1.filter (fun p => decide (p.2 = 4 + (s : Int)))
  rw [List.filter_append, pendE_filter, if_pos hs] at pm
  have e0 : (pendF fo ho t).filter (fun p => decide (p.2 = 4 + (s : Int))) = [] := by
    rw [List.filter_eq_nil_iff]
    intro q hq
    have := hfo q (List.mem_filter.mp hq).1
    simp
    omega
  rw [e0, List.nil_append] at pm
  rcases mine_or en ho t s with e | ⟨x, _, _, _, e⟩
  · rw [e] at pm ⊢
    exact pm.eq_nil
  · rw [e] at pm ⊢
    exact List.perm_singleton.mp pm
/-- both find the same -/
theorem ent_eq {pend fo : List (Int × Int)} {en : List (Option Int)} {ho t : Int} {s : Nat} (h : SortsTo pend (pendF fo ho t ++ pendE en ho t en.length)) (hfo : ∀ q ∈ fo, 1 ≤ q.2 ∧ q.2 ≤ 3) (hs : s < en.length) :
    entP (og (en.map (cutE t)) s) s pend = entT (og (en.map (cutE t)) s) s pend := by
  have hf := pend_filter h hfo hs
  have hh : pend.find? (fun p => decide (p.2 = 4 + (s : Int))) = (pend.filter fun p => decide (p.2 = 4 + (s : Int))).head? := (List.head?_filter ..).symm
  unfold entP
  rw [foldl_filter, hf, og_map rfl]
  unfold entT
  rw [hh, hf]
  rcases mine_or en ho t s with e | ⟨x, ex, x1, x2, e⟩
  · rw [e]
    cases cutE t (og en s) <;> rfl
  · rw [e, ex]
    unfold cutE
    simp only
    rw [if_neg (by omega)]
    simp
/-- facts of n seats, in which both find the same -/
def FOk (n : Nat) (d : PyData) : Prop := ∃ (t f : Int) (en go : List (Option Int)) (pend : List (Int × Int)), d = factsD t f en go pend ∧ en.length = n ∧ go.length = n ∧ ∀ s < n, entP (og en s) s pend = entT (og en s) s pend
theorem fok_of {pend fo : List (Int × Int)} {en go : List (Option Int)} {ho t f : Int} {n : Nat} (h : SortsTo pend (pendF fo ho t ++ pendE en ho t en.length)) (hfo : ∀ q ∈ fo, 1 ≤ q.2 ∧ q.2 ≤ 3) (h1 : en.length = n) (h2 : go.length = n) :
    FOk n (factsD t f (en.map (cutE t)) (go.map (cutG t)) pend) :=
  ⟨_, _, _, _, _, rfl, by rw [List.length_map, h1], by rw [List.length_map, h2], fun s hs => ent_eq h hfo (by omega)⟩

/-! ### the program -/
def entO (o : Int) : Option Int := if 4 ≤ o then some (o - 4) else none
def sp_entry_of (K : PySem.W.Frag) : Sp := fun vs H Q _ => ∃ (o : Int), vs = [.int o] ∧ Q (ovO (entO o)) H
theorem ok_entry_of {P : Program} {w : World} {K : PySem.W.Frag} {mg : Str → Option Value} {base : Heap} {f : Addr} {fd : FuncData} (F : Df K mg "entry_of" s_entry_of f fd ["order"]) (T : Txt mg) : FnOk P w K mg base CX0 1 f fd ["order"] (sp_entry_of K) := by
  refine F.ok sc_entry_of (fun vs H Q E h => ?_) (fun cdv A outer s H vs Q E hr h => ?_)
  · obtain ⟨o, rfl, _⟩ := h
    rfl
  · obtain ⟨o, rfl, q⟩ := h
    unfold entO at q
    refine ⟨_, (pss_cons (ps_if (pt_cmpR op_ge (pv 0) (pe_cn rfl T.c_FIRST_ENTRY) (nomark _)) (pss_one (ps_ret (pe_op op_sub (pv 0) (pe_cn rfl T.c_FIRST_ENTRY)))) pss_nil)
      (pss_one (ps_ret pe_non))), ?_⟩
    try dsimp only [cxOf, Cx.nox, Cx.wish]
    refine st_of (σ' := [some _]) rfl ?_
    wtm_at "jw"
    refine c_dec (fun h => ?_) (fun h => ?_)
    · rw [if_pos (by omega)] at q
      wtm_at "jw"
      exact q
    · rw [if_neg (by omega)] at q
      wtm_at "jw"
      exact q
theorem find_at {P : Int × Int → Bool} {l : List (Int × Int)} {i : Nat} {p : Int × Int} (h : (l.take i).find? P = none) (e : l[i]? = some p) (hp : P p = true) : l.find? P = some p := by
  have e2 : l = l.take i ++ p :: l.drop (i + 1) := by
    have := (List.take_append_drop (i + 1) l).symm
    rw [List.take_add_one, e] at this
    simpa using this
  rw [e2, List.find?_append, h]
  simp [hp]
def sp_entry_tick (K : PySem.W.Frag) : Sp := fun vs H Q _ => ∃ (x : V) (s : Nat) (t f : Int) (en go : List (Option Int)) (pend : List (Int × Int)), vs = [x, .int (s : Int)] ∧ TD K H x (factsD t f en go pend) ∧ s < en.length ∧ Q (ovO (entT (og en s) s pend)) H
theorem ok_entry_tick {P : Program} {w : World} {K : PySem.W.Frag} {mg : Str → Option Value} {base : Heap} {f : Addr} {fd : FuncData} (F : Df K mg "entry_tick" s_entry_tick f fd ["facts", "seat"]) (T : Txt mg)
    (c_entry_of : Cl P w K mg base 1 "entry_of" (sp_entry_of K)) : FnOk P w K mg base CX0 2 f fd ["facts", "seat"] (sp_entry_tick K) := by
  refine F.ok sc_entry_tick (fun vs H Q E h => ?_) (fun cdv A outer s H vs Q E hr h => ?_)
  · obtain ⟨x, s, t, f, en, go, pend, rfl, _⟩ := h
    rfl
  · obtain ⟨x, n, t, f, en, go, pend, rfl, hx, hs, q⟩ := h
    refine ⟨_, (pss_cons (ps_if (pt_cmpR o_notN (pe_ix (r := rIx K) ix_seq (pe_ix (r := rIxT K) ix_tup (pv 0) pe_int (fun _ _ => rfl)) (pv 1) (fun _ _ => rfl)) pe_non (nomark _)) (pss_one (ps_ret (pe_ix (r := rIx K) ix_seq (pe_ix (r := rIxT K) ix_tup (pv 0) pe_int (fun _ _ => rfl)) (pv 1) (fun _ _ => rfl)))) pss_nil)
      (pss_cons (ps_for PassesOwn.never rfl (pi_tup (pe_ix (r := rIxT K) ix_tup (pv 0) pe_int (fun _ _ => rfl))) (pg_tupK (K := K) rfl rfl (pgs_cons (pg_name (i := 2) sc_entry_tick.nd rfl (Or.inl rfl)) (pgs_cons (pg_name (i := 3) sc_entry_tick.nd rfl (Or.inl rfl)) pgs_nil))) (pss_one (ps_if (pt_cmpR op_eq (pe_cl c_entry_of hr (by decide) rfl (pa_cons (pv 3) pa_nil)) (pv 1) (nomark _)) (pss_one (ps_ret (pv 2))) pss_nil)))
      (pss_one (ps_ret pe_non)))), ?_⟩
    try dsimp only [cxOf, Cx.nox, Cx.wish]
    refine st_of (σ' := [some _, some _, none, none]) rfl ?_
    have oe := od_at (os := en) hs
    cases e1 : og en n with
    | some y =>
      rw [e1] at oe q
      have oe : (en.map oD)[n]? = some (.int y) := oe
      wtm_at "jw"
      refine c_yesN (fun h => by cases h) ?_
      wtm_at "jw"
      exact q
    | none =>
      rw [e1] at oe q
      have oe : (en.map oD)[n]? = some PyData.none := oe
      have oe2 : (en.map oD)[n]? = some (oD none) := oe
      wtm_at "jw"
      refine c_noN rfl ?_
      wtm_at "jw"
      refine i_isTD (by assumption) fun a xs ea hS hT => ?_
      refine f_tup (xs := xs) (fun i σ H' => H' = H ∧ (pend.take i).find? (fun p => decide (p.2 = 4 + (n : Int))) = none ∧ ∃ v1 v2, σ = [some x, some (.int (n : Int)), v1, v2]) ⟨rfl, rfl, none, none, rfl⟩ (fun i σ H' _ h => by rw [h.1]; exact hS) (fun i y σ H' hi h => ?_) (fun σ H' h => ?_)
      · obtain ⟨rfl, hno, v1, v2, rfl⟩ := h
        obtain ⟨p, ep, hp, etk, hlt⟩ := hT.pair_at hi
        wtm_at "jw"
        refine ⟨p.2, rfl, ?_⟩
        unfold entO
        by_cases h4 : 4 ≤ p.2
        · rw [if_pos h4]
          unfold ovO
          wtm_at "jw"
          refine c_dec (fun h => ?_) (fun h => ?_)
          · wtm_at "jw"
            unfold entT at q
            simp only at q
            rw [find_at hno ep (by simp; omega)] at q
            exact q
          · wtm_at "jw"
            refine ⟨rfl, ?_, _, _, rfl⟩
            rw [etk, List.find?_append, hno]
            simp
            omega
        · rw [if_neg h4]
          unfold ovO
          wtm_at "jw"
          refine ⟨rfl, ?_, _, _, rfl⟩
          rw [etk, List.find?_append, hno]
          simp
          omega
      · obtain ⟨rfl, hno, v1, v2, rfl⟩ := h
        rw [hT.len, List.length_map, List.take_length] at hno
        unfold entT at q
        simp only at q
        rw [hno] at q
        wtm_at "jw"
        exact q
def sp_is_present (K : PySem.W.Frag) : Sp := fun vs H Q _ => ∃ (x : V) (s : Nat) (tick : Int) (t f : Int) (en go : List (Option Int)) (pend : List (Int × Int)), vs = [x, .int (s : Int), .int tick] ∧ TD K H x (factsD t f en go pend) ∧ s < en.length ∧ s < go.length ∧ Q (.bl (here (entT (og en s) s pend) (og go s) tick)) H
theorem ok_is_present {P : Program} {w : World} {K : PySem.W.Frag} {mg : Str → Option Value} {base : Heap} {f : Addr} {fd : FuncData} (F : Df K mg "is_present" s_is_present f fd ["facts", "seat", "tick"]) (T : Txt mg)
    (c_entry_tick : Cl P w K mg base 2 "entry_tick" (sp_entry_tick K)) : FnOk P w K mg base CX0 3 f fd ["facts", "seat", "tick"] (sp_is_present K) := by
  refine F.ok sc_is_present (fun vs H Q E h => ?_) (fun cdv A outer s H vs Q E hr h => ?_)
  · obtain ⟨x, s, tick, t, f, en, go, pend, rfl, _⟩ := h
    rfl
  · obtain ⟨x, n, tick, t, f, en, go, pend, rfl, hx, hs, hg, q⟩ := h
    refine ⟨_, (pss_cons (ps_set (i := 3) sc_is_present.nd rfl (Or.inl rfl) (pe_cl c_entry_tick hr (by decide) rfl (pa_cons (pv 0) (pa_cons (pv 1) pa_nil))))
      (pss_cons (ps_if (PW.pt (pw_or (pt_cmpR o_isN (pv 3) pe_non (nomark _)) (pw_or1 (pt_cmpR op_gt (pv 3) (pv 2) (nomark _))))) (pss_one (ps_ret pe_bl)) pss_nil)
      (pss_one (ps_ret (pe_or (pe_cmpR o_isN (pe_ix (r := rIx K) ix_seq (pe_ix (r := rIxT K) ix_tup (pv 0) pe_int (fun _ _ => rfl)) (pv 1) (fun _ _ => rfl)) pe_non (nomark _)) (pe_one (pe_cmpR op_gt (pe_ix (r := rIx K) ix_seq (pe_ix (r := rIxT K) ix_tup (pv 0) pe_int (fun _ _ => rfl)) (pv 1) (fun _ _ => rfl)) (pv 2) (nomark _)))))))), ?_⟩
    try dsimp only [cxOf, Cx.nox, Cx.wish]
    refine st_of (σ' := [some _, some _, some _, none]) rfl ?_
    wtm_at "jw"
    refine ⟨x, n, t, f, en, go, pend, rfl, hx, hs, ?_⟩
    have oe := od_at (os := go) hg
    cases e1 : entT (og en n) n pend with
    | none =>
      rw [e1] at q
      unfold ovO
      wtm_at "jw"
      refine c_yes rfl ?_
      wtm_at "jw"
      exact q
    | some y =>
      rw [e1] at q
      unfold ovO
      wtm_at "jw"
      refine c_no (fun h => by cases h) ?_
      wtm_at "jw"
      refine c_dec (fun h => ?_) (fun h => ?_)
      · have : here (some y) (og go n) tick = false := by simp [here]; omega
        rw [this] at q
        wtm_at "jw"
        exact q
      · cases e2 : og go n with
        | none =>
          rw [e2] at oe q
          have oe : (go.map oD)[n]? = some (oD none) := oe
          have : here (some y) none tick = true := by simp [here]; omega
          rw [this] at q
          wtm_at "jw"
          refine c_yes rfl ?_
          wtm_at "jw"
          exact q
        | some l =>
          rw [e2] at oe q
          have oe : (go.map oD)[n]? = some (.int l) := oe
          have : here (some y) (some l) tick = decide (tick < l) := by simp [here]; omega
          rw [this] at q
          wtm_at "jw"
          refine c_no (fun h => by cases h) ?_
          wtm_at "jw"
          exact q

/-! ### the facts -/
def ob : Option Int → Prop
  | none => True
  | some z => z.natAbs < 10 ^ 12
theorem rp_o {o : Option Int} (h : ob o) : Rp 0 40 (oD o) := by
  cases o with
  | none => exact Rp.non.mono (by decide) (by decide)
  | some z => exact Rp.int h
theorem rp_os {os : List (Option Int)} (h : ∀ o ∈ os, ob o) (hl : os.length ≤ 100) : Rp 1 5000 (.tuple (os.map oD)) := by
  refine (Rp.tup (n := 0) (w := 40) fun d hd => ?_).mono (Nat.le_refl _) ?_
  · obtain ⟨o, ho, rfl⟩ := List.mem_map.mp hd
    exact rp_o (h o ho)
  · rw [List.length_map]; omega
theorem rp_ints {ns : List Int} (h : ∀ z ∈ ns, z.natAbs < 10 ^ 12) (hl : ns.length ≤ 100) : Rp 1 5000 (.tuple (ns.map PyData.int)) := by
  refine (Rp.tup (n := 0) (w := 40) fun d hd => ?_).mono (Nat.le_refl _) ?_
  · obtain ⟨o, ho, rfl⟩ := List.mem_map.mp hd
    exact Rp.int (h o ho)
  · rw [List.length_map]; omega
theorem rp_prs {ps : List (Int × Int)} (h : ∀ p ∈ ps, p.1.natAbs < 10 ^ 12 ∧ p.2.natAbs < 10 ^ 12) (hl : ps.length ≤ 200) : Rp 2 20000 (.tuple (ps.map pD)) := by
  refine (Rp.tup (n := 1) (w := 82) fun d hd => ?_).mono (Nat.le_refl _) ?_
  · obtain ⟨p, hp, rfl⟩ := List.mem_map.mp hd
    have := h p hp
    exact Rp.tup (n := 0) (w := 40) (ds := [.int p.1, .int p.2]) fun d hd => by
      rcases List.mem_cons.mp hd with rfl | hd
      · exact Rp.int this.1
      · rw [List.mem_singleton.mp hd]; exact Rp.int this.2
  · rw [List.length_map]; omega
theorem rp_facts {t f : Int} {en go : List (Option Int)} {pend : List (Int × Int)} (ht : t.natAbs < 10 ^ 12) (hf : f.natAbs < 10 ^ 12) (he : ∀ o ∈ en, ob o) (hg : ∀ o ∈ go, ob o) (hp : ∀ p ∈ pend, p.1.natAbs < 10 ^ 12 ∧ p.2.natAbs < 10 ^ 12)
    (l1 : en.length ≤ 100) (l2 : go.length ≤ 100) (l3 : pend.length ≤ 200) : Rp 3 120006 (factsD t f en go pend) := by
  refine (Rp.tup (n := 2) (w := 20000) (ds := [.str "facts", .int t, .int f, .tuple (en.map oD), .tuple (go.map oD), .tuple (pend.map pD)]) ?_).mono (Nat.le_refl _) (by simp)
  simp only [List.forall_mem_cons]
  exact ⟨Rp.facts.mono (by decide) (by decide), (Rp.int ht).mono (by decide) (by decide), (Rp.int hf).mono (by decide) (by decide), (rp_os he l1).mono (by decide) (by decide), (rp_os hg l2).mono (by decide) (by decide), rp_prs hp l3, by simp⟩
theorem shp_facts (t f : Int) (en go : List (Option Int)) (pend : List (Int × Int)) : Shp 3 (factsD t f en go pend) := by
  refine Shp.tup (ds := [.str "facts", .int t, .int f, .tuple (en.map oD), .tuple (go.map oD), .tuple (pend.map pD)]) ?_
  simp only [List.forall_mem_cons]
  exact ⟨(Shp.str (by decide +kernel)).mono (by decide), (Shp.int _).mono (by decide), (Shp.int _).mono (by decide), (Shp.ovs _).mono (by decide), (Shp.ovs _).mono (by decide), Shp.prs _, by simp⟩

theorem i_lr1 {ta : TE} {σ : L2.St} {H : Hp} {Q : VK} (h : ta σ H fun x H1 => ∃ n, x = .int n ∧ RgOk 0 n ∧ ∀ q, H1 q = none → Q (.ref q) (upd H1 q (.lst (rgV 0 n)))) : tLstRg (tRg1 ta) σ H Q := h
def sp_first_facts (K : PySem.W.Frag) : Sp := fun vs H Q _ => ∃ (b : Addr) (bs : List Int), vs = [.ref b] ∧ SqT K H b (bs.map V.int) ∧ bs.length ≤ 10 ∧ ∀ v H', Same H H' → TD K H' v (factsD 0 0 (entB bs) (nonB bs) []) → Q v H'
theorem ok_first_facts {P : Program} {w : World} {K : PySem.W.Frag} {mg : Str → Option Value} {base : Heap} {f : Addr} {fd : FuncData} (F : Df K mg "first_facts" s_first_facts f fd ["begin"]) (T : Txt mg) : FnOk P w K mg base CX0 1 f fd ["begin"] (sp_first_facts K) := by
  refine F.ok sc_first_facts (fun vs H Q E h => ?_) (fun cdv A outer s H vs Q E hr h => ?_)
  · obtain ⟨b, bs, rfl, _⟩ := h
    rfl
  · obtain ⟨b, bs, rfl, hb, hl, q⟩ := h
    refine ⟨_, (pss_cons (ps_set (i := 1) sc_first_facts.nd rfl (Or.inl rfl) (pe_callTy (T := "tuple") (r := rTupOf K) c_tup (by rfl) T.b_tuple (by decide +kernel) (pa_cons (pe_lc (own := [("flag", 2)]) (g := gName 2) (tt := tYes) rfl sc_first_facts.nd (pi_tup (pv 0)) (blkOk_by (own := [("flag", 2)]) (N := N_first_facts) (sc := defScope s_first_facts) (by decide +kernel)) (fun _ _ _ _ _ => (pg_name (i := 2) sc_first_facts.nd rfl (Or.inl rfl))) (fun _ _ _ _ _ => pts_nil) (fun _ _ _ _ _ => (pe_ifExp (pt_cmpR op_eq (pv 2) pe_int (nomark _)) pe_int pe_non))) pa_nil)))
      (pss_one (ps_ret (pe_tup (pa_cons pe_str (pa_cons pe_int (pa_cons pe_int (pa_cons (pv 1) (pa_cons (pe_callTy (T := "tuple") (r := rTupOf K) c_tup (by rfl) T.b_tuple (by decide +kernel) (pa_cons (pe_lc (own := [("flag", 2)]) (g := gName 2) (tt := tYes) rfl sc_first_facts.nd (pi_tup (pv 0)) (blkOk_by (own := [("flag", 2)]) (N := N_first_facts) (sc := defScope s_first_facts) (by decide +kernel)) (fun _ _ _ _ _ => (pg_name (i := 2) sc_first_facts.nd rfl (Or.inl rfl))) (fun _ _ _ _ _ => pts_nil) (fun _ _ _ _ _ => pe_non)) pa_nil)) (pa_cons (pe_tup pa_nil) pa_nil)))))))))), ?_⟩
    try dsimp only [cxOf, Cx.nox, Cx.wish]
    refine st_of (σ' := [some _, none, none]) rfl ?_
    wtm_at "jw"
    intro E hE
    refine l_tup (xs := bs.map V.int) (fun i H' => Same H H' ∧ H' E = some (.lst ((entB (bs.take i)).map ovO))) ⟨same_new hE, upd_same⟩ (fun i H' _ h => Same.tup h.1 hb) (fun i x H' hi h => ?_) (fun H1 h => ?_)
    · obtain ⟨s1, hE1⟩ := h
      obtain ⟨z, rfl, e1, e2, hlt⟩ := ints_at hi
      have hsz : ((entB (bs.take i)).map ovO).length < sizeLine := small1000 (by unfold entB; rw [List.length_map, List.length_map, List.length_take]; omega)
      wtm_at "jw"
      refine ⟨rfl, ?_⟩
      wtm_at "jw"
      refine c_dec (fun h => ?_) (fun h => ?_)
      · wtm_at "jw"
        exact ⟨_, hE1, hsz, put_same s1 hE, by rw [upd_same, e2]; unfold entB; rw [List.map_append, List.map_append, List.map_singleton, if_pos h]; rfl⟩
      · wtm_at "jw"
        exact ⟨_, hE1, hsz, put_same s1 hE, by rw [upd_same, e2]; unfold entB; rw [List.map_append, List.map_append, List.map_singleton, if_neg h]; rfl⟩
    obtain ⟨s1, hE1⟩ := h
    rw [List.length_map, List.take_length] at hE1
    wtm_at "jw"
    intro T1 hT1
    have s2 := s1.trans (same_new (o := .tup ((entB bs).map ovO)) hT1)
    have k1 : TD K (upd H1 T1 (.tup ((entB bs).map ovO))) (.ref T1) (.tuple ((entB bs).map oD)) := TD.new hT1 (TDs.ovs _)
    generalize upd H1 T1 (.tup ((entB bs).map ovO)) = H2 at s2 k1 ⊢
    have hb2 := Same.tup s2 hb
    wtm_at "jw"
    intro G hG
    refine l_tup (xs := bs.map V.int) (fun i H' => Same H2 H' ∧ H' G = some (.lst ((nonB (bs.take i)).map ovO))) ⟨same_new hG, upd_same⟩ (fun i H' _ h => Same.tup h.1 hb2) (fun i x H' hi h => ?_) (fun H3 h => ?_)
    · obtain ⟨s3, hG1⟩ := h
      obtain ⟨z, rfl, e1, e2, hlt⟩ := ints_at hi
      have hsz : ((nonB (bs.take i)).map ovO).length < sizeLine := small1000 (by unfold nonB; rw [List.length_map, List.length_map, List.length_take]; omega)
      wtm_at "jw"
      refine ⟨rfl, ?_⟩
      wtm_at "jw"
      exact ⟨_, hG1, hsz, put_same s3 hG, by rw [upd_same, e2]; unfold nonB; rw [List.map_append, List.map_append, List.map_singleton]; rfl⟩
    obtain ⟨s3, hG3⟩ := h
    rw [List.length_map, List.take_length] at hG3
    have k1a := k1.same s3
    wtm_at "jw"
    intro T2 hT2
    have s4 := same_new (o := .tup ((nonB bs).map ovO)) hT2
    have k2 : TD K (upd H3 T2 (.tup ((nonB bs).map ovO))) (.ref T2) (.tuple ((nonB bs).map oD)) := TD.new hT2 (TDs.ovs _)
    have k1b := k1a.same s4
    generalize upd H3 T2 (.tup ((nonB bs).map ovO)) = H4 at s4 k2 k1b ⊢
    wtm_at "jw"
    intro T3 hT3
    have s5 := same_new (o := .tup []) hT3
    have k3 : TD K (upd H4 T3 (.tup [])) (.ref T3) (.tuple (([] : List (Int × Int)).map pD)) := TD.new hT3 .nil
    have k1c := k1b.same s5
    have k2c := k2.same s5
    generalize upd H4 T3 (.tup []) = H5 at s5 k3 k1c k2c ⊢
    wtm_at "jw"
    intro T4 hT4
    exact q _ _ ((((s2.trans s3).trans s4).trans s5).trans (same_new hT4)) (TD.new hT4 (.cons (.str _) (.cons (.int _) (.cons (.int _) (.cons k1c (.cons k2c (.cons k3 .nil)))))))
/-! ### who is here -/
def perL (ent : Nat → Option Int) (go : List (Option Int)) (t : Int) (n : Nat) : List Nat := (List.range n).filter fun s => here (ent s) (og go s) t
theorem perL_succ (ent : Nat → Option Int) (go : List (Option Int)) (t : Int) (n : Nat) : perL ent go t (n + 1) = if here (ent n) (og go n) t = true then perL ent go t n ++ [n] else perL ent go t n := by
  unfold perL
  rw [List.range_succ, List.filter_append]
  by_cases h : here (ent n) (og go n) t = true
  · rw [if_pos h, List.filter_cons_of_pos (p := fun s => here (ent s) (og go s) t) h]; rfl
  · rw [if_neg h, List.filter_cons_of_neg (p := fun s => here (ent s) (og go s) t) h]; simp
theorem perL_len (ent : Nat → Option Int) (go : List (Option Int)) (t : Int) (n : Nat) : (perL ent go t n).length ≤ n := by
  have := List.length_filter_le (fun s => here (ent s) (og go s) t) (List.range n)
  rw [List.length_range] at this
  exact this
theorem perL_lt {ent : Nat → Option Int} {go : List (Option Int)} {t : Int} {n s : Nat} (h : s ∈ perL ent go t n) : s < n := by
  unfold perL at h
  rw [List.mem_filter, List.mem_range] at h
  exact h.1
theorem perL_eq {e1 e2 : Nat → Option Int} {go : List (Option Int)} {t : Int} {n : Nat} (h : ∀ s < n, e1 s = e2 s) : perL e1 go t n = perL e2 go t n := by
  unfold perL
  refine List.filter_congr fun s hs => ?_
  rw [h s (List.mem_range.mp hs)]
def iD (n : Nat) : PyData := .int (n : Int)
def sp__law_here (K : PySem.W.Frag) : Sp := fun vs H Q _ => ∃ (x : V) (tick t f : Int) (en go : List (Option Int)) (pend : List (Int × Int)), vs = [x, .int tick] ∧ TD K H x (factsD t f en go pend) ∧ en.length = go.length ∧ en.length ≤ 100 ∧
  ∀ v H', Same H H' → TD K H' v (.tuple ((perL (fun s => entP (og en s) s pend) go tick en.length).map iD)) → Q v H'
theorem ok__law_here {P : Program} {w : World} {K : PySem.W.Frag} {mg : Str → Option Value} {base : Heap} {f : Addr} {fd : FuncData} (F : Df K mg "_law_here" s__law_here f fd ["facts", "tick"]) (T : Txt mg) : FnOk P w K mg base CX0 1 f fd ["facts", "tick"] (sp__law_here K) := by
  refine F.ok sc__law_here (fun vs H Q E h => ?_) (fun cdv A outer s H vs Q E hr h => ?_)
  · obtain ⟨x, tick, t, f, en, go, pend, rfl, _⟩ := h
    rfl
  · obtain ⟨x, tick, t, f, en, go, pend, rfl, hx, hl, hn, q⟩ := h
    refine ⟨_, (pss_cons (ps_set (i := 2) sc__law_here.nd rfl (Or.inl rfl) (pe_lst pa_nil))
      (pss_cons (ps_for PassesOwn.never rfl (pi_range1 rfl T.b_range (pa_cons (pe_callB (id := "len") (r := qLen K) c_len (by rfl) T.b_len (by decide +kernel) (pa_cons (pe_ix (r := rIxT K) ix_tup (pv 0) pe_int (fun _ _ => rfl)) pa_nil)) pa_nil)) (pg_name (i := 3) sc__law_here.nd rfl (Or.inl rfl)) (pss_cons (ps_set (i := 4) sc__law_here.nd rfl (Or.inl rfl) (pe_ix (r := rIx K) ix_seq (pe_ix (r := rIxT K) ix_tup (pv 0) pe_int (fun _ _ => rfl)) (pv 3) (fun _ _ => rfl)))
      (pss_cons (ps_for PassesOwn.never rfl (pi_tup (pe_ix (r := rIxT K) ix_tup (pv 0) pe_int (fun _ _ => rfl))) (pg_tupK (K := K) rfl rfl (pgs_cons (pg_name (i := 5) sc__law_here.nd rfl (Or.inl rfl)) (pgs_cons (pg_name (i := 6) sc__law_here.nd rfl (Or.inl rfl)) pgs_nil))) (pss_one (ps_if (pt_cmpR op_eq (pv 6) (pe_op op_add pe_int (pv 3)) (nomark _)) (pss_one (ps_set (i := 4) sc__law_here.nd rfl (Or.inl rfl) (pv 5))) pss_nil)))
      (pss_cons (ps_set (i := 7) sc__law_here.nd rfl (Or.inl rfl) (pe_ix (r := rIx K) ix_seq (pe_ix (r := rIxT K) ix_tup (pv 0) pe_int (fun _ _ => rfl)) (pv 3) (fun _ _ => rfl)))
      (pss_one (ps_if (PW.pt (pw_and (pt_cmpR o_notN (pv 4) pe_non (nomark _)) (pw_and (pt_cmpR op_le (pv 4) (pv 1) (nomark _)) (pw_and1 (PW.pt (pw_or (pt_cmpR o_isN (pv 7) pe_non (nomark _)) (pw_or1 (pt_cmpR op_lt (pv 1) (pv 7) (nomark _))))))))) (pss_one (ps_expr (pe_bmK (K := K) rfl PySem.F.plainAttrs_list PySem.F.slot_list_append PySem.F.type_list_append mt_append (pv 2) (pa_cons (pv 3) pa_nil)))) pss_nil))))))
      (pss_one (ps_ret (pe_callTy (T := "tuple") (r := rTupOf K) c_tup (by rfl) T.b_tuple (by decide +kernel) (pa_cons (pv 2) pa_nil)))))), ?_⟩
    try dsimp only [cxOf, Cx.nox, Cx.wish]
    refine st_of (σ' := [some _, some _, none, none, none, none, none, none]) rfl ?_
    wtm_at "jw"
    intro D hD
    have hx0 := hx.same (same_new (o := .lst []) hD)
    wtm_at "jw"
    rw [List.length_map, Int.toNat_natCast]
    refine f_range (fun i σ H' => Same H H' ∧ H' D = some (.lst ((perL (fun s => entP (og en s) s pend) go tick i).map iN)) ∧ ∃ v1 v2 v3 v4 v5, σ = [some x, some (.int tick), some (.ref D), v1, v2, v3, v4, v5]) ⟨same_new hD, upd_same, none, none, none, none, none, rfl⟩ (fun i σ H' hi h => ?_) (fun σ H' h => ?_)
    · obtain ⟨s1, hD1, v1, v2, v3, v4, v5, rfl⟩ := h
      have hx1 := hx.same s1
      have hsz : ((perL (fun s => entP (og en s) s pend) go tick i).map iN).length < sizeLine := small1000 (by have := perL_len (fun s => entP (og en s) s pend) go tick i; rw [List.length_map]; omega)
      have ae : (en.map oD)[(0 + (i : Int)).toNat]? = some (oD (og en i)) := by rw [show (0 + (i : Int)).toNat = i by omega]; exact od_at hi
      have ag : (go.map oD)[(0 + (i : Int)).toNat]? = some (oD (og go i)) := by rw [show (0 + (i : Int)).toNat = i by omega]; exact od_at (by omega)
      have no : ¬ here (entP (og en i) i pend) (og go i) tick = true → perL (fun s => entP (og en s) s pend) go tick (i + 1) = perL (fun s => entP (og en s) s pend) go tick i := fun h => by rw [perL_succ, if_neg h]
      have yes : here (entP (og en i) i pend) (og go i) tick = true → upd H' D (.lst ((perL (fun s => entP (og en s) s pend) go tick i).map iN ++ [.int (0 + (i : Int))])) D = some (.lst ((perL (fun s => entP (og en s) s pend) go tick (i + 1)).map iN)) := fun h => by
        rw [upd_same, perL_succ, if_pos h, List.map_append, Int.zero_add]; rfl
      wtm_at "jw"
      refine i_isTD (by assumption) fun a xs ea hS hT => ?_
      refine f_tup (xs := xs) (fun k σ H2 => H2 = H' ∧ ∃ v3 v4, σ = [some x, some (.int tick), some (.ref D), some (.int (0 + (i : Int))), some (ovO (entP (og en i) i (pend.take k))), v3, v4, v5]) ⟨rfl, _, _, rfl⟩ (fun k σ H2 _ h => by rw [h.1]; exact hS) (fun k y σ H2 hk h => ?_) (fun σ H2 h => ?_)
      · obtain ⟨rfl, v3, v4, rfl⟩ := h
        obtain ⟨p, ep, hp, etk, hlt⟩ := hT.pair_at hk
        have ef : entP (og en i) i (pend.take (k + 1)) = if p.2 = 4 + (i : Int) then some p.1 else entP (og en i) i (pend.take k) := foldl_take _ _ etk
        wtm_at "jw"
        refine c_dec (fun h => ?_) (fun h => ?_)
        · wtm_at "jw"
          exact ⟨rfl, some (.int p.1), some (.int p.2), by rw [ef, if_pos (by omega)]; rfl⟩
        · wtm_at "jw"
          exact ⟨rfl, some (.int p.1), some (.int p.2), by rw [ef, if_neg (by omega)]⟩
      · obtain ⟨rfl, v3, v4, rfl⟩ := h
        rw [hT.len, List.length_map, List.take_length]
        cases e1 : entP (og en i) i pend with
        | none =>
          unfold ovO
          wtm_at "jw"
          refine c_noN rfl ?_
          wtm_at "jw"
          exact ⟨s1, by rw [no (by rw [e1]; simp [here])]; exact hD1, _, _, _, _, _, rfl⟩
        | some z =>
          unfold ovO
          wtm_at "jw"
          refine c_yesN (fun h => by cases h) ?_
          wtm_at "jw"
          refine c_dec (fun h1 => ?_) (fun h1 => ?_)
          · wtm_at "jw"
            cases e2 : og go i with
            | none =>
              unfold ovO
              refine c_yes rfl ?_
              wtm_at "jw"
              exact ⟨put_same s1 hD, yes (by rw [e1, e2]; simp [here, h1]), _, _, _, _, _, rfl⟩
            | some l =>
              unfold ovO
              refine c_no (fun h => by cases h) ?_
              wtm_at "jw"
              refine c_dec (fun h2 => ?_) (fun h2 => ?_)
              · wtm_at "jw"
                exact ⟨put_same s1 hD, yes (by rw [e1, e2]; simp [here, h1, h2]), _, _, _, _, _, rfl⟩
              · wtm_at "jw"
                exact ⟨s1, by rw [no (by rw [e1, e2]; simp [here, h1, h2])]; exact hD1, _, _, _, _, _, rfl⟩
          · wtm_at "jw"
            exact ⟨s1, by rw [no (by rw [e1]; simp [here, h1])]; exact hD1, _, _, _, _, _, rfl⟩
    · obtain ⟨s1, hD1, v1, v2, v3, v4, v5, rfl⟩ := h
      wtm_at "jw"
      intro r hr'
      exact q _ _ (s1.trans (same_new hr')) (TD.new hr' (TDs.map fun n _ => .int n))
def sp_present_at (K : PySem.W.Frag) : Sp := fun vs H Q _ => ∃ (x : V) (tick t f : Int) (en go : List (Option Int)) (pend : List (Int × Int)), vs = [x, .int tick] ∧ TD K H x (factsD t f en go pend) ∧ en.length = go.length ∧ en.length ≤ 100 ∧
  ∀ v H', Same H H' → TD K H' v (.tuple ((perL (fun s => entT (og en s) s pend) go tick en.length).map iD)) → Q v H'
theorem ok_present_at {P : Program} {w : World} {K : PySem.W.Frag} {mg : Str → Option Value} {base : Heap} {f : Addr} {fd : FuncData} (F : Df K mg "present_at" s_present_at f fd ["facts", "tick"]) (T : Txt mg)
    (c_is_present : Cl P w K mg base 3 "is_present" (sp_is_present K)) : FnOk P w K mg base CX0 4 f fd ["facts", "tick"] (sp_present_at K) := by
  refine F.ok sc_present_at (fun vs H Q E h => ?_) (fun cdv A outer s H vs Q E hr h => ?_)
  · obtain ⟨x, tick, t, f, en, go, pend, rfl, _⟩ := h
    rfl
  · obtain ⟨x, tick, t, f, en, go, pend, rfl, hx, hl, hn, q⟩ := h
    refine ⟨_, (pss_one (ps_ret (pe_callTy (T := "tuple") (r := rTupOf K) c_tup (by rfl) T.b_tuple (by decide +kernel) (pa_cons (pe_lc (own := [("seat", 2)]) (g := gName 2) rfl sc_present_at.nd (pi_range1 rfl T.b_range (pa_cons (pe_callB (id := "len") (r := qLen K) c_len (by rfl) T.b_len (by decide +kernel) (pa_cons (pe_ix (r := rIxT K) ix_tup (pv 0) pe_int (fun _ _ => rfl)) pa_nil)) pa_nil)) (blkOk_by (own := [("seat", 2)]) (N := N_present_at) (sc := defScope s_present_at) (by decide +kernel)) (fun _ _ _ _ _ => (pg_name (i := 2) sc_present_at.nd rfl (Or.inl rfl))) (fun _ _ _ _ _ => pts_one (pt_val (pe_cl c_is_present hr (by decide) rfl (pa_cons (pv 0) (pa_cons (pv 2) (pa_cons (pv 1) pa_nil)))))) (fun _ _ _ _ _ => (pv 2))) pa_nil)))), ?_⟩
    try dsimp only [cxOf, Cx.nox, Cx.wish]
    refine st_of (σ' := [some _, some _, none]) rfl ?_
    wtm_at "jw"
    rw [List.length_map, Int.toNat_natCast]
    intro D hD
    refine l_range (fun i H' => Same H H' ∧ H' D = some (.lst ((perL (fun s => entT (og en s) s pend) go tick i).map iN))) ⟨same_new hD, upd_same⟩ (fun i H' hi h => ?_) (fun H' h => ?_)
    · obtain ⟨s1, hD1⟩ := h
      have hx1 := hx.same s1
      have hsz : ((perL (fun s => entT (og en s) s pend) go tick i).map iN).length < sizeLine := small1000 (by have := perL_len (fun s => entT (og en s) s pend) go tick i; rw [List.length_map]; omega)
      wtm_at "jw"
      refine ⟨rfl, ?_⟩
      wtm_at "jw"
      rw [Int.zero_add]
      refine ⟨x, i, tick, t, f, en, go, pend, rfl, hx1, hi, by omega, ?_⟩
      wtm_at "jw"
      refine c_bool (fun h => ?_) (fun h => ?_)
      · wtm_at "jw"
        exact ⟨_, hD1, hsz, put_same s1 hD, by rw [upd_same, perL_succ, if_pos h, List.map_append]; rfl⟩
      · exact ⟨s1, by rw [perL_succ, if_neg (by rw [h]; exact Bool.false_ne_true)]; exact hD1⟩
    · obtain ⟨s1, hD1⟩ := h
      wtm_at "jw"
      intro r hr'
      exact q _ _ (s1.trans (same_new hr')) (TD.new hr' (TDs.map fun n _ => .int n))
def headO (l : List Nat) : Option Int := match l with
  | [] => none
  | n :: _ => some (n : Int)
def sp_speaker_at (K : PySem.W.Frag) : Sp := fun vs H Q _ => ∃ (x : V) (tick t f : Int) (en go : List (Option Int)) (pend : List (Int × Int)), vs = [x, .int tick] ∧ TD K H x (factsD t f en go pend) ∧ en.length = go.length ∧ en.length ≤ 100 ∧
  Q (ovO (headO (perL (fun s => entT (og en s) s pend) go tick en.length))) H
theorem perL_split (ent : Nat → Option Int) (go : List (Option Int)) (t : Int) : ∀ (n m : Nat), n ≤ m → ∃ r, perL ent go t m = perL ent go t n ++ r
  | n, 0, h => by
    have : n = 0 := by omega
    subst this
    exact ⟨[], by simp⟩
  | n, m + 1, h => by
    by_cases e : n = m + 1
    · subst e; exact ⟨[], by simp⟩
    · obtain ⟨r, hr⟩ := perL_split ent go t n m (by omega)
      rw [perL_succ]
      split
      · exact ⟨r ++ [m], by rw [hr, List.append_assoc]⟩
      · exact ⟨r, hr⟩
theorem ok_speaker_at {P : Program} {w : World} {K : PySem.W.Frag} {mg : Str → Option Value} {base : Heap} {f : Addr} {fd : FuncData} (F : Df K mg "speaker_at" s_speaker_at f fd ["facts", "tick"]) (T : Txt mg)
    (c_is_present : Cl P w K mg base 3 "is_present" (sp_is_present K)) : FnOk P w K mg base CX0 4 f fd ["facts", "tick"] (sp_speaker_at K) := by
  refine F.ok sc_speaker_at (fun vs H Q E h => ?_) (fun cdv A outer s H vs Q E hr h => ?_)
  · obtain ⟨x, tick, t, f, en, go, pend, rfl, _⟩ := h
    rfl
  · obtain ⟨x, tick, t, f, en, go, pend, rfl, hx, hl, hn, q⟩ := h
    refine ⟨_, (pss_cons (ps_for PassesOwn.never rfl (pi_range1 rfl T.b_range (pa_cons (pe_callB (id := "len") (r := qLen K) c_len (by rfl) T.b_len (by decide +kernel) (pa_cons (pe_ix (r := rIxT K) ix_tup (pv 0) pe_int (fun _ _ => rfl)) pa_nil)) pa_nil)) (pg_name (i := 2) sc_speaker_at.nd rfl (Or.inl rfl)) (pss_one (ps_if (pt_val (pe_cl c_is_present hr (by decide) rfl (pa_cons (pv 0) (pa_cons (pv 2) (pa_cons (pv 1) pa_nil))))) (pss_one (ps_ret (pv 2))) pss_nil)))
      (pss_one (ps_ret pe_non))), ?_⟩
    try dsimp only [cxOf, Cx.nox, Cx.wish]
    refine st_of (σ' := [some _, some _, none]) rfl ?_
    wtm_at "jw"
    rw [List.length_map, Int.toNat_natCast]
    refine f_range (fun i σ H' => H' = H ∧ perL (fun s => entT (og en s) s pend) go tick i = [] ∧ ∃ v1, σ = [some x, some (.int tick), v1]) ⟨rfl, rfl, none, rfl⟩ (fun i σ H' hi h => ?_) (fun σ H' h => ?_)
    · obtain ⟨rfl, hno, v1, rfl⟩ := h
      wtm_at "jw"
      rw [Int.zero_add]
      refine ⟨x, i, tick, t, f, en, go, pend, rfl, hx, hi, by omega, ?_⟩
      wtm_at "jw"
      refine c_bool (fun h => ?_) (fun h => ?_)
      · wtm_at "jw"
        obtain ⟨r, hr'⟩ := perL_split (fun s => entT (og en s) s pend) go tick (i + 1) en.length (by omega)
        rw [hr', perL_succ, if_pos h, hno] at q
        exact q
      · wtm_at "jw"
        exact ⟨rfl, by rw [perL_succ, if_neg (by rw [h]; exact Bool.false_ne_true), hno], _, rfl⟩
    · obtain ⟨rfl, hno, v1, rfl⟩ := h
      rw [hno] at q
      wtm_at "jw"
      exact q
def sp__law_is_asked (K : PySem.W.Frag) : Sp := fun vs H Q _ => ∃ (x : V) (tick : Int) (n : Nat) (d : PyData), vs = [x, .int tick] ∧ TD K H x d ∧ FOk n d ∧ n ≤ 10 ∧ ∀ H', Same H H' → Q (.bl true) H'
theorem dp_per {K : PySem.W.Frag} {l : List Nat} : Shp 1 (.tuple (l.map iD)) := Shp.tup fun d hd => by
  obtain ⟨n, _, rfl⟩ := List.mem_map.mp hd
  exact Shp.int _
theorem ok__law_is_asked {P : Program} {w : World} {K : PySem.W.Frag} {mg : Str → Option Value} {base : Heap} {f : Addr} {fd : FuncData} (F : Df K mg "_law_is_asked" s__law_is_asked f fd ["facts", "tick"]) (T : Txt mg)
    (c__law_here : Cl P w K mg base 1 "_law_here" (sp__law_here K))
    (c_present_at : Cl P w K mg base 4 "present_at" (sp_present_at K))
    (c_speaker_at : Cl P w K mg base 4 "speaker_at" (sp_speaker_at K))
    (c__law_is_int : Cl P w K mg base 1 "_law_is_int" (sp__law_is_int K)) : Gok P w K mg base 5 f fd ["facts", "tick"] (sp__law_is_asked K) := by
  refine F.gok sc__law_is_asked (fun vs H Q E h => ?_) (fun cdv A outer s H vs Q E hr hG h => ?_)
  · obtain ⟨x, tick, n, d, rfl, _⟩ := h
    rfl
  · obtain ⟨x, tick, n, d, rfl, hx, ⟨t, f, en, go, pend, rfl, l1, l2, hok⟩, hn, q⟩ := h
    refine ⟨_, (pss_cons (ps_set (i := 2) sc__law_is_asked.nd rfl (Or.inl rfl) (pe_cl c__law_here hr (by decide) rfl (pa_cons (pv 0) (pa_cons (pv 1) pa_nil))))
      (pss_cons (ps_set (i := 3) sc__law_is_asked.nd rfl (Or.inl rfl) (pe_cl c_present_at hr (by decide) rfl (pa_cons (pv 0) (pa_cons (pv 1) pa_nil))))
      (pss_cons (ps_if (PW.pt (pw_or (pt_cmpR (r := rNeD K) (op_neD hr.units) (pv 3) (pv 2) (nomark _)) (pw_or1 (pt_cmpR op_ne (pe_callB (id := "repr") (r := rReprD K) (c_reprD hG hr.units) (by rfl) T.b_repr (by decide +kernel) (pa_cons (pv 3) pa_nil)) (pe_callB (id := "repr") (r := rReprD K) (c_reprD hG hr.units) (by rfl) T.b_repr (by decide +kernel) (pa_cons (pv 2) pa_nil)) (nomark _))))) (pss_one (ps_ret pe_bl)) pss_nil)
      (pss_cons (ps_set (i := 4) sc__law_is_asked.nd rfl (Or.inl rfl) (pe_cl c_speaker_at hr (by decide) rfl (pa_cons (pv 0) (pa_cons (pv 1) pa_nil))))
      (pss_cons (ps_if (pt_cmpR op_eq (pe_callB (id := "len") (r := qLen K) c_len (by rfl) T.b_len (by decide +kernel) (pa_cons (pv 2) pa_nil)) pe_int (nomark _)) (pss_one (ps_ret (pe_cmpR o_isN (pv 4) pe_non (nomark _)))) pss_nil)
      (pss_one (ps_ret (pe_and (pe_cmpR op_eq (pv 4) (pe_ix (r := rIxT K) ix_tup (pv 2) pe_int (fun _ _ => rfl)) (nomark _)) (pe_one (pe_cl c__law_is_int hr (by decide) rfl (pa_cons (pv 4) pa_nil))))))))))), ?_⟩
    try dsimp only [cxOf, Cx.nox, Cx.wish]
    refine st_of (σ' := [some _, some _, none, none, none]) rfl ?_
    wtm_at "jw"
    refine ⟨x, tick, t, f, en, go, pend, rfl, hx, by omega, by omega, fun v1 H1 s1 h1 => ?_⟩
    have hx1 := hx.same s1
    wtm_at "jw"
    refine ⟨x, tick, t, f, en, go, pend, rfl, hx1, by omega, by omega, fun v2 H2 s2 h2 => ?_⟩
    have hx2 := hx1.same s2
    rw [← perL_eq (e1 := fun s => entP (og en s) s pend) fun s hs => hok s (by omega)] at h2
    have h1' := h1.same s2
    have sp_eq : perL (fun s => entT (og en s) s pend) go tick en.length = perL (fun s => entP (og en s) s pend) go tick en.length := perL_eq fun s hs => (hok s (by omega)).symm
    have ll := perL_len (fun s => entP (og en s) s pend) go tick en.length
    have lt : ∀ s ∈ perL (fun s => entP (og en s) s pend) go tick en.length, s < en.length := fun s hs => perL_lt hs
    generalize perL (fun s => entP (og en s) s pend) go tick en.length = L at h1 h1' h2 sp_eq ll lt
    have rp : Rp 1 1000 (.tuple (L.map iD)) := by
      refine (Rp.tup (n := 0) (w := 40) fun d hd => ?_).mono (Nat.le_refl _) (by rw [List.length_map]; omega)
      obtain ⟨s, hs, rfl⟩ := List.mem_map.mp hd
      have := lt s hs
      exact Rp.int (by omega)
    wtm_at "jw"
    refine i_neS' h2.dp h1'.dp (dp_per (K := K)) (by decide) ?_
    wtm_at "jw"
    refine i_reprS h2.dp rp (by decide) (by decide) ⟨_, rfl⟩ fun r1 er1 => ?_
    wtm_at "jw"
    refine i_reprS h1'.dp rp (by decide) (by decide) ⟨_, rfl⟩ fun r2 er2 => ?_
    wtm_at "jw"
    refine c_noN (er1.trans er2.symm) ?_
    clear er1 er2
    wtm_at "jw"
    refine ⟨x, tick, t, f, en, go, pend, rfl, hx2, by omega, by omega, ?_⟩
    rw [sp_eq]
    cases L with
    | nil =>
      wtm_at "jw"
      refine c_yes rfl ?_
      wtm_at "jw"
      exact q _ (s1.trans s2)
    | cons m r =>
      have h1d : TD K H2 v1 (.tuple (.int (m : Int) :: r.map iD)) := h1'
      unfold headO ovO
      wtm_at "jw"
      refine c_no (by simp; omega) ?_
      wtm_at "jw"
      refine c_yes rfl ?_
      wtm_at "jw"
      refine ⟨(m : Int), rfl, ?_⟩
      exact q _ (s1.trans s2)
def sp_law (K : PySem.W.Frag) : Sp := fun vs H Q _ => ∃ (a : Addr) (ns : List Int), vs = [.ref a] ∧ SqL K H a (ns.map V.int) ∧ ns.length ≤ 63 ∧ ∀ H', Q (.bl true) H'
theorem rgV_mem {a b : Int} {x : V} (h : x ∈ rgV a b) : ∃ z : Int, x = .int z := by
  unfold rgV at h
  obtain ⟨k, _, rfl⟩ := List.mem_map.mp h
  exact ⟨_, rfl⟩
theorem ok_law {P : Program} {w : World} {K : PySem.W.Frag} {mg : Str → Option Value} {base : Heap} {f : Addr} {fd : FuncData} (F : Df K mg "law" s_law f fd ["script"]) (T : Txt mg)
    (c__law_begin : Cl P w K mg base 1 "_law_begin" (sp__law_begin K))
    (c__law_shuffled : Cl P w K mg base 2 "_law_shuffled" (sp__law_shuffled K))
    (c__law_begun : Cl P w K mg base 3 "_law_begun" (sp__law_begun K))
    (c_first_facts : Cl P w K mg base 1 "first_facts" (sp_first_facts K))
    (c__law_draw : Cl P w K mg base 1 "_law_draw" (sp__law_draw K))
    (c__law_past : Cl P w K mg base 3 "_law_past" (sp__law_past K))
    (c__law_behind : Cl P w K mg base 2 "_law_behind" (sp__law_behind K))
    (c__law_is_asked : Cg P w K mg base 5 "_law_is_asked" (sp__law_is_asked K))
    (c__law_pick : Cl P w K mg base 2 "_law_pick" (sp__law_pick K)) : Gok P w K mg base 6 f fd ["script"] (sp_law K) := by
  refine F.gok sc_law (fun vs H Q E h => ?_) (fun cdv A outer s H vs Q E hr hG h => ?_)
  · obtain ⟨a, ns, rfl, _⟩ := h
    rfl
  · obtain ⟨a, ns, rfl, hS, hl, k⟩ := h
    refine ⟨_, (pss_cons (ps_set (i := 1) sc_law.nd rfl (Or.inl rfl) (pe_cl c__law_begin hr (by decide) rfl (pa_cons (pv 0) pa_nil)))
      (pss_cons (ps_set (i := 2) sc_law.nd rfl (Or.inl rfl) (pe_lst pa_nil))
      (pss_cons (ps_for PassesOwn.never rfl (pi_range1 rfl T.b_range (pa_cons pe_int pa_nil)) (pg_name (i := 3) sc_law.nd rfl (Or.inl rfl)) (pss_cons (ps_set (i := 4) sc_law.nd rfl (Or.inl rfl) (pe_op op_add pe_int (pe_cl c__law_draw hr (by decide) rfl (pa_cons (pv 1) (pa_cons pe_int pa_nil)))))
      (pss_cons (ps_set (i := 5) sc_law.nd rfl (Or.inl rfl) (pe_op op_add pe_int (pe_op op_mul pe_int (pe_op op_add (pe_cl c__law_pick hr (by decide) rfl (pa_cons (pv 1) (pa_cons (pe_lst (pa_cons pe_int (pa_cons pe_int (pa_cons pe_int (pa_cons pe_int (pa_cons pe_int pa_nil)))))) pa_nil))) (pe_cl c__law_pick hr (by decide) rfl (pa_cons (pv 1) (pa_cons (pe_lst (pa_cons pe_int (pa_cons pe_int (pa_cons pe_int (pa_cons pe_int (pa_cons pe_int pa_nil)))))) pa_nil)))))))
      (pss_cons (ps_set (i := 6) sc_law.nd rfl (Or.inl rfl) (pe_cl c__law_begun hr (by decide) rfl (pa_cons (pv 1) (pa_cons (pv 4) pa_nil))))
      (pss_cons (ps_set (i := 7) sc_law.nd rfl (Or.inl rfl) (pe_tup (pa_cons pe_str (pa_cons pe_int (pa_cons pe_int (pa_cons (pe_callTy (T := "tuple") (r := rTupOf K) c_tup (by rfl) T.b_tuple (by decide +kernel) (pa_cons (pe_lc (own := [("flag", 8)]) (g := gName 8) (tt := tYes) rfl sc_law.nd (pi_tup (pv 6)) (blkOk_by (own := [("flag", 8)]) (N := N_law) (sc := defScope s_law) (by decide +kernel)) (fun _ _ _ _ _ => (pg_name (i := 8) sc_law.nd rfl (Or.inl rfl))) (fun _ _ _ _ _ => pts_nil) (fun _ _ _ _ _ => (pe_ifExp (pt_cmpR op_eq (pv 8) pe_int (nomark _)) pe_int pe_non))) pa_nil)) (pa_cons (pe_callTy (T := "tuple") (r := rTupOf K) c_tup (by rfl) T.b_tuple (by decide +kernel) (pa_cons (pe_lc (own := [("flag", 8)]) (g := gName 8) (tt := tYes) rfl sc_law.nd (pi_tup (pv 6)) (blkOk_by (own := [("flag", 8)]) (N := N_law) (sc := defScope s_law) (by decide +kernel)) (fun _ _ _ _ _ => (pg_name (i := 8) sc_law.nd rfl (Or.inl rfl))) (fun _ _ _ _ _ => pts_nil) (fun _ _ _ _ _ => pe_non)) pa_nil)) (pa_cons (pe_tup pa_nil) pa_nil))))))))
      (pss_cons (ps_set (i := 9) sc_law.nd rfl (Or.inl rfl) (pe_cl c_first_facts hr (by decide) rfl (pa_cons (pv 6) pa_nil)))
      (pss_cons (ps_if (PW.pt (pw_or (pt_cmpR (r := rNeD K) (op_neD hr.units) (pv 9) (pv 7) (nomark _)) (pw_or1 (pt_cmpR op_ne (pe_callB (id := "repr") (r := rReprD K) (c_reprD hG hr.units) (by rfl) T.b_repr (by decide +kernel) (pa_cons (pv 9) pa_nil)) (pe_callB (id := "repr") (r := rReprD K) (c_reprD hG hr.units) (by rfl) T.b_repr (by decide +kernel) (pa_cons (pv 7) pa_nil)) (nomark _))))) (pss_one (ps_ret pe_bl)) pss_nil)
      (pss_cons (ps_set (i := 10) sc_law.nd rfl (Or.inl rfl) (pe_cl c__law_draw hr (by decide) rfl (pa_cons (pv 1) (pa_cons pe_int pa_nil))))
      (pss_cons (ps_set (i := 11) sc_law.nd rfl (Or.inl rfl) (pe_cl c__law_past hr (by decide) rfl (pa_cons (pv 1) (pa_cons (pv 6) (pa_cons (pv 5) (pa_cons (pv 10) pa_nil))))))
      (pss_cons (ps_expr (pe_bmK (K := K) rfl PySem.F.plainAttrs_list PySem.F.slot_list_append PySem.F.type_list_append mt_append (pv 2) (pa_cons (pe_cl c__law_behind hr (by decide) rfl (pa_cons (pv 11) (pa_cons (pv 5) (pa_cons (pe_cl c__law_draw hr (by decide) rfl (pa_cons (pv 1) (pa_cons (pe_op op_add (pv 10) pe_int) pa_nil))) pa_nil)))) pa_nil)))
      (pss_one (ps_expr (pe_bmK (K := K) rfl PySem.F.plainAttrs_list PySem.F.slot_list_append PySem.F.type_list_append mt_append (pv 2) (pa_cons (pe_cl c__law_behind hr (by decide) rfl (pa_cons (pv 11) (pa_cons (pv 5) (pa_cons (pv 10) pa_nil)))) pa_nil))))))))))))))
      (pss_cons (ps_for PassesOwn.never rfl (pi_list (pe_cl c__law_shuffled hr (by decide) rfl (pa_cons (pv 1) (pa_cons (pe_listRg rfl (by rfl) T.b_list (prg_1 (by rfl) T.b_range pe_int)) pa_nil)))) (pg_name (i := 12) sc_law.nd rfl (Or.inl rfl)) (pss_one (ps_for PassesOwn.never rfl (pi_list (pv 2)) (pg_name (i := 13) sc_law.nd rfl (Or.inl rfl)) (pss_one (ps_if (pt_not (pt_val (pe_cg c__law_is_asked hr hG (by decide) rfl (pa_cons (pv 13) (pa_cons (pv 12) pa_nil))))) (pss_one (ps_ret pe_bl)) pss_nil)))))
      (pss_one (ps_ret pe_bl)))))), ?_⟩
    try dsimp only [cxOf, Cx.nox, Cx.wish]
    refine st_of (σ' := [some _, none, none, none, none, none, none, none, none, none, none, none, none, none]) rfl ?_
    wtm_at "jw"
    refine ⟨a, ns, rfl, hS, hl, fun p c H0 s0 hp hc d0 => ?_⟩
    have w0 := d0.drew
    wtm_at "jw"
    intro PR hPR
    have w1 := w0.new (o := .lst []) hPR
    have nP := d0.ne_none hPR
    have hP1 : LD K (upd H0 PR (.lst [])) PR [] := .new hPR .nil
    generalize upd H0 PR (.lst []) = H1 at w1 hP1 ⊢
    wtm_at "jw"
    refine f_range (fun i σ H' => Drew p c H0 H' ∧ ∃ (ds : List PyData) (v1 v2 v3 v4 v5 v6 v7 v8 v9 v10 v11 : Option V), LD K H' PR ds ∧ (∀ d ∈ ds, ∃ n, FOk n d ∧ n ≤ 10) ∧ ds.length = 2 * i ∧
        σ = [some (.ref a), some (.ref p), some (.ref PR), v1, v2, v3, v4, v5, v6, v7, v8, v9, v10, v11])
      ⟨w1, [], none, none, none, none, none, none, none, none, none, none, none, hP1, by simp, rfl, rfl⟩ (fun i σ H' hi h => ?_) (fun σ H' h => ?_)
    · obtain ⟨w2, ds, v1, v2, v3, v4, v5, v6, v7, v8, v9, v10, v11, hP2, hds, hdl, rfl⟩ := h
      have hi' : i < 2 := by omega
      wtm_at "jw"
      refine drawL w2 (by decide) (by decide) fun z1 H3 z10 z11 e w3 => ?_
      have hP3 := hP2.drew w2.at_ e nP
      wtm_at "jw"
      intro B1 hB1
      wtm_at "jw"
      refine pickL (fun z => 0 ≤ z ∧ z ≤ 3) [0, 0, 1, 2, 3] w3 hB1 rfl (by decide) (by decide) (by decide) fun y1 H4 hy1 e w4 => ?_
      have hP4 := hP3.drew w3.at_ e nP
      wtm_at "jw"
      intro B2 hB2
      wtm_at "jw"
      refine pickL (fun z => 0 ≤ z ∧ z ≤ 3) [0, 1, 0, 2, 3] w4 hB2 rfl (by decide) (by decide) (by decide) fun y2 H5 hy2 e w5 => ?_
      have hP5 := hP4.drew w4.at_ e nP
      obtain ⟨n, hn⟩ : ∃ n : Nat, 1 + z1 = (n : Int) := ⟨(1 + z1).toNat, by omega⟩
      wtm_at "jw"
      rw [hn]
      generalize 3 + 3 * (y1 + y2) = ho
      refine ⟨p, c, n, rfl, w5.at_, by omega, by omega, fun bg bs H6 e hbg hbl hbs => ?_⟩
      have w6 := w5.trans e
      have hP6 := hP5.drew w5.at_ e nP
      have hb6 : SqT K H6 bg (bs.map V.int) := SqT.of hbg
      wtm_at "jw"
      intro E hE
      refine l_tup (xs := bs.map V.int) (fun i H' => Same H6 H' ∧ H' E = some (.lst ((entB (bs.take i)).map ovO))) ⟨same_new hE, upd_same⟩ (fun i H' _ h => Same.tup h.1 hb6) (fun i x H' hi h => ?_) (fun H7 h => ?_)
      · obtain ⟨s1, hE1⟩ := h
        obtain ⟨z, rfl, e1, e2, hlt⟩ := ints_at hi
        have hsz : ((entB (bs.take i)).map ovO).length < sizeLine := small1000 (by unfold entB; rw [List.length_map, List.length_map, List.length_take]; omega)
        wtm_at "jw"
        refine ⟨rfl, ?_⟩
        wtm_at "jw"
        refine c_dec (fun h => ?_) (fun h => ?_)
        · wtm_at "jw"
          exact ⟨_, hE1, hsz, put_same s1 hE, by rw [upd_same, e2]; unfold entB; rw [List.map_append, List.map_append, List.map_singleton, if_pos h]; rfl⟩
        · wtm_at "jw"
          exact ⟨_, hE1, hsz, put_same s1 hE, by rw [upd_same, e2]; unfold entB; rw [List.map_append, List.map_append, List.map_singleton, if_neg h]; rfl⟩
      obtain ⟨s1, hE1⟩ := h
      rw [List.length_map, List.take_length] at hE1
      wtm_at "jw"
      intro T1 hT1
      have s2 := s1.trans (same_new (o := .tup ((entB bs).map ovO)) hT1)
      have k1 : TD K (upd H7 T1 (.tup ((entB bs).map ovO))) (.ref T1) (.tuple ((entB bs).map oD)) := TD.new hT1 (TDs.ovs _)
      generalize upd H7 T1 (.tup ((entB bs).map ovO)) = H8 at s2 k1 ⊢
      have hb8 := Same.tup s2 hb6
      wtm_at "jw"
      intro G hG'
      refine l_tup (xs := bs.map V.int) (fun i H' => Same H8 H' ∧ H' G = some (.lst ((nonB (bs.take i)).map ovO))) ⟨same_new hG', upd_same⟩ (fun i H' _ h => Same.tup h.1 hb8) (fun i x H' hi h => ?_) (fun H9 h => ?_)
      · obtain ⟨s3, hG1⟩ := h
        obtain ⟨z, rfl, e1, e2, hlt⟩ := ints_at hi
        have hsz : ((nonB (bs.take i)).map ovO).length < sizeLine := small1000 (by unfold nonB; rw [List.length_map, List.length_map, List.length_take]; omega)
        wtm_at "jw"
        refine ⟨rfl, ?_⟩
        wtm_at "jw"
        exact ⟨_, hG1, hsz, put_same s3 hG', by rw [upd_same, e2]; unfold nonB; rw [List.map_append, List.map_append, List.map_singleton]; rfl⟩
      obtain ⟨s3, hG3⟩ := h
      rw [List.length_map, List.take_length] at hG3
      have k1a := k1.same s3
      wtm_at "jw"
      intro T2 hT2
      have s4 := same_new (o := .tup ((nonB bs).map ovO)) hT2
      have k2 : TD K (upd H9 T2 (.tup ((nonB bs).map ovO))) (.ref T2) (.tuple ((nonB bs).map oD)) := TD.new hT2 (TDs.ovs _)
      have k1b := k1a.same s4
      generalize upd H9 T2 (.tup ((nonB bs).map ovO)) = H10 at s4 k2 k1b ⊢
      wtm_at "jw"
      intro T3 hT3
      have s5 := same_new (o := .tup []) hT3
      have k3 : TD K (upd H10 T3 (.tup [])) (.ref T3) (.tuple (([] : List (Int × Int)).map pD)) := TD.new hT3 .nil
      have k1c := k1b.same s5
      have k2c := k2.same s5
      generalize upd H10 T3 (.tup []) = H11 at s5 k3 k1c k2c ⊢
      wtm_at "jw"
      intro T4 hT4
      have s6 := (((s2.trans s3).trans s4).trans s5).trans (same_new (o := .tup [V.str "facts", .int 0, .int 0, .ref T1, .ref T2, .ref T3]) hT4)
      have hdue : TD K (upd H11 T4 (.tup [V.str "facts", .int 0, .int 0, .ref T1, .ref T2, .ref T3])) (.ref T4) (factsD 0 0 (entB bs) (nonB bs) []) := TD.new hT4 (.cons (.str _) (.cons (.int _) (.cons (.int _) (.cons k1c (.cons k2c (.cons k3 .nil))))))
      generalize upd H11 T4 (.tup [V.str "facts", .int 0, .int 0, .ref T1, .ref T2, .ref T3]) = H12 at s6 hdue ⊢
      have w12 := w6.same s6
      have hP12 := hP6.same s6
      have hb12 := Same.tup s6 hb6
      wtm_at "jw"
      refine ⟨bg, bs, rfl, hb12, by omega, fun v H13 s13 hv => ?_⟩
      have w13 := w12.same s13
      have hP13 := hP12.same s13
      have hb13 := Same.tup s13 hb12
      have hdue' := hdue.same s13
      have rp : Rp 3 120006 (factsD 0 0 (entB bs) (nonB bs) []) := rp_facts (by decide) (by decide) (fun o ho => by
          obtain ⟨b, _, rfl⟩ := List.mem_map.mp ho
          show ob (if b = 1 then some 0 else none)
          split
          · show (0 : Int).natAbs < _; decide
          · trivial) (fun o ho => by
          obtain ⟨b, _, rfl⟩ := List.mem_map.mp ho
          trivial) (by simp) (by simp [entB]; omega) (by simp [nonB]; omega) (by simp)
      wtm_at "jw"
      refine i_neS' hv.dp hdue'.dp (shp_facts _ _ _ _ _) (by decide) ?_
      wtm_at "jw"
      refine i_reprS hv.dp rp (by decide) (by decide) ⟨_, rfl⟩ fun r1 er1 => ?_
      wtm_at "jw"
      refine i_reprS hdue'.dp rp (by decide) (by decide) ⟨_, rfl⟩ fun r2 er2 => ?_
      wtm_at "jw"
      refine c_noN (er1.trans er2.symm) ?_
      clear er1 er2 rp
      wtm_at "jw"
      refine drawL w13 (by decide) (by decide) fun z3 H14 z30 z31 e w14 => ?_
      have hP14 := hP13.drew w13.at_ e nP
      have hb14 := (e.tps w13.at_).sq hb13
      obtain ⟨ticks, rfl⟩ : ∃ n : Nat, z3 = (n : Int) := ⟨z3.toNat, by omega⟩
      wtm_at "jw"
      refine ⟨p, c, bg, bs, ho, ticks, rfl, w14.at_, hb14, by omega, by omega, by omega, fun r e g f en go fo H15 d8 hr8 he8 hg8 hf8 ne ng nf len lgo hfo lfo => ?_⟩
      have w15 := w14.trans d8
      have hP15 := hP14.drew w14.at_ d8 nP
      have ne' := w14.at_.ne_none ne
      have ng' := w14.at_.ne_none ng
      have nf' := w14.at_.ne_none nf
      have nr' : r ≠ p := by
        obtain ⟨xs, ep⟩ := w15.at_.some
        exact ne_of hr8 ep (by intro z; cases z)
      obtain ⟨us, hus, tus⟩ := hP15
      wtm_at "jw"
      refine drawL w15 (by omega) (by omega) fun z4 H16 z40 z41 e9 w16 => ?_
      have hr9 := e9.kp _ _ hr8 nr'
      have he9 := e9.kp _ _ he8 ne'
      have hg9 := e9.kp _ _ hg8 ng'
      have hf9 := hf8.drew w15.at_ e9 nf'
      have hP16 := LD.drew ⟨us, hus, tus⟩ w15.at_ e9 nP
      wtm_at "jw"
      refine ⟨r, e, g, f, en, go, fo, ho, z4, rfl, hr9, he9, hg9, hf9, by omega, by omega, by omega, fun u1 H17 pe1 s17 srt1 hu1 => ?_⟩
      have ok1 := fok_of (f := forceL fo z4) (go := go) (t := z4) srt1 hfo (len.trans hbl) (lgo.trans hbl)
      have w17 := w16.same s17
      obtain ⟨us7, hus7, tus7⟩ := hP16.same s17
      have nrPR : r ≠ PR := ne_of (s17 _ _ hr9) hus7 (by intro z; cases z)
      have nne : ∀ b, H14 b = none → b ≠ PR := fun b hb => by
        obtain ⟨us0, hus0, _⟩ := hP14
        exact (ne_of_none hus0 hb).symm
      have hsz7 : us7.length < sizeLine := small1000 (by have := tus7.len; omega)
      wtm_at "jw"
      have hr10 : upd H17 PR (.lst (us7 ++ [u1])) r = some (.dK (pastK e g f)) := by rw [upd_ne nrPR]; exact s17 _ _ hr9
      have he10 : upd H17 PR (.lst (us7 ++ [u1])) e = some (.lst (en.map ovO)) := by rw [upd_ne (nne e ne)]; exact s17 _ _ he9
      have hg10 : upd H17 PR (.lst (us7 ++ [u1])) g = some (.lst (go.map ovO)) := by rw [upd_ne (nne g ng)]; exact s17 _ _ hg9
      have hf10 : LPr (upd H17 PR (.lst (us7 ++ [u1]))) f fo := (hf9.same s17).kp Kp.upd hus7 (nne f nf)
      have hP18 := LD.snoc hus7 tus7 hu1
      have w18 : Drew p c H0 (upd H17 PR (.lst (us7 ++ [u1]))) := w17.put d0 hPR
      generalize upd H17 PR (.lst (us7 ++ [u1])) = H18 at hr10 he10 hg10 hf10 hP18 w18 ⊢
      refine ⟨r, e, g, f, en, go, fo, ho, _, rfl, hr10, he10, hg10, hf10, by omega, by omega, by omega, fun u2 H19 pe2 s19 srt2 hu2 => ?_⟩
      have ok2 := fok_of (f := forceL fo (ticks : Int)) (go := go) (t := (ticks : Int)) srt2 hfo (len.trans hbl) (lgo.trans hbl)
      have w19 := w18.same s19
      obtain ⟨us9, hus9, tus9⟩ := hP18.same s19
      have hsz9 : us9.length < sizeLine := small1000 (by have := tus9.len; rw [List.length_append] at this; simp at this; omega)
      wtm_at "jw"
      refine ⟨w19.put d0 hPR, _, _, _, _, _, _, _, _, _, _, _, _, LD.snoc hus9 tus9 hu2, fun d hd => ?_, by simp; omega, rfl⟩
      rcases List.mem_append.mp hd with hd | hd
      · rcases List.mem_append.mp hd with hd | hd
        · exact hds d hd
        · rw [List.mem_singleton.mp hd]; exact ⟨n, ok1, by omega⟩
      · rw [List.mem_singleton.mp hd]; exact ⟨n, ok2, by omega⟩
    · obtain ⟨w2, ds, v1, v2, v3, v4, v5, v6, v7, v8, v9, v10, v11, hP2, hds, hdl, rfl⟩ := h
      wtm_at "jw"
      refine i_lr1 ?_
      wtm_at "jw"
      refine ⟨RgOk.of_le (by decide) (by decide) (by decide) (by decide), fun R hR => ?_⟩
      have w3 := w2.new (o := .lst (rgV 0 48)) hR
      have hP3 := hP2.same (same_new (o := .lst (rgV 0 48)) hR)
      have hR3 := upd_same (H := H') (a := R) (o := .lst (rgV 0 48))
      generalize upd H' R (.lst (rgV 0 48)) = H3 at w3 hP3 hR3 ⊢
      wtm_at "jw"
      refine ⟨p, c, R, _, rfl, w3.at_, .inl (SqL.of hR3), by rw [rgV_length]; decide, fun q ys H4 e4 nq hq pm => ?_⟩
      have w4 := w3.trans e4
      have hP4 := hP3.drew w3.at_ e4 nP
      wtm_at "jw"
      refine f_list (xs := ys) (fun i σ H' => Same H4 H' ∧ ∃ (v11 v12 : Option V), σ = [some (.ref a), some (.ref p), some (.ref PR), v1, v2, v3, v4, v5, v6, v7, v8, v9, v11, v12]) ⟨Same.refl _, _, _, rfl⟩ (fun i σ H' _ h => SqL.of (h.1 _ _ hq)) (fun i x σ H' hi h => ?_) (fun σ H' h => ?_)
      · obtain ⟨s5, v11, v12, rfl⟩ := h
        obtain ⟨tick, rfl⟩ := rgV_mem (pm.mem_iff.mp (List.mem_of_getElem? hi))
        obtain ⟨us, hus, tus⟩ := hP4.same s5
        wtm_at "jw"
        refine f_list (xs := us) (fun j σ H2 => Same H' H2 ∧ ∃ (v12 : Option V), σ = [some (.ref a), some (.ref p), some (.ref PR), v1, v2, v3, v4, v5, v6, v7, v8, v9, some (.int tick), v12]) ⟨Same.refl _, _, rfl⟩ (fun j σ H' _ h => SqL.of (h.1 _ _ hus)) (fun j y σ H2 hj h => ?_) (fun σ H2 h => ?_)
        · obtain ⟨s6, v12, rfl⟩ := h
          obtain ⟨d, hd, hyd, _, _⟩ := tus.at hj
          obtain ⟨n, ok, hn⟩ := hds d (List.mem_of_getElem? hd)
          wtm_at "jw"
          refine ⟨y, tick, n, d, rfl, hyd.same s6, ok, hn, fun H7 s7 => ?_⟩
          wtm_at "jw"
          exact ⟨s6.trans s7, _, rfl⟩
        · obtain ⟨s6, v12, rfl⟩ := h
          exact ⟨s5.trans s6, _, _, rfl⟩
      · obtain ⟨s5, v11, v12, rfl⟩ := h
        wtm_at "jw"
        exact k _
theorem law_hands {K : PySem.W.Frag} {H : Hp} (a : Addr) (ns : List Int) (hl : ns.length ≤ 63) (hb : ∀ z ∈ ns, Builtin.Int.intBits z ≤ 1048576) (h : SqL K H a (ns.map V.int)) :
    sp_law K [.ref a] H (fun v _ => v = .bl true) fun _ _ _ => False := ⟨a, ns, rfl, h, hl, fun _ => rfl⟩
theorem all_mk {l : PySem.W.OpenLaw} {w : World} {K : PySem.W.Frag} {h : Heap} {mg : Str → Option Value} {fa : Addr} (X : K.In h) (G : h.Ns mainGlobals mg) (hfa : mg "law" = some (.ref fa))
    {f__law_begin : Addr} {od__law_begin an__law_begin : Option Addr} {sl__law_begin : Array (Option Value)} {oc__law_begin kV__law_begin dc__law_begin pm__law_begin cd__law_begin ct__law_begin : Value}
    {f__law_draw : Addr} {od__law_draw an__law_draw : Option Addr} {sl__law_draw : Array (Option Value)} {oc__law_draw kV__law_draw dc__law_draw pm__law_draw cd__law_draw ct__law_draw : Value}
    {f__law_shuffled : Addr} {od__law_shuffled an__law_shuffled : Option Addr} {sl__law_shuffled : Array (Option Value)} {oc__law_shuffled kV__law_shuffled dc__law_shuffled pm__law_shuffled cd__law_shuffled ct__law_shuffled : Value}
    {f__law_pick : Addr} {od__law_pick an__law_pick : Option Addr} {sl__law_pick : Array (Option Value)} {oc__law_pick kV__law_pick dc__law_pick pm__law_pick cd__law_pick ct__law_pick : Value}
    {f__law_begun : Addr} {od__law_begun an__law_begun : Option Addr} {sl__law_begun : Array (Option Value)} {oc__law_begun kV__law_begun dc__law_begun pm__law_begun cd__law_begun ct__law_begun : Value}
    {f_first_facts : Addr} {od_first_facts an_first_facts : Option Addr} {sl_first_facts : Array (Option Value)} {oc_first_facts kV_first_facts dc_first_facts pm_first_facts cd_first_facts ct_first_facts : Value}
    {f__law_present : Addr} {od__law_present an__law_present : Option Addr} {sl__law_present : Array (Option Value)} {oc__law_present kV__law_present dc__law_present pm__law_present cd__law_present ct__law_present : Value}
    {f__law_order_counts : Addr} {od__law_order_counts an__law_order_counts : Option Addr} {sl__law_order_counts : Array (Option Value)} {oc__law_order_counts kV__law_order_counts dc__law_order_counts pm__law_order_counts cd__law_order_counts ct__law_order_counts : Value}
    {f__law_take_order : Addr} {od__law_take_order an__law_take_order : Option Addr} {sl__law_take_order : Array (Option Value)} {oc__law_take_order kV__law_take_order dc__law_take_order pm__law_take_order cd__law_take_order ct__law_take_order : Value}
    {f__law_past : Addr} {od__law_past an__law_past : Option Addr} {sl__law_past : Array (Option Value)} {oc__law_past kV__law_past dc__law_past pm__law_past cd__law_past ct__law_past : Value}
    {f__law_force : Addr} {od__law_force an__law_force : Option Addr} {sl__law_force : Array (Option Value)} {oc__law_force kV__law_force dc__law_force pm__law_force cd__law_force ct__law_force : Value}
    {f__law_behind : Addr} {od__law_behind an__law_behind : Option Addr} {sl__law_behind : Array (Option Value)} {oc__law_behind kV__law_behind dc__law_behind pm__law_behind cd__law_behind ct__law_behind : Value}
    {f__law_here : Addr} {od__law_here an__law_here : Option Addr} {sl__law_here : Array (Option Value)} {oc__law_here kV__law_here dc__law_here pm__law_here cd__law_here ct__law_here : Value}
    {f_entry_of : Addr} {od_entry_of an_entry_of : Option Addr} {sl_entry_of : Array (Option Value)} {oc_entry_of kV_entry_of dc_entry_of pm_entry_of cd_entry_of ct_entry_of : Value}
    {f_entry_tick : Addr} {od_entry_tick an_entry_tick : Option Addr} {sl_entry_tick : Array (Option Value)} {oc_entry_tick kV_entry_tick dc_entry_tick pm_entry_tick cd_entry_tick ct_entry_tick : Value}
    {f_is_present : Addr} {od_is_present an_is_present : Option Addr} {sl_is_present : Array (Option Value)} {oc_is_present kV_is_present dc_is_present pm_is_present cd_is_present ct_is_present : Value}
    {f_present_at : Addr} {od_present_at an_present_at : Option Addr} {sl_present_at : Array (Option Value)} {oc_present_at kV_present_at dc_present_at pm_present_at cd_present_at ct_present_at : Value}
    {f_speaker_at : Addr} {od_speaker_at an_speaker_at : Option Addr} {sl_speaker_at : Array (Option Value)} {oc_speaker_at kV_speaker_at dc_speaker_at pm_speaker_at cd_speaker_at ct_speaker_at : Value}
    {f__law_is_int : Addr} {od__law_is_int an__law_is_int : Option Addr} {sl__law_is_int : Array (Option Value)} {oc__law_is_int kV__law_is_int dc__law_is_int pm__law_is_int cd__law_is_int ct__law_is_int : Value}
    {f__law_is_asked : Addr} {od__law_is_asked an__law_is_asked : Option Addr} {sl__law_is_asked : Array (Option Value)} {oc__law_is_asked kV__law_is_asked dc__law_is_asked pm__law_is_asked cd__law_is_asked ct__law_is_asked : Value}
    {f_law : Addr} {od_law an_law : Option Addr} {sl_law : Array (Option Value)} {oc_law kV_law dc_law pm_law cd_law ct_law : Value}
    (a__law_begin : PySem.W.nsIn K mainGlobals "_law_begin" = some (some (.ref f__law_begin))) (l__law_begin : K.lookup f__law_begin = some ⟨oc__law_begin, od__law_begin, .func (PySem.W.fnOf "_law_begin" "_law_begin" (defArgs s__law_begin) (defBody s__law_begin) (defScope s__law_begin) .none kV__law_begin dc__law_begin pm__law_begin an__law_begin cd__law_begin ct__law_begin), sl__law_begin⟩) (c__law_begin : PySem.W.codeIn K cd__law_begin "_law_begin" = true) (k__law_begin : PySem.W.keepIn K (.ref f__law_begin) = true)
    (a__law_draw : PySem.W.nsIn K mainGlobals "_law_draw" = some (some (.ref f__law_draw))) (l__law_draw : K.lookup f__law_draw = some ⟨oc__law_draw, od__law_draw, .func (PySem.W.fnOf "_law_draw" "_law_draw" (defArgs s__law_draw) (defBody s__law_draw) (defScope s__law_draw) .none kV__law_draw dc__law_draw pm__law_draw an__law_draw cd__law_draw ct__law_draw), sl__law_draw⟩) (c__law_draw : PySem.W.codeIn K cd__law_draw "_law_draw" = true) (k__law_draw : PySem.W.keepIn K (.ref f__law_draw) = true)
    (a__law_shuffled : PySem.W.nsIn K mainGlobals "_law_shuffled" = some (some (.ref f__law_shuffled))) (l__law_shuffled : K.lookup f__law_shuffled = some ⟨oc__law_shuffled, od__law_shuffled, .func (PySem.W.fnOf "_law_shuffled" "_law_shuffled" (defArgs s__law_shuffled) (defBody s__law_shuffled) (defScope s__law_shuffled) .none kV__law_shuffled dc__law_shuffled pm__law_shuffled an__law_shuffled cd__law_shuffled ct__law_shuffled), sl__law_shuffled⟩) (c__law_shuffled : PySem.W.codeIn K cd__law_shuffled "_law_shuffled" = true) (k__law_shuffled : PySem.W.keepIn K (.ref f__law_shuffled) = true)
    (a__law_pick : PySem.W.nsIn K mainGlobals "_law_pick" = some (some (.ref f__law_pick))) (l__law_pick : K.lookup f__law_pick = some ⟨oc__law_pick, od__law_pick, .func (PySem.W.fnOf "_law_pick" "_law_pick" (defArgs s__law_pick) (defBody s__law_pick) (defScope s__law_pick) .none kV__law_pick dc__law_pick pm__law_pick an__law_pick cd__law_pick ct__law_pick), sl__law_pick⟩) (c__law_pick : PySem.W.codeIn K cd__law_pick "_law_pick" = true) (k__law_pick : PySem.W.keepIn K (.ref f__law_pick) = true)
    (a__law_begun : PySem.W.nsIn K mainGlobals "_law_begun" = some (some (.ref f__law_begun))) (l__law_begun : K.lookup f__law_begun = some ⟨oc__law_begun, od__law_begun, .func (PySem.W.fnOf "_law_begun" "_law_begun" (defArgs s__law_begun) (defBody s__law_begun) (defScope s__law_begun) .none kV__law_begun dc__law_begun pm__law_begun an__law_begun cd__law_begun ct__law_begun), sl__law_begun⟩) (c__law_begun : PySem.W.codeIn K cd__law_begun "_law_begun" = true) (k__law_begun : PySem.W.keepIn K (.ref f__law_begun) = true)
    (a_first_facts : PySem.W.nsIn K mainGlobals "first_facts" = some (some (.ref f_first_facts))) (l_first_facts : K.lookup f_first_facts = some ⟨oc_first_facts, od_first_facts, .func (PySem.W.fnOf "first_facts" "first_facts" (defArgs s_first_facts) (defBody s_first_facts) (defScope s_first_facts) .none kV_first_facts dc_first_facts pm_first_facts an_first_facts cd_first_facts ct_first_facts), sl_first_facts⟩) (c_first_facts : PySem.W.codeIn K cd_first_facts "first_facts" = true) (k_first_facts : PySem.W.keepIn K (.ref f_first_facts) = true)
    (a__law_present : PySem.W.nsIn K mainGlobals "_law_present" = some (some (.ref f__law_present))) (l__law_present : K.lookup f__law_present = some ⟨oc__law_present, od__law_present, .func (PySem.W.fnOf "_law_present" "_law_present" (defArgs s__law_present) (defBody s__law_present) (defScope s__law_present) .none kV__law_present dc__law_present pm__law_present an__law_present cd__law_present ct__law_present), sl__law_present⟩) (c__law_present : PySem.W.codeIn K cd__law_present "_law_present" = true) (k__law_present : PySem.W.keepIn K (.ref f__law_present) = true)
    (a__law_order_counts : PySem.W.nsIn K mainGlobals "_law_order_counts" = some (some (.ref f__law_order_counts))) (l__law_order_counts : K.lookup f__law_order_counts = some ⟨oc__law_order_counts, od__law_order_counts, .func (PySem.W.fnOf "_law_order_counts" "_law_order_counts" (defArgs s__law_order_counts) (defBody s__law_order_counts) (defScope s__law_order_counts) .none kV__law_order_counts dc__law_order_counts pm__law_order_counts an__law_order_counts cd__law_order_counts ct__law_order_counts), sl__law_order_counts⟩) (c__law_order_counts : PySem.W.codeIn K cd__law_order_counts "_law_order_counts" = true) (k__law_order_counts : PySem.W.keepIn K (.ref f__law_order_counts) = true)
    (a__law_take_order : PySem.W.nsIn K mainGlobals "_law_take_order" = some (some (.ref f__law_take_order))) (l__law_take_order : K.lookup f__law_take_order = some ⟨oc__law_take_order, od__law_take_order, .func (PySem.W.fnOf "_law_take_order" "_law_take_order" (defArgs s__law_take_order) (defBody s__law_take_order) (defScope s__law_take_order) .none kV__law_take_order dc__law_take_order pm__law_take_order an__law_take_order cd__law_take_order ct__law_take_order), sl__law_take_order⟩) (c__law_take_order : PySem.W.codeIn K cd__law_take_order "_law_take_order" = true) (k__law_take_order : PySem.W.keepIn K (.ref f__law_take_order) = true)
    (a__law_past : PySem.W.nsIn K mainGlobals "_law_past" = some (some (.ref f__law_past))) (l__law_past : K.lookup f__law_past = some ⟨oc__law_past, od__law_past, .func (PySem.W.fnOf "_law_past" "_law_past" (defArgs s__law_past) (defBody s__law_past) (defScope s__law_past) .none kV__law_past dc__law_past pm__law_past an__law_past cd__law_past ct__law_past), sl__law_past⟩) (c__law_past : PySem.W.codeIn K cd__law_past "_law_past" = true) (k__law_past : PySem.W.keepIn K (.ref f__law_past) = true)
    (a__law_force : PySem.W.nsIn K mainGlobals "_law_force" = some (some (.ref f__law_force))) (l__law_force : K.lookup f__law_force = some ⟨oc__law_force, od__law_force, .func (PySem.W.fnOf "_law_force" "_law_force" (defArgs s__law_force) (defBody s__law_force) (defScope s__law_force) .none kV__law_force dc__law_force pm__law_force an__law_force cd__law_force ct__law_force), sl__law_force⟩) (c__law_force : PySem.W.codeIn K cd__law_force "_law_force" = true) (k__law_force : PySem.W.keepIn K (.ref f__law_force) = true)
    (a__law_behind : PySem.W.nsIn K mainGlobals "_law_behind" = some (some (.ref f__law_behind))) (l__law_behind : K.lookup f__law_behind = some ⟨oc__law_behind, od__law_behind, .func (PySem.W.fnOf "_law_behind" "_law_behind" (defArgs s__law_behind) (defBody s__law_behind) (defScope s__law_behind) .none kV__law_behind dc__law_behind pm__law_behind an__law_behind cd__law_behind ct__law_behind), sl__law_behind⟩) (c__law_behind : PySem.W.codeIn K cd__law_behind "_law_behind" = true) (k__law_behind : PySem.W.keepIn K (.ref f__law_behind) = true)
    (a__law_here : PySem.W.nsIn K mainGlobals "_law_here" = some (some (.ref f__law_here))) (l__law_here : K.lookup f__law_here = some ⟨oc__law_here, od__law_here, .func (PySem.W.fnOf "_law_here" "_law_here" (defArgs s__law_here) (defBody s__law_here) (defScope s__law_here) .none kV__law_here dc__law_here pm__law_here an__law_here cd__law_here ct__law_here), sl__law_here⟩) (c__law_here : PySem.W.codeIn K cd__law_here "_law_here" = true) (k__law_here : PySem.W.keepIn K (.ref f__law_here) = true)
    (a_entry_of : PySem.W.nsIn K mainGlobals "entry_of" = some (some (.ref f_entry_of))) (l_entry_of : K.lookup f_entry_of = some ⟨oc_entry_of, od_entry_of, .func (PySem.W.fnOf "entry_of" "entry_of" (defArgs s_entry_of) (defBody s_entry_of) (defScope s_entry_of) .none kV_entry_of dc_entry_of pm_entry_of an_entry_of cd_entry_of ct_entry_of), sl_entry_of⟩) (c_entry_of : PySem.W.codeIn K cd_entry_of "entry_of" = true) (k_entry_of : PySem.W.keepIn K (.ref f_entry_of) = true)
    (a_entry_tick : PySem.W.nsIn K mainGlobals "entry_tick" = some (some (.ref f_entry_tick))) (l_entry_tick : K.lookup f_entry_tick = some ⟨oc_entry_tick, od_entry_tick, .func (PySem.W.fnOf "entry_tick" "entry_tick" (defArgs s_entry_tick) (defBody s_entry_tick) (defScope s_entry_tick) .none kV_entry_tick dc_entry_tick pm_entry_tick an_entry_tick cd_entry_tick ct_entry_tick), sl_entry_tick⟩) (c_entry_tick : PySem.W.codeIn K cd_entry_tick "entry_tick" = true) (k_entry_tick : PySem.W.keepIn K (.ref f_entry_tick) = true)
    (a_is_present : PySem.W.nsIn K mainGlobals "is_present" = some (some (.ref f_is_present))) (l_is_present : K.lookup f_is_present = some ⟨oc_is_present, od_is_present, .func (PySem.W.fnOf "is_present" "is_present" (defArgs s_is_present) (defBody s_is_present) (defScope s_is_present) .none kV_is_present dc_is_present pm_is_present an_is_present cd_is_present ct_is_present), sl_is_present⟩) (c_is_present : PySem.W.codeIn K cd_is_present "is_present" = true) (k_is_present : PySem.W.keepIn K (.ref f_is_present) = true)
    (a_present_at : PySem.W.nsIn K mainGlobals "present_at" = some (some (.ref f_present_at))) (l_present_at : K.lookup f_present_at = some ⟨oc_present_at, od_present_at, .func (PySem.W.fnOf "present_at" "present_at" (defArgs s_present_at) (defBody s_present_at) (defScope s_present_at) .none kV_present_at dc_present_at pm_present_at an_present_at cd_present_at ct_present_at), sl_present_at⟩) (c_present_at : PySem.W.codeIn K cd_present_at "present_at" = true) (k_present_at : PySem.W.keepIn K (.ref f_present_at) = true)
    (a_speaker_at : PySem.W.nsIn K mainGlobals "speaker_at" = some (some (.ref f_speaker_at))) (l_speaker_at : K.lookup f_speaker_at = some ⟨oc_speaker_at, od_speaker_at, .func (PySem.W.fnOf "speaker_at" "speaker_at" (defArgs s_speaker_at) (defBody s_speaker_at) (defScope s_speaker_at) .none kV_speaker_at dc_speaker_at pm_speaker_at an_speaker_at cd_speaker_at ct_speaker_at), sl_speaker_at⟩) (c_speaker_at : PySem.W.codeIn K cd_speaker_at "speaker_at" = true) (k_speaker_at : PySem.W.keepIn K (.ref f_speaker_at) = true)
    (a__law_is_int : PySem.W.nsIn K mainGlobals "_law_is_int" = some (some (.ref f__law_is_int))) (l__law_is_int : K.lookup f__law_is_int = some ⟨oc__law_is_int, od__law_is_int, .func (PySem.W.fnOf "_law_is_int" "_law_is_int" (defArgs s__law_is_int) (defBody s__law_is_int) (defScope s__law_is_int) .none kV__law_is_int dc__law_is_int pm__law_is_int an__law_is_int cd__law_is_int ct__law_is_int), sl__law_is_int⟩) (c__law_is_int : PySem.W.codeIn K cd__law_is_int "_law_is_int" = true) (k__law_is_int : PySem.W.keepIn K (.ref f__law_is_int) = true)
    (a__law_is_asked : PySem.W.nsIn K mainGlobals "_law_is_asked" = some (some (.ref f__law_is_asked))) (l__law_is_asked : K.lookup f__law_is_asked = some ⟨oc__law_is_asked, od__law_is_asked, .func (PySem.W.fnOf "_law_is_asked" "_law_is_asked" (defArgs s__law_is_asked) (defBody s__law_is_asked) (defScope s__law_is_asked) .none kV__law_is_asked dc__law_is_asked pm__law_is_asked an__law_is_asked cd__law_is_asked ct__law_is_asked), sl__law_is_asked⟩) (c__law_is_asked : PySem.W.codeIn K cd__law_is_asked "_law_is_asked" = true) (k__law_is_asked : PySem.W.keepIn K (.ref f__law_is_asked) = true)
    (a_law : PySem.W.nsIn K mainGlobals "law" = some (some (.ref f_law))) (l_law : K.lookup f_law = some ⟨oc_law, od_law, .func (PySem.W.fnOf "law" "law" (defArgs s_law) (defBody s_law) (defScope s_law) .none kV_law dc_law pm_law an_law cd_law ct_law), sl_law⟩) (c_law : PySem.W.codeIn K cd_law "law" = true) (k_law : PySem.W.keepIn K (.ref f_law) = true)
    (z_int : PySem.W.nsIn K mainGlobals "int" = some none)
    (z_len : PySem.W.nsIn K mainGlobals "len" = some none)
    (z_abs : PySem.W.nsIn K mainGlobals "abs" = some none)
    (z_list : PySem.W.nsIn K mainGlobals "list" = some none)
    (z_range : PySem.W.nsIn K mainGlobals "range" = some none)
    (z_tuple : PySem.W.nsIn K mainGlobals "tuple" = some none)
    (z_sorted : PySem.W.nsIn K mainGlobals "sorted" = some none)
    (z_isinstance : PySem.W.nsIn K mainGlobals "isinstance" = some none)
    (z_bool : PySem.W.nsIn K mainGlobals "bool" = some none)
    (z_repr : PySem.W.nsIn K mainGlobals "repr" = some none)
    {u_FIRST_ENTRY : Value} (n_FIRST_ENTRY : PySem.W.nsIn K mainGlobals "FIRST_ENTRY" = some (some u_FIRST_ENTRY)) (r_FIRST_ENTRY : RelV (.int 4) u_FIRST_ENTRY)
    : ∃ fd : FuncData, (∀ (s : Shared) (v : Value), BindsTo s fd ⟨[v], []⟩ [("script", v)]) ∧ ∀ base : Heap, K.In base → base.Ns mainGlobals mg → Gok l.prog w K mg base 6 fa fd ["script"] (sp_law K) := by
  have e := hfa.symm.trans (PySem.W.mg_of X G a_law)
  cases e
  have T : Txt mg := ⟨PySem.W.mg_none_of X G z_int, PySem.W.mg_none_of X G z_len, PySem.W.mg_none_of X G z_abs, PySem.W.mg_none_of X G z_list, PySem.W.mg_none_of X G z_range, PySem.W.mg_none_of X G z_tuple, PySem.W.mg_none_of X G z_sorted, PySem.W.mg_none_of X G z_isinstance, PySem.W.mg_none_of X G z_bool, PySem.W.mg_none_of X G z_repr, ⟨_, PySem.W.mg_of X G n_FIRST_ENTRY, r_FIRST_ENTRY⟩⟩
  have F__law_begin := fun_mk (st := s__law_begin) l__law_begin c__law_begin k__law_begin
  have D__law_begin : Df K mg "_law_begin" s__law_begin f__law_begin _ ["script"] := ⟨F__law_begin, PySem.W.mg_of X G a__law_begin, F__law_begin.binds (ps := ["script"]) fun _ _ _ _ _ _ us hl => match us, hl with | [_], _ => rfl⟩
  have F__law_draw := fun_mk (st := s__law_draw) l__law_draw c__law_draw k__law_draw
  have D__law_draw : Df K mg "_law_draw" s__law_draw f__law_draw _ ["d", "many"] := ⟨F__law_draw, PySem.W.mg_of X G a__law_draw, F__law_draw.binds (ps := ["d", "many"]) fun _ _ _ _ _ _ us hl => match us, hl with | [_, _], _ => rfl⟩
  have F__law_shuffled := fun_mk (st := s__law_shuffled) l__law_shuffled c__law_shuffled k__law_shuffled
  have D__law_shuffled : Df K mg "_law_shuffled" s__law_shuffled f__law_shuffled _ ["d", "row"] := ⟨F__law_shuffled, PySem.W.mg_of X G a__law_shuffled, F__law_shuffled.binds (ps := ["d", "row"]) fun _ _ _ _ _ _ us hl => match us, hl with | [_, _], _ => rfl⟩
  have F__law_pick := fun_mk (st := s__law_pick) l__law_pick c__law_pick k__law_pick
  have D__law_pick : Df K mg "_law_pick" s__law_pick f__law_pick _ ["d", "row"] := ⟨F__law_pick, PySem.W.mg_of X G a__law_pick, F__law_pick.binds (ps := ["d", "row"]) fun _ _ _ _ _ _ us hl => match us, hl with | [_, _], _ => rfl⟩
  have F__law_begun := fun_mk (st := s__law_begun) l__law_begun c__law_begun k__law_begun
  have D__law_begun : Df K mg "_law_begun" s__law_begun f__law_begun _ ["d", "seats"] := ⟨F__law_begun, PySem.W.mg_of X G a__law_begun, F__law_begun.binds (ps := ["d", "seats"]) fun _ _ _ _ _ _ us hl => match us, hl with | [_, _], _ => rfl⟩
  have F_first_facts := fun_mk (st := s_first_facts) l_first_facts c_first_facts k_first_facts
  have D_first_facts : Df K mg "first_facts" s_first_facts f_first_facts _ ["begin"] := ⟨F_first_facts, PySem.W.mg_of X G a_first_facts, F_first_facts.binds (ps := ["begin"]) fun _ _ _ _ _ _ us hl => match us, hl with | [_], _ => rfl⟩
  have F__law_present := fun_mk (st := s__law_present) l__law_present c__law_present k__law_present
  have D__law_present : Df K mg "_law_present" s__law_present f__law_present _ ["entered", "gone", "tick"] := ⟨F__law_present, PySem.W.mg_of X G a__law_present, F__law_present.binds (ps := ["entered", "gone", "tick"]) fun _ _ _ _ _ _ us hl => match us, hl with | [_, _, _], _ => rfl⟩
  have F__law_order_counts := fun_mk (st := s__law_order_counts) l__law_order_counts c__law_order_counts k__law_order_counts
  have D__law_order_counts : Df K mg "_law_order_counts" s__law_order_counts f__law_order_counts _ ["order", "patches", "entered"] := ⟨F__law_order_counts, PySem.W.mg_of X G a__law_order_counts, F__law_order_counts.binds (ps := ["order", "patches", "entered"]) fun _ _ _ _ _ _ us hl => match us, hl with | [_, _, _], _ => rfl⟩
  have F__law_take_order := fun_mk (st := s__law_take_order) l__law_take_order c__law_take_order k__law_take_order
  have D__law_take_order : Df K mg "_law_take_order" s__law_take_order f__law_take_order _ ["word", "many", "patches", "hold", "tick", "entered", "forces"] := ⟨F__law_take_order, PySem.W.mg_of X G a__law_take_order, F__law_take_order.binds (ps := ["word", "many", "patches", "hold", "tick", "entered", "forces"]) fun _ _ _ _ _ _ us hl => match us, hl with | [_, _, _, _, _, _, _], _ => rfl⟩
  have F__law_past := fun_mk (st := s__law_past) l__law_past c__law_past k__law_past
  have D__law_past : Df K mg "_law_past" s__law_past f__law_past _ ["d", "begin", "holding", "ticks"] := ⟨F__law_past, PySem.W.mg_of X G a__law_past, F__law_past.binds (ps := ["d", "begin", "holding", "ticks"]) fun _ _ _ _ _ _ us hl => match us, hl with | [_, _, _, _], _ => rfl⟩
  have F__law_force := fun_mk (st := s__law_force) l__law_force c__law_force k__law_force
  have D__law_force : Df K mg "_law_force" s__law_force f__law_force _ ["forces", "tick"] := ⟨F__law_force, PySem.W.mg_of X G a__law_force, F__law_force.binds (ps := ["forces", "tick"]) fun _ _ _ _ _ _ us hl => match us, hl with | [_, _], _ => rfl⟩
  have F__law_behind := fun_mk (st := s__law_behind) l__law_behind c__law_behind k__law_behind
  have D__law_behind : Df K mg "_law_behind" s__law_behind f__law_behind _ ["past", "holding", "tick"] := ⟨F__law_behind, PySem.W.mg_of X G a__law_behind, F__law_behind.binds (ps := ["past", "holding", "tick"]) fun _ _ _ _ _ _ us hl => match us, hl with | [_, _, _], _ => rfl⟩
  have F__law_here := fun_mk (st := s__law_here) l__law_here c__law_here k__law_here
  have D__law_here : Df K mg "_law_here" s__law_here f__law_here _ ["facts", "tick"] := ⟨F__law_here, PySem.W.mg_of X G a__law_here, F__law_here.binds (ps := ["facts", "tick"]) fun _ _ _ _ _ _ us hl => match us, hl with | [_, _], _ => rfl⟩
  have F_entry_of := fun_mk (st := s_entry_of) l_entry_of c_entry_of k_entry_of
  have D_entry_of : Df K mg "entry_of" s_entry_of f_entry_of _ ["order"] := ⟨F_entry_of, PySem.W.mg_of X G a_entry_of, F_entry_of.binds (ps := ["order"]) fun _ _ _ _ _ _ us hl => match us, hl with | [_], _ => rfl⟩
  have F_entry_tick := fun_mk (st := s_entry_tick) l_entry_tick c_entry_tick k_entry_tick
  have D_entry_tick : Df K mg "entry_tick" s_entry_tick f_entry_tick _ ["facts", "seat"] := ⟨F_entry_tick, PySem.W.mg_of X G a_entry_tick, F_entry_tick.binds (ps := ["facts", "seat"]) fun _ _ _ _ _ _ us hl => match us, hl with | [_, _], _ => rfl⟩
  have F_is_present := fun_mk (st := s_is_present) l_is_present c_is_present k_is_present
  have D_is_present : Df K mg "is_present" s_is_present f_is_present _ ["facts", "seat", "tick"] := ⟨F_is_present, PySem.W.mg_of X G a_is_present, F_is_present.binds (ps := ["facts", "seat", "tick"]) fun _ _ _ _ _ _ us hl => match us, hl with | [_, _, _], _ => rfl⟩
  have F_present_at := fun_mk (st := s_present_at) l_present_at c_present_at k_present_at
  have D_present_at : Df K mg "present_at" s_present_at f_present_at _ ["facts", "tick"] := ⟨F_present_at, PySem.W.mg_of X G a_present_at, F_present_at.binds (ps := ["facts", "tick"]) fun _ _ _ _ _ _ us hl => match us, hl with | [_, _], _ => rfl⟩
  have F_speaker_at := fun_mk (st := s_speaker_at) l_speaker_at c_speaker_at k_speaker_at
  have D_speaker_at : Df K mg "speaker_at" s_speaker_at f_speaker_at _ ["facts", "tick"] := ⟨F_speaker_at, PySem.W.mg_of X G a_speaker_at, F_speaker_at.binds (ps := ["facts", "tick"]) fun _ _ _ _ _ _ us hl => match us, hl with | [_, _], _ => rfl⟩
  have F__law_is_int := fun_mk (st := s__law_is_int) l__law_is_int c__law_is_int k__law_is_int
  have D__law_is_int : Df K mg "_law_is_int" s__law_is_int f__law_is_int _ ["thing"] := ⟨F__law_is_int, PySem.W.mg_of X G a__law_is_int, F__law_is_int.binds (ps := ["thing"]) fun _ _ _ _ _ _ us hl => match us, hl with | [_], _ => rfl⟩
  have F__law_is_asked := fun_mk (st := s__law_is_asked) l__law_is_asked c__law_is_asked k__law_is_asked
  have D__law_is_asked : Df K mg "_law_is_asked" s__law_is_asked f__law_is_asked _ ["facts", "tick"] := ⟨F__law_is_asked, PySem.W.mg_of X G a__law_is_asked, F__law_is_asked.binds (ps := ["facts", "tick"]) fun _ _ _ _ _ _ us hl => match us, hl with | [_, _], _ => rfl⟩
  have F_law := fun_mk (st := s_law) l_law c_law k_law
  have D_law : Df K mg "law" s_law _ _ ["script"] := ⟨F_law, PySem.W.mg_of X G a_law, F_law.binds (ps := ["script"]) fun _ _ _ _ _ _ us hl => match us, hl with | [_], _ => rfl⟩
  refine ⟨PySem.W.fnOf "law" "law" (defArgs s_law) (defBody s_law) (defScope s_law) .none kV_law dc_law pm_law an_law cd_law ct_law, fun s v => .of_eq rfl, fun base _ _ => ?_⟩
  have C__law_begin : Cl l.prog w K mg base 1 "_law_begin" (sp__law_begin K) := D__law_begin.cl (ok__law_begin D__law_begin T )
  have C__law_draw : Cl l.prog w K mg base 1 "_law_draw" (sp__law_draw K) := D__law_draw.cl (ok__law_draw D__law_draw T )
  have C__law_shuffled : Cl l.prog w K mg base 2 "_law_shuffled" (sp__law_shuffled K) := D__law_shuffled.cl (ok__law_shuffled D__law_shuffled T C__law_draw)
  have C__law_pick : Cl l.prog w K mg base 2 "_law_pick" (sp__law_pick K) := D__law_pick.cl (ok__law_pick D__law_pick T C__law_draw)
  have C__law_begun : Cl l.prog w K mg base 3 "_law_begun" (sp__law_begun K) := D__law_begun.cl (ok__law_begun D__law_begun T C__law_draw C__law_pick)
  have C_first_facts : Cl l.prog w K mg base 1 "first_facts" (sp_first_facts K) := D_first_facts.cl (ok_first_facts D_first_facts T )
  have C__law_present : Cl l.prog w K mg base 1 "_law_present" (sp__law_present K) := D__law_present.cl (ok__law_present D__law_present T )
  have C__law_order_counts : Cl l.prog w K mg base 1 "_law_order_counts" (sp__law_order_counts K) := D__law_order_counts.cl (ok__law_order_counts D__law_order_counts T )
  have C__law_take_order : Cl l.prog w K mg base 2 "_law_take_order" (sp__law_take_order K) := D__law_take_order.cl (ok__law_take_order D__law_take_order T C__law_order_counts)
  have C__law_past : Cl l.prog w K mg base 3 "_law_past" (sp__law_past K) := D__law_past.cl (ok__law_past D__law_past T C__law_pick C__law_present C__law_take_order C__law_draw)
  have C__law_force : Cl l.prog w K mg base 1 "_law_force" (sp__law_force K) := D__law_force.cl (ok__law_force D__law_force T )
  have C__law_behind : Cl l.prog w K mg base 2 "_law_behind" (sp__law_behind K) := D__law_behind.cl (ok__law_behind D__law_behind T C__law_force)
  have C__law_here : Cl l.prog w K mg base 1 "_law_here" (sp__law_here K) := D__law_here.cl (ok__law_here D__law_here T )
  have C_entry_of : Cl l.prog w K mg base 1 "entry_of" (sp_entry_of K) := D_entry_of.cl (ok_entry_of D_entry_of T )
  have C_entry_tick : Cl l.prog w K mg base 2 "entry_tick" (sp_entry_tick K) := D_entry_tick.cl (ok_entry_tick D_entry_tick T C_entry_of)
  have C_is_present : Cl l.prog w K mg base 3 "is_present" (sp_is_present K) := D_is_present.cl (ok_is_present D_is_present T C_entry_tick)
  have C_present_at : Cl l.prog w K mg base 4 "present_at" (sp_present_at K) := D_present_at.cl (ok_present_at D_present_at T C_is_present)
  have C_speaker_at : Cl l.prog w K mg base 4 "speaker_at" (sp_speaker_at K) := D_speaker_at.cl (ok_speaker_at D_speaker_at T C_is_present)
  have C__law_is_int : Cl l.prog w K mg base 1 "_law_is_int" (sp__law_is_int K) := D__law_is_int.cl (ok__law_is_int D__law_is_int T )
  have C__law_is_asked : Cg l.prog w K mg base 5 "_law_is_asked" (sp__law_is_asked K) := D__law_is_asked.cg (ok__law_is_asked D__law_is_asked T C__law_here C_present_at C_speaker_at C__law_is_int)
  exact ok_law D_law T C__law_begin C__law_shuffled C__law_begun C_first_facts C__law_draw C__law_past C__law_behind C__law_is_asked C__law_pick
theorem walk {l : PySem.W.OpenLaw} {q : Program} {loose : List Str} {XP : (Str → Option Value) → Heap → Prop} {YP : World → Heap → Prop} {d : DefRec} {K : Params → PySem.W.Frag} (hn : l.most = some 63) (hdf : d.params.defaults = [])
    (hY : ∀ (w : World) (h : Heap), YP w h → (K w.params).In h)
    (F : ∀ (w : World) (mg : Str → Option Value) (fa : Addr) (h : Heap), (K w.params).In h → h.Ns mainGlobals mg → mg d.name = some (.ref fa) →
      ∃ fd : FuncData, (∀ (s : Shared) (u : Value), BindsTo s fd ⟨[u], []⟩ [("script", u)]) ∧ ∀ base : Heap, (K w.params).In base → base.Ns mainGlobals mg → Gok l.prog w (K w.params) mg base 6 fa fd ["script"] (sp_law (K w.params))) :
    PySem.W.WalkO q loose XP YP l.row.toRowW d [] (fun f vs => PySem.call f vs) :=
  Jp.walk_cg (n := 63) (k := 6) (x := "script") (sp := fun w => sp_law (K w.params)) hn (by decide) hdf ⟨rfl, by decide, by decide⟩ hY F fun _ _ a ns hl hb _ hS => law_hands a ns hl hb hS
end Law
open PySem PySem.W PyProof.Rows in
set_option maxRecDepth 100000 in
set_option maxHeartbeats 0 in
theorem PySem.Challenge.cw_judgedplay_k38_presence_holds : PySem.Challenge.rw_judgedplay_k38_presence.Holds := by
  w_on; o_law; k_head; (case hw => w_witness2)
  k_fill
  refine Law.walk (l := PySem.Challenge.rw_judgedplay_k38_presence) rfl rfl (fun w h Y => PySem.W.kIn_of Y) ?F
  case F =>
    intro w mg fa h KX G hmg
    refine' Law.all_mk KX G hmg ?a__law_begin ?l__law_begin ?c__law_begin ?k__law_begin ?a__law_draw ?l__law_draw ?c__law_draw ?k__law_draw ?a__law_shuffled ?l__law_shuffled ?c__law_shuffled ?k__law_shuffled ?a__law_pick ?l__law_pick ?c__law_pick ?k__law_pick ?a__law_begun ?l__law_begun ?c__law_begun ?k__law_begun ?a_first_facts ?l_first_facts ?c_first_facts ?k_first_facts ?a__law_present ?l__law_present ?c__law_present ?k__law_present ?a__law_order_counts ?l__law_order_counts ?c__law_order_counts ?k__law_order_counts ?a__law_take_order ?l__law_take_order ?c__law_take_order ?k__law_take_order ?a__law_past ?l__law_past ?c__law_past ?k__law_past ?a__law_force ?l__law_force ?c__law_force ?k__law_force ?a__law_behind ?l__law_behind ?c__law_behind ?k__law_behind ?a__law_here ?l__law_here ?c__law_here ?k__law_here ?a_entry_of ?l_entry_of ?c_entry_of ?k_entry_of ?a_entry_tick ?l_entry_tick ?c_entry_tick ?k_entry_tick ?a_is_present ?l_is_present ?c_is_present ?k_is_present ?a_present_at ?l_present_at ?c_present_at ?k_present_at ?a_speaker_at ?l_speaker_at ?c_speaker_at ?k_speaker_at ?a__law_is_int ?l__law_is_int ?c__law_is_int ?k__law_is_int ?a__law_is_asked ?l__law_is_asked ?c__law_is_asked ?k__law_is_asked ?a_law ?l_law ?c_law ?k_law ?z_int ?z_len ?z_abs ?z_list ?z_range ?z_tuple ?z_sorted ?z_isinstance ?z_bool ?z_repr ?n_FIRST_ENTRY ?r_FIRST_ENTRY
    (case a__law_begin => k_is)
    (case l__law_begin => k_is)
    (case c__law_begin => k_is)
    (case k__law_begin => k_is)
    (case a__law_draw => k_is)
    (case l__law_draw => k_is)
    (case c__law_draw => k_is)
    (case k__law_draw => k_is)
    (case a__law_shuffled => k_is)
    (case l__law_shuffled => k_is)
    (case c__law_shuffled => k_is)
    (case k__law_shuffled => k_is)
    (case a__law_pick => k_is)
    (case l__law_pick => k_is)
    (case c__law_pick => k_is)
    (case k__law_pick => k_is)
    (case a__law_begun => k_is)
    (case l__law_begun => k_is)
    (case c__law_begun => k_is)
    (case k__law_begun => k_is)
    (case a_first_facts => k_is)
    (case l_first_facts => k_is)
    (case c_first_facts => k_is)
    (case k_first_facts => k_is)
    (case a__law_present => k_is)
    (case l__law_present => k_is)
    (case c__law_present => k_is)
    (case k__law_present => k_is)
    (case a__law_order_counts => k_is)
    (case l__law_order_counts => k_is)
    (case c__law_order_counts => k_is)
    (case k__law_order_counts => k_is)
    (case a__law_take_order => k_is)
    (case l__law_take_order => k_is)
    (case c__law_take_order => k_is)
    (case k__law_take_order => k_is)
    (case a__law_past => k_is)
    (case l__law_past => k_is)
    (case c__law_past => k_is)
    (case k__law_past => k_is)
    (case a__law_force => k_is)
    (case l__law_force => k_is)
    (case c__law_force => k_is)
    (case k__law_force => k_is)
    (case a__law_behind => k_is)
    (case l__law_behind => k_is)
    (case c__law_behind => k_is)
    (case k__law_behind => k_is)
    (case a__law_here => k_is)
    (case l__law_here => k_is)
    (case c__law_here => k_is)
    (case k__law_here => k_is)
    (case a_entry_of => k_is)
    (case l_entry_of => k_is)
    (case c_entry_of => k_is)
    (case k_entry_of => k_is)
    (case a_entry_tick => k_is)
    (case l_entry_tick => k_is)
    (case c_entry_tick => k_is)
    (case k_entry_tick => k_is)
    (case a_is_present => k_is)
    (case l_is_present => k_is)
    (case c_is_present => k_is)
    (case k_is_present => k_is)
    (case a_present_at => k_is)
    (case l_present_at => k_is)
    (case c_present_at => k_is)
    (case k_present_at => k_is)
    (case a_speaker_at => k_is)
    (case l_speaker_at => k_is)
    (case c_speaker_at => k_is)
    (case k_speaker_at => k_is)
    (case a__law_is_int => k_is)
    (case l__law_is_int => k_is)
    (case c__law_is_int => k_is)
    (case k__law_is_int => k_is)
    (case a__law_is_asked => k_is)
    (case l__law_is_asked => k_is)
    (case c__law_is_asked => k_is)
    (case k__law_is_asked => k_is)
    (case a_law => k_is)
    (case l_law => k_is)
    (case c_law => k_is)
    (case k_law => k_is)
    (case z_int => k_is)
    (case z_len => k_is)
    (case z_abs => k_is)
    (case z_list => k_is)
    (case z_range => k_is)
    (case z_tuple => k_is)
    (case z_sorted => k_is)
    (case z_isinstance => k_is)
    (case z_bool => k_is)
    (case z_repr => k_is)
    (case n_FIRST_ENTRY => k_is)
    (case r_FIRST_ENTRY => first | exact ⟨_, rfl⟩ | rfl)
#print axioms PySem.Challenge.cw_judgedplay_k38_presence_holds
