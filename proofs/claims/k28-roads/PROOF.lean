import PyProof.Rows.All
import Wide.All
import OpenK.AllK
import Wide.FinOn
import HandS.ForMost
import HandS.Wide
import HandS.WideBits
import HandS.IsInst
import HandS.TupAny
import HandS.Deep
import HandS.EndBits
import HandS.More
import HandS.Conv
import PySem.Challenge.RW_judgedplay_k28_worst_roads
set_option Elab.async false
set_option linter.all false
set_option maxRecDepth 100000
set_option maxHeartbeats 4000000
/-! ### my own layer: introduction forms for the readings -/
namespace Jp
open PySem PySem.Spec PyProof.Rows L2
/-! rules by names -/
section
variable {X : Cx}
def rInt1 : List V → Hp → VK → Prop := fun xs H Q => (∃ i, xs = [.int i] ∧ Q (.int i) H) ∨ ∃ k, xs = [.bl k] ∧ Q (.int (if k then 1 else 0)) H
theorem c_int : CallR X (.type "int") rInt1 := call_int1
def rAbs : List V → Hp → VK → Prop := fun xs H Q => ∃ i, xs = [.int i] ∧ Q (.int (if i < 0 then -i else i)) H
theorem c_abs : CallR X (.builtin "abs") rAbs := call_abs
def rMax2 : List V → Hp → VK → Prop := fun xs H Q => ∃ i j, xs = [.int i, .int j] ∧ Q (.int (if j > i then j else i)) H
theorem c_max2 (hc : X.calm = true) : CallR X (.builtin "max") rMax2 := call_max2 hc
def rMin2 : List V → Hp → VK → Prop := fun xs H Q => ∃ i j, xs = [.int i, .int j] ∧ Q (.int (if j < i then j else i)) H
theorem c_min2 (hc : X.calm = true) : CallR X (.builtin "min") rMin2 := call_min2 hc
def qLen (K : PySem.W.Frag) : List V → Hp → VK → Prop := fun xs H Q => ∃ x n, xs = [x] ∧ LenV K x H n ∧ Q (.int (n : Nat)) H
theorem c_len : CallR X (.builtin "len") (qLen X.K) := call_len
def rLenD : List V → Hp → VK → Prop := fun xs H Q => ∃ a kvs, xs = [V.ref a] ∧ H a = some (.dK kvs) ∧ Q (.int kvs.length) H
theorem c_lenD : CallR X (.builtin "len") rLenD := call_lenD
def rTupOf (K : PySem.W.Frag) : List V → Hp → VK → Prop := fun xs H Q => ∃ p ys, xs = [.ref p] ∧ ((SqL K H p ys ∧ ∀ l, H l = none → Q (.ref l) (upd H l (.tup ys))) ∨ (SqT K H p ys ∧ Q (.ref p) H))
theorem c_tup : CallR X (.type "tuple") (rTupOf X.K) := call_tuple_of
def rLstOf (K : PySem.W.Frag) : List V → Hp → VK → Prop := fun xs H Q => ∃ p ys, xs = [.ref p] ∧ (SqL K H p ys ∨ SqT K H p ys) ∧ ∀ l, H l = none → Q (.ref l) (upd H l (.lst ys))
theorem c_lst : CallR X (.type "list") (rLstOf X.K) := call_list_of
def rBool1 : List V → Hp → VK → Prop := fun xs H Q => (∃ i, xs = [.int i] ∧ Q (.bl (i != 0)) H) ∨ ∃ k, xs = [.bl k] ∧ Q (.bl k) H
theorem c_bool1 : CallR X (.type "bool") rBool1 := call_bool1
def rIsNon : R2 := fun x y H Q => y = .non ∧ Q (.bl (decide (x = .non))) H
theorem o_isN : OpR X (compareOp .Is) rIsNon := op_isN
def rNotNon : R2 := fun x y H Q => y = .non ∧ Q (.bl (!decide (x = .non))) H
theorem o_notN : OpR X (compareOp .IsNot) rNotNon := op_notN
def rAddStr : R2 := fun x y H Q => ∃ i j, x = .str i ∧ y = .str j ∧ i.length + j.length ≤ sizeLine ∧ Q (.str (i ++ j)) H
theorem o_addS : OpR X (binaryOp .Add) rAddStr := op_add_str
theorem o_iaddS : OpR X (inplaceOp .Add) rAddStr := iop_add_str
end
section
variable {K : PySem.W.Frag} {σ : L2.St} {H : Hp} {Q : VK}
theorem i_isN {x : V} (q : Q (.bl (decide (x = .non))) H) : rIsNon x .non H Q := ⟨rfl, q⟩
theorem i_notN {x : V} (q : Q (.bl (!decide (x = .non))) H) : rNotNon x .non H Q := ⟨rfl, q⟩
theorem i_int {i : Int} (q : Q (.int i) H) : rInt1 [.int i] H Q := .inl ⟨i, rfl, q⟩
theorem i_intB {k : Bool} (q : Q (.int (if k then 1 else 0)) H) : rInt1 [.bl k] H Q := .inr ⟨k, rfl, q⟩
theorem i_abs {i : Int} (q : Q (.int (if i < 0 then -i else i)) H) : rAbs [.int i] H Q := ⟨i, rfl, q⟩
theorem i_max2 {i j : Int} (q : Q (.int (if j > i then j else i)) H) : rMax2 [.int i, .int j] H Q := ⟨i, j, rfl, q⟩
theorem i_min2 {i j : Int} (q : Q (.int (if j < i then j else i)) H) : rMin2 [.int i, .int j] H Q := ⟨i, j, rfl, q⟩
theorem i_lenL {p : Addr} {xs : List V} (h : SqL K H p xs) (q : Q (.int xs.length) H) : qLen K [.ref p] H Q := ⟨.ref p, xs.length, rfl, .inl ⟨xs, h, rfl⟩, q⟩
theorem i_lenT {p : Addr} {xs : List V} (h : SqT K H p xs) (q : Q (.int xs.length) H) : qLen K [.ref p] H Q := ⟨.ref p, xs.length, rfl, .inr ⟨xs, h, rfl⟩, q⟩
theorem i_lenS {x : Str} (h : x.length ≤ sizeLine) (q : Q (.int x.length) H) : qLen K [.str x] H Q := ⟨.str x, x.length, rfl, ⟨h, rfl⟩, q⟩
theorem i_lenD {p : Addr} {kvs : List (L2.Key × V)} (h : H p = some (.dK kvs)) (q : Q (.int kvs.length) H) : rLenD [.ref p] H Q := ⟨p, kvs, rfl, h, q⟩
theorem i_tupL {p : Addr} {ys : List V} (h : SqL K H p ys) (q : ∀ l, H l = none → Q (.ref l) (upd H l (.tup ys))) : rTupOf K [.ref p] H Q := ⟨p, ys, rfl, .inl ⟨h, q⟩⟩
theorem i_tupT {p : Addr} {ys : List V} (h : SqT K H p ys) (q : Q (.ref p) H) : rTupOf K [.ref p] H Q := ⟨p, ys, rfl, .inr ⟨h, q⟩⟩
theorem i_lstL {p : Addr} {ys : List V} (h : SqL K H p ys) (q : ∀ l, H l = none → Q (.ref l) (upd H l (.lst ys))) : rLstOf K [.ref p] H Q := ⟨p, ys, rfl, .inl h, q⟩
theorem i_lstT {p : Addr} {ys : List V} (h : SqT K H p ys) (q : ∀ l, H l = none → Q (.ref l) (upd H l (.lst ys))) : rLstOf K [.ref p] H Q := ⟨p, ys, rfl, .inr h, q⟩
theorem i_catA {p b : Addr} {xs ys : List V} (h1 : SqT K H p xs) (h2 : SqT K H b ys) (hl : xs.length + ys.length ≤ sizeLine) (q : ∀ (r : Addr) (H' : Hp), (∀ b o, H b = some o → H' b = some o) → SqT K H' r (xs ++ ys) → Q (.ref r) H') : rCatA K (.ref p) (.ref b) H Q := by
  refine ⟨p, b, xs, ys, rfl, rfl, h1, h2, hl, fun e => ?_, fun _ e => ?_, fun _ _ r hr => ?_⟩
  · subst e; exact q b H (fun _ _ h => h) h2
  · subst e; exact q p H (fun _ _ h => h) (by rw [List.append_nil]; exact h1)
  · exact q r _ (fun b o e => by rw [upd_ne (ne_of_none e hr)]; exact e) (.inl (.inl upd_same))
theorem i_catI {p b : Addr} {ns ms : List Int} (h1 : SqT K H p (ns.map V.int)) (h2 : SqT K H b (ms.map V.int)) (hl : ns.length + ms.length ≤ 10000) (q : ∀ (r : Addr) (H' : Hp), (∀ b o, H b = some o → H' b = some o) → SqT K H' r ((ns ++ ms).map V.int) → Q (.ref r) H') : rCatA K (.ref p) (.ref b) H Q :=
  i_catA h1 h2 (by rw [List.length_map, List.length_map]; exact Nat.le_trans hl (by decide)) fun r H' s t => q r H' s (by rw [List.map_append]; exact t)
/-- ns[lo:hi] -/
def cutI (ns : List Int) (lo hi : Option Int) : List Int := (ns.drop (HT.sIx ns.length 0 lo)).take (HT.sIx ns.length ns.length hi - HT.sIx ns.length 0 lo)
theorem cutI_len (ns : List Int) (lo hi : Option Int) : (cutI ns lo hi).length ≤ ns.length := by
  unfold cutI
  rw [List.length_take, List.length_drop]
  omega
theorem i_slI {p : Addr} {ns : List Int} {lo hi : Option Int} (h : SqT K H p (ns.map V.int)) (hw : ¬ (HT.sIx ns.length 0 lo = 0 ∧ HT.sIx ns.length ns.length hi = ns.length))
    (q : ∀ (r : Addr) (H' : Hp), (∀ b o, H b = some o → H' b = some o) → SqT K H' r ((cutI ns lo hi).map V.int) → Q (.ref r) H') : rSlT K (.ref p) lo hi H Q := by
  refine ⟨p, _, rfl, h, by rw [List.length_map]; exact hw, fun r hr => q r _ (fun b o e => by rw [upd_ne (ne_of_none e hr)]; exact e) (.inl (.inl ?_))⟩
  rw [upd_same]
  unfold cutV cutI
  rw [List.length_map, List.map_take, List.map_drop]
theorem i_sl {r : V → Option Int → Option Int → Hp → VK → Prop} {te : TE} {tl th : TO} (h : te σ H fun x H1 => tl σ H1 fun l H2 => th σ H2 fun u H3 => r x l u H3 Q) : tSl r te tl th σ H Q := h
theorem i_noPart {Q : Option Int → Hp → Prop} (q : Q none H) : tNoPart σ H Q := q
theorem i_part {t : TE} {Q : Option Int → Hp → Prop} (h : t σ H fun x H1 => ∃ i, x = .int i ∧ Q (some i) H1) : tPart t σ H Q := h
theorem i_cat {p b : Addr} {xs zs : List V} (h1 : H p = some (.lst xs)) (h2 : H b = some (.lst zs)) (hl : xs.length + zs.length ≤ sizeLine) (q : ∀ r, H r = none → Q (.ref r) (upd H r (.lst (xs ++ zs)))) : rCat (.ref p) (.ref b) H Q := ⟨p, b, xs, zs, rfl, rfl, h1, h2, hl, q⟩
theorem i_cat' {p b : Addr} {xs zs : List V} (e1 : H p = some (.lst xs)) (e2 : H b = some (.lst zs)) (hl : xs.length + zs.length ≤ 10000) (q : ∀ r H', (∀ b o, H b = some o → H' b = some o) → H r = none → H' r = some (.lst (xs ++ zs)) → Q (.ref r) H') : rCat (.ref p) (.ref b) H Q :=
  i_cat e1 e2 (by rw [sizeLine_eq]; omega) fun r hr => q r _ (fun b o e => by rw [upd_ne (ne_of_none e hr)]; exact e) hr upd_same
theorem i_slL {p : Addr} {xs : List V} {lo hi : Option Int} (h : SqL K H p xs) (q : ∀ r H', (∀ b o, H b = some o → H' b = some o) → H r = none → H' r = some (.lst (cutV xs lo hi)) → Q (.ref r) H') : rSlL K (.ref p) lo hi H Q :=
  ⟨p, xs, rfl, h, fun r hr => q r _ (fun b o e => by rw [upd_ne (ne_of_none e hr)]; exact e) hr upd_same⟩
theorem i_chain {r r' : R2} {ta tb tc : TE} (h : ta σ H fun x H1 => tb σ H1 fun y H2 => r x y H2 fun z H3 => ∃ k, z = .bl k ∧ (if k = true then tc σ H3 fun w' H4 => r' y w' H4 Q else Q (.bl false) H3)) : tChain r r' ta tb tc σ H Q := h
theorem i_popAt {p : Addr} {xs : List V} {i : Int} {y : V} (h : H p = some (.lst xs)) (h0 : 0 ≤ i) (h1 : i < xs.length) (h2 : xs.length ≤ 1000000) (e : xs[i.toNat]? = some y) (q : Q y (upd H p (.lst (xs.eraseIdx i.toNat)))) : rPopAt (.ref p) [.int i] H Q :=
  ⟨p, xs, i, i.toNat, y, rfl, rfl, h, by omega, by omega, seqIndex_of h0 h1, e, q⟩
theorem i_isI {i : Int} {Q : Int → Prop} (q : Q i) : ∃ i', V.int i = .int i' ∧ Q i' := ⟨i, rfl, q⟩
theorem i_bm {T : String} {r : V → List V → Hp → VK → Prop} {to : TE} {t : TA} (h : to σ H fun x H1 => tyV K T x H1 ∧ t σ H1 fun xs H2 => r x xs H2 Q) : tBM K T r to t σ H Q := h
theorem i_bm0 {T : String} {r : V → List V → Hp → VK → Prop} {to : TE} (h : to σ H fun x H1 => tyV K T x H1 ∧ r x [] H1 Q) : tBM0 K T r to σ H Q := h
theorem i_tyL {p : Addr} {xs : List V} {R : Prop} (s : SqL K H p xs) (q : R) : tyV K "list" (.ref p) H ∧ R := ⟨.inl ⟨rfl, xs, s⟩, q⟩
theorem i_app {p : Addr} {xs : List V} {y : V} (h : H p = some (.lst xs)) (hl : xs.length < sizeLine) (q : Q .non (upd H p (.lst (xs ++ [y])))) : rAppend (.ref p) [y] H Q := ⟨p, xs, y, rfl, rfl, h, hl, q⟩
theorem i_addS {x y : Str} (h : x.length + y.length ≤ sizeLine) (q : Q (.str (x ++ y)) H) : rAddStr (.str x) (.str y) H Q := ⟨x, y, rfl, rfl, h, q⟩
theorem i_isi {x : V} {n : String} {t : Value} {b : Bool} (ty : TyX K H x t) (e : PySem.W.kitOne K t (.type n) = some b) (q : Q (.bl b) H) : rIsi K [x, .ty n] H Q := ⟨x, .ty n, t, .type n, b, rfl, .ty n, ty, e, q⟩
theorem i_var {i : Nat} {v : V} (h : σ[i]? = some (some v)) (q : Q v H) : tVar i σ H Q := ⟨v, h, q⟩
theorem i_c {v : V} (q : Q v H) : tC v σ H Q := q
theorem i_op {r : R2} {ta tb : TE} (h : ta σ H fun x H1 => tb σ H1 fun y H2 => r x y H2 Q) : tOp r ta tb σ H Q := h
theorem i_un {r : V → Hp → VK → Prop} {ta : TE} (h : ta σ H fun x H1 => r x H1 Q) : tUn r ta σ H Q := h
theorem i_rI0 {g : Int → Int → V} {i j : Int} (q : Q (g i j) H) : rI0 g (.int i) (.int j) H Q := ⟨i, j, rfl, rfl, q⟩
theorem i_rI {C : Int → Int → Prop} {g : Int → Int → V} {i j : Int} (c : C i j) (q : Q (g i j) H) : rI C g (.int i) (.int j) H Q := ⟨i, j, rfl, rfl, c, q⟩
theorem i_rU {g : Int → V} {i : Int} (q : Q (g i) H) : rU g (.int i) H Q := ⟨i, rfl, q⟩
theorem i_eqI {i j : Int} (q : Q (.bl (decide (i = j))) H) : rEq (.int i) (.int j) H Q := ⟨rfl, by
  have e : decide (V.int i = V.int j) = decide (i = j) := by simp
  rw [e]; exact q⟩
theorem i_neI {i j : Int} (q : Q (.bl (!decide (i = j))) H) : rNe (.int i) (.int j) H Q := ⟨rfl, by
  have e : decide (V.int i = V.int j) = decide (i = j) := by simp
  rw [e]; exact q⟩
theorem i_eqB {i j : Bool} (q : Q (.bl (decide (i = j))) H) : rEq (.bl i) (.bl j) H Q := ⟨rfl, by
  have e : decide (V.bl i = V.bl j) = decide (i = j) := by simp
  rw [e]; exact q⟩
theorem i_neB {i j : Bool} (q : Q (.bl (!decide (i = j))) H) : rNe (.bl i) (.bl j) H Q := ⟨rfl, by
  have e : decide (V.bl i = V.bl j) = decide (i = j) := by simp
  rw [e]; exact q⟩
theorem i_eqS {i j : Str} (q : Q (.bl (decide (i = j))) H) : rEq (.str i) (.str j) H Q := ⟨rfl, by
  have e : decide (V.str i = V.str j) = decide (i = j) := by simp
  rw [e]; exact q⟩
theorem i_neS {i j : Str} (q : Q (.bl (!decide (i = j))) H) : rNe (.str i) (.str j) H Q := ⟨rfl, by
  have e : decide (V.str i = V.str j) = decide (i = j) := by simp
  rw [e]; exact q⟩
/-! index -/
theorem i_ixL {p : Addr} {xs : List V} {i : Int} {v : V} (h : SqL K H p xs) (e : atI xs i = some v) (q : Q v H) : rIxL K (.ref p) (.int i) H Q := ⟨p, xs, i, v, rfl, rfl, h, e, q⟩
theorem i_ixT {p : Addr} {xs : List V} {i : Int} {v : V} (h : SqT K H p xs) (e : atI xs i = some v) (q : Q v H) : rIxT K (.ref p) (.int i) H Q := ⟨p, xs, i, v, rfl, rfl, h, e, q⟩
theorem i_ix1 {x y : V} (h : rIxL K x y H Q) : rIx K x y H Q := .inl h
theorem i_ix2 {x y : V} (h : rIxT K x y H Q) : rIx K x y H Q := .inr (.inl h)
/-! arguments, calls, displays -/
theorem i_nil {Q : List V → Hp → Prop} (q : Q [] H) : tNil σ H Q := q
theorem i_cons {ta : TE} {tr : TA} {Q : List V → Hp → Prop} (h : ta σ H fun x H1 => tr σ H1 fun xs H2 => Q (x :: xs) H2) : tCons ta tr σ H Q := h
theorem i_call {sp : Sp} {E : XK} {t : TA} (h : t σ H fun vs H1 => sp (vs ++ []) H1 Q E) : tCall sp [] E t σ H Q := h
theorem i_cb {r : List V → Hp → VK → Prop} {t : TA} (h : t σ H fun vs H1 => r vs H1 Q) : tCB r t σ H Q := h
theorem i_tup {t : TA} (h : t σ H fun xs H1 => xs.length ≤ sizeLine ∧ ∀ p, H1 p = none → Q (.ref p) (upd H1 p (.tup xs))) : tTup t σ H Q := h
theorem i_lst {t : TA} (h : t σ H fun xs H1 => xs.length ≤ sizeLine ∧ ∀ p, H1 p = none → Q (.ref p) (upd H1 p (.lst xs))) : tLst t σ H Q := h
theorem i_new {n : Nat} {R : Addr → Prop} (h : n ≤ sizeLine) (q : ∀ p, H p = none → R p) : n ≤ sizeLine ∧ ∀ p, H p = none → R p := ⟨h, q⟩
theorem i_if {c : TT} {ta tb : TE} (h : c σ H fun b H1 => if b = true then ta σ H1 Q else tb σ H1 Q) : tIf c ta tb σ H Q := h
theorem i_andV {ta tb : TE} (h : ta σ H fun x H1 => ∃ c, x = .bl c ∧ if c = true then tb σ H1 Q else Q (.bl false) H1) : tAndV ta tb σ H Q := h
theorem i_orV {ta tb : TE} (h : ta σ H fun x H1 => ∃ c, x = .bl c ∧ if c = true then Q (.bl true) H1 else tb σ H1 Q) : tOrV ta tb σ H Q := h
theorem i_notV {ta : TE} (h : ta σ H fun x H1 => ∃ c, x = .bl c ∧ Q (.bl (!c)) H1) : tNotV ta σ H Q := h
/-! tests -/
theorem i_test {t : TE} {Q : Bool → Hp → Prop} (h : t σ H fun x H1 => ∃ k, x = .bl k ∧ Q k H1) : tTest t σ H Q := h
theorem i_B {t : TE} {Q : Bool → Hp → Prop} (h : t σ H fun x H1 => ∃ k, x = .bl k ∧ Q k H1) : tB t σ H Q := h
theorem i_isb {k : Bool} {Q : Bool → Prop} (q : Q k) : ∃ k', V.bl k = .bl k' ∧ Q k' := ⟨k, rfl, q⟩
theorem i_and {t u : TT} {Q : Bool → Hp → Prop} (h : t σ H fun c H1 => if c = true then u σ H1 Q else Q false H1) : tAnd t u σ H Q := h
theorem i_or {t u : TT} {Q : Bool → Hp → Prop} (h : t σ H fun c H1 => if c = true then Q true H1 else u σ H1 Q) : tOr t u σ H Q := h
theorem i_not {t : TT} {Q : Bool → Hp → Prop} (h : t σ H fun c H1 => Q (!c) H1) : tNot t σ H Q := h
/-! statements -/
section
variable {nx : L2.St → Hp → Prop} {rt : VK} {bk ct : L2.St → Hp → Prop}
theorem i_seq {t u : TS} (h : t ⟨u ⟨nx, rt, bk, ct⟩, rt, bk, ct⟩ σ H) : tSeq t u ⟨nx, rt, bk, ct⟩ σ H := h
theorem i_next (h : nx σ H) : tNext ⟨nx, rt, bk, ct⟩ σ H := h
theorem i_asg {te : TE} {g : TG} (h : te σ H fun x H1 => g x σ H1 nx) : tAsg te g ⟨nx, rt, bk, ct⟩ σ H := h
theorem i_drop {te : TE} (h : te σ H fun _ H1 => nx σ H1) : tDrop te ⟨nx, rt, bk, ct⟩ σ H := h
theorem i_ret {te : TE} (h : te σ H rt) : tRet te ⟨nx, rt, bk, ct⟩ σ H := h
theorem i_retN (h : rt .non H) : tRetN ⟨nx, rt, bk, ct⟩ σ H := h
theorem i_ifS {c : TT} {t u : TS} (h : c σ H fun b H1 => if b = true then t ⟨nx, rt, bk, ct⟩ σ H1 else u ⟨nx, rt, bk, ct⟩ σ H1) : tIfS c t u ⟨nx, rt, bk, ct⟩ σ H := h
theorem i_ifC {c : TT} {t u : TS} (J : L2.St → Hp → Prop) (h1 : ∀ σ' H', J σ' H' → nx σ' H') (h2 : ∀ N : L2.St → Hp → Prop, (∀ σ' H', J σ' H' → N σ' H') → tIfS c t u ⟨N, rt, bk, ct⟩ σ H) : tIfS c t u ⟨nx, rt, bk, ct⟩ σ H := h2 _ h1
theorem i_break (h : bk σ H) : tBreak ⟨nx, rt, bk, ct⟩ σ H := h
theorem i_cont (h : ct σ H) : tCont ⟨nx, rt, bk, ct⟩ σ H := h
theorem i_augE {i : Nat} {te : TE} {ti : TIp} {x : V} (e : σ[i]? = some (some x)) (h : te σ H fun y H1 => ti x y H1 fun z H2 => gName i z σ H2 nx) : tAug i te ti ⟨nx, rt, bk, ct⟩ σ H := ⟨x, e, h⟩
theorem i_augS {to ti te : TE} {tget : V → V → Hp → VK → Prop} {tip : TIp} {tset : TSet} (h : to σ H fun o H1 => ti σ H1 fun i H2 => tget o i H2 fun x H3 => te σ H3 fun y H4 => tip x y H4 fun z H5 => tset o i z H5 fun H6 => nx σ H6) : tAugS to ti te tget tip tset ⟨nx, rt, bk, ct⟩ σ H := h
theorem i_ipI {f : Int → Int → Int} {i j : Int} (q : Q (.int (f i j)) H) : ipI f (.int i) (.int j) H Q := ⟨i, j, rfl, rfl, q⟩
theorem i_for {wi : TI} {g : TG} {tb : TS} (h : wi σ H fun J H1 => ∃ W : Nat → Nat → L2.St → Hp → Prop, (∃ m, W 0 m σ H1) ∧ ∀ i m σ H, W i m σ H →
  (J.stop i H ∧ nx σ H) ∨ (J.go i H ∧ ∃ N : L2.St → Hp → Prop, (∀ σ' H', N σ' H' → ∃ m', m' < m ∧ W (i + 1) m' σ' H') ∧ ∀ x H', J.yld i H x H' → g x σ H' fun σ2 H2 => tb ⟨N, rt, nx, N⟩ σ2 H2)) : tFor wi g tb ⟨nx, rt, bk, ct⟩ σ H := h
theorem i_iList {tl : TE} {R : It → Hp → Prop} (h : tl σ H fun x H1 => ∃ a, x = .ref a ∧ (∃ xs, SqL K H1 a xs) ∧ R (Itl K a) H1) : iList K tl σ H R := h
theorem i_iTup {tl : TE} {R : It → Hp → Prop} (h : tl σ H fun x H1 => ∃ a, x = .ref a ∧ (∃ xs, SqT K H1 a xs) ∧ R (Itt K a) H1) : iTup K tl σ H R := h
theorem i_isL {a : Addr} {xs : List V} {R : Addr → Prop} (s : SqL K H a xs) (h : R a) : ∃ a', V.ref a = .ref a' ∧ (∃ xs, SqL K H a' xs) ∧ R a' := ⟨a, rfl, ⟨xs, s⟩, h⟩
theorem i_isT {a : Addr} {xs : List V} {R : Addr → Prop} (s : SqT K H a xs) (h : R a) : ∃ a', V.ref a = .ref a' ∧ (∃ xs, SqT K H a' xs) ∧ R a' := ⟨a, rfl, ⟨xs, s⟩, h⟩
theorem i_rng1 {ta : TA} {R : It → Hp → Prop} (h : ta σ H fun vs H1 => ∃ j : Int, vs = [.int j] ∧ -(2 ^ 62) ≤ j ∧ j < 2 ^ 62 ∧ R (Itr 0 j.toNat) H1) : iRng1 ta σ H R := h
theorem i_rng2 {ta : TA} {R : It → Hp → Prop} (h : ta σ H fun vs H1 => ∃ i j : Int, vs = [.int i, .int j] ∧ (-(2 ^ 62) ≤ i ∧ i < 2 ^ 62 ∧ -(2 ^ 62) ≤ j ∧ j < 2 ^ 62) ∧ R (Itr i (j - i).toNat) H1) : iRng2 ta σ H R := h
theorem i_isR1 {j : Int} {R : Int → Prop} (h1 : -(2 ^ 62) ≤ j) (h2 : j < 2 ^ 62) (h : R j) : ∃ j' : Int, [V.int j] = [.int j'] ∧ -(2 ^ 62) ≤ j' ∧ j' < 2 ^ 62 ∧ R j' := ⟨j, rfl, h1, h2, h⟩
theorem i_isR2 {i j : Int} {R : Int → Int → Prop} (h1 : -(2 ^ 62) ≤ i) (h2 : i < 2 ^ 62) (h3 : -(2 ^ 62) ≤ j) (h4 : j < 2 ^ 62) (h : R i j) : ∃ i' j' : Int, [V.int i, V.int j] = [.int i', .int j'] ∧ (-(2 ^ 62) ≤ i' ∧ i' < 2 ^ 62 ∧ -(2 ^ 62) ≤ j' ∧ j' < 2 ^ 62) ∧ R i' j' := ⟨i, j, rfl, ⟨h1, h2, h3, h4⟩, h⟩
end
/-! comprehensions -/
theorem i_lc {wi : TI} {g : TG} {tt : TT} {te : TE} {ws : List Nat} {σ' : L2.St} (e : wipe σ ws = σ') (h : wi σ H fun J H1 => ∀ D, H1 D = none → ∃ W : Nat → Nat → Hp → Prop, (∃ m, W 0 m (upd H1 D (.lst []))) ∧ ∀ i m H, W i m H →
  (J.stop i H ∧ Q (.ref D) H) ∨ (J.go i H ∧ ∃ Nx : Hp → Prop, (∀ H', Nx H' → ∃ m', m' < m ∧ W (i + 1) m' H') ∧ ∀ x H', J.yld i H x H' → g x σ' H' fun σ2 H2 => wipe σ2 ws = σ' ∧ tt σ2 H2 fun b H3 =>
    if b = true then te σ2 H3 fun y H4 => ∃ acc, H4 D = some (.lst acc) ∧ acc.length < sizeLine ∧ Nx (upd H4 D (.lst (acc ++ [y]))) else Nx H3)) : tLc wi g tt te ws σ H Q := by subst e; exact h
/-! targets -/
theorem i_gNameE {i : Nat} {v : V} {σ' : L2.St} {Q : L2.St → Hp → Prop} (e : σ.set i (some v) = σ') (q : Q σ' H) : gName i v σ H Q := by subst e; exact q
theorem st_of {t : TS} {D : Ends} {σ σ' : L2.St} {H : Hp} (e : σ = σ') (h : t D σ' H) : t D σ H := by subst e; exact h
theorem i_gName {i : Nat} {v : V} {Q : L2.St → Hp → Prop} (q : Q (σ.set i (some v)) H) : gName i v σ H Q := q
theorem i_gSub {to ti : TE} {t : TSet} {v : V} {Q : L2.St → Hp → Prop} (h : to σ H fun o H1 => ti σ H1 fun i H2 => t o i v H2 fun H3 => Q σ H3) : gSub to ti t v σ H Q := h
theorem i_setL {p : Addr} {xs : List V} {k : Int} {j : Nat} {v : V} {Q : Hp → Prop} (h : H p = some (.lst xs)) (e : ixN xs.length k = some j) (q : Q (upd H p (.lst (xs.set j v)))) : rSetL (.ref p) (.int k) v H Q := ⟨p, xs, k, j, rfl, rfl, h, e, q⟩
theorem i_gTup {n : Nat} {t : TGs} {a : Addr} {xs : List V} {Q : L2.St → Hp → Prop} (h : SqT K H a xs) (e : xs.length = n) (q : t xs σ H Q) : gTup K n t (.ref a) σ H Q := ⟨a, xs, rfl, h, e, q⟩
theorem i_gNil {Q : L2.St → Hp → Prop} (q : Q σ H) : gNil [] σ H Q := ⟨rfl, q⟩
theorem i_gCons {t : TG} {u : TGs} {v : V} {r : List V} {Q : L2.St → Hp → Prop} (q : t v σ H fun σ' H' => u r σ' H' Q) : gCons t u (v :: r) σ H Q := ⟨v, r, rfl, q⟩
/-! builtins' calls -/
end
/-! ### heaps -/
/-- all but p is as it was -/
def Kp (p : Addr) (H H' : Hp) : Prop := ∀ b o, H b = some o → b ≠ p → H' b = some o
theorem Kp.refl {p : Addr} {H : Hp} : Kp p H H := fun _ _ e _ => e
theorem Kp.of {p : Addr} {H H' : Hp} (s : Same H H') : Kp p H H' := fun b o e _ => s b o e
theorem Kp.trans {p : Addr} {H H1 H2 : Hp} (a : Kp p H H1) (b : Kp p H1 H2) : Kp p H H2 := fun c o e n => b c o (a c o e n) n
theorem Kp.upd {p : Addr} {H : Hp} {o : HO} : Kp p H (upd H p o) := fun b u e n => by rw [upd_ne n]; exact e
theorem same_new {H : Hp} {p : Addr} {o : HO} (h : H p = none) : Same H (upd H p o) := fun b x e => by
  rw [upd_ne (ne_of_none e h)]
  exact e
theorem Same.tup {K : PySem.W.Frag} {H H' : Hp} {a : Addr} {xs : List V} (e : Same H H') (h : SqT K H a xs) : SqT K H' a xs := by
  rcases h with (h | ⟨o, h⟩) | h
  · exact .inl (.inl (e _ _ h))
  · exact .inl (.inr ⟨o, e _ _ h⟩)
  · exact .inr h
/-- all tuples are as they were -/
def Tps (H H' : Hp) : Prop := ∀ a, (∀ xs, H a = some (.tup xs) → H' a = some (.tup xs)) ∧ ∀ o xs, H a = some (.frz o (.tup xs)) → H' a = some (.frz o (.tup xs))
theorem Tps.sq {K : PySem.W.Frag} {H H' : Hp} {a : Addr} {xs : List V} (e : Tps H H') (h : SqT K H a xs) : SqT K H' a xs := by
  rcases h with (h | ⟨o, h⟩) | h
  · exact .inl (.inl ((e a).1 _ h))
  · exact .inl (.inr ⟨o, (e a).2 _ _ h⟩)
  · exact .inr h
theorem Tps.refl {H : Hp} : Tps H H := fun _ => ⟨fun _ h => h, fun _ _ h => h⟩
theorem Tps.trans {H H1 H2 : Hp} (a : Tps H H1) (b : Tps H1 H2) : Tps H H2 := fun c => ⟨fun xs h => (b c).1 xs ((a c).1 xs h), fun o xs h => (b c).2 o xs ((a c).2 o xs h)⟩
theorem Tps.of {H H' : Hp} (s : Same H H') : Tps H H' := fun a => ⟨fun xs h => s _ _ h, fun o xs h => s _ _ h⟩
theorem Kp.tps {p : Addr} {H H' : Hp} (k : Kp p H H') {xs : List V} (h : H p = some (.lst xs)) : Tps H H' := fun a => ⟨fun ys e => k _ _ e (ne_of e h (by intro z; cases z)), fun o ys e => k _ _ e (ne_of e h (by intro z; cases z))⟩
theorem Kp.seq {K : PySem.W.Frag} {p b : Addr} {H H' : Hp} {xs : List V} (k : Kp p H H') (h : SqL K H b xs) (n : b ≠ p) : SqL K H' b xs := by
  rcases h with (h | ⟨o, h⟩) | h
  · exact .inl (.inl (k _ _ h n))
  · exact .inl (.inr ⟨o, k _ _ h n⟩)
  · exact .inr h
/-! ### data -/
def Shp (n : Nat) (d : PyData) : Prop := d.canLay0 = true ∧ d.depth ≤ n
theorem Shp.shaped {n : Nat} {d : PyData} (h : Shp n d) (hn : n ≤ 64) : SeqAt.shaped d = true := by
  unfold SeqAt.shaped
  rw [h.1, decide_eq_true (Nat.le_trans h.2 hn)]
  rfl
theorem Shp.eqv {n : Nat} {d : PyData} (h : Shp n d) : PyData.eqv d d = true := SeqAt.eqv_refl d h.1
theorem Shp.int (i : Int) : Shp 0 (.int i) := ⟨by simp [PyData.canLay0], by simp [PyData.depth]⟩
theorem Shp.non : Shp 0 .none := ⟨by simp [PyData.canLay0], by simp [PyData.depth]⟩
theorem Shp.bool (b : Bool) : Shp 0 (.bool b) := ⟨by simp [PyData.canLay0], by simp [PyData.depth]⟩
theorem Shp.mono {n m : Nat} {d : PyData} (h : Shp n d) (hm : n ≤ m) : Shp m d := ⟨h.1, Nat.le_trans h.2 hm⟩
theorem shpAll {n : Nat} : ∀ {ds : List PyData}, (∀ d ∈ ds, Shp n d) → PyData.canLayAll0 ds = true ∧ PyData.depthAll ds ≤ n
  | [], _ => ⟨by simp [PyData.canLayAll0], by simp [PyData.depthAll]⟩
  | d :: ds, h => by
    have h1 := h d List.mem_cons_self
    have h2 := shpAll (ds := ds) fun x hx => h x (List.mem_cons_of_mem _ hx)
    refine ⟨by rw [PyData.canLayAll0, h1.1, h2.1]; rfl, ?_⟩
    rw [PyData.depthAll]
    exact Nat.max_le.mpr ⟨h1.2, h2.2⟩
theorem Shp.tup {n : Nat} {ds : List PyData} (h : ∀ d ∈ ds, Shp n d) : Shp (n + 1) (.tuple ds) := by
  have := shpAll h
  exact ⟨by rw [PyData.canLay0]; exact this.1, by rw [PyData.depth]; omega⟩
theorem Shp.lst {n : Nat} {ds : List PyData} (h : ∀ d ∈ ds, Shp n d) : Shp (n + 1) (.list ds) := by
  have := shpAll h
  exact ⟨by rw [PyData.canLay0]; exact this.1, by rw [PyData.depth]; omega⟩
theorem dpAll_of {K : PySem.W.Frag} {H : Hp} : ∀ {xs : List V} {ds : List PyData}, xs.length = ds.length → (∀ (i : Nat) x d, xs[i]? = some x → ds[i]? = some d → Dp K H x d) → DpAll K H xs ds
  | [], [], _, _ => .nil
  | x :: xs, d :: ds, hl, h => .cons (h 0 x d rfl rfl) (dpAll_of (by simpa using hl) fun i y e h1 h2 => h (i + 1) y e (by simpa using h1) (by simpa using h2))
theorem dp_ints {K : PySem.W.Frag} {H : Hp} {a : Addr} {ns : List Int} (h : SqT K H a (ns.map V.int)) : Dp K H (.ref a) (.tuple (ns.map PyData.int)) := by
  refine .tup h (dpAll_of (by simp) fun i x d h1 h2 => ?_)
  rw [List.getElem?_map] at h1 h2
  cases e : ns[i]? with
  | none => rw [e] at h1; cases h1
  | some z =>
    rw [e] at h1 h2
    cases h1
    cases h2
    exact .int z
/-! ### slices of tuples -/
section
variable {prog : Program} {w : World} {A : Around} {E : Value → Shared → Prop} {s : Shared}
theorem tup_whole {t sl : Addr} {items : Array Value} {vl vu : Value} {lo hi : Option Int} {Q : Value → Shared → Prop} (ht : IsTup s.heap t items) (hs : s.heap.IsSliceOf sl vl vu .none) (pl : IsPart vl lo) (pu : IsPart vu hi)
    (h0 : HT.sIx items.size 0 lo = 0) (h1 : HT.sIx items.size items.size hi = items.size) (h : Q (.ref t) s) : wpAny (model prog w) A (getItem (.ref t) (.ref sl)) Q E s := by
  have hTs : s.TypeIs (.ref sl) "slice" := by
    obtain ⟨os, hos, hcs, _⟩ := id hs
    exact ⟨os, hos, hcs⟩
  unfold getItem
  try with_reducible refine wpAny_holding ?_
  first | refine wpAny_bind (wpAny_pure ?_) | skip
  refine wpAny_bind (wpAny_sequenceKey ht.typeIs (by decide) (wpAny_bind (wpAny_callSpecial?_slot (name := Str.ofString "__getitem__") ht.typeIs PyProof.Rows.slot_tuple_getitem (wpAny_call_entry PyProof.Rows.slot_tuple_getitem ht.typeIs entry_tuple_getitem ?_ (args_tuple_getitem _ _)))))
  show wpAny _ _ (Builtin.Tuple.tupleItemsOf (.ref t) >>= _) _ _ s
  refine wpAny_bind (tupleItemsOf_ ht (wpAny_bind (wpAny_typeOf hTs ?_)))
  rw [if_pos (by decide)]
  refine wpAny_bind (HT.sliceApplied_gen hs pl pu ?_)
  show wpAny _ _ (if (((HT.sIx items.size 0 lo : Nat) : Int) == 0 && (1 : Int) == 1 && (HT.sIx items.size items.size hi - HT.sIx items.size 0 lo) == items.size) = true then _ else _) _ _ s
  rw [h0, h1, if_pos (by simp)]
  unfold Builtin.Tuple.tupleIsExact
  refine wpAny_bind (wpAny_bind (wpAny_typeOf ht.typeIs (wpAny_pure ?_)))
  rw [if_pos (by decide)]
  first
    | exact wpAny_bind (wpAny_rule (wpAny_pure ⟨_, rfl, wpAny_pure h⟩))
    | exact wpAny_bind (wpAny_rule (wpAny_bind (wpAny_pure (wpAny_pure ⟨_, rfl, wpAny_pure h⟩))))
end
section
variable {X : Cx}
/-- t[lo:hi], the whole of it too (that is t itself) -/
def rSlQ (K : PySem.W.Frag) : V → Option Int → Option Int → Hp → VK → Prop := fun x lo hi H Q => ∃ a xs, x = .ref a ∧ SqT K H a xs ∧
  (cutV xs lo hi = xs → Q (.ref a) H) ∧ ∀ p, H p = none → Q (.ref p) (upd H p (.tup (cutV xs lo hi)))
theorem sl_tupQ : SlR X (rSlQ X.K) := by
  intro pins s σ H x v vl vu lo hi sl Q I rx hs pl pu h
  obtain ⟨a, xs, e, hx, q0, q1⟩ := h
  by_cases hw : HT.sIx xs.length 0 lo = 0 ∧ HT.sIx xs.length xs.length hi = xs.length
  · subst e
    cases rx
    obtain ⟨its, r, ht, hz⟩ := I.tuple hx
    have hlen : its.toArray.size = xs.length := by rw [List.size_toArray]; exact r.length.symm
    refine ⟨"tuple", _, PyProof.Rows.slot_tuple_getitem.lookup, ht.typeIs, ?_⟩
    refine tup_whole ht hs pl pu (by rw [hlen]; exact hw.1) (by rw [hlen]; exact hw.2) ⟨.ref a, H, I, rfl, q0 ?_⟩
    unfold cutV
    rw [hw.1, hw.2]
    simp
  · exact sl_tup pins s σ H x v vl vu lo hi sl Q I rx hs pl pu ⟨a, xs, e, hx, hw, q1⟩
end
/-! ### loops -/
section
variable {K : PySem.W.Frag} {a : Addr} {xs : List V} {g : TG} {tb : TS} {σ : L2.St} {H : Hp} {nx : L2.St → Hp → Prop} {rt : VK}
theorem f_list (Pv : Nat → L2.St → Hp → Prop) (h0 : Pv 0 σ H) (hl : ∀ i σ H, i ≤ xs.length → Pv i σ H → SqL K H a xs)
    (hs : ∀ i x σ H, xs[i]? = some x → Pv i σ H → g x σ H fun σ2 H2 => tb ⟨Pv (i + 1), rt, nx, Pv (i + 1)⟩ σ2 H2) (hd : ∀ σ H, Pv xs.length σ H → nx σ H) :
    ∃ W : Nat → Nat → L2.St → Hp → Prop, (∃ m, W 0 m σ H) ∧ ∀ i m σ H, W i m σ H →
      ((Itl K a).stop i H ∧ nx σ H) ∨ ((Itl K a).go i H ∧ ∃ N : L2.St → Hp → Prop, (∀ σ' H', N σ' H' → ∃ m', m' < m ∧ W (i + 1) m' σ' H') ∧ ∀ x H', (Itl K a).yld i H x H' → g x σ H' fun σ2 H2 => tb ⟨N, rt, nx, N⟩ σ2 H2) :=
  for_list (D := ⟨nx, rt, fun _ _ => False, fun _ _ => False⟩) Pv h0 hl hs hd
theorem f_tup (Pv : Nat → L2.St → Hp → Prop) (h0 : Pv 0 σ H) (hl : ∀ i σ H, i ≤ xs.length → Pv i σ H → SqT K H a xs)
    (hs : ∀ i x σ H, xs[i]? = some x → Pv i σ H → g x σ H fun σ2 H2 => tb ⟨Pv (i + 1), rt, nx, Pv (i + 1)⟩ σ2 H2) (hd : ∀ σ H, Pv xs.length σ H → nx σ H) :
    ∃ W : Nat → Nat → L2.St → Hp → Prop, (∃ m, W 0 m σ H) ∧ ∀ i m σ H, W i m σ H →
      ((Itt K a).stop i H ∧ nx σ H) ∨ ((Itt K a).go i H ∧ ∃ N : L2.St → Hp → Prop, (∀ σ' H', N σ' H' → ∃ m', m' < m ∧ W (i + 1) m' σ' H') ∧ ∀ x H', (Itt K a).yld i H x H' → g x σ H' fun σ2 H2 => tb ⟨N, rt, nx, N⟩ σ2 H2) :=
  for_tup (D := ⟨nx, rt, fun _ _ => False, fun _ _ => False⟩) Pv h0 hl hs hd
theorem f_range {lo : Int} {n : Nat} (Pv : Nat → L2.St → Hp → Prop) (h0 : Pv 0 σ H)
    (hs : ∀ i σ H, i < n → Pv i σ H → g (.int (lo + i)) σ H fun σ2 H2 => tb ⟨Pv (i + 1), rt, nx, Pv (i + 1)⟩ σ2 H2) (hd : ∀ σ H, Pv n σ H → nx σ H) :
    ∃ W : Nat → Nat → L2.St → Hp → Prop, (∃ m, W 0 m σ H) ∧ ∀ i m σ H, W i m σ H →
      ((Itr lo n).stop i H ∧ nx σ H) ∨ ((Itr lo n).go i H ∧ ∃ N : L2.St → Hp → Prop, (∀ σ' H', N σ' H' → ∃ m', m' < m ∧ W (i + 1) m' σ' H') ∧ ∀ x H', (Itr lo n).yld i H x H' → g x σ H' fun σ2 H2 => tb ⟨N, rt, nx, N⟩ σ2 H2) :=
  for_range (D := ⟨nx, rt, fun _ _ => False, fun _ _ => False⟩) Pv h0 hs hd
theorem f_rangeC {lo c : Int} {n : Nat} (Pv : Nat → L2.St → Hp → Prop) (h0 : Pv 0 σ H)
    (hs : ∀ i σ H, i < n → Pv i σ H → g (.int (lo + (i : Nat) * c)) σ H fun σ2 H2 => tb ⟨Pv (i + 1), rt, nx, Pv (i + 1)⟩ σ2 H2) (hd : ∀ σ H, Pv n σ H → nx σ H) :
    ∃ W : Nat → Nat → L2.St → Hp → Prop, (∃ m, W 0 m σ H) ∧ ∀ i m σ H, W i m σ H →
      ((Itc lo c n).stop i H ∧ nx σ H) ∨ ((Itc lo c n).go i H ∧ ∃ N : L2.St → Hp → Prop, (∀ σ' H', N σ' H' → ∃ m', m' < m ∧ W (i + 1) m' σ' H') ∧ ∀ x H', (Itc lo c n).yld i H x H' → g x σ H' fun σ2 H2 => tb ⟨N, rt, nx, N⟩ σ2 H2) :=
  for_rangeC (D := ⟨nx, rt, fun _ _ => False, fun _ _ => False⟩) Pv h0 hs hd
theorem i_rng3 {ta : TA} {R : It → Hp → Prop} (h : ta σ H fun vs H1 => ∃ (i j c : Int) (n : Nat), vs = [.int i, .int j, .int c] ∧ RgC i j c n ∧ R (Itc i c n) H1) : iRng3 ta σ H R := h
variable {tt : TT} {te : TE} {ws : List Nat} {D : Addr} {Qd : Hp → Prop} {σ' : L2.St}
theorem l_list (Pv : Nat → Hp → Prop) (h0 : Pv 0 (upd H D (.lst []))) (hl : ∀ i H, i ≤ xs.length → Pv i H → SqL K H a xs)
    (hs : ∀ i x H, xs[i]? = some x → Pv i H → g x σ' H fun σ2 H2 => wipe σ2 ws = σ' ∧ tt σ2 H2 fun b H3 =>
      if b = true then te σ2 H3 fun y H4 => ∃ acc, H4 D = some (.lst acc) ∧ acc.length < sizeLine ∧ Pv (i + 1) (upd H4 D (.lst (acc ++ [y]))) else Pv (i + 1) H3) (hd : ∀ H, Pv xs.length H → Qd H) (e : wipe σ' ws = σ' := by rfl) :
    ∃ W : Nat → Nat → Hp → Prop, (∃ m, W 0 m (upd H D (.lst []))) ∧ ∀ i m H, W i m H →
      ((Itl K a).stop i H ∧ Qd H) ∨ ((Itl K a).go i H ∧ ∃ Nx : Hp → Prop, (∀ H', Nx H' → ∃ m', m' < m ∧ W (i + 1) m' H') ∧ ∀ x H', (Itl K a).yld i H x H' → g x σ' H' fun σ2 H2 => wipe σ2 ws = σ' ∧ tt σ2 H2 fun b H3 =>
        if b = true then te σ2 H3 fun y H4 => ∃ acc, H4 D = some (.lst acc) ∧ acc.length < sizeLine ∧ Nx (upd H4 D (.lst (acc ++ [y]))) else Nx H3) := by
  have h := lc_list (K := K) (a := a) (xs := xs) (g := g) (tt := tt) (te := te) (vs := ws) (σ := σ') (H1 := H) (D := D) (Qd := Qd) Pv h0 hl (by rw [e]; exact hs) hd
  rw [e] at h
  exact h
theorem l_tup (Pv : Nat → Hp → Prop) (h0 : Pv 0 (upd H D (.lst []))) (hl : ∀ i H, i ≤ xs.length → Pv i H → SqT K H a xs)
    (hs : ∀ i x H, xs[i]? = some x → Pv i H → g x σ' H fun σ2 H2 => wipe σ2 ws = σ' ∧ tt σ2 H2 fun b H3 =>
      if b = true then te σ2 H3 fun y H4 => ∃ acc, H4 D = some (.lst acc) ∧ acc.length < sizeLine ∧ Pv (i + 1) (upd H4 D (.lst (acc ++ [y]))) else Pv (i + 1) H3) (hd : ∀ H, Pv xs.length H → Qd H) (e : wipe σ' ws = σ' := by rfl) :
    ∃ W : Nat → Nat → Hp → Prop, (∃ m, W 0 m (upd H D (.lst []))) ∧ ∀ i m H, W i m H →
      ((Itt K a).stop i H ∧ Qd H) ∨ ((Itt K a).go i H ∧ ∃ Nx : Hp → Prop, (∀ H', Nx H' → ∃ m', m' < m ∧ W (i + 1) m' H') ∧ ∀ x H', (Itt K a).yld i H x H' → g x σ' H' fun σ2 H2 => wipe σ2 ws = σ' ∧ tt σ2 H2 fun b H3 =>
        if b = true then te σ2 H3 fun y H4 => ∃ acc, H4 D = some (.lst acc) ∧ acc.length < sizeLine ∧ Nx (upd H4 D (.lst (acc ++ [y]))) else Nx H3) := by
  have h := lc_tup (K := K) (a := a) (xs := xs) (g := g) (tt := tt) (te := te) (vs := ws) (σ := σ') (H1 := H) (D := D) (Qd := Qd) Pv h0 hl (by rw [e]; exact hs) hd
  rw [e] at h
  exact h
theorem l_range {lo : Int} {n : Nat} (Pv : Nat → Hp → Prop) (h0 : Pv 0 (upd H D (.lst [])))
    (hs : ∀ i H, i < n → Pv i H → g (.int (lo + i)) σ' H fun σ2 H2 => wipe σ2 ws = σ' ∧ tt σ2 H2 fun b H3 =>
      if b = true then te σ2 H3 fun y H4 => ∃ acc, H4 D = some (.lst acc) ∧ acc.length < sizeLine ∧ Pv (i + 1) (upd H4 D (.lst (acc ++ [y]))) else Pv (i + 1) H3) (hd : ∀ H, Pv n H → Qd H) (e : wipe σ' ws = σ' := by rfl) :
    ∃ W : Nat → Nat → Hp → Prop, (∃ m, W 0 m (upd H D (.lst []))) ∧ ∀ i m H, W i m H →
      ((Itr lo n).stop i H ∧ Qd H) ∨ ((Itr lo n).go i H ∧ ∃ Nx : Hp → Prop, (∀ H', Nx H' → ∃ m', m' < m ∧ W (i + 1) m' H') ∧ ∀ x H', (Itr lo n).yld i H x H' → g x σ' H' fun σ2 H2 => wipe σ2 ws = σ' ∧ tt σ2 H2 fun b H3 =>
        if b = true then te σ2 H3 fun y H4 => ∃ acc, H4 D = some (.lst acc) ∧ acc.length < sizeLine ∧ Nx (upd H4 D (.lst (acc ++ [y]))) else Nx H3) := by
  have h := lc_range (lo := lo) (n := n) (g := g) (tt := tt) (te := te) (vs := ws) (σ := σ') (H1 := H) (D := D) (Qd := Qd) Pv h0 (by rw [e]; exact hs) hd
  rw [e] at h
  exact h
/-! a comprehension whose elements lay nothing -/
theorem l_rangeP {lo : Int} {n : Nat} (f : Nat → V) (hD : H D = none) (hn : n ≤ 1000000)
    (hs : ∀ i H' (R : VK), i < n → Same H H' → R (f i) H' → g (.int (lo + i)) σ' H' fun σ2 H2 => wipe σ2 ws = σ' ∧ tt σ2 H2 fun b H3 => if b = true then te σ2 H3 R else False)
    (hd : ∀ H', Same H H' → H' D = some (.lst ((List.range n).map f)) → Qd H') (e : wipe σ' ws = σ' := by rfl)
    (htt : ∀ (σ2 : L2.St) (H2 : Hp) (A : Hp → Prop) (B : Hp → Prop), (tt σ2 H2 fun b H3 => if b = true then A H3 else False) → tt σ2 H2 fun b H3 => if b = true then A H3 else B H3 := by intro _ _ _ _ h; exact h) (hg : ∀ x (σ2 : L2.St) (H2 : Hp) (A B : L2.St → Hp → Prop), (∀ s h, A s h → B s h) → g x σ2 H2 A → g x σ2 H2 B := by intro _ _ _ _ _ h q; exact h _ _ q) :
    ∃ W : Nat → Nat → Hp → Prop, (∃ m, W 0 m (upd H D (.lst []))) ∧ ∀ i m H, W i m H →
      ((Itr lo n).stop i H ∧ Qd H) ∨ ((Itr lo n).go i H ∧ ∃ Nx : Hp → Prop, (∀ H', Nx H' → ∃ m', m' < m ∧ W (i + 1) m' H') ∧ ∀ x H', (Itr lo n).yld i H x H' → g x σ' H' fun σ2 H2 => wipe σ2 ws = σ' ∧ tt σ2 H2 fun b H3 =>
        if b = true then te σ2 H3 fun y H4 => ∃ acc, H4 D = some (.lst acc) ∧ acc.length < sizeLine ∧ Nx (upd H4 D (.lst (acc ++ [y]))) else Nx H3) := by
  refine l_range (fun i H' => Same H H' ∧ H' D = some (.lst ((List.range i).map f))) ⟨same_new hD, upd_same⟩ (fun i H' hi h => ?_) (fun H' h => hd H' h.1 h.2) e
  obtain ⟨s, hD'⟩ := h
  refine hg _ _ _ _ _ (fun σ2 H2 q => ⟨q.1, htt _ _ _ _ q.2⟩) (hs i H' _ hi s ⟨_, hD', ?_, fun b o hb => ?_, ?_⟩)
  · rw [List.length_map, List.length_range, sizeLine_eq]; omega
  · rw [upd_ne (ne_of_none hb hD)]; exact s _ _ hb
  · rw [upd_same, List.range_succ, List.map_append] <;> rfl
theorem l_listP (f : Nat → V) (hD : H D = none) (hn : xs.length ≤ 1000000) (hx : SqL K H a xs)
    (hs : ∀ i x H' (R : VK), xs[i]? = some x → Same H H' → R (f i) H' → g x σ' H' fun σ2 H2 => wipe σ2 ws = σ' ∧ tt σ2 H2 fun b H3 => if b = true then te σ2 H3 R else False)
    (hd : ∀ H', Same H H' → H' D = some (.lst ((List.range xs.length).map f)) → Qd H') (e : wipe σ' ws = σ' := by rfl)
    (htt : ∀ (σ2 : L2.St) (H2 : Hp) (A : Hp → Prop) (B : Hp → Prop), (tt σ2 H2 fun b H3 => if b = true then A H3 else False) → tt σ2 H2 fun b H3 => if b = true then A H3 else B H3 := by intro _ _ _ _ h; exact h) (hg : ∀ x (σ2 : L2.St) (H2 : Hp) (A B : L2.St → Hp → Prop), (∀ s h, A s h → B s h) → g x σ2 H2 A → g x σ2 H2 B := by intro _ _ _ _ _ h q; exact h _ _ q) :
    ∃ W : Nat → Nat → Hp → Prop, (∃ m, W 0 m (upd H D (.lst []))) ∧ ∀ i m H, W i m H →
      ((Itl K a).stop i H ∧ Qd H) ∨ ((Itl K a).go i H ∧ ∃ Nx : Hp → Prop, (∀ H', Nx H' → ∃ m', m' < m ∧ W (i + 1) m' H') ∧ ∀ x H', (Itl K a).yld i H x H' → g x σ' H' fun σ2 H2 => wipe σ2 ws = σ' ∧ tt σ2 H2 fun b H3 =>
        if b = true then te σ2 H3 fun y H4 => ∃ acc, H4 D = some (.lst acc) ∧ acc.length < sizeLine ∧ Nx (upd H4 D (.lst (acc ++ [y]))) else Nx H3) := by
  refine l_list (xs := xs) (fun i H' => Same H H' ∧ H' D = some (.lst ((List.range i).map f))) ⟨same_new hD, upd_same⟩ (fun i H' _ h => Same.seq h.1 hx) (fun i x H' hi h => ?_) (fun H' h => hd H' h.1 h.2) e
  obtain ⟨s, hD'⟩ := h
  have hlt := (List.getElem?_eq_some_iff.mp hi).1
  refine hg _ _ _ _ _ (fun σ2 H2 q => ⟨q.1, htt _ _ _ _ q.2⟩) (hs i x H' _ hi s ⟨_, hD', ?_, fun b o hb => ?_, ?_⟩)
  · rw [List.length_map, List.length_range, sizeLine_eq]; omega
  · rw [upd_ne (ne_of_none hb hD)]; exact s _ _ hb
  · rw [upd_same, List.range_succ, List.map_append] <;> rfl
theorem l_tupP (f : Nat → V) (hD : H D = none) (hn : xs.length ≤ 1000000) (hx : SqT K H a xs)
    (hs : ∀ i x H' (R : VK), xs[i]? = some x → Same H H' → R (f i) H' → g x σ' H' fun σ2 H2 => wipe σ2 ws = σ' ∧ tt σ2 H2 fun b H3 => if b = true then te σ2 H3 R else False)
    (hd : ∀ H', Same H H' → H' D = some (.lst ((List.range xs.length).map f)) → Qd H') (e : wipe σ' ws = σ' := by rfl)
    (htt : ∀ (σ2 : L2.St) (H2 : Hp) (A : Hp → Prop) (B : Hp → Prop), (tt σ2 H2 fun b H3 => if b = true then A H3 else False) → tt σ2 H2 fun b H3 => if b = true then A H3 else B H3 := by intro _ _ _ _ h; exact h) (hg : ∀ x (σ2 : L2.St) (H2 : Hp) (A B : L2.St → Hp → Prop), (∀ s h, A s h → B s h) → g x σ2 H2 A → g x σ2 H2 B := by intro _ _ _ _ _ h q; exact h _ _ q) :
    ∃ W : Nat → Nat → Hp → Prop, (∃ m, W 0 m (upd H D (.lst []))) ∧ ∀ i m H, W i m H →
      ((Itt K a).stop i H ∧ Qd H) ∨ ((Itt K a).go i H ∧ ∃ Nx : Hp → Prop, (∀ H', Nx H' → ∃ m', m' < m ∧ W (i + 1) m' H') ∧ ∀ x H', (Itt K a).yld i H x H' → g x σ' H' fun σ2 H2 => wipe σ2 ws = σ' ∧ tt σ2 H2 fun b H3 =>
        if b = true then te σ2 H3 fun y H4 => ∃ acc, H4 D = some (.lst acc) ∧ acc.length < sizeLine ∧ Nx (upd H4 D (.lst (acc ++ [y]))) else Nx H3) := by
  refine l_tup (xs := xs) (fun i H' => Same H H' ∧ H' D = some (.lst ((List.range i).map f))) ⟨same_new hD, upd_same⟩ (fun i H' _ h => Same.tup h.1 hx) (fun i x H' hi h => ?_) (fun H' h => hd H' h.1 h.2) e
  obtain ⟨s, hD'⟩ := h
  have hlt := (List.getElem?_eq_some_iff.mp hi).1
  refine hg _ _ _ _ _ (fun σ2 H2 q => ⟨q.1, htt _ _ _ _ q.2⟩) (hs i x H' _ hi s ⟨_, hD', ?_, fun b o hb => ?_, ?_⟩)
  · rw [List.length_map, List.length_range, sizeLine_eq]; omega
  · rw [upd_ne (ne_of_none hb hD)]; exact s _ _ hb
  · rw [upd_same, List.range_succ, List.map_append] <;> rfl
end
theorem i_yes {σ : L2.St} {H : Hp} {Q : Bool → Hp → Prop} (q : Q true H) : tYes σ H Q := q
/-! ### ifs -/
theorem c_dec {P A B : Prop} [Decidable P] (h1 : P → A) (h2 : ¬ P → B) : if decide P = true then A else B := by
  by_cases h : P
  · rw [if_pos (decide_eq_true h)]; exact h1 h
  · rw [if_neg (by rw [decide_eq_false h]; exact Bool.false_ne_true)]; exact h2 h
theorem c_decN {P A B : Prop} [Decidable P] (h1 : ¬ P → A) (h2 : P → B) : if (!decide P) = true then A else B := by
  by_cases h : P
  · rw [if_neg (by rw [decide_eq_true h]; exact Bool.false_ne_true)]; exact h2 h
  · rw [if_pos (by rw [decide_eq_false h]; rfl)]; exact h1 h
theorem c_nt {A B : Prop} (h : B) : if (!true) = true then A else B := iteF h
theorem c_nf {A B : Prop} (h : A) : if (!false) = true then A else B := iteT h
theorem c_bool {b : Bool} {A B : Prop} (h1 : b = true → A) (h2 : b = false → B) : if b = true then A else B := by
  cases b
  · exact iteF (h2 rfl)
  · exact iteT (h1 rfl)
theorem c_yes {P A B : Prop} [Decidable P] (h : P) (h1 : A) : if decide P = true then A else B := by rw [if_pos (decide_eq_true h)]; exact h1
theorem c_no {P A B : Prop} [Decidable P] (h : ¬ P) (h1 : B) : if decide P = true then A else B := by rw [if_neg (by rw [decide_eq_false h]; exact Bool.false_ne_true)]; exact h1
theorem c_yesN {P A B : Prop} [Decidable P] (h : ¬ P) (h1 : A) : if (!decide P) = true then A else B := by rw [if_pos (by rw [decide_eq_false h]; rfl)]; exact h1
theorem c_noN {P A B : Prop} [Decidable P] (h : P) (h1 : B) : if (!decide P) = true then A else B := by rw [if_neg (by rw [decide_eq_true h]; exact Bool.false_ne_true)]; exact h1
section
variable {K : PySem.W.Frag} {σ : L2.St} {H : Hp} {Q : VK}
theorem i_slA {p : Addr} {xs : List V} {lo hi : Option Int} (h : SqT K H p xs) (q : ∀ (r : Addr) (H' : Hp), Same H H' → SqT K H' r (cutV xs lo hi) → Q (.ref r) H') : rSlQ K (.ref p) lo hi H Q :=
  ⟨p, xs, rfl, h, fun e => q p H (Same.refl H) (by rw [e]; exact h), fun r hr => q r _ (same_new hr) (SqT.of upd_same)⟩
theorem i_eqD {x y : V} {d e : PyData} {n m : Nat} (h1 : Dp K H x d) (h2 : Dp K H y e) (s1 : Shp n d) (s2 : Shp m e) (hn : n ≤ 64) (hm : m ≤ 64) (q : Q (.bl (PyData.eqv d e)) H) : rEqD K x y H Q := ⟨d, e, h1, h2, s1.shaped hn, s2.shaped hm, q⟩
theorem i_neD {x y : V} {d e : PyData} {n m : Nat} (h1 : Dp K H x d) (h2 : Dp K H y e) (s1 : Shp n d) (s2 : Shp m e) (hn : n ≤ 64) (hm : m ≤ 64) (q : Q (.bl (!PyData.eqv d e)) H) : rNeD K x y H Q := ⟨d, e, h1, h2, s1.shaped hn, s2.shaped hm, q⟩
/-- == and != of the same data -/
theorem i_eqS' {x y : V} {d : PyData} {n : Nat} (h1 : Dp K H x d) (h2 : Dp K H y d) (s1 : Shp n d) (hn : n ≤ 64) (q : Q (.bl true) H) : rEqD K x y H Q := i_eqD h1 h2 s1 s1 hn hn (by rw [s1.eqv]; exact q)
theorem i_neS' {x y : V} {d : PyData} {n : Nat} (h1 : Dp K H x d) (h2 : Dp K H y d) (s1 : Shp n d) (hn : n ≤ 64) (q : Q (.bl false) H) : rNeD K x y H Q := i_neD h1 h2 s1 s1 hn hn (by rw [s1.eqv]; exact q)
theorem i_while {c : TT} {tb : TS} {nx : L2.St → Hp → Prop} {rt : VK} {bk ct : L2.St → Hp → Prop} (W : Nat → L2.St → Hp → Prop) (h0 : ∃ m, W m σ H) (h : ∀ m σ H, W m σ H →
  c σ H fun b H1 => if b = true then ∃ N : L2.St → Hp → Prop, (∀ σ' H', N σ' H' → ∃ m', m' < m ∧ W m' σ' H') ∧ tb ⟨N, rt, nx, N⟩ σ H1 else nx σ H1) : tWhile c tb ⟨nx, rt, bk, ct⟩ σ H := ⟨W, h0, h⟩
theorem i_par {i j : Nat} {ta : TA} {nx : L2.St → Hp → Prop} {rt : VK} {bk ct : L2.St → Hp → Prop} (h : ta σ H fun vs H1 => ∃ v w, vs = [v, w] ∧ nx ((σ.set i (some v)).set j (some w)) H1) : tPar i j ta ⟨nx, rt, bk, ct⟩ σ H := h
theorem i_two {x y : V} {R : V → V → Prop} (q : R x y) : ∃ v w, [x, y] = [v, w] ∧ R v w := ⟨x, y, rfl, q⟩
theorem Dp.same {K : PySem.W.Frag} {H H' : Hp} (s : Same H H') : ∀ (d : PyData) (v : V), Dp K H v d → Dp K H' v d := by
  intro d v h
  exact Dp.rec (motive_1 := fun v d _ => Dp K H' v d) (motive_2 := fun vs ds _ => DpAll K H' vs ds) .non (fun b => .bl b) (fun i => .int i) (fun x => .str x) (fun h _ q => .lst (s.seq h) q) (fun h _ q => .tup (Same.tup s h) q) .nil (fun _ _ h1 h2 => .cons h1 h2) h
end
/-! ### a def that can be called -/
structure Df (K : PySem.W.Frag) (mg : Str → Option Value) (x : Str) (st : Stmt) (f : Addr) (fd : FuncData) (ps : List Str) : Prop where
  fn : Fun K x x st f fd
  mgf : mg x = some (.ref f)
  bi : Binds K fd ps []
/-- a def of the text by its promise: it lets no exception out -/
structure Cl (P : Program) (w : World) (K : PySem.W.Frag) (mg : Str → Option Value) (base : Heap) (k : Nat) (x : Str) (sp : Sp) : Prop where
  ex : ∃ (f : Addr) (fd : FuncData) (ps : List Str), FnOk P w K mg base CX0 k f fd ps sp ∧ mg x = some (.ref f) ∧ PySem.W.keepIn K (.ref f) = true ∧ Binds K fd ps []
section
variable {P : Program} {w : World} {K : PySem.W.Frag} {mg : Str → Option Value} {base : Heap}
theorem Df.ok {x : Str} {st : Stmt} {f : Addr} {fd : FuncData} {ps N : List Str} {k : Nat} {sp : Sp} (F : Df K mg x st f fd ps) (S : FnScope N ps (defScope st)) (len : ∀ vs H Q E, sp vs H Q E → vs.length = ps.length)
    (hbody : ∀ (cdv : Value) (A : Around) (outer : List Env) (s : Shared) (H : Hp) (vs : List V) (Q : VK) (E : XK), Room k (A.deeper (envOfC x (defScope st) s.heap.objs.size f cdv)) → sp vs H Q E →
      ∃ t, PSs (cxOf CX0 P w K mg base N x (defScope st) f cdv A outer s H E).nox (defBody st) t ∧ t { nx := fun _ H' => Q .non H', rt := Q } (start N vs) H) : FnOk P w K mg base CX0 (k + 1) f fd ps sp :=
  F.fn.ok S len hbody
theorem Df.cl {x : Str} {st : Stmt} {f : Addr} {fd : FuncData} {ps : List Str} {k : Nat} {sp : Sp} (F : Df K mg x st f fd ps) (o : FnOk P w K mg base CX0 k f fd ps sp) : Cl P w K mg base k x sp :=
  ⟨f, fd, ps, o, F.mgf, F.fn.kp, F.bi⟩
variable {X : Cx}
theorem pe_cl {x : Str} {sp : Sp} {j k : Nat} {e : Expr} {es : List Expr} {t : TA} {p pos : Pos} (c : Cl X.prog X.w X.K X.mg X.base k x sp) (hr : Room j X.A) (hk : k ≤ j) (hg : Gl X x) (ha : PA X (e :: es) t)
    (hdb : (x == ("__debug__" : Str)) = false := by decide) (he : starEach (e :: es) X.env = (false, eval e X.env) :: starEach es X.env := by rfl) (hpl : (backTo pos (starEach es X.env)).any (·.1) = false := by rfl) :
    PE X (.Call (.Name x p) (e :: es) [] pos) (tCall sp [] E0 t) := by
  obtain ⟨f, fd, ps, F, hm, kp, b⟩ := c.ex
  exact pe_call F (hr.mono hk) hg hm kp b .nil pass0 ha hdb he hpl
theorem pe_cl0 {x : Str} {sp : Sp} {j k : Nat} {p pos : Pos} (c : Cl X.prog X.w X.K X.mg X.base k x sp) (hr : Room j X.A) (hk : k ≤ j) (hg : Gl X x) (hdb : (x == ("__debug__" : Str)) = false := by decide) :
    PE X (.Call (.Name x p) [] [] pos) (tCall sp [] E0 tNil) := by
  obtain ⟨f, fd, ps, F, hm, kp, b⟩ := c.ex
  exact pe_call0 F (hr.mono hk) hg hm kp b .nil pass0 hdb
/-- a constant of the module's top -/
def Cn (mg : Str → Option Value) (x : Str) (v : V) : Prop := ∃ u, mg x = some u ∧ RelV v u
theorem pe_cn {x : Str} {v : V} {pos : Pos} (hg : Gl X x) (h : Cn X.mg x v) (hd : (x == ("__debug__" : Str)) = false := by decide) : PE X (.Name x pos) (tC v) := by
  obtain ⟨u, hm, r⟩ := h
  exact pe_glob hg hm r hd
section
variable {K : PySem.W.Frag} {T : String} {name : Str} {id : String} {r : V → List V → Hp → VK → Prop} {o e : Expr} {es : List Expr} {apos cpos pos : Pos} {to ta : TE} {t : TA}
theorem pe_bm0K (hK : X.K = K) (pa : PlainAttrs T) (slot : Slot T name id) (hty : typeOf (.builtin id) = pure (.type "method_descriptor")) (hm : MtR X id r) (ho : PE X o to)
    (hbase : attributeBase o name X.env (eval o X.env) = eval o X.env := by rfl) (hline : (apos.endLine == cpos.line) = true := by rfl) : PE X (.Call (.Attribute o name apos) [] [] cpos) (tBM0 K T r to) := by
  subst hK; exact pe_bm0 pa slot hty hm ho hbase hline
theorem pe_bmK (hK : X.K = K) (pa : PlainAttrs T) (slot : Slot T name id) (hty : typeOf (.builtin id) = pure (.type "method_descriptor")) (hm : MtR X id r) (ho : PE X o to) (ha : PA X (e :: es) t)
    (hbase : attributeBase o name X.env (eval o X.env) = eval o X.env := by rfl)
    (hfew : ((backTo cpos (starEach (e :: es) X.env)).all (fun x => !x.1) && (backToKw cpos (keywordEach [] X.env)).all (fun x => x.1.isSome)
      && decide ((e :: es).length + ([] : List Keyword).length + (if ([] : List Keyword).isEmpty then 0 else 1) < 30)) = true := by rfl)
    (hline : (apos.endLine == cpos.line) = true := by rfl) (hs : starEach (e :: es) X.env = (false, eval e X.env) :: starEach es X.env := by rfl) (hplain : (backTo cpos (starEach es X.env)).any (·.1) = false := by rfl) :
    PE X (.Call (.Attribute o name apos) (e :: es) [] cpos) (tBM K T r to t) := by
  subst hK; exact pe_bm pa slot hty hm ho ha hbase hfew hline hs hplain
theorem pe_fldK (hK : X.K = K) {f : Str} (he : PE X e ta) (hb : attributeBase e f X.env (eval e X.env) = eval e X.env) : PE X (.Attribute e f pos) (tFld K ta f) := by
  subst hK; exact pe_fld he hb
theorem pg_tupK (hK : X.K = K) {es : List Expr} {k : Nat} {t : TGs} {n : Nat} (hc : X.calm = true) (h : PGs X es t)
    (hn : (assignEach es X.env).length = n := by rfl) (hst : (assignEach es X.env).findIdx? (·.1) = none := by rfl) : PG X (.Tuple es k pos) (gTup K n t) := by
  subst hK; exact pg_tup hc h hn hst
end
theorem get_list : L2.PGet X (rIxL X.K) := by
  intro pins s σ H x y v u Q I rx ry h
  obtain ⟨p, xs, i, z, rfl, rfl, hq, he, q⟩ := h
  cases rx
  obtain ⟨t, rfl⟩ := ry
  obtain ⟨its, r, pl, hz⟩ := I.list hq
  obtain ⟨j, h1, h2, h3, h4, h5⟩ := atI_get he
  obtain ⟨w, ew, rw'⟩ := r.get h2
  have hl := r.length
  have hn := line63
  have fin : EP X pins σ Q w s := ⟨z, H, I, rw', q⟩
  by_cases h0 : 0 ≤ i
  · have hj : i.toNat = j := by
      rw [seqIndex_of h0 h5] at h1
      exact Option.some.inj h1
    exact wpAny_getItem_list pl.isList h0 (by omega) (by rw [hj]; simpa using ew) fin
  · have hj : (i + (its.toArray.size : Int)).toNat = j := by
      rw [seqIndex_neg (by omega) h4] at h1
      rw [List.size_toArray, ← hl]
      exact Option.some.inj h1
    exact wpAny_getItem_list_neg pl.isList (by omega) (by rw [List.size_toArray] <;> omega) (by omega) (by rw [hj]; simpa using ew) fin
end
theorem perm_erase {α : Type} : ∀ (l : List α) (i : Nat) (h : i < l.length), (l[i] :: l.eraseIdx i).Perm l
  | x :: r, 0, _ => List.Perm.refl _
  | x :: r, i + 1, h => (List.Perm.swap x (r[i]'(Nat.lt_of_succ_lt_succ h)) (r.eraseIdx i)).trans ((perm_erase r i (Nat.lt_of_succ_lt_succ h)).cons x)
theorem ints_at {ns : List Int} {i : Nat} {x : V} (h : (ns.map V.int)[i]? = some x) : ∃ z, x = .int z ∧ ns[i]? = some z ∧ ns.take (i + 1) = ns.take i ++ [z] ∧ i < ns.length := by
  rw [List.getElem?_map] at h
  cases e : ns[i]? with
  | none => rw [e] at h; cases h
  | some z =>
    rw [e] at h
    exact ⟨z, (Option.some.inj h).symm, rfl, by rw [List.take_add_one, e]; rfl, (List.getElem?_eq_some_iff.mp e).1⟩
theorem at_lt {α : Type} {xs : List α} {i : Int} (h0 : 0 ≤ i) (h : i < xs.length) : ∃ v, atI xs i = some v ∧ v ∈ xs ∧ xs[i.toNat]? = some v := by
  have hl : i.toNat < xs.length := by omega
  refine ⟨xs[i.toNat], ?_, List.getElem_mem hl, List.getElem?_eq_getElem hl⟩
  have := atI_nat (xs := xs) (j := i.toNat) (v := xs[i.toNat]) (List.getElem?_eq_getElem hl)
  rw [Int.toNat_of_nonneg h0] at this
  exact this
theorem ixN_of {n : Nat} {i : Int} (h0 : 0 ≤ i) (h : i < n) : ixN n i = some i.toNat := by
  unfold ixN
  rw [if_pos h0, if_pos h]
end Jp

namespace Law
open PySem PySem.Spec PyProof.Rows L2 Jp
/-! ### the walk's small steps -/
local macro_rules | `(tactic| wtm_at "jset") => `(tactic| (first | (simp only [wipe, List.map_cons, List.map_nil, List.set_cons_zero, List.set_cons_succ]; done) | (simp only [wipe, List.map_cons, List.map_nil, List.set_cons_zero, List.set_cons_succ]; exact rfl) | exact rfl))
local macro_rules | `(tactic| wtm_at "jw1") => `(tactic| first
  | ((with_reducible refine' i_var ?h ?_); (case h => exact rfl))
  | with_reducible refine' i_c ?_ | with_reducible refine' i_op ?_ | with_reducible refine' i_seq ?_ | with_reducible refine' i_asg ?_
  | ((with_reducible refine' i_gNameE ?e ?_); (case e => wtm_at "jset"))
  | with_reducible refine' i_ret ?_ | with_reducible refine' i_test ?_ | with_reducible refine' i_isb ?_
  | with_reducible refine' i_cons ?_ | with_reducible refine' i_nil ?_ | with_reducible refine' i_call ?_ | with_reducible refine' i_cb ?_
  | with_reducible refine' i_rI0 ?_ | ((with_reducible refine' i_rI ?c ?_); (case c => wtm_at "jside")) | with_reducible refine' i_rU ?_
  | with_reducible refine' i_eqI ?_ | with_reducible refine' i_neI ?_ | with_reducible refine' i_eqB ?_ | with_reducible refine' i_neB ?_ | with_reducible refine' i_eqS ?_ | with_reducible refine' i_neS ?_
  | with_reducible refine' i_isN ?_ | with_reducible refine' i_notN ?_
  | with_reducible refine' i_un ?_ | with_reducible refine' i_drop ?_ | with_reducible refine' i_retN ?_ | with_reducible refine' i_next ?_
  | ((with_reducible refine' i_ixL ?h ?e ?_); (case h => wtm_at "jsq"); (case e => wtm_at "jat"))
  | ((with_reducible refine' i_ixT ?h ?e ?_); (case h => wtm_at "jsq"); (case e => wtm_at "jat"))
  | ((with_reducible refine' i_ix1 (i_ixL ?h ?e ?_)); (case h => wtm_at "jsq"); (case e => wtm_at "jat"))
  | ((with_reducible refine' i_ix2 (i_ixT ?h ?e ?_)); (case h => wtm_at "jsq"); (case e => wtm_at "jat"))
  | with_reducible refine' i_gSub ?_
  | ((with_reducible refine' i_setL ?h ?e ?_); (case h => wtm_at "jhp"); (case e => wtm_at "jixn"))
  | ((with_reducible refine' i_gTup ?h ?e ?_); (case h => wtm_at "jsq"); (case e => rfl)) | with_reducible refine' i_gCons ?_ | with_reducible refine' i_gNil ?_
  | with_reducible refine' i_int ?_ | with_reducible refine' i_intB ?_ | with_reducible refine' i_abs ?_ | with_reducible refine' i_max2 ?_ | with_reducible refine' i_min2 ?_
  | ((with_reducible refine' i_lenL ?h ?_); (case h => wtm_at "jsq")) | ((with_reducible refine' i_lenT ?h ?_); (case h => wtm_at "jsq"))
  | ((with_reducible refine' i_tupL ?h ?_); (case h => wtm_at "jsq")) | ((with_reducible refine' i_lstL ?h ?_); (case h => wtm_at "jsq")) | ((with_reducible refine' i_lstT ?h ?_); (case h => wtm_at "jsq")) | ((with_reducible refine' i_tupT ?h ?_); (case h => wtm_at "jsq"))
  | ((with_reducible refine' i_new ?h ?_); (case h => wtm_at "jlen"))
  | with_reducible refine' i_tup ?_ | with_reducible refine' i_lst ?_ | with_reducible refine' i_if ?_ | with_reducible refine' i_andV ?_ | with_reducible refine' i_orV ?_ | with_reducible refine' i_notV ?_ | with_reducible refine' i_B ?_
  | with_reducible refine' i_and ?_ | with_reducible refine' i_or ?_ | with_reducible refine' i_not ?_ | with_reducible refine' i_break ?_ | with_reducible refine' i_cont ?_
  | ((with_reducible refine' i_augE ?h ?_); (case h => exact rfl)) | with_reducible refine' i_augS ?_ | with_reducible refine' i_ipI ?_
  | with_reducible refine' i_for ?_ | with_reducible refine' i_iList ?_ | with_reducible refine' i_iTup ?_ | ((with_reducible refine' i_isL ?h ?_); (case h => wtm_at "jsq")) | ((with_reducible refine' i_isT ?h ?_); (case h => wtm_at "jsq"))
  | with_reducible refine' i_rng1 ?_ | with_reducible refine' i_rng2 ?_
  | ((with_reducible refine' i_isR1 ?h1 ?h2 ?_); (case h1 => wtm_at "jside"); (case h2 => wtm_at "jside"))
  | ((with_reducible refine' i_isR2 ?h1 ?h2 ?h3 ?h4 ?_); (case h1 => wtm_at "jside"); (case h2 => wtm_at "jside"); (case h3 => wtm_at "jside"); (case h4 => wtm_at "jside"))
  | ((with_reducible refine' i_lc ?e ?_); (case e => wtm_at "jset"))
  | with_reducible refine' i_yes ?_ | with_reducible refine' i_sl ?_ | with_reducible refine' i_par ?_ | with_reducible refine' i_two ?_ | with_reducible refine' i_noPart ?_ | with_reducible refine' i_part ?_ | with_reducible refine' i_isI ?_
  | with_reducible refine' i_bm ?_ | with_reducible refine' i_bm0 ?_ | ((with_reducible refine' i_tyL ?h ?_); (case h => wtm_at "jsq"))
  | ((with_reducible refine' i_app ?h ?e ?_); (case h => wtm_at "jhp"); (case e => wtm_at "jsmall"))
  | with_reducible refine' i_chain ?_ | ((with_reducible refine' i_cat ?h1 ?h2 ?e ?_); (case h1 => wtm_at "jhp"); (case h2 => wtm_at "jhp"); (case e => wtm_at "jlen"))
  | with_reducible refine iteT ?_ | with_reducible refine iteF ?_ | with_reducible refine' c_nt ?_ | with_reducible refine' c_nf ?_)
local macro_rules | `(tactic| wtm_at "js") => `(tactic| repeat (wtm_at "jw1"))
local macro_rules | `(tactic| wtm_at "jw") => `(tactic| repeat (first | wtm_at "jw1" | with_reducible refine' i_ifS ?_))
local macro_rules | `(tactic| wtm_at "jlen") => `(tactic| first | decide | (simp [sizeLine]; done) | omega)
/- a condition of an operation -/
local macro_rules | `(tactic| wtm_at "jside") => `(tactic| first | with_reducible assumption | omega | decide | (simp only [List.length_map]; omega) | (refine Or.inl ?_; decide) | (refine Or.inr ?_; decide) | (refine ⟨?_, ?_⟩ <;> omega) | (refine Or.inl ?_; constructor <;> omega) | (refine Or.inr ?_; constructor <;> omega) | (refine ⟨by decide, by decide, by decide⟩) | (with_reducible refine wide_div ?_ (b := 64) ?_ ?_ ?_ <;> first | omega | decide))
/- H p = some o -/
local macro_rules | `(tactic| wtm_at "jhp") => `(tactic| first | assumption | with_reducible exact upd_same | ((with_reducible refine' Eq.trans (upd_ne ?hne) ?hgo); (case hne => wtm_at "jne"); (case hgo => wtm_at "jhp")))
local macro_rules | `(tactic| wtm_at "jne") => `(tactic| first | assumption | (refine Ne.symm ?_; assumption) | (refine ne_of_none (by assumption) (by assumption)) | (refine (ne_of_none (by assumption) (by assumption)).symm))
local macro_rules | `(tactic| wtm_at "jsq") => `(tactic| first | assumption | ((with_reducible refine' SqL.of ?hh); (case hh => wtm_at "jhp")) | ((with_reducible refine' SqT.of ?hh); (case hh => wtm_at "jhp")) | ((with_reducible refine' Same.seq (same_new ?hn) ?hh); (case hn => assumption); (case hh => wtm_at "jsq")) | ((with_reducible refine' Same.tup (same_new ?hn) ?hh); (case hn => assumption); (case hh => wtm_at "jsq")))
/- the item at a place -/
local macro_rules | `(tactic| wtm_at "jat") => `(tactic| first | exact rfl | assumption)
local macro_rules | `(tactic| wtm_at "jixn") => `(tactic| first | exact rfl | assumption)
local macro_rules | `(tactic| wtm_at "jsmall") => `(tactic| first | assumption | exact small1000 (by first | assumption | omega | (simp; done) | (simp; omega)))

def top (i : Nat) : Stmt := PySem.Challenge.pw_judgedplay_k28_worst_roads.main.body.getD i (.Pass ⟨0, 0, 0, 0⟩)
abbrev s__law_begin : Stmt := top 20
abbrev N__law_begin : List Str := ["script", "cell"]
theorem sc__law_begin : FnScope N__law_begin ["script"] (defScope s__law_begin) := ⟨rfl, rfl, rfl, by decide +kernel, rfl, by decide +kernel, by decide +kernel⟩
abbrev s__law_draw : Stmt := top 21
abbrev N__law_draw : List Str := ["d", "many", "found", "size", "cell"]
theorem sc__law_draw : FnScope N__law_draw ["d", "many"] (defScope s__law_draw) := ⟨rfl, rfl, rfl, by decide +kernel, rfl, by decide +kernel, by decide +kernel⟩
abbrev s_lateness : Stmt := top 18
abbrev N_lateness : List Str := ["d", "l"]
theorem sc_lateness : FnScope N_lateness ["d", "l"] (defScope s_lateness) := ⟨rfl, rfl, rfl, by decide +kernel, rfl, by decide +kernel, by decide +kernel⟩
abbrev s__law_fates : Stmt := top 24
abbrev N__law_fates : List Str := ["d", "frames", "late", "lost", "found", "run", "k", "one"]
theorem sc__law_fates : FnScope N__law_fates ["d", "frames", "late", "lost"] (defScope s__law_fates) := ⟨rfl, rfl, rfl, by decide +kernel, rfl, by decide +kernel, by decide +kernel⟩
abbrev s__law_road : Stmt := top 25
abbrev N__law_road : List Str := ["d", "seats", "receivers", "frames", "late", "lost", "found", "sender", "rows", "receiver"]
theorem sc__law_road : FnScope N__law_road ["d", "seats", "receivers", "frames", "late", "lost"] (defScope s__law_road) := ⟨rfl, rfl, rfl, by decide +kernel, rfl, by decide +kernel, by decide +kernel⟩
abbrev s_is_row : Stmt := top 2
abbrev N_is_row : List Str := ["thing", "many"]
theorem sc_is_row : FnScope N_is_row ["thing", "many"] (defScope s_is_row) := ⟨rfl, rfl, rfl, by decide +kernel, rfl, by decide +kernel, by decide +kernel⟩
abbrev s_keeps_bounds : Stmt := top 8
abbrev N_keeps_bounds : List Str := ["fates", "l", "lost", "fate"]
theorem sc_keeps_bounds : FnScope N_keeps_bounds ["fates", "l"] (defScope s_keeps_bounds) := ⟨rfl, rfl, rfl, by decide +kernel, rfl, by decide +kernel, by decide +kernel⟩
abbrev s_is_int : Stmt := top 1
abbrev N_is_int : List Str := ["thing"]
theorem sc_is_int : FnScope N_is_int ["thing"] (defScope s_is_int) := ⟨rfl, rfl, rfl, by decide +kernel, rfl, by decide +kernel, by decide +kernel⟩
abbrev s_is_ints : Stmt := top 3
abbrev N_is_ints : List Str := ["thing", "one"]
theorem sc_is_ints : FnScope N_is_ints ["thing"] (defScope s_is_ints) := ⟨rfl, rfl, rfl, by decide +kernel, rfl, by decide +kernel, by decide +kernel⟩
abbrev s_is_ints_between : Stmt := top 4
abbrev N_is_ints_between : List Str := ["thing", "low", "high", "one"]
theorem sc_is_ints_between : FnScope N_is_ints_between ["thing", "low", "high"] (defScope s_is_ints_between) := ⟨rfl, rfl, rfl, by decide +kernel, rfl, by decide +kernel, by decide +kernel⟩
abbrev s_is_fate : Stmt := top 7
abbrev N_is_fate : List Str := ["thing", "d"]
theorem sc_is_fate : FnScope N_is_fate ["thing", "d"] (defScope s_is_fate) := ⟨rfl, rfl, rfl, by decide +kernel, rfl, by decide +kernel, by decide +kernel⟩
abbrev s_is_fates : Stmt := top 9
abbrev N_is_fates : List Str := ["thing", "frames", "d", "l", "fate"]
theorem sc_is_fates : FnScope N_is_fates ["thing", "frames", "d", "l"] (defScope s_is_fates) := ⟨rfl, rfl, rfl, by decide +kernel, rfl, by decide +kernel, by decide +kernel⟩
abbrev s_is_road : Stmt := top 10
abbrev N_is_road : List Str := ["road", "seats", "receivers", "frames", "d", "l", "sender", "receiver", "fates"]
theorem sc_is_road : FnScope N_is_road ["road", "seats", "receivers", "frames", "d", "l"] (defScope s_is_road) := ⟨rfl, rfl, rfl, by decide +kernel, rfl, by decide +kernel, by decide +kernel⟩
abbrev s__law_is_let : Stmt := top 29
abbrev N__law_is_let : List Str := ["road", "numbers", "late", "lost", "due", "seats", "receivers", "frames", "told"]
theorem sc__law_is_let : FnScope N__law_is_let ["road", "numbers", "late", "lost", "due"] (defScope s__law_is_let) := ⟨rfl, rfl, rfl, by decide +kernel, rfl, by decide +kernel, by decide +kernel⟩
abbrev s__law_heard : Stmt := top 31
abbrev N__law_heard : List Str := ["fates", "first", "found", "frame", "delay"]
theorem sc__law_heard : FnScope N__law_heard ["fates", "first"] (defScope s__law_heard) := ⟨rfl, rfl, rfl, by decide +kernel, rfl, by decide +kernel, by decide +kernel⟩
abbrev s__law_is_in_time : Stmt := top 32
abbrev N__law_is_in_time : List Str := ["fates", "lost", "most", "frame", "by"]
theorem sc__law_is_in_time : FnScope N__law_is_in_time ["fates", "lost", "most"] (defScope s__law_is_in_time) := ⟨rfl, rfl, rfl, by decide +kernel, rfl, by decide +kernel, by decide +kernel⟩
abbrev s__law_way : Stmt := top 33
abbrev N__law_way : List Str := ["d", "road", "numbers", "seats", "receivers", "frames", "sender"]
theorem sc__law_way : FnScope N__law_way ["d", "road", "numbers"] (defScope s__law_way) := ⟨rfl, rfl, rfl, by decide +kernel, rfl, by decide +kernel, by decide +kernel⟩
abbrev s__law_is_any : Stmt := top 37
abbrev N__law_is_any : List Str := ["d", "numbers", "late", "lost", "most", "seats", "receivers", "frames", "road"]
theorem sc__law_is_any : FnScope N__law_is_any ["d", "numbers", "late", "lost", "most"] (defScope s__law_is_any) := ⟨rfl, rfl, rfl, by decide +kernel, rfl, by decide +kernel, by decide +kernel⟩
abbrev s__law_rare : Stmt := top 22
abbrev N__law_rare : List Str := ["d", "many"]
theorem sc__law_rare : FnScope N__law_rare ["d", "many"] (defScope s__law_rare) := ⟨rfl, rfl, rfl, by decide +kernel, rfl, by decide +kernel, by decide +kernel⟩
abbrev s__law_is_int : Stmt := top 23
abbrev N__law_is_int : List Str := ["thing"]
theorem sc__law_is_int : FnScope N__law_is_int ["thing"] (defScope s__law_is_int) := ⟨rfl, rfl, rfl, by decide +kernel, rfl, by decide +kernel, by decide +kernel⟩
abbrev s_road_of : Stmt := top 11
abbrev N_road_of : List Str := ["seats", "receivers", "fates", "found", "sender", "rows", "receiver"]
theorem sc_road_of : FnScope N_road_of ["seats", "receivers", "fates"] (defScope s_road_of) := ⟨rfl, rfl, rfl, by decide +kernel, rfl, by decide +kernel, by decide +kernel⟩
abbrev s_straight_fates : Stmt := top 12
abbrev N_straight_fates : List Str := ["frames", "frame"]
theorem sc_straight_fates : FnScope N_straight_fates ["frames"] (defScope s_straight_fates) := ⟨rfl, rfl, rfl, by decide +kernel, rfl, by decide +kernel, by decide +kernel⟩
abbrev s_straight_road : Stmt := top 13
abbrev N_straight_road : List Str := ["seats", "receivers", "frames"]
theorem sc_straight_road : FnScope N_straight_road ["seats", "receivers", "frames"] (defScope s_straight_road) := ⟨rfl, rfl, rfl, by decide +kernel, rfl, by decide +kernel, by decide +kernel⟩
abbrev s__law_is_same : Stmt := top 28
abbrev N__law_is_same : List Str := ["told", "due", "k"]
theorem sc__law_is_same : FnScope N__law_is_same ["told", "due"] (defScope s__law_is_same) := ⟨rfl, rfl, rfl, by decide +kernel, rfl, by decide +kernel, by decide +kernel⟩
abbrev s__law_is_tight : Stmt := top 30
abbrev N__law_is_tight : List Str := ["road", "numbers", "late", "lost", "comes_late", "runs", "some"]
theorem sc__law_is_tight : FnScope N__law_is_tight ["road", "numbers", "late", "lost", "comes_late", "runs"] (defScope s__law_is_tight) := ⟨rfl, rfl, rfl, by decide +kernel, rfl, by decide +kernel, by decide +kernel⟩
abbrev s__law_all_ways : Stmt := top 26
abbrev N__law_all_ways : List Str := ["seats", "receivers", "fates", "found", "sender", "receiver"]
theorem sc__law_all_ways : FnScope N__law_all_ways ["seats", "receivers", "fates"] (defScope s__law_all_ways) := ⟨rfl, rfl, rfl, by decide +kernel, rfl, by decide +kernel, by decide +kernel⟩
abbrev s__law_is_straight : Stmt := top 34
abbrev N__law_is_straight : List Str := ["d", "numbers", "late", "lost", "seats", "receivers", "frames", "road", "frame", "fates"]
theorem sc__law_is_straight : FnScope N__law_is_straight ["d", "numbers", "late", "lost"] (defScope s__law_is_straight) := ⟨rfl, rfl, rfl, by decide +kernel, rfl, by decide +kernel, by decide +kernel⟩
abbrev s_late_road : Stmt := top 14
abbrev N_late_road : List Str := ["seats", "receivers", "frames", "d", "l", "fates", "frame"]
theorem sc_late_road : FnScope N_late_road ["seats", "receivers", "frames", "d", "l"] (defScope s_late_road) := ⟨rfl, rfl, rfl, by decide +kernel, rfl, by decide +kernel, by decide +kernel⟩
abbrev s__law_is_late : Stmt := top 35
abbrev N__law_is_late : List Str := ["d", "numbers", "late", "lost", "most", "seats", "receivers", "frames", "due", "frame", "road", "fates"]
theorem sc__law_is_late : FnScope N__law_is_late ["d", "numbers", "late", "lost", "most"] (defScope s__law_is_late) := ⟨rfl, rfl, rfl, by decide +kernel, rfl, by decide +kernel, by decide +kernel⟩
abbrev s_hiding_fates : Stmt := top 15
abbrev N_hiding_fates : List Str := ["frames", "d", "l", "first", "fates", "frame"]
theorem sc_hiding_fates : FnScope N_hiding_fates ["frames", "d", "l", "first"] (defScope s_hiding_fates) := ⟨rfl, rfl, rfl, by decide +kernel, rfl, by decide +kernel, by decide +kernel⟩
abbrev s_hiding_road : Stmt := top 16
abbrev N_hiding_road : List Str := ["seats", "receivers", "frames", "d", "l", "first"]
theorem sc_hiding_road : FnScope N_hiding_road ["seats", "receivers", "frames", "d", "l", "first"] (defScope s_hiding_road) := ⟨rfl, rfl, rfl, by decide +kernel, rfl, by decide +kernel, by decide +kernel⟩
abbrev s__law_hiding : Stmt := top 27
abbrev N__law_hiding : List Str := ["frames", "late", "lost", "first", "found", "frame"]
theorem sc__law_hiding : FnScope N__law_hiding ["frames", "late", "lost", "first"] (defScope s__law_hiding) := ⟨rfl, rfl, rfl, by decide +kernel, rfl, by decide +kernel, by decide +kernel⟩
abbrev s__law_is_hiding : Stmt := top 36
abbrev N__law_is_hiding : List Str := ["d", "numbers", "late", "lost", "most", "first", "seats", "receivers", "frames", "road", "fates", "frame"]
theorem sc__law_is_hiding : FnScope N__law_is_hiding ["d", "numbers", "late", "lost", "most", "first"] (defScope s__law_is_hiding) := ⟨rfl, rfl, rfl, by decide +kernel, rfl, by decide +kernel, by decide +kernel⟩
abbrev s_law : Stmt := top 38
abbrev N_law : List Str := ["script", "d", "seats", "numbers", "late", "lost", "most", "frames", "first"]
theorem sc_law : FnScope N_law ["script"] (defScope s_law) := ⟨rfl, rfl, rfl, by decide +kernel, rfl, by decide +kernel, by decide +kernel⟩
/-- what the text's top has: built-ins that are still so, constants -/
structure Txt (mg : Str → Option Value) : Prop where
  b_int : mg "int" = none
  b_len : mg "len" = none
  b_abs : mg "abs" = none
  b_range : mg "range" = none
  b_tuple : mg "tuple" = none
  b_isinstance : mg "isinstance" = none
  b_bool : mg "bool" = none
  b_list : mg "list" = none
  b_max : mg "max" = none
  c_MOST_COPIES : Cn mg "MOST_COPIES" (.int 2)
/-! ### the draws -/
/-- a row of draws stands at p, its cells at a -/
def DrawAt (H : Hp) (p a : Addr) : Prop := ∃ (ns : List Int) (pos pend seed : Int), H p = some (.lst [.ref a, .int pos, .int pend, .int seed]) ∧ H a = some (.lst (ns.map V.int)) ∧ a ≠ p ∧ 0 ≤ pos
theorem DrawAt.same {H H' : Hp} {p a : Addr} (d : DrawAt H p a) (s : Same H H') : DrawAt H' p a := by
  obtain ⟨ns, pos, pend, seed, h1, h2, h3, h4⟩ := d
  exact ⟨ns, pos, pend, seed, s _ _ h1, s _ _ h2, h3, h4⟩
/-- behind draws: the row stands, all else is as it was -/
structure Drew (p a : Addr) (H H' : Hp) : Prop where
  at_ : DrawAt H' p a
  kp : Kp p H H'
theorem Drew.trans {p a : Addr} {H H1 H2 : Hp} (x : Drew p a H H1) (y : Drew p a H1 H2) : Drew p a H H2 := ⟨y.at_, x.kp.trans y.kp⟩
theorem Drew.new {p a q : Addr} {H H1 : Hp} {o : HO} (x : Drew p a H H1) (h : H1 q = none) : Drew p a H (upd H1 q o) := ⟨x.at_.same (same_new h), x.kp.trans (.of (same_new h))⟩
theorem Drew.same {p a : Addr} {H H1 H2 : Hp} (x : Drew p a H H1) (s : Same H1 H2) : Drew p a H H2 := ⟨x.at_.same s, x.kp.trans (.of s)⟩
theorem DrawAt.drew {p a : Addr} {H : Hp} (d : DrawAt H p a) : Drew p a H H := ⟨d, Kp.refl⟩
theorem DrawAt.some {H : Hp} {p a : Addr} (d : DrawAt H p a) : ∃ xs, H p = some (.lst xs) := by
  obtain ⟨ns, pos, pend, seed, h1, _⟩ := d
  exact ⟨_, h1⟩
theorem DrawAt.ne_none {H : Hp} {p a q : Addr} (d : DrawAt H p a) (h : H q = none) : q ≠ p := by
  obtain ⟨xs, e⟩ := d.some
  exact (ne_of_none e h).symm
theorem DrawAt.ne_noneA {H : Hp} {p a q : Addr} (d : DrawAt H p a) (h : H q = none) : q ≠ a := by
  obtain ⟨ns, pos, pend, seed, _, h1, _⟩ := d
  exact (ne_of_none h1 h).symm
theorem Drew.free {p a q : Addr} {H H' : Hp} (w : Drew p a H H') (h : H' q = none) : H q = none := by
  cases e : H q with
  | none => rfl
  | some o =>
    by_cases hq : q = p
    · obtain ⟨xs, e'⟩ := w.at_.some
      rw [hq, e'] at h; cases h
    · rw [w.kp _ _ e hq] at h; cases h
/-- a thing of our own, made behind H, is written -/
theorem Drew.put {p a q : Addr} {H H1 : Hp} {o : HO} (x : Drew p a H H1) (d : DrawAt H p a) (h : H q = none) : Drew p a H (upd H1 q o) := by
  have n1 := d.ne_none h
  have n2 := d.ne_noneA h
  obtain ⟨ns, pos, pend, seed, h1, h2, h3, h4⟩ := x.at_
  refine ⟨⟨ns, pos, pend, seed, by rw [upd_ne n1.symm]; exact h1, by rw [upd_ne n2.symm]; exact h2, h3, h4⟩, fun b u hb hne => ?_⟩
  rw [upd_ne (ne_of_none hb h)]
  exact x.kp _ _ hb hne
theorem Drew.tps {p a : Addr} {H H' : Hp} (w : Drew p a H H') (d : DrawAt H p a) : Tps H H' := by
  obtain ⟨xs, e⟩ := d.some
  exact w.kp.tps e
def sp__law_begin (K : PySem.W.Frag) : Sp := fun vs H Q _ => ∃ (a : Addr) (ns : List Int), vs = [.ref a] ∧ SqL K H a (ns.map V.int) ∧ ns.length ≤ 63 ∧
  ∀ (p c : Addr) (H' : Hp), Same H H' → H p = none → H c = none → DrawAt H' p c → Q (.ref p) H'
theorem ok__law_begin {P : Program} {w : World} {K : PySem.W.Frag} {mg : Str → Option Value} {base : Heap} {f : Addr} {fd : FuncData} (F : Df K mg "_law_begin" s__law_begin f fd ["script"]) (T : Txt mg) : FnOk P w K mg base CX0 1 f fd ["script"] (sp__law_begin K) := by
  refine F.ok sc__law_begin (fun vs H Q E h => ?_) (fun cdv A outer s H vs Q E hr h => ?_)
  · obtain ⟨a, ns, rfl, _⟩ := h
    rfl
  · obtain ⟨a, ns, rfl, hS, hl, k⟩ := h
    refine ⟨_, (pss_one (ps_ret (pe_lst (pa_cons (pe_lc (own := [("cell", 1)]) (g := gName 1) (tt := tYes) rfl sc__law_begin.nd (pi_list (pv 0)) (blkOk_by (own := [("cell", 1)]) (N := N__law_begin) (sc := defScope s__law_begin) (by decide +kernel)) (fun _ _ _ _ _ => (pg_name (i := 1) sc__law_begin.nd rfl (Or.inl rfl))) (fun _ _ _ _ _ => pts_nil) (fun _ _ _ _ _ => (pe_callTy (T := "int") c_int (by rfl) T.b_int (by decide +kernel) (pa_cons (pv 1) pa_nil)))) (pa_cons pe_int (pa_cons pe_int (pa_cons pe_int pa_nil))))))), ?_⟩
    try dsimp only [cxOf, Cx.nox, Cx.wish]
    refine st_of (σ' := [some _, none]) rfl ?_
    wtm_at "jw"
    intro D hD
    refine l_list (xs := ns.map V.int) (fun i H1 => Same H H1 ∧ H1 D = some (.lst ((ns.take i).map V.int))) ⟨same_new hD, upd_same⟩ (fun i H1 _ h => h.1.seq hS) (fun i x H1 hi h => ?_) (fun H1 h => ?_)
    · obtain ⟨s1, h1⟩ := h
      rw [List.getElem?_map] at hi
      cases e : ns[i]? with
      | none => rw [e] at hi; cases hi
      | some z =>
        rw [e] at hi
        cases hi
        have hlt : i < ns.length := (List.getElem?_eq_some_iff.mp e).1
        wtm_at "jw"
        refine ⟨rfl, ?_⟩
        wtm_at "jw"
        refine ⟨_, h1, small1000 (by rw [List.length_map, List.length_take]; omega), ?_, ?_⟩
        · intro b o hb
          have hne : b ≠ D := ne_of_none hb hD
          rw [upd_ne hne]
          exact s1 _ _ hb
        · rw [upd_same, List.take_add_one, e, List.map_append]
          rfl
    · obtain ⟨s1, h1⟩ := h
      rw [List.length_map, List.take_length] at h1
      wtm_at "jw"
      intro p hp
      have hne : D ≠ p := ne_of_none h1 hp
      refine k p D _ (fun b o hb => ?_) (s1.free hp) hD ⟨ns, 0, 0, 11, upd_same, by rw [upd_ne hne]; exact h1, hne, by decide⟩
      rw [upd_ne (ne_of_none (s1 _ _ hb) hp)]
      exact s1 _ _ hb
def sp__law_draw (K : PySem.W.Frag) : Sp := fun vs H Q _ => ∃ (p a : Addr) (many : Int), vs = [.ref p, .int many] ∧ DrawAt H p a ∧ 0 < many ∧ many < 18446744073709551616 ∧
  ∀ (r : Int) (H' : Hp), 0 ≤ r → r < many → Drew p a H H' → Q (.int r) H'
theorem ok__law_draw {P : Program} {w : World} {K : PySem.W.Frag} {mg : Str → Option Value} {base : Heap} {f : Addr} {fd : FuncData} (F : Df K mg "_law_draw" s__law_draw f fd ["d", "many"]) (T : Txt mg) : FnOk P w K mg base CX0 1 f fd ["d", "many"] (sp__law_draw K) := by
  refine F.ok sc__law_draw (fun vs H Q E h => ?_) (fun cdv A outer s H vs Q E hr h => ?_)
  · obtain ⟨p, a, m, rfl, _⟩ := h
    rfl
  · obtain ⟨p, a, m, rfl, ⟨ns, pos, pend, seed, hp, ha, nap, h0⟩, hm0, hm1, k⟩ := h
    have fin : ∀ (z : Int) (pos' pend' seed' : Int) (H' : Hp), 0 ≤ pos' → H' p = some (.lst [.ref a, .int pos', .int pend', .int seed']) → Kp p H H' → Q (.int (z % m)) H' := fun z pos' pend' seed' H' hp' h1 h2 =>
      k _ _ (Int.emod_nonneg _ (by omega)) (Int.emod_lt_of_pos _ hm0) ⟨⟨ns, pos', pend', seed', h1, h2 _ _ ha nap, nap, hp'⟩, h2⟩
    refine ⟨_, (pss_cons (ps_if (pt_cmpR op_gt (pe_ix (r := rIxL K) ix_list (pv 0) pe_int (fun _ _ => rfl)) pe_int (nomark _)) (pss_cons (ps_set (i := 2) sc__law_draw.nd rfl (Or.inl rfl) (pe_ix (r := rIxL K) ix_list (pv 0) pe_int (fun _ _ => rfl)))
      (pss_cons (ps_asg (pe_op op_fdivW (pv 2) (pv 1)) (pg_sub (pv 0) pe_int set_list))
      (pss_one (ps_ret (pe_op op_mod (pe_callTy (T := "int") c_int (by rfl) T.b_int (by decide +kernel) (pa_cons (pv 2) pa_nil)) (pv 1)))))) pss_nil)
      (pss_cons (ps_set (i := 3) sc__law_draw.nd rfl (Or.inl rfl) pe_int)
      (pss_cons (ps_if (pt_cmpR op_lt (pe_ix (r := rIxL K) ix_list (pv 0) pe_int (fun _ _ => rfl)) (pe_callB (id := "len") (r := qLen K) c_len (by rfl) T.b_len (by decide +kernel) (pa_cons (pe_ix (r := rIxL K) ix_list (pv 0) pe_int (fun _ _ => rfl)) pa_nil)) (nomark _)) (pss_cons (ps_set (i := 4) sc__law_draw.nd rfl (Or.inl rfl) (pe_ix (r := rIx K) ix_seq (pe_ix (r := rIxL K) ix_list (pv 0) pe_int (fun _ _ => rfl)) (pe_ix (r := rIxL K) ix_list (pv 0) pe_int (fun _ _ => rfl)) (fun _ _ => rfl)))
      (pss_one (ps_set (i := 3) sc__law_draw.nd rfl (Or.inl rfl) (pe_op op_add (pe_op op_mul pe_int (pe_callB (id := "abs") c_abs (by rfl) T.b_abs (by decide +kernel) (pa_cons (pv 4) pa_nil))) (pe_callTy (T := "int") c_int (by rfl) T.b_int (by decide +kernel) (pa_cons (pe_cmpR op_lt (pv 4) pe_int (nomark _)) pa_nil)))))) pss_nil)
      (pss_cons (ps_augS (pv 0) pe_int get_list pe_int iop_add set_list)
      (pss_cons (ps_if (pt_cmpR op_ge (pv 3) (pe_op op_mul pe_int (pe_op op_pow pe_int pe_int)) (nomark _)) (pss_cons (ps_set (i := 2) sc__law_draw.nd rfl (Or.inl rfl) (pe_op op_mod (pe_callTy (T := "int") c_int (by rfl) T.b_int (by decide +kernel) (pa_cons (pe_op op_fdiv (pv 3) pe_int) pa_nil)) (pe_op op_shl pe_int pe_int)))
      (pss_cons (ps_asg (pe_op op_fdivW (pv 2) (pv 1)) (pg_sub (pv 0) pe_int set_list))
      (pss_one (ps_ret (pe_op op_mod (pe_callTy (T := "int") c_int (by rfl) T.b_int (by decide +kernel) (pa_cons (pv 2) pa_nil)) (pv 1)))))) pss_nil)
      (pss_cons (ps_asg (pe_op op_mod (pe_callTy (T := "int") c_int (by rfl) T.b_int (by decide +kernel) (pa_cons (pe_op op_add (pe_op op_add (pe_op op_add (pe_op op_mul (pe_ix (r := rIxL K) ix_list (pv 0) pe_int (fun _ _ => rfl)) pe_int) (pe_op op_mul (pe_op op_mod (pe_callTy (T := "int") c_int (by rfl) T.b_int (by decide +kernel) (pa_cons (pv 3) pa_nil)) pe_int) pe_int)) (pe_op op_mul (pe_ix (r := rIxL K) ix_list (pv 0) pe_int (fun _ _ => rfl)) pe_int)) pe_int) pa_nil)) pe_int) (pg_sub (pv 0) pe_int set_list))
      (pss_one (ps_ret (pe_op op_mod (pe_callTy (T := "int") c_int (by rfl) T.b_int (by decide +kernel) (pa_cons (pe_op op_fdiv (pe_ix (r := rIxL K) ix_list (pv 0) pe_int (fun _ _ => rfl)) pe_int) pa_nil)) (pv 1)))))))))), ?_⟩
    try dsimp only [cxOf, Cx.nox, Cx.wish]
    refine st_of (σ' := [some _, some _, none, none, none]) rfl ?_
    wtm_at "jw"
    refine c_dec (fun h => ?_) (fun h => ?_)
    · wtm_at "jw"
      exact fin _ _ _ _ _ h0 upd_same Kp.upd
    · wtm_at "jw"
      refine c_dec (fun h1 => ?_) (fun h1 => ?_)
      · obtain ⟨c, hc⟩ : ∃ c : Int, atI (ns.map V.int) pos = some (.int c) := by
          obtain ⟨v, e, hv, _⟩ := at_lt (xs := ns.map V.int) h0 h1
          obtain ⟨z, _, rfl⟩ := List.mem_map.mp hv
          exact ⟨z, e⟩
        wtm_at "jw"
        refine c_dec (fun h2 => ?_) (fun h2 => ?_)
        · wtm_at "jw"
          exact fin _ (pos + 1) _ _ _ (by omega) upd_same (Kp.upd.trans Kp.upd)
        · wtm_at "jw"
          exact fin _ (pos + 1) _ _ _ (by omega) upd_same (Kp.upd.trans Kp.upd)
      · wtm_at "jw"
        refine c_dec (fun h2 => ?_) (fun h2 => ?_)
        · wtm_at "jw"
          exact fin _ (pos + 1) _ _ _ (by omega) upd_same (Kp.upd.trans Kp.upd)
        · wtm_at "jw"
          exact fin _ (pos + 1) _ _ _ (by omega) upd_same (Kp.upd.trans Kp.upd)

def sp__law_is_int (K : PySem.W.Frag) : Sp := fun vs H Q _ => ∃ (i : Int), vs = [.int i] ∧ Q (.bl true) H
theorem ok__law_is_int {P : Program} {w : World} {K : PySem.W.Frag} {mg : Str → Option Value} {base : Heap} {f : Addr} {fd : FuncData} (F : Df K mg "_law_is_int" s__law_is_int f fd ["thing"]) (T : Txt mg) : FnOk P w K mg base CX0 1 f fd ["thing"] (sp__law_is_int K) := by
  refine F.ok sc__law_is_int (fun vs H Q E h => ?_) (fun cdv A outer s H vs Q E hr h => ?_)
  · obtain ⟨i, rfl, _⟩ := h
    rfl
  · obtain ⟨i, rfl, k⟩ := h
    refine ⟨_, (pss_one (ps_ret (pe_and (pe_callB (id := "isinstance") (r := rIsi K) call_isi (by rfl) T.b_isinstance (by decide +kernel) (pa_cons (pv 0) (pa_cons (pe_bltn (v := .ty "int") (u := Value.type "int") (by rfl) T.b_int (by decide +kernel) rfl) pa_nil))) (pe_one (pe_not (pe_callB (id := "isinstance") (r := rIsi K) call_isi (by rfl) T.b_isinstance (by decide +kernel) (pa_cons (pv 0) (pa_cons (pe_bltn (v := .ty "bool") (u := Value.type "bool") (by rfl) T.b_bool (by decide +kernel) rfl) pa_nil)))))))), ?_⟩
    try dsimp only [cxOf, Cx.nox, Cx.wish]
    refine st_of (σ' := [some _]) rfl ?_
    wtm_at "jw"
    refine i_isi (.base (.int i)) rfl ?_
    wtm_at "jw"
    refine i_isi (.base (.int i)) rfl ?_
    wtm_at "jw"
    exact k

/-! ### pairs of ints, tuples of them -/
/-- the pairs of rows stand at rs -/
def Prw (H : Hp) (rs : List Addr) (rows : List (Int × Int)) : Prop := rs.length = rows.length ∧ ∀ (i : Nat) (r : Addr) (p : Int × Int), rs[i]? = some r → rows[i]? = some p → H r = some (.tup [.int p.1, .int p.2])
/-- a tuple of pairs -/
def Prs (H : Hp) (a : Addr) (rows : List (Int × Int)) : Prop := ∃ rs : List Addr, H a = some (.tup (rs.map V.ref)) ∧ Prw H rs rows
/-- a list of pairs -/
def LPr (H : Hp) (a : Addr) (rows : List (Int × Int)) : Prop := ∃ rs : List Addr, H a = some (.lst (rs.map V.ref)) ∧ Prw H rs rows
theorem Prw.nil {H : Hp} : Prw H [] [] := ⟨rfl, fun i r p h => by simp at h⟩
theorem Prw.tps {H H' : Hp} {rs : List Addr} {rows : List (Int × Int)} (w : Prw H rs rows) (t : Tps H H') : Prw H' rs rows := ⟨w.1, fun i r p h1 h2 => (t r).1 _ (w.2 i r p h1 h2)⟩
theorem Prw.same {H H' : Hp} {rs : List Addr} {rows : List (Int × Int)} (w : Prw H rs rows) (s : Same H H') : Prw H' rs rows := w.tps (Tps.of s)
theorem Prw.snoc {H : Hp} {rs : List Addr} {rows : List (Int × Int)} {q : Addr} {x y : Int} (w : Prw H rs rows) (h : H q = some (.tup [.int x, .int y])) : Prw H (rs ++ [q]) (rows ++ [(x, y)]) := by
  refine ⟨by simp [w.1], fun i r p h1 h2 => ?_⟩
  have hl := w.1
  by_cases hi : i < rs.length
  · rw [List.getElem?_append_left hi] at h1
    rw [List.getElem?_append_left (by omega)] at h2
    exact w.2 i r p h1 h2
  · rw [List.getElem?_append_right (by omega)] at h1
    rw [List.getElem?_append_right (by omega)] at h2
    rw [hl] at h1
    cases e : i - rows.length with
    | zero =>
      rw [e] at h1 h2
      cases h1
      cases h2
      exact h
    | succ n =>
      rw [e] at h1
      cases h1
theorem Prs.tps {H H' : Hp} {a : Addr} {rows : List (Int × Int)} (h : Prs H a rows) (t : Tps H H') : Prs H' a rows := by
  obtain ⟨rs, ha, w⟩ := h
  exact ⟨rs, (t a).1 _ ha, w.tps t⟩
theorem Prs.same {H H' : Hp} {a : Addr} {rows : List (Int × Int)} (h : Prs H a rows) (s : Same H H') : Prs H' a rows := h.tps (Tps.of s)
theorem LPr.same {H H' : Hp} {a : Addr} {rows : List (Int × Int)} (h : LPr H a rows) (s : Same H H') : LPr H' a rows := by
  obtain ⟨rs, ha, w⟩ := h
  exact ⟨rs, s _ _ ha, w.same s⟩
theorem LPr.kp {H H' : Hp} {p a : Addr} {xs : List V} {rows : List (Int × Int)} (h : LPr H a rows) (k : Kp p H H') (hp : H p = some (.lst xs)) (n : a ≠ p) : LPr H' a rows := by
  obtain ⟨rs, ha, w⟩ := h
  exact ⟨rs, k _ _ ha n, w.tps (k.tps hp)⟩
theorem Prw.put {H : Hp} {D : Addr} {rs : List Addr} {xs ys : List V} {rows : List (Int × Int)} (w : Prw H rs rows) (h : H D = some (.lst xs)) : Prw (upd H D (.lst ys)) rs rows := by
  refine ⟨w.1, fun i r p h1 h2 => ?_⟩
  have hr := w.2 i r p h1 h2
  rw [upd_ne (ne_of hr h (by intro z; cases z))]
  exact hr
/-- a new pair behind the others -/
theorem LPr.add {H : Hp} {D q : Addr} {rs : List Addr} {rows : List (Int × Int)} {x y : Int} (h : H D = some (.lst (rs.map V.ref))) (w : Prw H rs rows) (hq : H q = none) :
    LPr (upd (upd H q (.tup [.int x, .int y])) D (.lst (rs.map V.ref ++ [.ref q]))) D (rows ++ [(x, y)]) := by
  have hD : upd H q (.tup [.int x, .int y]) D = some (.lst (rs.map V.ref)) := by rw [upd_ne (ne_of_none h hq)]; exact h
  refine ⟨rs ++ [q], by rw [upd_same, List.map_append]; rfl, Prw.put (xs := rs.map V.ref) ((w.same (same_new hq)).snoc upd_same) hD⟩
/-- a pair that stands already -/
theorem LPr.add' {H : Hp} {D q : Addr} {rs : List Addr} {rows : List (Int × Int)} {x y : Int} (h : H D = some (.lst (rs.map V.ref))) (w : Prw H rs rows) (hq : H q = some (.tup [.int x, .int y])) :
    LPr (upd H D (.lst (rs.map V.ref ++ [.ref q]))) D (rows ++ [(x, y)]) :=
  ⟨rs ++ [q], by rw [upd_same, List.map_append]; rfl, (w.snoc hq).put h⟩
theorem Prw.at {H : Hp} {rs : List Addr} {rows : List (Int × Int)} {i : Nat} {v : V} (w : Prw H rs rows) (h : (rs.map V.ref)[i]? = some v) : ∃ r p, v = .ref r ∧ rs[i]? = some r ∧ rows[i]? = some p ∧ H r = some (.tup [.int p.1, .int p.2]) ∧ rows.take (i + 1) = rows.take i ++ [p] ∧ i < rows.length := by
  rw [List.getElem?_map] at h
  cases e : rs[i]? with
  | none => rw [e] at h; cases h
  | some r =>
    rw [e] at h
    have hi := (List.getElem?_eq_some_iff.mp e).1
    have hl := w.1
    have e2 : rows[i]? = some (rows[i]'(by omega)) := List.getElem?_eq_getElem (by omega)
    exact ⟨r, _, (Option.some.inj h).symm, rfl, e2, w.2 i r _ e e2, by rw [List.take_add_one, e2]; rfl, by omega⟩
def prD (p : Int × Int) : PyData := .tuple [.int p.1, .int p.2]
theorem dp_prs {K : PySem.W.Frag} {H : Hp} {a : Addr} {rows : List (Int × Int)} (h : Prs H a rows) : Dp K H (.ref a) (.tuple (rows.map prD)) := by
  obtain ⟨rs, ha, w⟩ := h
  refine .tup (SqT.of ha) (dpAll_of (by simp [w.1]) fun i x d h1 h2 => ?_)
  obtain ⟨r, p, rfl, e1, e2, hr, _⟩ := w.at h1
  rw [List.getElem?_map, e2] at h2
  cases h2
  exact dp_ints (ns := [p.1, p.2]) (SqT.of hr)
theorem shp_prs (rows : List (Int × Int)) : Shp 2 (.tuple (rows.map prD)) :=
  Shp.tup fun d hd => by
    obtain ⟨p, _, rfl⟩ := List.mem_map.mp hd
    exact Shp.tup fun e he => by
      rcases List.mem_cons.mp he with rfl | he
      · exact (Shp.int _)
      · rcases List.mem_cons.mp he with rfl | he
        · exact (Shp.int _)
        · cases he
theorem shp_ints (ns : List Int) : Shp 1 (.tuple (ns.map PyData.int)) :=
  Shp.tup fun d hd => by
    obtain ⟨p, _, rfl⟩ := List.mem_map.mp hd
    exact Shp.int _
theorem put_same {H H' : Hp} {D : Addr} {o : HO} (s : Same H H') (h : H D = none) : Same H (upd H' D o) := fun b u hb => by
  rw [upd_ne (ne_of_none hb h)]
  exact s _ _ hb
theorem tps_put {H : Hp} {D : Addr} {xs ys : List V} (h : H D = some (.lst xs)) : Tps H (upd H D (.lst ys)) := (Kp.upd (p := D)).tps h

/-! ### dicts with int keys -/
section
variable {K : PySem.W.Frag} {σ : L2.St} {H : Hp} {Q : VK}
theorem i_dget {td ty : TE} (h : td σ H fun x H1 => ty σ H1 fun y H2 => ∃ a v, x = .ref a ∧ DGet H2 a y (some v) ∧ Q v H2) : tDGet td ty σ H Q := h
theorem i_dgetI {p : Addr} {i : Int} {v : V} {kvs : List (L2.Key × V)} {R : V → Prop} (h : Rd H p (.dK kvs)) (e : valV kvs (.inl i) = some v) (q : R v) : ∃ a v', V.ref p = .ref a ∧ DGet H a (.int i) (some v') ∧ R v' :=
  ⟨p, v, rfl, .inl ⟨kvs, .inl i, h, rfl, e.symm⟩, q⟩
theorem i_din {td ty : TE} (h : ty σ H fun y H1 => td σ H1 fun x H2 => ∃ a o, x = .ref a ∧ DGet H2 a y o ∧ Q (.bl o.isSome) H2) : tDIn ty td σ H Q := h
theorem i_dinI {p : Addr} {i : Int} {kvs : List (L2.Key × V)} {R : Option V → Prop} (h : Rd H p (.dK kvs)) (q : R (valV kvs (.inl i))) : ∃ a o, V.ref p = .ref a ∧ DGet H a (.int i) o ∧ R o :=
  ⟨p, _, rfl, .inl ⟨kvs, .inl i, h, rfl, rfl⟩, q⟩
theorem i_dput {td ty tv : TE} {nx : L2.St → Hp → Prop} {rt : VK} {bk ct : L2.St → Hp → Prop} (h : tv σ H fun v H1 => td σ H1 fun x H2 => ty σ H2 fun y H3 => ∃ a H4, x = .ref a ∧ DPut H3 a y v H4 ∧ nx σ H4) : sDPut td ty tv ⟨nx, rt, bk, ct⟩ σ H := h
theorem i_dputI {p : Addr} {i : Int} {v : V} {kvs : List (L2.Key × V)} {R : Hp → Prop} (h : H p = some (.dK kvs)) (hl : kvs.length ≤ 10000) (q : R (upd H p (.dK (putK kvs (.inl i) v)))) : ∃ a H4, V.ref p = .ref a ∧ DPut H a (.int i) v H4 ∧ R H4 :=
  ⟨p, _, rfl, .inl ⟨kvs, .inl i, h, rfl, by rw [sizeLine_eq]; omega, rfl⟩, q⟩
theorem i_dnew (q : ∀ p, H p = none → Q (.ref p) (upd H p (.dK []))) : tDNewK σ H Q := q
def rSortDI : List V → Hp → VK → Prop := fun xs H Q => ∃ (a : Addr) (kvs : List (L2.Key × V)) (ks : List Int), xs = [.ref a] ∧ Rd H a (.dK kvs) ∧ kvs.map (·.1) = ks.map Sum.inl ∧ ks.length < 64 ∧ ∀ (ys : List Int) (p : Addr), ys.Perm ks → ys.Pairwise (· ≤ ·) → H p = none → Q (.ref p) (upd H p (.lst (ys.map V.int)))
theorem c_sortDI {X : Cx} (hc : X.calm = true) : CallR X (.builtin "sorted") rSortDI := call_sortedDI hc
end
/-- the dict's entries are the map m of ints -/
def DI (kvs : List (L2.Key × V)) (m : Int → Option Int) : Prop := (∀ i : Int, valV kvs (.inl i) = (m i).map V.int) ∧ ∃ ks : List Int, kvs.map (·.1) = ks.map Sum.inl ∧ ks.Nodup
theorem DI.nil : DI [] fun _ => none := ⟨fun _ => rfl, [], rfl, List.nodup_nil⟩
theorem putK_keys {kvs : List (L2.Key × V)} {k : L2.Key} {v : V} : (putK kvs k v).map (·.1) = if (valV kvs k).isSome = true then kvs.map (·.1) else kvs.map (·.1) ++ [k] := by
  unfold putK
  rw [valV_any]
  by_cases h : (valV kvs k).isSome = true
  · rw [if_pos h, if_pos h, List.map_map]
    refine List.map_congr_left fun p _ => ?_
    show (if p.1 = k then (p.1, v) else p).1 = p.1
    split <;> rfl
  · rw [if_neg h, if_neg h, List.map_append]
    rfl
theorem DI.put {kvs : List (L2.Key × V)} {m : Int → Option Int} {i v : Int} (d : DI kvs m) : DI (putK kvs (.inl i) (.int v)) (fun j => if j = i then some v else m j) := by
  obtain ⟨h, ks, hk, hn⟩ := d
  refine ⟨fun j => ?_, ?_⟩
  · rw [valV_put]
    show _ = Option.map V.int (if j = i then some v else m j)
    by_cases e : j = i
    · subst e
      rw [if_pos rfl, if_pos rfl]
      rfl
    · rw [if_neg (by intro z; exact e (Sum.inl.inj z)), if_neg e]
      exact h j
  · rw [putK_keys]
    by_cases e : (valV kvs (.inl i)).isSome = true
    · rw [if_pos e]
      exact ⟨ks, hk, hn⟩
    · rw [if_neg e, hk]
      refine ⟨ks ++ [i], by rw [List.map_append]; rfl, ?_⟩
      have hni : ¬ i ∈ ks := fun hi => by
        have e1 : valV kvs (.inl i) = none := by
          cases q : valV kvs (.inl i) with
          | none => rfl
          | some z => rw [q] at e; exact absurd rfl e
        refine valV_not e1 ?_
        rw [hk]
        exact List.mem_map.mpr ⟨i, hi, rfl⟩
      exact nd_snoc hn hni
theorem DI.mem {kvs : List (L2.Key × V)} {m : Int → Option Int} {ks : List Int} (d : DI kvs m) (hk : kvs.map (·.1) = ks.map Sum.inl) (i : Int) : i ∈ ks ↔ (m i).isSome = true := by
  have h := d.1 i
  constructor
  · intro hi
    cases e : m i with
    | some z => rfl
    | none =>
      rw [e] at h
      refine absurd ?_ (valV_not h)
      rw [hk]
      exact List.mem_map.mpr ⟨i, hi, rfl⟩
  · intro hi
    obtain ⟨z, hz⟩ := Option.isSome_iff_exists.mp hi
    rw [hz] at h
    have := valV_in h
    rw [hk] at this
    obtain ⟨j, hj, e⟩ := List.mem_map.mp this
    exact Sum.inl.inj e ▸ hj
/-- distinct ints of 0 .. n - 1 are at most n -/
theorem nodup_len : ∀ (n : Nat) (l : List Int), l.Nodup → (∀ x ∈ l, 0 ≤ x ∧ x < n) → l.length ≤ n
  | 0, l, _, h => by
    cases l with
    | nil => exact Nat.le_refl _
    | cons x r => have := h x List.mem_cons_self; omega
  | n + 1, l, hn, h => by
    by_cases hm : (n : Int) ∈ l
    · have e := List.length_erase_of_mem hm
      have := nodup_len n (l.erase (n : Int)) (hn.erase _) fun x hx => by
        have h1 := (List.Nodup.mem_erase_iff hn).mp hx
        have h2 := h x h1.2
        have : x ≠ (n : Int) := h1.1
        omega
      omega
    · have := nodup_len n l hn fun x hx => by
        have h2 := h x hx
        have : x ≠ (n : Int) := fun e => hm (e ▸ hx)
        omega
      omega
theorem DI.len {kvs : List (L2.Key × V)} {m : Int → Option Int} {n : Nat} (d : DI kvs m) (h : ∀ i, (m i).isSome = true → 0 ≤ i ∧ i < n) : kvs.length ≤ n := by
  obtain ⟨ks, hk, hn⟩ := d.2
  have e : kvs.length = ks.length := by
    have := congrArg List.length hk
    rw [List.length_map, List.length_map] at this
    exact this
  rw [e]
  exact nodup_len n ks hn fun x hx => h x ((d.mem hk x).mp hx)
/-- ints in order, all of them distinct -/
theorem lt_of_le_nodup : ∀ {l : List Int}, l.Pairwise (· ≤ ·) → l.Nodup → l.Pairwise (· < ·)
  | [], _, _ => .nil
  | a :: r, h, n => by
    rw [List.pairwise_cons] at h
    rw [List.nodup_cons] at n
    refine List.pairwise_cons.mpr ⟨fun x hx => ?_, lt_of_le_nodup h.2 n.2⟩
    have h1 := h.1 x hx
    have h2 : x ≠ a := fun e => n.1 (e ▸ hx)
    omega
theorem sorted_ext : ∀ {l1 l2 : List Int}, l1.Pairwise (· < ·) → l2.Pairwise (· < ·) → (∀ x, x ∈ l1 ↔ x ∈ l2) → l1 = l2
  | [], [], _, _, _ => rfl
  | [], b :: r, _, _, h => by have := (h b).mpr List.mem_cons_self; cases this
  | a :: r, [], _, _, h => by have := (h a).mp List.mem_cons_self; cases this
  | a :: r, b :: t, h1, h2, h => by
    rw [List.pairwise_cons] at h1 h2
    have ha := (h a).mp List.mem_cons_self
    have hb := (h b).mpr List.mem_cons_self
    have e : a = b := by
      rcases List.mem_cons.mp ha with e | ha
      · exact e
      · rcases List.mem_cons.mp hb with e | hb
        · exact e.symm
        · have := h2.1 a ha
          have := h1.1 b hb
          omega
    subst e
    rw [sorted_ext h1.2 h2.2 fun x => ⟨fun hx => ?_, fun hx => ?_⟩]
    · rcases List.mem_cons.mp ((h x).mp (List.mem_cons_of_mem _ hx)) with e | q
      · have := h1.1 x hx
        omega
      · exact q
    · rcases List.mem_cons.mp ((h x).mpr (List.mem_cons_of_mem _ hx)) with e | q
      · have := h2.1 x hx
        omega
      · exact q
theorem putK_le {kvs : List (L2.Key × V)} {k : L2.Key} {v : V} : (putK kvs k v).length ≤ kvs.length + 1 := by
  have h := congrArg List.length (putK_keys (kvs := kvs) (k := k) (v := v))
  rw [List.length_map] at h
  rw [h]
  split
  · rw [List.length_map]; omega
  · rw [List.length_append, List.length_map]; simp

/-! ### immutable data: None, bools, ints, texts, tuples of them -/
mutual
inductive TD (K : PySem.W.Frag) (H : Hp) : V → PyData → Prop
  | non : TD K H .non .none
  | bl (b : Bool) : TD K H (.bl b) (.bool b)
  | int (i : Int) : TD K H (.int i) (.int i)
  | str (x : Str) : TD K H (.str x) (.str x)
  | tup {a : Addr} {xs : List V} {ds : List PyData} : SqT K H a xs → TDs K H xs ds → TD K H (.ref a) (.tuple ds)
inductive TDs (K : PySem.W.Frag) (H : Hp) : List V → List PyData → Prop
  | nil : TDs K H [] []
  | cons {v : V} {vs : List V} {d : PyData} {ds : List PyData} : TD K H v d → TDs K H vs ds → TDs K H (v :: vs) (d :: ds)
end
def oD : Option Int → PyData
  | none => .none
  | some z => .int z
def ovO : Option Int → V
  | none => .non
  | some z => .int z
def pD (p : Int × Int) : PyData := .tuple [.int p.1, .int p.2]
section
variable {K : PySem.W.Frag} {H H' : Hp}
theorem TD.tps (t : Tps H H') {v : V} {d : PyData} (h : TD K H v d) : TD K H' v d :=
  TD.rec (motive_1 := fun v d _ => TD K H' v d) (motive_2 := fun vs ds _ => TDs K H' vs ds) .non (fun b => .bl b) (fun i => .int i) (fun x => .str x) (fun h _ q => .tup (t.sq h) q) .nil (fun _ _ h1 h2 => .cons h1 h2) h
theorem TDs.tps (t : Tps H H') {vs : List V} {ds : List PyData} (h : TDs K H vs ds) : TDs K H' vs ds :=
  TDs.rec (motive_1 := fun v d _ => TD K H' v d) (motive_2 := fun vs ds _ => TDs K H' vs ds) .non (fun b => .bl b) (fun i => .int i) (fun x => .str x) (fun h _ q => .tup (t.sq h) q) .nil (fun _ _ h1 h2 => .cons h1 h2) h
theorem TD.dp {v : V} {d : PyData} (h : TD K H v d) : Dp K H v d :=
  TD.rec (motive_1 := fun v d _ => Dp K H v d) (motive_2 := fun vs ds _ => DpAll K H vs ds) .non (fun b => .bl b) (fun i => .int i) (fun x => .str x) (fun h _ q => .tup h q) .nil (fun _ _ h1 h2 => .cons h1 h2) h
theorem TDs.dp {vs : List V} {ds : List PyData} (h : TDs K H vs ds) : DpAll K H vs ds :=
  TDs.rec (motive_1 := fun v d _ => Dp K H v d) (motive_2 := fun vs ds _ => DpAll K H vs ds) .non (fun b => .bl b) (fun i => .int i) (fun x => .str x) (fun h _ q => .tup h q) .nil (fun _ _ h1 h2 => .cons h1 h2) h
theorem TD.same (s : Same H H') {v : V} {d : PyData} (h : TD K H v d) : TD K H' v d := h.tps (Tps.of s)
theorem TDs.same (s : Same H H') {vs : List V} {ds : List PyData} (h : TDs K H vs ds) : TDs K H' vs ds := h.tps (Tps.of s)
theorem TDs.len : ∀ {vs : List V} {ds : List PyData}, TDs K H vs ds → vs.length = ds.length
  | [], _, .nil => rfl
  | v :: vs, _, .cons h t => by rw [List.length_cons, List.length_cons, TDs.len t]
theorem TDs.get : ∀ {vs : List V} {ds : List PyData} {i : Nat} {d : PyData}, TDs K H vs ds → ds[i]? = some d → ∃ v, vs[i]? = some v ∧ TD K H v d
  | _, _, _, _, .nil, e => by simp at e
  | _, _, 0, _, .cons (v := v) h t, e => by
    cases e
    exact ⟨v, rfl, h⟩
  | _, _, i + 1, _, .cons h t, e => by
    obtain ⟨v, e2, q⟩ := TDs.get (i := i) t (by simpa using e)
    exact ⟨v, by simpa using e2, q⟩
theorem TDs.at {vs : List V} {ds : List PyData} {i : Nat} {v : V} (h : TDs K H vs ds) (e : vs[i]? = some v) : ∃ d, ds[i]? = some d ∧ TD K H v d ∧ ds.take (i + 1) = ds.take i ++ [d] ∧ i < ds.length := by
  have hi := (List.getElem?_eq_some_iff.mp e).1
  have hl := h.len
  have e2 : ds[i]? = some (ds[i]'(by omega)) := List.getElem?_eq_getElem (by omega)
  obtain ⟨v', e3, q⟩ := h.get e2
  rw [e] at e3
  cases e3
  exact ⟨_, e2, q, by rw [List.take_add_one, e2]; rfl, by omega⟩
theorem TDs.mem {vs : List V} {ds : List PyData} {v : V} (h : TDs K H vs ds) (hv : v ∈ vs) : ∃ d, d ∈ ds ∧ TD K H v d := by
  obtain ⟨i, hi⟩ := List.getElem?_of_mem hv
  obtain ⟨d, e, q, _⟩ := h.at hi
  exact ⟨d, List.mem_of_getElem? e, q⟩
theorem TDs.of : ∀ {vs : List V} {ds : List PyData}, vs.length = ds.length → (∀ (i : Nat) v d, vs[i]? = some v → ds[i]? = some d → TD K H v d) → TDs K H vs ds
  | [], [], _, _ => .nil
  | v :: vs, d :: ds, hl, h => .cons (h 0 v d rfl rfl) (TDs.of (by simpa using hl) fun i y e h1 h2 => h (i + 1) y e (by simpa using h1) (by simpa using h2))
theorem TDs.app : ∀ {vs us : List V} {ds es : List PyData}, TDs K H vs ds → TDs K H us es → TDs K H (vs ++ us) (ds ++ es)
  | _, _, _, _, .nil, h => h
  | _, _, _, _, .cons h t, q => .cons h (TDs.app t q)
theorem TDs.snoc {vs : List V} {ds : List PyData} {v : V} {d : PyData} (h : TDs K H vs ds) (q : TD K H v d) : TDs K H (vs ++ [v]) (ds ++ [d]) := h.app (.cons q .nil)
theorem TDs.map {α : Type} {f : α → V} {g : α → PyData} : ∀ {l : List α}, (∀ x ∈ l, TD K H (f x) (g x)) → TDs K H (l.map f) (l.map g)
  | [], _ => .nil
  | x :: r, h => .cons (h x List.mem_cons_self) (TDs.map fun y hy => h y (List.mem_cons_of_mem _ hy))
theorem TDs.ints (ns : List Int) : TDs K H (ns.map V.int) (ns.map PyData.int) := TDs.map fun x _ => .int x
theorem TD.ovO (o : Option Int) : TD K H (ovO o) (oD o) := by cases o <;> constructor
theorem TDs.ovs (os : List (Option Int)) : TDs K H (os.map Law.ovO) (os.map oD) := TDs.map fun x _ => TD.ovO x
theorem TD.tup_inv {v : V} {ds : List PyData} (h : TD K H v (.tuple ds)) : ∃ a xs, v = .ref a ∧ SqT K H a xs ∧ TDs K H xs ds := by
  cases h with
  | tup a b => exact ⟨_, _, rfl, a, b⟩
theorem TD.int_inv {v : V} {i : Int} (h : TD K H v (.int i)) : v = .int i := by cases h; rfl
theorem TD.non_inv {v : V} (h : TD K H v .none) : v = .non := by cases h; rfl
theorem TD.str_inv {v : V} {i : Str} (h : TD K H v (.str i)) : v = .str i := by cases h; rfl
theorem TD.bl_inv {v : V} {i : Bool} (h : TD K H v (.bool i)) : v = .bl i := by cases h; rfl
theorem TD.ov_inv {v : V} {o : Option Int} (h : TD K H v (oD o)) : v = Law.ovO o := by
  cases o with
  | none => exact h.non_inv
  | some z => exact h.int_inv
theorem TDs.ints_inv : ∀ {ns : List Int} {vs : List V}, TDs K H vs (ns.map PyData.int) → vs = ns.map V.int
  | [], _, h => by cases h; rfl
  | n :: ns, _, h => by
    cases h with
    | cons a b => rw [a.int_inv, TDs.ints_inv b]; rfl
theorem TDs.ovs_inv : ∀ {os : List (Option Int)} {vs : List V}, TDs K H vs (os.map oD) → vs = os.map Law.ovO
  | [], _, h => by cases h; rfl
  | n :: ns, _, h => by
    cases h with
    | cons a b => rw [a.ov_inv, TDs.ovs_inv b]; rfl
theorem TD.pair_inv {v : V} {p : Int × Int} (h : TD K H v (pD p)) : ∃ a, v = .ref a ∧ SqT K H a [.int p.1, .int p.2] := by
  obtain ⟨a, xs, e, s, q⟩ := h.tup_inv
  rw [TDs.ints_inv (ns := [p.1, p.2]) q] at s
  exact ⟨a, e, s⟩
theorem TD.of {a : Addr} {xs : List V} {ds : List PyData} (h : H a = some (.tup xs)) (q : TDs K H xs ds) : TD K H (.ref a) (.tuple ds) := .tup (SqT.of h) q
/-- a new tuple of data -/
theorem TD.new {a : Addr} {xs : List V} {ds : List PyData} (h : H a = none) (q : TDs K H xs ds) : TD K (upd H a (.tup xs)) (.ref a) (.tuple ds) := .of upd_same (q.same (same_new h))
/-- a list of data -/
def LD (K : PySem.W.Frag) (H : Hp) (a : Addr) (ds : List PyData) : Prop := ∃ vs, H a = some (.lst vs) ∧ TDs K H vs ds
theorem LD.same (s : Same H H') {a : Addr} {ds : List PyData} (h : LD K H a ds) : LD K H' a ds := by
  obtain ⟨vs, e, q⟩ := h
  exact ⟨vs, s _ _ e, q.same s⟩
theorem LD.kp {p a : Addr} {xs : List V} {ds : List PyData} (h : LD K H a ds) (k : Kp p H H') (hp : H p = some (.lst xs)) (n : a ≠ p) : LD K H' a ds := by
  obtain ⟨vs, e, q⟩ := h
  exact ⟨vs, k _ _ e n, q.tps (k.tps hp)⟩
theorem LD.put {a : Addr} {xs vs : List V} {ds : List PyData} (h : H a = some (.lst xs)) (q : TDs K H vs ds) : LD K (upd H a (.lst vs)) a ds := ⟨vs, upd_same, q.tps (tps_put h)⟩
theorem LD.new {a : Addr} {vs : List V} {ds : List PyData} (h : H a = none) (q : TDs K H vs ds) : LD K (upd H a (.lst vs)) a ds := ⟨vs, upd_same, q.same (same_new h)⟩
theorem LD.snoc {a : Addr} {vs : List V} {v : V} {d : PyData} {ds : List PyData} (h : H a = some (.lst vs)) (q : TDs K H vs ds) (x : TD K H v d) : LD K (upd H a (.lst (vs ++ [v]))) a (ds ++ [d]) := .put h (q.snoc x)
variable {σ : L2.St} {Q : VK}
theorem i_tyLD {p : Addr} {ds : List PyData} {R : Prop} (s : LD K H p ds) (q : R) : tyV K "list" (.ref p) H ∧ R := by
  obtain ⟨vs, e, _⟩ := s
  exact i_tyL (SqL.of e) q
theorem i_lenLD {p : Addr} {ds : List PyData} (s : LD K H p ds) (q : Q (.int ds.length) H) : qLen K [.ref p] H Q := by
  obtain ⟨vs, e, t⟩ := s
  rw [← t.len] at q
  exact i_lenL (SqL.of e) q
theorem i_ixD {p : V} {ds : List PyData} {i : Int} {d : PyData} (h : TD K H p (.tuple ds)) (h0 : 0 ≤ i) (e : ds[i.toNat]? = some d) (q : ∀ y, TD K H y d → Q y H) : rIxT K p (.int i) H Q := by
  obtain ⟨a, xs, rfl, s, t⟩ := h.tup_inv
  obtain ⟨y, ey, hy⟩ := t.get e
  refine ⟨a, xs, i, y, rfl, rfl, s, ?_, q y hy⟩
  have := atI_nat (xs := xs) (j := i.toNat) (v := y) ey
  rw [Int.toNat_of_nonneg h0] at this
  exact this
theorem i_ixDI {p : V} {ds : List PyData} {i j : Int} (h : TD K H p (.tuple ds)) (h0 : 0 ≤ i) (e : ds[i.toNat]? = some (.int j)) (q : Q (.int j) H) : rIxT K p (.int i) H Q :=
  i_ixD h h0 e fun y hy => by rw [hy.int_inv]; exact q
theorem i_ixDO {p : V} {ds : List PyData} {i : Int} {o : Option Int} (h : TD K H p (.tuple ds)) (h0 : 0 ≤ i) (e : ds[i.toNat]? = some (oD o)) (q : Q (ovO o) H) : rIxT K p (.int i) H Q :=
  i_ixD h h0 e fun y hy => by rw [hy.ov_inv]; exact q
theorem i_ixDS {p : V} {ds : List PyData} {i : Int} {j : Str} (h : TD K H p (.tuple ds)) (h0 : 0 ≤ i) (e : ds[i.toNat]? = some (.str j)) (q : Q (.str j) H) : rIxT K p (.int i) H Q :=
  i_ixD h h0 e fun y hy => by rw [hy.str_inv]; exact q
theorem i_lenDt {p : V} {ds : List PyData} (h : TD K H p (.tuple ds)) (q : Q (.int ds.length) H) : qLen K [p] H Q := by
  obtain ⟨a, xs, rfl, s, t⟩ := h.tup_inv
  rw [← t.len] at q
  exact i_lenT s q
theorem i_gTupD {n : Nat} {t : TGs} {v : V} {ds : List PyData} {R : L2.St → Hp → Prop} (h : TD K H v (.tuple ds)) (e : ds.length = n) (q : ∀ xs, TDs K H xs ds → t xs σ H R) : gTup K n t v σ H R := by
  obtain ⟨a, xs, rfl, s, u⟩ := h.tup_inv
  exact i_gTup s (by rw [u.len, e]) (q xs u)
theorem i_gPair {n : Nat} {t : TGs} {v : V} {p : Int × Int} {R : L2.St → Hp → Prop} (h : TD K H v (pD p)) (e : 2 = n) (q : t [.int p.1, .int p.2] σ H R) : gTup K n t v σ H R := by
  obtain ⟨a, rfl, s⟩ := h.pair_inv
  exact i_gTup s e q
theorem i_isTD {v : V} {ds : List PyData} {R : Addr → Prop} (h : TD K H v (.tuple ds)) (q : ∀ a xs, v = .ref a → SqT K H a xs → TDs K H xs ds → R a) : ∃ a', v = .ref a' ∧ (∃ xs, SqT K H a' xs) ∧ R a' := by
  obtain ⟨a, xs, e, s, t⟩ := h.tup_inv
  exact ⟨a, e, ⟨xs, s⟩, q a xs e s t⟩
theorem i_lstTD {v : V} {ds : List PyData} (h : TD K H v (.tuple ds)) (q : ∀ xs l, TDs K H xs ds → H l = none → Q (.ref l) (upd H l (.lst xs))) : rLstOf K [v] H Q := by
  obtain ⟨a, xs, rfl, s, t⟩ := h.tup_inv
  exact i_lstT s fun l hl => q xs l t hl
theorem i_tupTD {v : V} {ds : List PyData} (h : TD K H v (.tuple ds)) (q : Q v H) : rTupOf K [v] H Q := by
  obtain ⟨a, xs, rfl, s, t⟩ := h.tup_inv
  exact i_tupT s q
theorem TDs.pair_at {vs : List V} {ps : List (Int × Int)} {i : Nat} {v : V} (h : TDs K H vs (ps.map pD)) (e : vs[i]? = some v) : ∃ p, ps[i]? = some p ∧ TD K H v (pD p) ∧ ps.take (i + 1) = ps.take i ++ [p] ∧ i < ps.length := by
  obtain ⟨d, e1, t, _, hl⟩ := h.at e
  rw [List.getElem?_map] at e1
  cases e2 : ps[i]? with
  | none => rw [e2] at e1; cases e1
  | some p =>
    rw [e2] at e1
    cases e1
    exact ⟨p, rfl, t, by rw [List.take_add_one, e2]; rfl, (List.getElem?_eq_some_iff.mp e2).1⟩
theorem i_eqNI {j : Int} (q : Q (.bl false) H) : rEq .non (.int j) H Q := ⟨rfl, by
  have e : decide (V.non = V.int j) = false := by simp
  rw [e]; exact q⟩
/-! shapes -/
theorem Shp.str {x : Str} (h : PyData.canLay0 (.str x) = true) : Shp 0 (.str x) := ⟨h, by simp [PyData.depth]⟩
theorem Shp.oD (o : Option Int) : Shp 0 (oD o) := by
  cases o with
  | none => exact Shp.non
  | some z => exact Shp.int z
theorem Shp.ovs (os : List (Option Int)) : Shp 1 (.tuple (os.map Law.oD)) := Shp.tup fun d hd => by
  obtain ⟨x, _, rfl⟩ := List.mem_map.mp hd
  exact Shp.oD x
theorem Shp.pD (p : Int × Int) : Shp 1 (pD p) := Shp.tup fun d hd => by
  rcases List.mem_cons.mp hd with rfl | hd
  · exact Shp.int _
  · rcases List.mem_cons.mp hd with rfl | hd
    · exact Shp.int _
    · cases hd
theorem Shp.prs (ps : List (Int × Int)) : Shp 2 (.tuple (ps.map Law.pD)) := Shp.tup fun d hd => by
  obtain ⟨x, _, rfl⟩ := List.mem_map.mp hd
  exact Shp.pD x
/-! dicts with text keys -/
theorem i_disp {trs : List (TE × TE)} (h : ∀ p, H p = none → tPairs trs σ (upd H p (.dK [])) fun ps H2 => H2 p = some (.dK []) ∧ ∃ kvs : List (L2.Key × V), ps = kvs.map (fun kv => (kV kv.1, kv.2)) ∧ kvs.length ≤ 15 ∧ Q (.ref p) (upd H2 p (.dK (mergeK [] kvs)))) : tDisp trs σ H Q := h
theorem i_pNil {R : List (V × V) → Hp → Prop} (h : R [] H) : tPairs [] σ H R := h
theorem i_pCons {tk tv : TE} {r : List (TE × TE)} {R : List (V × V) → Hp → Prop} (h : tk σ H fun x H1 => tv σ H1 fun y H2 => tPairs r σ H2 fun ps H3 => R ((x, y) :: ps) H3) : tPairs ((tk, tv) :: r) σ H R := h
theorem i_dgetS {p : Addr} {i : Str} {v : V} {kvs : List (L2.Key × V)} {R : V → Prop} (h : Rd H p (.dK kvs)) (e : valV kvs (.inr i) = some v) (q : R v) : ∃ a v', V.ref p = .ref a ∧ DGet H a (.str i) (some v') ∧ R v' :=
  ⟨p, v, rfl, .inl ⟨kvs, .inr i, h, rfl, e.symm⟩, q⟩
end
/- data at the heap of the goal -/
local macro_rules | `(tactic| wtm_at "jtd") => `(tactic| first | assumption | ((with_reducible refine' TD.same (same_new ?hn) ?hh); (case hn => assumption); (case hh => wtm_at "jtd")))
local macro_rules | `(tactic| wtm_at "jw1") => `(tactic| first
  | ((with_reducible refine' i_ixDI ?h ?h0 ?e ?_); (case h => wtm_at "jtd"); (case h0 => wtm_at "jside"); (case e => wtm_at "jat"))
  | ((with_reducible refine' i_ixDO ?h ?h0 ?e ?_); (case h => wtm_at "jtd"); (case h0 => wtm_at "jside"); (case e => wtm_at "jat"))
  | ((with_reducible refine' i_ixDS ?h ?h0 ?e ?_); (case h => wtm_at "jtd"); (case h0 => wtm_at "jside"); (case e => wtm_at "jat"))
  | ((with_reducible refine' i_ix2 (i_ixDI ?h ?h0 ?e ?_)); (case h => wtm_at "jtd"); (case h0 => wtm_at "jside"); (case e => wtm_at "jat"))
  | ((with_reducible refine' i_ix2 (i_ixDO ?h ?h0 ?e ?_)); (case h => wtm_at "jtd"); (case h0 => wtm_at "jside"); (case e => wtm_at "jat"))
  | ((with_reducible refine' i_ixD ?h ?h0 ?e ?_); (case h => wtm_at "jtd"); (case h0 => wtm_at "jside"); (case e => wtm_at "jat"); intro _ _)
  | ((with_reducible refine' i_ix2 (i_ixD ?h ?h0 ?e ?_)); (case h => wtm_at "jtd"); (case h0 => wtm_at "jside"); (case e => wtm_at "jat"); intro _ _)
  | ((with_reducible refine' i_lenDt ?h ?_); (case h => wtm_at "jtd"))
  | with_reducible refine' i_eqNI ?_
  | ((with_reducible refine' i_tyLD ?h ?_); (case h => assumption))
  | ((with_reducible refine' i_lenLD ?h ?_); (case h => assumption))
  | ((with_reducible refine' i_gPair ?h ?e ?_); (case h => wtm_at "jtd"); (case e => rfl))
  | with_reducible refine' i_pNil ?_ | with_reducible refine' i_pCons ?_)

/-! ### draws, said shortly -/
section
variable {K : PySem.W.Frag} {p a B : Addr} {H0 H : Hp} {Q : VK} {E : XK}
theorem drawL {m : Int} (w : Drew p a H0 H) (h0 : 0 < m) (h1 : m < 18446744073709551616) (q : ∀ z H', 0 ≤ z → z < m → Drew p a H H' → Drew p a H0 H' → Q (.int z) H') : sp__law_draw K [.ref p, .int m] H Q E :=
  ⟨p, a, m, rfl, w.at_, h0, h1, fun z H' z0 z1 e => q z H' z0 z1 e (w.trans e)⟩
end
theorem LD.drew {K : PySem.W.Frag} {p a f : Addr} {H H' : Hp} {ds : List PyData} (h : LD K H f ds) (d : DrawAt H p a) (e : Drew p a H H') (n : f ≠ p) : LD K H' f ds := by
  obtain ⟨xs, hp⟩ := d.some
  exact h.kp e.kp hp n
theorem LPr.drew {p a f : Addr} {H H' : Hp} {fo : List (Int × Int)} (h : LPr H f fo) (d : DrawAt H p a) (e : Drew p a H H') (n : f ≠ p) : LPr H' f fo := by
  obtain ⟨xs, hp⟩ := d.some
  exact h.kp e.kp hp n
theorem i_andTJ {t u : TT} {σ : L2.St} {H : Hp} {Q : Bool → Hp → Prop} (J : Bool → Hp → Prop) (h1 : ∀ b H', J b H' → Q b H') (h2 : ∀ R : Bool → Hp → Prop, (∀ b H', J b H' → R b H') → tAnd t u σ H R) : tAnd t u σ H Q := h2 _ h1
theorem i_andJ {ta tb : TE} {σ : L2.St} {H : Hp} {Q : VK} (J : Bool → Hp → Prop) (h1 : ∀ b H', J b H' → Q (.bl b) H') (h2 : ∀ R : VK, (∀ b H', J b H' → R (.bl b) H') → tAndV ta tb σ H R) : tAndV ta tb σ H Q := h2 _ h1
/-- what is wanted of each place -/
def AllI {α : Type} (P : Nat → α → Prop) (l : List α) : Prop := ∀ i x, l[i]? = some x → P i x
theorem AllI.nil {α : Type} {P : Nat → α → Prop} : AllI P ([] : List α) := fun i x h => by simp at h
theorem AllI.snoc {α : Type} {P : Nat → α → Prop} {l : List α} {x : α} (h : AllI P l) (hx : P l.length x) : AllI P (l ++ [x]) := fun i y hy => by
  by_cases hi : i < l.length
  · rw [List.getElem?_append_left hi] at hy
    exact h i y hy
  · rw [List.getElem?_append_right (by omega)] at hy
    cases e : i - l.length with
    | zero =>
      rw [e] at hy
      cases hy
      obtain rfl : i = l.length := by omega
      exact hx
    | succ n =>
      rw [e] at hy
      cases hy
/-- an if-expression that draws, told once behind it -/
theorem i_ifJ {σ : L2.St} {H : Hp} {Q : VK} {c : TT} {ta tb : TE} (J : V → Hp → Prop) (h1 : ∀ v H', J v H' → Q v H') (h2 : ∀ R : VK, (∀ v H', J v H' → R v H') → tIf c ta tb σ H R) : tIf c ta tb σ H Q := h2 _ h1
local macro_rules | `(tactic| wtm_at "jif") => `(tactic| repeat ((fail_if_success (with_reducible refine' i_if ?_)); wtm_at "jw1"))

/-! ### isinstance of data -/
theorem sqT_ty {K : PySem.W.Frag} {H : Hp} {a : Addr} {xs : List V} (h : SqT K H a xs) : TyX K H (.ref a) (.type "tuple") := by
  rcases h with (h | ⟨o, h⟩) | ⟨o, vs, c, e, h1, _⟩
  · exact .base (.tup h)
  · exact .fTuple h
  · exact .kTuple e h1
theorem TD.ty {K : PySem.W.Frag} {H : Hp} {v : V} {ds : List PyData} (h : TD K H v (.tuple ds)) : TyX K H v (.type "tuple") := by
  obtain ⟨a, xs, rfl, s, _⟩ := h.tup_inv
  exact sqT_ty s
theorem i_isiT {K : PySem.W.Frag} {H : Hp} {Q : VK} {v : V} {ds : List PyData} {n : String} {b : Bool} (h : TD K H v (.tuple ds)) (e : PySem.W.kitOne K (.type "tuple") (.type n) = some b) (q : Q (.bl b) H) : rIsi K [v, .ty n] H Q := i_isi h.ty e q
def isTup : PyData → Bool
  | .tuple _ => true
  | _ => false
theorem i_isiTup {K : PySem.W.Frag} {H : Hp} {Q : VK} {v : V} {d : PyData} (h : TD K H v d) (q : Q (.bl (isTup d)) H) : rIsi K [v, .ty "tuple"] H Q := by
  cases d with
  | none =>
    obtain rfl := h.non_inv
    exact i_isi (.base .non) rfl q
  | bool b =>
    obtain rfl := h.bl_inv
    exact i_isi (.base (.bl b)) rfl q
  | int i =>
    obtain rfl := h.int_inv
    exact i_isi (.base (.int i)) rfl q
  | str s =>
    obtain rfl := h.str_inv
    exact i_isi (.base (.str s)) rfl q
  | tuple ds => exact i_isiT h rfl q
  | list ds => cases h
  | dict kvs => cases h

/-! ### roads judged (for k27, k28) -/
def isID : PyData → Bool
  | .int _ => true
  | _ => false
def sp_is_int (K : PySem.W.Frag) : Sp := fun vs H Q _ => ∃ (v : V) (d : PyData), vs = [v] ∧ TD K H v d ∧ Q (.bl (isID d)) H
theorem ok_is_int {P : Program} {w : World} {K : PySem.W.Frag} {mg : Str → Option Value} {base : Heap} {f : Addr} {fd : FuncData} (F : Df K mg "is_int" s_is_int f fd ["thing"]) (T : Txt mg) : FnOk P w K mg base CX0 1 f fd ["thing"] (sp_is_int K) := by
  refine F.ok sc_is_int (fun vs H Q E h => ?_) (fun cdv A outer s H vs Q E hr h => ?_)
  · obtain ⟨v, d, rfl, _⟩ := h
    rfl
  · obtain ⟨v, d, rfl, hv, q⟩ := h
    refine ⟨_, (pss_one (ps_ret (pe_and (pe_callB (id := "isinstance") (r := rIsi K) call_isi (by rfl) T.b_isinstance (by decide +kernel) (pa_cons (pv 0) (pa_cons (pe_bltn (v := .ty "int") (u := Value.type "int") (by rfl) T.b_int (by decide +kernel) rfl) pa_nil))) (pe_one (pe_not (pe_callB (id := "isinstance") (r := rIsi K) call_isi (by rfl) T.b_isinstance (by decide +kernel) (pa_cons (pv 0) (pa_cons (pe_bltn (v := .ty "bool") (u := Value.type "bool") (by rfl) T.b_bool (by decide +kernel) rfl) pa_nil)))))))), ?_⟩
    try dsimp only [cxOf, Cx.nox, Cx.wish]
    refine st_of (σ' := [some _]) rfl ?_
    cases d with
    | none =>
      obtain rfl := hv.non_inv
      wtm_at "jw"
      refine i_isi (.base .non) rfl ?_
      wtm_at "jw"
      exact q
    | bool b =>
      obtain rfl := hv.bl_inv
      wtm_at "jw"
      refine i_isi (b := true) (.base (.bl b)) (kit_ty (by decide +kernel)) ?_
      wtm_at "jw"
      refine i_isi (b := true) (.base (.bl b)) rfl ?_
      wtm_at "jw"
      exact q
    | int i =>
      obtain rfl := hv.int_inv
      wtm_at "jw"
      refine i_isi (.base (.int i)) rfl ?_
      wtm_at "jw"
      refine i_isi (.base (.int i)) rfl ?_
      wtm_at "jw"
      exact q
    | str s =>
      obtain rfl := hv.str_inv
      wtm_at "jw"
      refine i_isi (.base (.str s)) rfl ?_
      wtm_at "jw"
      exact q
    | tuple ds =>
      wtm_at "jw"
      refine i_isiT hv rfl ?_
      wtm_at "jw"
      exact q
    | list ds => cases hv
    | dict kvs => cases hv
def rowB (n : Int) : PyData → Bool
  | .tuple ds => decide ((ds.length : Int) = n)
  | _ => false
def sp_is_row (K : PySem.W.Frag) : Sp := fun vs H Q _ => ∃ (v : V) (d : PyData) (n : Int), vs = [v, .int n] ∧ TD K H v d ∧ Q (.bl (rowB n d)) H
theorem ok_is_row {P : Program} {w : World} {K : PySem.W.Frag} {mg : Str → Option Value} {base : Heap} {f : Addr} {fd : FuncData} (F : Df K mg "is_row" s_is_row f fd ["thing", "many"]) (T : Txt mg) : FnOk P w K mg base CX0 1 f fd ["thing", "many"] (sp_is_row K) := by
  refine F.ok sc_is_row (fun vs H Q E h => ?_) (fun cdv A outer s H vs Q E hr h => ?_)
  · obtain ⟨v, d, n, rfl, _⟩ := h
    rfl
  · obtain ⟨v, d, n, rfl, hv, q⟩ := h
    refine ⟨_, (pss_one (ps_ret (pe_and (pe_callB (id := "isinstance") (r := rIsi K) call_isi (by rfl) T.b_isinstance (by decide +kernel) (pa_cons (pv 0) (pa_cons (pe_bltn (v := .ty "tuple") (u := Value.type "tuple") (by rfl) T.b_tuple (by decide +kernel) rfl) pa_nil))) (pe_one (pe_cmpR op_eq (pe_callB (id := "len") (r := qLen K) c_len (by rfl) T.b_len (by decide +kernel) (pa_cons (pv 0) pa_nil)) (pv 1) (nomark _)))))), ?_⟩
    try dsimp only [cxOf, Cx.nox, Cx.wish]
    refine st_of (σ' := [some _, some _]) rfl ?_
    wtm_at "jw"
    refine i_isiTup hv ?_
    wtm_at "jw"
    cases d with
    | tuple ds =>
      unfold isTup
      wtm_at "jw"
      exact q
    | _ =>
      unfold isTup
      wtm_at "jw"
      exact q
def isIs : PyData → Bool
  | .tuple ds => ds.all isID
  | _ => false
theorem all_take {α : Type} {f : α → Bool} {l : List α} {i : Nat} {x : α} (h : (l.take i).all f = true) (e : l.take (i + 1) = l.take i ++ [x]) (hx : f x = true) : (l.take (i + 1)).all f = true := by
  rw [e, List.all_append, h]; simp [hx]
theorem all_no {α : Type} {f : α → Bool} {l : List α} {i : Nat} {x : α} (e : l[i]? = some x) (hx : f x = false) : l.all f = false := by
  rw [List.all_eq_false]
  exact ⟨x, List.mem_of_getElem? e, by rw [hx]; exact Bool.false_ne_true⟩
def sp_is_ints (K : PySem.W.Frag) : Sp := fun vs H Q _ => ∃ (v : V) (d : PyData), vs = [v] ∧ TD K H v d ∧ Q (.bl (isIs d)) H
theorem ok_is_ints {P : Program} {w : World} {K : PySem.W.Frag} {mg : Str → Option Value} {base : Heap} {f : Addr} {fd : FuncData} (F : Df K mg "is_ints" s_is_ints f fd ["thing"]) (T : Txt mg)
    (c_is_int : Cl P w K mg base 1 "is_int" (sp_is_int K)) : FnOk P w K mg base CX0 2 f fd ["thing"] (sp_is_ints K) := by
  refine F.ok sc_is_ints (fun vs H Q E h => ?_) (fun cdv A outer s H vs Q E hr h => ?_)
  · obtain ⟨v, d, rfl, _⟩ := h
    rfl
  · obtain ⟨v, d, rfl, hv, q⟩ := h
    refine ⟨_, (pss_cons (ps_if (pt_not (pt_val (pe_callB (id := "isinstance") (r := rIsi K) call_isi (by rfl) T.b_isinstance (by decide +kernel) (pa_cons (pv 0) (pa_cons (pe_bltn (v := .ty "tuple") (u := Value.type "tuple") (by rfl) T.b_tuple (by decide +kernel) rfl) pa_nil))))) (pss_one (ps_ret pe_bl)) pss_nil)
      (pss_cons (ps_for PassesOwn.never rfl (pi_tup (pv 0)) (pg_name (i := 1) sc_is_ints.nd rfl (Or.inl rfl)) (pss_one (ps_if (pt_not (pt_val (pe_cl c_is_int hr (by decide) rfl (pa_cons (pv 1) pa_nil)))) (pss_one (ps_ret pe_bl)) pss_nil)))
      (pss_one (ps_ret pe_bl)))), ?_⟩
    try dsimp only [cxOf, Cx.nox, Cx.wish]
    refine st_of (σ' := [some _, none]) rfl ?_
    wtm_at "jw"
    refine i_isiTup hv ?_
    cases d with
    | tuple ds =>
      obtain ⟨a, xs, rfl, hS, hT⟩ := hv.tup_inv
      unfold isTup
      wtm_at "jw"
      refine f_tup (xs := xs) (fun i σ H' => H' = H ∧ (ds.take i).all isID = true ∧ ∃ v1, σ = [some (.ref a), v1]) ⟨rfl, rfl, none, rfl⟩ (fun i σ H' _ h => by rw [h.1]; exact hS) (fun i x σ H' hi h => ?_) (fun σ H' h => ?_)
      · obtain ⟨rfl, hal, v1, rfl⟩ := h
        obtain ⟨d, hd, hx, e, _⟩ := hT.at hi
        wtm_at "jw"
        refine ⟨x, d, rfl, hx, ?_⟩
        wtm_at "jw"
        cases hid : isID d with
        | true =>
          wtm_at "jw"
          exact ⟨rfl, all_take hal e hid, _, rfl⟩
        | false =>
          wtm_at "jw"
          have : isIs (.tuple ds) = false := all_no hd hid
          rw [this] at q
          exact q
      · obtain ⟨rfl, hal, v1, rfl⟩ := h
        rw [hT.len, List.take_length] at hal
        wtm_at "jw"
        rw [show isIs (.tuple ds) = true from hal] at q
        exact q
    | _ =>
      unfold isTup
      wtm_at "jw"
      exact q
def okI (lo hi : Int) : PyData → Bool
  | .int z => decide (lo ≤ z) && decide (z ≤ hi)
  | _ => false
def okD (lo hi : Int) : PyData → Bool
  | .tuple ds => ds.all (okI lo hi)
  | _ => false
theorem ok_ints {lo hi : Int} {d : PyData} (h : okI lo hi d = true) : isID d = true := by
  cases d <;> first | rfl | cases h
theorem okD_isIs {lo hi : Int} {d : PyData} (h : isIs d = false) : okD lo hi d = false := by
  cases d with
  | tuple ds =>
    unfold isIs at h
    simp only at h
    rw [List.all_eq_false] at h
    obtain ⟨x, hx, hn⟩ := h
    show ds.all (okI lo hi) = false
    rw [List.all_eq_false]
    exact ⟨x, hx, fun z => hn (ok_ints z)⟩
  | _ => rfl
def sp_is_ints_between (K : PySem.W.Frag) : Sp := fun vs H Q _ => ∃ (v : V) (d : PyData) (lo hi : Int), vs = [v, .int lo, .int hi] ∧ TD K H v d ∧ Q (.bl (okD lo hi d)) H
theorem ok_is_ints_between {P : Program} {w : World} {K : PySem.W.Frag} {mg : Str → Option Value} {base : Heap} {f : Addr} {fd : FuncData} (F : Df K mg "is_ints_between" s_is_ints_between f fd ["thing", "low", "high"]) (T : Txt mg)
    (c_is_ints : Cl P w K mg base 2 "is_ints" (sp_is_ints K)) : FnOk P w K mg base CX0 3 f fd ["thing", "low", "high"] (sp_is_ints_between K) := by
  refine F.ok sc_is_ints_between (fun vs H Q E h => ?_) (fun cdv A outer s H vs Q E hr h => ?_)
  · obtain ⟨v, d, lo, hi, rfl, _⟩ := h
    rfl
  · obtain ⟨v, d, lo, hi, rfl, hv, q⟩ := h
    refine ⟨_, (pss_cons (ps_if (pt_not (pt_val (pe_cl c_is_ints hr (by decide) rfl (pa_cons (pv 0) pa_nil)))) (pss_one (ps_ret pe_bl)) pss_nil)
      (pss_cons (ps_for PassesOwn.never rfl (pi_tup (pv 0)) (pg_name (i := 3) sc_is_ints_between.nd rfl (Or.inl rfl)) (pss_one (ps_if (pt_not (pt_chain op_le op_le (pv 1) (pv 3) (pv 2))) (pss_one (ps_ret pe_bl)) pss_nil)))
      (pss_one (ps_ret pe_bl)))), ?_⟩
    try dsimp only [cxOf, Cx.nox, Cx.wish]
    refine st_of (σ' := [some _, some _, some _, none]) rfl ?_
    wtm_at "jw"
    refine ⟨v, d, rfl, hv, ?_⟩
    wtm_at "jw"
    cases hid : isIs d with
    | false =>
      wtm_at "jw"
      rw [okD_isIs hid] at q
      exact q
    | true =>
      wtm_at "jw"
      cases d with
      | tuple ds =>
        obtain ⟨a, xs, rfl, hS, hT⟩ := hv.tup_inv
        have hid' : ds.all isID = true := hid
        rw [List.all_eq_true] at hid'
        wtm_at "jw"
        refine f_tup (xs := xs) (fun i σ H' => H' = H ∧ (ds.take i).all (okI lo hi) = true ∧ ∃ v1, σ = [some (.ref a), some (.int lo), some (.int hi), v1]) ⟨rfl, rfl, none, rfl⟩ (fun i σ H' _ h => by rw [h.1]; exact hS) (fun i x σ H' hi' h => ?_) (fun σ H' h => ?_)
        · obtain ⟨rfl, hal, v1, rfl⟩ := h
          obtain ⟨d, hd, hx, e, _⟩ := hT.at hi'
          have hdi := hid' d (List.mem_of_getElem? hd)
          cases d with
          | int z =>
            obtain rfl := hx.int_inv
            wtm_at "jw"
            refine c_dec (fun h1 => ?_) (fun h1 => ?_)
            · wtm_at "jw"
              refine c_decN (fun h2 => ?_) (fun h2 => ?_)
              · wtm_at "jw"
                have : okD lo hi (.tuple ds) = false := all_no hd (by simp [okI, h2])
                rw [this] at q
                exact q
              · wtm_at "jw"
                exact ⟨rfl, all_take hal e (by simp [okI, h1, h2]), _, rfl⟩
            · wtm_at "jw"
              have : okD lo hi (.tuple ds) = false := all_no hd (by simp [okI, h1])
              rw [this] at q
              exact q
          | _ => cases hdi
        · obtain ⟨rfl, hal, v1, rfl⟩ := h
          rw [hT.len, List.take_length] at hal
          wtm_at "jw"
          rw [show okD lo hi (.tuple ds) = true from hal] at q
          exact q
      | _ => cases hid
/-- the ints of a row -/
def iD (ds : List PyData) (i : Nat) : Int := match ds[i]? with
  | some (.int z) => z
  | _ => 0
def fateB (dl : Int) : PyData → Bool
  | .tuple ds => ds.all (okI 0 dl) && (decide (ds.length ≤ 2) && (decide (ds.length < 2) || decide (iD ds 0 ≤ iD ds 1)))
  | _ => false
theorem fateB_t (dl : Int) (ds : List PyData) : fateB dl (.tuple ds) = (ds.all (okI 0 dl) && (decide (ds.length ≤ 2) && (decide (ds.length < 2) || decide (iD ds 0 ≤ iD ds 1)))) := rfl
theorem len_two {α : Type} : ∀ {l : List α}, l.length ≤ 2 → ¬ l.length < 2 → ∃ x y, l = [x, y]
  | [], _, h => absurd (by simp) h
  | [_], _, h => absurd (by simp) h
  | [x, y], _, _ => ⟨x, y, rfl⟩
  | _ :: _ :: _ :: _, h, _ => by simp at h
def sp_is_fate (K : PySem.W.Frag) : Sp := fun vs H Q _ => ∃ (v : V) (d : PyData) (dl : Int), vs = [v, .int dl] ∧ TD K H v d ∧ Q (.bl (fateB dl d)) H
theorem ok_is_fate {P : Program} {w : World} {K : PySem.W.Frag} {mg : Str → Option Value} {base : Heap} {f : Addr} {fd : FuncData} (F : Df K mg "is_fate" s_is_fate f fd ["thing", "d"]) (T : Txt mg)
    (c_is_ints_between : Cl P w K mg base 3 "is_ints_between" (sp_is_ints_between K)) : FnOk P w K mg base CX0 4 f fd ["thing", "d"] (sp_is_fate K) := by
  refine F.ok sc_is_fate (fun vs H Q E h => ?_) (fun cdv A outer s H vs Q E hr h => ?_)
  · obtain ⟨v, d, dl, rfl, _⟩ := h
    rfl
  · obtain ⟨v, d, dl, rfl, hv, q⟩ := h
    refine ⟨_, (pss_cons (ps_if (PW.pt (pw_or (pt_not (pt_val (pe_cl c_is_ints_between hr (by decide) rfl (pa_cons (pv 0) (pa_cons pe_int (pa_cons (pv 1) pa_nil)))))) (pw_or1 (pt_cmpR op_gt (pe_callB (id := "len") (r := qLen K) c_len (by rfl) T.b_len (by decide +kernel) (pa_cons (pv 0) pa_nil)) (pe_cn rfl T.c_MOST_COPIES) (nomark _))))) (pss_one (ps_ret pe_bl)) pss_nil)
      (pss_one (ps_ret (pe_or (pe_cmpR op_lt (pe_callB (id := "len") (r := qLen K) c_len (by rfl) T.b_len (by decide +kernel) (pa_cons (pv 0) pa_nil)) pe_int (nomark _)) (pe_one (pe_cmpR op_le (pe_ix (r := rIxT K) ix_tup (pv 0) pe_int (fun _ _ => rfl)) (pe_ix (r := rIxT K) ix_tup (pv 0) pe_int (fun _ _ => rfl)) (nomark _))))))), ?_⟩
    try dsimp only [cxOf, Cx.nox, Cx.wish]
    refine st_of (σ' := [some _, some _]) rfl ?_
    wtm_at "jw"
    refine ⟨v, d, 0, dl, rfl, hv, ?_⟩
    wtm_at "jw"
    cases hok : okD 0 dl d with
    | false =>
      wtm_at "jw"
      have : fateB dl d = false := by
        cases d with
        | tuple ds => rw [fateB_t, show ds.all (okI 0 dl) = false from hok]; rfl
        | _ => rfl
      rw [this] at q
      exact q
    | true =>
      cases d with
      | tuple ds =>
        have e1 : ds.all (okI 0 dl) = true := hok
        rw [fateB_t, e1, Bool.true_and] at q
        wtm_at "jw"
        refine c_dec (fun h => ?_) (fun h => ?_)
        · have hn : ¬ ds.length ≤ 2 := by omega
          rw [decide_eq_false hn, Bool.false_and] at q
          wtm_at "jw"
          exact q
        · have hn : ds.length ≤ 2 := by omega
          rw [decide_eq_true hn, Bool.true_and] at q
          wtm_at "jw"
          refine c_dec (fun h2 => ?_) (fun h2 => ?_)
          · have hn2 : ds.length < 2 := by omega
            rw [decide_eq_true hn2, Bool.true_or] at q
            exact q
          · have hn2 : ¬ ds.length < 2 := by omega
            rw [decide_eq_false hn2, Bool.false_or] at q
            obtain ⟨x, y, rfl⟩ := len_two hn hn2
            rw [List.all_eq_true] at e1
            have hx := e1 x (by simp)
            have hy := e1 y (by simp)
            cases x with
            | int i =>
              cases y with
              | int j =>
                wtm_at "jw"
                exact q
              | _ => cases hy
            | _ => cases hx
      | _ => cases hok
def emT : PyData → Bool
  | .tuple [] => true
  | _ => false
def kstep (l : Int) (st : Option Int) (f : PyData) : Option Int := match st with
  | none => none
  | some lost => if emT f then (if lost + 1 > l then none else some (lost + 1)) else some 0
theorem kstep_s (l lost : Int) (d : PyData) : kstep l (some lost) d = if emT d = true then (if lost + 1 > l then none else some (lost + 1)) else some 0 := rfl
def keepB (l : Int) (ds : List PyData) : Bool := (ds.foldl (kstep l) (some 0)).isSome
theorem kst_none {l : Int} : ∀ ds : List PyData, ds.foldl (kstep l) none = none
  | [] => rfl
  | d :: ds => by rw [List.foldl_cons]; exact kst_none ds
theorem keep_no {l : Int} {ds : List PyData} {i : Nat} (h : (ds.take i).foldl (kstep l) (some 0) = none) : keepB l ds = false := by
  unfold keepB
  rw [← List.take_append_drop i ds, List.foldl_append, h, kst_none]
  rfl
def sp_keeps_bounds (K : PySem.W.Frag) : Sp := fun vs H Q _ => ∃ (v : V) (ds : List PyData) (l : Int), vs = [v, .int l] ∧ TD K H v (.tuple ds) ∧ (∀ d ∈ ds, isTup d = true) ∧ Q (.bl (keepB l ds)) H
theorem ok_keeps_bounds {P : Program} {w : World} {K : PySem.W.Frag} {mg : Str → Option Value} {base : Heap} {f : Addr} {fd : FuncData} (F : Df K mg "keeps_bounds" s_keeps_bounds f fd ["fates", "l"]) (T : Txt mg) : FnOk P w K mg base CX0 1 f fd ["fates", "l"] (sp_keeps_bounds K) := by
  refine F.ok sc_keeps_bounds (fun vs H Q E h => ?_) (fun cdv A outer s H vs Q E hr h => ?_)
  · obtain ⟨v, ds, l, rfl, _⟩ := h
    rfl
  · obtain ⟨v, ds, l, rfl, hv, ht, q⟩ := h
    obtain ⟨a, xs, rfl, hS, hT⟩ := hv.tup_inv
    refine ⟨_, (pss_cons (ps_set (i := 2) sc_keeps_bounds.nd rfl (Or.inl rfl) pe_int)
      (pss_cons (ps_for PassesOwn.never rfl (pi_tup (pv 0)) (pg_name (i := 3) sc_keeps_bounds.nd rfl (Or.inl rfl)) (pss_one (ps_if (pt_cmpR op_eq (pe_callB (id := "len") (r := qLen K) c_len (by rfl) T.b_len (by decide +kernel) (pa_cons (pv 3) pa_nil)) pe_int (nomark _)) (pss_cons (ps_aug (i := 2) sc_keeps_bounds.nd rfl (Or.inl rfl) pe_int iop_add)
      (pss_one (ps_if (pt_cmpR op_gt (pv 2) (pv 1) (nomark _)) (pss_one (ps_ret pe_bl)) pss_nil))) (pss_one (ps_set (i := 2) sc_keeps_bounds.nd rfl (Or.inl rfl) pe_int)))))
      (pss_one (ps_ret pe_bl)))), ?_⟩
    try dsimp only [cxOf, Cx.nox, Cx.wish]
    refine st_of (σ' := [some _, some _, none, none]) rfl ?_
    wtm_at "jw"
    refine f_tup (xs := xs) (fun i σ H' => H' = H ∧ ∃ (lost : Int) (v3 : Option V), (ds.take i).foldl (kstep l) (some 0) = some lost ∧ σ = [some (.ref a), some (.int l), some (.int lost), v3]) ⟨rfl, 0, none, rfl, rfl⟩ (fun i σ H' _ h => by rw [h.1]; exact hS) (fun i x σ H' hi h => ?_) (fun σ H' h => ?_)
    · obtain ⟨rfl, lost, v3, hf, rfl⟩ := h
      obtain ⟨d, hd, hx, e, _⟩ := hT.at hi
      have hdt := ht d (List.mem_of_getElem? hd)
      have e1 : (ds.take (i + 1)).foldl (kstep l) (some 0) = kstep l (some lost) d := by rw [e, List.foldl_append, hf]; rfl
      cases d with
      | tuple fs =>
        wtm_at "jw"
        refine c_dec (fun h => ?_) (fun h => ?_)
        · have hfs : fs = [] := List.length_eq_zero_iff.mp (by omega)
          subst hfs
          wtm_at "jw"
          refine c_dec (fun h2 => ?_) (fun h2 => ?_)
          · wtm_at "jw"
            have e2 : keepB l ds = false := keep_no (i := i + 1) (by rw [e1, kstep_s, if_pos (by rfl), if_pos h2])
            rw [e2] at q
            exact q
          · wtm_at "jw"
            exact ⟨rfl, lost + 1, _, by rw [e1, kstep_s, if_pos (by rfl), if_neg h2], rfl⟩
        · wtm_at "jw"
          refine ⟨rfl, 0, _, ?_, rfl⟩
          rw [e1, kstep_s, if_neg]
          cases fs with
          | nil => exact absurd rfl h
          | cons y ys => exact Bool.false_ne_true
      | _ => cases hdt
    · obtain ⟨rfl, lost, v3, hf, rfl⟩ := h
      rw [hT.len, List.take_length] at hf
      wtm_at "jw"
      have e2 : keepB l ds = true := by unfold keepB; rw [hf]; rfl
      rw [e2] at q
      exact q
def fatesB (fr dl l : Int) : PyData → Bool
  | .tuple ds => decide ((ds.length : Int) = fr) && (ds.all (fateB dl) && keepB l ds)
  | _ => false
theorem fatesB_t (fr dl l : Int) (ds : List PyData) : fatesB fr dl l (.tuple ds) = (decide ((ds.length : Int) = fr) && (ds.all (fateB dl) && keepB l ds)) := rfl
theorem fate_tup {dl : Int} {d : PyData} (h : fateB dl d = true) : isTup d = true := by
  cases d <;> first | rfl | cases h
def sp_is_fates (K : PySem.W.Frag) : Sp := fun vs H Q _ => ∃ (v : V) (d : PyData) (fr dl l : Int), vs = [v, .int fr, .int dl, .int l] ∧ TD K H v d ∧ Q (.bl (fatesB fr dl l d)) H
theorem ok_is_fates {P : Program} {w : World} {K : PySem.W.Frag} {mg : Str → Option Value} {base : Heap} {f : Addr} {fd : FuncData} (F : Df K mg "is_fates" s_is_fates f fd ["thing", "frames", "d", "l"]) (T : Txt mg)
    (c_keeps_bounds : Cl P w K mg base 1 "keeps_bounds" (sp_keeps_bounds K))
    (c_is_row : Cl P w K mg base 1 "is_row" (sp_is_row K))
    (c_is_fate : Cl P w K mg base 4 "is_fate" (sp_is_fate K)) : FnOk P w K mg base CX0 5 f fd ["thing", "frames", "d", "l"] (sp_is_fates K) := by
  refine F.ok sc_is_fates (fun vs H Q E h => ?_) (fun cdv A outer s H vs Q E hr h => ?_)
  · obtain ⟨v, d, fr, dl, l, rfl, _⟩ := h
    rfl
  · obtain ⟨v, d, fr, dl, l, rfl, hv, q⟩ := h
    refine ⟨_, (pss_cons (ps_if (pt_not (pt_val (pe_cl c_is_row hr (by decide) rfl (pa_cons (pv 0) (pa_cons (pv 1) pa_nil))))) (pss_one (ps_ret pe_bl)) pss_nil)
      (pss_cons (ps_for PassesOwn.never rfl (pi_tup (pv 0)) (pg_name (i := 4) sc_is_fates.nd rfl (Or.inl rfl)) (pss_one (ps_if (pt_not (pt_val (pe_cl c_is_fate hr (by decide) rfl (pa_cons (pv 4) (pa_cons (pv 2) pa_nil))))) (pss_one (ps_ret pe_bl)) pss_nil)))
      (pss_one (ps_ret (pe_cl c_keeps_bounds hr (by decide) rfl (pa_cons (pv 0) (pa_cons (pv 3) pa_nil))))))), ?_⟩
    try dsimp only [cxOf, Cx.nox, Cx.wish]
    refine st_of (σ' := [some _, some _, some _, some _, none]) rfl ?_
    wtm_at "jw"
    refine ⟨v, d, fr, rfl, hv, ?_⟩
    wtm_at "jw"
    cases hrow : rowB fr d with
    | false =>
      wtm_at "jw"
      have : fatesB fr dl l d = false := by
        cases d with
        | tuple ds => rw [fatesB_t, show decide ((ds.length : Int) = fr) = false from hrow]; rfl
        | _ => rfl
      rw [this] at q
      exact q
    | true =>
      cases d with
      | tuple ds =>
        have e1 : decide ((ds.length : Int) = fr) = true := hrow
        rw [fatesB_t, e1, Bool.true_and] at q
        obtain ⟨a, xs, rfl, hS, hT⟩ := hv.tup_inv
        wtm_at "jw"
        refine f_tup (xs := xs) (fun i σ H' => H' = H ∧ (ds.take i).all (fateB dl) = true ∧ ∃ v4, σ = [some (.ref a), some (.int fr), some (.int dl), some (.int l), v4]) ⟨rfl, rfl, none, rfl⟩ (fun i σ H' _ h => by rw [h.1]; exact hS) (fun i x σ H' hi' h => ?_) (fun σ H' h => ?_)
        · obtain ⟨rfl, hal, v4, rfl⟩ := h
          obtain ⟨d, hd, hx, e, _⟩ := hT.at hi'
          wtm_at "jw"
          refine ⟨x, d, dl, rfl, hx, ?_⟩
          wtm_at "jw"
          cases hid : fateB dl d with
          | true =>
            wtm_at "jw"
            exact ⟨rfl, all_take hal e hid, _, rfl⟩
          | false =>
            wtm_at "jw"
            rw [all_no hd hid, Bool.false_and] at q
            exact q
        · obtain ⟨rfl, hal, v4, rfl⟩ := h
          rw [hT.len, List.take_length] at hal
          rw [hal, Bool.true_and] at q
          rw [List.all_eq_true] at hal
          wtm_at "jw"
          refine ⟨_, ds, l, rfl, hv, fun d hd => fate_tup (hal d hd), ?_⟩
          wtm_at "jw"
          exact q
      | _ => cases hrow
def gD (ds : List PyData) (i : Nat) : PyData := ds[i]?.getD .none
def cellB (fr dl l : Int) (s r : Nat) (x : PyData) : Bool := if r = s then PyData.eqv x (.tuple []) else fatesB fr dl l x
def rowsB (R : Nat) (fr dl l : Int) (s : Nat) : PyData → Bool
  | .tuple ds => decide ((ds.length : Int) = (R : Int)) && (List.range R).all fun r => cellB fr dl l s r (gD ds r)
  | _ => false
def roadB (S R : Nat) (fr dl l : Int) : PyData → Bool
  | .tuple ds => decide ((ds.length : Int) = (S : Int)) && (List.range S).all fun s => rowsB R fr dl l s (gD ds s)
  | _ => false
theorem rowsB_t (R : Nat) (fr dl l : Int) (s : Nat) (ds : List PyData) : rowsB R fr dl l s (.tuple ds) = (decide ((ds.length : Int) = (R : Int)) && (List.range R).all fun r => cellB fr dl l s r (gD ds r)) := rfl
theorem roadB_t (S R : Nat) (fr dl l : Int) (ds : List PyData) : roadB S R fr dl l (.tuple ds) = (decide ((ds.length : Int) = (S : Int)) && (List.range S).all fun s => rowsB R fr dl l s (gD ds s)) := rfl
theorem rng_all {n i : Nat} {f : Nat → Bool} (h : (List.range i).all f = true) (hf : f i = true) : (List.range (i + 1)).all f = true := by
  rw [List.range_succ, List.all_append, h]; simp [hf]
theorem rng_no {n i : Nat} {f : Nat → Bool} (h : i < n) (hf : f i = false) : (List.range n).all f = false := by
  rw [List.all_eq_false]
  exact ⟨i, List.mem_range.mpr h, by rw [hf]; exact Bool.false_ne_true⟩
theorem gD_at {ds : List PyData} {i : Nat} (h : i < ds.length) : ds[i]? = some (gD ds i) := by
  unfold gD
  rw [List.getElem?_eq_getElem h]
  rfl
theorem Shp.item {n : Nat} {ds : List PyData} {d : PyData} (h : Shp (n + 1) (.tuple ds)) (hd : d ∈ ds) : Shp n d := by
  obtain ⟨h1, h2⟩ := h
  rw [PyData.canLay0] at h1
  rw [PyData.depth] at h2
  have h2' : PyData.depthAll ds ≤ n := by omega
  clear h2
  induction ds with
  | nil => cases hd
  | cons x r ih =>
    rw [PyData.canLayAll0, Bool.and_eq_true] at h1
    rw [PyData.depthAll] at h2'
    rcases List.mem_cons.mp hd with rfl | hd
    · exact ⟨h1.1, Nat.le_trans (Nat.le_max_left _ _) h2'⟩
    · exact ih hd h1.2 (Nat.le_trans (Nat.le_max_right _ _) h2')
def sp_is_road (K : PySem.W.Frag) : Sp := fun vs H Q _ => ∃ (v : V) (d : PyData) (S R : Nat) (fr dl l : Int), vs = [v, .int (S : Int), .int (R : Int), .int fr, .int dl, .int l] ∧ TD K H v d ∧ Shp 20 d ∧ S < 1000 ∧ R < 1000 ∧ ∀ H', Same H H' → Q (.bl (roadB S R fr dl l d)) H'
theorem ok_is_road {P : Program} {w : World} {K : PySem.W.Frag} {mg : Str → Option Value} {base : Heap} {f : Addr} {fd : FuncData} (F : Df K mg "is_road" s_is_road f fd ["road", "seats", "receivers", "frames", "d", "l"]) (T : Txt mg)
    (c_is_row : Cl P w K mg base 1 "is_row" (sp_is_row K))
    (c_is_fates : Cl P w K mg base 5 "is_fates" (sp_is_fates K)) : FnOk P w K mg base CX0 6 f fd ["road", "seats", "receivers", "frames", "d", "l"] (sp_is_road K) := by
  refine F.ok sc_is_road (fun vs H Q E h => ?_) (fun cdv A outer s H vs Q E hr h => ?_)
  · obtain ⟨v, d, S, R, fr, dl, l, rfl, _⟩ := h
    rfl
  · obtain ⟨v, d, S, R, fr, dl, l, rfl, hv, shp, hS1, hR1, q⟩ := h
    refine ⟨_, (pss_cons (ps_if (pt_not (pt_val (pe_cl c_is_row hr (by decide) rfl (pa_cons (pv 0) (pa_cons (pv 1) pa_nil))))) (pss_one (ps_ret pe_bl)) pss_nil)
      (pss_cons (ps_for PassesOwn.never rfl (pi_range1 rfl T.b_range (pa_cons (pv 1) pa_nil)) (pg_name (i := 6) sc_is_road.nd rfl (Or.inl rfl)) (pss_cons (ps_if (pt_not (pt_val (pe_cl c_is_row hr (by decide) rfl (pa_cons (pe_ix (r := rIxT K) ix_tup (pv 0) (pv 6) (fun _ _ => rfl)) (pa_cons (pv 2) pa_nil))))) (pss_one (ps_ret pe_bl)) pss_nil)
      (pss_one (ps_for PassesOwn.never rfl (pi_range1 rfl T.b_range (pa_cons (pv 2) pa_nil)) (pg_name (i := 7) sc_is_road.nd rfl (Or.inl rfl)) (pss_cons (ps_set (i := 8) sc_is_road.nd rfl (Or.inl rfl) (pe_ix (r := rIxT K) ix_tup (pe_ix (r := rIxT K) ix_tup (pv 0) (pv 6) (fun _ _ => rfl)) (pv 7) (fun _ _ => rfl)))
      (pss_one (ps_if (pt_cmpR op_eq (pv 7) (pv 6) (nomark _)) (pss_one (ps_if (pt_cmpR (r := rNeD K) (op_neD hr.units) (pv 8) (pe_tup pa_nil) (nomark _)) (pss_one (ps_ret pe_bl)) pss_nil)) (pss_one (ps_if (pt_not (pt_val (pe_cl c_is_fates hr (by decide) rfl (pa_cons (pv 8) (pa_cons (pv 3) (pa_cons (pv 4) (pa_cons (pv 5) pa_nil))))))) (pss_one (ps_ret pe_bl)) pss_nil)))))))))
      (pss_one (ps_ret pe_bl)))), ?_⟩
    try dsimp only [cxOf, Cx.nox, Cx.wish]
    refine st_of (σ' := [some _, some _, some _, some _, some _, some _, none, none, none]) rfl ?_
    wtm_at "jw"
    refine ⟨v, d, (S : Int), rfl, hv, ?_⟩
    wtm_at "jw"
    cases hrow : rowB (S : Int) d with
    | false =>
      wtm_at "jw"
      have : roadB S R fr dl l d = false := by
        cases d with
        | tuple ds => rw [roadB_t, show decide ((ds.length : Int) = (S : Int)) = false from hrow]; rfl
        | _ => rfl
      rw [this] at q
      exact q _ (Same.refl H)
    | true =>
      cases d with
      | tuple ds =>
        have e1 : decide ((ds.length : Int) = (S : Int)) = true := hrow
        have e1' := of_decide_eq_true e1
        rw [roadB_t, e1, Bool.true_and] at q
        wtm_at "jw"
        refine f_range (fun i σ H' => Same H H' ∧ ((List.range i).all fun s => rowsB R fr dl l s (gD ds s)) = true ∧ ∃ (v6 v7 v8 : Option V), σ = [some v, some (.int (S : Int)), some (.int (R : Int)), some (.int fr), some (.int dl), some (.int l), v6, v7, v8])
          ⟨Same.refl H, rfl, none, none, none, rfl⟩ (fun i σ H' hi h => ?_) (fun σ H' h => ?_)
        · obtain ⟨s1, hal, v6, v7, v8, rfl⟩ := h
          rw [Int.zero_add]
          have hi' : i < S := by simpa using hi
          have ei : ds[((i : Nat) : Int).toNat]? = some (gD ds i) := by rw [Int.toNat_natCast]; exact gD_at (by omega)
          have i0 : (0 : Int) ≤ (i : Int) := by omega
          have hv1 := hv.same s1
          have shr : Shp 19 (gD ds i) := Shp.item shp (List.mem_of_getElem? (gD_at (by omega)))
          wtm_at "jw"
          rename_i y hy
          refine ⟨y, gD ds i, (R : Int), rfl, hy, ?_⟩
          wtm_at "jw"
          cases hrow2 : rowB (R : Int) (gD ds i) with
          | false =>
            wtm_at "jw"
            have e2 : rowsB R fr dl l i (gD ds i) = false := by
              cases hg : gD ds i with
              | tuple cs => rw [hg] at hrow2; rw [rowsB_t, show decide ((cs.length : Int) = (R : Int)) = false from hrow2]; rfl
              | _ => rfl
            rw [rng_no hi' e2] at q
            exact q _ s1
          | true =>
            generalize hg : gD ds i = g at ei hy shr hrow2
            cases g with
            | tuple cs =>
              have e3 : decide ((cs.length : Int) = (R : Int)) = true := hrow2
              have e3' := of_decide_eq_true e3
              have e4 : rowsB R fr dl l i (gD ds i) = (List.range R).all fun r => cellB fr dl l i r (gD cs r) := by
                rw [hg, rowsB_t, e3, Bool.true_and]
              wtm_at "jw"
              refine f_range (fun j σ H' => Same H H' ∧ ((List.range j).all fun r => cellB fr dl l i r (gD cs r)) = true ∧ ∃ (v7 v8 : Option V), σ = [some v, some (.int (S : Int)), some (.int (R : Int)), some (.int fr), some (.int dl), some (.int l), some (.int (i : Int)), v7, v8])
                ⟨s1, rfl, v7, v8, rfl⟩ (fun j σ H' hj h => ?_) (fun σ H' h => ?_)
              · obtain ⟨s2, hal2, v7, v8, rfl⟩ := h
                rw [Int.zero_add]
                have hj' : j < R := by simpa using hj
                have hv2 := hv.same s2
                have ej : cs[((j : Nat) : Int).toNat]? = some (gD cs j) := by rw [Int.toNat_natCast]; exact gD_at (by omega)
                have j0 : (0 : Int) ≤ (j : Int) := by omega
                have shc : Shp 18 (gD cs j) := Shp.item shr (List.mem_of_getElem? (gD_at (by omega)))
                wtm_at "js"
                rename_i y2 hy2 c hc
                refine i_ifS ?_
                wtm_at "js"
                refine c_dec (fun h => ?_) (fun h => ?_)
                · have h' : j = i := by omega
                  have e5 : cellB fr dl l i j (gD cs j) = PyData.eqv (gD cs j) (.tuple []) := by unfold cellB; rw [if_pos h']
                  wtm_at "jw"
                  intro T hT
                  have s3 := same_new (o := .tup []) hT
                  refine i_neD (hc.same s3).dp (TD.new (K := K) (xs := []) (ds := []) hT .nil).dp shc (Shp.tup (n := 0) (ds := []) fun _ h => by cases h) (by decide) (by decide) ?_
                  wtm_at "jw"
                  cases e6 : PyData.eqv (gD cs j) (.tuple []) with
                  | false =>
                    wtm_at "jw"
                    rw [e6] at e5
                    rw [rng_no hj' e5] at e4
                    rw [rng_no hi' e4] at q
                    exact q _ (s2.trans s3)
                  | true =>
                    wtm_at "jw"
                    rw [e6] at e5
                    exact ⟨s2.trans s3, rng_all (n := R) hal2 e5, _, _, rfl⟩
                · have h' : ¬ j = i := by omega
                  have e5 : cellB fr dl l i j (gD cs j) = fatesB fr dl l (gD cs j) := by unfold cellB; rw [if_neg h']
                  wtm_at "jw"
                  refine ⟨c, _, fr, dl, l, rfl, hc, ?_⟩
                  wtm_at "jw"
                  cases e6 : fatesB fr dl l (gD cs j) with
                  | false =>
                    wtm_at "jw"
                    rw [e6] at e5
                    rw [rng_no hj' e5] at e4
                    rw [rng_no hi' e4] at q
                    exact q _ s2
                  | true =>
                    wtm_at "jw"
                    rw [e6] at e5
                    exact ⟨s2, rng_all (n := R) hal2 e5, _, _, rfl⟩
              · obtain ⟨s2, hal2, v7, v8, rfl⟩ := h
                rw [show ((R : Nat) : Int).toNat = R from Int.toNat_natCast R] at hal2
                rw [hal2] at e4
                exact ⟨s2, rng_all (n := S) hal e4, _, _, _, rfl⟩
            | _ => cases hrow2
        · obtain ⟨s1, hal, v6, v7, v8, rfl⟩ := h
          rw [show ((S : Nat) : Int).toNat = S from Int.toNat_natCast S] at hal
          rw [hal] at q
          wtm_at "jw"
          exact q _ s1
      | _ => cases hrow

/-! ### roads, plainly (for k27, k28, k29) -/
def fD (f : List Int) : PyData := .tuple (f.map PyData.int)
def fsD (F : List (List Int)) : PyData := .tuple (F.map fD)
theorem em_fD (f : List Int) : emT (fD f) = f.isEmpty := by cases f <;> rfl
def rowC (R s : Nat) (c : PyData) : PyData := .tuple ((List.range R).map fun r => if r = s then .tuple [] else c)
def roadC (S R : Nat) (c : PyData) : PyData := .tuple ((List.range S).map fun s => rowC R s c)
def CellP (P : PyData → Prop) (s r : Nat) (c : PyData) : Prop := (r = s → c = .tuple []) ∧ (r ≠ s → P c)
def RowP (R : Nat) (P : PyData → Prop) (s : Nat) (row : PyData) : Prop := ∃ cells, row = .tuple cells ∧ cells.length = R ∧ AllI (CellP P s) cells
def RoadP (S R : Nat) (P : PyData → Prop) (d : PyData) : Prop := ∃ rows, d = .tuple rows ∧ rows.length = S ∧ AllI (RowP R P) rows
theorem roadC_P (S R : Nat) (c : PyData) : RoadP S R (· = c) (roadC S R c) := by
  refine ⟨_, rfl, by simp, fun s row hr => ?_⟩
  rw [List.getElem?_map] at hr
  cases e : (List.range S)[s]? with
  | none => rw [e] at hr; cases hr
  | some s' =>
    obtain ⟨h1, h2⟩ := List.getElem?_eq_some_iff.mp e
    rw [List.getElem_range] at h2
    subst h2
    rw [e] at hr
    cases hr
    refine ⟨_, rfl, by simp, fun r c' hc => ?_⟩
    rw [List.getElem?_map] at hc
    cases e2 : (List.range R)[r]? with
    | none => rw [e2] at hc; cases hc
    | some r' =>
      obtain ⟨h3, h4⟩ := List.getElem?_eq_some_iff.mp e2
      rw [List.getElem_range] at h4
      subst h4
      rw [e2] at hc
      cases hc
      exact ⟨fun h => if_pos h, fun h => if_neg h⟩
theorem eqv_nil : PyData.eqv (.tuple []) (.tuple []) = true := by simp [PyData.eqv, PyData.eqvAll]
theorem roadP_B {S R : Nat} {fr dl l : Int} {P : PyData → Prop} {d : PyData} {b : Bool} (h : RoadP S R P d) (hb : ∀ c, P c → fatesB fr dl l c = b) (h1 : 1 ≤ S) (h2 : S ≤ R) : roadB S R fr dl l d = (b || decide (R = 1)) := by
  obtain ⟨rows, rfl, hl, hr⟩ := h
  unfold roadB
  simp only
  rw [decide_eq_true (show (rows.length : Int) = (S : Int) by omega), Bool.true_and]
  have row : ∀ s, s < S → rowsB R fr dl l s (gD rows s) = ((List.range R).all fun r => decide (r = s) || b) := fun s hs => by
    obtain ⟨cells, e, hcl, hc⟩ := hr s _ (gD_at (by omega))
    rw [e]
    unfold rowsB
    simp only
    rw [decide_eq_true (show (cells.length : Int) = (R : Int) by omega), Bool.true_and]
    rw [Bool.eq_iff_iff, List.all_eq_true, List.all_eq_true]
    refine forall_congr' fun r => ⟨fun h hr' => ?_, fun h hr' => ?_⟩
    · have := h hr'
      have hrl : r < R := List.mem_range.mp hr'
      have hp := hc r _ (gD_at (by omega))
      unfold cellB at this
      by_cases e2 : r = s
      · simp [e2]
      · rw [if_neg e2, hb _ (hp.2 e2)] at this
        simp [this]
    · have := h hr'
      have hrl : r < R := List.mem_range.mp hr'
      have hp := hc r _ (gD_at (by omega))
      unfold cellB
      by_cases e2 : r = s
      · rw [if_pos e2, hp.1 e2]
        exact eqv_nil
      · rw [if_neg e2, hb _ (hp.2 e2)]
        simpa [e2] using this
  have e3 : ((List.range S).all fun s => rowsB R fr dl l s (gD rows s)) = ((List.range S).all fun s => (List.range R).all fun r => decide (r = s) || b) := by
    rw [Bool.eq_iff_iff, List.all_eq_true, List.all_eq_true]
    refine forall_congr' fun s => ?_
    constructor
    · intro h hs
      rw [← row s (List.mem_range.mp hs)]
      exact h hs
    · intro h hs
      rw [row s (List.mem_range.mp hs)]
      exact h hs
  rw [e3]
  cases b with
  | true => simp
  | false =>
    rw [Bool.false_or, Bool.eq_iff_iff, List.all_eq_true, decide_eq_true_eq]
    constructor
    · intro h
      have h3 := h 0 (List.mem_range.mpr (by omega))
      rw [List.all_eq_true] at h3
      by_cases hR : R = 1
      · exact hR
      · have h4 := h3 1 (List.mem_range.mpr (by omega))
        simp at h4
    · intro hR s hs
      rw [List.all_eq_true]
      intro r hr'
      have := List.mem_range.mp hs
      have := List.mem_range.mp hr'
      simp
      omega
/-- fates within bounds -/
def GoodF (late lost : Nat) (F : List (List Int)) : Prop := (∀ f ∈ F, f = [] ∨ (∃ x : Int, 0 ≤ x ∧ x ≤ late ∧ f = [x]) ∨ ∃ x y : Int, 0 ≤ x ∧ x ≤ y ∧ y ≤ late ∧ f = [x, y]) ∧ ∃ n, (F.map fD).foldl (kstep lost) (some 0) = some n
theorem good_B {fr late lost : Nat} {F : List (List Int)} (h : GoodF late lost F) (hl : F.length = fr) : fatesB fr late lost (fsD F) = true := by
  obtain ⟨h1, n, h2⟩ := h
  unfold fatesB fsD
  simp only
  have e1 : (F.map fD).all (fateB late) = true := by
    rw [List.all_eq_true]
    intro d hd
    obtain ⟨f, hf, rfl⟩ := List.mem_map.mp hd
    rcases h1 f hf with rfl | ⟨x, x0, x1, rfl⟩ | ⟨x, y, x0, xy, y1, rfl⟩
    · rfl
    · simp [fD, fateB, okI, x0, x1]
    · simp [fD, fateB, okI, iD, x0, xy, y1]
      omega
  have e2 : keepB lost (F.map fD) = true := by unfold keepB; rw [h2]; rfl
  rw [e1, e2, decide_eq_true (by rw [List.length_map, hl])]
  rfl
theorem GoodF.nonneg {late lost : Nat} {F : List (List Int)} (h : GoodF late lost F) : ∀ f ∈ F, ∀ x ∈ f, 0 ≤ x ∧ x ≤ (late : Int) := fun f hf x hx => by
  rcases h.1 f hf with rfl | ⟨a, a0, a1, rfl⟩ | ⟨a, b, a0, ab, b1, rfl⟩
  · cases hx
  · rcases List.mem_cons.mp hx with rfl | hx
    · exact ⟨a0, a1⟩
    · cases hx
  · rcases List.mem_cons.mp hx with rfl | hx
    · exact ⟨a0, by omega⟩
    · rcases List.mem_cons.mp hx with rfl | hx
      · exact ⟨by omega, b1⟩
      · cases hx
/-! when a letter is heard -/
def hst (acc : Option Int) (z : Int) : Option Int := match acc with
  | none => some z
  | some b => if z < b then some z else some b
def gF (F : List (List Int)) (f : Nat) : List Int := F[f]?.getD []
def comesF (F : List (List Int)) (a n : Nat) : List Int := (List.range' a n).flatMap fun f => (gF F f).map fun z => (f : Int) + z
def hF (F : List (List Int)) (a : Nat) : Option Int := (comesF F a (F.length - a)).foldl hst none
theorem hst_min : ∀ (l : List Int) (b : Int), ∃ c, l.foldl hst (some b) = some c ∧ c ≤ b ∧ (∀ x ∈ l, c ≤ x) ∧ (c = b ∨ c ∈ l)
  | [], b => ⟨b, rfl, by omega, fun x hx => (by cases hx), .inl rfl⟩
  | x :: l, b => by
    rw [List.foldl_cons]
    by_cases h : x < b
    · obtain ⟨c, e, h1, h2, h3⟩ := hst_min l x
      refine ⟨c, by rw [show hst (some b) x = some x from if_pos h]; exact e, by omega, fun y hy => ?_, ?_⟩
      · rcases List.mem_cons.mp hy with rfl | hy
        · exact h1
        · exact h2 y hy
      · rcases h3 with rfl | h3
        · exact .inr List.mem_cons_self
        · exact .inr (List.mem_cons_of_mem _ h3)
    · obtain ⟨c, e, h1, h2, h3⟩ := hst_min l b
      refine ⟨c, by rw [show hst (some b) x = some b from if_neg h]; exact e, h1, fun y hy => ?_, ?_⟩
      · rcases List.mem_cons.mp hy with rfl | hy
        · omega
        · exact h2 y hy
      · rcases h3 with rfl | h3
        · exact .inl rfl
        · exact .inr (List.mem_cons_of_mem _ h3)
theorem hst_none (l : List Int) : (l = [] ∧ l.foldl hst none = none) ∨ ∃ c, l.foldl hst none = some c ∧ c ∈ l ∧ ∀ x ∈ l, c ≤ x := by
  cases l with
  | nil => exact .inl ⟨rfl, rfl⟩
  | cons x l =>
    obtain ⟨c, e, h1, h2, h3⟩ := hst_min l x
    refine .inr ⟨c, e, ?_, fun y hy => ?_⟩
    · rcases h3 with rfl | h3
      · exact List.mem_cons_self
      · exact List.mem_cons_of_mem _ h3
    · rcases List.mem_cons.mp hy with rfl | hy
      · exact h1
      · exact h2 y hy
theorem mem_comes {F : List (List Int)} {a : Nat} {z : Int} : z ∈ comesF F a (F.length - a) ↔ ∃ f, a ≤ f ∧ f < F.length ∧ ∃ x ∈ gF F f, z = (f : Int) + x := by
  unfold comesF
  rw [List.mem_flatMap]
  constructor
  · rintro ⟨f, hf, h⟩
    obtain ⟨x, hx, rfl⟩ := List.mem_map.mp h
    have := List.mem_range'_1.mp hf
    exact ⟨f, this.1, by omega, x, hx, rfl⟩
  · rintro ⟨f, h1, h2, x, hx, rfl⟩
    exact ⟨f, List.mem_range'_1.mpr ⟨h1, by omega⟩, List.mem_map.mpr ⟨x, hx, rfl⟩⟩
theorem hF_eq {F : List (List Int)} {a f : Nat} {x z : Int} (h1 : a ≤ f) (h2 : f < F.length) (hx : x ∈ gF F f) (hz : z = (f : Int) + x) (hm : ∀ g, a ≤ g → g < F.length → ∀ y ∈ gF F g, z ≤ (g : Int) + y) : hF F a = some z := by
  unfold hF
  rcases hst_none (comesF F a (F.length - a)) with ⟨e, _⟩ | ⟨c, e, hc, hmin⟩
  · have := mem_comes.mpr ⟨f, h1, h2, x, hx, rfl⟩
    rw [e] at this
    cases this
  · rw [e]
    obtain ⟨g, g1, g2, y, hy, rfl⟩ := mem_comes.mp hc
    have h3 := hm g g1 g2 y hy
    have h4 := hmin z (mem_comes.mpr ⟨f, h1, h2, x, hx, hz⟩)
    congr 1
    omega
/-- in time: what is asked of a frame -/
def InT (F : List (List Int)) (lost most f : Nat) : Prop := (hF F f = none → ¬ f + lost < F.length) ∧ ∀ b, hF F f = some b → (f : Int) ≤ b ∧ b ≤ (f : Int) + most
theorem kst_run {l : Nat} : ∀ (L : List PyData) (a : Int), 0 ≤ a → (∃ n, L.foldl (kstep l) (some a) = some n) → (l : Int) < a + L.length → ∃ (g : Nat) (d : PyData), (L[g]? = some d ∧ emT d = false ∧ (g : Int) ≤ l - a) ∨ (l : Int) < a
  | [], a, h0, _, hl => ⟨0, .none, .inr (by simpa using hl)⟩
  | d :: L, a, h0, ⟨n, hn⟩, hl => by
    rw [List.foldl_cons] at hn
    by_cases hla : (l : Int) < a
    · exact ⟨0, .none, .inr hla⟩
    · cases e : emT d with
      | false => exact ⟨0, d, .inl ⟨rfl, e, by omega⟩⟩
      | true =>
        have e1 : kstep l (some a) d = if a + 1 > (l : Int) then none else some (a + 1) := by unfold kstep; simp only [e, if_true]
        by_cases h2 : a + 1 > (l : Int)
        · rw [e1, if_pos h2, kst_none] at hn
          cases hn
        · rw [e1, if_neg h2] at hn
          obtain ⟨g, d', h | h⟩ := kst_run L (a + 1) (by omega) ⟨n, hn⟩ (by rw [List.length_cons] at hl; omega)
          · exact ⟨g + 1, d', .inl ⟨by simpa using h.1, h.2.1, by omega⟩⟩
          · omega
theorem kst_pre {l : Nat} {L M : List PyData} {n : Int} (h : (L ++ M).foldl (kstep l) (some 0) = some n) : ∃ a, L.foldl (kstep l) (some 0) = some a ∧ M.foldl (kstep l) (some a) = some n := by
  rw [List.foldl_append] at h
  cases e : L.foldl (kstep l) (some 0) with
  | none => rw [e, kst_none] at h; cases h
  | some a => rw [e] at h; exact ⟨a, rfl, h⟩
theorem kst_nn {l : Nat} : ∀ (L : List PyData) (a n : Int), 0 ≤ a → a ≤ l → L.foldl (kstep l) (some a) = some n → 0 ≤ n ∧ n ≤ l
  | [], a, n, h0, h1, h => by cases h; exact ⟨h0, h1⟩
  | d :: L, a, n, h0, h1, h => by
    rw [List.foldl_cons] at h
    cases e : emT d with
    | false =>
      have e1 : kstep l (some a) d = some 0 := by unfold kstep; simp only [e, if_neg Bool.false_ne_true]
      rw [e1] at h
      exact kst_nn L 0 n (by omega) (by omega) h
    | true =>
      have e1 : kstep l (some a) d = if a + 1 > (l : Int) then none else some (a + 1) := by unfold kstep; simp only [e, if_true]
      by_cases h2 : a + 1 > (l : Int)
      · rw [e1, if_pos h2, kst_none] at h
        cases h
      · rw [e1, if_neg h2] at h
        exact kst_nn L (a + 1) n (by omega) (by omega) h
theorem GoodF.inT {late lost : Nat} {F : List (List Int)} (h : GoodF late lost F) : ∀ f, f < F.length → InT F lost (late + lost) f := fun f hf => by
  obtain ⟨_, n, hk⟩ := id h
  have nn := h.nonneg
  have gmem : ∀ g, g < F.length → gF F g ∈ F := fun g hg => by
    unfold gF
    rw [List.getElem?_eq_getElem hg]
    exact List.getElem_mem hg
  -- the first letter behind f that is not lost
  have first : f + lost < F.length → ∃ g, f ≤ g ∧ g ≤ f + lost ∧ g < F.length ∧ gF F g ≠ [] := fun hl => by
    rw [← List.take_append_drop f F, List.map_append] at hk
    obtain ⟨a, h1, h2⟩ := kst_pre hk
    obtain ⟨a0, a1⟩ := kst_nn _ 0 a (by omega) (by omega) h1
    obtain ⟨g, d, h3 | h3⟩ := kst_run _ a a0 ⟨n, h2⟩ (by rw [List.length_map, List.length_drop]; omega)
    · obtain ⟨h3, h4, h5⟩ := h3
      rw [List.getElem?_map, List.getElem?_drop] at h3
      cases e : F[f + g]? with
      | none => rw [e] at h3; cases h3
      | some w =>
        rw [e] at h3
        cases h3
        rw [em_fD] at h4
        refine ⟨f + g, by omega, by omega, (List.getElem?_eq_some_iff.mp e).1, ?_⟩
        unfold gF
        rw [e]
        intro z
        change w = [] at z
        rw [z] at h4
        cases h4
    · omega
  constructor
  · intro hn hl
    obtain ⟨g, g1, g2, g3, g4⟩ := first hl
    cases e : gF F g with
    | nil => exact g4 e
    | cons x r =>
      unfold hF at hn
      rcases hst_none (comesF F f (F.length - f)) with ⟨e2, _⟩ | ⟨c, e2, _⟩
      · have := mem_comes.mpr ⟨g, g1, g3, x, by rw [e]; exact List.mem_cons_self, rfl⟩
        rw [e2] at this
        cases this
      · rw [e2] at hn
        cases hn
  · intro b hb
    unfold hF at hb
    rcases hst_none (comesF F f (F.length - f)) with ⟨e2, e3⟩ | ⟨c, e2, hc, hmin⟩
    · rw [e3] at hb
      cases hb
    · rw [e2] at hb
      cases hb
      obtain ⟨g, g1, g2, y, hy, rfl⟩ := mem_comes.mp hc
      have := nn _ (gmem g g2) y hy
      refine ⟨by omega, ?_⟩
      by_cases hl : f + lost < F.length
      · obtain ⟨g', p1, p2, p3, p4⟩ := first hl
        cases e : gF F g' with
        | nil => exact absurd e p4
        | cons x r =>
          have hx : x ∈ gF F g' := by rw [e]; exact List.mem_cons_self
          have h6 := hmin _ (mem_comes.mpr ⟨g', p1, p3, x, hx, rfl⟩)
          have h7 := nn _ (gmem g' p3) x hx
          omega
      · omega
/-! the roads of the law -/
def straightF (fr : Nat) : List (List Int) := List.replicate fr [0]
def lateF (fr d l : Nat) : List (List Int) := (List.range fr).map fun f => if f % (l + 1) = l then [(d : Int)] else []
def hidF (fr d l first : Nat) : List (List Int) := (List.range fr).map fun f => if f < first then [0] else if f < first + l then [] else [(d : Int)]
def frs : List Nat := [1, 2, 3, 4, 5, 6, 7, 8, 9, 10, 11, 12, 45]
def chkS (fr : Nat) : Bool := (List.range 4).all fun d => (List.range 4).all fun l => fatesB fr d l (fsD (straightF fr))
def chkF (fr d l : Nat) (F : List (List Int)) (cl rn : Bool) : Bool := fatesB fr d l (fsD F) && ((decide (d = 0) || (fatesB fr (d - 1 : Int) l (fsD F) == !cl)) && (decide (l = 0) || (fatesB fr d (l - 1 : Int) (fsD F) == !rn)))
theorem chk_straight : (frs.all chkS) = true := by decide +kernel
theorem chk_late : (frs.all fun fr => (List.range 4).all fun d => (List.range 4).all fun l => chkF fr d l (lateF fr d l) (decide (l < fr)) (decide (l ≤ fr))) = true := by decide +kernel
theorem chk_hid : (frs.all fun fr => (List.range 4).all fun d => (List.range 4).all fun l => (List.range (fr + 1)).all fun first => chkF fr d l (hidF fr d l first) (decide (first + l < fr)) (decide (first + l ≤ fr))) = true := by decide +kernel
theorem getF_map {fr : Nat} {h : Nat → List Int} {f : Nat} (hf : f < fr) : gF ((List.range fr).map h) f = h f := by
  unfold gF
  rw [List.getElem?_map, List.getElem?_eq_getElem (by simpa using hf), List.getElem_range]
  rfl
theorem lateF_len (fr d l : Nat) : (lateF fr d l).length = fr := by unfold lateF; simp
theorem hidF_len (fr d l first : Nat) : (hidF fr d l first).length = fr := by unfold hidF; simp
theorem straightF_len (fr : Nat) : (straightF fr).length = fr := by unfold straightF; simp
theorem heard_straight {fr f : Nat} (h : f < fr) : hF (straightF fr) f = some (f : Int) := by
  have e : ∀ g, g < fr → gF (straightF fr) g = [0] := fun g hg => by
    unfold gF straightF
    rw [List.getElem?_replicate, if_pos hg]
    rfl
  refine hF_eq (f := f) (x := 0) (by omega) (by rw [straightF_len]; exact h) (by rw [e f h]; simp) (by omega) fun g h1 h2 y hy => ?_
  rw [straightF_len] at h2
  rw [e g h2] at hy
  have := List.mem_singleton.mp hy
  omega
theorem heard_late {fr d l f : Nat} (hl : l < 4) (h : f + l < fr) (hm : f % (l + 1) = 0) : hF (lateF fr d l) f = some ((f : Int) + ((d + l : Nat) : Int)) := by
  have e : ∀ g, g < fr → gF (lateF fr d l) g = if g % (l + 1) = l then [(d : Int)] else [] := fun g hg => getF_map hg
  have hfl : (f + l) % (l + 1) = l := by
    rcases (by omega : l = 0 ∨ l = 1 ∨ l = 2 ∨ l = 3) with rfl | rfl | rfl | rfl <;> omega
  refine hF_eq (f := f + l) (x := d) (by omega) (by rw [lateF_len]; exact h) (by rw [e _ h, if_pos hfl]; simp) (by omega) fun g h1 h2 y hy => ?_
  rw [lateF_len] at h2
  rw [e g h2] at hy
  by_cases hg : g % (l + 1) = l
  · rw [if_pos hg] at hy
    have := List.mem_singleton.mp hy
    have : f + l ≤ g := by
      rcases (by omega : l = 0 ∨ l = 1 ∨ l = 2 ∨ l = 3) with rfl | rfl | rfl | rfl <;> omega
    omega
  · rw [if_neg hg] at hy
    cases hy
theorem heard_hid {fr d l first f : Nat} (h : f < first) (h2 : f < fr) : hF (hidF fr d l first) f = some (f : Int) := by
  have e : ∀ g, g < fr → gF (hidF fr d l first) g = if g < first then [0] else if g < first + l then [] else [(d : Int)] := fun g hg => getF_map hg
  refine hF_eq (f := f) (x := 0) (by omega) (by rw [hidF_len]; exact h2) (by rw [e _ h2, if_pos h]; simp) (by omega) fun g h3 h4 y hy => ?_
  rw [hidF_len] at h4
  rw [e g h4] at hy
  split at hy
  · have := List.mem_singleton.mp hy; omega
  · split at hy
    · cases hy
    · have := List.mem_singleton.mp hy; omega
theorem heard_hid2 {fr d l first : Nat} (h : first + l < fr) : hF (hidF fr d l first) first = some ((first : Int) + ((d + l : Nat) : Int)) := by
  have e : ∀ g, g < fr → gF (hidF fr d l first) g = if g < first then [0] else if g < first + l then [] else [(d : Int)] := fun g hg => getF_map hg
  refine hF_eq (f := first + l) (x := d) (by omega) (by rw [hidF_len]; exact h) (by rw [e _ h, if_neg (by omega), if_neg (by omega)]; simp) (by omega) fun g h3 h4 y hy => ?_
  rw [hidF_len] at h4
  rw [e g h4, if_neg (by omega)] at hy
  split at hy
  · cases hy
  · have := List.mem_singleton.mp hy; omega
/-- what is let keeps the bounds, plainly -/
theorem good_of {fr late lost : Nat} {F : List (List Int)} (h1 : ∀ f ∈ F, f = [] ∨ ∃ x : Int, 0 ≤ x ∧ x ≤ late ∧ f = [x]) (h2 : fatesB fr late lost (fsD F) = true) : GoodF late lost F := by
  refine ⟨fun f hf => ?_, ?_⟩
  · rcases h1 f hf with h | h
    · exact .inl h
    · exact .inr (.inl h)
  · unfold fatesB fsD at h2
    simp only [Bool.and_eq_true] at h2
    have := h2.2.2
    unfold keepB at this
    exact Option.isSome_iff_exists.mp this
theorem late_good {fr d l : Nat} (h : fatesB fr d l (fsD (lateF fr d l)) = true) : GoodF d l (lateF fr d l) := good_of (fun f hf => by
  obtain ⟨g, _, rfl⟩ := List.mem_map.mp hf
  split
  · exact .inr ⟨d, by omega, by omega, rfl⟩
  · exact .inl rfl) h
theorem hid_good {fr d l first : Nat} (h : fatesB fr d l (fsD (hidF fr d l first)) = true) : GoodF d l (hidF fr d l first) := good_of (fun f hf => by
  obtain ⟨g, _, rfl⟩ := List.mem_map.mp hf
  split
  · exact .inr ⟨0, by omega, by omega, rfl⟩
  · split
    · exact .inl rfl
    · exact .inr ⟨d, by omega, by omega, rfl⟩) h

/-! ### the law's drawn fates -/
def sp__law_fates (K : PySem.W.Frag) : Sp := fun vs H Q _ => ∃ (p a : Addr) (fr late lost : Nat), vs = [.ref p, .int (fr : Int), .int (late : Int), .int (lost : Int)] ∧ DrawAt H p a ∧ fr < 1000 ∧ late < 1000 ∧ ∀ v (F : List (List Int)) H', Drew p a H H' → TD K H' v (fsD F) → F.length = fr → GoodF late lost F → Q v H'
theorem ok__law_fates {P : Program} {w : World} {K : PySem.W.Frag} {mg : Str → Option Value} {base : Heap} {f : Addr} {fd : FuncData} (F : Df K mg "_law_fates" s__law_fates f fd ["d", "frames", "late", "lost"]) (T : Txt mg)
    (c__law_draw : Cl P w K mg base 1 "_law_draw" (sp__law_draw K)) : FnOk P w K mg base CX0 2 f fd ["d", "frames", "late", "lost"] (sp__law_fates K) := by
  refine F.ok sc__law_fates (fun vs H Q E h => ?_) (fun cdv A outer s H vs Q E hr h => ?_)
  · obtain ⟨p, a, fr, late, lost, rfl, _⟩ := h
    rfl
  · obtain ⟨p, a, fr, late, lost, rfl, d0, f1, l1, q⟩ := h
    refine ⟨_, (pss_cons (ps_set (i := 4) sc__law_fates.nd rfl (Or.inl rfl) (pe_lst pa_nil))
      (pss_cons (ps_set (i := 5) sc__law_fates.nd rfl (Or.inl rfl) pe_int)
      (pss_cons (ps_for PassesOwn.never rfl (pi_range1 rfl T.b_range (pa_cons (pv 1) pa_nil)) (pg_name (i := 6) sc__law_fates.nd rfl (Or.inl rfl)) (pss_one (ps_if (PW.pt (pw_and (pt_cmpR op_lt (pv 5) (pv 3) (nomark _)) (pw_and1 (pt_cmpR op_eq (pe_cl c__law_draw hr (by decide) rfl (pa_cons (pv 0) (pa_cons pe_int pa_nil))) pe_int (nomark _))))) (pss_cons (ps_aug (i := 5) sc__law_fates.nd rfl (Or.inl rfl) pe_int iop_add)
      (pss_one (ps_expr (pe_bmK (K := K) rfl PySem.F.plainAttrs_list PySem.F.slot_list_append PySem.F.type_list_append mt_append (pv 4) (pa_cons (pe_tup pa_nil) pa_nil))))) (pss_cons (ps_set (i := 5) sc__law_fates.nd rfl (Or.inl rfl) pe_int)
      (pss_cons (ps_set (i := 7) sc__law_fates.nd rfl (Or.inl rfl) (pe_cl c__law_draw hr (by decide) rfl (pa_cons (pv 0) (pa_cons (pe_op op_add (pv 2) pe_int) pa_nil))))
      (pss_one (ps_if (pt_cmpR op_eq (pe_cl c__law_draw hr (by decide) rfl (pa_cons (pv 0) (pa_cons pe_int pa_nil))) pe_int (nomark _)) (pss_one (ps_expr (pe_bmK (K := K) rfl PySem.F.plainAttrs_list PySem.F.slot_list_append PySem.F.type_list_append mt_append (pv 4) (pa_cons (pe_tup (pa_cons (pv 7) (pa_cons (pe_op op_add (pv 7) (pe_cl c__law_draw hr (by decide) rfl (pa_cons (pv 0) (pa_cons (pe_op op_sub (pe_op op_add (pv 2) pe_int) (pv 7)) pa_nil)))) pa_nil))) pa_nil)))) (pss_one (ps_expr (pe_bmK (K := K) rfl PySem.F.plainAttrs_list PySem.F.slot_list_append PySem.F.type_list_append mt_append (pv 4) (pa_cons (pe_tup (pa_cons (pv 7) pa_nil)) pa_nil)))))))))))
      (pss_one (ps_ret (pe_callTy (T := "tuple") (r := rTupOf K) c_tup (by rfl) T.b_tuple (by decide +kernel) (pa_cons (pv 4) pa_nil))))))), ?_⟩
    try dsimp only [cxOf, Cx.nox, Cx.wish]
    refine st_of (σ' := [some _, some _, some _, some _, none, none, none, none]) rfl ?_
    wtm_at "jw"
    intro BL hBL
    have nB := d0.ne_none hBL
    wtm_at "jw"
    refine f_range (fun i σ H' => Drew p a H H' ∧ ∃ (F : List (List Int)) (run : Int) (v6 v7 : Option V), LD K H' BL (F.map fD) ∧ F.length = i ∧ (∀ f ∈ F, f = [] ∨ (∃ x : Int, 0 ≤ x ∧ x ≤ late ∧ f = [x]) ∨ ∃ x y : Int, 0 ≤ x ∧ x ≤ y ∧ y ≤ late ∧ f = [x, y]) ∧ (F.map fD).foldl (kstep lost) (some 0) = some run ∧
        σ = [some (.ref p), some (.int (fr : Int)), some (.int (late : Int)), some (.int (lost : Int)), some (.ref BL), some (.int run), v6, v7])
      ⟨d0.drew.new hBL, [], 0, none, none, .new hBL .nil, rfl, fun f h => (by cases h), rfl, rfl⟩ (fun i σ H' hi h => ?_) (fun σ H' h => ?_)
    · obtain ⟨w1, F, run, v6, v7, hB1, hFl, hFb, hrun, rfl⟩ := h
      have hi' : i < fr := by simpa using hi
      wtm_at "jw1"
      refine i_ifS ?_
      refine i_andTJ (fun b H2 => Drew p a H' H2 ∧ (b = true → run < (lost : Int))) (fun b H2 h => ?_) (fun R hR => ?_)
      · obtain ⟨e2, hb⟩ := h
        have w2 := w1.trans e2
        have hB2 := hB1.drew w1.at_ e2 nB
        refine c_bool (fun e => ?_) (fun e => ?_)
        · have hlt := hb e
          obtain ⟨us, hus, tus⟩ := hB2
          have hul := tus.len
          rw [List.length_map] at hul
          wtm_at "jw"
          intro T hT
          have tT : TD K (upd H2 T (.tup [])) (.ref T) (fD []) := TD.new hT .nil
          have hus3 := same_new (o := .tup []) hT _ _ hus
          have tus3 := tus.same (same_new (o := .tup []) hT)
          have w3 := w2.new (o := .tup []) hT
          generalize upd H2 T (.tup []) = H3 at w3 tT hus3 tus3 ⊢
          have hsm : us.length < sizeLine := small1000 (by omega)
          wtm_at "jw"
          refine ⟨w3.put d0 hBL, F ++ [[]], run + 1, _, _, by rw [List.map_append]; exact LD.snoc hus3 tus3 tT, by simp [hFl], fun f hf => ?_, ?_, rfl⟩
          · rcases List.mem_append.mp hf with hf | hf
            · exact hFb f hf
            · exact .inl (List.mem_singleton.mp hf)
          · rw [List.map_append, List.foldl_append, hrun]
            show (if run + 1 > (lost : Int) then none else some (run + 1)) = some (run + 1)
            rw [if_neg (by omega)]
        · wtm_at "jw"
          refine drawL w2 (by omega) (by omega) fun x H3 x0 x1 e3 w3 => ?_
          have hB3 := hB2.drew w2.at_ e3 nB
          wtm_at "jw"
          refine drawL w3 (by decide) (by decide) fun z H4 _ _ e4 w4 => ?_
          have hB4 := hB3.drew w3.at_ e4 nB
          wtm_at "jw"
          refine c_dec (fun hz => ?_) (fun hz => ?_)
          · wtm_at "jw"
            refine drawL w4 (by omega) (by omega) fun y H5 y0 y1 e5 w5 => ?_
            obtain ⟨us, hus, tus⟩ := hB4.drew w4.at_ e5 nB
            have hul := tus.len
            rw [List.length_map] at hul
            wtm_at "jw"
            intro T hT
            have tT : TD K (upd H5 T (.tup [.int x, .int (x + y)])) (.ref T) (fD [x, x + y]) := TD.new hT (.cons (.int _) (.cons (.int _) .nil))
            have hus3 := same_new (o := .tup [.int x, .int (x + y)]) hT _ _ hus
            have tus3 := tus.same (same_new (o := .tup [.int x, .int (x + y)]) hT)
            have w6 := w5.new (o := .tup [.int x, .int (x + y)]) hT
            generalize upd H5 T (.tup [.int x, .int (x + y)]) = H6 at w6 tT hus3 tus3 ⊢
            have hsm : us.length < sizeLine := small1000 (by omega)
            wtm_at "jw"
            refine ⟨w6.put d0 hBL, F ++ [[x, x + y]], 0, _, _, by rw [List.map_append]; exact LD.snoc hus3 tus3 tT, by simp [hFl], fun f hf => ?_, ?_, rfl⟩
            · rcases List.mem_append.mp hf with hf | hf
              · exact hFb f hf
              · exact .inr (.inr ⟨x, x + y, x0, by omega, by omega, List.mem_singleton.mp hf⟩)
            · rw [List.map_append, List.foldl_append, hrun]
              rfl
          · obtain ⟨us, hus, tus⟩ := hB4
            have hul := tus.len
            rw [List.length_map] at hul
            wtm_at "jw"
            intro T hT
            have tT : TD K (upd H4 T (.tup [.int x])) (.ref T) (fD [x]) := TD.new hT (.cons (.int _) .nil)
            have hus3 := same_new (o := .tup [.int x]) hT _ _ hus
            have tus3 := tus.same (same_new (o := .tup [.int x]) hT)
            have w6 := w4.new (o := .tup [.int x]) hT
            generalize upd H4 T (.tup [.int x]) = H6 at w6 tT hus3 tus3 ⊢
            have hsm : us.length < sizeLine := small1000 (by omega)
            wtm_at "jw"
            refine ⟨w6.put d0 hBL, F ++ [[x]], 0, _, _, by rw [List.map_append]; exact LD.snoc hus3 tus3 tT, by simp [hFl], fun f hf => ?_, ?_, rfl⟩
            · rcases List.mem_append.mp hf with hf | hf
              · exact hFb f hf
              · exact .inr (.inl ⟨x, x0, by omega, List.mem_singleton.mp hf⟩)
            · rw [List.map_append, List.foldl_append, hrun]
              rfl
      · wtm_at "jw"
        refine c_dec (fun h => ?_) (fun h => ?_)
        · wtm_at "jw"
          refine drawL w1 (by decide) (by decide) fun z H3 _ _ e3 w3 => ?_
          wtm_at "jw"
          exact hR _ _ ⟨e3, fun _ => h⟩
        · wtm_at "jw"
          exact hR _ _ ⟨w1.at_.drew, fun h => by cases h⟩
    · obtain ⟨w1, F, run, v6, v7, ⟨us, hus, tus⟩, hFl, hFb, hrun, rfl⟩ := h
      wtm_at "jw"
      intro T hT
      exact q _ F _ (w1.new hT) (TD.new hT tus) (by simpa using hFl) ⟨hFb, run, hrun⟩
def RndP (fr late lost : Nat) (c : PyData) : Prop := ∃ F, c = fsD F ∧ F.length = fr ∧ GoodF late lost F
def sp__law_road (K : PySem.W.Frag) : Sp := fun vs H Q _ => ∃ (p a : Addr) (S R fr late lost : Nat), vs = [.ref p, .int (S : Int), .int (R : Int), .int (fr : Int), .int (late : Int), .int (lost : Int)] ∧ DrawAt H p a ∧ S < 1000 ∧ R < 1000 ∧ fr < 1000 ∧ late < 1000 ∧ ∀ v d H', Drew p a H H' → TD K H' v d → RoadP S R (RndP fr late lost) d → Q v H'
theorem ok__law_road {P : Program} {w : World} {K : PySem.W.Frag} {mg : Str → Option Value} {base : Heap} {f : Addr} {fd : FuncData} (F : Df K mg "_law_road" s__law_road f fd ["d", "seats", "receivers", "frames", "late", "lost"]) (T : Txt mg)
    (c__law_fates : Cl P w K mg base 2 "_law_fates" (sp__law_fates K)) : FnOk P w K mg base CX0 3 f fd ["d", "seats", "receivers", "frames", "late", "lost"] (sp__law_road K) := by
  refine F.ok sc__law_road (fun vs H Q E h => ?_) (fun cdv A outer s H vs Q E hr h => ?_)
  · obtain ⟨p, a, S, R, fr, late, lost, rfl, _⟩ := h
    rfl
  · obtain ⟨p, a, S, R, fr, late, lost, rfl, d0, S1, R1, f1, l1, q⟩ := h
    refine ⟨_, (pss_cons (ps_set (i := 6) sc__law_road.nd rfl (Or.inl rfl) (pe_lst pa_nil))
      (pss_cons (ps_for PassesOwn.never rfl (pi_range1 rfl T.b_range (pa_cons (pv 1) pa_nil)) (pg_name (i := 7) sc__law_road.nd rfl (Or.inl rfl)) (pss_cons (ps_set (i := 8) sc__law_road.nd rfl (Or.inl rfl) (pe_lst pa_nil))
      (pss_cons (ps_for PassesOwn.never rfl (pi_range1 rfl T.b_range (pa_cons (pv 2) pa_nil)) (pg_name (i := 9) sc__law_road.nd rfl (Or.inl rfl)) (pss_one (ps_if (pt_cmpR op_eq (pv 9) (pv 7) (nomark _)) (pss_one (ps_expr (pe_bmK (K := K) rfl PySem.F.plainAttrs_list PySem.F.slot_list_append PySem.F.type_list_append mt_append (pv 8) (pa_cons (pe_tup pa_nil) pa_nil)))) (pss_one (ps_expr (pe_bmK (K := K) rfl PySem.F.plainAttrs_list PySem.F.slot_list_append PySem.F.type_list_append mt_append (pv 8) (pa_cons (pe_cl c__law_fates hr (by decide) rfl (pa_cons (pv 0) (pa_cons (pv 3) (pa_cons (pv 4) (pa_cons (pv 5) pa_nil))))) pa_nil)))))))
      (pss_one (ps_expr (pe_bmK (K := K) rfl PySem.F.plainAttrs_list PySem.F.slot_list_append PySem.F.type_list_append mt_append (pv 6) (pa_cons (pe_callTy (T := "tuple") (r := rTupOf K) c_tup (by rfl) T.b_tuple (by decide +kernel) (pa_cons (pv 8) pa_nil)) pa_nil)))))))
      (pss_one (ps_ret (pe_callTy (T := "tuple") (r := rTupOf K) c_tup (by rfl) T.b_tuple (by decide +kernel) (pa_cons (pv 6) pa_nil)))))), ?_⟩
    try dsimp only [cxOf, Cx.nox, Cx.wish]
    refine st_of (σ' := [some _, some _, some _, some _, some _, some _, none, none, none, none]) rfl ?_
    wtm_at "jw"
    intro BL hBL
    have nB := d0.ne_none hBL
    wtm_at "jw"
    refine f_range (fun i σ H' => Drew p a H H' ∧ ∃ (ds : List PyData) (v7 v8 v9 : Option V), LD K H' BL ds ∧ ds.length = i ∧ AllI (RowP R (RndP fr late lost)) ds ∧
        σ = [some (.ref p), some (.int (S : Int)), some (.int (R : Int)), some (.int (fr : Int)), some (.int (late : Int)), some (.int (lost : Int)), some (.ref BL), v7, v8, v9])
      ⟨d0.drew.new hBL, [], none, none, none, .new hBL .nil, rfl, .nil, rfl⟩ (fun i σ H' hi h => ?_) (fun σ H' h => ?_)
    · obtain ⟨w1, ds, v7, v8, v9, hB1, hdl, hds, rfl⟩ := h
      rw [Int.zero_add]
      have hi' : i < S := by simpa using hi
      wtm_at "jw"
      intro CL hCL
      have CLH := w1.free hCL
      have nC := d0.ne_none CLH
      have nCB : BL ≠ CL := by
        obtain ⟨us, hus, _⟩ := hB1
        exact ne_of_none hus hCL
      wtm_at "jw"
      refine f_range (fun j σ H' => Drew p a H H' ∧ LD K H' BL ds ∧ ∃ (cs : List PyData) (v9 : Option V), LD K H' CL cs ∧ cs.length = j ∧ AllI (CellP (RndP fr late lost) i) cs ∧
          σ = [some (.ref p), some (.int (S : Int)), some (.int (R : Int)), some (.int (fr : Int)), some (.int (late : Int)), some (.int (lost : Int)), some (.ref BL), some (.int (i : Int)), some (.ref CL), v9])
        ⟨w1.new hCL, hB1.same (same_new hCL), [], v9, .new hCL .nil, rfl, .nil, rfl⟩ (fun j σ H' hj h => ?_) (fun σ H' h => ?_)
      · obtain ⟨w2, hB2, cs, v9, hC2, hcl, hcs, rfl⟩ := h
        rw [Int.zero_add]
        have hj' : j < R := by simpa using hj
        wtm_at "jw"
        refine c_dec (fun h => ?_) (fun h => ?_)
        · obtain ⟨us, hus, tus⟩ := hC2
          have hul := tus.len
          wtm_at "jw"
          intro T hT
          have tT : TD K (upd H' T (.tup [])) (.ref T) (.tuple []) := TD.new hT .nil
          have s3 := same_new (o := .tup []) hT
          have hus3 := s3 _ _ hus
          have tus3 := tus.same s3
          have w3 := w2.same s3
          have hB3 := hB2.same s3
          generalize upd H' T (.tup []) = H3 at w3 tT hus3 tus3 hB3 ⊢
          have hsm : us.length < sizeLine := small1000 (by omega)
          wtm_at "jw"
          exact ⟨w3.put d0 CLH, hB3.kp Kp.upd hus3 nCB, cs ++ [.tuple []], _, LD.snoc hus3 tus3 tT, by simp [hcl], hcs.snoc ⟨fun _ => rfl, fun n => absurd (show cs.length = i by omega) n⟩, rfl⟩
        · wtm_at "jw"
          refine ⟨p, a, fr, late, lost, rfl, w2.at_, f1, l1, fun v F H3 e3 tv fl gf => ?_⟩
          have hB3 := hB2.drew w2.at_ e3 nB
          obtain ⟨us, hus, tus⟩ := hC2.drew w2.at_ e3 nC
          have hul := tus.len
          have hsm : us.length < sizeLine := small1000 (by omega)
          wtm_at "jw"
          exact ⟨(w2.trans e3).put d0 CLH, hB3.kp Kp.upd hus nCB, cs ++ [fsD F], _, LD.snoc hus tus tv, by simp [hcl], hcs.snoc ⟨fun e => absurd (show (j : Int) = i by omega) h, fun _ => ⟨F, rfl, fl, gf⟩⟩, rfl⟩
      · obtain ⟨w2, ⟨us, hus, tus⟩, cs, v9, ⟨us2, hus2, tus2⟩, hcl, hcs, rfl⟩ := h
        have hul := tus.len
        wtm_at "jw"
        intro T hT
        have tT : TD K (upd H' T (.tup us2)) (.ref T) (.tuple cs) := TD.new hT tus2
        have s3 := same_new (o := .tup us2) hT
        have hus3 := s3 _ _ hus
        have tus3 := tus.same s3
        have w3 := w2.same s3
        generalize upd H' T (.tup us2) = H3 at w3 tT hus3 tus3 ⊢
        have hsm : us.length < sizeLine := small1000 (by omega)
        wtm_at "jw"
        refine ⟨w3.put d0 hBL, ds ++ [.tuple cs], _, _, _, LD.snoc hus3 tus3 tT, by simp [hdl], hds.snoc ⟨cs, rfl, by simpa using hcl, by rw [hdl]; exact hcs⟩, rfl⟩
    · obtain ⟨w1, ds, v7, v8, v9, ⟨us, hus, tus⟩, hdl, hds, rfl⟩ := h
      wtm_at "jw"
      intro T hT
      exact q _ _ _ (w1.new hT) (TD.new hT tus) ⟨ds, rfl, by simpa using hdl, hds⟩

def sp_lateness (K : PySem.W.Frag) : Sp := fun vs H Q _ => ∃ (d l : Int), vs = [.int d, .int l] ∧ Q (.int (d + l)) H
theorem ok_lateness {P : Program} {w : World} {K : PySem.W.Frag} {mg : Str → Option Value} {base : Heap} {f : Addr} {fd : FuncData} (F : Df K mg "lateness" s_lateness f fd ["d", "l"]) (T : Txt mg) : FnOk P w K mg base CX0 1 f fd ["d", "l"] (sp_lateness K) := by
  refine F.ok sc_lateness (fun vs H Q E h => ?_) (fun cdv A outer s H vs Q E hr h => ?_)
  · obtain ⟨d, l, rfl, _⟩ := h
    rfl
  · obtain ⟨d, l, rfl, q⟩ := h
    refine ⟨_, (pss_one (ps_ret (pe_op op_add (pv 0) (pv 1)))), ?_⟩
    try dsimp only [cxOf, Cx.nox, Cx.wish]
    refine st_of (σ' := [some _, some _]) rfl ?_
    wtm_at "jw"
    exact q
def sp__law_rare (K : PySem.W.Frag) : Sp := fun vs H Q _ => ∃ (p a : Addr) (m : Int), vs = [.ref p, .int m] ∧ DrawAt H p a ∧ 0 < m ∧ m < 1000 ∧ ∀ b H', Drew p a H H' → Q (.bl b) H'
theorem ok__law_rare {P : Program} {w : World} {K : PySem.W.Frag} {mg : Str → Option Value} {base : Heap} {f : Addr} {fd : FuncData} (F : Df K mg "_law_rare" s__law_rare f fd ["d", "many"]) (T : Txt mg)
    (c__law_draw : Cl P w K mg base 1 "_law_draw" (sp__law_draw K)) : FnOk P w K mg base CX0 2 f fd ["d", "many"] (sp__law_rare K) := by
  refine F.ok sc__law_rare (fun vs H Q E h => ?_) (fun cdv A outer s H vs Q E hr h => ?_)
  · obtain ⟨p, a, m, rfl, _⟩ := h
    rfl
  · obtain ⟨p, a, m, rfl, d0, h0, h1, q⟩ := h
    refine ⟨_, (pss_one (ps_ret (pe_cmpR op_eq (pe_cl c__law_draw hr (by decide) rfl (pa_cons (pv 0) (pa_cons (pv 1) pa_nil))) (pe_op op_fdiv (pv 1) pe_int) (nomark _)))), ?_⟩
    try dsimp only [cxOf, Cx.nox, Cx.wish]
    refine st_of (σ' := [some _, some _]) rfl ?_
    wtm_at "jw"
    refine drawL d0.drew (by omega) (by omega) fun z H' _ _ e w => ?_
    wtm_at "jw"
    exact q _ _ w
/-! ### the roads that are built -/
theorem rowC_step {R s j : Nat} {c : PyData} : (List.range (j + 1)).map (fun r => if r = s then PyData.tuple [] else c) = (List.range j).map (fun r => if r = s then PyData.tuple [] else c) ++ [if j = s then PyData.tuple [] else c] := by
  rw [List.range_succ, List.map_append]
  rfl
theorem roadC_step {R i : Nat} {c : PyData} : (List.range (i + 1)).map (fun s => rowC R s c) = (List.range i).map (fun s => rowC R s c) ++ [rowC R i c] := by
  rw [List.range_succ, List.map_append]
  rfl
def sp_road_of (K : PySem.W.Frag) : Sp := fun vs H Q _ => ∃ (S R : Nat) (v : V) (c : PyData), vs = [.int (S : Int), .int (R : Int), v] ∧ TD K H v c ∧ S < 1000 ∧ R < 1000 ∧ ∀ r H', Same H H' → TD K H' r (roadC S R c) → Q r H'
theorem ok_road_of {P : Program} {w : World} {K : PySem.W.Frag} {mg : Str → Option Value} {base : Heap} {f : Addr} {fd : FuncData} (F : Df K mg "road_of" s_road_of f fd ["seats", "receivers", "fates"]) (T : Txt mg) : FnOk P w K mg base CX0 1 f fd ["seats", "receivers", "fates"] (sp_road_of K) := by
  refine F.ok sc_road_of (fun vs H Q E h => ?_) (fun cdv A outer s H vs Q E hr h => ?_)
  · obtain ⟨S, R, v, c, rfl, _⟩ := h
    rfl
  · obtain ⟨S, R, v, c, rfl, hv, S1, R1, q⟩ := h
    refine ⟨_, (pss_cons (ps_set (i := 3) sc_road_of.nd rfl (Or.inl rfl) (pe_lst pa_nil))
      (pss_cons (ps_for PassesOwn.never rfl (pi_range1 rfl T.b_range (pa_cons (pv 0) pa_nil)) (pg_name (i := 4) sc_road_of.nd rfl (Or.inl rfl)) (pss_cons (ps_set (i := 5) sc_road_of.nd rfl (Or.inl rfl) (pe_lst pa_nil))
      (pss_cons (ps_for PassesOwn.never rfl (pi_range1 rfl T.b_range (pa_cons (pv 1) pa_nil)) (pg_name (i := 6) sc_road_of.nd rfl (Or.inl rfl)) (pss_one (ps_expr (pe_bmK (K := K) rfl PySem.F.plainAttrs_list PySem.F.slot_list_append PySem.F.type_list_append mt_append (pv 5) (pa_cons (pe_ifExp (pt_cmpR op_eq (pv 6) (pv 4) (nomark _)) (pe_tup pa_nil) (pv 2)) pa_nil)))))
      (pss_one (ps_expr (pe_bmK (K := K) rfl PySem.F.plainAttrs_list PySem.F.slot_list_append PySem.F.type_list_append mt_append (pv 3) (pa_cons (pe_callTy (T := "tuple") (r := rTupOf K) c_tup (by rfl) T.b_tuple (by decide +kernel) (pa_cons (pv 5) pa_nil)) pa_nil)))))))
      (pss_one (ps_ret (pe_callTy (T := "tuple") (r := rTupOf K) c_tup (by rfl) T.b_tuple (by decide +kernel) (pa_cons (pv 3) pa_nil)))))), ?_⟩
    try dsimp only [cxOf, Cx.nox, Cx.wish]
    refine st_of (σ' := [some _, some _, some _, none, none, none, none]) rfl ?_
    wtm_at "jw"
    intro BL hBL
    wtm_at "jw"
    refine f_range (fun i σ H' => Same H H' ∧ LD K H' BL ((List.range i).map fun s => rowC R s c) ∧ ∃ (v4 v5 v6 : Option V), σ = [some (.int (S : Int)), some (.int (R : Int)), some v, some (.ref BL), v4, v5, v6])
      ⟨same_new hBL, .new hBL .nil, none, none, none, rfl⟩ (fun i σ H' hi h => ?_) (fun σ H' h => ?_)
    · obtain ⟨s1, hB1, v4, v5, v6, rfl⟩ := h
      rw [Int.zero_add]
      have hi' : i < S := by simpa using hi
      wtm_at "jw"
      intro CL hCL
      have CLH := s1.free hCL
      have nCB : BL ≠ CL := by
        obtain ⟨us, hus, _⟩ := hB1
        exact ne_of_none hus hCL
      wtm_at "jw"
      refine f_range (fun j σ H' => Same H H' ∧ LD K H' BL ((List.range i).map fun s => rowC R s c) ∧ LD K H' CL ((List.range j).map fun r => if r = i then PyData.tuple [] else c) ∧ ∃ (v6 : Option V), σ = [some (.int (S : Int)), some (.int (R : Int)), some v, some (.ref BL), some (.int (i : Int)), some (.ref CL), v6])
        ⟨s1.trans (same_new hCL), hB1.same (same_new hCL), .new hCL .nil, v6, rfl⟩ (fun j σ H' hj h => ?_) (fun σ H' h => ?_)
      · obtain ⟨s2, hB2, ⟨us, hus, tus⟩, v6, rfl⟩ := h
        rw [Int.zero_add]
        have hj' : j < R := by simpa using hj
        have hul := tus.len
        rw [List.length_map, List.length_range] at hul
        have hsm : us.length < sizeLine := small1000 (by omega)
        wtm_at "jw"
        refine c_dec (fun h => ?_) (fun h => ?_)
        · have h' : j = i := by omega
          wtm_at "jw"
          intro T hT
          have tT : TD K (upd H' T (.tup [])) (.ref T) (.tuple []) := TD.new hT .nil
          have s3 := same_new (o := .tup []) hT
          have hus3 := s3 _ _ hus
          have tus3 := tus.same s3
          have s4 := s2.trans s3
          have hB3 := hB2.same s3
          generalize upd H' T (.tup []) = H3 at s4 tT hus3 tus3 hB3 ⊢
          wtm_at "jw"
          refine ⟨put_same s4 CLH, hB3.kp Kp.upd hus3 nCB, ?_, _, rfl⟩
          rw [rowC_step (R := R), if_pos h']
          exact LD.snoc hus3 tus3 tT
        · have h' : ¬ j = i := by omega
          wtm_at "jw"
          refine ⟨put_same s2 CLH, hB2.kp Kp.upd hus nCB, ?_, _, rfl⟩
          rw [rowC_step (R := R), if_neg h']
          exact LD.snoc hus tus (hv.same s2)
      · obtain ⟨s2, ⟨us, hus, tus⟩, ⟨us2, hus2, tus2⟩, v6, rfl⟩ := h
        rw [show ((R : Nat) : Int).toNat = R from Int.toNat_natCast R] at tus2
        have hul := tus.len
        rw [List.length_map, List.length_range] at hul
        wtm_at "jw"
        intro T hT
        have tT : TD K (upd H' T (.tup us2)) (.ref T) (rowC R i c) := TD.new hT tus2
        have s3 := same_new (o := .tup us2) hT
        have hus3 := s3 _ _ hus
        have tus3 := tus.same s3
        have s4 := s2.trans s3
        generalize upd H' T (.tup us2) = H3 at s4 tT hus3 tus3 ⊢
        have hsm : us.length < sizeLine := small1000 (by omega)
        wtm_at "jw"
        refine ⟨put_same s4 hBL, ?_, _, _, _, rfl⟩
        rw [roadC_step]
        exact LD.snoc hus3 tus3 tT
    · obtain ⟨s1, ⟨us, hus, tus⟩, v4, v5, v6, rfl⟩ := h
      rw [show ((S : Nat) : Int).toNat = S from Int.toNat_natCast S] at tus
      wtm_at "jw"
      intro T hT
      exact q _ _ (s1.trans (same_new hT)) (TD.new hT tus)
def sp__law_all_ways (K : PySem.W.Frag) : Sp := fun vs H Q _ => ∃ (S R : Nat) (v : V) (c : PyData), vs = [.int (S : Int), .int (R : Int), v] ∧ TD K H v c ∧ S < 1000 ∧ R < 1000 ∧ ∀ r H', Same H H' → TD K H' r (roadC S R c) → Q r H'
theorem ok__law_all_ways {P : Program} {w : World} {K : PySem.W.Frag} {mg : Str → Option Value} {base : Heap} {f : Addr} {fd : FuncData} (F : Df K mg "_law_all_ways" s__law_all_ways f fd ["seats", "receivers", "fates"]) (T : Txt mg) : FnOk P w K mg base CX0 1 f fd ["seats", "receivers", "fates"] (sp__law_all_ways K) := by
  refine F.ok sc__law_all_ways (fun vs H Q E h => ?_) (fun cdv A outer s H vs Q E hr h => ?_)
  · obtain ⟨S, R, v, c, rfl, _⟩ := h
    rfl
  · obtain ⟨S, R, v, c, rfl, hv, S1, R1, q⟩ := h
    refine ⟨_, (pss_cons (ps_set (i := 3) sc__law_all_ways.nd rfl (Or.inl rfl) (pe_lst pa_nil))
      (pss_cons (ps_for PassesOwn.never rfl (pi_range1 rfl T.b_range (pa_cons (pv 0) pa_nil)) (pg_name (i := 4) sc__law_all_ways.nd rfl (Or.inr rfl)) (pss_one (ps_expr (pe_bmK (K := K) rfl PySem.F.plainAttrs_list PySem.F.slot_list_append PySem.F.type_list_append mt_append (pv 3) (pa_cons (pe_callTy (T := "tuple") (r := rTupOf K) c_tup (by rfl) T.b_tuple (by decide +kernel) (pa_cons (pe_lc (own := [("receiver", 5)]) (g := gName 5) (tt := tYes) rfl sc__law_all_ways.nd (pi_range1 rfl T.b_range (pa_cons (pv 1) pa_nil)) (blkOk_by (own := [("receiver", 5)]) (N := N__law_all_ways) (sc := defScope s__law_all_ways) (by decide +kernel)) (fun _ _ _ _ _ => (pg_name (i := 5) sc__law_all_ways.nd rfl (Or.inl rfl))) (fun _ _ _ _ _ => pts_nil) (fun _ _ _ _ _ => (pe_ifExp (pt_cmpR op_eq (pv 5) (pv 4) (nomark _)) (pe_tup pa_nil) (pv 2)))) pa_nil)) pa_nil)))))
      (pss_one (ps_ret (pe_callTy (T := "tuple") (r := rTupOf K) c_tup (by rfl) T.b_tuple (by decide +kernel) (pa_cons (pv 3) pa_nil)))))), ?_⟩
    try dsimp only [cxOf, Cx.nox, Cx.wish]
    refine st_of (σ' := [some _, some _, some _, none, none, none]) rfl ?_
    wtm_at "jw"
    intro BL hBL
    wtm_at "jw"
    refine f_range (fun i σ H' => Same H H' ∧ LD K H' BL ((List.range i).map fun s => rowC R s c) ∧ ∃ (v4 v5 : Option V), σ = [some (.int (S : Int)), some (.int (R : Int)), some v, some (.ref BL), v4, v5])
      ⟨same_new hBL, .new hBL .nil, none, none, rfl⟩ (fun i σ H' hi h => ?_) (fun σ H' h => ?_)
    · obtain ⟨s1, hB1, v4, v5, rfl⟩ := h
      rw [Int.zero_add]
      have hi' : i < S := by simpa using hi
      wtm_at "jw"
      intro CL hCL
      have CLH := s1.free hCL
      have nCB : BL ≠ CL := by
        obtain ⟨us, hus, _⟩ := hB1
        exact ne_of_none hus hCL
      refine l_range (fun j H' => Same H H' ∧ LD K H' BL ((List.range i).map fun s => rowC R s c) ∧ LD K H' CL ((List.range j).map fun r => if r = i then PyData.tuple [] else c))
        ⟨s1.trans (same_new hCL), hB1.same (same_new hCL), .new hCL .nil⟩ (fun j H' hj h => ?_) (fun H' h => ?_)
      · obtain ⟨s2, hB2, us, hus, tus⟩ := h
        rw [Int.zero_add]
        have hj' : j < R := by simpa using hj
        have hul := tus.len
        rw [List.length_map, List.length_range] at hul
        have hsm : us.length < sizeLine := small1000 (by omega)
        wtm_at "jw"
        refine ⟨rfl, ?_⟩
        wtm_at "jw"
        refine c_dec (fun h => ?_) (fun h => ?_)
        · have h' : j = i := by omega
          wtm_at "jw"
          intro T hT
          have tT : TD K (upd H' T (.tup [])) (.ref T) (.tuple []) := TD.new hT .nil
          have s3 := same_new (o := .tup []) hT
          refine ⟨us, s3 _ _ hus, hsm, put_same (s2.trans s3) CLH, (hB2.same s3).kp Kp.upd (s3 _ _ hus) nCB, ?_⟩
          rw [rowC_step (R := R), if_pos h']
          exact LD.snoc (s3 _ _ hus) (tus.same s3) tT
        · have h' : ¬ j = i := by omega
          wtm_at "jw"
          refine ⟨us, hus, hsm, put_same s2 CLH, hB2.kp Kp.upd hus nCB, ?_⟩
          rw [rowC_step (R := R), if_neg h']
          exact LD.snoc hus tus (hv.same s2)
      · obtain ⟨s2, ⟨us, hus, tus⟩, us2, hus2, tus2⟩ := h
        rw [show ((R : Nat) : Int).toNat = R from Int.toNat_natCast R] at tus2
        have hul := tus.len
        rw [List.length_map, List.length_range] at hul
        wtm_at "jw"
        intro T hT
        have tT : TD K (upd H' T (.tup us2)) (.ref T) (rowC R i c) := TD.new hT tus2
        have s3 := same_new (o := .tup us2) hT
        have hus3 := s3 _ _ hus
        have tus3 := tus.same s3
        have s4 := s2.trans s3
        generalize upd H' T (.tup us2) = H3 at s4 tT hus3 tus3 ⊢
        have hsm : us.length < sizeLine := small1000 (by omega)
        wtm_at "jw"
        refine ⟨put_same s4 hBL, ?_, _, _, rfl⟩
        rw [roadC_step]
        exact LD.snoc hus3 tus3 tT
    · obtain ⟨s1, ⟨us, hus, tus⟩, v4, v5, rfl⟩ := h
      rw [show ((S : Nat) : Int).toNat = S from Int.toNat_natCast S] at tus
      wtm_at "jw"
      intro T hT
      exact q _ _ (s1.trans (same_new hT)) (TD.new hT tus)
/-- a row of fates that is made frame by frame -/
theorem TD.fs {K : PySem.W.Frag} {H : Hp} {xs : List V} {T : Addr} {F : List (List Int)} (hT : H T = none) (h : TDs K H xs (F.map fD)) : TD K (upd H T (.tup xs)) (.ref T) (fsD F) := TD.new hT h
theorem range_map_snoc {α : Type} (f : Nat → α) (i : Nat) : (List.range (i + 1)).map f = (List.range i).map f ++ [f i] := by
  rw [List.range_succ, List.map_append]
  rfl
theorem straight_range (fr : Nat) : straightF fr = (List.range fr).map fun _ => [(0 : Int)] := by
  unfold straightF
  rw [List.map_const', List.length_range]
theorem mod_iff (f l : Nat) : ((f : Int) % ((l : Int) + 1) = (l : Int)) ↔ f % (l + 1) = l := by
  rw [show ((l : Int) + 1) = ((l + 1 : Nat) : Int) from rfl, ← Int.natCast_emod]
  omega
def sp_straight_fates (K : PySem.W.Frag) : Sp := fun vs H Q _ => ∃ (fr : Nat), vs = [.int (fr : Int)] ∧ fr < 1000 ∧ ∀ r H', Same H H' → TD K H' r (fsD (straightF fr)) → Q r H'
theorem ok_straight_fates {P : Program} {w : World} {K : PySem.W.Frag} {mg : Str → Option Value} {base : Heap} {f : Addr} {fd : FuncData} (F : Df K mg "straight_fates" s_straight_fates f fd ["frames"]) (T : Txt mg) : FnOk P w K mg base CX0 1 f fd ["frames"] (sp_straight_fates K) := by
  refine F.ok sc_straight_fates (fun vs H Q E h => ?_) (fun cdv A outer s H vs Q E hr h => ?_)
  · obtain ⟨fr, rfl, _⟩ := h
    rfl
  · obtain ⟨fr, rfl, f1, q⟩ := h
    refine ⟨_, (pss_one (ps_ret (pe_callTy (T := "tuple") (r := rTupOf K) c_tup (by rfl) T.b_tuple (by decide +kernel) (pa_cons (pe_lc (own := [("frame", 1)]) (g := gName 1) (tt := tYes) rfl sc_straight_fates.nd (pi_range1 rfl T.b_range (pa_cons (pv 0) pa_nil)) (blkOk_by (own := [("frame", 1)]) (N := N_straight_fates) (sc := defScope s_straight_fates) (by decide +kernel)) (fun _ _ _ _ _ => (pg_name (i := 1) sc_straight_fates.nd rfl (Or.inl rfl))) (fun _ _ _ _ _ => pts_nil) (fun _ _ _ _ _ => (pe_tup (pa_cons pe_int pa_nil)))) pa_nil)))), ?_⟩
    try dsimp only [cxOf, Cx.nox, Cx.wish]
    refine st_of (σ' := [some _, none]) rfl ?_
    wtm_at "jw"
    intro CL hCL
    refine l_range (fun j H' => Same H H' ∧ LD K H' CL (((List.range j).map fun _ => [(0 : Int)]).map fD)) ⟨same_new hCL, .new hCL .nil⟩ (fun j H' hj h => ?_) (fun H' h => ?_)
    · obtain ⟨s2, us, hus, tus⟩ := h
      have hj' : j < fr := by simpa using hj
      have hul := tus.len
      rw [List.length_map, List.length_map, List.length_range] at hul
      wtm_at "jw"
      refine ⟨rfl, ?_⟩
      wtm_at "jw"
      intro T hT
      have tT : TD K (upd H' T (.tup [.int 0])) (.ref T) (fD [0]) := TD.new hT (.cons (.int _) .nil)
      have s3 := same_new (o := .tup [.int 0]) hT
      refine ⟨us, s3 _ _ hus, small1000 (by omega), put_same (s2.trans s3) hCL, ?_⟩
      rw [range_map_snoc, List.map_append]
      exact LD.snoc (s3 _ _ hus) (tus.same s3) tT
    · obtain ⟨s2, us, hus, tus⟩ := h
      rw [show ((fr : Nat) : Int).toNat = fr from Int.toNat_natCast fr, ← straight_range] at tus
      wtm_at "jw"
      intro T hT
      exact q _ _ (s2.trans (same_new hT)) (TD.fs hT tus)
def sp_straight_road (K : PySem.W.Frag) : Sp := fun vs H Q _ => ∃ (S R fr : Nat), vs = [.int (S : Int), .int (R : Int), .int (fr : Int)] ∧ S < 1000 ∧ R < 1000 ∧ fr < 1000 ∧ ∀ r H', Same H H' → TD K H' r (roadC S R (fsD (straightF fr))) → Q r H'
theorem ok_straight_road {P : Program} {w : World} {K : PySem.W.Frag} {mg : Str → Option Value} {base : Heap} {f : Addr} {fd : FuncData} (F : Df K mg "straight_road" s_straight_road f fd ["seats", "receivers", "frames"]) (T : Txt mg)
    (c_road_of : Cl P w K mg base 1 "road_of" (sp_road_of K))
    (c_straight_fates : Cl P w K mg base 1 "straight_fates" (sp_straight_fates K)) : FnOk P w K mg base CX0 2 f fd ["seats", "receivers", "frames"] (sp_straight_road K) := by
  refine F.ok sc_straight_road (fun vs H Q E h => ?_) (fun cdv A outer s H vs Q E hr h => ?_)
  · obtain ⟨S, R, fr, rfl, _⟩ := h
    rfl
  · obtain ⟨S, R, fr, rfl, S1, R1, f1, q⟩ := h
    refine ⟨_, (pss_one (ps_ret (pe_cl c_road_of hr (by decide) rfl (pa_cons (pv 0) (pa_cons (pv 1) (pa_cons (pe_cl c_straight_fates hr (by decide) rfl (pa_cons (pv 2) pa_nil)) pa_nil)))))), ?_⟩
    try dsimp only [cxOf, Cx.nox, Cx.wish]
    refine st_of (σ' := [some _, some _, some _]) rfl ?_
    wtm_at "jw"
    refine ⟨fr, rfl, f1, fun r H1 s1 t1 => ?_⟩
    wtm_at "jw"
    refine ⟨S, R, r, _, rfl, t1, S1, R1, fun r2 H2 s2 t2 => ?_⟩
    exact q _ _ (s1.trans s2) t2
def sp_late_road (K : PySem.W.Frag) : Sp := fun vs H Q _ => ∃ (S R fr d l : Nat), vs = [.int (S : Int), .int (R : Int), .int (fr : Int), .int (d : Int), .int (l : Int)] ∧ S < 1000 ∧ R < 1000 ∧ fr < 1000 ∧ ∀ r H', Same H H' → TD K H' r (roadC S R (fsD (lateF fr d l))) → Q r H'
theorem ok_late_road {P : Program} {w : World} {K : PySem.W.Frag} {mg : Str → Option Value} {base : Heap} {f : Addr} {fd : FuncData} (F : Df K mg "late_road" s_late_road f fd ["seats", "receivers", "frames", "d", "l"]) (T : Txt mg)
    (c_road_of : Cl P w K mg base 1 "road_of" (sp_road_of K)) : FnOk P w K mg base CX0 2 f fd ["seats", "receivers", "frames", "d", "l"] (sp_late_road K) := by
  refine F.ok sc_late_road (fun vs H Q E h => ?_) (fun cdv A outer s H vs Q E hr h => ?_)
  · obtain ⟨S, R, fr, d, l, rfl, _⟩ := h
    rfl
  · obtain ⟨S, R, fr, d, l, rfl, S1, R1, f1, q⟩ := h
    refine ⟨_, (pss_cons (ps_set (i := 5) sc_late_road.nd rfl (Or.inl rfl) (pe_callTy (T := "tuple") (r := rTupOf K) c_tup (by rfl) T.b_tuple (by decide +kernel) (pa_cons (pe_lc (own := [("frame", 6)]) (g := gName 6) (tt := tYes) rfl sc_late_road.nd (pi_range1 rfl T.b_range (pa_cons (pv 2) pa_nil)) (blkOk_by (own := [("frame", 6)]) (N := N_late_road) (sc := defScope s_late_road) (by decide +kernel)) (fun _ _ _ _ _ => (pg_name (i := 6) sc_late_road.nd rfl (Or.inl rfl))) (fun _ _ _ _ _ => pts_nil) (fun _ _ _ _ _ => (pe_ifExp (pt_cmpR op_eq (pe_op op_mod (pv 6) (pe_op op_add (pv 4) pe_int)) (pv 4) (nomark _)) (pe_tup (pa_cons (pv 3) pa_nil)) (pe_tup pa_nil)))) pa_nil)))
      (pss_one (ps_ret (pe_cl c_road_of hr (by decide) rfl (pa_cons (pv 0) (pa_cons (pv 1) (pa_cons (pv 5) pa_nil))))))), ?_⟩
    try dsimp only [cxOf, Cx.nox, Cx.wish]
    refine st_of (σ' := [some _, some _, some _, some _, some _, none, none]) rfl ?_
    wtm_at "jw"
    intro CL hCL
    refine l_range (fun j H' => Same H H' ∧ LD K H' CL ((lateF j d l).map fD)) ⟨same_new hCL, .new hCL .nil⟩ (fun j H' hj h => ?_) (fun H' h => ?_)
    · obtain ⟨s2, us, hus, tus⟩ := h
      have hj' : j < fr := by simpa using hj
      have hul := tus.len
      rw [List.length_map, lateF_len] at hul
      have hsm : us.length < sizeLine := small1000 (by omega)
      have est : lateF (j + 1) d l = lateF j d l ++ [if j % (l + 1) = l then [(d : Int)] else []] := range_map_snoc _ j
      rw [Int.zero_add]
      wtm_at "jw"
      refine ⟨rfl, ?_⟩
      wtm_at "jw"
      refine c_dec (fun h => ?_) (fun h => ?_)
      · rw [if_pos ((mod_iff j l).mp h)] at est
        wtm_at "jw"
        intro T hT
        have tT : TD K (upd H' T (.tup [.int (d : Int)])) (.ref T) (fD [(d : Int)]) := TD.new hT (.cons (.int _) .nil)
        have s3 := same_new (o := .tup [.int (d : Int)]) hT
        refine ⟨us, s3 _ _ hus, hsm, put_same (s2.trans s3) hCL, ?_⟩
        rw [est, List.map_append]
        exact LD.snoc (s3 _ _ hus) (tus.same s3) tT
      · rw [if_neg (fun z => h ((mod_iff j l).mpr z))] at est
        wtm_at "jw"
        intro T hT
        have tT : TD K (upd H' T (.tup [])) (.ref T) (fD []) := TD.new hT .nil
        have s3 := same_new (o := .tup []) hT
        refine ⟨us, s3 _ _ hus, hsm, put_same (s2.trans s3) hCL, ?_⟩
        rw [est, List.map_append]
        exact LD.snoc (s3 _ _ hus) (tus.same s3) tT
    · obtain ⟨s2, us, hus, tus⟩ := h
      rw [show ((fr : Nat) : Int).toNat = fr from Int.toNat_natCast fr] at tus
      wtm_at "jw"
      intro T hT
      have tT := TD.fs hT tus
      have s3 := s2.trans (same_new (o := .tup us) hT)
      generalize upd H' T (.tup us) = H3 at tT s3 ⊢
      wtm_at "jw"
      refine ⟨S, R, _, _, rfl, tT, S1, R1, fun r2 H4 s4 t4 => ?_⟩
      exact q _ _ (s3.trans s4) t4
def spHid (K : PySem.W.Frag) : Sp := fun vs H Q _ => ∃ (fr d l first : Nat), vs = [.int (fr : Int), .int (d : Int), .int (l : Int), .int (first : Int)] ∧ fr < 1000 ∧ ∀ r H', Same H H' → TD K H' r (fsD (hidF fr d l first)) → Q r H'
def sp_hiding_fates (K : PySem.W.Frag) : Sp := spHid K
theorem ok_hiding_fates {P : Program} {w : World} {K : PySem.W.Frag} {mg : Str → Option Value} {base : Heap} {f : Addr} {fd : FuncData} (F : Df K mg "hiding_fates" s_hiding_fates f fd ["frames", "d", "l", "first"]) (T : Txt mg) : FnOk P w K mg base CX0 1 f fd ["frames", "d", "l", "first"] (sp_hiding_fates K) := by
  refine F.ok sc_hiding_fates (fun vs H Q E h => ?_) (fun cdv A outer s H vs Q E hr h => ?_)
  · obtain ⟨fr, d, l, first, rfl, _⟩ := h
    rfl
  · obtain ⟨fr, d, l, first, rfl, f1, q⟩ := h
    refine ⟨_, (pss_cons (ps_set (i := 4) sc_hiding_fates.nd rfl (Or.inl rfl) (pe_lst pa_nil))
      (pss_cons (ps_for PassesOwn.never rfl (pi_range1 rfl T.b_range (pa_cons (pv 0) pa_nil)) (pg_name (i := 5) sc_hiding_fates.nd rfl (Or.inl rfl)) (pss_one (ps_if (pt_cmpR op_lt (pv 5) (pv 3) (nomark _)) (pss_one (ps_expr (pe_bmK (K := K) rfl PySem.F.plainAttrs_list PySem.F.slot_list_append PySem.F.type_list_append mt_append (pv 4) (pa_cons (pe_tup (pa_cons pe_int pa_nil)) pa_nil)))) (pss_one (ps_if (pt_cmpR op_lt (pv 5) (pe_op op_add (pv 3) (pv 2)) (nomark _)) (pss_one (ps_expr (pe_bmK (K := K) rfl PySem.F.plainAttrs_list PySem.F.slot_list_append PySem.F.type_list_append mt_append (pv 4) (pa_cons (pe_tup pa_nil) pa_nil)))) (pss_one (ps_expr (pe_bmK (K := K) rfl PySem.F.plainAttrs_list PySem.F.slot_list_append PySem.F.type_list_append mt_append (pv 4) (pa_cons (pe_tup (pa_cons (pv 1) pa_nil)) pa_nil)))))))))
      (pss_one (ps_ret (pe_callTy (T := "tuple") (r := rTupOf K) c_tup (by rfl) T.b_tuple (by decide +kernel) (pa_cons (pv 4) pa_nil)))))), ?_⟩
    try dsimp only [cxOf, Cx.nox, Cx.wish]
    refine st_of (σ' := [some _, some _, some _, some _, none, none]) rfl ?_
    wtm_at "jw"
    intro BL hBL
    wtm_at "jw"
    refine f_range (fun j σ H' => Same H H' ∧ LD K H' BL ((hidF j d l first).map fD) ∧ ∃ (v5 : Option V), σ = [some (.int (fr : Int)), some (.int (d : Int)), some (.int (l : Int)), some (.int (first : Int)), some (.ref BL), v5])
      ⟨same_new hBL, .new hBL .nil, none, rfl⟩ (fun j σ H' hj h => ?_) (fun σ H' h => ?_)
    · obtain ⟨s2, ⟨us, hus, tus⟩, v5, rfl⟩ := h
      have hj' : j < fr := by simpa using hj
      have hul := tus.len
      rw [List.length_map, hidF_len] at hul
      have hsm : us.length < sizeLine := small1000 (by omega)
      have est : hidF (j + 1) d l first = hidF j d l first ++ [if j < first then [0] else if j < first + l then [] else [(d : Int)]] := range_map_snoc _ j
      have put : ∀ (xs : List Int) (T : Addr), H' T = none → hidF (j + 1) d l first = hidF j d l first ++ [xs] → Same H (upd (upd H' T (.tup (xs.map V.int))) BL (.lst (us ++ [.ref T]))) ∧ LD K (upd (upd H' T (.tup (xs.map V.int))) BL (.lst (us ++ [.ref T]))) BL ((hidF (j + 1) d l first).map fD) := fun xs T hT e => by
        have s3 := same_new (o := .tup (xs.map V.int)) hT
        refine ⟨put_same (s2.trans s3) hBL, ?_⟩
        rw [e, List.map_append]
        exact LD.snoc (s3 _ _ hus) (tus.same s3) (TD.new hT (TDs.ints xs))
      rw [Int.zero_add]
      wtm_at "jw"
      refine c_dec (fun h => ?_) (fun h => ?_)
      · rw [if_pos (by omega)] at est
        wtm_at "jw"
        intro T hT
        have p1 := put [0] T hT est
        have hus3 := same_new (o := .tup [.int 0]) hT _ _ hus
        wtm_at "jw"
        exact ⟨p1.1, p1.2, _, rfl⟩
      · rw [if_neg (by omega)] at est
        wtm_at "jw"
        refine c_dec (fun h => ?_) (fun h => ?_)
        · rw [if_pos (by omega)] at est
          wtm_at "jw"
          intro T hT
          have p1 := put [] T hT est
          have hus3 := same_new (o := .tup []) hT _ _ hus
          wtm_at "jw"
          exact ⟨p1.1, p1.2, _, rfl⟩
        · rw [if_neg (by omega)] at est
          wtm_at "jw"
          intro T hT
          have p1 := put [(d : Int)] T hT est
          have hus3 := same_new (o := .tup [.int (d : Int)]) hT _ _ hus
          wtm_at "jw"
          exact ⟨p1.1, p1.2, _, rfl⟩
    · obtain ⟨s2, ⟨us, hus, tus⟩, v5, rfl⟩ := h
      rw [show ((fr : Nat) : Int).toNat = fr from Int.toNat_natCast fr] at tus
      wtm_at "jw"
      intro T hT
      exact q _ _ (s2.trans (same_new hT)) (TD.fs hT tus)
def sp__law_hiding (K : PySem.W.Frag) : Sp := spHid K
theorem ok__law_hiding {P : Program} {w : World} {K : PySem.W.Frag} {mg : Str → Option Value} {base : Heap} {f : Addr} {fd : FuncData} (F : Df K mg "_law_hiding" s__law_hiding f fd ["frames", "late", "lost", "first"]) (T : Txt mg) : FnOk P w K mg base CX0 1 f fd ["frames", "late", "lost", "first"] (sp__law_hiding K) := by
  refine F.ok sc__law_hiding (fun vs H Q E h => ?_) (fun cdv A outer s H vs Q E hr h => ?_)
  · obtain ⟨fr, d, l, first, rfl, _⟩ := h
    rfl
  · obtain ⟨fr, d, l, first, rfl, f1, q⟩ := h
    refine ⟨_, (pss_cons (ps_set (i := 4) sc__law_hiding.nd rfl (Or.inl rfl) (pe_lst pa_nil))
      (pss_cons (ps_for PassesOwn.never rfl (pi_range1 rfl T.b_range (pa_cons (pv 0) pa_nil)) (pg_name (i := 5) sc__law_hiding.nd rfl (Or.inl rfl)) (pss_one (ps_if (pt_cmpR op_lt (pv 5) (pv 3) (nomark _)) (pss_one (ps_expr (pe_bmK (K := K) rfl PySem.F.plainAttrs_list PySem.F.slot_list_append PySem.F.type_list_append mt_append (pv 4) (pa_cons (pe_tup (pa_cons pe_int pa_nil)) pa_nil)))) (pss_one (ps_if (pt_cmpR op_ge (pe_op op_sub (pv 5) (pv 3)) (pv 2) (nomark _)) (pss_one (ps_expr (pe_bmK (K := K) rfl PySem.F.plainAttrs_list PySem.F.slot_list_append PySem.F.type_list_append mt_append (pv 4) (pa_cons (pe_tup (pa_cons (pv 1) pa_nil)) pa_nil)))) (pss_one (ps_expr (pe_bmK (K := K) rfl PySem.F.plainAttrs_list PySem.F.slot_list_append PySem.F.type_list_append mt_append (pv 4) (pa_cons (pe_tup pa_nil) pa_nil)))))))))
      (pss_one (ps_ret (pe_callTy (T := "tuple") (r := rTupOf K) c_tup (by rfl) T.b_tuple (by decide +kernel) (pa_cons (pv 4) pa_nil)))))), ?_⟩
    try dsimp only [cxOf, Cx.nox, Cx.wish]
    refine st_of (σ' := [some _, some _, some _, some _, none, none]) rfl ?_
    wtm_at "jw"
    intro BL hBL
    wtm_at "jw"
    refine f_range (fun j σ H' => Same H H' ∧ LD K H' BL ((hidF j d l first).map fD) ∧ ∃ (v5 : Option V), σ = [some (.int (fr : Int)), some (.int (d : Int)), some (.int (l : Int)), some (.int (first : Int)), some (.ref BL), v5])
      ⟨same_new hBL, .new hBL .nil, none, rfl⟩ (fun j σ H' hj h => ?_) (fun σ H' h => ?_)
    · obtain ⟨s2, ⟨us, hus, tus⟩, v5, rfl⟩ := h
      have hj' : j < fr := by simpa using hj
      have hul := tus.len
      rw [List.length_map, hidF_len] at hul
      have hsm : us.length < sizeLine := small1000 (by omega)
      have est : hidF (j + 1) d l first = hidF j d l first ++ [if j < first then [0] else if j < first + l then [] else [(d : Int)]] := range_map_snoc _ j
      have put : ∀ (xs : List Int) (T : Addr), H' T = none → hidF (j + 1) d l first = hidF j d l first ++ [xs] → Same H (upd (upd H' T (.tup (xs.map V.int))) BL (.lst (us ++ [.ref T]))) ∧ LD K (upd (upd H' T (.tup (xs.map V.int))) BL (.lst (us ++ [.ref T]))) BL ((hidF (j + 1) d l first).map fD) := fun xs T hT e => by
        have s3 := same_new (o := .tup (xs.map V.int)) hT
        refine ⟨put_same (s2.trans s3) hBL, ?_⟩
        rw [e, List.map_append]
        exact LD.snoc (s3 _ _ hus) (tus.same s3) (TD.new hT (TDs.ints xs))
      rw [Int.zero_add]
      wtm_at "jw"
      refine c_dec (fun h => ?_) (fun h => ?_)
      · rw [if_pos (by omega)] at est
        wtm_at "jw"
        intro T hT
        have p1 := put [0] T hT est
        have hus3 := same_new (o := .tup [.int 0]) hT _ _ hus
        wtm_at "jw"
        exact ⟨p1.1, p1.2, _, rfl⟩
      · rw [if_neg (by omega)] at est
        wtm_at "jw"
        refine c_dec (fun h => ?_) (fun h => ?_)
        · rw [if_neg (by omega)] at est
          wtm_at "jw"
          intro T hT
          have p1 := put [(d : Int)] T hT est
          have hus3 := same_new (o := .tup [.int (d : Int)]) hT _ _ hus
          wtm_at "jw"
          exact ⟨p1.1, p1.2, _, rfl⟩
        · rw [if_pos (by omega)] at est
          wtm_at "jw"
          intro T hT
          have p1 := put [] T hT est
          have hus3 := same_new (o := .tup []) hT _ _ hus
          wtm_at "jw"
          exact ⟨p1.1, p1.2, _, rfl⟩
    · obtain ⟨s2, ⟨us, hus, tus⟩, v5, rfl⟩ := h
      rw [show ((fr : Nat) : Int).toNat = fr from Int.toNat_natCast fr] at tus
      wtm_at "jw"
      intro T hT
      exact q _ _ (s2.trans (same_new hT)) (TD.fs hT tus)
def sp_hiding_road (K : PySem.W.Frag) : Sp := fun vs H Q _ => ∃ (S R fr d l first : Nat), vs = [.int (S : Int), .int (R : Int), .int (fr : Int), .int (d : Int), .int (l : Int), .int (first : Int)] ∧ S < 1000 ∧ R < 1000 ∧ fr < 1000 ∧ ∀ r H', Same H H' → TD K H' r (roadC S R (fsD (hidF fr d l first))) → Q r H'
theorem ok_hiding_road {P : Program} {w : World} {K : PySem.W.Frag} {mg : Str → Option Value} {base : Heap} {f : Addr} {fd : FuncData} (F : Df K mg "hiding_road" s_hiding_road f fd ["seats", "receivers", "frames", "d", "l", "first"]) (T : Txt mg)
    (c_road_of : Cl P w K mg base 1 "road_of" (sp_road_of K))
    (c_hiding_fates : Cl P w K mg base 1 "hiding_fates" (sp_hiding_fates K)) : FnOk P w K mg base CX0 2 f fd ["seats", "receivers", "frames", "d", "l", "first"] (sp_hiding_road K) := by
  refine F.ok sc_hiding_road (fun vs H Q E h => ?_) (fun cdv A outer s H vs Q E hr h => ?_)
  · obtain ⟨S, R, fr, d, l, first, rfl, _⟩ := h
    rfl
  · obtain ⟨S, R, fr, d, l, first, rfl, S1, R1, f1, q⟩ := h
    refine ⟨_, (pss_one (ps_ret (pe_cl c_road_of hr (by decide) rfl (pa_cons (pv 0) (pa_cons (pv 1) (pa_cons (pe_cl c_hiding_fates hr (by decide) rfl (pa_cons (pv 2) (pa_cons (pv 3) (pa_cons (pv 4) (pa_cons (pv 5) pa_nil))))) pa_nil)))))), ?_⟩
    try dsimp only [cxOf, Cx.nox, Cx.wish]
    refine st_of (σ' := [some _, some _, some _, some _, some _, some _]) rfl ?_
    wtm_at "jw"
    refine ⟨fr, d, l, first, rfl, f1, fun r H1 s1 t1 => ?_⟩
    wtm_at "jw"
    refine ⟨S, R, r, _, rfl, t1, S1, R1, fun r2 H2 s2 t2 => ?_⟩
    exact q _ _ (s1.trans s2) t2
/-! ### the same data -/
def NI : Nat → PyData → Prop
  | 0, d => ∃ ns : List Int, d = .tuple (ns.map PyData.int) ∧ ns.length < 1000
  | n + 1, d => ∃ ds : List PyData, d = .tuple ds ∧ ds.length < 1000 ∧ ∀ x ∈ ds, NI n x
def sameS : Nat → PySem.W.Frag → Sp
  | 0, _ => fun _ _ _ _ => False
  | n + 1, K => fun vs H Q _ => ∃ (x y : V) (d : PyData), vs = [x, y] ∧ TD K H x d ∧ TD K H y d ∧ NI n d ∧ Q (.bl true) H
def sp__law_is_same (K : PySem.W.Frag) : Sp := sameS 4 K
theorem ok__law_is_same {P : Program} {w : World} {K : PySem.W.Frag} {mg : Str → Option Value} {base : Heap} {f : Addr} {fd : FuncData} (F : Df K mg "_law_is_same" s__law_is_same f fd ["told", "due"]) (T : Txt mg)
    (c__law_is_int : Cl P w K mg base 1 "_law_is_int" (sp__law_is_int K)) : FnOk P w K mg base CX0 5 f fd ["told", "due"] (sp__law_is_same K) := by
  have step : ∀ n, FnOk P w K mg base CX0 (n + 1) f fd ["told", "due"] (sameS n K) := by
    intro n
    induction n with
    | zero => exact F.ok sc__law_is_same (fun vs H Q E h => h.elim) (fun cdv A outer s H vs Q E hr h => h.elim)
    | succ n ih =>
      have c__law_is_same := F.cl ih
      refine F.ok sc__law_is_same (fun vs H Q E h => ?_) (fun cdv A outer s H vs Q E hr h => ?_)
      · obtain ⟨x, y, d, rfl, _⟩ := h
        rfl
      · obtain ⟨x, y, d, rfl, hx, hy, hd, q⟩ := h
        refine ⟨_, (pss_cons (ps_if (PW.pt (pw_or (pt_not (pt_val (pe_callB (id := "isinstance") (r := rIsi K) call_isi (by rfl) T.b_isinstance (by decide +kernel) (pa_cons (pv 0) (pa_cons (pe_bltn (v := .ty "tuple") (u := Value.type "tuple") (by rfl) T.b_tuple (by decide +kernel) rfl) pa_nil))))) (pw_or1 (pt_cmpR op_ne (pe_callB (id := "len") (r := qLen K) c_len (by rfl) T.b_len (by decide +kernel) (pa_cons (pv 0) pa_nil)) (pe_callB (id := "len") (r := qLen K) c_len (by rfl) T.b_len (by decide +kernel) (pa_cons (pv 1) pa_nil)) (nomark _))))) (pss_one (ps_ret pe_bl)) pss_nil)
      (pss_cons (ps_for PassesOwn.never rfl (pi_range1 rfl T.b_range (pa_cons (pe_callB (id := "len") (r := qLen K) c_len (by rfl) T.b_len (by decide +kernel) (pa_cons (pv 1) pa_nil)) pa_nil)) (pg_name (i := 2) sc__law_is_same.nd rfl (Or.inl rfl)) (pss_one (ps_if (pt_val (pe_callB (id := "isinstance") (r := rIsi K) call_isi (by rfl) T.b_isinstance (by decide +kernel) (pa_cons (pe_ix (r := rIxT K) ix_tup (pv 1) (pv 2) (fun _ _ => rfl)) (pa_cons (pe_bltn (v := .ty "tuple") (u := Value.type "tuple") (by rfl) T.b_tuple (by decide +kernel) rfl) pa_nil)))) (pss_one (ps_if (pt_not (pt_val (pe_cl c__law_is_same hr (by omega) rfl (pa_cons (pe_ix (r := rIxT K) ix_tup (pv 0) (pv 2) (fun _ _ => rfl)) (pa_cons (pe_ix (r := rIxT K) ix_tup (pv 1) (pv 2) (fun _ _ => rfl)) pa_nil))))) (pss_one (ps_ret pe_bl)) pss_nil)) (pss_one (ps_if (PW.pt (pw_or (pt_not (pt_val (pe_cl c__law_is_int hr (by omega) rfl (pa_cons (pe_ix (r := rIxT K) ix_tup (pv 0) (pv 2) (fun _ _ => rfl)) pa_nil)))) (pw_or1 (pt_cmpR op_ne (pe_ix (r := rIxT K) ix_tup (pv 0) (pv 2) (fun _ _ => rfl)) (pe_ix (r := rIxT K) ix_tup (pv 1) (pv 2) (fun _ _ => rfl)) (nomark _))))) (pss_one (ps_ret pe_bl)) pss_nil)))))
      (pss_one (ps_ret pe_bl)))), ?_⟩
        try dsimp only [cxOf, Cx.nox, Cx.wish]
        refine st_of (σ' := [some _, some _, none]) rfl ?_
        cases n with
        | zero =>
          obtain ⟨ns, rfl, hnl⟩ := hd
          have hml : (ns.map PyData.int).length < 1000 := by rw [List.length_map]; exact hnl
          wtm_at "jw"
          refine i_isiTup hx ?_
          unfold isTup
          wtm_at "jw"
          refine c_noN rfl ?_
          wtm_at "jw"
          refine f_range (fun i σ H' => H' = H ∧ ∃ v2, σ = [some x, some y, v2]) ⟨rfl, none, rfl⟩ (fun i σ H' hi h => ?_) (fun σ H' h => ?_)
          · obtain ⟨rfl, v2, rfl⟩ := h
            rw [Int.zero_add]
            have hi' : i < ns.length := by simpa using hi
            have ei : (ns.map PyData.int)[((i : Nat) : Int).toNat]? = some (.int ns[i]) := by rw [Int.toNat_natCast, List.getElem?_map, List.getElem?_eq_getElem hi']; rfl
            have i0 : (0 : Int) ≤ (i : Int) := by omega
            wtm_at "jw"
            refine i_isi (b := false) (.base (.int _)) rfl ?_
            wtm_at "jw"
            refine ⟨_, rfl, ?_⟩
            wtm_at "jw"
            refine c_noN rfl ?_
            wtm_at "jw"
            exact ⟨rfl, _, rfl⟩
          · obtain ⟨rfl, v2, rfl⟩ := h
            wtm_at "jw"
            exact q
        | succ n =>
          obtain ⟨ds, rfl, hdl, hds⟩ := hd
          wtm_at "jw"
          refine i_isiTup hx ?_
          unfold isTup
          wtm_at "jw"
          refine c_noN rfl ?_
          wtm_at "jw"
          refine f_range (fun i σ H' => H' = H ∧ ∃ v2, σ = [some x, some y, v2]) ⟨rfl, none, rfl⟩ (fun i σ H' hi h => ?_) (fun σ H' h => ?_)
          · obtain ⟨rfl, v2, rfl⟩ := h
            rw [Int.zero_add]
            have hi' : i < ds.length := by simpa using hi
            have ei : ds[((i : Nat) : Int).toNat]? = some ds[i] := by rw [Int.toNat_natCast, List.getElem?_eq_getElem hi']
            have i0 : (0 : Int) ≤ (i : Int) := by omega
            have hn := hds ds[i] (List.getElem_mem hi')
            have ht : isTup ds[i] = true := by
              cases n with
              | zero => obtain ⟨_, e, _⟩ := hn; rw [e]; rfl
              | succ n => obtain ⟨_, e, _⟩ := hn; rw [e]; rfl
            generalize ds[i] = d at ei hn ht
            wtm_at "js"
            refine i_ifS ?_
            wtm_at "js"
            refine i_isiTup (d := d) (by assumption) ?_
            rw [ht]
            wtm_at "jw"
            refine ⟨_, _, d, rfl, by assumption, by assumption, hn, ?_⟩
            wtm_at "jw"
            exact ⟨rfl, _, rfl⟩
          · obtain ⟨rfl, v2, rfl⟩ := h
            wtm_at "jw"
            exact q
  exact step 4
theorem ni_fsD {F : List (List Int)} (h : F.length < 1000) (h2 : ∀ f ∈ F, f.length < 1000) : NI 1 (fsD F) := ⟨_, rfl, by rw [List.length_map]; exact h, fun x hx => by
  obtain ⟨f, hf, rfl⟩ := List.mem_map.mp hx
  exact ⟨f, rfl, h2 f hf⟩⟩
theorem ni_roadC {S R : Nat} {F : List (List Int)} (hS : S < 1000) (hR : R < 1000) (h : F.length < 1000) (h2 : ∀ f ∈ F, f.length < 1000) : NI 3 (roadC S R (fsD F)) := ⟨_, rfl, by simpa using hS, fun x hx => by
  obtain ⟨s, _, rfl⟩ := List.mem_map.mp hx
  refine ⟨_, rfl, by simpa using hR, fun y hy => ?_⟩
  obtain ⟨r, _, rfl⟩ := List.mem_map.mp hy
  split
  · exact ⟨[], rfl, by decide, fun z hz => by cases hz⟩
  · exact ni_fsD h h2⟩
theorem short_straight (fr : Nat) : ∀ f ∈ straightF fr, f.length < 1000 := fun f hf => by
  rw [(List.mem_replicate.mp hf).2]
  decide
theorem short_late (fr d l : Nat) : ∀ f ∈ lateF fr d l, f.length < 1000 := fun f hf => by
  obtain ⟨g, _, rfl⟩ := List.mem_map.mp hf
  split <;> simp
theorem short_hid (fr d l first : Nat) : ∀ f ∈ hidF fr d l first, f.length < 1000 := fun f hf => by
  obtain ⟨g, _, rfl⟩ := List.mem_map.mp hf
  split
  · simp
  · split <;> simp
theorem shp_fs (F : List (List Int)) : Shp 2 (fsD F) := Shp.tup fun d hd => by
  obtain ⟨f, _, rfl⟩ := List.mem_map.mp hd
  exact shp_ints f
theorem shp_road {S R : Nat} {P : PyData → Prop} {d : PyData} (h : RoadP S R P d) (hP : ∀ c, P c → Shp 2 c) : Shp 20 d := by
  obtain ⟨rows, rfl, _, hr⟩ := h
  refine (Shp.tup (n := 3) fun row hrow => ?_).mono (by decide)
  obtain ⟨s, hs⟩ := List.getElem?_of_mem hrow
  obtain ⟨cells, rfl, _, hc⟩ := hr s row hs
  refine Shp.tup fun c hcm => ?_
  obtain ⟨r, hr'⟩ := List.getElem?_of_mem hcm
  obtain ⟨h1, h2⟩ := hc r c hr'
  by_cases e : r = s
  · rw [h1 e]
    exact (Shp.tup (n := 0) fun _ h => by cases h).mono (by decide)
  · exact hP c (h2 e)
def numsV (S R fr : Nat) : List V := [.int (S : Int), .int (R : Int), .int (fr : Int)]
def sp__law_is_let (K : PySem.W.Frag) : Sp := fun vs H Q _ => ∃ (v : V) (na : Addr) (d : PyData) (S R fr : Nat) (dl l : Int) (due : Bool), vs = [v, .ref na, .int dl, .int l, .bl due] ∧ TD K H v d ∧ Shp 20 d ∧ SqT K H na [.int (S : Int), .int (R : Int), .int (fr : Int)] ∧ S < 1000 ∧ R < 1000 ∧ roadB S R fr dl l d = due ∧ ∀ H', Same H H' → Q (.bl true) H'
theorem ok__law_is_let {P : Program} {w : World} {K : PySem.W.Frag} {mg : Str → Option Value} {base : Heap} {f : Addr} {fd : FuncData} (F : Df K mg "_law_is_let" s__law_is_let f fd ["road", "numbers", "late", "lost", "due"]) (T : Txt mg)
    (c_is_road : Cl P w K mg base 6 "is_road" (sp_is_road K)) : FnOk P w K mg base CX0 7 f fd ["road", "numbers", "late", "lost", "due"] (sp__law_is_let K) := by
  refine F.ok sc__law_is_let (fun vs H Q E h => ?_) (fun cdv A outer s H vs Q E hr h => ?_)
  · obtain ⟨v, na, d, S, R, fr, dl, l, due, rfl, _⟩ := h
    rfl
  · obtain ⟨v, na, d, S, R, fr, dl, l, due, rfl, hv, shp, hn, S1, R1, hb, q⟩ := h
    refine ⟨_, (pss_cons (ps_asg (pv 1) (pg_tupK (K := K) rfl rfl (pgs_cons (pg_name (i := 5) sc__law_is_let.nd rfl (Or.inl rfl)) (pgs_cons (pg_name (i := 6) sc__law_is_let.nd rfl (Or.inl rfl)) (pgs_cons (pg_name (i := 7) sc__law_is_let.nd rfl (Or.inl rfl)) pgs_nil)))))
      (pss_cons (ps_set (i := 8) sc__law_is_let.nd rfl (Or.inl rfl) (pe_cl c_is_road hr (by decide) rfl (pa_cons (pv 0) (pa_cons (pv 5) (pa_cons (pv 6) (pa_cons (pv 7) (pa_cons (pv 2) (pa_cons (pv 3) pa_nil))))))))
      (pss_one (ps_ret (pe_and (pe_callB (id := "isinstance") (r := rIsi K) call_isi (by rfl) T.b_isinstance (by decide +kernel) (pa_cons (pv 8) (pa_cons (pe_bltn (v := .ty "bool") (u := Value.type "bool") (by rfl) T.b_bool (by decide +kernel) rfl) pa_nil))) (pe_one (pe_cmpR op_eq (pv 8) (pv 4) (nomark _)))))))), ?_⟩
    try dsimp only [cxOf, Cx.nox, Cx.wish]
    refine st_of (σ' := [some _, some _, some _, some _, some _, none, none, none, none]) rfl ?_
    wtm_at "jw"
    refine ⟨v, d, S, R, fr, dl, l, rfl, hv, shp, S1, R1, fun H1 s1 => ?_⟩
    rw [hb]
    wtm_at "jw"
    refine i_isi (.base (.bl _)) rfl ?_
    wtm_at "jw"
    rw [show decide (due = due) = true from decide_eq_true rfl]
    exact q _ s1
def sp__law_is_tight (K : PySem.W.Frag) : Sp := fun vs H Q _ => ∃ (v : V) (na : Addr) (d : PyData) (S R fr dl l : Nat) (cl rn : Bool), vs = [v, .ref na, .int (dl : Int), .int (l : Int), .bl cl, .bl rn] ∧ TD K H v d ∧ Shp 20 d ∧ SqT K H na [.int (S : Int), .int (R : Int), .int (fr : Int)] ∧ S < 1000 ∧ R < 1000 ∧
  roadB S R fr dl l d = true ∧ (0 < dl → roadB S R fr ((dl : Int) - 1) l d = !(decide (1 < R) && cl)) ∧ (0 < l → roadB S R fr dl ((l : Int) - 1) d = !(decide (1 < R) && rn)) ∧ ∀ H', Same H H' → Q (.bl true) H'
theorem ok__law_is_tight {P : Program} {w : World} {K : PySem.W.Frag} {mg : Str → Option Value} {base : Heap} {f : Addr} {fd : FuncData} (F : Df K mg "_law_is_tight" s__law_is_tight f fd ["road", "numbers", "late", "lost", "comes_late", "runs"]) (T : Txt mg)
    (c__law_is_let : Cl P w K mg base 7 "_law_is_let" (sp__law_is_let K)) : FnOk P w K mg base CX0 8 f fd ["road", "numbers", "late", "lost", "comes_late", "runs"] (sp__law_is_tight K) := by
  refine F.ok sc__law_is_tight (fun vs H Q E h => ?_) (fun cdv A outer s H vs Q E hr h => ?_)
  · obtain ⟨v, na, d, S, R, fr, dl, l, cl, rn, rfl, _⟩ := h
    rfl
  · obtain ⟨v, na, d, S, R, fr, dl, l, cl, rn, rfl, hv, shp, hn, S1, R1, hb, h1, h2, q⟩ := h
    have eR : decide ((R : Int) > 1) = decide (1 < R) := by
      rw [decide_eq_decide]
      omega
    refine ⟨_, (pss_cons (ps_set (i := 6) sc__law_is_tight.nd rfl (Or.inl rfl) (pe_cmpR op_gt (pe_ix (r := rIxT K) ix_tup (pv 1) pe_int (fun _ _ => rfl)) pe_int (nomark _)))
      (pss_cons (ps_if (pt_not (pt_val (pe_cl c__law_is_let hr (by decide) rfl (pa_cons (pv 0) (pa_cons (pv 1) (pa_cons (pv 2) (pa_cons (pv 3) (pa_cons pe_bl pa_nil)))))))) (pss_one (ps_ret pe_bl)) pss_nil)
      (pss_cons (ps_if (PW.pt (pw_and (pt_cmpR op_gt (pv 2) pe_int (nomark _)) (pw_and1 (pt_not (pt_val (pe_cl c__law_is_let hr (by decide) rfl (pa_cons (pv 0) (pa_cons (pv 1) (pa_cons (pe_op op_sub (pv 2) pe_int) (pa_cons (pv 3) (pa_cons (pe_not (pe_and (pv 6) (pe_one (pv 4)))) pa_nil))))))))))) (pss_one (ps_ret pe_bl)) pss_nil)
      (pss_one (ps_ret (pe_or (pe_cmpR op_eq (pv 3) pe_int (nomark _)) (pe_one (pe_cl c__law_is_let hr (by decide) rfl (pa_cons (pv 0) (pa_cons (pv 1) (pa_cons (pv 2) (pa_cons (pe_op op_sub (pv 3) pe_int) (pa_cons (pe_not (pe_and (pv 6) (pe_one (pv 5)))) pa_nil))))))))))))), ?_⟩
    try dsimp only [cxOf, Cx.nox, Cx.wish]
    refine st_of (σ' := [some _, some _, some _, some _, some _, some _, none]) rfl ?_
    wtm_at "jw"
    rw [eR]
    generalize decide (1 < R) = some' at h1 h2 ⊢
    refine ⟨v, na, d, S, R, fr, dl, l, true, rfl, hv, shp, hn, S1, R1, hb, fun H1 s1 => ?_⟩
    have hv1 := hv.same s1
    have hn1 := (Tps.of s1).sq hn
    have fin : ∀ H2, Same H1 H2 → TD K H2 v d → SqT K H2 na [.int (S : Int), .int (R : Int), .int (fr : Int)] →
        (if decide ((l : Int) = 0) = true then Q (V.bl true) H2 else tCall (sp__law_is_let K) [] E0 (tCons (tVar 0) (tCons (tVar 1) (tCons (tVar 2) (tCons (tOp (rI0 fun i j => V.int (i - j)) (tVar 3) (tC (V.int 1))) (tCons (tNotV (tAndV (tVar 6) (tVar 5))) tNil)))))
          [some v, some (.ref na), some (.int (dl : Int)), some (.int (l : Int)), some (.bl cl), some (.bl rn), some (.bl some')] H2 Q) := fun H2 s2 hv2 hn2 => by
      refine c_dec (fun h => ?_) (fun h => ?_)
      · exact q _ (s1.trans s2)
      · wtm_at "jw"
        have hl0 := h2 (by omega)
        cases some' with
        | true =>
          wtm_at "jw"
          exact ⟨v, na, d, S, R, fr, _, _, _, rfl, hv2, shp, hn2, S1, R1, by simpa using hl0, fun H3 s3 => q _ ((s1.trans s2).trans s3)⟩
        | false =>
          wtm_at "jw"
          exact ⟨v, na, d, S, R, fr, _, _, _, rfl, hv2, shp, hn2, S1, R1, by simpa using hl0, fun H3 s3 => q _ ((s1.trans s2).trans s3)⟩
    wtm_at "jw"
    refine c_dec (fun h => ?_) (fun h => ?_)
    · have hd0 := h1 (by omega)
      wtm_at "jw"
      cases some' with
      | true =>
        wtm_at "jw"
        refine ⟨v, na, d, S, R, fr, _, _, _, rfl, hv1, shp, hn1, S1, R1, by simpa using hd0, fun H2 s2 => ?_⟩
        wtm_at "js"
        exact fin H2 s2 (hv1.same s2) ((Tps.of s2).sq hn1)
      | false =>
        wtm_at "jw"
        refine ⟨v, na, d, S, R, fr, _, _, _, rfl, hv1, shp, hn1, S1, R1, by simpa using hd0, fun H2 s2 => ?_⟩
        wtm_at "js"
        exact fin H2 s2 (hv1.same s2) ((Tps.of s2).sq hn1)
    · wtm_at "js"
      exact fin H1 (Same.refl _) hv1 hn1
/-! ### when a letter is heard -/
theorem comes_succ (F : List (List Int)) (a j : Nat) : comesF F a (j + 1) = comesF F a j ++ (gF F (a + j)).map fun z => ((a + j : Nat) : Int) + z := by
  unfold comesF
  rw [List.range'_1_concat, List.flatMap_append]
  simp
def sp__law_heard (K : PySem.W.Frag) : Sp := fun vs H Q _ => ∃ (v : V) (F : List (List Int)) (a : Nat), vs = [v, .int (a : Int)] ∧ TD K H v (fsD F) ∧ F.length < 1000 ∧ a < 1000 ∧ Q (ovO (hF F a)) H
theorem ok__law_heard {P : Program} {w : World} {K : PySem.W.Frag} {mg : Str → Option Value} {base : Heap} {f : Addr} {fd : FuncData} (F : Df K mg "_law_heard" s__law_heard f fd ["fates", "first"]) (T : Txt mg) : FnOk P w K mg base CX0 1 f fd ["fates", "first"] (sp__law_heard K) := by
  refine F.ok sc__law_heard (fun vs H Q E h => ?_) (fun cdv A outer s H vs Q E hr h => ?_)
  · obtain ⟨v, F, a, rfl, _⟩ := h
    rfl
  · obtain ⟨v, FF, a, rfl, hv, F1, a1, q⟩ := h
    have hv' : TD K H v (.tuple (FF.map fD)) := hv
    refine ⟨_, (pss_cons (ps_set (i := 2) sc__law_heard.nd rfl (Or.inl rfl) pe_non)
      (pss_cons (ps_for PassesOwn.never rfl (pi_range2 rfl T.b_range (pa_cons (pv 1) (pa_cons (pe_callB (id := "len") (r := qLen K) c_len (by rfl) T.b_len (by decide +kernel) (pa_cons (pv 0) pa_nil)) pa_nil))) (pg_name (i := 3) sc__law_heard.nd rfl (Or.inl rfl)) (pss_one (ps_for PassesOwn.never rfl (pi_tup (pe_ix (r := rIxT K) ix_tup (pv 0) (pv 3) (fun _ _ => rfl))) (pg_name (i := 4) sc__law_heard.nd rfl (Or.inl rfl)) (pss_one (ps_if (PW.pt (pw_or (pt_cmpR o_isN (pv 2) pe_non (nomark _)) (pw_or1 (pt_cmpR op_lt (pe_op op_add (pv 3) (pv 4)) (pv 2) (nomark _))))) (pss_one (ps_set (i := 2) sc__law_heard.nd rfl (Or.inl rfl) (pe_op op_add (pv 3) (pv 4)))) pss_nil)))))
      (pss_one (ps_ret (pv 2))))), ?_⟩
    try dsimp only [cxOf, Cx.nox, Cx.wish]
    refine st_of (σ' := [some _, some _, none, none, none]) rfl ?_
    wtm_at "jw"
    refine f_range (fun j σ H' => H' = H ∧ ∃ v3 v4, σ = [some v, some (.int (a : Int)), some (ovO ((comesF FF a j).foldl hst none)), v3, v4]) ⟨rfl, none, none, rfl⟩ (fun j σ H' hj h => ?_) (fun σ H' h => ?_)
    · obtain ⟨rfl, v3, v4, rfl⟩ := h
      rw [List.length_map] at hj
      have hj' : a + j < FF.length := by omega
      rw [show ((a : Int) + ((j : Nat) : Int)) = ((a + j : Nat) : Int) by omega]
      have ej : (FF.map fD)[((a + j : Nat) : Int).toNat]? = some (fD (gF FF (a + j))) := by
        rw [Int.toNat_natCast, List.getElem?_map]
        unfold gF
        rw [List.getElem?_eq_getElem hj']
        rfl
      have j0 : (0 : Int) ≤ ((a + j : Nat) : Int) := by omega
      rw [comes_succ, List.foldl_append]
      generalize (comesF FF a j).foldl hst none = acc
      wtm_at "jw"
      rename_i y hy
      obtain ⟨b, xs, rfl, hS, hT⟩ := TD.tup_inv (show TD K H' y (.tuple ((gF FF (a + j)).map PyData.int)) from hy)
      rw [hT.ints_inv] at hS
      wtm_at "jw"
      refine f_tup (xs := (gF FF (a + j)).map V.int) (fun c σ H2 => H2 = H' ∧ ∃ v4, σ = [some v, some (.int (a : Int)), some (ovO ((((gF FF (a + j)).take c).map fun z => ((a + j : Nat) : Int) + z).foldl hst acc)), some (.int ((a + j : Nat) : Int)), v4])
        ⟨rfl, v4, rfl⟩ (fun c σ H2 _ h => by rw [h.1]; exact hS) (fun c x σ H2 hc h => ?_) (fun σ H2 h => ?_)
      · obtain ⟨rfl, v4, rfl⟩ := h
        obtain ⟨z, rfl, _, ht, _⟩ := ints_at hc
        rw [ht, List.map_append, List.foldl_append]
        generalize (((gF FF (a + j)).take c).map fun z => ((a + j : Nat) : Int) + z).foldl hst acc = b2
        show _
        cases b2 with
        | none =>
          unfold ovO
          wtm_at "jw"
          refine c_yes rfl ?_
          wtm_at "jw"
          exact ⟨rfl, _, rfl⟩
        | some w' =>
          unfold ovO
          wtm_at "jw"
          refine c_no (fun h => by cases h) ?_
          wtm_at "jw"
          refine c_dec (fun h => ?_) (fun h => ?_)
          · wtm_at "jw"
            refine ⟨rfl, some (.int z), ?_⟩
            rw [show List.foldl hst (some w') (List.map (fun z => ((a + j : Nat) : Int) + z) [z]) = some (((a + j : Nat) : Int) + z) from if_pos h]
          · wtm_at "jw"
            refine ⟨rfl, some (.int z), ?_⟩
            rw [show List.foldl hst (some w') (List.map (fun z => ((a + j : Nat) : Int) + z) [z]) = some w' from if_neg h]
      · obtain ⟨rfl, v4, rfl⟩ := h
        rw [List.length_map, List.take_length]
        exact ⟨rfl, _, _, rfl⟩
    · obtain ⟨rfl, v3, v4, rfl⟩ := h
      rw [show ((((List.map fD FF).length : Nat) : Int) - (a : Int)).toNat = FF.length - a by rw [List.length_map]; omega]
      wtm_at "jw"
      exact q
def sp__law_is_in_time (K : PySem.W.Frag) : Sp := fun vs H Q _ => ∃ (v : V) (F : List (List Int)) (lost most : Nat), vs = [v, .int (lost : Int), .int (most : Int)] ∧ TD K H v (fsD F) ∧ F.length < 1000 ∧ (∀ f, f < F.length → InT F lost most f) ∧ Q (.bl true) H
theorem ok__law_is_in_time {P : Program} {w : World} {K : PySem.W.Frag} {mg : Str → Option Value} {base : Heap} {f : Addr} {fd : FuncData} (F : Df K mg "_law_is_in_time" s__law_is_in_time f fd ["fates", "lost", "most"]) (T : Txt mg)
    (c__law_heard : Cl P w K mg base 1 "_law_heard" (sp__law_heard K)) : FnOk P w K mg base CX0 2 f fd ["fates", "lost", "most"] (sp__law_is_in_time K) := by
  refine F.ok sc__law_is_in_time (fun vs H Q E h => ?_) (fun cdv A outer s H vs Q E hr h => ?_)
  · obtain ⟨v, F, lost, most, rfl, _⟩ := h
    rfl
  · obtain ⟨v, FF, lost, most, rfl, hv, F1, hin, q⟩ := h
    have hv' : TD K H v (.tuple (FF.map fD)) := hv
    refine ⟨_, (pss_cons (ps_for PassesOwn.never rfl (pi_range1 rfl T.b_range (pa_cons (pe_callB (id := "len") (r := qLen K) c_len (by rfl) T.b_len (by decide +kernel) (pa_cons (pv 0) pa_nil)) pa_nil)) (pg_name (i := 3) sc__law_is_in_time.nd rfl (Or.inl rfl)) (pss_cons (ps_set (i := 4) sc__law_is_in_time.nd rfl (Or.inl rfl) (pe_cl c__law_heard hr (by decide) rfl (pa_cons (pv 0) (pa_cons (pv 3) pa_nil))))
      (pss_cons (ps_if (PW.pt (pw_and (pt_cmpR o_isN (pv 4) pe_non (nomark _)) (pw_and1 (pt_cmpR op_lt (pe_op op_add (pv 3) (pv 1)) (pe_callB (id := "len") (r := qLen K) c_len (by rfl) T.b_len (by decide +kernel) (pa_cons (pv 0) pa_nil)) (nomark _))))) (pss_one (ps_ret pe_bl)) pss_nil)
      (pss_one (ps_if (PW.pt (pw_and (pt_cmpR o_notN (pv 4) pe_non (nomark _)) (pw_and1 (pt_not (pt_chain op_le op_le (pv 3) (pv 4) (pe_op op_add (pv 3) (pv 2))))))) (pss_one (ps_ret pe_bl)) pss_nil)))))
      (pss_one (ps_ret pe_bl))), ?_⟩
    try dsimp only [cxOf, Cx.nox, Cx.wish]
    refine st_of (σ' := [some _, some _, some _, none, none]) rfl ?_
    wtm_at "jw"
    refine f_range (fun j σ H' => H' = H ∧ ∃ v3 v4, σ = [some v, some (.int (lost : Int)), some (.int (most : Int)), v3, v4]) ⟨rfl, none, none, rfl⟩ (fun j σ H' hj h => ?_) (fun σ H' h => ?_)
    · obtain ⟨rfl, v3, v4, rfl⟩ := h
      rw [List.length_map] at hj
      have hj' : j < FF.length := by omega
      rw [Int.zero_add]
      obtain ⟨i1, i2⟩ := hin j hj'
      wtm_at "jw"
      refine ⟨v, FF, j, rfl, hv, F1, by omega, ?_⟩
      cases e : hF FF j with
      | none =>
        have h3 := i1 e
        unfold ovO
        wtm_at "jw"
        refine c_yes rfl ?_
        wtm_at "jw"
        refine c_no (by rw [List.length_map]; omega) ?_
        wtm_at "jw"
        refine c_noN rfl ?_
        wtm_at "jw"
        exact ⟨rfl, _, _, rfl⟩
      | some b =>
        obtain ⟨h3, h4⟩ := i2 b e
        unfold ovO
        wtm_at "jw"
        refine c_no (fun h => by cases h) ?_
        wtm_at "jw"
        refine c_yesN (fun h => by cases h) ?_
        wtm_at "jw"
        refine c_yes h3 ?_
        wtm_at "jw"
        refine c_noN h4 ?_
        wtm_at "jw"
        exact ⟨rfl, _, _, rfl⟩
    · obtain ⟨rfl, v3, v4, rfl⟩ := h
      wtm_at "jw"
      exact q
theorem way_mod {s z R : Nat} (h2 : 2 ≤ R) (hs : s < R) (hz : z < R - 1) : (s + 1 + z) % R < R ∧ (s + 1 + z) % R ≠ s := by
  refine ⟨Nat.mod_lt _ (by omega), ?_⟩
  by_cases h : s + 1 + z < R
  · rw [Nat.mod_eq_of_lt h]
    omega
  · rw [Nat.mod_eq_sub_mod (by omega), Nat.mod_eq_of_lt (by omega)]
    omega
def sp__law_way (K : PySem.W.Frag) : Sp := fun vs H Q _ => ∃ (p a na : Addr) (v : V) (d : PyData) (S R fr : Nat) (P : PyData → Prop), vs = [.ref p, v, .ref na] ∧ DrawAt H p a ∧ TD K H v d ∧ SqT K H na [.int (S : Int), .int (R : Int), .int (fr : Int)] ∧ RoadP S R P d ∧ 1 ≤ S ∧ S ≤ R ∧ 2 ≤ R ∧ R < 1000 ∧ ∀ v' c H', Drew p a H H' → TD K H' v' c → P c → Q v' H'
theorem ok__law_way {P : Program} {w : World} {K : PySem.W.Frag} {mg : Str → Option Value} {base : Heap} {f : Addr} {fd : FuncData} (F : Df K mg "_law_way" s__law_way f fd ["d", "road", "numbers"]) (T : Txt mg)
    (c__law_draw : Cl P w K mg base 1 "_law_draw" (sp__law_draw K)) : FnOk P w K mg base CX0 2 f fd ["d", "road", "numbers"] (sp__law_way K) := by
  refine F.ok sc__law_way (fun vs H Q E h => ?_) (fun cdv A outer s H vs Q E hr h => ?_)
  · obtain ⟨p, a, na, v, d, S, R, fr, P, rfl, _⟩ := h
    rfl
  · obtain ⟨p, a, na, v, d, S, R, fr, PP, rfl, d0, hv, hn, ⟨rows, rfl, hl, hrows⟩, h1, h2, h3, R1, q⟩ := h
    refine ⟨_, (pss_cons (ps_asg (pv 2) (pg_tupK (K := K) rfl rfl (pgs_cons (pg_name (i := 3) sc__law_way.nd rfl (Or.inl rfl)) (pgs_cons (pg_name (i := 4) sc__law_way.nd rfl (Or.inl rfl)) (pgs_cons (pg_name (i := 5) sc__law_way.nd rfl (Or.inl rfl)) pgs_nil)))))
      (pss_cons (ps_set (i := 6) sc__law_way.nd rfl (Or.inl rfl) (pe_cl c__law_draw hr (by decide) rfl (pa_cons (pv 0) (pa_cons (pv 3) pa_nil))))
      (pss_one (ps_ret (pe_ix (r := rIxT K) ix_tup (pe_ix (r := rIxT K) ix_tup (pv 1) (pv 6) (fun _ _ => rfl)) (pe_op op_mod (pe_callTy (T := "int") c_int (by rfl) T.b_int (by decide +kernel) (pa_cons (pe_op op_add (pe_op op_add (pv 6) pe_int) (pe_cl c__law_draw hr (by decide) rfl (pa_cons (pv 0) (pa_cons (pe_op op_sub (pv 4) pe_int) pa_nil)))) pa_nil)) (pv 4)) (fun _ _ => rfl)))))), ?_⟩
    try dsimp only [cxOf, Cx.nox, Cx.wish]
    refine st_of (σ' := [some _, some _, some _, none, none, none, none]) rfl ?_
    wtm_at "jw"
    refine drawL d0.drew (by omega) (by omega) fun z H1 z0 z1 e1 w1 => ?_
    obtain ⟨zs, rfl⟩ := Int.eq_ofNat_of_zero_le z0
    have hv1 := hv.tps (w1.tps d0)
    have hzs : zs < S := by omega
    obtain ⟨cells, ec, hcl, hcells⟩ := hrows zs _ (gD_at (by omega))
    have es : rows[((zs : Nat) : Int).toNat]? = some (.tuple cells) := by rw [Int.toNat_natCast, gD_at (by omega), ec]
    wtm_at "jw"
    rename_i y hy
    refine drawL w1 (by omega) (by omega) fun z2 H2 z20 z21 e2 w2 => ?_
    obtain ⟨zr, rfl⟩ := Int.eq_ofNat_of_zero_le z20
    have hy2 := hy.tps (e2.tps w1.at_)
    obtain ⟨m1, m2⟩ := way_mod (s := zs) (z := zr) (R := R) h3 (by omega) (by omega)
    have em : ((zs : Int) + 1 + (zr : Int)) % (R : Int) = (((zs + 1 + zr) % R : Nat) : Int) := by
      rw [Int.natCast_emod]
      rfl
    have er : cells[(((zs : Int) + 1 + (zr : Int)) % (R : Int)).toNat]? = some (gD cells ((zs + 1 + zr) % R)) := by rw [em, Int.toNat_natCast, gD_at (by omega)]
    have er0 : 0 ≤ ((zs : Int) + 1 + (zr : Int)) % (R : Int) := by rw [em]; omega
    wtm_at "jw"
    rename_i y3 hy3
    exact q _ _ _ w2 hy3 ((hcells _ _ (gD_at (by omega))).2 m2)
def spKind (K : PySem.W.Frag) (p a na : Addr) (S R fr : Nat) (d0 : Hp) : Prop := DrawAt d0 p a ∧ SqT K d0 na [.int (S : Int), .int (R : Int), .int (fr : Int)] ∧ 1 ≤ S ∧ S ≤ R ∧ R < 1000 ∧ fr < 1000 ∧ fr ∈ frs
theorem not_one {R : Nat} {b : Bool} (h : R ≠ 1) : (b || decide (R = 1)) = b := by simp [h]
theorem tight_of {S R : Nat} {fr : Int} {dl l : Nat} {F : List (List Int)} {cl rn : Bool} (h1 : 1 ≤ S) (h2 : S ≤ R)
    (g1 : fatesB fr dl l (fsD F) = true) (g2 : 0 < dl → fatesB fr ((dl : Int) - 1) l (fsD F) = !cl) (g3 : 0 < l → fatesB fr dl ((l : Int) - 1) (fsD F) = !rn) :
    roadB S R fr dl l (roadC S R (fsD F)) = true ∧ (0 < dl → roadB S R fr ((dl : Int) - 1) l (roadC S R (fsD F)) = !(decide (1 < R) && cl)) ∧ (0 < l → roadB S R fr dl ((l : Int) - 1) (roadC S R (fsD F)) = !(decide (1 < R) && rn)) := by
  have key : ∀ (a b : Int) (x : Bool), fatesB fr a b (fsD F) = x → roadB S R fr a b (roadC S R (fsD F)) = (x || decide (R = 1)) := fun a b x h => roadP_B (roadC_P S R (fsD F)) (fun c hc => by rw [hc]; exact h) h1 h2
  have fin : ∀ x : Bool, (!x || decide (R = 1)) = !(decide (1 < R) && x) := fun x => by
    by_cases hR : R = 1
    · subst hR; simp
    · have : 1 < R := by omega
      simp [hR, this]
  refine ⟨by rw [key _ _ _ g1]; rfl, fun h => by rw [key _ _ _ (g2 h), fin], fun h => by rw [key _ _ _ (g3 h), fin]⟩
theorem chk_use {fr d l : Nat} {F : List (List Int)} {cl rn : Bool} (h : chkF fr d l F cl rn = true) :
    fatesB fr d l (fsD F) = true ∧ (0 < d → fatesB fr ((d : Int) - 1) l (fsD F) = !cl) ∧ (0 < l → fatesB fr d ((l : Int) - 1) (fsD F) = !rn) := by
  unfold chkF at h
  simp only [Bool.and_eq_true, Bool.or_eq_true, decide_eq_true_eq, beq_iff_eq] at h
  obtain ⟨h1, h2, h3⟩ := h
  refine ⟨h1, fun hd => ?_, fun hl => ?_⟩
  · rcases h2 with h2 | h2
    · omega
    · exact h2
  · rcases h3 with h3 | h3
    · omega
    · exact h3
theorem use_late {fr d l : Nat} (h : fr ∈ frs) (hd : d < 4) (hl : l < 4) : chkF fr d l (lateF fr d l) (decide (l < fr)) (decide (l ≤ fr)) = true := by
  have h1 := List.all_eq_true.mp chk_late fr h
  have h2 := List.all_eq_true.mp h1 d (List.mem_range.mpr hd)
  exact List.all_eq_true.mp h2 l (List.mem_range.mpr hl)
theorem use_hid {fr d l first : Nat} (h : fr ∈ frs) (hd : d < 4) (hl : l < 4) (hf : first ≤ fr) : chkF fr d l (hidF fr d l first) (decide (first + l < fr)) (decide (first + l ≤ fr)) = true := by
  have h1 := List.all_eq_true.mp chk_hid fr h
  have h2 := List.all_eq_true.mp h1 d (List.mem_range.mpr hd)
  have h3 := List.all_eq_true.mp h2 l (List.mem_range.mpr hl)
  exact List.all_eq_true.mp h3 first (List.mem_range.mpr (by omega))
theorem use_straight {fr d l : Nat} (h : fr ∈ frs) (hd : d < 4) (hl : l < 4) : fatesB fr d l (fsD (straightF fr)) = true := by
  have h1 := List.all_eq_true.mp chk_straight fr h
  unfold chkS at h1
  have h2 := List.all_eq_true.mp h1 d (List.mem_range.mpr hd)
  exact List.all_eq_true.mp h2 l (List.mem_range.mpr hl)
theorem frs_lt {fr : Nat} (h : fr ∈ frs) : 1 ≤ fr ∧ fr < 100 := by
  unfold frs at h
  simp at h
  omega
def sp__law_is_any (K : PySem.W.Frag) : Sp := fun vs H Q _ => ∃ (p a na : Addr) (S R fr late lost : Nat), vs = [.ref p, .ref na, .int (late : Int), .int (lost : Int), .int ((late : Int) + (lost : Int))] ∧ DrawAt H p a ∧ SqT K H na [.int (S : Int), .int (R : Int), .int (fr : Int)] ∧ 1 ≤ S ∧ S ≤ R ∧ R < 1000 ∧ fr ∈ frs ∧ late < 4 ∧ lost < 4 ∧ ∀ H', Drew p a H H' → Q (.bl true) H'
theorem ok__law_is_any {P : Program} {w : World} {K : PySem.W.Frag} {mg : Str → Option Value} {base : Heap} {f : Addr} {fd : FuncData} (F : Df K mg "_law_is_any" s__law_is_any f fd ["d", "numbers", "late", "lost", "most"]) (T : Txt mg)
    (c__law_road : Cl P w K mg base 3 "_law_road" (sp__law_road K))
    (c__law_is_let : Cl P w K mg base 7 "_law_is_let" (sp__law_is_let K))
    (c__law_is_in_time : Cl P w K mg base 2 "_law_is_in_time" (sp__law_is_in_time K))
    (c__law_way : Cl P w K mg base 2 "_law_way" (sp__law_way K)) : FnOk P w K mg base CX0 8 f fd ["d", "numbers", "late", "lost", "most"] (sp__law_is_any K) := by
  refine F.ok sc__law_is_any (fun vs H Q E h => ?_) (fun cdv A outer s H vs Q E hr h => ?_)
  · obtain ⟨p, a, na, S, R, fr, late, lost, rfl, _⟩ := h
    rfl
  · obtain ⟨p, a, na, S, R, fr, late, lost, rfl, d0, hn, h1, h2, R1, hfr, l1, l2, q⟩ := h
    have f1 := (frs_lt hfr).2
    refine ⟨_, (pss_cons (ps_asg (pv 1) (pg_tupK (K := K) rfl rfl (pgs_cons (pg_name (i := 5) sc__law_is_any.nd rfl (Or.inl rfl)) (pgs_cons (pg_name (i := 6) sc__law_is_any.nd rfl (Or.inl rfl)) (pgs_cons (pg_name (i := 7) sc__law_is_any.nd rfl (Or.inl rfl)) pgs_nil)))))
      (pss_cons (ps_set (i := 8) sc__law_is_any.nd rfl (Or.inl rfl) (pe_cl c__law_road hr (by decide) rfl (pa_cons (pv 0) (pa_cons (pv 5) (pa_cons (pv 6) (pa_cons (pv 7) (pa_cons (pv 2) (pa_cons (pv 3) pa_nil))))))))
      (pss_cons (ps_if (pt_not (pt_val (pe_cl c__law_is_let hr (by decide) rfl (pa_cons (pv 8) (pa_cons (pv 1) (pa_cons (pv 2) (pa_cons (pv 3) (pa_cons pe_bl pa_nil)))))))) (pss_one (ps_ret pe_bl)) pss_nil)
      (pss_one (ps_ret (pe_or (pe_cmpR op_eq (pv 6) pe_int (nomark _)) (pe_one (pe_cl c__law_is_in_time hr (by decide) rfl (pa_cons (pe_cl c__law_way hr (by decide) rfl (pa_cons (pv 0) (pa_cons (pv 8) (pa_cons (pv 1) pa_nil)))) (pa_cons (pv 3) (pa_cons (pv 4) pa_nil))))))))))), ?_⟩
    try dsimp only [cxOf, Cx.nox, Cx.wish]
    refine st_of (σ' := [some _, some _, some _, some _, some _, none, none, none, none]) rfl ?_
    wtm_at "jw"
    refine ⟨p, a, S, R, fr, late, lost, rfl, d0, by omega, by omega, by omega, by omega, fun v d H1 e1 tv hP => ?_⟩
    have hn1 := (e1.tps d0).sq hn
    wtm_at "jw"
    refine ⟨v, na, d, S, R, fr, _, _, true, rfl, tv, shp_road hP (fun c hc => by obtain ⟨F, rfl, _⟩ := hc; exact shp_fs F), hn1, by omega, R1, ?_, fun H2 s2 => ?_⟩
    · rw [roadP_B (b := true) hP (fun c hc => by obtain ⟨F, rfl, hl, hg⟩ := hc; exact good_B hg hl) h1 h2]
      rfl
    · have w2 := e1.same s2
      wtm_at "jw"
      refine c_dec (fun h => ?_) (fun h => ?_)
      · exact q _ w2
      · wtm_at "jw"
        refine ⟨p, a, na, v, d, S, R, fr, _, rfl, w2.at_, tv.same s2, (Tps.of s2).sq hn1, hP, h1, h2, by omega, R1, fun v' c H3 e3 tc hc => ?_⟩
        obtain ⟨F, rfl, hl, hg⟩ := hc
        wtm_at "jw"
        refine ⟨v', F, lost, late + lost, by rw [Int.natCast_add]; rfl, tc, by omega, fun f hf => hg.inT f hf, ?_⟩
        exact q _ (w2.trans e3)
theorem i_lr1 {ta : TE} {σ : L2.St} {H : Hp} {Q : VK} (h : ta σ H fun x H1 => ∃ n, x = .int n ∧ RgOk 0 n ∧ ∀ q, H1 q = none → Q (.ref q) (upd H1 q (.lst (rgV 0 n)))) : tLstRg (tRg1 ta) σ H Q := h
theorem rgV_nat (n : Nat) : rgV 0 (n : Int) = (List.range n).map fun (k : Nat) => V.int (k : Int) := by
  unfold rgV
  simp
def sp__law_is_straight (K : PySem.W.Frag) : Sp := fun vs H Q _ => ∃ (p a na : Addr) (S R fr late lost : Nat), vs = [.ref p, .ref na, .int (late : Int), .int (lost : Int)] ∧ DrawAt H p a ∧ SqT K H na [.int (S : Int), .int (R : Int), .int (fr : Int)] ∧ 1 ≤ S ∧ S ≤ R ∧ R < 1000 ∧ fr ∈ frs ∧ late < 4 ∧ lost < 4 ∧ ∀ H', Drew p a H H' → Q (.bl true) H'
theorem ok__law_is_straight {P : Program} {w : World} {K : PySem.W.Frag} {mg : Str → Option Value} {base : Heap} {f : Addr} {fd : FuncData} (F : Df K mg "_law_is_straight" s__law_is_straight f fd ["d", "numbers", "late", "lost"]) (T : Txt mg)
    (c_straight_road : Cl P w K mg base 2 "straight_road" (sp_straight_road K))
    (c__law_way : Cl P w K mg base 2 "_law_way" (sp__law_way K))
    (c__law_is_same : Cl P w K mg base 5 "_law_is_same" (sp__law_is_same K))
    (c__law_is_tight : Cl P w K mg base 8 "_law_is_tight" (sp__law_is_tight K))
    (c__law_all_ways : Cl P w K mg base 1 "_law_all_ways" (sp__law_all_ways K))
    (c__law_heard : Cl P w K mg base 1 "_law_heard" (sp__law_heard K)) : FnOk P w K mg base CX0 9 f fd ["d", "numbers", "late", "lost"] (sp__law_is_straight K) := by
  refine F.ok sc__law_is_straight (fun vs H Q E h => ?_) (fun cdv A outer s H vs Q E hr h => ?_)
  · obtain ⟨p, a, na, S, R, fr, late, lost, rfl, _⟩ := h
    rfl
  · obtain ⟨p, a, na, S, R, fr, late, lost, rfl, d0, hn, h1, h2, R1, hfr, l1, l2, q⟩ := h
    have f1 := (frs_lt hfr).2
    refine ⟨_, (pss_cons (ps_asg (pv 1) (pg_tupK (K := K) rfl rfl (pgs_cons (pg_name (i := 4) sc__law_is_straight.nd rfl (Or.inl rfl)) (pgs_cons (pg_name (i := 5) sc__law_is_straight.nd rfl (Or.inl rfl)) (pgs_cons (pg_name (i := 6) sc__law_is_straight.nd rfl (Or.inl rfl)) pgs_nil)))))
      (pss_cons (ps_set (i := 7) sc__law_is_straight.nd rfl (Or.inl rfl) (pe_cl c_straight_road hr (by decide) rfl (pa_cons (pv 4) (pa_cons (pv 5) (pa_cons (pv 6) pa_nil)))))
      (pss_cons (ps_if (pt_not (pt_val (pe_cl c__law_is_same hr (by decide) rfl (pa_cons (pv 7) (pa_cons (pe_cl c__law_all_ways hr (by decide) rfl (pa_cons (pv 4) (pa_cons (pv 5) (pa_cons (pe_callTy (T := "tuple") (r := rTupOf K) c_tup (by rfl) T.b_tuple (by decide +kernel) (pa_cons (pe_lc (own := [("frame", 8)]) (g := gName 8) (tt := tYes) rfl sc__law_is_straight.nd (pi_range1 rfl T.b_range (pa_cons (pv 6) pa_nil)) (blkOk_by (own := [("frame", 8)]) (N := N__law_is_straight) (sc := defScope s__law_is_straight) (by decide +kernel)) (fun _ _ _ _ _ => (pg_name (i := 8) sc__law_is_straight.nd rfl (Or.inl rfl))) (fun _ _ _ _ _ => pts_nil) (fun _ _ _ _ _ => (pe_tup (pa_cons pe_int pa_nil)))) pa_nil)) pa_nil)))) pa_nil))))) (pss_one (ps_ret pe_bl)) pss_nil)
      (pss_cons (ps_if (pt_not (pt_val (pe_cl c__law_is_tight hr (by decide) rfl (pa_cons (pv 7) (pa_cons (pv 1) (pa_cons (pv 2) (pa_cons (pv 3) (pa_cons pe_bl (pa_cons pe_bl pa_nil))))))))) (pss_one (ps_ret pe_bl)) pss_nil)
      (pss_cons (ps_if (pt_cmpR op_eq (pv 5) pe_int (nomark _)) (pss_one (ps_ret pe_bl)) pss_nil)
      (pss_cons (ps_set (i := 9) sc__law_is_straight.nd rfl (Or.inr rfl) (pe_cl c__law_way hr (by decide) rfl (pa_cons (pv 0) (pa_cons (pv 7) (pa_cons (pv 1) pa_nil)))))
      (pss_one (ps_ret (pe_cmpR (r := rEqD K) (op_eqD hr.units) (pe_lc (own := [("frame", 8)]) (g := gName 8) (tt := tYes) rfl sc__law_is_straight.nd (pi_range1 rfl T.b_range (pa_cons (pv 6) pa_nil)) (blkOk_by (own := [("frame", 8)]) (N := N__law_is_straight) (sc := defScope s__law_is_straight) (by decide +kernel)) (fun _ _ _ _ _ => (pg_name (i := 8) sc__law_is_straight.nd rfl (Or.inl rfl))) (fun _ _ _ _ _ => pts_nil) (fun _ _ _ _ _ => (pe_cl c__law_heard hr (by decide) rfl (pa_cons (pv 9) (pa_cons (pv 8) pa_nil))))) (pe_listRg rfl (by rfl) T.b_list (prg_1 (by rfl) T.b_range (pv 6))) (nomark _)))))))))), ?_⟩
    try dsimp only [cxOf, Cx.nox, Cx.wish]
    refine st_of (σ' := [some _, some _, some _, some _, none, none, none, none, none, none]) rfl ?_
    wtm_at "jw"
    refine ⟨S, R, fr, rfl, by omega, R1, by omega, fun v H1 s1 tv => ?_⟩
    wtm_at "jw"
    intro CL hCL
    refine l_range (fun j H' => Same H1 H' ∧ LD K H' CL (((List.range j).map fun _ => [(0 : Int)]).map fD)) ⟨same_new hCL, .new hCL .nil⟩ (fun j H' hj h => ?_) (fun H' h => ?_)
    · obtain ⟨s2, us, hus, tus⟩ := h
      have hj' : j < fr := by simpa using hj
      have hul := tus.len
      rw [List.length_map, List.length_map, List.length_range] at hul
      wtm_at "jw"
      refine ⟨rfl, ?_⟩
      wtm_at "jw"
      intro T hT
      have tT : TD K (upd H' T (.tup [.int 0])) (.ref T) (fD [0]) := TD.new hT (.cons (.int _) .nil)
      have s3 := same_new (o := .tup [.int 0]) hT
      refine ⟨us, s3 _ _ hus, small1000 (by omega), put_same (s2.trans s3) hCL, ?_⟩
      rw [range_map_snoc, List.map_append]
      exact LD.snoc (s3 _ _ hus) (tus.same s3) tT
    · obtain ⟨s2, us, hus, tus⟩ := h
      rw [show ((fr : Nat) : Int).toNat = fr from Int.toNat_natCast fr, ← straight_range] at tus
      wtm_at "jw"
      intro T hT
      have tT := TD.fs hT tus
      have s3 := s2.trans (same_new (o := .tup us) hT)
      generalize upd H' T (.tup us) = H3 at tT s3 ⊢
      wtm_at "jw"
      refine ⟨S, R, _, _, rfl, tT, by omega, R1, fun r2 H4 s4 t4 => ?_⟩
      have s4' := s3.trans s4
      have tv4 := tv.same s4'
      have hn4 := (Tps.of (s1.trans s4')).sq hn
      wtm_at "jw"
      refine ⟨v, r2, _, rfl, tv4, t4, ni_roadC (by omega) R1 (by rw [straightF_len]; omega) (short_straight fr), ?_⟩
      wtm_at "jw"
      have hg : ∀ d l : Nat, d < 4 → l < 4 → fatesB fr d l (fsD (straightF fr)) = true := fun d l hd hl => use_straight hfr hd hl
      obtain ⟨b1, b2, b3⟩ := tight_of (S := S) (R := R) (fr := fr) (dl := late) (l := lost) (F := straightF fr) (cl := false) (rn := false) h1 h2 (hg _ _ l1 l2)
        (fun h => by rw [show ((late : Int) - 1) = ((late - 1 : Nat) : Int) by omega]; exact hg _ _ (by omega) l2) (fun h => by rw [show ((lost : Int) - 1) = ((lost - 1 : Nat) : Int) by omega]; exact hg _ _ l1 (by omega))
      refine ⟨v, na, _, S, R, fr, late, lost, false, false, rfl, tv4, shp_road (roadC_P S R _) (fun c hc => by rw [hc]; exact shp_fs _), hn4, by omega, R1, b1, b2, b3, fun H5 s5 => ?_⟩
      have s5' := (s1.trans s4').trans s5
      have tv5 := tv4.same s5
      have hn5 := (Tps.of s5').sq hn
      wtm_at "jw"
      refine c_dec (fun h => ?_) (fun h => ?_)
      · wtm_at "jw"
        exact q _ (d0.drew.same s5')
      · wtm_at "jw"
        refine ⟨p, a, na, v, _, S, R, fr, _, rfl, d0.same s5', tv5, hn5, roadC_P S R _, h1, h2, by omega, R1, fun v' c H6 e6 tc hc => ?_⟩
        subst hc
        have w6 := (d0.drew.same s5').trans e6
        wtm_at "jw"
        intro D hD
        refine l_rangeP (fun k => V.int (k : Int)) hD (by omega) (fun i H' R' hi s hR => ?_) (fun H' s hD' => ?_)
        · have hi' : i < fr := by simpa using hi
          rw [Int.zero_add]
          wtm_at "jw"
          refine ⟨rfl, ?_⟩
          wtm_at "jw"
          refine ⟨v', straightF fr, i, rfl, tc.same s, by rw [straightF_len]; omega, by omega, ?_⟩
          rw [heard_straight hi']
          exact hR
        · wtm_at "jw"
          refine i_lr1 ?_
          wtm_at "jw"
          refine ⟨RgOk.of_le (by omega) (by omega) (by decide) (by omega), fun L hL => ?_⟩
          rw [rgV_nat]
          have hD2 := same_new (o := .lst ((List.range fr).map fun (k : Nat) => V.int (k : Int))) hL _ _ hD'
          rw [show ((fr : Nat) : Int).toNat = fr from Int.toNat_natCast fr] at hD2
          refine i_eqS' (d := .list ((List.range fr).map fun (k : Nat) => PyData.int (k : Int))) (n := 1) (.lst (SqL.of hD2) ?_) (.lst (SqL.of upd_same) ?_) (Shp.lst fun d hd => ?_) (by decide) ?_
          · exact (TDs.map (K := K) fun x _ => .int _).dp
          · exact (TDs.map (K := K) fun x _ => .int _).dp
          · obtain ⟨k, _, rfl⟩ := List.mem_map.mp hd
            exact Shp.int _
          · exact q _ ((w6.same s).new hL)
def sp__law_is_late (K : PySem.W.Frag) : Sp := fun vs H Q _ => ∃ (p a na : Addr) (S R fr late lost : Nat), vs = [.ref p, .ref na, .int (late : Int), .int (lost : Int), .int ((late : Int) + (lost : Int))] ∧ DrawAt H p a ∧ SqT K H na [.int (S : Int), .int (R : Int), .int (fr : Int)] ∧ 1 ≤ S ∧ S ≤ R ∧ R < 1000 ∧ fr ∈ frs ∧ late < 4 ∧ lost < 4 ∧ ∀ H', Drew p a H H' → Q (.bl true) H'
theorem ok__law_is_late {P : Program} {w : World} {K : PySem.W.Frag} {mg : Str → Option Value} {base : Heap} {f : Addr} {fd : FuncData} (F : Df K mg "_law_is_late" s__law_is_late f fd ["d", "numbers", "late", "lost", "most"]) (T : Txt mg)
    (c_late_road : Cl P w K mg base 2 "late_road" (sp_late_road K))
    (c__law_way : Cl P w K mg base 2 "_law_way" (sp__law_way K))
    (c__law_is_in_time : Cl P w K mg base 2 "_law_is_in_time" (sp__law_is_in_time K))
    (c__law_is_same : Cl P w K mg base 5 "_law_is_same" (sp__law_is_same K))
    (c__law_is_tight : Cl P w K mg base 8 "_law_is_tight" (sp__law_is_tight K))
    (c__law_all_ways : Cl P w K mg base 1 "_law_all_ways" (sp__law_all_ways K))
    (c__law_heard : Cl P w K mg base 1 "_law_heard" (sp__law_heard K)) : FnOk P w K mg base CX0 9 f fd ["d", "numbers", "late", "lost", "most"] (sp__law_is_late K) := by
  refine F.ok sc__law_is_late (fun vs H Q E h => ?_) (fun cdv A outer s H vs Q E hr h => ?_)
  · obtain ⟨p, a, na, S, R, fr, late, lost, rfl, _⟩ := h
    rfl
  · obtain ⟨p, a, na, S, R, fr, late, lost, rfl, d0, hn, h1, h2, R1, hfr, l1, l2, q⟩ := h
    have f1 := (frs_lt hfr).2
    refine ⟨_, (pss_cons (ps_asg (pv 1) (pg_tupK (K := K) rfl rfl (pgs_cons (pg_name (i := 5) sc__law_is_late.nd rfl (Or.inl rfl)) (pgs_cons (pg_name (i := 6) sc__law_is_late.nd rfl (Or.inl rfl)) (pgs_cons (pg_name (i := 7) sc__law_is_late.nd rfl (Or.inl rfl)) pgs_nil)))))
      (pss_cons (ps_set (i := 8) sc__law_is_late.nd rfl (Or.inl rfl) (pe_callTy (T := "tuple") (r := rTupOf K) c_tup (by rfl) T.b_tuple (by decide +kernel) (pa_cons (pe_lc (own := [("frame", 9)]) (g := gName 9) (tt := tYes) rfl sc__law_is_late.nd (pi_range1 rfl T.b_range (pa_cons (pv 7) pa_nil)) (blkOk_by (own := [("frame", 9)]) (N := N__law_is_late) (sc := defScope s__law_is_late) (by decide +kernel)) (fun _ _ _ _ _ => (pg_name (i := 9) sc__law_is_late.nd rfl (Or.inl rfl))) (fun _ _ _ _ _ => pts_nil) (fun _ _ _ _ _ => (pe_ifExp (pt_cmpR op_eq (pe_op op_mod (pe_callTy (T := "int") c_int (by rfl) T.b_int (by decide +kernel) (pa_cons (pv 9) pa_nil)) (pe_op op_add (pv 3) pe_int)) (pv 3) (nomark _)) (pe_tup (pa_cons (pv 2) pa_nil)) (pe_tup pa_nil)))) pa_nil)))
      (pss_cons (ps_set (i := 10) sc__law_is_late.nd rfl (Or.inl rfl) (pe_cl c_late_road hr (by decide) rfl (pa_cons (pv 5) (pa_cons (pv 6) (pa_cons (pv 7) (pa_cons (pv 2) (pa_cons (pv 3) pa_nil)))))))
      (pss_cons (ps_if (pt_not (pt_val (pe_cl c__law_is_same hr (by decide) rfl (pa_cons (pv 10) (pa_cons (pe_cl c__law_all_ways hr (by decide) rfl (pa_cons (pv 5) (pa_cons (pv 6) (pa_cons (pv 8) pa_nil)))) pa_nil))))) (pss_one (ps_ret pe_bl)) pss_nil)
      (pss_cons (ps_if (pt_not (pt_val (pe_cl c__law_is_tight hr (by decide) rfl (pa_cons (pv 10) (pa_cons (pv 1) (pa_cons (pv 2) (pa_cons (pv 3) (pa_cons (pe_cmpR op_gt (pv 7) (pv 3) (nomark _)) (pa_cons (pe_cmpR op_ge (pv 7) (pv 3) (nomark _)) pa_nil))))))))) (pss_one (ps_ret pe_bl)) pss_nil)
      (pss_cons (ps_if (pt_cmpR op_eq (pv 6) pe_int (nomark _)) (pss_one (ps_ret pe_bl)) pss_nil)
      (pss_cons (ps_set (i := 11) sc__law_is_late.nd rfl (Or.inl rfl) (pe_cl c__law_way hr (by decide) rfl (pa_cons (pv 0) (pa_cons (pv 10) (pa_cons (pv 1) pa_nil)))))
      (pss_cons (ps_for PassesOwn.never rfl (pi_range1 rfl T.b_range (pa_cons (pe_op op_sub (pv 7) (pv 3)) pa_nil)) (pg_name (i := 9) sc__law_is_late.nd rfl (Or.inl rfl)) (pss_one (ps_if (PW.pt (pw_and (pt_cmpR op_eq (pe_op op_mod (pe_callTy (T := "int") c_int (by rfl) T.b_int (by decide +kernel) (pa_cons (pv 9) pa_nil)) (pe_op op_add (pv 3) pe_int)) pe_int (nomark _)) (pw_and1 (pt_cmpR op_ne (pe_cl c__law_heard hr (by decide) rfl (pa_cons (pv 11) (pa_cons (pv 9) pa_nil))) (pe_op op_add (pv 9) (pv 4)) (nomark _))))) (pss_one (ps_ret pe_bl)) pss_nil)))
      (pss_one (ps_ret (pe_cl c__law_is_in_time hr (by decide) rfl (pa_cons (pv 11) (pa_cons (pv 3) (pa_cons (pv 4) pa_nil)))))))))))))), ?_⟩
    try dsimp only [cxOf, Cx.nox, Cx.wish]
    refine st_of (σ' := [some _, some _, some _, some _, some _, none, none, none, none, none, none, none]) rfl ?_
    wtm_at "jw"
    intro CL hCL
    refine l_range (fun j H' => Same H H' ∧ LD K H' CL ((lateF j late lost).map fD)) ⟨same_new hCL, .new hCL .nil⟩ (fun j H' hj h => ?_) (fun H' h => ?_)
    · obtain ⟨s2, us, hus, tus⟩ := h
      have hj' : j < fr := by simpa using hj
      have hul := tus.len
      rw [List.length_map, lateF_len] at hul
      have hsm : us.length < sizeLine := small1000 (by omega)
      have est : lateF (j + 1) late lost = lateF j late lost ++ [if j % (lost + 1) = lost then [(late : Int)] else []] := range_map_snoc _ j
      rw [Int.zero_add]
      wtm_at "jw"
      refine ⟨rfl, ?_⟩
      wtm_at "jw"
      refine c_dec (fun h => ?_) (fun h => ?_)
      · rw [if_pos ((mod_iff j lost).mp h)] at est
        wtm_at "jw"
        intro T hT
        have tT : TD K (upd H' T (.tup [.int (late : Int)])) (.ref T) (fD [(late : Int)]) := TD.new hT (.cons (.int _) .nil)
        have s3 := same_new (o := .tup [.int (late : Int)]) hT
        refine ⟨us, s3 _ _ hus, hsm, put_same (s2.trans s3) hCL, ?_⟩
        rw [est, List.map_append]
        exact LD.snoc (s3 _ _ hus) (tus.same s3) tT
      · rw [if_neg (fun z => h ((mod_iff j lost).mpr z))] at est
        wtm_at "jw"
        intro T hT
        have tT : TD K (upd H' T (.tup [])) (.ref T) (fD []) := TD.new hT .nil
        have s3 := same_new (o := .tup []) hT
        refine ⟨us, s3 _ _ hus, hsm, put_same (s2.trans s3) hCL, ?_⟩
        rw [est, List.map_append]
        exact LD.snoc (s3 _ _ hus) (tus.same s3) tT
    · obtain ⟨s2, us, hus, tus⟩ := h
      rw [show ((fr : Nat) : Int).toNat = fr from Int.toNat_natCast fr] at tus
      wtm_at "jw"
      intro T hT
      have tT := TD.fs hT tus
      have s3 := s2.trans (same_new (o := .tup us) hT)
      generalize upd H' T (.tup us) = H3 at tT s3 ⊢
      wtm_at "jw"
      refine ⟨S, R, fr, late, lost, rfl, by omega, R1, by omega, fun v H3 s3' tv => ?_⟩
      have s3 := s3.trans s3'
      have tT := tT.same s3'
      wtm_at "jw"
      refine ⟨S, R, _, _, rfl, tT, by omega, R1, fun r2 H4 s4 t4 => ?_⟩
      have s4' := s3.trans s4
      have tv4 := tv.same s4
      have hn4 := (Tps.of s4').sq hn
      wtm_at "jw"
      refine ⟨v, r2, _, rfl, tv4, t4, ni_roadC (by omega) R1 (by rw [lateF_len]; omega) (short_late fr late lost), ?_⟩
      wtm_at "jw"
      obtain ⟨g1, g2, g3⟩ := chk_use (use_late hfr l1 l2)
      obtain ⟨b1, b2, b3⟩ := tight_of (S := S) (R := R) h1 h2 g1 g2 g3
      have gF := late_good g1
      have e1 : decide ((fr : Int) > (lost : Int)) = decide (lost < fr) := by rw [decide_eq_decide]; omega
      have e2 : decide ((fr : Int) ≥ (lost : Int)) = decide (lost ≤ fr) := by rw [decide_eq_decide]; omega
      refine ⟨v, na, _, S, R, fr, late, lost, _, _, rfl, tv4, shp_road (roadC_P S R _) (fun c hc => by rw [hc]; exact shp_fs _), hn4, by omega, R1, b1, by rw [e1]; exact b2, by rw [e2]; exact b3, fun H5 s5 => ?_⟩
      have s5' := s4'.trans s5
      have tv5 := tv4.same s5
      have hn5 := (Tps.of s5').sq hn
      wtm_at "jw"
      refine c_dec (fun h => ?_) (fun h => ?_)
      · wtm_at "jw"
        exact q _ (d0.drew.same s5')
      · wtm_at "jw"
        refine ⟨p, a, na, v, _, S, R, fr, _, rfl, d0.same s5', tv5, hn5, roadC_P S R _, h1, h2, by omega, R1, fun v' c H6 e6 tc hc => ?_⟩
        subst hc
        have w6 := (d0.drew.same s5').trans e6
        wtm_at "jw"
        refine f_range (fun i σ H' => H' = H6 ∧ ∃ v9, σ = [some (.ref p), some (.ref na), some (.int (late : Int)), some (.int (lost : Int)), some (.int ((late : Int) + (lost : Int))), some (.int (S : Int)), some (.int (R : Int)), some (.int (fr : Int)), some (.ref T), v9, some v, some v']) ⟨rfl, _, rfl⟩ (fun i σ H' hi h => ?_) (fun σ H' h => ?_)
        · obtain ⟨rfl, v9, rfl⟩ := h
          rw [Int.zero_add]
          have hi' : i + lost < fr := by omega
          wtm_at "jw"
          refine c_dec (fun h => ?_) (fun h => ?_)
          · have hm : i % (lost + 1) = 0 := by
              rw [show ((lost : Int) + 1) = ((lost + 1 : Nat) : Int) from rfl, ← Int.natCast_emod] at h
              omega
            wtm_at "jw"
            refine ⟨v', lateF fr late lost, i, rfl, tc, by rw [lateF_len]; omega, by omega, ?_⟩
            rw [heard_late l2 hi' hm]
            unfold ovO
            wtm_at "jw"
            refine c_noN (by rw [Int.natCast_add]) ?_
            wtm_at "jw"
            exact ⟨rfl, _, rfl⟩
          · wtm_at "jw"
            exact ⟨rfl, _, rfl⟩
        · obtain ⟨rfl, v9, rfl⟩ := h
          wtm_at "jw"
          refine ⟨v', lateF fr late lost, lost, late + lost, by rw [Int.natCast_add]; rfl, tc, by rw [lateF_len]; omega, fun f hf => gF.inT f hf, ?_⟩
          exact q _ w6
def sp__law_is_hiding (K : PySem.W.Frag) : Sp := fun vs H Q _ => ∃ (p a na : Addr) (S R fr late lost first : Nat), vs = [.ref p, .ref na, .int (late : Int), .int (lost : Int), .int ((late : Int) + (lost : Int)), .int (first : Int)] ∧ DrawAt H p a ∧ SqT K H na [.int (S : Int), .int (R : Int), .int (fr : Int)] ∧ 1 ≤ S ∧ S ≤ R ∧ R < 1000 ∧ fr ∈ frs ∧ late < 4 ∧ lost < 4 ∧ first ≤ fr ∧ ∀ H', Drew p a H H' → Q (.bl true) H'
theorem ok__law_is_hiding {P : Program} {w : World} {K : PySem.W.Frag} {mg : Str → Option Value} {base : Heap} {f : Addr} {fd : FuncData} (F : Df K mg "_law_is_hiding" s__law_is_hiding f fd ["d", "numbers", "late", "lost", "most", "first"]) (T : Txt mg)
    (c_hiding_road : Cl P w K mg base 2 "hiding_road" (sp_hiding_road K))
    (c__law_way : Cl P w K mg base 2 "_law_way" (sp__law_way K))
    (c__law_is_in_time : Cl P w K mg base 2 "_law_is_in_time" (sp__law_is_in_time K))
    (c__law_is_same : Cl P w K mg base 5 "_law_is_same" (sp__law_is_same K))
    (c__law_is_tight : Cl P w K mg base 8 "_law_is_tight" (sp__law_is_tight K))
    (c__law_all_ways : Cl P w K mg base 1 "_law_all_ways" (sp__law_all_ways K))
    (c__law_heard : Cl P w K mg base 1 "_law_heard" (sp__law_heard K))
    (c__law_hiding : Cl P w K mg base 1 "_law_hiding" (sp__law_hiding K)) : FnOk P w K mg base CX0 9 f fd ["d", "numbers", "late", "lost", "most", "first"] (sp__law_is_hiding K) := by
  refine F.ok sc__law_is_hiding (fun vs H Q E h => ?_) (fun cdv A outer s H vs Q E hr h => ?_)
  · obtain ⟨p, a, na, S, R, fr, late, lost, first, rfl, _⟩ := h
    rfl
  · obtain ⟨p, a, na, S, R, fr, late, lost, first, rfl, d0, hn, h1, h2, R1, hfr, l1, l2, ff, q⟩ := h
    have f1 := (frs_lt hfr).2
    refine ⟨_, (pss_cons (ps_asg (pv 1) (pg_tupK (K := K) rfl rfl (pgs_cons (pg_name (i := 6) sc__law_is_hiding.nd rfl (Or.inl rfl)) (pgs_cons (pg_name (i := 7) sc__law_is_hiding.nd rfl (Or.inl rfl)) (pgs_cons (pg_name (i := 8) sc__law_is_hiding.nd rfl (Or.inl rfl)) pgs_nil)))))
      (pss_cons (ps_set (i := 9) sc__law_is_hiding.nd rfl (Or.inl rfl) (pe_cl c_hiding_road hr (by decide) rfl (pa_cons (pv 6) (pa_cons (pv 7) (pa_cons (pv 8) (pa_cons (pv 2) (pa_cons (pv 3) (pa_cons (pv 5) pa_nil))))))))
      (pss_cons (ps_if (pt_not (pt_val (pe_cl c__law_is_same hr (by decide) rfl (pa_cons (pv 9) (pa_cons (pe_cl c__law_all_ways hr (by decide) rfl (pa_cons (pv 6) (pa_cons (pv 7) (pa_cons (pe_cl c__law_hiding hr (by decide) rfl (pa_cons (pv 8) (pa_cons (pv 2) (pa_cons (pv 3) (pa_cons (pv 5) pa_nil))))) pa_nil)))) pa_nil))))) (pss_one (ps_ret pe_bl)) pss_nil)
      (pss_cons (ps_if (pt_not (pt_val (pe_cl c__law_is_tight hr (by decide) rfl (pa_cons (pv 9) (pa_cons (pv 1) (pa_cons (pv 2) (pa_cons (pv 3) (pa_cons (pe_cmpR op_lt (pe_op op_add (pv 5) (pv 3)) (pv 8) (nomark _)) (pa_cons (pe_cmpR op_le (pe_op op_add (pv 5) (pv 3)) (pv 8) (nomark _)) pa_nil))))))))) (pss_one (ps_ret pe_bl)) pss_nil)
      (pss_cons (ps_if (pt_cmpR op_eq (pv 7) pe_int (nomark _)) (pss_one (ps_ret pe_bl)) pss_nil)
      (pss_cons (ps_set (i := 10) sc__law_is_hiding.nd rfl (Or.inl rfl) (pe_cl c__law_way hr (by decide) rfl (pa_cons (pv 0) (pa_cons (pv 9) (pa_cons (pv 1) pa_nil)))))
      (pss_cons (ps_if (PW.pt (pw_and (pt_cmpR op_lt (pe_op op_add (pv 5) (pv 3)) (pv 8) (nomark _)) (pw_and1 (pt_cmpR op_ne (pe_cl c__law_heard hr (by decide) rfl (pa_cons (pv 10) (pa_cons (pv 5) pa_nil))) (pe_op op_add (pv 5) (pv 4)) (nomark _))))) (pss_one (ps_ret pe_bl)) pss_nil)
      (pss_cons (ps_for PassesOwn.never rfl (pi_range1 rfl T.b_range (pa_cons (pv 5) pa_nil)) (pg_name (i := 11) sc__law_is_hiding.nd rfl (Or.inl rfl)) (pss_one (ps_if (pt_cmpR op_ne (pe_cl c__law_heard hr (by decide) rfl (pa_cons (pv 10) (pa_cons (pv 11) pa_nil))) (pv 11) (nomark _)) (pss_one (ps_ret pe_bl)) pss_nil)))
      (pss_one (ps_ret (pe_cl c__law_is_in_time hr (by decide) rfl (pa_cons (pv 10) (pa_cons (pv 3) (pa_cons (pv 4) pa_nil)))))))))))))), ?_⟩
    try dsimp only [cxOf, Cx.nox, Cx.wish]
    refine st_of (σ' := [some _, some _, some _, some _, some _, some _, none, none, none, none, none, none]) rfl ?_
    wtm_at "jw"
    refine ⟨S, R, fr, late, lost, first, rfl, by omega, R1, by omega, fun v H2 s2 tv => ?_⟩
    wtm_at "jw"
    refine ⟨fr, late, lost, first, rfl, by omega, fun r H3 s3 tT => ?_⟩
    have tv3 := tv.same s3
    have s3 := s2.trans s3
    wtm_at "jw"
    refine ⟨S, R, _, _, rfl, tT, by omega, R1, fun r2 H4 s4 t4 => ?_⟩
    have s4' := s3.trans s4
    have tv4 := tv3.same s4
    have hn4 := (Tps.of s4').sq hn
    wtm_at "jw"
    refine ⟨v, r2, _, rfl, tv4, t4, ni_roadC (by omega) R1 (by rw [hidF_len]; omega) (short_hid fr late lost first), ?_⟩
    wtm_at "jw"
    obtain ⟨g1, g2, g3⟩ := chk_use (use_hid hfr l1 l2 ff)
    obtain ⟨b1, b2, b3⟩ := tight_of (S := S) (R := R) h1 h2 g1 g2 g3
    have gF := hid_good g1
    have e1 : decide ((first : Int) + (lost : Int) < (fr : Int)) = decide (first + lost < fr) := by rw [decide_eq_decide]; omega
    have e2 : decide ((first : Int) + (lost : Int) ≤ (fr : Int)) = decide (first + lost ≤ fr) := by rw [decide_eq_decide]; omega
    refine ⟨v, na, _, S, R, fr, late, lost, _, _, rfl, tv4, shp_road (roadC_P S R _) (fun c hc => by rw [hc]; exact shp_fs _), hn4, by omega, R1, b1, by rw [e1]; exact b2, by rw [e2]; exact b3, fun H5 s5 => ?_⟩
    have s5' := s4'.trans s5
    have tv5 := tv4.same s5
    have hn5 := (Tps.of s5').sq hn
    wtm_at "jw"
    refine c_dec (fun h => ?_) (fun h => ?_)
    · wtm_at "jw"
      exact q _ (d0.drew.same s5')
    · wtm_at "jw"
      refine ⟨p, a, na, v, _, S, R, fr, _, rfl, d0.same s5', tv5, hn5, roadC_P S R _, h1, h2, by omega, R1, fun v' c H6 e6 tc hc => ?_⟩
      subst hc
      have w6 := (d0.drew.same s5').trans e6
      wtm_at "js"
      refine i_ifC (fun σ' H' => H' = H6 ∧ σ' = [some (.ref p), some (.ref na), some (.int (late : Int)), some (.int (lost : Int)), some (.int ((late : Int) + (lost : Int))), some (.int (first : Int)), some (.int (S : Int)), some (.int (R : Int)), some (.int (fr : Int)), some v, some v', none]) (fun σ' H' h => ?_) (fun N hN => ?_)
      · obtain ⟨rfl, rfl⟩ := h
        wtm_at "jw"
        refine f_range (fun i σ H'' => H'' = H' ∧ ∃ v11, σ = [some (.ref p), some (.ref na), some (.int (late : Int)), some (.int (lost : Int)), some (.int ((late : Int) + (lost : Int))), some (.int (first : Int)), some (.int (S : Int)), some (.int (R : Int)), some (.int (fr : Int)), some v, some v', v11]) ⟨rfl, _, rfl⟩ (fun i σ H'' hi h => ?_) (fun σ H'' h => ?_)
        · obtain ⟨rfl, v11, rfl⟩ := h
          rw [Int.zero_add]
          have hi' : i < first := by simpa using hi
          wtm_at "jw"
          refine ⟨v', hidF fr late lost first, i, rfl, tc, by rw [hidF_len]; omega, by omega, ?_⟩
          rw [heard_hid hi' (by omega)]
          unfold ovO
          wtm_at "jw"
          refine c_noN rfl ?_
          wtm_at "jw"
          exact ⟨rfl, _, rfl⟩
        · obtain ⟨rfl, v11, rfl⟩ := h
          wtm_at "jw"
          refine ⟨v', hidF fr late lost first, lost, late + lost, by rw [Int.natCast_add]; rfl, tc, by rw [hidF_len]; omega, fun f hf => gF.inT f hf, ?_⟩
          exact q _ w6
      · refine i_ifS ?_
        wtm_at "jw"
        refine c_dec (fun h => ?_) (fun h => ?_)
        · wtm_at "jw"
          refine ⟨v', hidF fr late lost first, first, rfl, tc, by rw [hidF_len]; omega, by omega, ?_⟩
          rw [heard_hid2 (by omega)]
          unfold ovO
          wtm_at "jw"
          refine c_noN (by rw [Int.natCast_add]) ?_
          wtm_at "jw"
          exact hN _ _ ⟨rfl, rfl⟩
        · wtm_at "jw"
          exact hN _ _ ⟨rfl, rfl⟩
def sp_law (K : PySem.W.Frag) : Sp := fun vs H Q _ => ∃ (a : Addr) (ns : List Int), vs = [.ref a] ∧ SqL K H a (ns.map V.int) ∧ ns.length ≤ 63 ∧ ∀ H', Q (.bl true) H'
theorem ok_law {P : Program} {w : World} {K : PySem.W.Frag} {mg : Str → Option Value} {base : Heap} {f : Addr} {fd : FuncData} (F : Df K mg "law" s_law f fd ["script"]) (T : Txt mg)
    (c__law_begin : Cl P w K mg base 1 "_law_begin" (sp__law_begin K))
    (c__law_draw : Cl P w K mg base 1 "_law_draw" (sp__law_draw K))
    (c_lateness : Cl P w K mg base 1 "lateness" (sp_lateness K))
    (c__law_is_any : Cl P w K mg base 8 "_law_is_any" (sp__law_is_any K))
    (c__law_rare : Cl P w K mg base 2 "_law_rare" (sp__law_rare K))
    (c__law_is_int : Cl P w K mg base 1 "_law_is_int" (sp__law_is_int K))
    (c__law_is_straight : Cl P w K mg base 9 "_law_is_straight" (sp__law_is_straight K))
    (c__law_is_late : Cl P w K mg base 9 "_law_is_late" (sp__law_is_late K))
    (c__law_is_hiding : Cl P w K mg base 9 "_law_is_hiding" (sp__law_is_hiding K)) : FnOk P w K mg base CX0 10 f fd ["script"] (sp_law K) := by
  refine F.ok sc_law (fun vs H Q E h => ?_) (fun cdv A outer s H vs Q E hr h => ?_)
  · obtain ⟨a, ns, rfl, _⟩ := h
    rfl
  · obtain ⟨a, ns, rfl, hS, hl, q⟩ := h
    refine ⟨_, (pss_cons (ps_set (i := 1) sc_law.nd rfl (Or.inl rfl) (pe_cl c__law_begin hr (by decide) rfl (pa_cons (pv 0) pa_nil)))
      (pss_cons (ps_set (i := 2) sc_law.nd rfl (Or.inl rfl) (pe_op op_add pe_int (pe_cl c__law_draw hr (by decide) rfl (pa_cons (pv 1) (pa_cons pe_int pa_nil)))))
      (pss_cons (ps_set (i := 3) sc_law.nd rfl (Or.inl rfl) (pe_tup (pa_cons (pv 2) (pa_cons (pe_op op_add (pv 2) (pe_cl c__law_draw hr (by decide) rfl (pa_cons (pv 1) (pa_cons pe_int pa_nil)))) (pa_cons (pe_ifExp (pt_val (pe_cl c__law_rare hr (by decide) rfl (pa_cons (pv 1) (pa_cons pe_int pa_nil)))) pe_int (pe_op op_add pe_int (pe_cl c__law_draw hr (by decide) rfl (pa_cons (pv 1) (pa_cons pe_int pa_nil))))) pa_nil)))))
      (pss_cons (ps_set (i := 4) sc_law.nd rfl (Or.inl rfl) (pe_cl c__law_draw hr (by decide) rfl (pa_cons (pv 1) (pa_cons pe_int pa_nil))))
      (pss_cons (ps_set (i := 5) sc_law.nd rfl (Or.inl rfl) (pe_cl c__law_draw hr (by decide) rfl (pa_cons (pv 1) (pa_cons pe_int pa_nil))))
      (pss_cons (ps_set (i := 6) sc_law.nd rfl (Or.inl rfl) (pe_cl c_lateness hr (by decide) rfl (pa_cons (pv 4) (pa_cons (pv 5) pa_nil))))
      (pss_cons (ps_if (PW.pt (pw_or (pt_not (pt_val (pe_cl c__law_is_int hr (by decide) rfl (pa_cons (pv 6) pa_nil)))) (pw_or1 (pt_cmpR op_ne (pv 6) (pe_op op_add (pv 4) (pv 5)) (nomark _))))) (pss_one (ps_ret pe_bl)) pss_nil)
      (pss_cons (ps_if (PW.pt (pw_or (pt_not (pt_val (pe_cl c__law_is_straight hr (by decide) rfl (pa_cons (pv 1) (pa_cons (pv 3) (pa_cons (pv 4) (pa_cons (pv 5) pa_nil))))))) (pw_or1 (pt_not (pt_val (pe_cl c__law_is_late hr (by decide) rfl (pa_cons (pv 1) (pa_cons (pv 3) (pa_cons (pv 4) (pa_cons (pv 5) (pa_cons (pv 6) pa_nil))))))))))) (pss_one (ps_ret pe_bl)) pss_nil)
      (pss_cons (ps_set (i := 7) sc_law.nd rfl (Or.inl rfl) (pe_ix (r := rIxT K) ix_tup (pv 3) pe_int (fun _ _ => rfl)))
      (pss_cons (ps_for PassesOwn.never rfl (pi_list (pe_lst (pa_cons pe_int (pa_cons (pv 7) (pa_cons (pe_callB (id := "max") (c_max2 rfl) (by rfl) T.b_max (by decide +kernel) (pa_cons pe_int (pa_cons (pe_op op_sub (pv 7) (pv 5)) pa_nil))) (pa_cons (pe_callB (id := "max") (c_max2 rfl) (by rfl) T.b_max (by decide +kernel) (pa_cons pe_int (pa_cons (pe_op op_sub (pe_op op_sub (pv 7) (pv 5)) pe_int) pa_nil))) (pa_cons (pe_cl c__law_draw hr (by decide) rfl (pa_cons (pv 1) (pa_cons (pe_op op_add (pv 7) pe_int) pa_nil))) pa_nil))))))) (pg_name (i := 8) sc_law.nd rfl (Or.inl rfl)) (pss_one (ps_if (pt_not (pt_val (pe_cl c__law_is_hiding hr (by decide) rfl (pa_cons (pv 1) (pa_cons (pv 3) (pa_cons (pv 4) (pa_cons (pv 5) (pa_cons (pv 6) (pa_cons (pv 8) pa_nil))))))))) (pss_one (ps_ret pe_bl)) pss_nil)))
      (pss_one (ps_ret (pe_cl c__law_is_any hr (by decide) rfl (pa_cons (pv 1) (pa_cons (pv 3) (pa_cons (pv 4) (pa_cons (pv 5) (pa_cons (pv 6) pa_nil)))))))))))))))))), ?_⟩
    try dsimp only [cxOf, Cx.nox, Cx.wish]
    refine st_of (σ' := [some _, none, none, none, none, none, none, none, none]) rfl ?_
    wtm_at "jw"
    refine ⟨a, ns, rfl, hS, hl, fun p c H1 s1 hp hc d1 => ?_⟩
    wtm_at "jw"
    refine drawL d1.drew (by decide) (by decide) fun z1 H2 z10 z11 _ w2 => ?_
    obtain ⟨zS, rfl⟩ := Int.eq_ofNat_of_zero_le z10
    wtm_at "jw"
    refine drawL w2 (by decide) (by decide) fun z2 H3 z20 z21 _ w3 => ?_
    obtain ⟨zR, rfl⟩ := Int.eq_ofNat_of_zero_le z20
    wtm_at "jif"
    refine i_ifJ (fun v H' => Drew p c H1 H' ∧ ∃ fr : Nat, v = .int (fr : Int) ∧ fr ∈ frs) (fun v H4 h => ?_) (fun R' hR => ?_)
    · obtain ⟨w4, fr, rfl, hfr⟩ := h
      have f1 := (frs_lt hfr).2
      obtain ⟨S, eS⟩ : ∃ S : Nat, S = 1 + zS := ⟨_, rfl⟩
      obtain ⟨R, eR⟩ : ∃ R : Nat, R = S + zR := ⟨_, rfl⟩
      have eS' : (1 : Int) + (zS : Int) = (S : Int) := by omega
      have eR' : (S : Int) + (zR : Int) = (R : Int) := by omega
      have h1 : 1 ≤ S := by omega
      have h2 : S ≤ R := by omega
      have R1 : R < 1000 := by omega
      rw [eS', eR']
      wtm_at "jw"
      intro na hna
      have hn : SqT K (upd H4 na (.tup [.int (S : Int), .int (R : Int), .int (fr : Int)])) na [.int (S : Int), .int (R : Int), .int (fr : Int)] := SqT.of upd_same
      have w5 := w4.new (o := .tup [.int (S : Int), .int (R : Int), .int (fr : Int)]) hna
      generalize upd H4 na (.tup [.int (S : Int), .int (R : Int), .int (fr : Int)]) = H5 at w5 hn ⊢
      wtm_at "jw"
      refine drawL w5 (by decide) (by decide) fun z3 H6 z30 z31 e6 w6 => ?_
      have hn6 := (e6.tps w5.at_).sq hn
      obtain ⟨late, rfl⟩ := Int.eq_ofNat_of_zero_le z30
      wtm_at "jw"
      refine drawL w6 (by decide) (by decide) fun z4 H7 z40 z41 e7 w7 => ?_
      have hn7 := (e7.tps w6.at_).sq hn6
      obtain ⟨lost, rfl⟩ := Int.eq_ofNat_of_zero_le z40
      have l1 : late < 4 := by omega
      have l2 : lost < 4 := by omega
      wtm_at "jw"
      refine ⟨_, _, rfl, ?_⟩
      wtm_at "jw"
      refine ⟨_, rfl, ?_⟩
      wtm_at "jw"
      refine c_noN rfl ?_
      wtm_at "jw"
      refine ⟨p, c, na, S, R, fr, late, lost, rfl, w7.at_, hn7, h1, h2, R1, hfr, l1, l2, fun H8 e8 => ?_⟩
      have w8 := w7.trans e8
      have hn8 := (e8.tps w7.at_).sq hn7
      wtm_at "jw"
      refine ⟨p, c, na, S, R, fr, late, lost, rfl, w8.at_, hn8, h1, h2, R1, hfr, l1, l2, fun H9 e9 => ?_⟩
      have w9 := w8.trans e9
      have hn9 := (e9.tps w8.at_).sq hn8
      wtm_at "jw"
      refine drawL w9 (by omega) (by omega) fun z5 H10 z50 z51 e10 w10 => ?_
      have hn10 := (e10.tps w9.at_).sq hn9
      obtain ⟨any, rfl⟩ := Int.eq_ofNat_of_zero_le z50
      wtm_at "jw"
      have hfs : ∃ firsts : List Nat, [V.int 0, V.int (fr : Int), V.int (if (fr : Int) - (lost : Int) > 0 then (fr : Int) - (lost : Int) else 0), V.int (if (fr : Int) - (lost : Int) - 1 > 0 then (fr : Int) - (lost : Int) - 1 else 0), V.int (any : Int)] = firsts.map (fun (k : Nat) => V.int (k : Int)) ∧ ∀ k ∈ firsts, k ≤ fr := by
        refine ⟨[0, fr, fr - lost, fr - lost - 1, any], ?_, ?_⟩
        · simp only [List.map_cons, List.map_nil]
          rw [show (if (fr : Int) - (lost : Int) > 0 then (fr : Int) - (lost : Int) else 0) = ((fr - lost : Nat) : Int) by split <;> omega, show (if (fr : Int) - (lost : Int) - 1 > 0 then (fr : Int) - (lost : Int) - 1 else 0) = ((fr - lost - 1 : Nat) : Int) by split <;> omega]
          rfl
        · intro k hk
          simp at hk
          omega
      obtain ⟨firsts, ef, hff⟩ := hfs
      rw [ef]
      intro L hL
      have w11 := w10.new (o := .lst (firsts.map fun (k : Nat) => V.int (k : Int))) hL
      have hn11 := (Tps.of (same_new (o := .lst (firsts.map fun (k : Nat) => V.int (k : Int))) hL)).sq hn10
      have hL11 : upd H10 L (.lst (firsts.map fun (k : Nat) => V.int (k : Int))) L = some (.lst (firsts.map fun (k : Nat) => V.int (k : Int))) := upd_same
      have LH := w10.free hL
      have nL := d1.ne_none LH
      generalize upd H10 L (.lst (firsts.map fun (k : Nat) => V.int (k : Int))) = H11 at w11 hn11 hL11 ⊢
      wtm_at "jw"
      refine f_list (xs := firsts.map fun (k : Nat) => V.int (k : Int)) (fun i σ H' => Drew p c H1 H' ∧ SqT K H' na [.int (S : Int), .int (R : Int), .int (fr : Int)] ∧ H' L = some (.lst (firsts.map fun (k : Nat) => V.int (k : Int))) ∧ ∃ v8, σ = [some (.ref a), some (.ref p), some (.int (S : Int)), some (.ref na), some (.int (late : Int)), some (.int (lost : Int)), some (.int ((late : Int) + (lost : Int))), some (.int (fr : Int)), v8])
        ⟨w11, hn11, hL11, none, rfl⟩ (fun i σ H' _ h => SqL.of h.2.2.1) (fun i x σ H' hi h => ?_) (fun σ H' h => ?_)
      · obtain ⟨w12, hn12, hL12, v8, rfl⟩ := h
        rw [List.getElem?_map] at hi
        cases e : firsts[i]? with
        | none => rw [e] at hi; cases hi
        | some k =>
          rw [e] at hi
          cases hi
          have hk := hff k (List.mem_of_getElem? e)
          wtm_at "jw"
          refine ⟨p, c, na, S, R, fr, late, lost, k, rfl, w12.at_, hn12, h1, h2, R1, hfr, l1, l2, hk, fun H13 e13 => ?_⟩
          wtm_at "jw"
          exact ⟨w12.trans e13, (e13.tps w12.at_).sq hn12, e13.kp _ _ hL12 nL, _, rfl⟩
      · obtain ⟨w12, hn12, hL12, v8, rfl⟩ := h
        wtm_at "jw"
        refine ⟨p, c, na, S, R, fr, late, lost, rfl, w12.at_, hn12, h1, h2, R1, hfr, l1, l2, fun H13 e13 => ?_⟩
        exact q _
    · wtm_at "jw"
      refine ⟨p, c, 17, rfl, w3.at_, by decide, by decide, fun b H4 e4 => ?_⟩
      have w4 := w3.trans e4
      wtm_at "jw"
      refine c_bool (fun e => ?_) (fun e => ?_)
      · wtm_at "jw"
        exact hR _ _ ⟨w4, 45, rfl, by decide⟩
      · wtm_at "jw"
        refine drawL w4 (by decide) (by decide) fun z3 H5 z30 z31 _ w5 => ?_
        obtain ⟨zf, rfl⟩ := Int.eq_ofNat_of_zero_le z30
        wtm_at "jw"
        refine hR _ _ ⟨w5, 1 + zf, by rw [Int.natCast_add]; rfl, ?_⟩
        have : zf < 12 := by omega
        have fin : ∀ z < 12, 1 + z ∈ frs := by decide
        exact fin zf this
theorem law_hands {K : PySem.W.Frag} {H : Hp} (a : Addr) (ns : List Int) (hl : ns.length ≤ 63) (hb : ∀ z ∈ ns, Builtin.Int.intBits z ≤ 1048576) (h : SqL K H a (ns.map V.int)) :
    sp_law K [.ref a] H (fun v _ => v = .bl true) fun _ _ _ => False := ⟨a, ns, rfl, h, hl, fun _ => rfl⟩
theorem all_mk {l : PySem.W.OpenLaw} {w : World} {K : PySem.W.Frag} {h : Heap} {mg : Str → Option Value} {fa : Addr} (X : K.In h) (G : h.Ns mainGlobals mg) (hfa : mg "law" = some (.ref fa))
    {f__law_begin : Addr} {od__law_begin an__law_begin : Option Addr} {sl__law_begin : Array (Option Value)} {oc__law_begin kV__law_begin dc__law_begin pm__law_begin cd__law_begin ct__law_begin : Value}
    {f__law_draw : Addr} {od__law_draw an__law_draw : Option Addr} {sl__law_draw : Array (Option Value)} {oc__law_draw kV__law_draw dc__law_draw pm__law_draw cd__law_draw ct__law_draw : Value}
    {f_lateness : Addr} {od_lateness an_lateness : Option Addr} {sl_lateness : Array (Option Value)} {oc_lateness kV_lateness dc_lateness pm_lateness cd_lateness ct_lateness : Value}
    {f__law_fates : Addr} {od__law_fates an__law_fates : Option Addr} {sl__law_fates : Array (Option Value)} {oc__law_fates kV__law_fates dc__law_fates pm__law_fates cd__law_fates ct__law_fates : Value}
    {f__law_road : Addr} {od__law_road an__law_road : Option Addr} {sl__law_road : Array (Option Value)} {oc__law_road kV__law_road dc__law_road pm__law_road cd__law_road ct__law_road : Value}
    {f_is_row : Addr} {od_is_row an_is_row : Option Addr} {sl_is_row : Array (Option Value)} {oc_is_row kV_is_row dc_is_row pm_is_row cd_is_row ct_is_row : Value}
    {f_keeps_bounds : Addr} {od_keeps_bounds an_keeps_bounds : Option Addr} {sl_keeps_bounds : Array (Option Value)} {oc_keeps_bounds kV_keeps_bounds dc_keeps_bounds pm_keeps_bounds cd_keeps_bounds ct_keeps_bounds : Value}
    {f_is_int : Addr} {od_is_int an_is_int : Option Addr} {sl_is_int : Array (Option Value)} {oc_is_int kV_is_int dc_is_int pm_is_int cd_is_int ct_is_int : Value}
    {f_is_ints : Addr} {od_is_ints an_is_ints : Option Addr} {sl_is_ints : Array (Option Value)} {oc_is_ints kV_is_ints dc_is_ints pm_is_ints cd_is_ints ct_is_ints : Value}
    {f_is_ints_between : Addr} {od_is_ints_between an_is_ints_between : Option Addr} {sl_is_ints_between : Array (Option Value)} {oc_is_ints_between kV_is_ints_between dc_is_ints_between pm_is_ints_between cd_is_ints_between ct_is_ints_between : Value}
    {f_is_fate : Addr} {od_is_fate an_is_fate : Option Addr} {sl_is_fate : Array (Option Value)} {oc_is_fate kV_is_fate dc_is_fate pm_is_fate cd_is_fate ct_is_fate : Value}
    {f_is_fates : Addr} {od_is_fates an_is_fates : Option Addr} {sl_is_fates : Array (Option Value)} {oc_is_fates kV_is_fates dc_is_fates pm_is_fates cd_is_fates ct_is_fates : Value}
    {f_is_road : Addr} {od_is_road an_is_road : Option Addr} {sl_is_road : Array (Option Value)} {oc_is_road kV_is_road dc_is_road pm_is_road cd_is_road ct_is_road : Value}
    {f__law_is_let : Addr} {od__law_is_let an__law_is_let : Option Addr} {sl__law_is_let : Array (Option Value)} {oc__law_is_let kV__law_is_let dc__law_is_let pm__law_is_let cd__law_is_let ct__law_is_let : Value}
    {f__law_heard : Addr} {od__law_heard an__law_heard : Option Addr} {sl__law_heard : Array (Option Value)} {oc__law_heard kV__law_heard dc__law_heard pm__law_heard cd__law_heard ct__law_heard : Value}
    {f__law_is_in_time : Addr} {od__law_is_in_time an__law_is_in_time : Option Addr} {sl__law_is_in_time : Array (Option Value)} {oc__law_is_in_time kV__law_is_in_time dc__law_is_in_time pm__law_is_in_time cd__law_is_in_time ct__law_is_in_time : Value}
    {f__law_way : Addr} {od__law_way an__law_way : Option Addr} {sl__law_way : Array (Option Value)} {oc__law_way kV__law_way dc__law_way pm__law_way cd__law_way ct__law_way : Value}
    {f__law_is_any : Addr} {od__law_is_any an__law_is_any : Option Addr} {sl__law_is_any : Array (Option Value)} {oc__law_is_any kV__law_is_any dc__law_is_any pm__law_is_any cd__law_is_any ct__law_is_any : Value}
    {f__law_rare : Addr} {od__law_rare an__law_rare : Option Addr} {sl__law_rare : Array (Option Value)} {oc__law_rare kV__law_rare dc__law_rare pm__law_rare cd__law_rare ct__law_rare : Value}
    {f__law_is_int : Addr} {od__law_is_int an__law_is_int : Option Addr} {sl__law_is_int : Array (Option Value)} {oc__law_is_int kV__law_is_int dc__law_is_int pm__law_is_int cd__law_is_int ct__law_is_int : Value}
    {f_road_of : Addr} {od_road_of an_road_of : Option Addr} {sl_road_of : Array (Option Value)} {oc_road_of kV_road_of dc_road_of pm_road_of cd_road_of ct_road_of : Value}
    {f_straight_fates : Addr} {od_straight_fates an_straight_fates : Option Addr} {sl_straight_fates : Array (Option Value)} {oc_straight_fates kV_straight_fates dc_straight_fates pm_straight_fates cd_straight_fates ct_straight_fates : Value}
    {f_straight_road : Addr} {od_straight_road an_straight_road : Option Addr} {sl_straight_road : Array (Option Value)} {oc_straight_road kV_straight_road dc_straight_road pm_straight_road cd_straight_road ct_straight_road : Value}
    {f__law_is_same : Addr} {od__law_is_same an__law_is_same : Option Addr} {sl__law_is_same : Array (Option Value)} {oc__law_is_same kV__law_is_same dc__law_is_same pm__law_is_same cd__law_is_same ct__law_is_same : Value}
    {f__law_is_tight : Addr} {od__law_is_tight an__law_is_tight : Option Addr} {sl__law_is_tight : Array (Option Value)} {oc__law_is_tight kV__law_is_tight dc__law_is_tight pm__law_is_tight cd__law_is_tight ct__law_is_tight : Value}
    {f__law_all_ways : Addr} {od__law_all_ways an__law_all_ways : Option Addr} {sl__law_all_ways : Array (Option Value)} {oc__law_all_ways kV__law_all_ways dc__law_all_ways pm__law_all_ways cd__law_all_ways ct__law_all_ways : Value}
    {f__law_is_straight : Addr} {od__law_is_straight an__law_is_straight : Option Addr} {sl__law_is_straight : Array (Option Value)} {oc__law_is_straight kV__law_is_straight dc__law_is_straight pm__law_is_straight cd__law_is_straight ct__law_is_straight : Value}
    {f_late_road : Addr} {od_late_road an_late_road : Option Addr} {sl_late_road : Array (Option Value)} {oc_late_road kV_late_road dc_late_road pm_late_road cd_late_road ct_late_road : Value}
    {f__law_is_late : Addr} {od__law_is_late an__law_is_late : Option Addr} {sl__law_is_late : Array (Option Value)} {oc__law_is_late kV__law_is_late dc__law_is_late pm__law_is_late cd__law_is_late ct__law_is_late : Value}
    {f_hiding_fates : Addr} {od_hiding_fates an_hiding_fates : Option Addr} {sl_hiding_fates : Array (Option Value)} {oc_hiding_fates kV_hiding_fates dc_hiding_fates pm_hiding_fates cd_hiding_fates ct_hiding_fates : Value}
    {f_hiding_road : Addr} {od_hiding_road an_hiding_road : Option Addr} {sl_hiding_road : Array (Option Value)} {oc_hiding_road kV_hiding_road dc_hiding_road pm_hiding_road cd_hiding_road ct_hiding_road : Value}
    {f__law_hiding : Addr} {od__law_hiding an__law_hiding : Option Addr} {sl__law_hiding : Array (Option Value)} {oc__law_hiding kV__law_hiding dc__law_hiding pm__law_hiding cd__law_hiding ct__law_hiding : Value}
    {f__law_is_hiding : Addr} {od__law_is_hiding an__law_is_hiding : Option Addr} {sl__law_is_hiding : Array (Option Value)} {oc__law_is_hiding kV__law_is_hiding dc__law_is_hiding pm__law_is_hiding cd__law_is_hiding ct__law_is_hiding : Value}
    {f_law : Addr} {od_law an_law : Option Addr} {sl_law : Array (Option Value)} {oc_law kV_law dc_law pm_law cd_law ct_law : Value}
    (a__law_begin : PySem.W.nsIn K mainGlobals "_law_begin" = some (some (.ref f__law_begin))) (l__law_begin : K.lookup f__law_begin = some ⟨oc__law_begin, od__law_begin, .func (PySem.W.fnOf "_law_begin" "_law_begin" (defArgs s__law_begin) (defBody s__law_begin) (defScope s__law_begin) .none kV__law_begin dc__law_begin pm__law_begin an__law_begin cd__law_begin ct__law_begin), sl__law_begin⟩) (c__law_begin : PySem.W.codeIn K cd__law_begin "_law_begin" = true) (k__law_begin : PySem.W.keepIn K (.ref f__law_begin) = true)
    (a__law_draw : PySem.W.nsIn K mainGlobals "_law_draw" = some (some (.ref f__law_draw))) (l__law_draw : K.lookup f__law_draw = some ⟨oc__law_draw, od__law_draw, .func (PySem.W.fnOf "_law_draw" "_law_draw" (defArgs s__law_draw) (defBody s__law_draw) (defScope s__law_draw) .none kV__law_draw dc__law_draw pm__law_draw an__law_draw cd__law_draw ct__law_draw), sl__law_draw⟩) (c__law_draw : PySem.W.codeIn K cd__law_draw "_law_draw" = true) (k__law_draw : PySem.W.keepIn K (.ref f__law_draw) = true)
    (a_lateness : PySem.W.nsIn K mainGlobals "lateness" = some (some (.ref f_lateness))) (l_lateness : K.lookup f_lateness = some ⟨oc_lateness, od_lateness, .func (PySem.W.fnOf "lateness" "lateness" (defArgs s_lateness) (defBody s_lateness) (defScope s_lateness) .none kV_lateness dc_lateness pm_lateness an_lateness cd_lateness ct_lateness), sl_lateness⟩) (c_lateness : PySem.W.codeIn K cd_lateness "lateness" = true) (k_lateness : PySem.W.keepIn K (.ref f_lateness) = true)
    (a__law_fates : PySem.W.nsIn K mainGlobals "_law_fates" = some (some (.ref f__law_fates))) (l__law_fates : K.lookup f__law_fates = some ⟨oc__law_fates, od__law_fates, .func (PySem.W.fnOf "_law_fates" "_law_fates" (defArgs s__law_fates) (defBody s__law_fates) (defScope s__law_fates) .none kV__law_fates dc__law_fates pm__law_fates an__law_fates cd__law_fates ct__law_fates), sl__law_fates⟩) (c__law_fates : PySem.W.codeIn K cd__law_fates "_law_fates" = true) (k__law_fates : PySem.W.keepIn K (.ref f__law_fates) = true)
    (a__law_road : PySem.W.nsIn K mainGlobals "_law_road" = some (some (.ref f__law_road))) (l__law_road : K.lookup f__law_road = some ⟨oc__law_road, od__law_road, .func (PySem.W.fnOf "_law_road" "_law_road" (defArgs s__law_road) (defBody s__law_road) (defScope s__law_road) .none kV__law_road dc__law_road pm__law_road an__law_road cd__law_road ct__law_road), sl__law_road⟩) (c__law_road : PySem.W.codeIn K cd__law_road "_law_road" = true) (k__law_road : PySem.W.keepIn K (.ref f__law_road) = true)
    (a_is_row : PySem.W.nsIn K mainGlobals "is_row" = some (some (.ref f_is_row))) (l_is_row : K.lookup f_is_row = some ⟨oc_is_row, od_is_row, .func (PySem.W.fnOf "is_row" "is_row" (defArgs s_is_row) (defBody s_is_row) (defScope s_is_row) .none kV_is_row dc_is_row pm_is_row an_is_row cd_is_row ct_is_row), sl_is_row⟩) (c_is_row : PySem.W.codeIn K cd_is_row "is_row" = true) (k_is_row : PySem.W.keepIn K (.ref f_is_row) = true)
    (a_keeps_bounds : PySem.W.nsIn K mainGlobals "keeps_bounds" = some (some (.ref f_keeps_bounds))) (l_keeps_bounds : K.lookup f_keeps_bounds = some ⟨oc_keeps_bounds, od_keeps_bounds, .func (PySem.W.fnOf "keeps_bounds" "keeps_bounds" (defArgs s_keeps_bounds) (defBody s_keeps_bounds) (defScope s_keeps_bounds) .none kV_keeps_bounds dc_keeps_bounds pm_keeps_bounds an_keeps_bounds cd_keeps_bounds ct_keeps_bounds), sl_keeps_bounds⟩) (c_keeps_bounds : PySem.W.codeIn K cd_keeps_bounds "keeps_bounds" = true) (k_keeps_bounds : PySem.W.keepIn K (.ref f_keeps_bounds) = true)
    (a_is_int : PySem.W.nsIn K mainGlobals "is_int" = some (some (.ref f_is_int))) (l_is_int : K.lookup f_is_int = some ⟨oc_is_int, od_is_int, .func (PySem.W.fnOf "is_int" "is_int" (defArgs s_is_int) (defBody s_is_int) (defScope s_is_int) .none kV_is_int dc_is_int pm_is_int an_is_int cd_is_int ct_is_int), sl_is_int⟩) (c_is_int : PySem.W.codeIn K cd_is_int "is_int" = true) (k_is_int : PySem.W.keepIn K (.ref f_is_int) = true)
    (a_is_ints : PySem.W.nsIn K mainGlobals "is_ints" = some (some (.ref f_is_ints))) (l_is_ints : K.lookup f_is_ints = some ⟨oc_is_ints, od_is_ints, .func (PySem.W.fnOf "is_ints" "is_ints" (defArgs s_is_ints) (defBody s_is_ints) (defScope s_is_ints) .none kV_is_ints dc_is_ints pm_is_ints an_is_ints cd_is_ints ct_is_ints), sl_is_ints⟩) (c_is_ints : PySem.W.codeIn K cd_is_ints "is_ints" = true) (k_is_ints : PySem.W.keepIn K (.ref f_is_ints) = true)
    (a_is_ints_between : PySem.W.nsIn K mainGlobals "is_ints_between" = some (some (.ref f_is_ints_between))) (l_is_ints_between : K.lookup f_is_ints_between = some ⟨oc_is_ints_between, od_is_ints_between, .func (PySem.W.fnOf "is_ints_between" "is_ints_between" (defArgs s_is_ints_between) (defBody s_is_ints_between) (defScope s_is_ints_between) .none kV_is_ints_between dc_is_ints_between pm_is_ints_between an_is_ints_between cd_is_ints_between ct_is_ints_between), sl_is_ints_between⟩) (c_is_ints_between : PySem.W.codeIn K cd_is_ints_between "is_ints_between" = true) (k_is_ints_between : PySem.W.keepIn K (.ref f_is_ints_between) = true)
    (a_is_fate : PySem.W.nsIn K mainGlobals "is_fate" = some (some (.ref f_is_fate))) (l_is_fate : K.lookup f_is_fate = some ⟨oc_is_fate, od_is_fate, .func (PySem.W.fnOf "is_fate" "is_fate" (defArgs s_is_fate) (defBody s_is_fate) (defScope s_is_fate) .none kV_is_fate dc_is_fate pm_is_fate an_is_fate cd_is_fate ct_is_fate), sl_is_fate⟩) (c_is_fate : PySem.W.codeIn K cd_is_fate "is_fate" = true) (k_is_fate : PySem.W.keepIn K (.ref f_is_fate) = true)
    (a_is_fates : PySem.W.nsIn K mainGlobals "is_fates" = some (some (.ref f_is_fates))) (l_is_fates : K.lookup f_is_fates = some ⟨oc_is_fates, od_is_fates, .func (PySem.W.fnOf "is_fates" "is_fates" (defArgs s_is_fates) (defBody s_is_fates) (defScope s_is_fates) .none kV_is_fates dc_is_fates pm_is_fates an_is_fates cd_is_fates ct_is_fates), sl_is_fates⟩) (c_is_fates : PySem.W.codeIn K cd_is_fates "is_fates" = true) (k_is_fates : PySem.W.keepIn K (.ref f_is_fates) = true)
    (a_is_road : PySem.W.nsIn K mainGlobals "is_road" = some (some (.ref f_is_road))) (l_is_road : K.lookup f_is_road = some ⟨oc_is_road, od_is_road, .func (PySem.W.fnOf "is_road" "is_road" (defArgs s_is_road) (defBody s_is_road) (defScope s_is_road) .none kV_is_road dc_is_road pm_is_road an_is_road cd_is_road ct_is_road), sl_is_road⟩) (c_is_road : PySem.W.codeIn K cd_is_road "is_road" = true) (k_is_road : PySem.W.keepIn K (.ref f_is_road) = true)
    (a__law_is_let : PySem.W.nsIn K mainGlobals "_law_is_let" = some (some (.ref f__law_is_let))) (l__law_is_let : K.lookup f__law_is_let = some ⟨oc__law_is_let, od__law_is_let, .func (PySem.W.fnOf "_law_is_let" "_law_is_let" (defArgs s__law_is_let) (defBody s__law_is_let) (defScope s__law_is_let) .none kV__law_is_let dc__law_is_let pm__law_is_let an__law_is_let cd__law_is_let ct__law_is_let), sl__law_is_let⟩) (c__law_is_let : PySem.W.codeIn K cd__law_is_let "_law_is_let" = true) (k__law_is_let : PySem.W.keepIn K (.ref f__law_is_let) = true)
    (a__law_heard : PySem.W.nsIn K mainGlobals "_law_heard" = some (some (.ref f__law_heard))) (l__law_heard : K.lookup f__law_heard = some ⟨oc__law_heard, od__law_heard, .func (PySem.W.fnOf "_law_heard" "_law_heard" (defArgs s__law_heard) (defBody s__law_heard) (defScope s__law_heard) .none kV__law_heard dc__law_heard pm__law_heard an__law_heard cd__law_heard ct__law_heard), sl__law_heard⟩) (c__law_heard : PySem.W.codeIn K cd__law_heard "_law_heard" = true) (k__law_heard : PySem.W.keepIn K (.ref f__law_heard) = true)
    (a__law_is_in_time : PySem.W.nsIn K mainGlobals "_law_is_in_time" = some (some (.ref f__law_is_in_time))) (l__law_is_in_time : K.lookup f__law_is_in_time = some ⟨oc__law_is_in_time, od__law_is_in_time, .func (PySem.W.fnOf "_law_is_in_time" "_law_is_in_time" (defArgs s__law_is_in_time) (defBody s__law_is_in_time) (defScope s__law_is_in_time) .none kV__law_is_in_time dc__law_is_in_time pm__law_is_in_time an__law_is_in_time cd__law_is_in_time ct__law_is_in_time), sl__law_is_in_time⟩) (c__law_is_in_time : PySem.W.codeIn K cd__law_is_in_time "_law_is_in_time" = true) (k__law_is_in_time : PySem.W.keepIn K (.ref f__law_is_in_time) = true)
    (a__law_way : PySem.W.nsIn K mainGlobals "_law_way" = some (some (.ref f__law_way))) (l__law_way : K.lookup f__law_way = some ⟨oc__law_way, od__law_way, .func (PySem.W.fnOf "_law_way" "_law_way" (defArgs s__law_way) (defBody s__law_way) (defScope s__law_way) .none kV__law_way dc__law_way pm__law_way an__law_way cd__law_way ct__law_way), sl__law_way⟩) (c__law_way : PySem.W.codeIn K cd__law_way "_law_way" = true) (k__law_way : PySem.W.keepIn K (.ref f__law_way) = true)
    (a__law_is_any : PySem.W.nsIn K mainGlobals "_law_is_any" = some (some (.ref f__law_is_any))) (l__law_is_any : K.lookup f__law_is_any = some ⟨oc__law_is_any, od__law_is_any, .func (PySem.W.fnOf "_law_is_any" "_law_is_any" (defArgs s__law_is_any) (defBody s__law_is_any) (defScope s__law_is_any) .none kV__law_is_any dc__law_is_any pm__law_is_any an__law_is_any cd__law_is_any ct__law_is_any), sl__law_is_any⟩) (c__law_is_any : PySem.W.codeIn K cd__law_is_any "_law_is_any" = true) (k__law_is_any : PySem.W.keepIn K (.ref f__law_is_any) = true)
    (a__law_rare : PySem.W.nsIn K mainGlobals "_law_rare" = some (some (.ref f__law_rare))) (l__law_rare : K.lookup f__law_rare = some ⟨oc__law_rare, od__law_rare, .func (PySem.W.fnOf "_law_rare" "_law_rare" (defArgs s__law_rare) (defBody s__law_rare) (defScope s__law_rare) .none kV__law_rare dc__law_rare pm__law_rare an__law_rare cd__law_rare ct__law_rare), sl__law_rare⟩) (c__law_rare : PySem.W.codeIn K cd__law_rare "_law_rare" = true) (k__law_rare : PySem.W.keepIn K (.ref f__law_rare) = true)
    (a__law_is_int : PySem.W.nsIn K mainGlobals "_law_is_int" = some (some (.ref f__law_is_int))) (l__law_is_int : K.lookup f__law_is_int = some ⟨oc__law_is_int, od__law_is_int, .func (PySem.W.fnOf "_law_is_int" "_law_is_int" (defArgs s__law_is_int) (defBody s__law_is_int) (defScope s__law_is_int) .none kV__law_is_int dc__law_is_int pm__law_is_int an__law_is_int cd__law_is_int ct__law_is_int), sl__law_is_int⟩) (c__law_is_int : PySem.W.codeIn K cd__law_is_int "_law_is_int" = true) (k__law_is_int : PySem.W.keepIn K (.ref f__law_is_int) = true)
    (a_road_of : PySem.W.nsIn K mainGlobals "road_of" = some (some (.ref f_road_of))) (l_road_of : K.lookup f_road_of = some ⟨oc_road_of, od_road_of, .func (PySem.W.fnOf "road_of" "road_of" (defArgs s_road_of) (defBody s_road_of) (defScope s_road_of) .none kV_road_of dc_road_of pm_road_of an_road_of cd_road_of ct_road_of), sl_road_of⟩) (c_road_of : PySem.W.codeIn K cd_road_of "road_of" = true) (k_road_of : PySem.W.keepIn K (.ref f_road_of) = true)
    (a_straight_fates : PySem.W.nsIn K mainGlobals "straight_fates" = some (some (.ref f_straight_fates))) (l_straight_fates : K.lookup f_straight_fates = some ⟨oc_straight_fates, od_straight_fates, .func (PySem.W.fnOf "straight_fates" "straight_fates" (defArgs s_straight_fates) (defBody s_straight_fates) (defScope s_straight_fates) .none kV_straight_fates dc_straight_fates pm_straight_fates an_straight_fates cd_straight_fates ct_straight_fates), sl_straight_fates⟩) (c_straight_fates : PySem.W.codeIn K cd_straight_fates "straight_fates" = true) (k_straight_fates : PySem.W.keepIn K (.ref f_straight_fates) = true)
    (a_straight_road : PySem.W.nsIn K mainGlobals "straight_road" = some (some (.ref f_straight_road))) (l_straight_road : K.lookup f_straight_road = some ⟨oc_straight_road, od_straight_road, .func (PySem.W.fnOf "straight_road" "straight_road" (defArgs s_straight_road) (defBody s_straight_road) (defScope s_straight_road) .none kV_straight_road dc_straight_road pm_straight_road an_straight_road cd_straight_road ct_straight_road), sl_straight_road⟩) (c_straight_road : PySem.W.codeIn K cd_straight_road "straight_road" = true) (k_straight_road : PySem.W.keepIn K (.ref f_straight_road) = true)
    (a__law_is_same : PySem.W.nsIn K mainGlobals "_law_is_same" = some (some (.ref f__law_is_same))) (l__law_is_same : K.lookup f__law_is_same = some ⟨oc__law_is_same, od__law_is_same, .func (PySem.W.fnOf "_law_is_same" "_law_is_same" (defArgs s__law_is_same) (defBody s__law_is_same) (defScope s__law_is_same) .none kV__law_is_same dc__law_is_same pm__law_is_same an__law_is_same cd__law_is_same ct__law_is_same), sl__law_is_same⟩) (c__law_is_same : PySem.W.codeIn K cd__law_is_same "_law_is_same" = true) (k__law_is_same : PySem.W.keepIn K (.ref f__law_is_same) = true)
    (a__law_is_tight : PySem.W.nsIn K mainGlobals "_law_is_tight" = some (some (.ref f__law_is_tight))) (l__law_is_tight : K.lookup f__law_is_tight = some ⟨oc__law_is_tight, od__law_is_tight, .func (PySem.W.fnOf "_law_is_tight" "_law_is_tight" (defArgs s__law_is_tight) (defBody s__law_is_tight) (defScope s__law_is_tight) .none kV__law_is_tight dc__law_is_tight pm__law_is_tight an__law_is_tight cd__law_is_tight ct__law_is_tight), sl__law_is_tight⟩) (c__law_is_tight : PySem.W.codeIn K cd__law_is_tight "_law_is_tight" = true) (k__law_is_tight : PySem.W.keepIn K (.ref f__law_is_tight) = true)
    (a__law_all_ways : PySem.W.nsIn K mainGlobals "_law_all_ways" = some (some (.ref f__law_all_ways))) (l__law_all_ways : K.lookup f__law_all_ways = some ⟨oc__law_all_ways, od__law_all_ways, .func (PySem.W.fnOf "_law_all_ways" "_law_all_ways" (defArgs s__law_all_ways) (defBody s__law_all_ways) (defScope s__law_all_ways) .none kV__law_all_ways dc__law_all_ways pm__law_all_ways an__law_all_ways cd__law_all_ways ct__law_all_ways), sl__law_all_ways⟩) (c__law_all_ways : PySem.W.codeIn K cd__law_all_ways "_law_all_ways" = true) (k__law_all_ways : PySem.W.keepIn K (.ref f__law_all_ways) = true)
    (a__law_is_straight : PySem.W.nsIn K mainGlobals "_law_is_straight" = some (some (.ref f__law_is_straight))) (l__law_is_straight : K.lookup f__law_is_straight = some ⟨oc__law_is_straight, od__law_is_straight, .func (PySem.W.fnOf "_law_is_straight" "_law_is_straight" (defArgs s__law_is_straight) (defBody s__law_is_straight) (defScope s__law_is_straight) .none kV__law_is_straight dc__law_is_straight pm__law_is_straight an__law_is_straight cd__law_is_straight ct__law_is_straight), sl__law_is_straight⟩) (c__law_is_straight : PySem.W.codeIn K cd__law_is_straight "_law_is_straight" = true) (k__law_is_straight : PySem.W.keepIn K (.ref f__law_is_straight) = true)
    (a_late_road : PySem.W.nsIn K mainGlobals "late_road" = some (some (.ref f_late_road))) (l_late_road : K.lookup f_late_road = some ⟨oc_late_road, od_late_road, .func (PySem.W.fnOf "late_road" "late_road" (defArgs s_late_road) (defBody s_late_road) (defScope s_late_road) .none kV_late_road dc_late_road pm_late_road an_late_road cd_late_road ct_late_road), sl_late_road⟩) (c_late_road : PySem.W.codeIn K cd_late_road "late_road" = true) (k_late_road : PySem.W.keepIn K (.ref f_late_road) = true)
    (a__law_is_late : PySem.W.nsIn K mainGlobals "_law_is_late" = some (some (.ref f__law_is_late))) (l__law_is_late : K.lookup f__law_is_late = some ⟨oc__law_is_late, od__law_is_late, .func (PySem.W.fnOf "_law_is_late" "_law_is_late" (defArgs s__law_is_late) (defBody s__law_is_late) (defScope s__law_is_late) .none kV__law_is_late dc__law_is_late pm__law_is_late an__law_is_late cd__law_is_late ct__law_is_late), sl__law_is_late⟩) (c__law_is_late : PySem.W.codeIn K cd__law_is_late "_law_is_late" = true) (k__law_is_late : PySem.W.keepIn K (.ref f__law_is_late) = true)
    (a_hiding_fates : PySem.W.nsIn K mainGlobals "hiding_fates" = some (some (.ref f_hiding_fates))) (l_hiding_fates : K.lookup f_hiding_fates = some ⟨oc_hiding_fates, od_hiding_fates, .func (PySem.W.fnOf "hiding_fates" "hiding_fates" (defArgs s_hiding_fates) (defBody s_hiding_fates) (defScope s_hiding_fates) .none kV_hiding_fates dc_hiding_fates pm_hiding_fates an_hiding_fates cd_hiding_fates ct_hiding_fates), sl_hiding_fates⟩) (c_hiding_fates : PySem.W.codeIn K cd_hiding_fates "hiding_fates" = true) (k_hiding_fates : PySem.W.keepIn K (.ref f_hiding_fates) = true)
    (a_hiding_road : PySem.W.nsIn K mainGlobals "hiding_road" = some (some (.ref f_hiding_road))) (l_hiding_road : K.lookup f_hiding_road = some ⟨oc_hiding_road, od_hiding_road, .func (PySem.W.fnOf "hiding_road" "hiding_road" (defArgs s_hiding_road) (defBody s_hiding_road) (defScope s_hiding_road) .none kV_hiding_road dc_hiding_road pm_hiding_road an_hiding_road cd_hiding_road ct_hiding_road), sl_hiding_road⟩) (c_hiding_road : PySem.W.codeIn K cd_hiding_road "hiding_road" = true) (k_hiding_road : PySem.W.keepIn K (.ref f_hiding_road) = true)
    (a__law_hiding : PySem.W.nsIn K mainGlobals "_law_hiding" = some (some (.ref f__law_hiding))) (l__law_hiding : K.lookup f__law_hiding = some ⟨oc__law_hiding, od__law_hiding, .func (PySem.W.fnOf "_law_hiding" "_law_hiding" (defArgs s__law_hiding) (defBody s__law_hiding) (defScope s__law_hiding) .none kV__law_hiding dc__law_hiding pm__law_hiding an__law_hiding cd__law_hiding ct__law_hiding), sl__law_hiding⟩) (c__law_hiding : PySem.W.codeIn K cd__law_hiding "_law_hiding" = true) (k__law_hiding : PySem.W.keepIn K (.ref f__law_hiding) = true)
    (a__law_is_hiding : PySem.W.nsIn K mainGlobals "_law_is_hiding" = some (some (.ref f__law_is_hiding))) (l__law_is_hiding : K.lookup f__law_is_hiding = some ⟨oc__law_is_hiding, od__law_is_hiding, .func (PySem.W.fnOf "_law_is_hiding" "_law_is_hiding" (defArgs s__law_is_hiding) (defBody s__law_is_hiding) (defScope s__law_is_hiding) .none kV__law_is_hiding dc__law_is_hiding pm__law_is_hiding an__law_is_hiding cd__law_is_hiding ct__law_is_hiding), sl__law_is_hiding⟩) (c__law_is_hiding : PySem.W.codeIn K cd__law_is_hiding "_law_is_hiding" = true) (k__law_is_hiding : PySem.W.keepIn K (.ref f__law_is_hiding) = true)
    (a_law : PySem.W.nsIn K mainGlobals "law" = some (some (.ref f_law))) (l_law : K.lookup f_law = some ⟨oc_law, od_law, .func (PySem.W.fnOf "law" "law" (defArgs s_law) (defBody s_law) (defScope s_law) .none kV_law dc_law pm_law an_law cd_law ct_law), sl_law⟩) (c_law : PySem.W.codeIn K cd_law "law" = true) (k_law : PySem.W.keepIn K (.ref f_law) = true)
    (z_int : PySem.W.nsIn K mainGlobals "int" = some none)
    (z_len : PySem.W.nsIn K mainGlobals "len" = some none)
    (z_abs : PySem.W.nsIn K mainGlobals "abs" = some none)
    (z_range : PySem.W.nsIn K mainGlobals "range" = some none)
    (z_tuple : PySem.W.nsIn K mainGlobals "tuple" = some none)
    (z_isinstance : PySem.W.nsIn K mainGlobals "isinstance" = some none)
    (z_bool : PySem.W.nsIn K mainGlobals "bool" = some none)
    (z_list : PySem.W.nsIn K mainGlobals "list" = some none)
    (z_max : PySem.W.nsIn K mainGlobals "max" = some none)
    {u_MOST_COPIES : Value} (n_MOST_COPIES : PySem.W.nsIn K mainGlobals "MOST_COPIES" = some (some u_MOST_COPIES)) (r_MOST_COPIES : RelV (.int 2) u_MOST_COPIES)
    : ∃ fd : FuncData, (∀ (s : Shared) (v : Value), BindsTo s fd ⟨[v], []⟩ [("script", v)]) ∧ ∀ base : Heap, K.In base → base.Ns mainGlobals mg → FnOk l.prog w K mg base CX0 10 fa fd ["script"] (sp_law K) := by
  have e := hfa.symm.trans (PySem.W.mg_of X G a_law)
  cases e
  have T : Txt mg := ⟨PySem.W.mg_none_of X G z_int, PySem.W.mg_none_of X G z_len, PySem.W.mg_none_of X G z_abs, PySem.W.mg_none_of X G z_range, PySem.W.mg_none_of X G z_tuple, PySem.W.mg_none_of X G z_isinstance, PySem.W.mg_none_of X G z_bool, PySem.W.mg_none_of X G z_list, PySem.W.mg_none_of X G z_max, ⟨_, PySem.W.mg_of X G n_MOST_COPIES, r_MOST_COPIES⟩⟩
  have F__law_begin := fun_mk (st := s__law_begin) l__law_begin c__law_begin k__law_begin
  have D__law_begin : Df K mg "_law_begin" s__law_begin f__law_begin _ ["script"] := ⟨F__law_begin, PySem.W.mg_of X G a__law_begin, F__law_begin.binds (ps := ["script"]) fun _ _ _ _ _ _ us hl => match us, hl with | [_], _ => rfl⟩
  have F__law_draw := fun_mk (st := s__law_draw) l__law_draw c__law_draw k__law_draw
  have D__law_draw : Df K mg "_law_draw" s__law_draw f__law_draw _ ["d", "many"] := ⟨F__law_draw, PySem.W.mg_of X G a__law_draw, F__law_draw.binds (ps := ["d", "many"]) fun _ _ _ _ _ _ us hl => match us, hl with | [_, _], _ => rfl⟩
  have F_lateness := fun_mk (st := s_lateness) l_lateness c_lateness k_lateness
  have D_lateness : Df K mg "lateness" s_lateness f_lateness _ ["d", "l"] := ⟨F_lateness, PySem.W.mg_of X G a_lateness, F_lateness.binds (ps := ["d", "l"]) fun _ _ _ _ _ _ us hl => match us, hl with | [_, _], _ => rfl⟩
  have F__law_fates := fun_mk (st := s__law_fates) l__law_fates c__law_fates k__law_fates
  have D__law_fates : Df K mg "_law_fates" s__law_fates f__law_fates _ ["d", "frames", "late", "lost"] := ⟨F__law_fates, PySem.W.mg_of X G a__law_fates, F__law_fates.binds (ps := ["d", "frames", "late", "lost"]) fun _ _ _ _ _ _ us hl => match us, hl with | [_, _, _, _], _ => rfl⟩
  have F__law_road := fun_mk (st := s__law_road) l__law_road c__law_road k__law_road
  have D__law_road : Df K mg "_law_road" s__law_road f__law_road _ ["d", "seats", "receivers", "frames", "late", "lost"] := ⟨F__law_road, PySem.W.mg_of X G a__law_road, F__law_road.binds (ps := ["d", "seats", "receivers", "frames", "late", "lost"]) fun _ _ _ _ _ _ us hl => match us, hl with | [_, _, _, _, _, _], _ => rfl⟩
  have F_is_row := fun_mk (st := s_is_row) l_is_row c_is_row k_is_row
  have D_is_row : Df K mg "is_row" s_is_row f_is_row _ ["thing", "many"] := ⟨F_is_row, PySem.W.mg_of X G a_is_row, F_is_row.binds (ps := ["thing", "many"]) fun _ _ _ _ _ _ us hl => match us, hl with | [_, _], _ => rfl⟩
  have F_keeps_bounds := fun_mk (st := s_keeps_bounds) l_keeps_bounds c_keeps_bounds k_keeps_bounds
  have D_keeps_bounds : Df K mg "keeps_bounds" s_keeps_bounds f_keeps_bounds _ ["fates", "l"] := ⟨F_keeps_bounds, PySem.W.mg_of X G a_keeps_bounds, F_keeps_bounds.binds (ps := ["fates", "l"]) fun _ _ _ _ _ _ us hl => match us, hl with | [_, _], _ => rfl⟩
  have F_is_int := fun_mk (st := s_is_int) l_is_int c_is_int k_is_int
  have D_is_int : Df K mg "is_int" s_is_int f_is_int _ ["thing"] := ⟨F_is_int, PySem.W.mg_of X G a_is_int, F_is_int.binds (ps := ["thing"]) fun _ _ _ _ _ _ us hl => match us, hl with | [_], _ => rfl⟩
  have F_is_ints := fun_mk (st := s_is_ints) l_is_ints c_is_ints k_is_ints
  have D_is_ints : Df K mg "is_ints" s_is_ints f_is_ints _ ["thing"] := ⟨F_is_ints, PySem.W.mg_of X G a_is_ints, F_is_ints.binds (ps := ["thing"]) fun _ _ _ _ _ _ us hl => match us, hl with | [_], _ => rfl⟩
  have F_is_ints_between := fun_mk (st := s_is_ints_between) l_is_ints_between c_is_ints_between k_is_ints_between
  have D_is_ints_between : Df K mg "is_ints_between" s_is_ints_between f_is_ints_between _ ["thing", "low", "high"] := ⟨F_is_ints_between, PySem.W.mg_of X G a_is_ints_between, F_is_ints_between.binds (ps := ["thing", "low", "high"]) fun _ _ _ _ _ _ us hl => match us, hl with | [_, _, _], _ => rfl⟩
  have F_is_fate := fun_mk (st := s_is_fate) l_is_fate c_is_fate k_is_fate
  have D_is_fate : Df K mg "is_fate" s_is_fate f_is_fate _ ["thing", "d"] := ⟨F_is_fate, PySem.W.mg_of X G a_is_fate, F_is_fate.binds (ps := ["thing", "d"]) fun _ _ _ _ _ _ us hl => match us, hl with | [_, _], _ => rfl⟩
  have F_is_fates := fun_mk (st := s_is_fates) l_is_fates c_is_fates k_is_fates
  have D_is_fates : Df K mg "is_fates" s_is_fates f_is_fates _ ["thing", "frames", "d", "l"] := ⟨F_is_fates, PySem.W.mg_of X G a_is_fates, F_is_fates.binds (ps := ["thing", "frames", "d", "l"]) fun _ _ _ _ _ _ us hl => match us, hl with | [_, _, _, _], _ => rfl⟩
  have F_is_road := fun_mk (st := s_is_road) l_is_road c_is_road k_is_road
  have D_is_road : Df K mg "is_road" s_is_road f_is_road _ ["road", "seats", "receivers", "frames", "d", "l"] := ⟨F_is_road, PySem.W.mg_of X G a_is_road, F_is_road.binds (ps := ["road", "seats", "receivers", "frames", "d", "l"]) fun _ _ _ _ _ _ us hl => match us, hl with | [_, _, _, _, _, _], _ => rfl⟩
  have F__law_is_let := fun_mk (st := s__law_is_let) l__law_is_let c__law_is_let k__law_is_let
  have D__law_is_let : Df K mg "_law_is_let" s__law_is_let f__law_is_let _ ["road", "numbers", "late", "lost", "due"] := ⟨F__law_is_let, PySem.W.mg_of X G a__law_is_let, F__law_is_let.binds (ps := ["road", "numbers", "late", "lost", "due"]) fun _ _ _ _ _ _ us hl => match us, hl with | [_, _, _, _, _], _ => rfl⟩
  have F__law_heard := fun_mk (st := s__law_heard) l__law_heard c__law_heard k__law_heard
  have D__law_heard : Df K mg "_law_heard" s__law_heard f__law_heard _ ["fates", "first"] := ⟨F__law_heard, PySem.W.mg_of X G a__law_heard, F__law_heard.binds (ps := ["fates", "first"]) fun _ _ _ _ _ _ us hl => match us, hl with | [_, _], _ => rfl⟩
  have F__law_is_in_time := fun_mk (st := s__law_is_in_time) l__law_is_in_time c__law_is_in_time k__law_is_in_time
  have D__law_is_in_time : Df K mg "_law_is_in_time" s__law_is_in_time f__law_is_in_time _ ["fates", "lost", "most"] := ⟨F__law_is_in_time, PySem.W.mg_of X G a__law_is_in_time, F__law_is_in_time.binds (ps := ["fates", "lost", "most"]) fun _ _ _ _ _ _ us hl => match us, hl with | [_, _, _], _ => rfl⟩
  have F__law_way := fun_mk (st := s__law_way) l__law_way c__law_way k__law_way
  have D__law_way : Df K mg "_law_way" s__law_way f__law_way _ ["d", "road", "numbers"] := ⟨F__law_way, PySem.W.mg_of X G a__law_way, F__law_way.binds (ps := ["d", "road", "numbers"]) fun _ _ _ _ _ _ us hl => match us, hl with | [_, _, _], _ => rfl⟩
  have F__law_is_any := fun_mk (st := s__law_is_any) l__law_is_any c__law_is_any k__law_is_any
  have D__law_is_any : Df K mg "_law_is_any" s__law_is_any f__law_is_any _ ["d", "numbers", "late", "lost", "most"] := ⟨F__law_is_any, PySem.W.mg_of X G a__law_is_any, F__law_is_any.binds (ps := ["d", "numbers", "late", "lost", "most"]) fun _ _ _ _ _ _ us hl => match us, hl with | [_, _, _, _, _], _ => rfl⟩
  have F__law_rare := fun_mk (st := s__law_rare) l__law_rare c__law_rare k__law_rare
  have D__law_rare : Df K mg "_law_rare" s__law_rare f__law_rare _ ["d", "many"] := ⟨F__law_rare, PySem.W.mg_of X G a__law_rare, F__law_rare.binds (ps := ["d", "many"]) fun _ _ _ _ _ _ us hl => match us, hl with | [_, _], _ => rfl⟩
  have F__law_is_int := fun_mk (st := s__law_is_int) l__law_is_int c__law_is_int k__law_is_int
  have D__law_is_int : Df K mg "_law_is_int" s__law_is_int f__law_is_int _ ["thing"] := ⟨F__law_is_int, PySem.W.mg_of X G a__law_is_int, F__law_is_int.binds (ps := ["thing"]) fun _ _ _ _ _ _ us hl => match us, hl with | [_], _ => rfl⟩
  have F_road_of := fun_mk (st := s_road_of) l_road_of c_road_of k_road_of
  have D_road_of : Df K mg "road_of" s_road_of f_road_of _ ["seats", "receivers", "fates"] := ⟨F_road_of, PySem.W.mg_of X G a_road_of, F_road_of.binds (ps := ["seats", "receivers", "fates"]) fun _ _ _ _ _ _ us hl => match us, hl with | [_, _, _], _ => rfl⟩
  have F_straight_fates := fun_mk (st := s_straight_fates) l_straight_fates c_straight_fates k_straight_fates
  have D_straight_fates : Df K mg "straight_fates" s_straight_fates f_straight_fates _ ["frames"] := ⟨F_straight_fates, PySem.W.mg_of X G a_straight_fates, F_straight_fates.binds (ps := ["frames"]) fun _ _ _ _ _ _ us hl => match us, hl with | [_], _ => rfl⟩
  have F_straight_road := fun_mk (st := s_straight_road) l_straight_road c_straight_road k_straight_road
  have D_straight_road : Df K mg "straight_road" s_straight_road f_straight_road _ ["seats", "receivers", "frames"] := ⟨F_straight_road, PySem.W.mg_of X G a_straight_road, F_straight_road.binds (ps := ["seats", "receivers", "frames"]) fun _ _ _ _ _ _ us hl => match us, hl with | [_, _, _], _ => rfl⟩
  have F__law_is_same := fun_mk (st := s__law_is_same) l__law_is_same c__law_is_same k__law_is_same
  have D__law_is_same : Df K mg "_law_is_same" s__law_is_same f__law_is_same _ ["told", "due"] := ⟨F__law_is_same, PySem.W.mg_of X G a__law_is_same, F__law_is_same.binds (ps := ["told", "due"]) fun _ _ _ _ _ _ us hl => match us, hl with | [_, _], _ => rfl⟩
  have F__law_is_tight := fun_mk (st := s__law_is_tight) l__law_is_tight c__law_is_tight k__law_is_tight
  have D__law_is_tight : Df K mg "_law_is_tight" s__law_is_tight f__law_is_tight _ ["road", "numbers", "late", "lost", "comes_late", "runs"] := ⟨F__law_is_tight, PySem.W.mg_of X G a__law_is_tight, F__law_is_tight.binds (ps := ["road", "numbers", "late", "lost", "comes_late", "runs"]) fun _ _ _ _ _ _ us hl => match us, hl with | [_, _, _, _, _, _], _ => rfl⟩
  have F__law_all_ways := fun_mk (st := s__law_all_ways) l__law_all_ways c__law_all_ways k__law_all_ways
  have D__law_all_ways : Df K mg "_law_all_ways" s__law_all_ways f__law_all_ways _ ["seats", "receivers", "fates"] := ⟨F__law_all_ways, PySem.W.mg_of X G a__law_all_ways, F__law_all_ways.binds (ps := ["seats", "receivers", "fates"]) fun _ _ _ _ _ _ us hl => match us, hl with | [_, _, _], _ => rfl⟩
  have F__law_is_straight := fun_mk (st := s__law_is_straight) l__law_is_straight c__law_is_straight k__law_is_straight
  have D__law_is_straight : Df K mg "_law_is_straight" s__law_is_straight f__law_is_straight _ ["d", "numbers", "late", "lost"] := ⟨F__law_is_straight, PySem.W.mg_of X G a__law_is_straight, F__law_is_straight.binds (ps := ["d", "numbers", "late", "lost"]) fun _ _ _ _ _ _ us hl => match us, hl with | [_, _, _, _], _ => rfl⟩
  have F_late_road := fun_mk (st := s_late_road) l_late_road c_late_road k_late_road
  have D_late_road : Df K mg "late_road" s_late_road f_late_road _ ["seats", "receivers", "frames", "d", "l"] := ⟨F_late_road, PySem.W.mg_of X G a_late_road, F_late_road.binds (ps := ["seats", "receivers", "frames", "d", "l"]) fun _ _ _ _ _ _ us hl => match us, hl with | [_, _, _, _, _], _ => rfl⟩
  have F__law_is_late := fun_mk (st := s__law_is_late) l__law_is_late c__law_is_late k__law_is_late
  have D__law_is_late : Df K mg "_law_is_late" s__law_is_late f__law_is_late _ ["d", "numbers", "late", "lost", "most"] := ⟨F__law_is_late, PySem.W.mg_of X G a__law_is_late, F__law_is_late.binds (ps := ["d", "numbers", "late", "lost", "most"]) fun _ _ _ _ _ _ us hl => match us, hl with | [_, _, _, _, _], _ => rfl⟩
  have F_hiding_fates := fun_mk (st := s_hiding_fates) l_hiding_fates c_hiding_fates k_hiding_fates
  have D_hiding_fates : Df K mg "hiding_fates" s_hiding_fates f_hiding_fates _ ["frames", "d", "l", "first"] := ⟨F_hiding_fates, PySem.W.mg_of X G a_hiding_fates, F_hiding_fates.binds (ps := ["frames", "d", "l", "first"]) fun _ _ _ _ _ _ us hl => match us, hl with | [_, _, _, _], _ => rfl⟩
  have F_hiding_road := fun_mk (st := s_hiding_road) l_hiding_road c_hiding_road k_hiding_road
  have D_hiding_road : Df K mg "hiding_road" s_hiding_road f_hiding_road _ ["seats", "receivers", "frames", "d", "l", "first"] := ⟨F_hiding_road, PySem.W.mg_of X G a_hiding_road, F_hiding_road.binds (ps := ["seats", "receivers", "frames", "d", "l", "first"]) fun _ _ _ _ _ _ us hl => match us, hl with | [_, _, _, _, _, _], _ => rfl⟩
  have F__law_hiding := fun_mk (st := s__law_hiding) l__law_hiding c__law_hiding k__law_hiding
  have D__law_hiding : Df K mg "_law_hiding" s__law_hiding f__law_hiding _ ["frames", "late", "lost", "first"] := ⟨F__law_hiding, PySem.W.mg_of X G a__law_hiding, F__law_hiding.binds (ps := ["frames", "late", "lost", "first"]) fun _ _ _ _ _ _ us hl => match us, hl with | [_, _, _, _], _ => rfl⟩
  have F__law_is_hiding := fun_mk (st := s__law_is_hiding) l__law_is_hiding c__law_is_hiding k__law_is_hiding
  have D__law_is_hiding : Df K mg "_law_is_hiding" s__law_is_hiding f__law_is_hiding _ ["d", "numbers", "late", "lost", "most", "first"] := ⟨F__law_is_hiding, PySem.W.mg_of X G a__law_is_hiding, F__law_is_hiding.binds (ps := ["d", "numbers", "late", "lost", "most", "first"]) fun _ _ _ _ _ _ us hl => match us, hl with | [_, _, _, _, _, _], _ => rfl⟩
  have F_law := fun_mk (st := s_law) l_law c_law k_law
  have D_law : Df K mg "law" s_law _ _ ["script"] := ⟨F_law, PySem.W.mg_of X G a_law, F_law.binds (ps := ["script"]) fun _ _ _ _ _ _ us hl => match us, hl with | [_], _ => rfl⟩
  refine ⟨PySem.W.fnOf "law" "law" (defArgs s_law) (defBody s_law) (defScope s_law) .none kV_law dc_law pm_law an_law cd_law ct_law, fun s v => .of_eq rfl, fun base _ _ => ?_⟩
  have C__law_begin : Cl l.prog w K mg base 1 "_law_begin" (sp__law_begin K) := D__law_begin.cl (ok__law_begin D__law_begin T )
  have C__law_draw : Cl l.prog w K mg base 1 "_law_draw" (sp__law_draw K) := D__law_draw.cl (ok__law_draw D__law_draw T )
  have C_lateness : Cl l.prog w K mg base 1 "lateness" (sp_lateness K) := D_lateness.cl (ok_lateness D_lateness T )
  have C__law_fates : Cl l.prog w K mg base 2 "_law_fates" (sp__law_fates K) := D__law_fates.cl (ok__law_fates D__law_fates T C__law_draw)
  have C__law_road : Cl l.prog w K mg base 3 "_law_road" (sp__law_road K) := D__law_road.cl (ok__law_road D__law_road T C__law_fates)
  have C_is_row : Cl l.prog w K mg base 1 "is_row" (sp_is_row K) := D_is_row.cl (ok_is_row D_is_row T )
  have C_keeps_bounds : Cl l.prog w K mg base 1 "keeps_bounds" (sp_keeps_bounds K) := D_keeps_bounds.cl (ok_keeps_bounds D_keeps_bounds T )
  have C_is_int : Cl l.prog w K mg base 1 "is_int" (sp_is_int K) := D_is_int.cl (ok_is_int D_is_int T )
  have C_is_ints : Cl l.prog w K mg base 2 "is_ints" (sp_is_ints K) := D_is_ints.cl (ok_is_ints D_is_ints T C_is_int)
  have C_is_ints_between : Cl l.prog w K mg base 3 "is_ints_between" (sp_is_ints_between K) := D_is_ints_between.cl (ok_is_ints_between D_is_ints_between T C_is_ints)
  have C_is_fate : Cl l.prog w K mg base 4 "is_fate" (sp_is_fate K) := D_is_fate.cl (ok_is_fate D_is_fate T C_is_ints_between)
  have C_is_fates : Cl l.prog w K mg base 5 "is_fates" (sp_is_fates K) := D_is_fates.cl (ok_is_fates D_is_fates T C_keeps_bounds C_is_row C_is_fate)
  have C_is_road : Cl l.prog w K mg base 6 "is_road" (sp_is_road K) := D_is_road.cl (ok_is_road D_is_road T C_is_row C_is_fates)
  have C__law_is_let : Cl l.prog w K mg base 7 "_law_is_let" (sp__law_is_let K) := D__law_is_let.cl (ok__law_is_let D__law_is_let T C_is_road)
  have C__law_heard : Cl l.prog w K mg base 1 "_law_heard" (sp__law_heard K) := D__law_heard.cl (ok__law_heard D__law_heard T )
  have C__law_is_in_time : Cl l.prog w K mg base 2 "_law_is_in_time" (sp__law_is_in_time K) := D__law_is_in_time.cl (ok__law_is_in_time D__law_is_in_time T C__law_heard)
  have C__law_way : Cl l.prog w K mg base 2 "_law_way" (sp__law_way K) := D__law_way.cl (ok__law_way D__law_way T C__law_draw)
  have C__law_is_any : Cl l.prog w K mg base 8 "_law_is_any" (sp__law_is_any K) := D__law_is_any.cl (ok__law_is_any D__law_is_any T C__law_road C__law_is_let C__law_is_in_time C__law_way)
  have C__law_rare : Cl l.prog w K mg base 2 "_law_rare" (sp__law_rare K) := D__law_rare.cl (ok__law_rare D__law_rare T C__law_draw)
  have C__law_is_int : Cl l.prog w K mg base 1 "_law_is_int" (sp__law_is_int K) := D__law_is_int.cl (ok__law_is_int D__law_is_int T )
  have C_road_of : Cl l.prog w K mg base 1 "road_of" (sp_road_of K) := D_road_of.cl (ok_road_of D_road_of T )
  have C_straight_fates : Cl l.prog w K mg base 1 "straight_fates" (sp_straight_fates K) := D_straight_fates.cl (ok_straight_fates D_straight_fates T )
  have C_straight_road : Cl l.prog w K mg base 2 "straight_road" (sp_straight_road K) := D_straight_road.cl (ok_straight_road D_straight_road T C_road_of C_straight_fates)
  have C__law_is_same : Cl l.prog w K mg base 5 "_law_is_same" (sp__law_is_same K) := D__law_is_same.cl (ok__law_is_same D__law_is_same T C__law_is_int)
  have C__law_is_tight : Cl l.prog w K mg base 8 "_law_is_tight" (sp__law_is_tight K) := D__law_is_tight.cl (ok__law_is_tight D__law_is_tight T C__law_is_let)
  have C__law_all_ways : Cl l.prog w K mg base 1 "_law_all_ways" (sp__law_all_ways K) := D__law_all_ways.cl (ok__law_all_ways D__law_all_ways T )
  have C__law_is_straight : Cl l.prog w K mg base 9 "_law_is_straight" (sp__law_is_straight K) := D__law_is_straight.cl (ok__law_is_straight D__law_is_straight T C_straight_road C__law_way C__law_is_same C__law_is_tight C__law_all_ways C__law_heard)
  have C_late_road : Cl l.prog w K mg base 2 "late_road" (sp_late_road K) := D_late_road.cl (ok_late_road D_late_road T C_road_of)
  have C__law_is_late : Cl l.prog w K mg base 9 "_law_is_late" (sp__law_is_late K) := D__law_is_late.cl (ok__law_is_late D__law_is_late T C_late_road C__law_way C__law_is_in_time C__law_is_same C__law_is_tight C__law_all_ways C__law_heard)
  have C_hiding_fates : Cl l.prog w K mg base 1 "hiding_fates" (sp_hiding_fates K) := D_hiding_fates.cl (ok_hiding_fates D_hiding_fates T )
  have C_hiding_road : Cl l.prog w K mg base 2 "hiding_road" (sp_hiding_road K) := D_hiding_road.cl (ok_hiding_road D_hiding_road T C_road_of C_hiding_fates)
  have C__law_hiding : Cl l.prog w K mg base 1 "_law_hiding" (sp__law_hiding K) := D__law_hiding.cl (ok__law_hiding D__law_hiding T )
  have C__law_is_hiding : Cl l.prog w K mg base 9 "_law_is_hiding" (sp__law_is_hiding K) := D__law_is_hiding.cl (ok__law_is_hiding D__law_is_hiding T C_hiding_road C__law_way C__law_is_in_time C__law_is_same C__law_is_tight C__law_all_ways C__law_heard C__law_hiding)
  exact ok_law D_law T C__law_begin C__law_draw C_lateness C__law_is_any C__law_rare C__law_is_int C__law_is_straight C__law_is_late C__law_is_hiding
theorem walk {l : PySem.W.OpenLaw} {q : Program} {loose : List Str} {XP : (Str → Option Value) → Heap → Prop} {YP : World → Heap → Prop} {d : DefRec} {K : Params → PySem.W.Frag} (hn : l.most = some 63) (hdf : d.params.defaults = [])
    (hY : ∀ (w : World) (h : Heap), YP w h → (K w.params).In h)
    (F : ∀ (w : World) (mg : Str → Option Value) (fa : Addr) (h : Heap), (K w.params).In h → h.Ns mainGlobals mg → mg d.name = some (.ref fa) →
      ∃ fd : FuncData, (∀ (s : Shared) (u : Value), BindsTo s fd ⟨[u], []⟩ [("script", u)]) ∧ ∀ base : Heap, (K w.params).In base → base.Ns mainGlobals mg → FnOk l.prog w (K w.params) mg base CX0 10 fa fd ["script"] (sp_law (K w.params))) :
    PySem.W.WalkO q loose XP YP l.row.toRowW d [] (fun f vs => PySem.call f vs) :=
  L2.walk_ofB (n := 63) (k := 10) (x := "script") (CX := fun _ => CX0) (sp := fun w => sp_law (K w.params)) hn (by decide) hdf ⟨rfl, by decide, by decide⟩ hY F (fun _ _ a ns hl hb _ hS => law_hands a ns hl hb hS) fun _ _ _ _ _ z => z
end Law
open PySem PySem.W PyProof.Rows in
set_option maxRecDepth 100000 in
set_option maxHeartbeats 0 in
theorem PySem.Challenge.cw_judgedplay_k28_worst_roads_holds : PySem.Challenge.rw_judgedplay_k28_worst_roads.Holds := by
  w_on; o_law; k_head; (case hw => w_witness2)
  k_fill
  refine Law.walk (l := PySem.Challenge.rw_judgedplay_k28_worst_roads) rfl rfl (fun w h Y => PySem.W.kIn_of Y) ?F
  case F =>
    intro w mg fa h KX G hmg
    refine' Law.all_mk KX G hmg ?a__law_begin ?l__law_begin ?c__law_begin ?k__law_begin ?a__law_draw ?l__law_draw ?c__law_draw ?k__law_draw ?a_lateness ?l_lateness ?c_lateness ?k_lateness ?a__law_fates ?l__law_fates ?c__law_fates ?k__law_fates ?a__law_road ?l__law_road ?c__law_road ?k__law_road ?a_is_row ?l_is_row ?c_is_row ?k_is_row ?a_keeps_bounds ?l_keeps_bounds ?c_keeps_bounds ?k_keeps_bounds ?a_is_int ?l_is_int ?c_is_int ?k_is_int ?a_is_ints ?l_is_ints ?c_is_ints ?k_is_ints ?a_is_ints_between ?l_is_ints_between ?c_is_ints_between ?k_is_ints_between ?a_is_fate ?l_is_fate ?c_is_fate ?k_is_fate ?a_is_fates ?l_is_fates ?c_is_fates ?k_is_fates ?a_is_road ?l_is_road ?c_is_road ?k_is_road ?a__law_is_let ?l__law_is_let ?c__law_is_let ?k__law_is_let ?a__law_heard ?l__law_heard ?c__law_heard ?k__law_heard ?a__law_is_in_time ?l__law_is_in_time ?c__law_is_in_time ?k__law_is_in_time ?a__law_way ?l__law_way ?c__law_way ?k__law_way ?a__law_is_any ?l__law_is_any ?c__law_is_any ?k__law_is_any ?a__law_rare ?l__law_rare ?c__law_rare ?k__law_rare ?a__law_is_int ?l__law_is_int ?c__law_is_int ?k__law_is_int ?a_road_of ?l_road_of ?c_road_of ?k_road_of ?a_straight_fates ?l_straight_fates ?c_straight_fates ?k_straight_fates ?a_straight_road ?l_straight_road ?c_straight_road ?k_straight_road ?a__law_is_same ?l__law_is_same ?c__law_is_same ?k__law_is_same ?a__law_is_tight ?l__law_is_tight ?c__law_is_tight ?k__law_is_tight ?a__law_all_ways ?l__law_all_ways ?c__law_all_ways ?k__law_all_ways ?a__law_is_straight ?l__law_is_straight ?c__law_is_straight ?k__law_is_straight ?a_late_road ?l_late_road ?c_late_road ?k_late_road ?a__law_is_late ?l__law_is_late ?c__law_is_late ?k__law_is_late ?a_hiding_fates ?l_hiding_fates ?c_hiding_fates ?k_hiding_fates ?a_hiding_road ?l_hiding_road ?c_hiding_road ?k_hiding_road ?a__law_hiding ?l__law_hiding ?c__law_hiding ?k__law_hiding ?a__law_is_hiding ?l__law_is_hiding ?c__law_is_hiding ?k__law_is_hiding ?a_law ?l_law ?c_law ?k_law ?z_int ?z_len ?z_abs ?z_range ?z_tuple ?z_isinstance ?z_bool ?z_list ?z_max ?n_MOST_COPIES ?r_MOST_COPIES
    (case a__law_begin => k_is)
    (case l__law_begin => k_is)
    (case c__law_begin => k_is)
    (case k__law_begin => k_is)
    (case a__law_draw => k_is)
    (case l__law_draw => k_is)
    (case c__law_draw => k_is)
    (case k__law_draw => k_is)
    (case a_lateness => k_is)
    (case l_lateness => k_is)
    (case c_lateness => k_is)
    (case k_lateness => k_is)
    (case a__law_fates => k_is)
    (case l__law_fates => k_is)
    (case c__law_fates => k_is)
    (case k__law_fates => k_is)
    (case a__law_road => k_is)
    (case l__law_road => k_is)
    (case c__law_road => k_is)
    (case k__law_road => k_is)
    (case a_is_row => k_is)
    (case l_is_row => k_is)
    (case c_is_row => k_is)
    (case k_is_row => k_is)
    (case a_keeps_bounds => k_is)
    (case l_keeps_bounds => k_is)
    (case c_keeps_bounds => k_is)
    (case k_keeps_bounds => k_is)
    (case a_is_int => k_is)
    (case l_is_int => k_is)
    (case c_is_int => k_is)
    (case k_is_int => k_is)
    (case a_is_ints => k_is)
    (case l_is_ints => k_is)
    (case c_is_ints => k_is)
    (case k_is_ints => k_is)
    (case a_is_ints_between => k_is)
    (case l_is_ints_between => k_is)
    (case c_is_ints_between => k_is)
    (case k_is_ints_between => k_is)
    (case a_is_fate => k_is)
    (case l_is_fate => k_is)
    (case c_is_fate => k_is)
    (case k_is_fate => k_is)
    (case a_is_fates => k_is)
    (case l_is_fates => k_is)
    (case c_is_fates => k_is)
    (case k_is_fates => k_is)
    (case a_is_road => k_is)
    (case l_is_road => k_is)
    (case c_is_road => k_is)
    (case k_is_road => k_is)
    (case a__law_is_let => k_is)
    (case l__law_is_let => k_is)
    (case c__law_is_let => k_is)
    (case k__law_is_let => k_is)
    (case a__law_heard => k_is)
    (case l__law_heard => k_is)
    (case c__law_heard => k_is)
    (case k__law_heard => k_is)
    (case a__law_is_in_time => k_is)
    (case l__law_is_in_time => k_is)
    (case c__law_is_in_time => k_is)
    (case k__law_is_in_time => k_is)
    (case a__law_way => k_is)
    (case l__law_way => k_is)
    (case c__law_way => k_is)
    (case k__law_way => k_is)
    (case a__law_is_any => k_is)
    (case l__law_is_any => k_is)
    (case c__law_is_any => k_is)
    (case k__law_is_any => k_is)
    (case a__law_rare => k_is)
    (case l__law_rare => k_is)
    (case c__law_rare => k_is)
    (case k__law_rare => k_is)
    (case a__law_is_int => k_is)
    (case l__law_is_int => k_is)
    (case c__law_is_int => k_is)
    (case k__law_is_int => k_is)
    (case a_road_of => k_is)
    (case l_road_of => k_is)
    (case c_road_of => k_is)
    (case k_road_of => k_is)
    (case a_straight_fates => k_is)
    (case l_straight_fates => k_is)
    (case c_straight_fates => k_is)
    (case k_straight_fates => k_is)
    (case a_straight_road => k_is)
    (case l_straight_road => k_is)
    (case c_straight_road => k_is)
    (case k_straight_road => k_is)
    (case a__law_is_same => k_is)
    (case l__law_is_same => k_is)
    (case c__law_is_same => k_is)
    (case k__law_is_same => k_is)
    (case a__law_is_tight => k_is)
    (case l__law_is_tight => k_is)
    (case c__law_is_tight => k_is)
    (case k__law_is_tight => k_is)
    (case a__law_all_ways => k_is)
    (case l__law_all_ways => k_is)
    (case c__law_all_ways => k_is)
    (case k__law_all_ways => k_is)
    (case a__law_is_straight => k_is)
    (case l__law_is_straight => k_is)
    (case c__law_is_straight => k_is)
    (case k__law_is_straight => k_is)
    (case a_late_road => k_is)
    (case l_late_road => k_is)
    (case c_late_road => k_is)
    (case k_late_road => k_is)
    (case a__law_is_late => k_is)
    (case l__law_is_late => k_is)
    (case c__law_is_late => k_is)
    (case k__law_is_late => k_is)
    (case a_hiding_fates => k_is)
    (case l_hiding_fates => k_is)
    (case c_hiding_fates => k_is)
    (case k_hiding_fates => k_is)
    (case a_hiding_road => k_is)
    (case l_hiding_road => k_is)
    (case c_hiding_road => k_is)
    (case k_hiding_road => k_is)
    (case a__law_hiding => k_is)
    (case l__law_hiding => k_is)
    (case c__law_hiding => k_is)
    (case k__law_hiding => k_is)
    (case a__law_is_hiding => k_is)
    (case l__law_is_hiding => k_is)
    (case c__law_is_hiding => k_is)
    (case k__law_is_hiding => k_is)
    (case a_law => k_is)
    (case l_law => k_is)
    (case c_law => k_is)
    (case k_law => k_is)
    (case z_int => k_is)
    (case z_len => k_is)
    (case z_abs => k_is)
    (case z_range => k_is)
    (case z_tuple => k_is)
    (case z_isinstance => k_is)
    (case z_bool => k_is)
    (case z_list => k_is)
    (case z_max => k_is)
    (case n_MOST_COPIES => k_is)
    (case r_MOST_COPIES => first | exact ⟨_, rfl⟩ | rfl)
#print axioms PySem.Challenge.cw_judgedplay_k28_worst_roads_holds
