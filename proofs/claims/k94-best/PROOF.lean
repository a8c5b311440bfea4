import PyProof.Rows.All
import Wide.All
import OpenK.AllK
import Wide.FinOn
import HandS.ForMost
import HandS.Wide
import HandS.WideBits
import HandS.IsInst
import HandS.TupAny
import HandS.Deep
import HandS.EndBits
import HandS.More
import HandS.Walk
import PySem.Challenge.RW_judgedplay_k94_best_tables
set_option Elab.async false
set_option linter.all false
set_option maxRecDepth 100000
set_option maxHeartbeats 4000000
/-! ### my own layer: introduction forms for the readings -/
namespace Jp
open PySem PySem.Spec PyProof.Rows L2
/-! rules by names -/
section
variable {X : Cx}
def rInt1 : List V → Hp → VK → Prop := fun xs H Q => (∃ i, xs = [.int i] ∧ Q (.int i) H) ∨ ∃ k, xs = [.bl k] ∧ Q (.int (if k then 1 else 0)) H
theorem c_int : CallR X (.type "int") rInt1 := call_int1
def rAbs : List V → Hp → VK → Prop := fun xs H Q => ∃ i, xs = [.int i] ∧ Q (.int (if i < 0 then -i else i)) H
theorem c_abs : CallR X (.builtin "abs") rAbs := call_abs
def rMax2 : List V → Hp → VK → Prop := fun xs H Q => ∃ i j, xs = [.int i, .int j] ∧ Q (.int (if j > i then j else i)) H
theorem c_max2 (hc : X.calm = true) : CallR X (.builtin "max") rMax2 := call_max2 hc
def rMin2 : List V → Hp → VK → Prop := fun xs H Q => ∃ i j, xs = [.int i, .int j] ∧ Q (.int (if j < i then j else i)) H
theorem c_min2 (hc : X.calm = true) : CallR X (.builtin "min") rMin2 := call_min2 hc
def qLen (K : PySem.W.Frag) : List V → Hp → VK → Prop := fun xs H Q => ∃ x n, xs = [x] ∧ LenV K x H n ∧ Q (.int (n : Nat)) H
theorem c_len : CallR X (.builtin "len") (qLen X.K) := call_len
def rLenD : List V → Hp → VK → Prop := fun xs H Q => ∃ a kvs, xs = [V.ref a] ∧ H a = some (.dK kvs) ∧ Q (.int kvs.length) H
theorem c_lenD : CallR X (.builtin "len") rLenD := call_lenD
def rTupOf (K : PySem.W.Frag) : List V → Hp → VK → Prop := fun xs H Q => ∃ p ys, xs = [.ref p] ∧ ((SqL K H p ys ∧ ∀ l, H l = none → Q (.ref l) (upd H l (.tup ys))) ∨ (SqT K H p ys ∧ Q (.ref p) H))
theorem c_tup : CallR X (.type "tuple") (rTupOf X.K) := call_tuple_of
def rLstOf (K : PySem.W.Frag) : List V → Hp → VK → Prop := fun xs H Q => ∃ p ys, xs = [.ref p] ∧ (SqL K H p ys ∨ SqT K H p ys) ∧ ∀ l, H l = none → Q (.ref l) (upd H l (.lst ys))
theorem c_lst : CallR X (.type "list") (rLstOf X.K) := call_list_of
def rBool1 : List V → Hp → VK → Prop := fun xs H Q => (∃ i, xs = [.int i] ∧ Q (.bl (i != 0)) H) ∨ ∃ k, xs = [.bl k] ∧ Q (.bl k) H
theorem c_bool1 : CallR X (.type "bool") rBool1 := call_bool1
def rIsNon : R2 := fun x y H Q => y = .non ∧ Q (.bl (decide (x = .non))) H
theorem o_isN : OpR X (compareOp .Is) rIsNon := op_isN
def rNotNon : R2 := fun x y H Q => y = .non ∧ Q (.bl (!decide (x = .non))) H
theorem o_notN : OpR X (compareOp .IsNot) rNotNon := op_notN
def rAddStr : R2 := fun x y H Q => ∃ i j, x = .str i ∧ y = .str j ∧ i.length + j.length ≤ sizeLine ∧ Q (.str (i ++ j)) H
theorem o_addS : OpR X (binaryOp .Add) rAddStr := op_add_str
theorem o_iaddS : OpR X (inplaceOp .Add) rAddStr := iop_add_str
end
section
variable {K : PySem.W.Frag} {σ : L2.St} {H : Hp} {Q : VK}
theorem i_isN {x : V} (q : Q (.bl (decide (x = .non))) H) : rIsNon x .non H Q := ⟨rfl, q⟩
theorem i_notN {x : V} (q : Q (.bl (!decide (x = .non))) H) : rNotNon x .non H Q := ⟨rfl, q⟩
theorem i_int {i : Int} (q : Q (.int i) H) : rInt1 [.int i] H Q := .inl ⟨i, rfl, q⟩
theorem i_intB {k : Bool} (q : Q (.int (if k then 1 else 0)) H) : rInt1 [.bl k] H Q := .inr ⟨k, rfl, q⟩
theorem i_abs {i : Int} (q : Q (.int (if i < 0 then -i else i)) H) : rAbs [.int i] H Q := ⟨i, rfl, q⟩
theorem i_max2 {i j : Int} (q : Q (.int (if j > i then j else i)) H) : rMax2 [.int i, .int j] H Q := ⟨i, j, rfl, q⟩
theorem i_min2 {i j : Int} (q : Q (.int (if j < i then j else i)) H) : rMin2 [.int i, .int j] H Q := ⟨i, j, rfl, q⟩
theorem i_lenL {p : Addr} {xs : List V} (h : SqL K H p xs) (q : Q (.int xs.length) H) : qLen K [.ref p] H Q := ⟨.ref p, xs.length, rfl, .inl ⟨xs, h, rfl⟩, q⟩
theorem i_lenT {p : Addr} {xs : List V} (h : SqT K H p xs) (q : Q (.int xs.length) H) : qLen K [.ref p] H Q := ⟨.ref p, xs.length, rfl, .inr ⟨xs, h, rfl⟩, q⟩
theorem i_lenS {x : Str} (h : x.length ≤ sizeLine) (q : Q (.int x.length) H) : qLen K [.str x] H Q := ⟨.str x, x.length, rfl, ⟨h, rfl⟩, q⟩
theorem i_lenD {p : Addr} {kvs : List (L2.Key × V)} (h : H p = some (.dK kvs)) (q : Q (.int kvs.length) H) : rLenD [.ref p] H Q := ⟨p, kvs, rfl, h, q⟩
theorem i_tupL {p : Addr} {ys : List V} (h : SqL K H p ys) (q : ∀ l, H l = none → Q (.ref l) (upd H l (.tup ys))) : rTupOf K [.ref p] H Q := ⟨p, ys, rfl, .inl ⟨h, q⟩⟩
theorem i_tupT {p : Addr} {ys : List V} (h : SqT K H p ys) (q : Q (.ref p) H) : rTupOf K [.ref p] H Q := ⟨p, ys, rfl, .inr ⟨h, q⟩⟩
theorem i_lstL {p : Addr} {ys : List V} (h : SqL K H p ys) (q : ∀ l, H l = none → Q (.ref l) (upd H l (.lst ys))) : rLstOf K [.ref p] H Q := ⟨p, ys, rfl, .inl h, q⟩
theorem i_lstT {p : Addr} {ys : List V} (h : SqT K H p ys) (q : ∀ l, H l = none → Q (.ref l) (upd H l (.lst ys))) : rLstOf K [.ref p] H Q := ⟨p, ys, rfl, .inr h, q⟩
theorem i_catA {p b : Addr} {xs ys : List V} (h1 : SqT K H p xs) (h2 : SqT K H b ys) (hl : xs.length + ys.length ≤ sizeLine) (q : ∀ (r : Addr) (H' : Hp), (∀ b o, H b = some o → H' b = some o) → SqT K H' r (xs ++ ys) → Q (.ref r) H') : rCatA K (.ref p) (.ref b) H Q := by
  refine ⟨p, b, xs, ys, rfl, rfl, h1, h2, hl, fun e => ?_, fun _ e => ?_, fun _ _ r hr => ?_⟩
  · subst e; exact q b H (fun _ _ h => h) h2
  · subst e; exact q p H (fun _ _ h => h) (by rw [List.append_nil]; exact h1)
  · exact q r _ (fun b o e => by rw [upd_ne (ne_of_none e hr)]; exact e) (.inl (.inl upd_same))
theorem i_catI {p b : Addr} {ns ms : List Int} (h1 : SqT K H p (ns.map V.int)) (h2 : SqT K H b (ms.map V.int)) (hl : ns.length + ms.length ≤ 10000) (q : ∀ (r : Addr) (H' : Hp), (∀ b o, H b = some o → H' b = some o) → SqT K H' r ((ns ++ ms).map V.int) → Q (.ref r) H') : rCatA K (.ref p) (.ref b) H Q :=
  i_catA h1 h2 (by rw [List.length_map, List.length_map]; exact Nat.le_trans hl (by decide)) fun r H' s t => q r H' s (by rw [List.map_append]; exact t)
/-- ns[lo:hi] -/
def cutI (ns : List Int) (lo hi : Option Int) : List Int := (ns.drop (HT.sIx ns.length 0 lo)).take (HT.sIx ns.length ns.length hi - HT.sIx ns.length 0 lo)
theorem cutI_len (ns : List Int) (lo hi : Option Int) : (cutI ns lo hi).length ≤ ns.length := by
  unfold cutI
  rw [List.length_take, List.length_drop]
  omega
theorem i_slI {p : Addr} {ns : List Int} {lo hi : Option Int} (h : SqT K H p (ns.map V.int)) (hw : ¬ (HT.sIx ns.length 0 lo = 0 ∧ HT.sIx ns.length ns.length hi = ns.length))
    (q : ∀ (r : Addr) (H' : Hp), (∀ b o, H b = some o → H' b = some o) → SqT K H' r ((cutI ns lo hi).map V.int) → Q (.ref r) H') : rSlT K (.ref p) lo hi H Q := by
  refine ⟨p, _, rfl, h, by rw [List.length_map]; exact hw, fun r hr => q r _ (fun b o e => by rw [upd_ne (ne_of_none e hr)]; exact e) (.inl (.inl ?_))⟩
  rw [upd_same]
  unfold cutV cutI
  rw [List.length_map, List.map_take, List.map_drop]
theorem i_sl {r : V → Option Int → Option Int → Hp → VK → Prop} {te : TE} {tl th : TO} (h : te σ H fun x H1 => tl σ H1 fun l H2 => th σ H2 fun u H3 => r x l u H3 Q) : tSl r te tl th σ H Q := h
theorem i_noPart {Q : Option Int → Hp → Prop} (q : Q none H) : tNoPart σ H Q := q
theorem i_part {t : TE} {Q : Option Int → Hp → Prop} (h : t σ H fun x H1 => ∃ i, x = .int i ∧ Q (some i) H1) : tPart t σ H Q := h
theorem i_cat {p b : Addr} {xs zs : List V} (h1 : H p = some (.lst xs)) (h2 : H b = some (.lst zs)) (hl : xs.length + zs.length ≤ sizeLine) (q : ∀ r, H r = none → Q (.ref r) (upd H r (.lst (xs ++ zs)))) : rCat (.ref p) (.ref b) H Q := ⟨p, b, xs, zs, rfl, rfl, h1, h2, hl, q⟩
theorem i_cat' {p b : Addr} {xs zs : List V} (e1 : H p = some (.lst xs)) (e2 : H b = some (.lst zs)) (hl : xs.length + zs.length ≤ 10000) (q : ∀ r H', (∀ b o, H b = some o → H' b = some o) → H r = none → H' r = some (.lst (xs ++ zs)) → Q (.ref r) H') : rCat (.ref p) (.ref b) H Q :=
  i_cat e1 e2 (by rw [sizeLine_eq]; omega) fun r hr => q r _ (fun b o e => by rw [upd_ne (ne_of_none e hr)]; exact e) hr upd_same
theorem i_slL {p : Addr} {xs : List V} {lo hi : Option Int} (h : SqL K H p xs) (q : ∀ r H', (∀ b o, H b = some o → H' b = some o) → H r = none → H' r = some (.lst (cutV xs lo hi)) → Q (.ref r) H') : rSlL K (.ref p) lo hi H Q :=
  ⟨p, xs, rfl, h, fun r hr => q r _ (fun b o e => by rw [upd_ne (ne_of_none e hr)]; exact e) hr upd_same⟩
theorem i_chain {r r' : R2} {ta tb tc : TE} (h : ta σ H fun x H1 => tb σ H1 fun y H2 => r x y H2 fun z H3 => ∃ k, z = .bl k ∧ (if k = true then tc σ H3 fun w' H4 => r' y w' H4 Q else Q (.bl false) H3)) : tChain r r' ta tb tc σ H Q := h
theorem i_popAt {p : Addr} {xs : List V} {i : Int} {y : V} (h : H p = some (.lst xs)) (h0 : 0 ≤ i) (h1 : i < xs.length) (h2 : xs.length ≤ 1000000) (e : xs[i.toNat]? = some y) (q : Q y (upd H p (.lst (xs.eraseIdx i.toNat)))) : rPopAt (.ref p) [.int i] H Q :=
  ⟨p, xs, i, i.toNat, y, rfl, rfl, h, by omega, by omega, seqIndex_of h0 h1, e, q⟩
theorem i_isI {i : Int} {Q : Int → Prop} (q : Q i) : ∃ i', V.int i = .int i' ∧ Q i' := ⟨i, rfl, q⟩
theorem i_bm {T : String} {r : V → List V → Hp → VK → Prop} {to : TE} {t : TA} (h : to σ H fun x H1 => tyV K T x H1 ∧ t σ H1 fun xs H2 => r x xs H2 Q) : tBM K T r to t σ H Q := h
theorem i_bm0 {T : String} {r : V → List V → Hp → VK → Prop} {to : TE} (h : to σ H fun x H1 => tyV K T x H1 ∧ r x [] H1 Q) : tBM0 K T r to σ H Q := h
theorem i_tyL {p : Addr} {xs : List V} {R : Prop} (s : SqL K H p xs) (q : R) : tyV K "list" (.ref p) H ∧ R := ⟨.inl ⟨rfl, xs, s⟩, q⟩
theorem i_app {p : Addr} {xs : List V} {y : V} (h : H p = some (.lst xs)) (hl : xs.length < sizeLine) (q : Q .non (upd H p (.lst (xs ++ [y])))) : rAppend (.ref p) [y] H Q := ⟨p, xs, y, rfl, rfl, h, hl, q⟩
theorem i_addS {x y : Str} (h : x.length + y.length ≤ sizeLine) (q : Q (.str (x ++ y)) H) : rAddStr (.str x) (.str y) H Q := ⟨x, y, rfl, rfl, h, q⟩
theorem i_isi {x : V} {n : String} {t : Value} {b : Bool} (ty : TyX K H x t) (e : PySem.W.kitOne K t (.type n) = some b) (q : Q (.bl b) H) : rIsi K [x, .ty n] H Q := ⟨x, .ty n, t, .type n, b, rfl, .ty n, ty, e, q⟩
theorem i_var {i : Nat} {v : V} (h : σ[i]? = some (some v)) (q : Q v H) : tVar i σ H Q := ⟨v, h, q⟩
theorem i_c {v : V} (q : Q v H) : tC v σ H Q := q
theorem i_op {r : R2} {ta tb : TE} (h : ta σ H fun x H1 => tb σ H1 fun y H2 => r x y H2 Q) : tOp r ta tb σ H Q := h
theorem i_un {r : V → Hp → VK → Prop} {ta : TE} (h : ta σ H fun x H1 => r x H1 Q) : tUn r ta σ H Q := h
theorem i_rI0 {g : Int → Int → V} {i j : Int} (q : Q (g i j) H) : rI0 g (.int i) (.int j) H Q := ⟨i, j, rfl, rfl, q⟩
theorem i_rI {C : Int → Int → Prop} {g : Int → Int → V} {i j : Int} (c : C i j) (q : Q (g i j) H) : rI C g (.int i) (.int j) H Q := ⟨i, j, rfl, rfl, c, q⟩
theorem i_rU {g : Int → V} {i : Int} (q : Q (g i) H) : rU g (.int i) H Q := ⟨i, rfl, q⟩
theorem i_eqI {i j : Int} (q : Q (.bl (decide (i = j))) H) : rEq (.int i) (.int j) H Q := ⟨rfl, by
  have e : decide (V.int i = V.int j) = decide (i = j) := by simp
  rw [e]; exact q⟩
theorem i_neI {i j : Int} (q : Q (.bl (!decide (i = j))) H) : rNe (.int i) (.int j) H Q := ⟨rfl, by
  have e : decide (V.int i = V.int j) = decide (i = j) := by simp
  rw [e]; exact q⟩
theorem i_eqB {i j : Bool} (q : Q (.bl (decide (i = j))) H) : rEq (.bl i) (.bl j) H Q := ⟨rfl, by
  have e : decide (V.bl i = V.bl j) = decide (i = j) := by simp
  rw [e]; exact q⟩
theorem i_neB {i j : Bool} (q : Q (.bl (!decide (i = j))) H) : rNe (.bl i) (.bl j) H Q := ⟨rfl, by
  have e : decide (V.bl i = V.bl j) = decide (i = j) := by simp
  rw [e]; exact q⟩
theorem i_eqS {i j : Str} (q : Q (.bl (decide (i = j))) H) : rEq (.str i) (.str j) H Q := ⟨rfl, by
  have e : decide (V.str i = V.str j) = decide (i = j) := by simp
  rw [e]; exact q⟩
theorem i_neS {i j : Str} (q : Q (.bl (!decide (i = j))) H) : rNe (.str i) (.str j) H Q := ⟨rfl, by
  have e : decide (V.str i = V.str j) = decide (i = j) := by simp
  rw [e]; exact q⟩
/-! index -/
theorem i_ixL {p : Addr} {xs : List V} {i : Int} {v : V} (h : SqL K H p xs) (e : atI xs i = some v) (q : Q v H) : rIxL K (.ref p) (.int i) H Q := ⟨p, xs, i, v, rfl, rfl, h, e, q⟩
theorem i_ixT {p : Addr} {xs : List V} {i : Int} {v : V} (h : SqT K H p xs) (e : atI xs i = some v) (q : Q v H) : rIxT K (.ref p) (.int i) H Q := ⟨p, xs, i, v, rfl, rfl, h, e, q⟩
theorem i_ix1 {x y : V} (h : rIxL K x y H Q) : rIx K x y H Q := .inl h
theorem i_ix2 {x y : V} (h : rIxT K x y H Q) : rIx K x y H Q := .inr (.inl h)
/-! arguments, calls, displays -/
theorem i_nil {Q : List V → Hp → Prop} (q : Q [] H) : tNil σ H Q := q
theorem i_cons {ta : TE} {tr : TA} {Q : List V → Hp → Prop} (h : ta σ H fun x H1 => tr σ H1 fun xs H2 => Q (x :: xs) H2) : tCons ta tr σ H Q := h
theorem i_call {sp : Sp} {E : XK} {t : TA} (h : t σ H fun vs H1 => sp (vs ++ []) H1 Q E) : tCall sp [] E t σ H Q := h
theorem i_cb {r : List V → Hp → VK → Prop} {t : TA} (h : t σ H fun vs H1 => r vs H1 Q) : tCB r t σ H Q := h
theorem i_tup {t : TA} (h : t σ H fun xs H1 => xs.length ≤ sizeLine ∧ ∀ p, H1 p = none → Q (.ref p) (upd H1 p (.tup xs))) : tTup t σ H Q := h
theorem i_lst {t : TA} (h : t σ H fun xs H1 => xs.length ≤ sizeLine ∧ ∀ p, H1 p = none → Q (.ref p) (upd H1 p (.lst xs))) : tLst t σ H Q := h
theorem i_new {n : Nat} {R : Addr → Prop} (h : n ≤ sizeLine) (q : ∀ p, H p = none → R p) : n ≤ sizeLine ∧ ∀ p, H p = none → R p := ⟨h, q⟩
theorem i_if {c : TT} {ta tb : TE} (h : c σ H fun b H1 => if b = true then ta σ H1 Q else tb σ H1 Q) : tIf c ta tb σ H Q := h
theorem i_andV {ta tb : TE} (h : ta σ H fun x H1 => ∃ c, x = .bl c ∧ if c = true then tb σ H1 Q else Q (.bl false) H1) : tAndV ta tb σ H Q := h
theorem i_orV {ta tb : TE} (h : ta σ H fun x H1 => ∃ c, x = .bl c ∧ if c = true then Q (.bl true) H1 else tb σ H1 Q) : tOrV ta tb σ H Q := h
theorem i_notV {ta : TE} (h : ta σ H fun x H1 => ∃ c, x = .bl c ∧ Q (.bl (!c)) H1) : tNotV ta σ H Q := h
/-! tests -/
theorem i_test {t : TE} {Q : Bool → Hp → Prop} (h : t σ H fun x H1 => ∃ k, x = .bl k ∧ Q k H1) : tTest t σ H Q := h
theorem i_B {t : TE} {Q : Bool → Hp → Prop} (h : t σ H fun x H1 => ∃ k, x = .bl k ∧ Q k H1) : tB t σ H Q := h
theorem i_isb {k : Bool} {Q : Bool → Prop} (q : Q k) : ∃ k', V.bl k = .bl k' ∧ Q k' := ⟨k, rfl, q⟩
theorem i_and {t u : TT} {Q : Bool → Hp → Prop} (h : t σ H fun c H1 => if c = true then u σ H1 Q else Q false H1) : tAnd t u σ H Q := h
theorem i_or {t u : TT} {Q : Bool → Hp → Prop} (h : t σ H fun c H1 => if c = true then Q true H1 else u σ H1 Q) : tOr t u σ H Q := h
theorem i_not {t : TT} {Q : Bool → Hp → Prop} (h : t σ H fun c H1 => Q (!c) H1) : tNot t σ H Q := h
/-! statements -/
section
variable {nx : L2.St → Hp → Prop} {rt : VK} {bk ct : L2.St → Hp → Prop}
theorem i_seq {t u : TS} (h : t ⟨u ⟨nx, rt, bk, ct⟩, rt, bk, ct⟩ σ H) : tSeq t u ⟨nx, rt, bk, ct⟩ σ H := h
theorem i_next (h : nx σ H) : tNext ⟨nx, rt, bk, ct⟩ σ H := h
theorem i_asg {te : TE} {g : TG} (h : te σ H fun x H1 => g x σ H1 nx) : tAsg te g ⟨nx, rt, bk, ct⟩ σ H := h
theorem i_drop {te : TE} (h : te σ H fun _ H1 => nx σ H1) : tDrop te ⟨nx, rt, bk, ct⟩ σ H := h
theorem i_ret {te : TE} (h : te σ H rt) : tRet te ⟨nx, rt, bk, ct⟩ σ H := h
theorem i_retN (h : rt .non H) : tRetN ⟨nx, rt, bk, ct⟩ σ H := h
theorem i_ifS {c : TT} {t u : TS} (h : c σ H fun b H1 => if b = true then t ⟨nx, rt, bk, ct⟩ σ H1 else u ⟨nx, rt, bk, ct⟩ σ H1) : tIfS c t u ⟨nx, rt, bk, ct⟩ σ H := h
theorem i_ifC {c : TT} {t u : TS} (J : L2.St → Hp → Prop) (h1 : ∀ σ' H', J σ' H' → nx σ' H') (h2 : ∀ N : L2.St → Hp → Prop, (∀ σ' H', J σ' H' → N σ' H') → tIfS c t u ⟨N, rt, bk, ct⟩ σ H) : tIfS c t u ⟨nx, rt, bk, ct⟩ σ H := h2 _ h1
theorem i_break (h : bk σ H) : tBreak ⟨nx, rt, bk, ct⟩ σ H := h
theorem i_cont (h : ct σ H) : tCont ⟨nx, rt, bk, ct⟩ σ H := h
theorem i_augE {i : Nat} {te : TE} {ti : TIp} {x : V} (e : σ[i]? = some (some x)) (h : te σ H fun y H1 => ti x y H1 fun z H2 => gName i z σ H2 nx) : tAug i te ti ⟨nx, rt, bk, ct⟩ σ H := ⟨x, e, h⟩
theorem i_augS {to ti te : TE} {tget : V → V → Hp → VK → Prop} {tip : TIp} {tset : TSet} (h : to σ H fun o H1 => ti σ H1 fun i H2 => tget o i H2 fun x H3 => te σ H3 fun y H4 => tip x y H4 fun z H5 => tset o i z H5 fun H6 => nx σ H6) : tAugS to ti te tget tip tset ⟨nx, rt, bk, ct⟩ σ H := h
theorem i_ipI {f : Int → Int → Int} {i j : Int} (q : Q (.int (f i j)) H) : ipI f (.int i) (.int j) H Q := ⟨i, j, rfl, rfl, q⟩
theorem i_for {wi : TI} {g : TG} {tb : TS} (h : wi σ H fun J H1 => ∃ W : Nat → Nat → L2.St → Hp → Prop, (∃ m, W 0 m σ H1) ∧ ∀ i m σ H, W i m σ H →
  (J.stop i H ∧ nx σ H) ∨ (J.go i H ∧ ∃ N : L2.St → Hp → Prop, (∀ σ' H', N σ' H' → ∃ m', m' < m ∧ W (i + 1) m' σ' H') ∧ ∀ x H', J.yld i H x H' → g x σ H' fun σ2 H2 => tb ⟨N, rt, nx, N⟩ σ2 H2)) : tFor wi g tb ⟨nx, rt, bk, ct⟩ σ H := h
theorem i_iList {tl : TE} {R : It → Hp → Prop} (h : tl σ H fun x H1 => ∃ a, x = .ref a ∧ (∃ xs, SqL K H1 a xs) ∧ R (Itl K a) H1) : iList K tl σ H R := h
theorem i_iTup {tl : TE} {R : It → Hp → Prop} (h : tl σ H fun x H1 => ∃ a, x = .ref a ∧ (∃ xs, SqT K H1 a xs) ∧ R (Itt K a) H1) : iTup K tl σ H R := h
theorem i_isL {a : Addr} {xs : List V} {R : Addr → Prop} (s : SqL K H a xs) (h : R a) : ∃ a', V.ref a = .ref a' ∧ (∃ xs, SqL K H a' xs) ∧ R a' := ⟨a, rfl, ⟨xs, s⟩, h⟩
theorem i_isT {a : Addr} {xs : List V} {R : Addr → Prop} (s : SqT K H a xs) (h : R a) : ∃ a', V.ref a = .ref a' ∧ (∃ xs, SqT K H a' xs) ∧ R a' := ⟨a, rfl, ⟨xs, s⟩, h⟩
theorem i_rng1 {ta : TA} {R : It → Hp → Prop} (h : ta σ H fun vs H1 => ∃ j : Int, vs = [.int j] ∧ -(2 ^ 62) ≤ j ∧ j < 2 ^ 62 ∧ R (Itr 0 j.toNat) H1) : iRng1 ta σ H R := h
theorem i_rng2 {ta : TA} {R : It → Hp → Prop} (h : ta σ H fun vs H1 => ∃ i j : Int, vs = [.int i, .int j] ∧ (-(2 ^ 62) ≤ i ∧ i < 2 ^ 62 ∧ -(2 ^ 62) ≤ j ∧ j < 2 ^ 62) ∧ R (Itr i (j - i).toNat) H1) : iRng2 ta σ H R := h
theorem i_isR1 {j : Int} {R : Int → Prop} (h1 : -(2 ^ 62) ≤ j) (h2 : j < 2 ^ 62) (h : R j) : ∃ j' : Int, [V.int j] = [.int j'] ∧ -(2 ^ 62) ≤ j' ∧ j' < 2 ^ 62 ∧ R j' := ⟨j, rfl, h1, h2, h⟩
theorem i_isR2 {i j : Int} {R : Int → Int → Prop} (h1 : -(2 ^ 62) ≤ i) (h2 : i < 2 ^ 62) (h3 : -(2 ^ 62) ≤ j) (h4 : j < 2 ^ 62) (h : R i j) : ∃ i' j' : Int, [V.int i, V.int j] = [.int i', .int j'] ∧ (-(2 ^ 62) ≤ i' ∧ i' < 2 ^ 62 ∧ -(2 ^ 62) ≤ j' ∧ j' < 2 ^ 62) ∧ R i' j' := ⟨i, j, rfl, ⟨h1, h2, h3, h4⟩, h⟩
end
/-! comprehensions -/
theorem i_lc {wi : TI} {g : TG} {tt : TT} {te : TE} {ws : List Nat} {σ' : L2.St} (e : wipe σ ws = σ') (h : wi σ H fun J H1 => ∀ D, H1 D = none → ∃ W : Nat → Nat → Hp → Prop, (∃ m, W 0 m (upd H1 D (.lst []))) ∧ ∀ i m H, W i m H →
  (J.stop i H ∧ Q (.ref D) H) ∨ (J.go i H ∧ ∃ Nx : Hp → Prop, (∀ H', Nx H' → ∃ m', m' < m ∧ W (i + 1) m' H') ∧ ∀ x H', J.yld i H x H' → g x σ' H' fun σ2 H2 => wipe σ2 ws = σ' ∧ tt σ2 H2 fun b H3 =>
    if b = true then te σ2 H3 fun y H4 => ∃ acc, H4 D = some (.lst acc) ∧ acc.length < sizeLine ∧ Nx (upd H4 D (.lst (acc ++ [y]))) else Nx H3)) : tLc wi g tt te ws σ H Q := by subst e; exact h
/-! targets -/
theorem i_gNameE {i : Nat} {v : V} {σ' : L2.St} {Q : L2.St → Hp → Prop} (e : σ.set i (some v) = σ') (q : Q σ' H) : gName i v σ H Q := by subst e; exact q
theorem st_of {t : TS} {D : Ends} {σ σ' : L2.St} {H : Hp} (e : σ = σ') (h : t D σ' H) : t D σ H := by subst e; exact h
theorem i_gName {i : Nat} {v : V} {Q : L2.St → Hp → Prop} (q : Q (σ.set i (some v)) H) : gName i v σ H Q := q
theorem i_gSub {to ti : TE} {t : TSet} {v : V} {Q : L2.St → Hp → Prop} (h : to σ H fun o H1 => ti σ H1 fun i H2 => t o i v H2 fun H3 => Q σ H3) : gSub to ti t v σ H Q := h
theorem i_setL {p : Addr} {xs : List V} {k : Int} {j : Nat} {v : V} {Q : Hp → Prop} (h : H p = some (.lst xs)) (e : ixN xs.length k = some j) (q : Q (upd H p (.lst (xs.set j v)))) : rSetL (.ref p) (.int k) v H Q := ⟨p, xs, k, j, rfl, rfl, h, e, q⟩
theorem i_gTup {n : Nat} {t : TGs} {a : Addr} {xs : List V} {Q : L2.St → Hp → Prop} (h : SqT K H a xs) (e : xs.length = n) (q : t xs σ H Q) : gTup K n t (.ref a) σ H Q := ⟨a, xs, rfl, h, e, q⟩
theorem i_gNil {Q : L2.St → Hp → Prop} (q : Q σ H) : gNil [] σ H Q := ⟨rfl, q⟩
theorem i_gCons {t : TG} {u : TGs} {v : V} {r : List V} {Q : L2.St → Hp → Prop} (q : t v σ H fun σ' H' => u r σ' H' Q) : gCons t u (v :: r) σ H Q := ⟨v, r, rfl, q⟩
/-! builtins' calls -/
end
/-! ### heaps -/
/-- all but p is as it was -/
def Kp (p : Addr) (H H' : Hp) : Prop := ∀ b o, H b = some o → b ≠ p → H' b = some o
theorem Kp.refl {p : Addr} {H : Hp} : Kp p H H := fun _ _ e _ => e
theorem Kp.of {p : Addr} {H H' : Hp} (s : Same H H') : Kp p H H' := fun b o e _ => s b o e
theorem Kp.trans {p : Addr} {H H1 H2 : Hp} (a : Kp p H H1) (b : Kp p H1 H2) : Kp p H H2 := fun c o e n => b c o (a c o e n) n
theorem Kp.upd {p : Addr} {H : Hp} {o : HO} : Kp p H (upd H p o) := fun b u e n => by rw [upd_ne n]; exact e
theorem same_new {H : Hp} {p : Addr} {o : HO} (h : H p = none) : Same H (upd H p o) := fun b x e => by
  rw [upd_ne (ne_of_none e h)]
  exact e
theorem Same.tup {K : PySem.W.Frag} {H H' : Hp} {a : Addr} {xs : List V} (e : Same H H') (h : SqT K H a xs) : SqT K H' a xs := by
  rcases h with (h | ⟨o, h⟩) | h
  · exact .inl (.inl (e _ _ h))
  · exact .inl (.inr ⟨o, e _ _ h⟩)
  · exact .inr h
/-- all tuples are as they were -/
def Tps (H H' : Hp) : Prop := ∀ a, (∀ xs, H a = some (.tup xs) → H' a = some (.tup xs)) ∧ ∀ o xs, H a = some (.frz o (.tup xs)) → H' a = some (.frz o (.tup xs))
theorem Tps.sq {K : PySem.W.Frag} {H H' : Hp} {a : Addr} {xs : List V} (e : Tps H H') (h : SqT K H a xs) : SqT K H' a xs := by
  rcases h with (h | ⟨o, h⟩) | h
  · exact .inl (.inl ((e a).1 _ h))
  · exact .inl (.inr ⟨o, (e a).2 _ _ h⟩)
  · exact .inr h
theorem Tps.refl {H : Hp} : Tps H H := fun _ => ⟨fun _ h => h, fun _ _ h => h⟩
theorem Tps.trans {H H1 H2 : Hp} (a : Tps H H1) (b : Tps H1 H2) : Tps H H2 := fun c => ⟨fun xs h => (b c).1 xs ((a c).1 xs h), fun o xs h => (b c).2 o xs ((a c).2 o xs h)⟩
theorem Tps.of {H H' : Hp} (s : Same H H') : Tps H H' := fun a => ⟨fun xs h => s _ _ h, fun o xs h => s _ _ h⟩
theorem Kp.tps {p : Addr} {H H' : Hp} (k : Kp p H H') {xs : List V} (h : H p = some (.lst xs)) : Tps H H' := fun a => ⟨fun ys e => k _ _ e (ne_of e h (by intro z; cases z)), fun o ys e => k _ _ e (ne_of e h (by intro z; cases z))⟩
theorem Kp.seq {K : PySem.W.Frag} {p b : Addr} {H H' : Hp} {xs : List V} (k : Kp p H H') (h : SqL K H b xs) (n : b ≠ p) : SqL K H' b xs := by
  rcases h with (h | ⟨o, h⟩) | h
  · exact .inl (.inl (k _ _ h n))
  · exact .inl (.inr ⟨o, k _ _ h n⟩)
  · exact .inr h
/-! ### data -/
def Shp (n : Nat) (d : PyData) : Prop := d.canLay0 = true ∧ d.depth ≤ n
theorem Shp.shaped {n : Nat} {d : PyData} (h : Shp n d) (hn : n ≤ 64) : SeqAt.shaped d = true := by
  unfold SeqAt.shaped
  rw [h.1, decide_eq_true (Nat.le_trans h.2 hn)]
  rfl
theorem Shp.eqv {n : Nat} {d : PyData} (h : Shp n d) : PyData.eqv d d = true := SeqAt.eqv_refl d h.1
theorem Shp.int (i : Int) : Shp 0 (.int i) := ⟨by simp [PyData.canLay0], by simp [PyData.depth]⟩
theorem Shp.non : Shp 0 .none := ⟨by simp [PyData.canLay0], by simp [PyData.depth]⟩
theorem Shp.bool (b : Bool) : Shp 0 (.bool b) := ⟨by simp [PyData.canLay0], by simp [PyData.depth]⟩
theorem Shp.mono {n m : Nat} {d : PyData} (h : Shp n d) (hm : n ≤ m) : Shp m d := ⟨h.1, Nat.le_trans h.2 hm⟩
theorem shpAll {n : Nat} : ∀ {ds : List PyData}, (∀ d ∈ ds, Shp n d) → PyData.canLayAll0 ds = true ∧ PyData.depthAll ds ≤ n
  | [], _ => ⟨by simp [PyData.canLayAll0], by simp [PyData.depthAll]⟩
  | d :: ds, h => by
    have h1 := h d List.mem_cons_self
    have h2 := shpAll (ds := ds) fun x hx => h x (List.mem_cons_of_mem _ hx)
    refine ⟨by rw [PyData.canLayAll0, h1.1, h2.1]; rfl, ?_⟩
    rw [PyData.depthAll]
    exact Nat.max_le.mpr ⟨h1.2, h2.2⟩
theorem Shp.tup {n : Nat} {ds : List PyData} (h : ∀ d ∈ ds, Shp n d) : Shp (n + 1) (.tuple ds) := by
  have := shpAll h
  exact ⟨by rw [PyData.canLay0]; exact this.1, by rw [PyData.depth]; omega⟩
theorem Shp.lst {n : Nat} {ds : List PyData} (h : ∀ d ∈ ds, Shp n d) : Shp (n + 1) (.list ds) := by
  have := shpAll h
  exact ⟨by rw [PyData.canLay0]; exact this.1, by rw [PyData.depth]; omega⟩
theorem dpAll_of {K : PySem.W.Frag} {H : Hp} : ∀ {xs : List V} {ds : List PyData}, xs.length = ds.length → (∀ (i : Nat) x d, xs[i]? = some x → ds[i]? = some d → Dp K H x d) → DpAll K H xs ds
  | [], [], _, _ => .nil
  | x :: xs, d :: ds, hl, h => .cons (h 0 x d rfl rfl) (dpAll_of (by simpa using hl) fun i y e h1 h2 => h (i + 1) y e (by simpa using h1) (by simpa using h2))
theorem dp_ints {K : PySem.W.Frag} {H : Hp} {a : Addr} {ns : List Int} (h : SqT K H a (ns.map V.int)) : Dp K H (.ref a) (.tuple (ns.map PyData.int)) := by
  refine .tup h (dpAll_of (by simp) fun i x d h1 h2 => ?_)
  rw [List.getElem?_map] at h1 h2
  cases e : ns[i]? with
  | none => rw [e] at h1; cases h1
  | some z =>
    rw [e] at h1 h2
    cases h1
    cases h2
    exact .int z
/-! ### slices of tuples -/
section
variable {prog : Program} {w : World} {A : Around} {E : Value → Shared → Prop} {s : Shared}
theorem tup_whole {t sl : Addr} {items : Array Value} {vl vu : Value} {lo hi : Option Int} {Q : Value → Shared → Prop} (ht : IsTup s.heap t items) (hs : s.heap.IsSliceOf sl vl vu .none) (pl : IsPart vl lo) (pu : IsPart vu hi)
    (h0 : HT.sIx items.size 0 lo = 0) (h1 : HT.sIx items.size items.size hi = items.size) (h : Q (.ref t) s) : wpAny (model prog w) A (getItem (.ref t) (.ref sl)) Q E s := by
  have hTs : s.TypeIs (.ref sl) "slice" := by
    obtain ⟨os, hos, hcs, _⟩ := id hs
    exact ⟨os, hos, hcs⟩
  unfold getItem
  try with_reducible refine wpAny_holding ?_
  first | refine wpAny_bind (wpAny_pure ?_) | skip
  refine wpAny_bind (wpAny_sequenceKey ht.typeIs (by decide) (wpAny_bind (wpAny_callSpecial?_slot (name := Str.ofString "__getitem__") ht.typeIs PyProof.Rows.slot_tuple_getitem (wpAny_call_entry PyProof.Rows.slot_tuple_getitem ht.typeIs entry_tuple_getitem ?_ (args_tuple_getitem _ _)))))
  show wpAny _ _ (Builtin.Tuple.tupleItemsOf (.ref t) >>= _) _ _ s
  refine wpAny_bind (tupleItemsOf_ ht (wpAny_bind (wpAny_typeOf hTs ?_)))
  rw [if_pos (by decide)]
  refine wpAny_bind (HT.sliceApplied_gen hs pl pu ?_)
  show wpAny _ _ (if (((HT.sIx items.size 0 lo : Nat) : Int) == 0 && (1 : Int) == 1 && (HT.sIx items.size items.size hi - HT.sIx items.size 0 lo) == items.size) = true then _ else _) _ _ s
  rw [h0, h1, if_pos (by simp)]
  unfold Builtin.Tuple.tupleIsExact
  refine wpAny_bind (wpAny_bind (wpAny_typeOf ht.typeIs (wpAny_pure ?_)))
  rw [if_pos (by decide)]
  first
    | exact wpAny_bind (wpAny_rule (wpAny_pure ⟨_, rfl, wpAny_pure h⟩))
    | exact wpAny_bind (wpAny_rule (wpAny_bind (wpAny_pure (wpAny_pure ⟨_, rfl, wpAny_pure h⟩))))
end
section
variable {X : Cx}
/-- t[lo:hi], the whole of it too (that is t itself) -/
def rSlQ (K : PySem.W.Frag) : V → Option Int → Option Int → Hp → VK → Prop := fun x lo hi H Q => ∃ a xs, x = .ref a ∧ SqT K H a xs ∧
  (cutV xs lo hi = xs → Q (.ref a) H) ∧ ∀ p, H p = none → Q (.ref p) (upd H p (.tup (cutV xs lo hi)))
theorem sl_tupQ : SlR X (rSlQ X.K) := by
  intro pins s σ H x v vl vu lo hi sl Q I rx hs pl pu h
  obtain ⟨a, xs, e, hx, q0, q1⟩ := h
  by_cases hw : HT.sIx xs.length 0 lo = 0 ∧ HT.sIx xs.length xs.length hi = xs.length
  · subst e
    cases rx
    obtain ⟨its, r, ht, hz⟩ := I.tuple hx
    have hlen : its.toArray.size = xs.length := by rw [List.size_toArray]; exact r.length.symm
    refine ⟨"tuple", _, PyProof.Rows.slot_tuple_getitem.lookup, ht.typeIs, ?_⟩
    refine tup_whole ht hs pl pu (by rw [hlen]; exact hw.1) (by rw [hlen]; exact hw.2) ⟨.ref a, H, I, rfl, q0 ?_⟩
    unfold cutV
    rw [hw.1, hw.2]
    simp
  · exact sl_tup pins s σ H x v vl vu lo hi sl Q I rx hs pl pu ⟨a, xs, e, hx, hw, q1⟩
end
/-! ### loops -/
section
variable {K : PySem.W.Frag} {a : Addr} {xs : List V} {g : TG} {tb : TS} {σ : L2.St} {H : Hp} {nx : L2.St → Hp → Prop} {rt : VK}
theorem f_list (Pv : Nat → L2.St → Hp → Prop) (h0 : Pv 0 σ H) (hl : ∀ i σ H, i ≤ xs.length → Pv i σ H → SqL K H a xs)
    (hs : ∀ i x σ H, xs[i]? = some x → Pv i σ H → g x σ H fun σ2 H2 => tb ⟨Pv (i + 1), rt, nx, Pv (i + 1)⟩ σ2 H2) (hd : ∀ σ H, Pv xs.length σ H → nx σ H) :
    ∃ W : Nat → Nat → L2.St → Hp → Prop, (∃ m, W 0 m σ H) ∧ ∀ i m σ H, W i m σ H →
      ((Itl K a).stop i H ∧ nx σ H) ∨ ((Itl K a).go i H ∧ ∃ N : L2.St → Hp → Prop, (∀ σ' H', N σ' H' → ∃ m', m' < m ∧ W (i + 1) m' σ' H') ∧ ∀ x H', (Itl K a).yld i H x H' → g x σ H' fun σ2 H2 => tb ⟨N, rt, nx, N⟩ σ2 H2) :=
  for_list (D := ⟨nx, rt, fun _ _ => False, fun _ _ => False⟩) Pv h0 hl hs hd
theorem f_tup (Pv : Nat → L2.St → Hp → Prop) (h0 : Pv 0 σ H) (hl : ∀ i σ H, i ≤ xs.length → Pv i σ H → SqT K H a xs)
    (hs : ∀ i x σ H, xs[i]? = some x → Pv i σ H → g x σ H fun σ2 H2 => tb ⟨Pv (i + 1), rt, nx, Pv (i + 1)⟩ σ2 H2) (hd : ∀ σ H, Pv xs.length σ H → nx σ H) :
    ∃ W : Nat → Nat → L2.St → Hp → Prop, (∃ m, W 0 m σ H) ∧ ∀ i m σ H, W i m σ H →
      ((Itt K a).stop i H ∧ nx σ H) ∨ ((Itt K a).go i H ∧ ∃ N : L2.St → Hp → Prop, (∀ σ' H', N σ' H' → ∃ m', m' < m ∧ W (i + 1) m' σ' H') ∧ ∀ x H', (Itt K a).yld i H x H' → g x σ H' fun σ2 H2 => tb ⟨N, rt, nx, N⟩ σ2 H2) :=
  for_tup (D := ⟨nx, rt, fun _ _ => False, fun _ _ => False⟩) Pv h0 hl hs hd
theorem f_range {lo : Int} {n : Nat} (Pv : Nat → L2.St → Hp → Prop) (h0 : Pv 0 σ H)
    (hs : ∀ i σ H, i < n → Pv i σ H → g (.int (lo + i)) σ H fun σ2 H2 => tb ⟨Pv (i + 1), rt, nx, Pv (i + 1)⟩ σ2 H2) (hd : ∀ σ H, Pv n σ H → nx σ H) :
    ∃ W : Nat → Nat → L2.St → Hp → Prop, (∃ m, W 0 m σ H) ∧ ∀ i m σ H, W i m σ H →
      ((Itr lo n).stop i H ∧ nx σ H) ∨ ((Itr lo n).go i H ∧ ∃ N : L2.St → Hp → Prop, (∀ σ' H', N σ' H' → ∃ m', m' < m ∧ W (i + 1) m' σ' H') ∧ ∀ x H', (Itr lo n).yld i H x H' → g x σ H' fun σ2 H2 => tb ⟨N, rt, nx, N⟩ σ2 H2) :=
  for_range (D := ⟨nx, rt, fun _ _ => False, fun _ _ => False⟩) Pv h0 hs hd
theorem f_rangeC {lo c : Int} {n : Nat} (Pv : Nat → L2.St → Hp → Prop) (h0 : Pv 0 σ H)
    (hs : ∀ i σ H, i < n → Pv i σ H → g (.int (lo + (i : Nat) * c)) σ H fun σ2 H2 => tb ⟨Pv (i + 1), rt, nx, Pv (i + 1)⟩ σ2 H2) (hd : ∀ σ H, Pv n σ H → nx σ H) :
    ∃ W : Nat → Nat → L2.St → Hp → Prop, (∃ m, W 0 m σ H) ∧ ∀ i m σ H, W i m σ H →
      ((Itc lo c n).stop i H ∧ nx σ H) ∨ ((Itc lo c n).go i H ∧ ∃ N : L2.St → Hp → Prop, (∀ σ' H', N σ' H' → ∃ m', m' < m ∧ W (i + 1) m' σ' H') ∧ ∀ x H', (Itc lo c n).yld i H x H' → g x σ H' fun σ2 H2 => tb ⟨N, rt, nx, N⟩ σ2 H2) :=
  for_rangeC (D := ⟨nx, rt, fun _ _ => False, fun _ _ => False⟩) Pv h0 hs hd
theorem i_rng3 {ta : TA} {R : It → Hp → Prop} (h : ta σ H fun vs H1 => ∃ (i j c : Int) (n : Nat), vs = [.int i, .int j, .int c] ∧ RgC i j c n ∧ R (Itc i c n) H1) : iRng3 ta σ H R := h
variable {tt : TT} {te : TE} {ws : List Nat} {D : Addr} {Qd : Hp → Prop} {σ' : L2.St}
theorem l_list (Pv : Nat → Hp → Prop) (h0 : Pv 0 (upd H D (.lst []))) (hl : ∀ i H, i ≤ xs.length → Pv i H → SqL K H a xs)
    (hs : ∀ i x H, xs[i]? = some x → Pv i H → g x σ' H fun σ2 H2 => wipe σ2 ws = σ' ∧ tt σ2 H2 fun b H3 =>
      if b = true then te σ2 H3 fun y H4 => ∃ acc, H4 D = some (.lst acc) ∧ acc.length < sizeLine ∧ Pv (i + 1) (upd H4 D (.lst (acc ++ [y]))) else Pv (i + 1) H3) (hd : ∀ H, Pv xs.length H → Qd H) (e : wipe σ' ws = σ' := by rfl) :
    ∃ W : Nat → Nat → Hp → Prop, (∃ m, W 0 m (upd H D (.lst []))) ∧ ∀ i m H, W i m H →
      ((Itl K a).stop i H ∧ Qd H) ∨ ((Itl K a).go i H ∧ ∃ Nx : Hp → Prop, (∀ H', Nx H' → ∃ m', m' < m ∧ W (i + 1) m' H') ∧ ∀ x H', (Itl K a).yld i H x H' → g x σ' H' fun σ2 H2 => wipe σ2 ws = σ' ∧ tt σ2 H2 fun b H3 =>
        if b = true then te σ2 H3 fun y H4 => ∃ acc, H4 D = some (.lst acc) ∧ acc.length < sizeLine ∧ Nx (upd H4 D (.lst (acc ++ [y]))) else Nx H3) := by
  have h := lc_list (K := K) (a := a) (xs := xs) (g := g) (tt := tt) (te := te) (vs := ws) (σ := σ') (H1 := H) (D := D) (Qd := Qd) Pv h0 hl (by rw [e]; exact hs) hd
  rw [e] at h
  exact h
theorem l_tup (Pv : Nat → Hp → Prop) (h0 : Pv 0 (upd H D (.lst []))) (hl : ∀ i H, i ≤ xs.length → Pv i H → SqT K H a xs)
    (hs : ∀ i x H, xs[i]? = some x → Pv i H → g x σ' H fun σ2 H2 => wipe σ2 ws = σ' ∧ tt σ2 H2 fun b H3 =>
      if b = true then te σ2 H3 fun y H4 => ∃ acc, H4 D = some (.lst acc) ∧ acc.length < sizeLine ∧ Pv (i + 1) (upd H4 D (.lst (acc ++ [y]))) else Pv (i + 1) H3) (hd : ∀ H, Pv xs.length H → Qd H) (e : wipe σ' ws = σ' := by rfl) :
    ∃ W : Nat → Nat → Hp → Prop, (∃ m, W 0 m (upd H D (.lst []))) ∧ ∀ i m H, W i m H →
      ((Itt K a).stop i H ∧ Qd H) ∨ ((Itt K a).go i H ∧ ∃ Nx : Hp → Prop, (∀ H', Nx H' → ∃ m', m' < m ∧ W (i + 1) m' H') ∧ ∀ x H', (Itt K a).yld i H x H' → g x σ' H' fun σ2 H2 => wipe σ2 ws = σ' ∧ tt σ2 H2 fun b H3 =>
        if b = true then te σ2 H3 fun y H4 => ∃ acc, H4 D = some (.lst acc) ∧ acc.length < sizeLine ∧ Nx (upd H4 D (.lst (acc ++ [y]))) else Nx H3) := by
  have h := lc_tup (K := K) (a := a) (xs := xs) (g := g) (tt := tt) (te := te) (vs := ws) (σ := σ') (H1 := H) (D := D) (Qd := Qd) Pv h0 hl (by rw [e]; exact hs) hd
  rw [e] at h
  exact h
theorem l_range {lo : Int} {n : Nat} (Pv : Nat → Hp → Prop) (h0 : Pv 0 (upd H D (.lst [])))
    (hs : ∀ i H, i < n → Pv i H → g (.int (lo + i)) σ' H fun σ2 H2 => wipe σ2 ws = σ' ∧ tt σ2 H2 fun b H3 =>
      if b = true then te σ2 H3 fun y H4 => ∃ acc, H4 D = some (.lst acc) ∧ acc.length < sizeLine ∧ Pv (i + 1) (upd H4 D (.lst (acc ++ [y]))) else Pv (i + 1) H3) (hd : ∀ H, Pv n H → Qd H) (e : wipe σ' ws = σ' := by rfl) :
    ∃ W : Nat → Nat → Hp → Prop, (∃ m, W 0 m (upd H D (.lst []))) ∧ ∀ i m H, W i m H →
      ((Itr lo n).stop i H ∧ Qd H) ∨ ((Itr lo n).go i H ∧ ∃ Nx : Hp → Prop, (∀ H', Nx H' → ∃ m', m' < m ∧ W (i + 1) m' H') ∧ ∀ x H', (Itr lo n).yld i H x H' → g x σ' H' fun σ2 H2 => wipe σ2 ws = σ' ∧ tt σ2 H2 fun b H3 =>
        if b = true then te σ2 H3 fun y H4 => ∃ acc, H4 D = some (.lst acc) ∧ acc.length < sizeLine ∧ Nx (upd H4 D (.lst (acc ++ [y]))) else Nx H3) := by
  have h := lc_range (lo := lo) (n := n) (g := g) (tt := tt) (te := te) (vs := ws) (σ := σ') (H1 := H) (D := D) (Qd := Qd) Pv h0 (by rw [e]; exact hs) hd
  rw [e] at h
  exact h
/-! a comprehension whose elements lay nothing -/
theorem l_rangeP {lo : Int} {n : Nat} (f : Nat → V) (hD : H D = none) (hn : n ≤ 1000000)
    (hs : ∀ i H' (R : VK), i < n → Same H H' → R (f i) H' → g (.int (lo + i)) σ' H' fun σ2 H2 => wipe σ2 ws = σ' ∧ tt σ2 H2 fun b H3 => if b = true then te σ2 H3 R else False)
    (hd : ∀ H', Same H H' → H' D = some (.lst ((List.range n).map f)) → Qd H') (e : wipe σ' ws = σ' := by rfl)
    (htt : ∀ (σ2 : L2.St) (H2 : Hp) (A : Hp → Prop) (B : Hp → Prop), (tt σ2 H2 fun b H3 => if b = true then A H3 else False) → tt σ2 H2 fun b H3 => if b = true then A H3 else B H3 := by intro _ _ _ _ h; exact h) (hg : ∀ x (σ2 : L2.St) (H2 : Hp) (A B : L2.St → Hp → Prop), (∀ s h, A s h → B s h) → g x σ2 H2 A → g x σ2 H2 B := by intro _ _ _ _ _ h q; exact h _ _ q) :
    ∃ W : Nat → Nat → Hp → Prop, (∃ m, W 0 m (upd H D (.lst []))) ∧ ∀ i m H, W i m H →
      ((Itr lo n).stop i H ∧ Qd H) ∨ ((Itr lo n).go i H ∧ ∃ Nx : Hp → Prop, (∀ H', Nx H' → ∃ m', m' < m ∧ W (i + 1) m' H') ∧ ∀ x H', (Itr lo n).yld i H x H' → g x σ' H' fun σ2 H2 => wipe σ2 ws = σ' ∧ tt σ2 H2 fun b H3 =>
        if b = true then te σ2 H3 fun y H4 => ∃ acc, H4 D = some (.lst acc) ∧ acc.length < sizeLine ∧ Nx (upd H4 D (.lst (acc ++ [y]))) else Nx H3) := by
  refine l_range (fun i H' => Same H H' ∧ H' D = some (.lst ((List.range i).map f))) ⟨same_new hD, upd_same⟩ (fun i H' hi h => ?_) (fun H' h => hd H' h.1 h.2) e
  obtain ⟨s, hD'⟩ := h
  refine hg _ _ _ _ _ (fun σ2 H2 q => ⟨q.1, htt _ _ _ _ q.2⟩) (hs i H' _ hi s ⟨_, hD', ?_, fun b o hb => ?_, ?_⟩)
  · rw [List.length_map, List.length_range, sizeLine_eq]; omega
  · rw [upd_ne (ne_of_none hb hD)]; exact s _ _ hb
  · rw [upd_same, List.range_succ, List.map_append] <;> rfl
theorem l_listP (f : Nat → V) (hD : H D = none) (hn : xs.length ≤ 1000000) (hx : SqL K H a xs)
    (hs : ∀ i x H' (R : VK), xs[i]? = some x → Same H H' → R (f i) H' → g x σ' H' fun σ2 H2 => wipe σ2 ws = σ' ∧ tt σ2 H2 fun b H3 => if b = true then te σ2 H3 R else False)
    (hd : ∀ H', Same H H' → H' D = some (.lst ((List.range xs.length).map f)) → Qd H') (e : wipe σ' ws = σ' := by rfl)
    (htt : ∀ (σ2 : L2.St) (H2 : Hp) (A : Hp → Prop) (B : Hp → Prop), (tt σ2 H2 fun b H3 => if b = true then A H3 else False) → tt σ2 H2 fun b H3 => if b = true then A H3 else B H3 := by intro _ _ _ _ h; exact h) (hg : ∀ x (σ2 : L2.St) (H2 : Hp) (A B : L2.St → Hp → Prop), (∀ s h, A s h → B s h) → g x σ2 H2 A → g x σ2 H2 B := by intro _ _ _ _ _ h q; exact h _ _ q) :
    ∃ W : Nat → Nat → Hp → Prop, (∃ m, W 0 m (upd H D (.lst []))) ∧ ∀ i m H, W i m H →
      ((Itl K a).stop i H ∧ Qd H) ∨ ((Itl K a).go i H ∧ ∃ Nx : Hp → Prop, (∀ H', Nx H' → ∃ m', m' < m ∧ W (i + 1) m' H') ∧ ∀ x H', (Itl K a).yld i H x H' → g x σ' H' fun σ2 H2 => wipe σ2 ws = σ' ∧ tt σ2 H2 fun b H3 =>
        if b = true then te σ2 H3 fun y H4 => ∃ acc, H4 D = some (.lst acc) ∧ acc.length < sizeLine ∧ Nx (upd H4 D (.lst (acc ++ [y]))) else Nx H3) := by
  refine l_list (xs := xs) (fun i H' => Same H H' ∧ H' D = some (.lst ((List.range i).map f))) ⟨same_new hD, upd_same⟩ (fun i H' _ h => Same.seq h.1 hx) (fun i x H' hi h => ?_) (fun H' h => hd H' h.1 h.2) e
  obtain ⟨s, hD'⟩ := h
  have hlt := (List.getElem?_eq_some_iff.mp hi).1
  refine hg _ _ _ _ _ (fun σ2 H2 q => ⟨q.1, htt _ _ _ _ q.2⟩) (hs i x H' _ hi s ⟨_, hD', ?_, fun b o hb => ?_, ?_⟩)
  · rw [List.length_map, List.length_range, sizeLine_eq]; omega
  · rw [upd_ne (ne_of_none hb hD)]; exact s _ _ hb
  · rw [upd_same, List.range_succ, List.map_append] <;> rfl
theorem l_tupP (f : Nat → V) (hD : H D = none) (hn : xs.length ≤ 1000000) (hx : SqT K H a xs)
    (hs : ∀ i x H' (R : VK), xs[i]? = some x → Same H H' → R (f i) H' → g x σ' H' fun σ2 H2 => wipe σ2 ws = σ' ∧ tt σ2 H2 fun b H3 => if b = true then te σ2 H3 R else False)
    (hd : ∀ H', Same H H' → H' D = some (.lst ((List.range xs.length).map f)) → Qd H') (e : wipe σ' ws = σ' := by rfl)
    (htt : ∀ (σ2 : L2.St) (H2 : Hp) (A : Hp → Prop) (B : Hp → Prop), (tt σ2 H2 fun b H3 => if b = true then A H3 else False) → tt σ2 H2 fun b H3 => if b = true then A H3 else B H3 := by intro _ _ _ _ h; exact h) (hg : ∀ x (σ2 : L2.St) (H2 : Hp) (A B : L2.St → Hp → Prop), (∀ s h, A s h → B s h) → g x σ2 H2 A → g x σ2 H2 B := by intro _ _ _ _ _ h q; exact h _ _ q) :
    ∃ W : Nat → Nat → Hp → Prop, (∃ m, W 0 m (upd H D (.lst []))) ∧ ∀ i m H, W i m H →
      ((Itt K a).stop i H ∧ Qd H) ∨ ((Itt K a).go i H ∧ ∃ Nx : Hp → Prop, (∀ H', Nx H' → ∃ m', m' < m ∧ W (i + 1) m' H') ∧ ∀ x H', (Itt K a).yld i H x H' → g x σ' H' fun σ2 H2 => wipe σ2 ws = σ' ∧ tt σ2 H2 fun b H3 =>
        if b = true then te σ2 H3 fun y H4 => ∃ acc, H4 D = some (.lst acc) ∧ acc.length < sizeLine ∧ Nx (upd H4 D (.lst (acc ++ [y]))) else Nx H3) := by
  refine l_tup (xs := xs) (fun i H' => Same H H' ∧ H' D = some (.lst ((List.range i).map f))) ⟨same_new hD, upd_same⟩ (fun i H' _ h => Same.tup h.1 hx) (fun i x H' hi h => ?_) (fun H' h => hd H' h.1 h.2) e
  obtain ⟨s, hD'⟩ := h
  have hlt := (List.getElem?_eq_some_iff.mp hi).1
  refine hg _ _ _ _ _ (fun σ2 H2 q => ⟨q.1, htt _ _ _ _ q.2⟩) (hs i x H' _ hi s ⟨_, hD', ?_, fun b o hb => ?_, ?_⟩)
  · rw [List.length_map, List.length_range, sizeLine_eq]; omega
  · rw [upd_ne (ne_of_none hb hD)]; exact s _ _ hb
  · rw [upd_same, List.range_succ, List.map_append] <;> rfl
end
theorem i_yes {σ : L2.St} {H : Hp} {Q : Bool → Hp → Prop} (q : Q true H) : tYes σ H Q := q
/-! ### ifs -/
theorem c_dec {P A B : Prop} [Decidable P] (h1 : P → A) (h2 : ¬ P → B) : if decide P = true then A else B := by
  by_cases h : P
  · rw [if_pos (decide_eq_true h)]; exact h1 h
  · rw [if_neg (by rw [decide_eq_false h]; exact Bool.false_ne_true)]; exact h2 h
theorem c_decN {P A B : Prop} [Decidable P] (h1 : ¬ P → A) (h2 : P → B) : if (!decide P) = true then A else B := by
  by_cases h : P
  · rw [if_neg (by rw [decide_eq_true h]; exact Bool.false_ne_true)]; exact h2 h
  · rw [if_pos (by rw [decide_eq_false h]; rfl)]; exact h1 h
theorem c_nt {A B : Prop} (h : B) : if (!true) = true then A else B := iteF h
theorem c_nf {A B : Prop} (h : A) : if (!false) = true then A else B := iteT h
theorem c_bool {b : Bool} {A B : Prop} (h1 : b = true → A) (h2 : b = false → B) : if b = true then A else B := by
  cases b
  · exact iteF (h2 rfl)
  · exact iteT (h1 rfl)
theorem c_yes {P A B : Prop} [Decidable P] (h : P) (h1 : A) : if decide P = true then A else B := by rw [if_pos (decide_eq_true h)]; exact h1
theorem c_no {P A B : Prop} [Decidable P] (h : ¬ P) (h1 : B) : if decide P = true then A else B := by rw [if_neg (by rw [decide_eq_false h]; exact Bool.false_ne_true)]; exact h1
theorem c_yesN {P A B : Prop} [Decidable P] (h : ¬ P) (h1 : A) : if (!decide P) = true then A else B := by rw [if_pos (by rw [decide_eq_false h]; rfl)]; exact h1
theorem c_noN {P A B : Prop} [Decidable P] (h : P) (h1 : B) : if (!decide P) = true then A else B := by rw [if_neg (by rw [decide_eq_true h]; exact Bool.false_ne_true)]; exact h1
section
variable {K : PySem.W.Frag} {σ : L2.St} {H : Hp} {Q : VK}
theorem i_slA {p : Addr} {xs : List V} {lo hi : Option Int} (h : SqT K H p xs) (q : ∀ (r : Addr) (H' : Hp), Same H H' → SqT K H' r (cutV xs lo hi) → Q (.ref r) H') : rSlQ K (.ref p) lo hi H Q :=
  ⟨p, xs, rfl, h, fun e => q p H (Same.refl H) (by rw [e]; exact h), fun r hr => q r _ (same_new hr) (SqT.of upd_same)⟩
theorem i_eqD {x y : V} {d e : PyData} {n m : Nat} (h1 : Dp K H x d) (h2 : Dp K H y e) (s1 : Shp n d) (s2 : Shp m e) (hn : n ≤ 64) (hm : m ≤ 64) (q : Q (.bl (PyData.eqv d e)) H) : rEqD K x y H Q := ⟨d, e, h1, h2, s1.shaped hn, s2.shaped hm, q⟩
theorem i_neD {x y : V} {d e : PyData} {n m : Nat} (h1 : Dp K H x d) (h2 : Dp K H y e) (s1 : Shp n d) (s2 : Shp m e) (hn : n ≤ 64) (hm : m ≤ 64) (q : Q (.bl (!PyData.eqv d e)) H) : rNeD K x y H Q := ⟨d, e, h1, h2, s1.shaped hn, s2.shaped hm, q⟩
/-- == and != of the same data -/
theorem i_eqS' {x y : V} {d : PyData} {n : Nat} (h1 : Dp K H x d) (h2 : Dp K H y d) (s1 : Shp n d) (hn : n ≤ 64) (q : Q (.bl true) H) : rEqD K x y H Q := i_eqD h1 h2 s1 s1 hn hn (by rw [s1.eqv]; exact q)
theorem i_neS' {x y : V} {d : PyData} {n : Nat} (h1 : Dp K H x d) (h2 : Dp K H y d) (s1 : Shp n d) (hn : n ≤ 64) (q : Q (.bl false) H) : rNeD K x y H Q := i_neD h1 h2 s1 s1 hn hn (by rw [s1.eqv]; exact q)
theorem i_while {c : TT} {tb : TS} {nx : L2.St → Hp → Prop} {rt : VK} {bk ct : L2.St → Hp → Prop} (W : Nat → L2.St → Hp → Prop) (h0 : ∃ m, W m σ H) (h : ∀ m σ H, W m σ H →
  c σ H fun b H1 => if b = true then ∃ N : L2.St → Hp → Prop, (∀ σ' H', N σ' H' → ∃ m', m' < m ∧ W m' σ' H') ∧ tb ⟨N, rt, nx, N⟩ σ H1 else nx σ H1) : tWhile c tb ⟨nx, rt, bk, ct⟩ σ H := ⟨W, h0, h⟩
theorem i_par {i j : Nat} {ta : TA} {nx : L2.St → Hp → Prop} {rt : VK} {bk ct : L2.St → Hp → Prop} (h : ta σ H fun vs H1 => ∃ v w, vs = [v, w] ∧ nx ((σ.set i (some v)).set j (some w)) H1) : tPar i j ta ⟨nx, rt, bk, ct⟩ σ H := h
theorem i_two {x y : V} {R : V → V → Prop} (q : R x y) : ∃ v w, [x, y] = [v, w] ∧ R v w := ⟨x, y, rfl, q⟩
theorem Dp.same {K : PySem.W.Frag} {H H' : Hp} (s : Same H H') : ∀ (d : PyData) (v : V), Dp K H v d → Dp K H' v d := by
  intro d v h
  exact Dp.rec (motive_1 := fun v d _ => Dp K H' v d) (motive_2 := fun vs ds _ => DpAll K H' vs ds) .non (fun b => .bl b) (fun i => .int i) (fun x => .str x) (fun h _ q => .lst (s.seq h) q) (fun h _ q => .tup (Same.tup s h) q) .nil (fun _ _ h1 h2 => .cons h1 h2) h
end
/-! ### a def that can be called -/
structure Df (K : PySem.W.Frag) (mg : Str → Option Value) (x : Str) (st : Stmt) (f : Addr) (fd : FuncData) (ps : List Str) : Prop where
  fn : Fun K x x st f fd
  mgf : mg x = some (.ref f)
  bi : Binds K fd ps []
/-- a def of the text by its promise: it lets no exception out -/
structure Cl (P : Program) (w : World) (K : PySem.W.Frag) (mg : Str → Option Value) (base : Heap) (k : Nat) (x : Str) (sp : Sp) : Prop where
  ex : ∃ (f : Addr) (fd : FuncData) (ps : List Str), FnOk P w K mg base CX0 k f fd ps sp ∧ mg x = some (.ref f) ∧ PySem.W.keepIn K (.ref f) = true ∧ Binds K fd ps []
section
variable {P : Program} {w : World} {K : PySem.W.Frag} {mg : Str → Option Value} {base : Heap}
theorem Df.ok {x : Str} {st : Stmt} {f : Addr} {fd : FuncData} {ps N : List Str} {k : Nat} {sp : Sp} (F : Df K mg x st f fd ps) (S : FnScope N ps (defScope st)) (len : ∀ vs H Q E, sp vs H Q E → vs.length = ps.length)
    (hbody : ∀ (cdv : Value) (A : Around) (outer : List Env) (s : Shared) (H : Hp) (vs : List V) (Q : VK) (E : XK), Room k (A.deeper (envOfC x (defScope st) s.heap.objs.size f cdv)) → sp vs H Q E →
      ∃ t, PSs (cxOf CX0 P w K mg base N x (defScope st) f cdv A outer s H E).nox (defBody st) t ∧ t { nx := fun _ H' => Q .non H', rt := Q } (start N vs) H) : FnOk P w K mg base CX0 (k + 1) f fd ps sp :=
  F.fn.ok S len hbody
theorem Df.cl {x : Str} {st : Stmt} {f : Addr} {fd : FuncData} {ps : List Str} {k : Nat} {sp : Sp} (F : Df K mg x st f fd ps) (o : FnOk P w K mg base CX0 k f fd ps sp) : Cl P w K mg base k x sp :=
  ⟨f, fd, ps, o, F.mgf, F.fn.kp, F.bi⟩
variable {X : Cx}
theorem pe_cl {x : Str} {sp : Sp} {j k : Nat} {e : Expr} {es : List Expr} {t : TA} {p pos : Pos} (c : Cl X.prog X.w X.K X.mg X.base k x sp) (hr : Room j X.A) (hk : k ≤ j) (hg : Gl X x) (ha : PA X (e :: es) t)
    (hdb : (x == ("__debug__" : Str)) = false := by decide) (he : starEach (e :: es) X.env = (false, eval e X.env) :: starEach es X.env := by rfl) (hpl : (backTo pos (starEach es X.env)).any (·.1) = false := by rfl) :
    PE X (.Call (.Name x p) (e :: es) [] pos) (tCall sp [] E0 t) := by
  obtain ⟨f, fd, ps, F, hm, kp, b⟩ := c.ex
  exact pe_call F (hr.mono hk) hg hm kp b .nil pass0 ha hdb he hpl
theorem pe_cl0 {x : Str} {sp : Sp} {j k : Nat} {p pos : Pos} (c : Cl X.prog X.w X.K X.mg X.base k x sp) (hr : Room j X.A) (hk : k ≤ j) (hg : Gl X x) (hdb : (x == ("__debug__" : Str)) = false := by decide) :
    PE X (.Call (.Name x p) [] [] pos) (tCall sp [] E0 tNil) := by
  obtain ⟨f, fd, ps, F, hm, kp, b⟩ := c.ex
  exact pe_call0 F (hr.mono hk) hg hm kp b .nil pass0 hdb
/-- a constant of the module's top -/
def Cn (mg : Str → Option Value) (x : Str) (v : V) : Prop := ∃ u, mg x = some u ∧ RelV v u
theorem pe_cn {x : Str} {v : V} {pos : Pos} (hg : Gl X x) (h : Cn X.mg x v) (hd : (x == ("__debug__" : Str)) = false := by decide) : PE X (.Name x pos) (tC v) := by
  obtain ⟨u, hm, r⟩ := h
  exact pe_glob hg hm r hd
section
variable {K : PySem.W.Frag} {T : String} {name : Str} {id : String} {r : V → List V → Hp → VK → Prop} {o e : Expr} {es : List Expr} {apos cpos pos : Pos} {to ta : TE} {t : TA}
theorem pe_bm0K (hK : X.K = K) (pa : PlainAttrs T) (slot : Slot T name id) (hty : typeOf (.builtin id) = pure (.type "method_descriptor")) (hm : MtR X id r) (ho : PE X o to)
    (hbase : attributeBase o name X.env (eval o X.env) = eval o X.env := by rfl) (hline : (apos.endLine == cpos.line) = true := by rfl) : PE X (.Call (.Attribute o name apos) [] [] cpos) (tBM0 K T r to) := by
  subst hK; exact pe_bm0 pa slot hty hm ho hbase hline
theorem pe_bmK (hK : X.K = K) (pa : PlainAttrs T) (slot : Slot T name id) (hty : typeOf (.builtin id) = pure (.type "method_descriptor")) (hm : MtR X id r) (ho : PE X o to) (ha : PA X (e :: es) t)
    (hbase : attributeBase o name X.env (eval o X.env) = eval o X.env := by rfl)
    (hfew : ((backTo cpos (starEach (e :: es) X.env)).all (fun x => !x.1) && (backToKw cpos (keywordEach [] X.env)).all (fun x => x.1.isSome)
      && decide ((e :: es).length + ([] : List Keyword).length + (if ([] : List Keyword).isEmpty then 0 else 1) < 30)) = true := by rfl)
    (hline : (apos.endLine == cpos.line) = true := by rfl) (hs : starEach (e :: es) X.env = (false, eval e X.env) :: starEach es X.env := by rfl) (hplain : (backTo cpos (starEach es X.env)).any (·.1) = false := by rfl) :
    PE X (.Call (.Attribute o name apos) (e :: es) [] cpos) (tBM K T r to t) := by
  subst hK; exact pe_bm pa slot hty hm ho ha hbase hfew hline hs hplain
theorem pe_fldK (hK : X.K = K) {f : Str} (he : PE X e ta) (hb : attributeBase e f X.env (eval e X.env) = eval e X.env) : PE X (.Attribute e f pos) (tFld K ta f) := by
  subst hK; exact pe_fld he hb
theorem pg_tupK (hK : X.K = K) {es : List Expr} {k : Nat} {t : TGs} {n : Nat} (hc : X.calm = true) (h : PGs X es t)
    (hn : (assignEach es X.env).length = n := by rfl) (hst : (assignEach es X.env).findIdx? (·.1) = none := by rfl) : PG X (.Tuple es k pos) (gTup K n t) := by
  subst hK; exact pg_tup hc h hn hst
end
theorem get_list : L2.PGet X (rIxL X.K) := by
  intro pins s σ H x y v u Q I rx ry h
  obtain ⟨p, xs, i, z, rfl, rfl, hq, he, q⟩ := h
  cases rx
  obtain ⟨t, rfl⟩ := ry
  obtain ⟨its, r, pl, hz⟩ := I.list hq
  obtain ⟨j, h1, h2, h3, h4, h5⟩ := atI_get he
  obtain ⟨w, ew, rw'⟩ := r.get h2
  have hl := r.length
  have hn := line63
  have fin : EP X pins σ Q w s := ⟨z, H, I, rw', q⟩
  by_cases h0 : 0 ≤ i
  · have hj : i.toNat = j := by
      rw [seqIndex_of h0 h5] at h1
      exact Option.some.inj h1
    exact wpAny_getItem_list pl.isList h0 (by omega) (by rw [hj]; simpa using ew) fin
  · have hj : (i + (its.toArray.size : Int)).toNat = j := by
      rw [seqIndex_neg (by omega) h4] at h1
      rw [List.size_toArray, ← hl]
      exact Option.some.inj h1
    exact wpAny_getItem_list_neg pl.isList (by omega) (by rw [List.size_toArray] <;> omega) (by omega) (by rw [hj]; simpa using ew) fin
end
theorem perm_erase {α : Type} : ∀ (l : List α) (i : Nat) (h : i < l.length), (l[i] :: l.eraseIdx i).Perm l
  | x :: r, 0, _ => List.Perm.refl _
  | x :: r, i + 1, h => (List.Perm.swap x (r[i]'(Nat.lt_of_succ_lt_succ h)) (r.eraseIdx i)).trans ((perm_erase r i (Nat.lt_of_succ_lt_succ h)).cons x)
theorem ints_at {ns : List Int} {i : Nat} {x : V} (h : (ns.map V.int)[i]? = some x) : ∃ z, x = .int z ∧ ns[i]? = some z ∧ ns.take (i + 1) = ns.take i ++ [z] ∧ i < ns.length := by
  rw [List.getElem?_map] at h
  cases e : ns[i]? with
  | none => rw [e] at h; cases h
  | some z =>
    rw [e] at h
    exact ⟨z, (Option.some.inj h).symm, rfl, by rw [List.take_add_one, e]; rfl, (List.getElem?_eq_some_iff.mp e).1⟩
theorem at_lt {α : Type} {xs : List α} {i : Int} (h0 : 0 ≤ i) (h : i < xs.length) : ∃ v, atI xs i = some v ∧ v ∈ xs ∧ xs[i.toNat]? = some v := by
  have hl : i.toNat < xs.length := by omega
  refine ⟨xs[i.toNat], ?_, List.getElem_mem hl, List.getElem?_eq_getElem hl⟩
  have := atI_nat (xs := xs) (j := i.toNat) (v := xs[i.toNat]) (List.getElem?_eq_getElem hl)
  rw [Int.toNat_of_nonneg h0] at this
  exact this
theorem ixN_of {n : Nat} {i : Int} (h0 : 0 ≤ i) (h : i < n) : ixN n i = some i.toNat := by
  unfold ixN
  rw [if_pos h0, if_pos h]
end Jp

namespace Law
open PySem PySem.Spec PyProof.Rows L2 Jp
/-! ### the walk's small steps -/
local macro_rules | `(tactic| wtm_at "jset") => `(tactic| (first | (simp only [wipe, List.map_cons, List.map_nil, List.set_cons_zero, List.set_cons_succ]; done) | (simp only [wipe, List.map_cons, List.map_nil, List.set_cons_zero, List.set_cons_succ]; exact rfl) | exact rfl))
local macro_rules | `(tactic| wtm_at "jw1") => `(tactic| first
  | ((with_reducible refine' i_var ?h ?_); (case h => exact rfl))
  | with_reducible refine' i_c ?_ | with_reducible refine' i_op ?_ | with_reducible refine' i_seq ?_ | with_reducible refine' i_asg ?_
  | ((with_reducible refine' i_gNameE ?e ?_); (case e => wtm_at "jset"))
  | with_reducible refine' i_ret ?_ | with_reducible refine' i_test ?_ | with_reducible refine' i_isb ?_
  | with_reducible refine' i_cons ?_ | with_reducible refine' i_nil ?_ | with_reducible refine' i_call ?_ | with_reducible refine' i_cb ?_
  | with_reducible refine' i_rI0 ?_ | ((with_reducible refine' i_rI ?c ?_); (case c => wtm_at "jside")) | with_reducible refine' i_rU ?_
  | with_reducible refine' i_eqI ?_ | with_reducible refine' i_neI ?_ | with_reducible refine' i_eqB ?_ | with_reducible refine' i_neB ?_ | with_reducible refine' i_eqS ?_ | with_reducible refine' i_neS ?_
  | with_reducible refine' i_isN ?_ | with_reducible refine' i_notN ?_
  | with_reducible refine' i_un ?_ | with_reducible refine' i_drop ?_ | with_reducible refine' i_retN ?_ | with_reducible refine' i_next ?_
  | ((with_reducible refine' i_ixL ?h ?e ?_); (case h => wtm_at "jsq"); (case e => wtm_at "jat"))
  | ((with_reducible refine' i_ixT ?h ?e ?_); (case h => wtm_at "jsq"); (case e => wtm_at "jat"))
  | ((with_reducible refine' i_ix1 (i_ixL ?h ?e ?_)); (case h => wtm_at "jsq"); (case e => wtm_at "jat"))
  | ((with_reducible refine' i_ix2 (i_ixT ?h ?e ?_)); (case h => wtm_at "jsq"); (case e => wtm_at "jat"))
  | with_reducible refine' i_gSub ?_
  | ((with_reducible refine' i_setL ?h ?e ?_); (case h => wtm_at "jhp"); (case e => wtm_at "jixn"))
  | ((with_reducible refine' i_gTup ?h ?e ?_); (case h => wtm_at "jsq"); (case e => rfl)) | with_reducible refine' i_gCons ?_ | with_reducible refine' i_gNil ?_
  | with_reducible refine' i_int ?_ | with_reducible refine' i_intB ?_ | with_reducible refine' i_abs ?_ | with_reducible refine' i_max2 ?_ | with_reducible refine' i_min2 ?_
  | ((with_reducible refine' i_lenL ?h ?_); (case h => wtm_at "jsq")) | ((with_reducible refine' i_lenT ?h ?_); (case h => wtm_at "jsq"))
  | ((with_reducible refine' i_tupL ?h ?_); (case h => wtm_at "jsq")) | ((with_reducible refine' i_lstL ?h ?_); (case h => wtm_at "jsq")) | ((with_reducible refine' i_lstT ?h ?_); (case h => wtm_at "jsq")) | ((with_reducible refine' i_tupT ?h ?_); (case h => wtm_at "jsq"))
  | ((with_reducible refine' i_new ?h ?_); (case h => wtm_at "jlen"))
  | with_reducible refine' i_tup ?_ | with_reducible refine' i_lst ?_ | with_reducible refine' i_if ?_ | with_reducible refine' i_andV ?_ | with_reducible refine' i_orV ?_ | with_reducible refine' i_notV ?_ | with_reducible refine' i_B ?_
  | with_reducible refine' i_and ?_ | with_reducible refine' i_or ?_ | with_reducible refine' i_not ?_ | with_reducible refine' i_break ?_ | with_reducible refine' i_cont ?_
  | ((with_reducible refine' i_augE ?h ?_); (case h => exact rfl)) | with_reducible refine' i_augS ?_ | with_reducible refine' i_ipI ?_
  | with_reducible refine' i_for ?_ | with_reducible refine' i_iList ?_ | with_reducible refine' i_iTup ?_ | ((with_reducible refine' i_isL ?h ?_); (case h => wtm_at "jsq")) | ((with_reducible refine' i_isT ?h ?_); (case h => wtm_at "jsq"))
  | with_reducible refine' i_rng1 ?_ | with_reducible refine' i_rng2 ?_
  | ((with_reducible refine' i_isR1 ?h1 ?h2 ?_); (case h1 => wtm_at "jside"); (case h2 => wtm_at "jside"))
  | ((with_reducible refine' i_isR2 ?h1 ?h2 ?h3 ?h4 ?_); (case h1 => wtm_at "jside"); (case h2 => wtm_at "jside"); (case h3 => wtm_at "jside"); (case h4 => wtm_at "jside"))
  | ((with_reducible refine' i_lc ?e ?_); (case e => wtm_at "jset"))
  | with_reducible refine' i_yes ?_ | with_reducible refine' i_sl ?_ | with_reducible refine' i_par ?_ | with_reducible refine' i_two ?_ | with_reducible refine' i_noPart ?_ | with_reducible refine' i_part ?_ | with_reducible refine' i_isI ?_
  | with_reducible refine' i_bm ?_ | with_reducible refine' i_bm0 ?_ | ((with_reducible refine' i_tyL ?h ?_); (case h => wtm_at "jsq"))
  | ((with_reducible refine' i_app ?h ?e ?_); (case h => wtm_at "jhp"); (case e => wtm_at "jsmall"))
  | with_reducible refine' i_chain ?_ | ((with_reducible refine' i_cat ?h1 ?h2 ?e ?_); (case h1 => wtm_at "jhp"); (case h2 => wtm_at "jhp"); (case e => wtm_at "jlen"))
  | with_reducible refine iteT ?_ | with_reducible refine iteF ?_ | with_reducible refine' c_nt ?_ | with_reducible refine' c_nf ?_)
local macro_rules | `(tactic| wtm_at "js") => `(tactic| repeat (wtm_at "jw1"))
local macro_rules | `(tactic| wtm_at "jw") => `(tactic| repeat (first | wtm_at "jw1" | with_reducible refine' i_ifS ?_))
local macro_rules | `(tactic| wtm_at "jlen") => `(tactic| first | decide | (simp [sizeLine]; done) | omega)
/- a condition of an operation -/
local macro_rules | `(tactic| wtm_at "jside") => `(tactic| first | with_reducible assumption | omega | decide | (simp only [List.length_map]; omega) | (refine Or.inl ?_; decide) | (refine Or.inr ?_; decide) | (refine ⟨?_, ?_⟩ <;> omega) | (refine Or.inl ?_; constructor <;> omega) | (refine Or.inr ?_; constructor <;> omega) | (refine ⟨by decide, by decide, by decide⟩) | (with_reducible refine wide_div ?_ (b := 64) ?_ ?_ ?_ <;> first | omega | decide))
/- H p = some o -/
local macro_rules | `(tactic| wtm_at "jhp") => `(tactic| first | assumption | with_reducible exact upd_same | ((with_reducible refine' Eq.trans (upd_ne ?hne) ?hgo); (case hne => wtm_at "jne"); (case hgo => wtm_at "jhp")))
local macro_rules | `(tactic| wtm_at "jne") => `(tactic| first | assumption | (refine Ne.symm ?_; assumption) | (refine ne_of_none (by assumption) (by assumption)) | (refine (ne_of_none (by assumption) (by assumption)).symm))
local macro_rules | `(tactic| wtm_at "jsq") => `(tactic| first | assumption | ((with_reducible refine' SqL.of ?hh); (case hh => wtm_at "jhp")) | ((with_reducible refine' SqT.of ?hh); (case hh => wtm_at "jhp")) | ((with_reducible refine' Same.seq (same_new ?hn) ?hh); (case hn => assumption); (case hh => wtm_at "jsq")) | ((with_reducible refine' Same.tup (same_new ?hn) ?hh); (case hn => assumption); (case hh => wtm_at "jsq")))
/- the item at a place -/
local macro_rules | `(tactic| wtm_at "jat") => `(tactic| first | exact rfl | assumption)
local macro_rules | `(tactic| wtm_at "jixn") => `(tactic| first | exact rfl | assumption)
local macro_rules | `(tactic| wtm_at "jsmall") => `(tactic| first | assumption | exact small1000 (by first | assumption | omega | (simp; done) | (simp; omega)))

def top (i : Nat) : Stmt := PySem.Challenge.pw_judgedplay_k94_best_tables.main.body.getD i (.Pass ⟨0, 0, 0, 0⟩)
abbrev s__law_begin : Stmt := top 9
abbrev N__law_begin : List Str := ["script", "cell"]
theorem sc__law_begin : FnScope N__law_begin ["script"] (defScope s__law_begin) := ⟨rfl, rfl, rfl, by decide +kernel, rfl, by decide +kernel, by decide +kernel⟩
abbrev s__law_draw : Stmt := top 10
abbrev N__law_draw : List Str := ["d", "many", "found", "size", "cell"]
theorem sc__law_draw : FnScope N__law_draw ["d", "many"] (defScope s__law_draw) := ⟨rfl, rfl, rfl, by decide +kernel, rfl, by decide +kernel, by decide +kernel⟩
abbrev s__law_pick : Stmt := top 11
abbrev N__law_pick : List Str := ["d", "row"]
theorem sc__law_pick : FnScope N__law_pick ["d", "row"] (defScope s__law_pick) := ⟨rfl, rfl, rfl, by decide +kernel, rfl, by decide +kernel, by decide +kernel⟩
abbrev s__law_known_key : Stmt := top 14
abbrev N__law_known_key : List Str := ["row", "tick", "late"]
theorem sc__law_known_key : FnScope N__law_known_key ["row", "tick", "late"] (defScope s__law_known_key) := ⟨rfl, rfl, rfl, by decide +kernel, rfl, by decide +kernel, by decide +kernel⟩
abbrev s__law_keys_row : Stmt := top 17
abbrev N__law_keys_row : List Str := ["d", "size", "many", "rule", "by", "noise", "row", "tick"]
theorem sc__law_keys_row : FnScope N__law_keys_row ["d", "size", "many", "rule", "by", "noise"] (defScope s__law_keys_row) := ⟨rfl, rfl, rfl, by decide +kernel, rfl, by decide +kernel, by decide +kernel⟩
abbrev s__law_record : Stmt := top 18
abbrev N__law_record : List Str := ["d", "seats", "many", "late", "rule", "key", "by", "noise", "size", "uneven", "rows", "seat", "length"]
theorem sc__law_record : FnScope N__law_record ["d", "seats", "many", "late"] (defScope s__law_record) := ⟨rfl, rfl, rfl, by decide +kernel, rfl, by decide +kernel, by decide +kernel⟩
abbrev s__law_tables : Stmt := top 16
abbrev N__law_tables : List Str := ["many", "rows", "entry", "wider", "row", "key"]
theorem sc__law_tables : FnScope N__law_tables ["many"] (defScope s__law_tables) := ⟨rfl, rfl, rfl, by decide +kernel, rfl, by decide +kernel, by decide +kernel⟩
abbrev s_counted_pairs : Stmt := top 1
abbrev N_counted_pairs : List Str := ["rows", "late", "found", "row", "tick", "known", "pair"]
theorem sc_counted_pairs : FnScope N_counted_pairs ["rows", "late"] (defScope s_counted_pairs) := ⟨rfl, rfl, rfl, by decide +kernel, rfl, by decide +kernel, by decide +kernel⟩
abbrev s_best_key : Stmt := top 3
abbrev N_best_key : List Str := ["pairs", "known", "many", "best", "key"]
theorem sc_best_key : FnScope N_best_key ["pairs", "known", "many"] (defScope s_best_key) := ⟨rfl, rfl, rfl, by decide +kernel, rfl, by decide +kernel, by decide +kernel⟩
abbrev s_best_table : Stmt := top 4
abbrev N_best_table : List Str := ["rows", "many", "late", "pairs", "known"]
theorem sc_best_table : FnScope N_best_table ["rows", "many", "late"] (defScope s_best_table) := ⟨rfl, rfl, rfl, by decide +kernel, rfl, by decide +kernel, by decide +kernel⟩
abbrev s_last_known : Stmt := top 6
abbrev N_last_known : List Str := ["known", "tick", "one"]
theorem sc_last_known : FnScope N_last_known ["known", "tick"] (defScope s_last_known) := ⟨rfl, rfl, rfl, by decide +kernel, rfl, by decide +kernel, by decide +kernel⟩
abbrev s_guess_of : Stmt := top 7
abbrev N_guess_of : List Str := ["table", "known", "tick", "last"]
theorem sc_guess_of : FnScope N_guess_of ["table", "known", "tick"] (defScope s_guess_of) := ⟨rfl, rfl, rfl, by decide +kernel, rfl, by decide +kernel, by decide +kernel⟩
abbrev s__law_is_int : Stmt := top 12
abbrev N__law_is_int : List Str := ["thing"]
theorem sc__law_is_int : FnScope N__law_is_int ["thing"] (defScope s__law_is_int) := ⟨rfl, rfl, rfl, by decide +kernel, rfl, by decide +kernel, by decide +kernel⟩
abbrev s__law_guesses_right : Stmt := top 20
abbrev N__law_guesses_right : List Str := ["table", "row", "late", "tick", "known", "one", "guess"]
theorem sc__law_guesses_right : FnScope N__law_guesses_right ["table", "row", "late"] (defScope s__law_guesses_right) := ⟨rfl, rfl, rfl, by decide +kernel, rfl, by decide +kernel, by decide +kernel⟩
abbrev s__law_wrong : Stmt := top 15
abbrev N__law_wrong : List Str := ["table", "rows", "late", "found", "row", "tick"]
theorem sc__law_wrong : FnScope N__law_wrong ["table", "rows", "late"] (defScope s__law_wrong) := ⟨rfl, rfl, rfl, by decide +kernel, rfl, by decide +kernel, by decide +kernel⟩
abbrev s__law_bent_table : Stmt := top 19
abbrev N__law_bent_table : List Str := ["d", "table", "many", "at", "key"]
theorem sc__law_bent_table : FnScope N__law_bent_table ["d", "table", "many"] (defScope s__law_bent_table) := ⟨rfl, rfl, rfl, by decide +kernel, rfl, by decide +kernel, by decide +kernel⟩
abbrev s_wrong_guesses : Stmt := top 2
abbrev N_wrong_guesses : List Str := ["table", "rows", "late", "pairs", "pair"]
theorem sc_wrong_guesses : FnScope N_wrong_guesses ["table", "rows", "late"] (defScope s_wrong_guesses) := ⟨rfl, rfl, rfl, by decide +kernel, rfl, by decide +kernel, by decide +kernel⟩
abbrev s__law_is_ints : Stmt := top 13
abbrev N__law_is_ints : List Str := ["row", "part"]
theorem sc__law_is_ints : FnScope N__law_is_ints ["row"] (defScope s__law_is_ints) := ⟨rfl, rfl, rfl, by decide +kernel, rfl, by decide +kernel, by decide +kernel⟩
abbrev s_law : Stmt := top 21
abbrev N_law : List Str := ["script", "d", "many", "seats", "late", "rows", "best", "fewest", "table", "wrong", "told", "other", "key"]
theorem sc_law : FnScope N_law ["script"] (defScope s_law) := ⟨rfl, rfl, rfl, by decide +kernel, rfl, by decide +kernel, by decide +kernel⟩
/-- what the text's top has: built-ins that are still so, constants -/
structure Txt (mg : Str → Option Value) : Prop where
  b_int : mg "int" = none
  b_len : mg "len" = none
  b_abs : mg "abs" = none
  b_range : mg "range" = none
  b_tuple : mg "tuple" = none
  b_isinstance : mg "isinstance" = none
  b_bool : mg "bool" = none
  b_sum : mg "sum" = none
  b_all : mg "all" = none
/-! ### the draws -/
/-- a row of draws stands at p, its cells at a -/
def DrawAt (H : Hp) (p a : Addr) : Prop := ∃ (ns : List Int) (pos pend seed : Int), H p = some (.lst [.ref a, .int pos, .int pend, .int seed]) ∧ H a = some (.lst (ns.map V.int)) ∧ a ≠ p ∧ 0 ≤ pos
theorem DrawAt.same {H H' : Hp} {p a : Addr} (d : DrawAt H p a) (s : Same H H') : DrawAt H' p a := by
  obtain ⟨ns, pos, pend, seed, h1, h2, h3, h4⟩ := d
  exact ⟨ns, pos, pend, seed, s _ _ h1, s _ _ h2, h3, h4⟩
/-- behind draws: the row stands, all else is as it was -/
structure Drew (p a : Addr) (H H' : Hp) : Prop where
  at_ : DrawAt H' p a
  kp : Kp p H H'
theorem Drew.trans {p a : Addr} {H H1 H2 : Hp} (x : Drew p a H H1) (y : Drew p a H1 H2) : Drew p a H H2 := ⟨y.at_, x.kp.trans y.kp⟩
theorem Drew.new {p a q : Addr} {H H1 : Hp} {o : HO} (x : Drew p a H H1) (h : H1 q = none) : Drew p a H (upd H1 q o) := ⟨x.at_.same (same_new h), x.kp.trans (.of (same_new h))⟩
theorem Drew.same {p a : Addr} {H H1 H2 : Hp} (x : Drew p a H H1) (s : Same H1 H2) : Drew p a H H2 := ⟨x.at_.same s, x.kp.trans (.of s)⟩
theorem DrawAt.drew {p a : Addr} {H : Hp} (d : DrawAt H p a) : Drew p a H H := ⟨d, Kp.refl⟩
theorem DrawAt.some {H : Hp} {p a : Addr} (d : DrawAt H p a) : ∃ xs, H p = some (.lst xs) := by
  obtain ⟨ns, pos, pend, seed, h1, _⟩ := d
  exact ⟨_, h1⟩
theorem DrawAt.ne_none {H : Hp} {p a q : Addr} (d : DrawAt H p a) (h : H q = none) : q ≠ p := by
  obtain ⟨xs, e⟩ := d.some
  exact (ne_of_none e h).symm
theorem DrawAt.ne_noneA {H : Hp} {p a q : Addr} (d : DrawAt H p a) (h : H q = none) : q ≠ a := by
  obtain ⟨ns, pos, pend, seed, _, h1, _⟩ := d
  exact (ne_of_none h1 h).symm
theorem Drew.free {p a q : Addr} {H H' : Hp} (w : Drew p a H H') (h : H' q = none) : H q = none := by
  cases e : H q with
  | none => rfl
  | some o =>
    by_cases hq : q = p
    · obtain ⟨xs, e'⟩ := w.at_.some
      rw [hq, e'] at h; cases h
    · rw [w.kp _ _ e hq] at h; cases h
/-- a thing of our own, made behind H, is written -/
theorem Drew.put {p a q : Addr} {H H1 : Hp} {o : HO} (x : Drew p a H H1) (d : DrawAt H p a) (h : H q = none) : Drew p a H (upd H1 q o) := by
  have n1 := d.ne_none h
  have n2 := d.ne_noneA h
  obtain ⟨ns, pos, pend, seed, h1, h2, h3, h4⟩ := x.at_
  refine ⟨⟨ns, pos, pend, seed, by rw [upd_ne n1.symm]; exact h1, by rw [upd_ne n2.symm]; exact h2, h3, h4⟩, fun b u hb hne => ?_⟩
  rw [upd_ne (ne_of_none hb h)]
  exact x.kp _ _ hb hne
theorem Drew.tps {p a : Addr} {H H' : Hp} (w : Drew p a H H') (d : DrawAt H p a) : Tps H H' := by
  obtain ⟨xs, e⟩ := d.some
  exact w.kp.tps e
def sp__law_begin (K : PySem.W.Frag) : Sp := fun vs H Q _ => ∃ (a : Addr) (ns : List Int), vs = [.ref a] ∧ SqL K H a (ns.map V.int) ∧ ns.length ≤ 63 ∧
  ∀ (p c : Addr) (H' : Hp), Same H H' → H p = none → H c = none → DrawAt H' p c → Q (.ref p) H'
theorem ok__law_begin {P : Program} {w : World} {K : PySem.W.Frag} {mg : Str → Option Value} {base : Heap} {f : Addr} {fd : FuncData} (F : Df K mg "_law_begin" s__law_begin f fd ["script"]) (T : Txt mg) : FnOk P w K mg base CX0 1 f fd ["script"] (sp__law_begin K) := by
  refine F.ok sc__law_begin (fun vs H Q E h => ?_) (fun cdv A outer s H vs Q E hr h => ?_)
  · obtain ⟨a, ns, rfl, _⟩ := h
    rfl
  · obtain ⟨a, ns, rfl, hS, hl, k⟩ := h
    refine ⟨_, (pss_one (ps_ret (pe_lst (pa_cons (pe_lc (own := [("cell", 1)]) (g := gName 1) (tt := tYes) rfl sc__law_begin.nd (pi_list (pv 0)) (blkOk_by (own := [("cell", 1)]) (N := N__law_begin) (sc := defScope s__law_begin) (by decide +kernel)) (fun _ _ _ _ _ => (pg_name (i := 1) sc__law_begin.nd rfl (Or.inl rfl))) (fun _ _ _ _ _ => pts_nil) (fun _ _ _ _ _ => (pe_callTy (T := "int") c_int (by rfl) T.b_int (by decide +kernel) (pa_cons (pv 1) pa_nil)))) (pa_cons pe_int (pa_cons pe_int (pa_cons pe_int pa_nil))))))), ?_⟩
    try dsimp only [cxOf, Cx.nox, Cx.wish]
    refine st_of (σ' := [some _, none]) rfl ?_
    wtm_at "jw"
    intro D hD
    refine l_list (xs := ns.map V.int) (fun i H1 => Same H H1 ∧ H1 D = some (.lst ((ns.take i).map V.int))) ⟨same_new hD, upd_same⟩ (fun i H1 _ h => h.1.seq hS) (fun i x H1 hi h => ?_) (fun H1 h => ?_)
    · obtain ⟨s1, h1⟩ := h
      rw [List.getElem?_map] at hi
      cases e : ns[i]? with
      | none => rw [e] at hi; cases hi
      | some z =>
        rw [e] at hi
        cases hi
        have hlt : i < ns.length := (List.getElem?_eq_some_iff.mp e).1
        wtm_at "jw"
        refine ⟨rfl, ?_⟩
        wtm_at "jw"
        refine ⟨_, h1, small1000 (by rw [List.length_map, List.length_take]; omega), ?_, ?_⟩
        · intro b o hb
          have hne : b ≠ D := ne_of_none hb hD
          rw [upd_ne hne]
          exact s1 _ _ hb
        · rw [upd_same, List.take_add_one, e, List.map_append]
          rfl
    · obtain ⟨s1, h1⟩ := h
      rw [List.length_map, List.take_length] at h1
      wtm_at "jw"
      intro p hp
      have hne : D ≠ p := ne_of_none h1 hp
      refine k p D _ (fun b o hb => ?_) (s1.free hp) hD ⟨ns, 0, 0, 11, upd_same, by rw [upd_ne hne]; exact h1, hne, by decide⟩
      rw [upd_ne (ne_of_none (s1 _ _ hb) hp)]
      exact s1 _ _ hb
def sp__law_draw (K : PySem.W.Frag) : Sp := fun vs H Q _ => ∃ (p a : Addr) (many : Int), vs = [.ref p, .int many] ∧ DrawAt H p a ∧ 0 < many ∧ many < 18446744073709551616 ∧
  ∀ (r : Int) (H' : Hp), 0 ≤ r → r < many → Drew p a H H' → Q (.int r) H'
theorem ok__law_draw {P : Program} {w : World} {K : PySem.W.Frag} {mg : Str → Option Value} {base : Heap} {f : Addr} {fd : FuncData} (F : Df K mg "_law_draw" s__law_draw f fd ["d", "many"]) (T : Txt mg) : FnOk P w K mg base CX0 1 f fd ["d", "many"] (sp__law_draw K) := by
  refine F.ok sc__law_draw (fun vs H Q E h => ?_) (fun cdv A outer s H vs Q E hr h => ?_)
  · obtain ⟨p, a, m, rfl, _⟩ := h
    rfl
  · obtain ⟨p, a, m, rfl, ⟨ns, pos, pend, seed, hp, ha, nap, h0⟩, hm0, hm1, k⟩ := h
    have fin : ∀ (z : Int) (pos' pend' seed' : Int) (H' : Hp), 0 ≤ pos' → H' p = some (.lst [.ref a, .int pos', .int pend', .int seed']) → Kp p H H' → Q (.int (z % m)) H' := fun z pos' pend' seed' H' hp' h1 h2 =>
      k _ _ (Int.emod_nonneg _ (by omega)) (Int.emod_lt_of_pos _ hm0) ⟨⟨ns, pos', pend', seed', h1, h2 _ _ ha nap, nap, hp'⟩, h2⟩
    refine ⟨_, (pss_cons (ps_if (pt_cmpR op_gt (pe_ix (r := rIxL K) ix_list (pv 0) pe_int (fun _ _ => rfl)) pe_int (nomark _)) (pss_cons (ps_set (i := 2) sc__law_draw.nd rfl (Or.inl rfl) (pe_ix (r := rIxL K) ix_list (pv 0) pe_int (fun _ _ => rfl)))
      (pss_cons (ps_asg (pe_op op_fdivW (pv 2) (pv 1)) (pg_sub (pv 0) pe_int set_list))
      (pss_one (ps_ret (pe_op op_mod (pe_callTy (T := "int") c_int (by rfl) T.b_int (by decide +kernel) (pa_cons (pv 2) pa_nil)) (pv 1)))))) pss_nil)
      (pss_cons (ps_set (i := 3) sc__law_draw.nd rfl (Or.inl rfl) pe_int)
      (pss_cons (ps_if (pt_cmpR op_lt (pe_ix (r := rIxL K) ix_list (pv 0) pe_int (fun _ _ => rfl)) (pe_callB (id := "len") (r := qLen K) c_len (by rfl) T.b_len (by decide +kernel) (pa_cons (pe_ix (r := rIxL K) ix_list (pv 0) pe_int (fun _ _ => rfl)) pa_nil)) (nomark _)) (pss_cons (ps_set (i := 4) sc__law_draw.nd rfl (Or.inl rfl) (pe_ix (r := rIx K) ix_seq (pe_ix (r := rIxL K) ix_list (pv 0) pe_int (fun _ _ => rfl)) (pe_ix (r := rIxL K) ix_list (pv 0) pe_int (fun _ _ => rfl)) (fun _ _ => rfl)))
      (pss_one (ps_set (i := 3) sc__law_draw.nd rfl (Or.inl rfl) (pe_op op_add (pe_op op_mul pe_int (pe_callB (id := "abs") c_abs (by rfl) T.b_abs (by decide +kernel) (pa_cons (pv 4) pa_nil))) (pe_callTy (T := "int") c_int (by rfl) T.b_int (by decide +kernel) (pa_cons (pe_cmpR op_lt (pv 4) pe_int (nomark _)) pa_nil)))))) pss_nil)
      (pss_cons (ps_augS (pv 0) pe_int get_list pe_int iop_add set_list)
      (pss_cons (ps_if (pt_cmpR op_ge (pv 3) (pe_op op_mul pe_int (pe_op op_pow pe_int pe_int)) (nomark _)) (pss_cons (ps_set (i := 2) sc__law_draw.nd rfl (Or.inl rfl) (pe_op op_mod (pe_callTy (T := "int") c_int (by rfl) T.b_int (by decide +kernel) (pa_cons (pe_op op_fdiv (pv 3) pe_int) pa_nil)) (pe_op op_shl pe_int pe_int)))
      (pss_cons (ps_asg (pe_op op_fdivW (pv 2) (pv 1)) (pg_sub (pv 0) pe_int set_list))
      (pss_one (ps_ret (pe_op op_mod (pe_callTy (T := "int") c_int (by rfl) T.b_int (by decide +kernel) (pa_cons (pv 2) pa_nil)) (pv 1)))))) pss_nil)
      (pss_cons (ps_asg (pe_op op_mod (pe_callTy (T := "int") c_int (by rfl) T.b_int (by decide +kernel) (pa_cons (pe_op op_add (pe_op op_add (pe_op op_add (pe_op op_mul (pe_ix (r := rIxL K) ix_list (pv 0) pe_int (fun _ _ => rfl)) pe_int) (pe_op op_mul (pe_op op_mod (pe_callTy (T := "int") c_int (by rfl) T.b_int (by decide +kernel) (pa_cons (pv 3) pa_nil)) pe_int) pe_int)) (pe_op op_mul (pe_ix (r := rIxL K) ix_list (pv 0) pe_int (fun _ _ => rfl)) pe_int)) pe_int) pa_nil)) pe_int) (pg_sub (pv 0) pe_int set_list))
      (pss_one (ps_ret (pe_op op_mod (pe_callTy (T := "int") c_int (by rfl) T.b_int (by decide +kernel) (pa_cons (pe_op op_fdiv (pe_ix (r := rIxL K) ix_list (pv 0) pe_int (fun _ _ => rfl)) pe_int) pa_nil)) (pv 1)))))))))), ?_⟩
    try dsimp only [cxOf, Cx.nox, Cx.wish]
    refine st_of (σ' := [some _, some _, none, none, none]) rfl ?_
    wtm_at "jw"
    refine c_dec (fun h => ?_) (fun h => ?_)
    · wtm_at "jw"
      exact fin _ _ _ _ _ h0 upd_same Kp.upd
    · wtm_at "jw"
      refine c_dec (fun h1 => ?_) (fun h1 => ?_)
      · obtain ⟨c, hc⟩ : ∃ c : Int, atI (ns.map V.int) pos = some (.int c) := by
          obtain ⟨v, e, hv, _⟩ := at_lt (xs := ns.map V.int) h0 h1
          obtain ⟨z, _, rfl⟩ := List.mem_map.mp hv
          exact ⟨z, e⟩
        wtm_at "jw"
        refine c_dec (fun h2 => ?_) (fun h2 => ?_)
        · wtm_at "jw"
          exact fin _ (pos + 1) _ _ _ (by omega) upd_same (Kp.upd.trans Kp.upd)
        · wtm_at "jw"
          exact fin _ (pos + 1) _ _ _ (by omega) upd_same (Kp.upd.trans Kp.upd)
      · wtm_at "jw"
        refine c_dec (fun h2 => ?_) (fun h2 => ?_)
        · wtm_at "jw"
          exact fin _ (pos + 1) _ _ _ (by omega) upd_same (Kp.upd.trans Kp.upd)
        · wtm_at "jw"
          exact fin _ (pos + 1) _ _ _ (by omega) upd_same (Kp.upd.trans Kp.upd)

def sp__law_pick (K : PySem.W.Frag) : Sp := fun vs H Q _ => ∃ (p a b : Addr) (xs : List V), vs = [.ref p, .ref b] ∧ DrawAt H p a ∧ ((b ≠ p ∧ SqL K H b xs) ∨ SqT K H b xs) ∧ 0 < xs.length ∧ xs.length < 1073741824 ∧
  ∀ (x : V) (H' : Hp), x ∈ xs → Drew p a H H' → Q x H'
theorem ok__law_pick {P : Program} {w : World} {K : PySem.W.Frag} {mg : Str → Option Value} {base : Heap} {f : Addr} {fd : FuncData} (F : Df K mg "_law_pick" s__law_pick f fd ["d", "row"]) (T : Txt mg)
    (c__law_draw : Cl P w K mg base 1 "_law_draw" (sp__law_draw K)) : FnOk P w K mg base CX0 2 f fd ["d", "row"] (sp__law_pick K) := by
  refine F.ok sc__law_pick (fun vs H Q E h => ?_) (fun cdv A outer s H vs Q E hr h => ?_)
  · obtain ⟨p, a, b, xs, rfl, _⟩ := h
    rfl
  · obtain ⟨p, a, b, xs, rfl, hd, hb, hl0, hl1, k⟩ := h
    refine ⟨_, (pss_one (ps_ret (pe_ix (r := rIx K) ix_seq (pv 1) (pe_cl c__law_draw hr (by decide) rfl (pa_cons (pv 0) (pa_cons (pe_callB (id := "len") (r := qLen K) c_len (by rfl) T.b_len (by decide +kernel) (pa_cons (pv 1) pa_nil)) pa_nil))) (fun _ _ => rfl)))), ?_⟩
    try dsimp only [cxOf, Cx.nox, Cx.wish]
    refine st_of (σ' := [some _, some _]) rfl ?_
    rcases hb with ⟨nb, hb⟩ | hb
    all_goals
      wtm_at "jw"
      refine ⟨p, a, _, rfl, hd, by omega, by omega, fun r H' hr0 hr1 w => ?_⟩
      obtain ⟨v, e, hv, _⟩ := at_lt hr0 hr1
    · have hb' := w.kp.seq hb nb
      wtm_at "jw"
      exact k _ _ hv w
    · have hb' := (w.tps hd).sq hb
      wtm_at "jw"
      exact k _ _ hv w

def sp__law_is_int (K : PySem.W.Frag) : Sp := fun vs H Q _ => ∃ (i : Int), vs = [.int i] ∧ Q (.bl true) H
theorem ok__law_is_int {P : Program} {w : World} {K : PySem.W.Frag} {mg : Str → Option Value} {base : Heap} {f : Addr} {fd : FuncData} (F : Df K mg "_law_is_int" s__law_is_int f fd ["thing"]) (T : Txt mg) : FnOk P w K mg base CX0 1 f fd ["thing"] (sp__law_is_int K) := by
  refine F.ok sc__law_is_int (fun vs H Q E h => ?_) (fun cdv A outer s H vs Q E hr h => ?_)
  · obtain ⟨i, rfl, _⟩ := h
    rfl
  · obtain ⟨i, rfl, k⟩ := h
    refine ⟨_, (pss_one (ps_ret (pe_and (pe_callB (id := "isinstance") (r := rIsi K) call_isi (by rfl) T.b_isinstance (by decide +kernel) (pa_cons (pv 0) (pa_cons (pe_bltn (v := .ty "int") (u := Value.type "int") (by rfl) T.b_int (by decide +kernel) rfl) pa_nil))) (pe_one (pe_not (pe_callB (id := "isinstance") (r := rIsi K) call_isi (by rfl) T.b_isinstance (by decide +kernel) (pa_cons (pv 0) (pa_cons (pe_bltn (v := .ty "bool") (u := Value.type "bool") (by rfl) T.b_bool (by decide +kernel) rfl) pa_nil)))))))), ?_⟩
    try dsimp only [cxOf, Cx.nox, Cx.wish]
    refine st_of (σ' := [some _]) rfl ?_
    wtm_at "jw"
    refine i_isi (.base (.int i)) rfl ?_
    wtm_at "jw"
    refine i_isi (.base (.int i)) rfl ?_
    wtm_at "jw"
    exact k

theorem all_id_true (n : Nat) : (List.replicate n true).all id = true := by
  rw [List.all_replicate]; simp
def sp__law_is_ints (K : PySem.W.Frag) : Sp := fun vs H Q _ => ∃ (a : Addr) (ns : List Int), vs = [.ref a] ∧ H a = some (.tup (ns.map V.int)) ∧ ns.length ≤ 1000000 ∧ ∀ H', Same H H' → Q (.bl true) H'
theorem ok__law_is_ints {P : Program} {w : World} {K : PySem.W.Frag} {mg : Str → Option Value} {base : Heap} {f : Addr} {fd : FuncData} (F : Df K mg "_law_is_ints" s__law_is_ints f fd ["row"]) (T : Txt mg)
    (c__law_is_int : Cl P w K mg base 1 "_law_is_int" (sp__law_is_int K)) : FnOk P w K mg base CX0 2 f fd ["row"] (sp__law_is_ints K) := by
  refine F.ok sc__law_is_ints (fun vs H Q E h => ?_) (fun cdv A outer s H vs Q E hr h => ?_)
  · obtain ⟨a, ns, rfl, _⟩ := h
    rfl
  · obtain ⟨a, ns, rfl, ha, hl, k⟩ := h
    refine ⟨_, (pss_one (ps_ret (pe_and (pe_callB (id := "isinstance") (r := rIsi K) call_isi (by rfl) T.b_isinstance (by decide +kernel) (pa_cons (pv 0) (pa_cons (pe_bltn (v := .ty "tuple") (u := Value.type "tuple") (by rfl) T.b_tuple (by decide +kernel) rfl) pa_nil))) (pe_one (pe_callB (id := "all") (r := rAll K) (cr_all rfl) (by rfl) T.b_all (by decide +kernel) (pa_cons (pe_lc (own := [("part", 1)]) (g := gName 1) (tt := tYes) rfl sc__law_is_ints.nd (pi_tup (pv 0)) (blkOk_by (own := [("part", 1)]) (N := N__law_is_ints) (sc := defScope s__law_is_ints) (by decide +kernel)) (fun _ _ _ _ _ => (pg_name (i := 1) sc__law_is_ints.nd rfl (Or.inl rfl))) (fun _ _ _ _ _ => pts_nil) (fun _ _ _ _ _ => (pe_cl c__law_is_int hr (by decide) rfl (pa_cons (pv 1) pa_nil)))) pa_nil)))))), ?_⟩
    try dsimp only [cxOf, Cx.nox, Cx.wish]
    refine st_of (σ' := [some _, none]) rfl ?_
    wtm_at "jw"
    refine i_isi (.base (.tup ha)) rfl ?_
    wtm_at "jw"
    intro D hD
    refine l_tupP (xs := ns.map V.int) (fun _ => V.bl true) hD (by rw [List.length_map]; exact hl) (SqT.of ha) (fun i x H' R hi s hR => ?_) (fun H' s hD' => ?_)
    · obtain ⟨z, rfl, _⟩ := ints_at hi
      wtm_at "jw"
      refine ⟨rfl, ?_⟩
      wtm_at "jw"
      refine ⟨z, rfl, ?_⟩
      exact hR
    · wtm_at "jw"
      refine ⟨D, List.replicate (ns.map V.int).length true, rfl, SqL.of ?_, ?_⟩
      · rw [hD', List.map_replicate, List.map_const', List.length_range]
      · rw [all_id_true]
        exact k _ s

/-! ### pairs of ints, tuples of them -/
/-- the pairs of rows stand at rs -/
def Prw (H : Hp) (rs : List Addr) (rows : List (Int × Int)) : Prop := rs.length = rows.length ∧ ∀ (i : Nat) (r : Addr) (p : Int × Int), rs[i]? = some r → rows[i]? = some p → H r = some (.tup [.int p.1, .int p.2])
/-- a tuple of pairs -/
def Prs (H : Hp) (a : Addr) (rows : List (Int × Int)) : Prop := ∃ rs : List Addr, H a = some (.tup (rs.map V.ref)) ∧ Prw H rs rows
/-- a list of pairs -/
def LPr (H : Hp) (a : Addr) (rows : List (Int × Int)) : Prop := ∃ rs : List Addr, H a = some (.lst (rs.map V.ref)) ∧ Prw H rs rows
theorem Prw.nil {H : Hp} : Prw H [] [] := ⟨rfl, fun i r p h => by simp at h⟩
theorem Prw.tps {H H' : Hp} {rs : List Addr} {rows : List (Int × Int)} (w : Prw H rs rows) (t : Tps H H') : Prw H' rs rows := ⟨w.1, fun i r p h1 h2 => (t r).1 _ (w.2 i r p h1 h2)⟩
theorem Prw.same {H H' : Hp} {rs : List Addr} {rows : List (Int × Int)} (w : Prw H rs rows) (s : Same H H') : Prw H' rs rows := w.tps (Tps.of s)
theorem Prw.snoc {H : Hp} {rs : List Addr} {rows : List (Int × Int)} {q : Addr} {x y : Int} (w : Prw H rs rows) (h : H q = some (.tup [.int x, .int y])) : Prw H (rs ++ [q]) (rows ++ [(x, y)]) := by
  refine ⟨by simp [w.1], fun i r p h1 h2 => ?_⟩
  have hl := w.1
  by_cases hi : i < rs.length
  · rw [List.getElem?_append_left hi] at h1
    rw [List.getElem?_append_left (by omega)] at h2
    exact w.2 i r p h1 h2
  · rw [List.getElem?_append_right (by omega)] at h1
    rw [List.getElem?_append_right (by omega)] at h2
    rw [hl] at h1
    cases e : i - rows.length with
    | zero =>
      rw [e] at h1 h2
      cases h1
      cases h2
      exact h
    | succ n =>
      rw [e] at h1
      cases h1
theorem Prs.tps {H H' : Hp} {a : Addr} {rows : List (Int × Int)} (h : Prs H a rows) (t : Tps H H') : Prs H' a rows := by
  obtain ⟨rs, ha, w⟩ := h
  exact ⟨rs, (t a).1 _ ha, w.tps t⟩
theorem Prs.same {H H' : Hp} {a : Addr} {rows : List (Int × Int)} (h : Prs H a rows) (s : Same H H') : Prs H' a rows := h.tps (Tps.of s)
theorem LPr.same {H H' : Hp} {a : Addr} {rows : List (Int × Int)} (h : LPr H a rows) (s : Same H H') : LPr H' a rows := by
  obtain ⟨rs, ha, w⟩ := h
  exact ⟨rs, s _ _ ha, w.same s⟩
theorem LPr.kp {H H' : Hp} {p a : Addr} {xs : List V} {rows : List (Int × Int)} (h : LPr H a rows) (k : Kp p H H') (hp : H p = some (.lst xs)) (n : a ≠ p) : LPr H' a rows := by
  obtain ⟨rs, ha, w⟩ := h
  exact ⟨rs, k _ _ ha n, w.tps (k.tps hp)⟩
theorem Prw.put {H : Hp} {D : Addr} {rs : List Addr} {xs ys : List V} {rows : List (Int × Int)} (w : Prw H rs rows) (h : H D = some (.lst xs)) : Prw (upd H D (.lst ys)) rs rows := by
  refine ⟨w.1, fun i r p h1 h2 => ?_⟩
  have hr := w.2 i r p h1 h2
  rw [upd_ne (ne_of hr h (by intro z; cases z))]
  exact hr
/-- a new pair behind the others -/
theorem LPr.add {H : Hp} {D q : Addr} {rs : List Addr} {rows : List (Int × Int)} {x y : Int} (h : H D = some (.lst (rs.map V.ref))) (w : Prw H rs rows) (hq : H q = none) :
    LPr (upd (upd H q (.tup [.int x, .int y])) D (.lst (rs.map V.ref ++ [.ref q]))) D (rows ++ [(x, y)]) := by
  have hD : upd H q (.tup [.int x, .int y]) D = some (.lst (rs.map V.ref)) := by rw [upd_ne (ne_of_none h hq)]; exact h
  refine ⟨rs ++ [q], by rw [upd_same, List.map_append]; rfl, Prw.put (xs := rs.map V.ref) ((w.same (same_new hq)).snoc upd_same) hD⟩
/-- a pair that stands already -/
theorem LPr.add' {H : Hp} {D q : Addr} {rs : List Addr} {rows : List (Int × Int)} {x y : Int} (h : H D = some (.lst (rs.map V.ref))) (w : Prw H rs rows) (hq : H q = some (.tup [.int x, .int y])) :
    LPr (upd H D (.lst (rs.map V.ref ++ [.ref q]))) D (rows ++ [(x, y)]) :=
  ⟨rs ++ [q], by rw [upd_same, List.map_append]; rfl, (w.snoc hq).put h⟩
theorem Prw.at {H : Hp} {rs : List Addr} {rows : List (Int × Int)} {i : Nat} {v : V} (w : Prw H rs rows) (h : (rs.map V.ref)[i]? = some v) : ∃ r p, v = .ref r ∧ rs[i]? = some r ∧ rows[i]? = some p ∧ H r = some (.tup [.int p.1, .int p.2]) ∧ rows.take (i + 1) = rows.take i ++ [p] ∧ i < rows.length := by
  rw [List.getElem?_map] at h
  cases e : rs[i]? with
  | none => rw [e] at h; cases h
  | some r =>
    rw [e] at h
    have hi := (List.getElem?_eq_some_iff.mp e).1
    have hl := w.1
    have e2 : rows[i]? = some (rows[i]'(by omega)) := List.getElem?_eq_getElem (by omega)
    exact ⟨r, _, (Option.some.inj h).symm, rfl, e2, w.2 i r _ e e2, by rw [List.take_add_one, e2]; rfl, by omega⟩
def prD (p : Int × Int) : PyData := .tuple [.int p.1, .int p.2]
theorem dp_prs {K : PySem.W.Frag} {H : Hp} {a : Addr} {rows : List (Int × Int)} (h : Prs H a rows) : Dp K H (.ref a) (.tuple (rows.map prD)) := by
  obtain ⟨rs, ha, w⟩ := h
  refine .tup (SqT.of ha) (dpAll_of (by simp [w.1]) fun i x d h1 h2 => ?_)
  obtain ⟨r, p, rfl, e1, e2, hr, _⟩ := w.at h1
  rw [List.getElem?_map, e2] at h2
  cases h2
  exact dp_ints (ns := [p.1, p.2]) (SqT.of hr)
theorem shp_prs (rows : List (Int × Int)) : Shp 2 (.tuple (rows.map prD)) :=
  Shp.tup fun d hd => by
    obtain ⟨p, _, rfl⟩ := List.mem_map.mp hd
    exact Shp.tup fun e he => by
      rcases List.mem_cons.mp he with rfl | he
      · exact (Shp.int _)
      · rcases List.mem_cons.mp he with rfl | he
        · exact (Shp.int _)
        · cases he
theorem shp_ints (ns : List Int) : Shp 1 (.tuple (ns.map PyData.int)) :=
  Shp.tup fun d hd => by
    obtain ⟨p, _, rfl⟩ := List.mem_map.mp hd
    exact Shp.int _
theorem put_same {H H' : Hp} {D : Addr} {o : HO} (s : Same H H') (h : H D = none) : Same H (upd H' D o) := fun b u hb => by
  rw [upd_ne (ne_of_none hb h)]
  exact s _ _ hb
theorem tps_put {H : Hp} {D : Addr} {xs ys : List V} (h : H D = some (.lst xs)) : Tps H (upd H D (.lst ys)) := (Kp.upd (p := D)).tps h

/-! ### dicts with int keys -/
section
variable {K : PySem.W.Frag} {σ : L2.St} {H : Hp} {Q : VK}
theorem i_dget {td ty : TE} (h : td σ H fun x H1 => ty σ H1 fun y H2 => ∃ a v, x = .ref a ∧ DGet H2 a y (some v) ∧ Q v H2) : tDGet td ty σ H Q := h
theorem i_dgetI {p : Addr} {i : Int} {v : V} {kvs : List (L2.Key × V)} {R : V → Prop} (h : Rd H p (.dK kvs)) (e : valV kvs (.inl i) = some v) (q : R v) : ∃ a v', V.ref p = .ref a ∧ DGet H a (.int i) (some v') ∧ R v' :=
  ⟨p, v, rfl, .inl ⟨kvs, .inl i, h, rfl, e.symm⟩, q⟩
theorem i_din {td ty : TE} (h : ty σ H fun y H1 => td σ H1 fun x H2 => ∃ a o, x = .ref a ∧ DGet H2 a y o ∧ Q (.bl o.isSome) H2) : tDIn ty td σ H Q := h
theorem i_dinI {p : Addr} {i : Int} {kvs : List (L2.Key × V)} {R : Option V → Prop} (h : Rd H p (.dK kvs)) (q : R (valV kvs (.inl i))) : ∃ a o, V.ref p = .ref a ∧ DGet H a (.int i) o ∧ R o :=
  ⟨p, _, rfl, .inl ⟨kvs, .inl i, h, rfl, rfl⟩, q⟩
theorem i_dput {td ty tv : TE} {nx : L2.St → Hp → Prop} {rt : VK} {bk ct : L2.St → Hp → Prop} (h : tv σ H fun v H1 => td σ H1 fun x H2 => ty σ H2 fun y H3 => ∃ a H4, x = .ref a ∧ DPut H3 a y v H4 ∧ nx σ H4) : sDPut td ty tv ⟨nx, rt, bk, ct⟩ σ H := h
theorem i_dputI {p : Addr} {i : Int} {v : V} {kvs : List (L2.Key × V)} {R : Hp → Prop} (h : H p = some (.dK kvs)) (hl : kvs.length ≤ 10000) (q : R (upd H p (.dK (putK kvs (.inl i) v)))) : ∃ a H4, V.ref p = .ref a ∧ DPut H a (.int i) v H4 ∧ R H4 :=
  ⟨p, _, rfl, .inl ⟨kvs, .inl i, h, rfl, by rw [sizeLine_eq]; omega, rfl⟩, q⟩
theorem i_dnew (q : ∀ p, H p = none → Q (.ref p) (upd H p (.dK []))) : tDNewK σ H Q := q
def rSortDI : List V → Hp → VK → Prop := fun xs H Q => ∃ (a : Addr) (kvs : List (L2.Key × V)) (ks : List Int), xs = [.ref a] ∧ Rd H a (.dK kvs) ∧ kvs.map (·.1) = ks.map Sum.inl ∧ ks.length < 64 ∧ ∀ (ys : List Int) (p : Addr), ys.Perm ks → ys.Pairwise (· ≤ ·) → H p = none → Q (.ref p) (upd H p (.lst (ys.map V.int)))
theorem c_sortDI {X : Cx} (hc : X.calm = true) : CallR X (.builtin "sorted") rSortDI := call_sortedDI hc
end
/-- the dict's entries are the map m of ints -/
def DI (kvs : List (L2.Key × V)) (m : Int → Option Int) : Prop := (∀ i : Int, valV kvs (.inl i) = (m i).map V.int) ∧ ∃ ks : List Int, kvs.map (·.1) = ks.map Sum.inl ∧ ks.Nodup
theorem DI.nil : DI [] fun _ => none := ⟨fun _ => rfl, [], rfl, List.nodup_nil⟩
theorem putK_keys {kvs : List (L2.Key × V)} {k : L2.Key} {v : V} : (putK kvs k v).map (·.1) = if (valV kvs k).isSome = true then kvs.map (·.1) else kvs.map (·.1) ++ [k] := by
  unfold putK
  rw [valV_any]
  by_cases h : (valV kvs k).isSome = true
  · rw [if_pos h, if_pos h, List.map_map]
    refine List.map_congr_left fun p _ => ?_
    show (if p.1 = k then (p.1, v) else p).1 = p.1
    split <;> rfl
  · rw [if_neg h, if_neg h, List.map_append]
    rfl
theorem DI.put {kvs : List (L2.Key × V)} {m : Int → Option Int} {i v : Int} (d : DI kvs m) : DI (putK kvs (.inl i) (.int v)) (fun j => if j = i then some v else m j) := by
  obtain ⟨h, ks, hk, hn⟩ := d
  refine ⟨fun j => ?_, ?_⟩
  · rw [valV_put]
    show _ = Option.map V.int (if j = i then some v else m j)
    by_cases e : j = i
    · subst e
      rw [if_pos rfl, if_pos rfl]
      rfl
    · rw [if_neg (by intro z; exact e (Sum.inl.inj z)), if_neg e]
      exact h j
  · rw [putK_keys]
    by_cases e : (valV kvs (.inl i)).isSome = true
    · rw [if_pos e]
      exact ⟨ks, hk, hn⟩
    · rw [if_neg e, hk]
      refine ⟨ks ++ [i], by rw [List.map_append]; rfl, ?_⟩
      have hni : ¬ i ∈ ks := fun hi => by
        have e1 : valV kvs (.inl i) = none := by
          cases q : valV kvs (.inl i) with
          | none => rfl
          | some z => rw [q] at e; exact absurd rfl e
        refine valV_not e1 ?_
        rw [hk]
        exact List.mem_map.mpr ⟨i, hi, rfl⟩
      exact nd_snoc hn hni
theorem DI.mem {kvs : List (L2.Key × V)} {m : Int → Option Int} {ks : List Int} (d : DI kvs m) (hk : kvs.map (·.1) = ks.map Sum.inl) (i : Int) : i ∈ ks ↔ (m i).isSome = true := by
  have h := d.1 i
  constructor
  · intro hi
    cases e : m i with
    | some z => rfl
    | none =>
      rw [e] at h
      refine absurd ?_ (valV_not h)
      rw [hk]
      exact List.mem_map.mpr ⟨i, hi, rfl⟩
  · intro hi
    obtain ⟨z, hz⟩ := Option.isSome_iff_exists.mp hi
    rw [hz] at h
    have := valV_in h
    rw [hk] at this
    obtain ⟨j, hj, e⟩ := List.mem_map.mp this
    exact Sum.inl.inj e ▸ hj
/-- distinct ints of 0 .. n - 1 are at most n -/
theorem nodup_len : ∀ (n : Nat) (l : List Int), l.Nodup → (∀ x ∈ l, 0 ≤ x ∧ x < n) → l.length ≤ n
  | 0, l, _, h => by
    cases l with
    | nil => exact Nat.le_refl _
    | cons x r => have := h x List.mem_cons_self; omega
  | n + 1, l, hn, h => by
    by_cases hm : (n : Int) ∈ l
    · have e := List.length_erase_of_mem hm
      have := nodup_len n (l.erase (n : Int)) (hn.erase _) fun x hx => by
        have h1 := (List.Nodup.mem_erase_iff hn).mp hx
        have h2 := h x h1.2
        have : x ≠ (n : Int) := h1.1
        omega
      omega
    · have := nodup_len n l hn fun x hx => by
        have h2 := h x hx
        have : x ≠ (n : Int) := fun e => hm (e ▸ hx)
        omega
      omega
theorem DI.len {kvs : List (L2.Key × V)} {m : Int → Option Int} {n : Nat} (d : DI kvs m) (h : ∀ i, (m i).isSome = true → 0 ≤ i ∧ i < n) : kvs.length ≤ n := by
  obtain ⟨ks, hk, hn⟩ := d.2
  have e : kvs.length = ks.length := by
    have := congrArg List.length hk
    rw [List.length_map, List.length_map] at this
    exact this
  rw [e]
  exact nodup_len n ks hn fun x hx => h x ((d.mem hk x).mp hx)
/-- ints in order, all of them distinct -/
theorem lt_of_le_nodup : ∀ {l : List Int}, l.Pairwise (· ≤ ·) → l.Nodup → l.Pairwise (· < ·)
  | [], _, _ => .nil
  | a :: r, h, n => by
    rw [List.pairwise_cons] at h
    rw [List.nodup_cons] at n
    refine List.pairwise_cons.mpr ⟨fun x hx => ?_, lt_of_le_nodup h.2 n.2⟩
    have h1 := h.1 x hx
    have h2 : x ≠ a := fun e => n.1 (e ▸ hx)
    omega
theorem sorted_ext : ∀ {l1 l2 : List Int}, l1.Pairwise (· < ·) → l2.Pairwise (· < ·) → (∀ x, x ∈ l1 ↔ x ∈ l2) → l1 = l2
  | [], [], _, _, _ => rfl
  | [], b :: r, _, _, h => by have := (h b).mpr List.mem_cons_self; cases this
  | a :: r, [], _, _, h => by have := (h a).mp List.mem_cons_self; cases this
  | a :: r, b :: t, h1, h2, h => by
    rw [List.pairwise_cons] at h1 h2
    have ha := (h a).mp List.mem_cons_self
    have hb := (h b).mpr List.mem_cons_self
    have e : a = b := by
      rcases List.mem_cons.mp ha with e | ha
      · exact e
      · rcases List.mem_cons.mp hb with e | hb
        · exact e.symm
        · have := h2.1 a ha
          have := h1.1 b hb
          omega
    subst e
    rw [sorted_ext h1.2 h2.2 fun x => ⟨fun hx => ?_, fun hx => ?_⟩]
    · rcases List.mem_cons.mp ((h x).mp (List.mem_cons_of_mem _ hx)) with e | q
      · have := h1.1 x hx
        omega
      · exact q
    · rcases List.mem_cons.mp ((h x).mpr (List.mem_cons_of_mem _ hx)) with e | q
      · have := h2.1 x hx
        omega
      · exact q
theorem putK_le {kvs : List (L2.Key × V)} {k : L2.Key} {v : V} : (putK kvs k v).length ≤ kvs.length + 1 := by
  have h := congrArg List.length (putK_keys (kvs := kvs) (k := k) (v := v))
  rw [List.length_map] at h
  rw [h]
  split
  · rw [List.length_map]; omega
  · rw [List.length_append, List.length_map]; simp

/-! ### dicts whose keys are pairs of ints: how often each pair was met -/
section
variable {K : PySem.W.Frag} {σ : L2.St} {H : Hp} {Q : VK}
theorem i_dgetT {p b : Addr} {k : List L2.Key} {v : V} {kvs : List (List L2.Key × V)} {R : V → Prop} (h : Rd H p (.dT kvs)) (eb : H b = some (.tup (k.map kV))) (e : valV kvs k = some v) (q : R v) : ∃ a v', V.ref p = .ref a ∧ DGet H a (.ref b) (some v') ∧ R v' :=
  ⟨p, v, rfl, .inr ⟨kvs, k, b, h, rfl, eb, e.symm⟩, q⟩
theorem i_dputT {p b : Addr} {k : List L2.Key} {v : V} {kvs : List (List L2.Key × V)} {R : Hp → Prop} (h : H p = some (.dT kvs)) (eb : H b = some (.tup (k.map kV))) (hl : kvs.length ≤ 10000) (q : R (upd H p (.dT (putK kvs k v)))) : ∃ a H4, V.ref p = .ref a ∧ DPut H a (.ref b) v H4 ∧ R H4 :=
  ⟨p, _, rfl, .inr ⟨kvs, k, b, h, rfl, eb, by rw [sizeLine_eq]; omega, rfl⟩, q⟩
theorem i_dget2 {td ty tx : TE} (h : td σ H fun x H1 => ∃ a, x = .ref a ∧ IsD H1 a ∧ ty σ H1 fun y H2 => tx σ H2 fun z H3 => ∃ o, DGet H3 a y o ∧ Q (o.getD z) H3) : tDGet2 td ty tx σ H Q := h
theorem i_isDT {p : Addr} {kvs : List (List L2.Key × V)} {R : Addr → Prop} (h : H p = some (.dT kvs)) (q : R p) : ∃ a, V.ref p = .ref a ∧ IsD H a ∧ R a := ⟨p, rfl, .inr ⟨kvs, .inl h⟩, q⟩
theorem i_isDK {p : Addr} {kvs : List (L2.Key × V)} {R : Addr → Prop} (h : H p = some (.dK kvs)) (q : R p) : ∃ a, V.ref p = .ref a ∧ IsD H a ∧ R a := ⟨p, rfl, .inl ⟨kvs, .inl h⟩, q⟩
theorem i_ogetT {p b : Addr} {k : List L2.Key} {kvs : List (List L2.Key × V)} {R : Option V → Prop} (h : Rd H p (.dT kvs)) (eb : H b = some (.tup (k.map kV))) (q : R (valV kvs k)) : ∃ o, DGet H p (.ref b) o ∧ R o :=
  ⟨_, .inr ⟨kvs, k, b, h, rfl, eb, rfl⟩, q⟩
theorem i_dnewT (q : ∀ p, H p = none → Q (.ref p) (upd H p (.dT []))) : tDNewT σ H Q := q
theorem i_lockE {t : TE} {d : Addr} {u : HO} (h : H d = some u) (mu : Mut (some u)) (q : ∀ od, t σ (upd H d (.frz od u)) fun v H' => H' d = some (.frz od u) ∧ Q v (upd H' d u)) : tLockE t σ H Q := ⟨d, u, h, mu, q⟩
theorem i_iKeys {td : TE} {R : It → Hp → Prop} (h : td σ H fun x H1 => ∃ d o, x = .ref d ∧ ((∃ kvs, H1 d = some (.frz o (.dK kvs)) ∧ R (Itk d o kvs) H1) ∨ ∃ kvs, H1 d = some (.frz o (.dT kvs)) ∧ R (Itkt d o kvs) H1)) : iKeys td σ H R := h
theorem i_itK {d : Addr} {o : Obj} {kvs : List (L2.Key × V)} {R : It → Prop} (h : H d = some (.frz o (.dK kvs))) (q : R (Itk d o kvs)) : ∃ d' o', V.ref d = .ref d' ∧ ((∃ kvs, H d' = some (.frz o' (.dK kvs)) ∧ R (Itk d' o' kvs)) ∨ ∃ kvs, H d' = some (.frz o' (.dT kvs)) ∧ R (Itkt d' o' kvs)) := ⟨d, o, rfl, .inl ⟨kvs, h, q⟩⟩
theorem i_itT {d : Addr} {o : Obj} {kvs : List (List L2.Key × V)} {R : It → Prop} (h : H d = some (.frz o (.dT kvs))) (q : R (Itkt d o kvs)) : ∃ d' o', V.ref d = .ref d' ∧ ((∃ kvs, H d' = some (.frz o' (.dK kvs)) ∧ R (Itk d' o' kvs)) ∨ ∃ kvs, H d' = some (.frz o' (.dT kvs)) ∧ R (Itkt d' o' kvs)) := ⟨d, o, rfl, .inr ⟨kvs, h, q⟩⟩
end
section
variable {d : Addr} {o : Obj} {g : TG} {tt : TT} {te : TE} {ws : List Nat} {D : Addr} {Qd : Hp → Prop} {σ' : L2.St} {H : Hp}
theorem l_keysT {kvs : List (List L2.Key × V)} (Pv : Nat → Hp → Prop) (h0 : Pv 0 (upd H D (.lst []))) (hl : ∀ i H, i ≤ kvs.length → Pv i H → H d = some (.frz o (.dT kvs)))
    (hs : ∀ i (k : List L2.Key) v q H, kvs[i]? = some (k, v) → H q = some (.tup (k.map kV)) → Pv i H → g (.ref q) σ' H fun σ2 H2 => wipe σ2 ws = σ' ∧ tt σ2 H2 fun b H3 =>
      if b = true then te σ2 H3 fun y H4 => ∃ acc, H4 D = some (.lst acc) ∧ acc.length < sizeLine ∧ Pv (i + 1) (upd H4 D (.lst (acc ++ [y]))) else Pv (i + 1) H3) (hd : ∀ H, Pv kvs.length H → Qd H) (e : wipe σ' ws = σ' := by rfl) :
    ∃ W : Nat → Nat → Hp → Prop, (∃ m, W 0 m (upd H D (.lst []))) ∧ ∀ i m H, W i m H →
      ((Itkt d o kvs).stop i H ∧ Qd H) ∨ ((Itkt d o kvs).go i H ∧ ∃ Nx : Hp → Prop, (∀ H', Nx H' → ∃ m', m' < m ∧ W (i + 1) m' H') ∧ ∀ x H', (Itkt d o kvs).yld i H x H' → g x σ' H' fun σ2 H2 => wipe σ2 ws = σ' ∧ tt σ2 H2 fun b H3 =>
        if b = true then te σ2 H3 fun y H4 => ∃ acc, H4 D = some (.lst acc) ∧ acc.length < sizeLine ∧ Nx (upd H4 D (.lst (acc ++ [y]))) else Nx H3) := by
  have h := lc_it (walk_keysT (d := d) (o := o) (kvs := kvs)) (g := g) (tt := tt) (te := te) (vs := ws) (σ := σ') (H1 := H) (D := D) (Qd := Qd) Pv h0 hl (by
    rw [e]
    rintro i x H1 H2 hi hp ⟨rfl, k, v, q, hk, rfl, hq⟩
    exact hs i k v q _ hk hq hp) hd
  rw [e] at h
  exact h
theorem l_keys {kvs : List (L2.Key × V)} (Pv : Nat → Hp → Prop) (h0 : Pv 0 (upd H D (.lst []))) (hl : ∀ i H, i ≤ kvs.length → Pv i H → H d = some (.frz o (.dK kvs)))
    (hs : ∀ i k v H, kvs[i]? = some (k, v) → Pv i H → g (kV k) σ' H fun σ2 H2 => wipe σ2 ws = σ' ∧ tt σ2 H2 fun b H3 =>
      if b = true then te σ2 H3 fun y H4 => ∃ acc, H4 D = some (.lst acc) ∧ acc.length < sizeLine ∧ Pv (i + 1) (upd H4 D (.lst (acc ++ [y]))) else Pv (i + 1) H3) (hd : ∀ H, Pv kvs.length H → Qd H) (e : wipe σ' ws = σ' := by rfl) :
    ∃ W : Nat → Nat → Hp → Prop, (∃ m, W 0 m (upd H D (.lst []))) ∧ ∀ i m H, W i m H →
      ((Itk d o kvs).stop i H ∧ Qd H) ∨ ((Itk d o kvs).go i H ∧ ∃ Nx : Hp → Prop, (∀ H', Nx H' → ∃ m', m' < m ∧ W (i + 1) m' H') ∧ ∀ x H', (Itk d o kvs).yld i H x H' → g x σ' H' fun σ2 H2 => wipe σ2 ws = σ' ∧ tt σ2 H2 fun b H3 =>
        if b = true then te σ2 H3 fun y H4 => ∃ acc, H4 D = some (.lst acc) ∧ acc.length < sizeLine ∧ Nx (upd H4 D (.lst (acc ++ [y]))) else Nx H3) := by
  have h := lc_it (walk_keys (d := d) (o := o) (kvs := kvs)) (g := g) (tt := tt) (te := te) (vs := ws) (σ := σ') (H1 := H) (D := D) (Qd := Qd) Pv h0 hl (by
    rw [e]
    rintro i x H1 H2 hi hp ⟨rfl, k, v, hk, rfl⟩
    exact hs i k v _ hk hp) hd
  rw [e] at h
  exact h
end
/-- an entry: the pair and how often -/
def ent (e : (Int × Int) × Int) : List L2.Key × V := ([.inl e.1.1, .inl e.1.2], .int e.2)
def lk : List ((Int × Int) × Int) → Int × Int → Option Int
  | [], _ => none
  | e :: r, p => if e.1 = p then some e.2 else lk r p
def bump : List ((Int × Int) × Int) → Int × Int → List ((Int × Int) × Int)
  | [], p => [(p, 1)]
  | e :: r, p => if e.1 = p then (e.1, e.2 + 1) :: r else e :: bump r p
theorem ent_key {e : (Int × Int) × Int} {p : Int × Int} : ((ent e).1 = [.inl p.1, .inl p.2]) ↔ e.1 = p := by
  unfold ent
  constructor
  · intro h
    injection h with h1 h2
    injection h2 with h3
    exact Prod.ext (Sum.inl.inj h1) (Sum.inl.inj h3)
  · intro h
    rw [h]
theorem lk_val (p : Int × Int) : ∀ es, valV (es.map ent) [.inl p.1, .inl p.2] = (lk es p).map V.int
  | [] => rfl
  | e :: r => by
    rw [List.map_cons, lk]
    by_cases h : e.1 = p
    · rw [if_pos h, valV_pos (ent_key.mpr h)]; rfl
    · rw [if_neg h, valV_neg (fun z => h (ent_key.mp z)), lk_val p r]
theorem lk_bump (p q : Int × Int) : ∀ es, lk (bump es p) q = if q = p then some ((lk es p).getD 0 + 1) else lk es q
  | [] => by
    rw [bump, lk, lk, lk]
    by_cases h : q = p
    · rw [if_pos h.symm, if_pos h]; rfl
    · rw [if_neg (fun z => h z.symm), if_neg h]; rfl
  | e :: r => by
    have ih := lk_bump p q r
    rw [bump]
    by_cases h : e.1 = p
    · rw [if_pos h, lk, lk, if_pos h, lk]
      by_cases h2 : q = p
      · rw [if_pos h2, if_pos (by rw [h, h2])]; rfl
      · have nh : ¬ e.1 = q := fun z => h2 (z.symm.trans h)
        simp [h2, nh]
    · rw [if_neg h, lk, ih, lk, if_neg h, lk]
      by_cases h2 : q = p
      · rw [if_pos h2, if_pos h2, if_neg (fun z => h (z.trans h2))]
      · rw [if_neg h2, if_neg h2]
theorem bump_keys (p : Int × Int) : ∀ es, (∀ q, q ∈ (bump es p).map (·.1) ↔ q = p ∨ q ∈ es.map (·.1)) ∧ ((es.map (·.1)).Nodup → ((bump es p).map (·.1)).Nodup)
  | [] => ⟨fun q => by simp [bump], fun _ => by simp [bump]⟩
  | e :: r => by
    obtain ⟨h1, h2⟩ := bump_keys p r
    rw [bump]
    by_cases h : e.1 = p
    · rw [if_pos h]
      refine ⟨fun q => ?_, fun n => n⟩
      rw [List.map_cons, List.map_cons, List.mem_cons]
      show q = e.1 ∨ _ ↔ q = p ∨ q = e.1 ∨ _
      rw [h]
      constructor
      · rintro (a | a)
        · exact .inl a
        · exact .inr (.inr a)
      · rintro (a | a | a)
        · exact .inl a
        · exact .inl a
        · exact .inr a
    · rw [if_neg h]
      refine ⟨fun q => ?_, fun n => ?_⟩
      · rw [List.map_cons, List.mem_cons, h1, List.map_cons, List.mem_cons]
        constructor
        · rintro (a | a | a)
          · exact .inr (.inl a)
          · exact .inl a
          · exact .inr (.inr a)
        · rintro (a | a | a)
          · exact .inr (.inl a)
          · exact .inl a
          · exact .inr (.inr a)
      · rw [List.map_cons, List.nodup_cons] at n ⊢
        refine ⟨fun z => ?_, h2 n.2⟩
        rcases (h1 _).mp z with a | a
        · exact h a
        · exact n.1 a
theorem lk_none (p : Int × Int) : ∀ es, lk es p = none ↔ ¬ p ∈ es.map (·.1)
  | [] => by simp [lk]
  | e :: r => by
    rw [lk, List.map_cons, List.mem_cons]
    by_cases h : e.1 = p
    · rw [if_pos h]
      exact ⟨fun z => (nomatch z), fun z => (z (.inl h.symm)).elim⟩
    · rw [if_neg h, lk_none p r]
      exact ⟨fun z w => w.elim (fun a => h a.symm) z, fun z w => z (.inr w)⟩
theorem bump_new (p : Int × Int) : ∀ es, lk es p = none → bump es p = es ++ [(p, 1)]
  | [], _ => rfl
  | e :: r, h => by
    rw [lk] at h
    by_cases h2 : e.1 = p
    · rw [if_pos h2] at h; cases h
    · rw [if_neg h2] at h
      rw [bump, if_neg h2, bump_new p r h]; rfl
theorem map_same (p : Int × Int) (v : Int) : ∀ es : List ((Int × Int) × Int), ¬ p ∈ es.map (·.1) → (es.map ent).map (fun kv => if kv.1 = [.inl p.1, .inl p.2] then (kv.1, V.int v) else kv) = es.map ent
  | [], _ => rfl
  | e :: r, h => by
    rw [List.map_cons, List.mem_cons] at h
    rw [List.map_cons, List.map_cons, map_same p v r (fun z => h (.inr z)), if_neg (fun z => h (.inl (ent_key.mp z).symm))]
theorem bump_map (p : Int × Int) : ∀ es : List ((Int × Int) × Int), (es.map (·.1)).Nodup → (lk es p).isSome = true → (es.map ent).map (fun kv => if kv.1 = [.inl p.1, .inl p.2] then (kv.1, V.int ((lk es p).getD 0 + 1)) else kv) = (bump es p).map ent
  | [], _, h => by cases h
  | e :: r, n, h => by
    rw [List.map_cons, List.nodup_cons] at n
    rw [List.map_cons, List.map_cons, bump]
    by_cases h2 : e.1 = p
    · rw [if_pos (ent_key.mpr h2), if_pos h2, map_same p _ r (by rw [← h2]; exact n.1), List.map_cons, lk, if_pos h2]
      rfl
    · rw [if_neg (fun z => h2 (ent_key.mp z)), if_neg h2, List.map_cons]
      rw [lk, if_neg h2] at h ⊢
      rw [bump_map p r n.2 h]
theorem bump_put {p : Int × Int} {es : List ((Int × Int) × Int)} (n : (es.map (·.1)).Nodup) : putK (es.map ent) [.inl p.1, .inl p.2] (.int ((lk es p).getD 0 + 1)) = (bump es p).map ent := by
  cases h : lk es p with
  | none =>
    rw [putK_new _ (by rw [lk_val, h]; rfl), bump_new p es h, List.map_append]
    rfl
  | some z =>
    unfold putK
    rw [valV_any, lk_val, h, if_pos (show (Option.map V.int (some z)).isSome = true from rfl)]
    have := bump_map p es n (by rw [h]; rfl)
    rw [h] at this
    exact this
/-- the counts of a row of pairs -/
def cntE (ev : List (Int × Int)) : List ((Int × Int) × Int) := ev.foldl bump []
theorem cntE_snoc (ev : List (Int × Int)) (p : Int × Int) : cntE (ev ++ [p]) = bump (cntE ev) p := by
  unfold cntE
  rw [List.foldl_append]
  rfl
theorem cntE_nodup (ev : List (Int × Int)) : ((cntE ev).map (·.1)).Nodup := by
  unfold cntE
  suffices h : ∀ (l : List (Int × Int)) es, (es.map (·.1)).Nodup → ((l.foldl bump es).map (fun (x : (Int × Int) × Int) => x.1)).Nodup from h ev [] List.nodup_nil
  intro l
  induction l with
  | nil => intro es h; exact h
  | cons p r ih => intro es h; exact ih _ ((bump_keys p es).2 h)
theorem bump_len (p : Int × Int) : ∀ es, (bump es p).length ≤ es.length + 1
  | [] => Nat.le_refl _
  | e :: r => by
    have := bump_len p r
    rw [bump]
    split
    · simp
    · simp; omega
theorem cntE_len (ev : List (Int × Int)) : (cntE ev).length ≤ ev.length := by
  unfold cntE
  suffices h : ∀ (l : List (Int × Int)) (es : List ((Int × Int) × Int)), (l.foldl bump es).length ≤ es.length + l.length by
    have := h ev []
    simpa using this
  intro l
  induction l with
  | nil => intro es; exact Nat.le_refl _
  | cons p r ih =>
    intro es
    have h1 := ih (bump es p)
    have h2 := bump_len p es
    rw [List.foldl_cons, List.length_cons]
    omega
theorem cntE_lk (ev : List (Int × Int)) (p : Int × Int) : (lk (cntE ev) p).getD 0 = (ev.count p : Nat) := by
  suffices h : ∀ (l : List (Int × Int)) (es : List ((Int × Int) × Int)), (lk (l.foldl bump es) p).getD 0 = (lk es p).getD 0 + (l.count p : Nat) by
    have := h ev []
    simpa [lk, cntE] using this
  intro l
  induction l with
  | nil => intro es; simp
  | cons q r ih =>
    intro es
    rw [List.foldl_cons, ih, lk_bump, List.count_cons]
    by_cases h : p = q
    · subst h
      simp
      omega
    · rw [if_neg h]
      have : (q == p) = false := by simp; exact fun z => h z.symm
      rw [this]
      simp
/-- the counts of the pairs that have a property -/
theorem cntE_sum (pr : Int × Int → Bool) (ev : List (Int × Int)) : (((cntE ev).filter fun e => pr e.1).map (·.2)).sum = ((ev.countP pr : Nat) : Int) := by
  have hb : ∀ (p : Int × Int) es, (((bump es p).filter fun e => pr e.1).map (·.2)).sum = ((es.filter fun e => pr e.1).map (fun (x : (Int × Int) × Int) => x.2)).sum + (if pr p = true then 1 else 0) := by
    intro p es
    induction es with
    | nil => by_cases h : pr p = true <;> simp [bump, h]
    | cons e r ih =>
      rw [bump]
      by_cases h : e.1 = p
      · rw [if_pos h]
        by_cases h2 : pr p = true
        · simp [h, h2]; omega
        · simp [h, h2]
      · rw [if_neg h]
        by_cases h2 : pr e.1 = true
        · simp only [List.filter_cons, h2, if_true, List.map_cons, List.sum_cons, ih]; omega
        · rw [List.filter_cons_of_neg (p := fun (e : (Int × Int) × Int) => pr e.1) h2, List.filter_cons_of_neg (p := fun (e : (Int × Int) × Int) => pr e.1) h2]
          exact ih
  suffices h : ∀ (l : List (Int × Int)) (es : List ((Int × Int) × Int)), (((l.foldl bump es).filter fun e => pr e.1).map (·.2)).sum = ((es.filter fun e => pr e.1).map (fun (x : (Int × Int) × Int) => x.2)).sum + (l.countP pr : Nat) by
    have := h ev []
    simpa [cntE] using this
  intro l
  induction l with
  | nil => intro es; simp
  | cons q r ih =>
    intro es
    rw [List.foldl_cons, ih, hb, List.countP_cons]
    by_cases h : pr q = true
    · simp [h]; omega
    · simp [h]
theorem lk_get (p : Int × Int) (es : List ((Int × Int) × Int)) : (valV (es.map ent) [.inl p.1, .inl p.2]).getD (.int 0) = .int ((lk es p).getD 0) := by
  rw [lk_val]
  cases lk es p <;> rfl
theorem lk_mem : ∀ {es : List ((Int × Int) × Int)}, (es.map (·.1)).Nodup → ∀ e ∈ es, lk es e.1 = some e.2
  | [], _, e, h => (nomatch h)
  | x :: r, n, e, h => by
    rw [List.map_cons, List.nodup_cons] at n
    rw [lk]
    rcases List.mem_cons.mp h with rfl | h
    · rw [if_pos rfl]
    · have : ¬ x.1 = e.1 := fun z => n.1 (by rw [z]; exact List.mem_map.mpr ⟨e, h, rfl⟩)
      rw [if_neg this, lk_mem n.2 e h]
theorem tps_frz {H : Hp} {d : Addr} {kvs : List (List L2.Key × V)} {o : HO} (h : H d = some (.dT kvs)) : Tps H (upd H d o) := fun c => by
  by_cases e : c = d
  · subst e
    exact ⟨fun xs z => (by rw [h] at z; cases z), fun o xs z => (by rw [h] at z; cases z)⟩
  · exact ⟨fun xs z => (by rw [upd_ne e]; exact z), fun o xs z => (by rw [upd_ne e]; exact z)⟩
theorem ent_at {es : List ((Int × Int) × Int)} {i : Nat} {k : List L2.Key} {v : V} (h : (es.map ent)[i]? = some (k, v)) : ∃ e, es[i]? = some e ∧ k = [.inl e.1.1, .inl e.1.2] ∧ v = .int e.2 ∧ es.take (i + 1) = es.take i ++ [e] := by
  rw [List.getElem?_map] at h
  cases e1 : es[i]? with
  | none => rw [e1] at h; cases h
  | some e =>
    rw [e1] at h
    have h2 := Option.some.inj h
    unfold ent at h2
    injection h2 with a b
    exact ⟨e, rfl, a.symm, b.symm, by rw [List.take_add_one, e1]; rfl⟩

/-! ### rows of keys -/
/-- rows of ints at rs -/
def Rwl (H : Hp) (rs : List Addr) (rw : List (List Int)) : Prop := rs.length = rw.length ∧ ∀ (i : Nat) (r : Addr) (w : List Int), rs[i]? = some r → rw[i]? = some w → H r = some (.tup (w.map V.int))
def Rws (H : Hp) (a : Addr) (rw : List (List Int)) : Prop := ∃ rs : List Addr, H a = some (.tup (rs.map V.ref)) ∧ Rwl H rs rw
theorem Rwl.tps {H H' : Hp} {rs : List Addr} {rw : List (List Int)} (h : Rwl H rs rw) (t : Tps H H') : Rwl H' rs rw := ⟨h.1, fun i r w a b => (t r).1 _ (h.2 i r w a b)⟩
theorem Rws.tps {H H' : Hp} {a : Addr} {rw : List (List Int)} (h : Rws H a rw) (t : Tps H H') : Rws H' a rw := by
  obtain ⟨rs, ha, w⟩ := h
  exact ⟨rs, (t a).1 _ ha, w.tps t⟩
theorem Rwl.at {H : Hp} {rs : List Addr} {rw : List (List Int)} {i : Nat} {v : V} (h : Rwl H rs rw) (e : (rs.map V.ref)[i]? = some v) : ∃ r w, v = .ref r ∧ rs[i]? = some r ∧ rw[i]? = some w ∧ H r = some (.tup (w.map V.int)) ∧ rw.take (i + 1) = rw.take i ++ [w] ∧ i < rw.length := by
  rw [List.getElem?_map] at e
  cases e1 : rs[i]? with
  | none => rw [e1] at e; cases e
  | some r =>
    rw [e1] at e
    have hi := (List.getElem?_eq_some_iff.mp e1).1
    have hl := h.1
    have e2 : rw[i]? = some (rw[i]'(by omega)) := List.getElem?_eq_getElem (by omega)
    exact ⟨r, _, (Option.some.inj e).symm, rfl, e2, h.2 i r _ e1 e2, by rw [List.take_add_one, e2]; rfl, by omega⟩
/-- the key that is known at t, late ticks later -/
def kn (w : List Int) (late t : Nat) : Int := if late ≤ t then w[t - late]?.getD 0 else 0
def evN (w : List Int) (late : Nat) : Nat → List (Int × Int)
  | 0 => []
  | t + 1 => evN w late t ++ [(kn w late t, w[t]?.getD 0)]
def evs (late : Nat) (rw : List (List Int)) : List (Int × Int) := (rw.map fun w => evN w late w.length).flatten
theorem evs_snoc (late : Nat) (rw : List (List Int)) (w : List Int) : evs late (rw ++ [w]) = evs late rw ++ evN w late w.length := by
  unfold evs
  rw [List.map_append, List.flatten_append]
  simp
theorem evN_len (w : List Int) (late : Nat) : ∀ t, (evN w late t).length = t
  | 0 => rfl
  | t + 1 => by rw [evN, List.length_append, evN_len w late t]; rfl
theorem evs_len (late : Nat) {n : Nat} : ∀ rw : List (List Int), (∀ w ∈ rw, w.length ≤ n) → (evs late rw).length ≤ rw.length * n
  | [], _ => by simp [evs]
  | w :: r, h => by
    have ih := evs_len late r fun x hx => h x (List.mem_cons_of_mem _ hx)
    have hw := h w List.mem_cons_self
    unfold evs at ih ⊢
    rw [List.map_cons, List.flatten_cons, List.length_append, evN_len, List.length_cons, Nat.succ_mul]
    omega
/-- an int of a row -/
theorem int_at {ns : List Int} {j : Int} {i : Nat} (hj : j = (i : Int)) (h : i < ns.length) : atI (ns.map V.int) j = some (.int (ns[i]?.getD 0)) := by
  subst hj
  refine atI_nat ?_
  rw [List.getElem?_map, List.getElem?_eq_getElem h]
  rfl
def sp_counted_pairs (K : PySem.W.Frag) : Sp := fun vs H Q _ => ∃ (a : Addr) (rw : List (List Int)) (late : Nat), vs = [.ref a, .int (late : Int)] ∧ Rws H a rw ∧ (∀ w ∈ rw, w.length ≤ 24) ∧ rw.length ≤ 10 ∧
  ∀ (D : Addr) (H' : Hp), Same H H' → H D = none → H' D = some (.dT ((cntE (evs late rw)).map ent)) → Q (.ref D) H'
theorem ok_counted_pairs {P : Program} {w : World} {K : PySem.W.Frag} {mg : Str → Option Value} {base : Heap} {f : Addr} {fd : FuncData} (F : Df K mg "counted_pairs" s_counted_pairs f fd ["rows", "late"]) (T : Txt mg) : FnOk P w K mg base CX0 1 f fd ["rows", "late"] (sp_counted_pairs K) := by
  refine F.ok sc_counted_pairs (fun vs H Q E h => ?_) (fun cdv A outer s H vs Q E hr h => ?_)
  · obtain ⟨a, rw, late, rfl, _⟩ := h
    rfl
  · obtain ⟨a, rw, late, rfl, ⟨rs, ha, wl⟩, hw, hl, q⟩ := h
    have hu := hu_of hr
    refine ⟨_, (pss_cons (ps_set (i := 2) sc_counted_pairs.nd rfl (Or.inl rfl) pe_dnewT)
      (pss_cons (ps_for PassesOwn.never rfl (pi_tup (pv 0)) (pg_name (i := 3) sc_counted_pairs.nd rfl (Or.inl rfl)) (pss_one (ps_for PassesOwn.never rfl (pi_range1 rfl T.b_range (pa_cons (pe_callB (id := "len") (r := qLen K) c_len (by rfl) T.b_len (by decide +kernel) (pa_cons (pv 3) pa_nil)) pa_nil)) (pg_name (i := 4) sc_counted_pairs.nd rfl (Or.inl rfl)) (pss_cons (ps_set (i := 5) sc_counted_pairs.nd rfl (Or.inl rfl) (pe_ifExp (pt_cmpR op_ge (pv 4) (pv 1) (nomark _)) (pe_ix (r := rIxT K) ix_tup (pv 3) (pe_op op_sub (pv 4) (pv 1)) (fun _ _ => rfl)) pe_int))
      (pss_cons (ps_set (i := 6) sc_counted_pairs.nd rfl (Or.inl rfl) (pe_tup (pa_cons (pv 5) (pa_cons (pe_ix (r := rIxT K) ix_tup (pv 3) (pv 4) (fun _ _ => rfl)) pa_nil))))
      (pss_one (ps_dput hu (pv 2) (pv 6) (pe_op op_add (pe_dget2 hu (pv 2) (pv 6) pe_int ⟨rfl, rfl, rfl, rfl⟩) pe_int) rfl)))))))
      (pss_one (ps_ret (pv 2))))), ?_⟩
    try dsimp only [cxOf, Cx.nox, Cx.wish]
    refine st_of (σ' := [some _, some _, none, none, none, none, none]) rfl ?_
    wtm_at "jw"
    refine i_dnewT fun D hD => ?_
    have s0 := same_new (o := .dT []) hD
    wtm_at "jw"
    refine f_tup (xs := rs.map V.ref) (fun i σ H' => Same H H' ∧ H' D = some (.dT ((cntE (evs late (rw.take i))).map ent)) ∧ ∃ v1 v2 v3 v4, σ = [some (.ref a), some (.int (late : Int)), some (.ref D), v1, v2, v3, v4]) ⟨s0, upd_same, none, none, none, none, rfl⟩ (fun i σ H' _ h => SqT.of (h.1 _ _ ha)) (fun i x σ H' hi h => ?_) (fun σ H' h => ?_)
    · obtain ⟨s1, hD1, v1, v2, v3, v4, rfl⟩ := h
      obtain ⟨r, w, rfl, e1, e2, hr1, e3, hlt⟩ := (wl.tps (Tps.of s1)).at hi
      have hwl := hw w (List.mem_of_getElem? e2)
      wtm_at "jw"
      refine f_range (fun t σ H2 => Same H H2 ∧ H2 r = some (.tup (w.map V.int)) ∧ H2 D = some (.dT ((cntE (evs late (rw.take i) ++ evN w late t)).map ent)) ∧ ∃ v2 v3 v4, σ = [some (.ref a), some (.int (late : Int)), some (.ref D), some (.ref r), v2, v3, v4]) ⟨s1, hr1, by rw [evN, List.append_nil]; exact hD1, _, _, _, rfl⟩ (fun t σ H2 ht h => ?_) (fun σ H2 h => ?_)
      · obtain ⟨s2, hr2, hD2, v2, v3, v4, rfl⟩ := h
        rw [List.length_map] at ht
        have ht' : t < w.length := by omega
        have a1 := int_at (ns := w) (j := 0 + (t : Int)) (i := t) (by omega) ht'
        wtm_at "js"
        have fin : ∀ (x : Int), x = kn w late t → ∀ u, H2 u = none → Same H (upd (upd H2 u (.tup [.int x, .int (w[t]?.getD 0)])) D (.dT ((bump (cntE (evs late (rw.take i) ++ evN w late t)) (x, w[t]?.getD 0)).map ent))) ∧ (upd (upd H2 u (.tup [.int x, .int (w[t]?.getD 0)])) D (.dT ((bump (cntE (evs late (rw.take i) ++ evN w late t)) (x, w[t]?.getD 0)).map ent))) r = some (.tup (w.map V.int)) ∧ (upd (upd H2 u (.tup [.int x, .int (w[t]?.getD 0)])) D (.dT ((bump (cntE (evs late (rw.take i) ++ evN w late t)) (x, w[t]?.getD 0)).map ent))) D = some (.dT ((cntE (evs late (rw.take i) ++ evN w late (t + 1))).map ent)) := fun x hx u hu => by
          have hrD : r ≠ D := ne_of hr2 hD2 (by intro z; cases z)
          refine ⟨put_same (s2.trans (same_new hu)) hD, by rw [upd_ne hrD]; exact same_new hu _ _ hr2, ?_⟩
          rw [upd_same, evN, ← List.append_assoc, cntE_snoc, hx]
        have hlen : ((cntE (evs late (rw.take i) ++ evN w late t)).map ent).length ≤ 10000 := by
          have h1 := cntE_len (evs late (rw.take i) ++ evN w late t)
          have h2 := evs_len late (n := 24) (rw.take i) fun x hx => hw x (List.mem_of_mem_take hx)
          have h3 := List.length_take_le i rw
          rw [List.length_append, evN_len] at h1
          rw [List.length_map]
          have : (rw.take i).length * 24 ≤ 10 * 24 := Nat.mul_le_mul_right _ (by omega)
          omega
        have nod := cntE_nodup (evs late (rw.take i) ++ evN w late t)
        refine c_dec (fun h => ?_) (fun h => ?_)
        · have a2 := int_at (ns := w) (j := 0 + (t : Int) - (late : Int)) (i := t - late) (by omega) (by omega)
          wtm_at "js"
          intro u hu
          have hD3 := same_new (o := .tup [V.int (w[t - late]?.getD 0), V.int (w[t]?.getD 0)]) hu _ _ hD2
          wtm_at "js"
          refine i_dput ?_
          wtm_at "js"
          refine i_dget2 ?_
          wtm_at "js"
          refine i_isDT hD3 ?_
          wtm_at "js"
          refine i_ogetT (k := [.inl (w[t - late]?.getD 0), .inl (w[t]?.getD 0)]) (.inl hD3) upd_same ?_
          rw [lk_get (w[t - late]?.getD 0, w[t]?.getD 0)]
          wtm_at "js"
          refine i_dputT (k := [.inl (w[t - late]?.getD 0), .inl (w[t]?.getD 0)]) hD3 upd_same hlen ?_
          rw [bump_put (p := (w[t - late]?.getD 0, w[t]?.getD 0)) nod]
          obtain ⟨s4, hr4, hD4⟩ := fin _ (by unfold kn; rw [if_pos (by omega)]) u hu
          exact ⟨s4, hr4, hD4, _, _, _, rfl⟩
        · wtm_at "js"
          intro u hu
          have hD3 := same_new (o := .tup [V.int 0, V.int (w[t]?.getD 0)]) hu _ _ hD2
          wtm_at "js"
          refine i_dput ?_
          wtm_at "js"
          refine i_dget2 ?_
          wtm_at "js"
          refine i_isDT hD3 ?_
          wtm_at "js"
          refine i_ogetT (k := [.inl 0, .inl (w[t]?.getD 0)]) (.inl hD3) upd_same ?_
          rw [lk_get (0, w[t]?.getD 0)]
          wtm_at "js"
          refine i_dputT (k := [.inl 0, .inl (w[t]?.getD 0)]) hD3 upd_same hlen ?_
          rw [bump_put (p := (0, w[t]?.getD 0)) nod]
          obtain ⟨s4, hr4, hD4⟩ := fin 0 (by unfold kn; rw [if_neg (by omega)]) u hu
          exact ⟨s4, hr4, hD4, _, _, _, rfl⟩
      · obtain ⟨s2, hr2, hD2, v2, v3, v4, rfl⟩ := h
        rw [List.length_map, show ((w.length : Int)).toNat = w.length by omega] at hD2
        refine ⟨s2, ?_, _, _, _, _, rfl⟩
        rw [e3, evs_snoc]
        exact hD2
    · obtain ⟨s1, hD1, v1, v2, v3, v4, rfl⟩ := h
      rw [List.length_map, wl.1, List.take_length] at hD1
      wtm_at "js"
      exact q D _ s1 hD hD1
/-- the wrong guesses of the table ts -/
def wrg (ts : List Int) (p : Int × Int) : Bool := !decide (ts[p.1.toNat]?.getD 0 = p.2)
/-- all pairs are of keys below many -/
def Keys (many : Nat) (ev : List (Int × Int)) : Prop := ∀ p ∈ ev, 0 ≤ p.1 ∧ p.1 < many
theorem keys_cnt {many : Nat} {ev : List (Int × Int)} (h : Keys many ev) : ∀ e ∈ cntE ev, 0 ≤ e.1.1 ∧ e.1.1 < many := by
  intro e he
  have hm : e.1 ∈ (cntE ev).map (·.1) := List.mem_map.mpr ⟨e, he, rfl⟩
  suffices hh : ∀ (l : List (Int × Int)) (es : List ((Int × Int) × Int)), (∀ q ∈ es.map (fun (x : (Int × Int) × Int) => x.1), 0 ≤ q.1 ∧ q.1 < many) → (∀ p ∈ l, 0 ≤ p.1 ∧ p.1 < many) → ∀ q ∈ (l.foldl bump es).map (fun (x : (Int × Int) × Int) => x.1), 0 ≤ q.1 ∧ q.1 < many from hh ev [] (fun q hq => (nomatch hq)) h _ hm
  intro l
  induction l with
  | nil => intro es h1 _; exact h1
  | cons p r ih =>
    intro es h1 h2
    refine ih _ (fun q hq => ?_) fun x hx => h2 x (List.mem_cons_of_mem _ hx)
    rcases ((bump_keys p es).1 q).mp hq with e | e
    · rw [e]; exact h2 p List.mem_cons_self
    · exact h1 q e
def sp_wrong_guesses (K : PySem.W.Frag) : Sp := fun vs H Q _ => ∃ (a b : Addr) (ts : List Int) (rw : List (List Int)) (late : Nat), vs = [.ref a, .ref b, .int (late : Int)] ∧ SqT K H a (ts.map V.int) ∧ Rws H b rw ∧ (∀ w ∈ rw, w.length ≤ 24) ∧ rw.length ≤ 10 ∧ Keys ts.length (evs late rw) ∧
  ∀ (H' : Hp), Same H H' → Q (.int ((evs late rw).countP (wrg ts) : Nat)) H'
theorem ok_wrong_guesses {P : Program} {w : World} {K : PySem.W.Frag} {mg : Str → Option Value} {base : Heap} {f : Addr} {fd : FuncData} (F : Df K mg "wrong_guesses" s_wrong_guesses f fd ["table", "rows", "late"]) (T : Txt mg)
    (c_counted_pairs : Cl P w K mg base 1 "counted_pairs" (sp_counted_pairs K)) : FnOk P w K mg base CX0 2 f fd ["table", "rows", "late"] (sp_wrong_guesses K) := by
  refine F.ok sc_wrong_guesses (fun vs H Q E h => ?_) (fun cdv A outer s H vs Q E hr h => ?_)
  · obtain ⟨a, b, ts, rw, late, rfl, _⟩ := h
    rfl
  · obtain ⟨a, b, ts, rw, late, rfl, ha, hb, hw, hl, hk, q⟩ := h
    have hu := hu_of hr
    refine ⟨_, (pss_cons (ps_set (i := 3) sc_wrong_guesses.nd rfl (Or.inr rfl) (pe_cl c_counted_pairs hr (by decide) rfl (pa_cons (pv 1) (pa_cons (pv 2) pa_nil))))
      (pss_one (ps_ret (pe_callB (id := "sum") (r := rSum K) (cr_sum rfl) (by rfl) T.b_sum (by decide +kernel) (pa_cons (pe_lock (pe_lc (own := [("pair", 4)]) (g := gName 4) rfl sc_wrong_guesses.nd (pi_keys (pv 3)) (blkOk_by (own := [("pair", 4)]) (N := N_wrong_guesses) (sc := defScope s_wrong_guesses) (by decide +kernel)) (fun _ _ _ _ _ => (pg_name (i := 4) sc_wrong_guesses.nd rfl (Or.inl rfl))) (fun _ _ _ _ _ => pts_one (pt_cmpR op_ne (pe_ix (r := rIxT K) ix_tup (pv 0) (pe_ix (r := rIxT K) ix_tup (pv 4) pe_int (fun _ _ => rfl)) (fun _ _ => rfl)) (pe_ix (r := rIxT K) ix_tup (pv 4) pe_int (fun _ _ => rfl)) (nomark _))) (fun _ _ _ _ _ => (pe_dget hu (pv 3) (pv 4) (fun _ _ => rfl))))) pa_nil))))), ?_⟩
    try dsimp only [cxOf, Cx.nox, Cx.wish]
    refine st_of (σ' := [some _, some _, some _, none, none]) rfl ?_
    wtm_at "jw"
    refine ⟨b, rw, late, rfl, hb, hw, hl, fun D H1 s1 nD hD => ?_⟩
    have ha1 := Same.tup s1 ha
    have hke := keys_cnt hk
    have nod := cntE_nodup (evs late rw)
    have hsum := cntE_sum (wrg ts) (evs late rw)
    have hel : (cntE (evs late rw)).length ≤ 240 := by
      have h1 := cntE_len (evs late rw)
      have h2 := evs_len late (n := 24) rw hw
      omega
    generalize cntE (evs late rw) = es at hD hke nod hsum hel
    wtm_at "jw"
    refine i_lockE hD True.intro fun od => ?_
    have tL := tps_frz (o := .frz od (.dT (es.map ent))) hD
    have hDf := upd_same (H := H1) (a := D) (o := .frz od (.dT (es.map ent)))
    have keep : ∀ b o, b ≠ D → H1 b = some o → upd H1 D (.frz od (.dT (es.map ent))) b = some o := fun b o n e => by rw [upd_ne n]; exact e
    generalize upd H1 D (.frz od (.dT (es.map ent))) = HL at tL hDf keep ⊢
    have haL := tL.sq ha1
    wtm_at "jw"
    refine i_iKeys ?_
    wtm_at "jw"
    refine ⟨D, od, rfl, .inr ⟨_, hDf, ?_⟩⟩
    intro E hE
    refine l_keysT (kvs := es.map ent) (fun i H' => Same HL H' ∧ H' E = some (.lst (((es.take i).filter fun e => wrg ts e.1).map fun e => V.int e.2))) ⟨same_new hE, upd_same⟩ (fun i H' _ h => h.1 _ _ hDf) (fun i k v u H' hi hu h => ?_) (fun H' h => ?_)
    · obtain ⟨s2, hE2⟩ := h
      obtain ⟨e, ee, rfl, rfl, etk⟩ := ent_at hi
      have hem := List.mem_of_getElem? ee
      obtain ⟨k0, k1⟩ := hke e hem
      have hu' : H' u = some (.tup [.int e.1.1, .int e.1.2]) := hu
      have ha2 := Same.tup s2 haL
      have a1 := int_at (ns := ts) (j := e.1.1) (i := e.1.1.toNat) (by omega) (by omega)
      wtm_at "jw"
      refine ⟨rfl, ?_⟩
      wtm_at "jw"
      refine c_decN (fun hne => ?_) (fun he => ?_)
      · wtm_at "jw"
        refine i_dget ?_
        wtm_at "jw"
        refine i_dgetT (.inr ⟨od, s2 _ _ hDf⟩) hu (v := .int e.2) (by rw [lk_val e.1, lk_mem nod e hem]; rfl) ?_
        have hw1 : wrg ts e.1 = true := by unfold wrg; rw [decide_eq_false hne]; rfl
        refine ⟨_, hE2, small1000 ?_, put_same s2 hE, ?_⟩
        · rw [List.length_map]
          have h1 := List.length_filter_le (fun e => wrg ts e.1) (es.take i)
          have h2 := List.length_take_le i es
          rw [List.length_take] at h1
          omega
        · rw [upd_same, etk, List.filter_append, List.map_append, List.filter_cons_of_pos (p := fun (e : (Int × Int) × Int) => wrg ts e.1) hw1]
          rfl
      · have hw1 : ¬ wrg ts e.1 = true := by unfold wrg; rw [decide_eq_true he]; simp
        refine ⟨s2, ?_⟩
        rw [etk, List.filter_append, List.map_append, List.filter_cons_of_neg (p := fun (e : (Int × Int) × Int) => wrg ts e.1) hw1]
        simpa using hE2
    · obtain ⟨s2, hE2⟩ := h
      rw [List.length_map, List.take_length] at hE2
      have hD2 := s2 _ _ hDf
      refine ⟨hD2, ?_⟩
      have nED : E ≠ D := ne_of hE2 hD2 (by intro z; cases z)
      wtm_at "jw"
      refine ⟨E, ((es.filter fun e => wrg ts e.1).map (·.2)), rfl, SqL.of (by rw [upd_ne nED, hE2, List.map_map]; rfl), ?_⟩
      rw [hsum]
      refine q _ fun b o hb => ?_
      have nb : b ≠ D := ne_of_none hb nD
      rw [upd_ne nb]
      exact s2 _ _ (keep _ _ nb (s1 _ _ hb))
/-- the first key that stands most often behind a known one -/
def cnt (ev : List (Int × Int)) (a b : Int) : Nat := ev.count (a, b)
def bestN (ev : List (Int × Int)) (a : Int) : Nat → Int
  | 0 => 0
  | 1 => 0
  | n + 2 => if cnt ev a (bestN ev a (n + 1)) < cnt ev a ((n + 1 : Nat) : Int) then ((n + 1 : Nat) : Int) else bestN ev a (n + 1)
theorem bestN_lt (ev : List (Int × Int)) (a : Int) : ∀ n, 0 < n → 0 ≤ bestN ev a n ∧ bestN ev a n < n
  | 0, h => by omega
  | 1, _ => by rw [bestN]; omega
  | n + 2, _ => by
    have ih := bestN_lt ev a (n + 1) (by omega)
    rw [bestN]
    split <;> omega
theorem bestN_max (ev : List (Int × Int)) (a : Int) : ∀ n (k : Nat), k < n → cnt ev a (k : Int) ≤ cnt ev a (bestN ev a n) ∧ (cnt ev a (k : Int) = cnt ev a (bestN ev a n) → bestN ev a n ≤ k)
  | 0, k, h => by omega
  | 1, k, h => by
    have : k = 0 := by omega
    subst this
    rw [bestN]
    exact ⟨Nat.le_refl _, fun _ => Int.le_refl _⟩
  | n + 2, k, h => by
    rw [bestN]
    by_cases hk : k < n + 1
    · have ih := bestN_max ev a (n + 1) k hk
      split
      · exact ⟨by omega, fun e => by omega⟩
      · exact ih
    · have hk : k = n + 1 := by omega
      subst hk
      have hb := bestN_lt ev a (n + 1) (by omega)
      split
      · exact ⟨Nat.le_refl _, fun _ => Int.le_refl _⟩
      · exact ⟨by omega, fun _ => by omega⟩
def sp_best_key (K : PySem.W.Frag) : Sp := fun vs H Q _ => ∃ (D : Addr) (ev : List (Int × Int)) (a : Int) (n : Nat), vs = [.ref D, .int a, .int (n : Int)] ∧ H D = some (.dT ((cntE ev).map ent)) ∧ 0 < n ∧ n ≤ 10 ∧ ∀ H', Same H H' → Q (.int (bestN ev a n)) H'
theorem ok_best_key {P : Program} {w : World} {K : PySem.W.Frag} {mg : Str → Option Value} {base : Heap} {f : Addr} {fd : FuncData} (F : Df K mg "best_key" s_best_key f fd ["pairs", "known", "many"]) (T : Txt mg) : FnOk P w K mg base CX0 1 f fd ["pairs", "known", "many"] (sp_best_key K) := by
  refine F.ok sc_best_key (fun vs H Q E h => ?_) (fun cdv A outer s H vs Q E hr h => ?_)
  · obtain ⟨D, ev, a, n, rfl, _⟩ := h
    rfl
  · obtain ⟨D, ev, a, n, rfl, hD, n0, n1, q⟩ := h
    have hu := hu_of hr
    refine ⟨_, (pss_cons (ps_set (i := 3) sc_best_key.nd rfl (Or.inl rfl) pe_int)
      (pss_cons (ps_for PassesOwn.never rfl (pi_range2 rfl T.b_range (pa_cons pe_int (pa_cons (pv 2) pa_nil))) (pg_name (i := 4) sc_best_key.nd rfl (Or.inl rfl)) (pss_one (ps_if (pt_cmpR op_gt (pe_dget2 hu (pv 0) (pe_tup (pa_cons (pv 1) (pa_cons (pv 4) pa_nil))) pe_int ⟨rfl, rfl, rfl, rfl⟩) (pe_dget2 hu (pv 0) (pe_tup (pa_cons (pv 1) (pa_cons (pv 3) pa_nil))) pe_int ⟨rfl, rfl, rfl, rfl⟩) (nomark _)) (pss_one (ps_set (i := 3) sc_best_key.nd rfl (Or.inl rfl) (pv 4))) pss_nil)))
      (pss_one (ps_ret (pv 3))))), ?_⟩
    try dsimp only [cxOf, Cx.nox, Cx.wish]
    refine st_of (σ' := [some _, some _, some _, none, none]) rfl ?_
    wtm_at "jw"
    refine f_range (fun i σ H' => Same H H' ∧ ∃ v1, σ = [some (.ref D), some (.int a), some (.int (n : Int)), some (.int (bestN ev a (i + 1))), v1]) ⟨Same.refl _, none, rfl⟩ (fun i σ H' hi h => ?_) (fun σ H' h => ?_)
    · obtain ⟨s1, v1, rfl⟩ := h
      have hD1 := s1 _ _ hD
      wtm_at "jw"
      refine i_dget2 ?_
      wtm_at "jw"
      refine i_isDT hD1 ?_
      wtm_at "jw"
      intro u hu
      have hD2 := same_new (o := .tup [V.int a, V.int (1 + (i : Int))]) hu _ _ hD1
      wtm_at "jw"
      refine i_ogetT (k := [.inl a, .inl (1 + (i : Int))]) (.inl hD2) upd_same ?_
      rw [lk_get (a, 1 + (i : Int)), cntE_lk]
      wtm_at "jw"
      refine i_dget2 ?_
      wtm_at "jw"
      refine i_isDT hD2 ?_
      wtm_at "jw"
      intro t ht
      have hD3 := same_new (o := .tup [V.int a, V.int (bestN ev a (i + 1))]) ht _ _ hD2
      wtm_at "jw"
      refine i_ogetT (k := [.inl a, .inl (bestN ev a (i + 1))]) (.inl hD3) upd_same ?_
      rw [lk_get (a, bestN ev a (i + 1)), cntE_lk]
      have s3 := (s1.trans (same_new (o := .tup [V.int a, V.int (1 + (i : Int))]) hu)).trans (same_new (o := .tup [V.int a, V.int (bestN ev a (i + 1))]) ht)
      have e1 : (1 : Int) + (i : Int) = ((i + 1 : Nat) : Int) := by omega
      wtm_at "jw"
      refine c_dec (fun h => ?_) (fun h => ?_)
      · wtm_at "jw"
        refine ⟨s3, some (.int (1 + (i : Int))), ?_⟩
        rw [bestN, if_pos (by unfold cnt; rw [← e1]; omega), e1]
      · wtm_at "jw"
        refine ⟨s3, some (.int (1 + (i : Int))), ?_⟩
        rw [bestN, if_neg (by unfold cnt; rw [← e1]; omega)]
    · obtain ⟨s1, v1, rfl⟩ := h
      rw [show ((n : Int) - 1).toNat + 1 = n by omega]
      wtm_at "jw"
      exact q _ s1
def bestT (ev : List (Int × Int)) (n : Nat) : List Int := (List.range n).map fun (a : Nat) => bestN ev (a : Int) n
theorem bestT_len (ev : List (Int × Int)) (n : Nat) : (bestT ev n).length = n := by unfold bestT; rw [List.length_map, List.length_range]
def sp_best_table (K : PySem.W.Frag) : Sp := fun vs H Q _ => ∃ (a : Addr) (rw : List (List Int)) (n late : Nat), vs = [.ref a, .int (n : Int), .int (late : Int)] ∧ Rws H a rw ∧ (∀ w ∈ rw, w.length ≤ 24) ∧ rw.length ≤ 10 ∧ 0 < n ∧ n ≤ 10 ∧
  ∀ (r : Addr) (H' : Hp), Same H H' → H' r = some (.tup ((bestT (evs late rw) n).map V.int)) → Q (.ref r) H'
theorem ok_best_table {P : Program} {w : World} {K : PySem.W.Frag} {mg : Str → Option Value} {base : Heap} {f : Addr} {fd : FuncData} (F : Df K mg "best_table" s_best_table f fd ["rows", "many", "late"]) (T : Txt mg)
    (c_counted_pairs : Cl P w K mg base 1 "counted_pairs" (sp_counted_pairs K))
    (c_best_key : Cl P w K mg base 1 "best_key" (sp_best_key K)) : FnOk P w K mg base CX0 2 f fd ["rows", "many", "late"] (sp_best_table K) := by
  refine F.ok sc_best_table (fun vs H Q E h => ?_) (fun cdv A outer s H vs Q E hr h => ?_)
  · obtain ⟨a, rw, n, late, rfl, _⟩ := h
    rfl
  · obtain ⟨a, rw, n, late, rfl, ha, hw, hl, n0, n1, q⟩ := h
    refine ⟨_, (pss_cons (ps_set (i := 3) sc_best_table.nd rfl (Or.inr rfl) (pe_cl c_counted_pairs hr (by decide) rfl (pa_cons (pv 0) (pa_cons (pv 2) pa_nil))))
      (pss_one (ps_ret (pe_callTy (T := "tuple") (r := rTupOf K) c_tup (by rfl) T.b_tuple (by decide +kernel) (pa_cons (pe_lc (own := [("known", 4)]) (g := gName 4) (tt := tYes) rfl sc_best_table.nd (pi_range1 rfl T.b_range (pa_cons (pv 1) pa_nil)) (blkOk_by (own := [("known", 4)]) (N := N_best_table) (sc := defScope s_best_table) (by decide +kernel)) (fun _ _ _ _ _ => (pg_name (i := 4) sc_best_table.nd rfl (Or.inl rfl))) (fun _ _ _ _ _ => pts_nil) (fun _ _ _ _ _ => (pe_cl c_best_key hr (by decide) rfl (pa_cons (pv 3) (pa_cons (pv 4) (pa_cons (pv 1) pa_nil)))))) pa_nil))))), ?_⟩
    try dsimp only [cxOf, Cx.nox, Cx.wish]
    refine st_of (σ' := [some _, some _, some _, none, none]) rfl ?_
    wtm_at "jw"
    refine ⟨a, rw, late, rfl, ha, hw, hl, fun D H1 s1 nD hD => ?_⟩
    wtm_at "jw"
    intro E hE
    refine l_range (fun i H' => Same H1 H' ∧ H' E = some (.lst (((List.range i).map fun (a : Nat) => bestN (evs late rw) (a : Int) n).map V.int))) ⟨same_new hE, upd_same⟩ (fun i H' hi h => ?_) (fun H' h => ?_)
    · obtain ⟨s2, hE2⟩ := h
      wtm_at "jw"
      refine ⟨rfl, ?_⟩
      wtm_at "jw"
      refine ⟨D, evs late rw, _, n, rfl, s2 _ _ hD, n0, n1, fun H3 s3 => ?_⟩
      refine ⟨_, s3 _ _ hE2, small1000 (by rw [List.length_map, List.length_map, List.length_range]; omega), put_same (s2.trans s3) hE, ?_⟩
      rw [upd_same, List.range_succ, List.map_append, List.map_append, Int.zero_add]
      rfl
    · obtain ⟨s2, hE2⟩ := h
      rw [Int.toNat_natCast] at hE2
      wtm_at "jw"
      intro r hr'
      exact q r _ ((s1.trans s2).trans (same_new hr')) upd_same
/-! ### the guesses -/
def lastO (m : Int → Option Int) : Nat → Option Int
  | 0 => none
  | t + 1 => if (m (t : Int)).isSome = true then some (t : Int) else lastO m t
def ovi : Option Int → V
  | none => .non
  | some z => .int z
def sp_last_known (K : PySem.W.Frag) : Sp := fun vs H Q _ => ∃ (k : Addr) (kvs : List (L2.Key × V)) (m : Int → Option Int) (t : Nat), vs = [.ref k, .int (t : Int)] ∧ H k = some (.dK kvs) ∧ (∀ i : Int, valV kvs (.inl i) = (m i).map V.int) ∧ t ≤ 1000 ∧ Q (ovi (lastO m t)) H
theorem ok_last_known {P : Program} {w : World} {K : PySem.W.Frag} {mg : Str → Option Value} {base : Heap} {f : Addr} {fd : FuncData} (F : Df K mg "last_known" s_last_known f fd ["known", "tick"]) (T : Txt mg) : FnOk P w K mg base CX0 1 f fd ["known", "tick"] (sp_last_known K) := by
  refine F.ok sc_last_known (fun vs H Q E h => ?_) (fun cdv A outer s H vs Q E hr h => ?_)
  · obtain ⟨k, kvs, m, t, rfl, _⟩ := h
    rfl
  · obtain ⟨k, kvs, m, t, rfl, hk, hm, ht, q⟩ := h
    have hu := hu_of hr
    refine ⟨_, (pss_cons (ps_for PassesOwn.never rfl (pi_range3 rfl T.b_range (pa_cons (pe_op op_sub (pv 1) pe_int) (pa_cons (pe_un un_neg pe_int) (pa_cons (pe_un un_neg pe_int) pa_nil)))) (pg_name (i := 2) sc_last_known.nd rfl (Or.inl rfl)) (pss_one (ps_if (pt_cmp (pc_din hu (pv 2) (pv 0))) (pss_one (ps_ret (pv 2))) pss_nil)))
      (pss_one (ps_ret pe_non))), ?_⟩
    try dsimp only [cxOf, Cx.nox, Cx.wish]
    refine st_of (σ' := [some _, some _, none]) rfl ?_
    wtm_at "jw"
    refine i_rng3 ?_
    wtm_at "jw"
    refine ⟨_, _, _, _, rfl, RgC.neg (by omega) (by omega) (by decide) (by decide), ?_⟩
    rw [show ((t : Int) - 1 - -1).toNat = t by omega]
    refine f_rangeC (fun i σ H' => H' = H ∧ lastO m t = lastO m (t - i) ∧ ∃ v1, σ = [some (.ref k), some (.int (t : Int)), v1]) ⟨rfl, rfl, none, rfl⟩ (fun i σ H' hi h => ?_) (fun σ H' h => ?_)
    · obtain ⟨rfl, hl, v1, rfl⟩ := h
      have e1 : (t : Int) - 1 + (i : Int) * -1 = ((t - 1 - i : Nat) : Int) := by omega
      have e2 : t - i = (t - 1 - i) + 1 := by omega
      rw [e2, lastO] at hl
      rw [e1]
      wtm_at "jw"
      refine i_din ?_
      wtm_at "jw"
      refine i_dinI (.inl hk) ?_
      rw [hm, Option.isSome_map]
      wtm_at "jw"
      refine c_bool (fun h => ?_) (fun h => ?_)
      · wtm_at "jw"
        rw [hl, if_pos h] at q
        exact q
      · wtm_at "jw"
        refine ⟨rfl, ?_, _, rfl⟩
        rw [hl, if_neg (by rw [h]; exact Bool.false_ne_true), show t - (i + 1) = t - 1 - i by omega]
    · obtain ⟨rfl, hl, v1, rfl⟩ := h
      rw [Nat.sub_self, lastO] at hl
      rw [hl] at q
      wtm_at "jw"
      exact q
/-- the guess of the table ts, from what is known -/
def gs (ts : List Int) (m : Int → Option Int) (t : Nat) : Int := match lastO m t with
  | none => ts[0]?.getD 0
  | some l => ts[((m l).getD 0 % (ts.length : Int)).toNat]?.getD 0
theorem lastO_some {m : Int → Option Int} {l : Int} : ∀ {t : Nat}, lastO m t = some l → ∃ z, m l = some z
  | 0, h => by cases h
  | t + 1, h => by
    rw [lastO] at h
    by_cases hh : (m (t : Int)).isSome = true
    · rw [if_pos hh] at h
      cases h
      exact Option.isSome_iff_exists.mp hh
    · rw [if_neg hh] at h
      exact lastO_some h
theorem int_atG {ns : List Int} {j : Int} (h0 : 0 ≤ j) (h : j < ns.length) : atI (ns.map V.int) j = some (.int (ns[j.toNat]?.getD 0)) := by
  obtain ⟨v, e, _, e2⟩ := at_lt (xs := ns.map V.int) h0 (by rw [List.length_map]; exact h)
  rw [e]
  rw [List.getElem?_map, List.getElem?_eq_getElem (by omega)] at e2
  rw [List.getElem?_eq_getElem (by omega)]
  exact e2.symm
def sp_guess_of (K : PySem.W.Frag) : Sp := fun vs H Q _ => ∃ (a k : Addr) (ts : List Int) (kvs : List (L2.Key × V)) (m : Int → Option Int) (t : Nat), vs = [.ref a, .ref k, .int (t : Int)] ∧ SqT K H a (ts.map V.int) ∧ 0 < ts.length ∧ H k = some (.dK kvs) ∧ (∀ i : Int, valV kvs (.inl i) = (m i).map V.int) ∧ t ≤ 1000 ∧ Q (.int (gs ts m t)) H
theorem ok_guess_of {P : Program} {w : World} {K : PySem.W.Frag} {mg : Str → Option Value} {base : Heap} {f : Addr} {fd : FuncData} (F : Df K mg "guess_of" s_guess_of f fd ["table", "known", "tick"]) (T : Txt mg)
    (c_last_known : Cl P w K mg base 1 "last_known" (sp_last_known K)) : FnOk P w K mg base CX0 2 f fd ["table", "known", "tick"] (sp_guess_of K) := by
  refine F.ok sc_guess_of (fun vs H Q E h => ?_) (fun cdv A outer s H vs Q E hr h => ?_)
  · obtain ⟨a, k, ts, kvs, m, t, rfl, _⟩ := h
    rfl
  · obtain ⟨a, k, ts, kvs, m, t, rfl, ha, h0, hk, hm, ht, q⟩ := h
    unfold gs at q
    have hu := hu_of hr
    refine ⟨_, (pss_cons (ps_set (i := 3) sc_guess_of.nd rfl (Or.inl rfl) (pe_cl c_last_known hr (by decide) rfl (pa_cons (pv 1) (pa_cons (pv 2) pa_nil))))
      (pss_cons (ps_if (pt_cmpR o_isN (pv 3) pe_non (nomark _)) (pss_one (ps_ret (pe_ix (r := rIxT K) ix_tup (pv 0) pe_int (fun _ _ => rfl)))) pss_nil)
      (pss_one (ps_ret (pe_ix (r := rIxT K) ix_tup (pv 0) (pe_op op_mod (pe_dget hu (pv 1) (pv 3) (fun _ _ => rfl)) (pe_callB (id := "len") (r := qLen K) c_len (by rfl) T.b_len (by decide +kernel) (pa_cons (pv 0) pa_nil))) (fun _ _ => rfl)))))), ?_⟩
    try dsimp only [cxOf, Cx.nox, Cx.wish]
    refine st_of (σ' := [some _, some _, some _, none]) rfl ?_
    wtm_at "jw"
    refine ⟨k, kvs, m, t, rfl, hk, hm, ht, ?_⟩
    cases e : lastO m t with
    | none =>
      rw [e] at q
      have a0 := int_atG (ns := ts) (j := 0) (by omega) (by omega)
      wtm_at "jw"
      refine c_yes rfl ?_
      wtm_at "jw"
      exact q
    | some l =>
      rw [e] at q
      dsimp only at q
      obtain ⟨z, hz⟩ := lastO_some e
      have hv : valV kvs (.inl l) = some (.int z) := by rw [hm, hz]; rfl
      rw [hz] at q
      have b0 := Int.emod_nonneg z (b := (ts.length : Int)) (by omega)
      have b1 := Int.emod_lt_of_pos z (b := (ts.length : Int)) (by omega)
      have a0 := int_atG (ns := ts) b0 b1
      wtm_at "jw"
      refine c_no (fun h => by cases h) ?_
      wtm_at "jw"
      refine i_dget ?_
      wtm_at "jw"
      refine i_dgetI (.inl hk) hv ?_
      wtm_at "jw"
      rw [List.length_map]
      wtm_at "jw"
      exact q

def sp__law_known_key (K : PySem.W.Frag) : Sp := fun vs H Q _ => ∃ (a : Addr) (w : List Int) (t late : Nat), vs = [.ref a, .int (t : Int), .int (late : Int)] ∧ (SqL K H a (w.map V.int) ∨ SqT K H a (w.map V.int)) ∧ (late ≤ t → t - late < w.length) ∧ Q (.int (kn w late t)) H
theorem ok__law_known_key {P : Program} {w : World} {K : PySem.W.Frag} {mg : Str → Option Value} {base : Heap} {f : Addr} {fd : FuncData} (F : Df K mg "_law_known_key" s__law_known_key f fd ["row", "tick", "late"]) (T : Txt mg) : FnOk P w K mg base CX0 1 f fd ["row", "tick", "late"] (sp__law_known_key K) := by
  refine F.ok sc__law_known_key (fun vs H Q E h => ?_) (fun cdv A outer s H vs Q E hr h => ?_)
  · obtain ⟨a, w, t, late, rfl, _⟩ := h
    rfl
  · obtain ⟨a, w, t, late, rfl, ha, hlt, q⟩ := h
    unfold kn at q
    refine ⟨_, (pss_cons (ps_if (pt_cmpR op_ge (pv 1) (pv 2) (nomark _)) (pss_one (ps_ret (pe_ix (r := rIx K) ix_seq (pv 0) (pe_op op_sub (pv 1) (pv 2)) (fun _ _ => rfl)))) pss_nil)
      (pss_one (ps_ret pe_int))), ?_⟩
    try dsimp only [cxOf, Cx.nox, Cx.wish]
    refine st_of (σ' := [some _, some _, some _]) rfl ?_
    wtm_at "jw"
    refine c_dec (fun h => ?_) (fun h => ?_)
    · have a1 := int_at (ns := w) (j := (t : Int) - (late : Int)) (i := t - late) (by omega) (hlt (by omega))
      rw [if_pos (by omega)] at q
      rcases ha with ha | ha
      · wtm_at "jw"
        exact q
      · wtm_at "jw"
        exact q
    · rw [if_neg (by omega)] at q
      wtm_at "jw"
      exact q
def sp__law_wrong (K : PySem.W.Frag) : Sp := fun vs H Q _ => ∃ (a b : Addr) (ts : List Int) (rw : List (List Int)) (late : Nat), vs = [.ref a, .ref b, .int (late : Int)] ∧ SqT K H a (ts.map V.int) ∧ Rws H b rw ∧ 0 < late ∧ (∀ w ∈ rw, w.length ≤ 24) ∧ Keys ts.length (evs late rw) ∧ Q (.int ((evs late rw).countP (wrg ts) : Nat)) H
theorem evs_in {late : Nat} {rw : List (List Int)} {i t : Nat} {w : List Int} (hi : rw[i]? = some w) (ht : t < w.length) : (kn w late t, w[t]?.getD 0) ∈ evs late rw := by
  unfold evs
  refine List.mem_flatten.mpr ⟨evN w late w.length, List.mem_map.mpr ⟨w, List.mem_of_getElem? hi, rfl⟩, ?_⟩
  suffices h : ∀ n, t < n → (kn w late t, w[t]?.getD 0) ∈ evN w late n from h _ ht
  intro n
  induction n with
  | zero => intro h; omega
  | succ n ih =>
    intro h
    rw [evN, List.mem_append]
    by_cases h2 : t < n
    · exact .inl (ih h2)
    · have : t = n := by omega
      subst this
      exact .inr List.mem_cons_self
theorem ok__law_wrong {P : Program} {w : World} {K : PySem.W.Frag} {mg : Str → Option Value} {base : Heap} {f : Addr} {fd : FuncData} (F : Df K mg "_law_wrong" s__law_wrong f fd ["table", "rows", "late"]) (T : Txt mg)
    (c__law_known_key : Cl P w K mg base 1 "_law_known_key" (sp__law_known_key K)) : FnOk P w K mg base CX0 2 f fd ["table", "rows", "late"] (sp__law_wrong K) := by
  refine F.ok sc__law_wrong (fun vs H Q E h => ?_) (fun cdv A outer s H vs Q E hr h => ?_)
  · obtain ⟨a, b, ts, rw, late, rfl, _⟩ := h
    rfl
  · obtain ⟨a, b, ts, rw, late, rfl, ha, ⟨rs, hb, wl⟩, hl0, hw, hk, q⟩ := h
    refine ⟨_, (pss_cons (ps_set (i := 3) sc__law_wrong.nd rfl (Or.inl rfl) pe_int)
      (pss_cons (ps_for PassesOwn.never rfl (pi_tup (pv 1)) (pg_name (i := 4) sc__law_wrong.nd rfl (Or.inl rfl)) (pss_one (ps_for PassesOwn.never rfl (pi_range1 rfl T.b_range (pa_cons (pe_callB (id := "len") (r := qLen K) c_len (by rfl) T.b_len (by decide +kernel) (pa_cons (pv 4) pa_nil)) pa_nil)) (pg_name (i := 5) sc__law_wrong.nd rfl (Or.inl rfl)) (pss_one (ps_if (pt_cmpR op_ne (pe_ix (r := rIxT K) ix_tup (pv 0) (pe_cl c__law_known_key hr (by decide) rfl (pa_cons (pv 4) (pa_cons (pv 5) (pa_cons (pv 2) pa_nil)))) (fun _ _ => rfl)) (pe_ix (r := rIxT K) ix_tup (pv 4) (pv 5) (fun _ _ => rfl)) (nomark _)) (pss_one (ps_aug (i := 3) sc__law_wrong.nd rfl (Or.inl rfl) pe_int iop_add)) pss_nil)))))
      (pss_one (ps_ret (pv 3))))), ?_⟩
    try dsimp only [cxOf, Cx.nox, Cx.wish]
    refine st_of (σ' := [some _, some _, some _, none, none, none]) rfl ?_
    wtm_at "jw"
    refine f_tup (xs := rs.map V.ref) (fun i σ H' => H' = H ∧ ∃ v1 v2, σ = [some (.ref a), some (.ref b), some (.int (late : Int)), some (.int ((evs late (rw.take i)).countP (wrg ts) : Nat)), v1, v2]) ⟨rfl, none, none, rfl⟩ (fun i σ H' _ h => SqT.of (by rw [h.1]; exact hb)) (fun i x σ H' hi h => ?_) (fun σ H' h => ?_)
    · obtain ⟨rfl, v1, v2, rfl⟩ := h
      obtain ⟨r, w, rfl, e1, e2, hr1, e3, hlt⟩ := wl.at hi
      have hwl := hw w (List.mem_of_getElem? e2)
      wtm_at "jw"
      refine f_range (fun t σ H2 => H2 = H' ∧ ∃ v2, σ = [some (.ref a), some (.ref b), some (.int (late : Int)), some (.int ((evs late (rw.take i) ++ evN w late t).countP (wrg ts) : Nat)), some (.ref r), v2]) ⟨rfl, _, by rw [evN, List.append_nil]⟩ (fun t σ H2 ht h => ?_) (fun σ H2 h => ?_)
      · obtain ⟨rfl, v2, rfl⟩ := h
        rw [List.length_map] at ht
        have ht' : t < w.length := by omega
        have a1 := int_at (ns := w) (j := 0 + (t : Int)) (i := t) (by omega) ht'
        obtain ⟨k0, k1⟩ := hk _ (evs_in (late := late) e2 ht')
        have a2 := int_at (ns := ts) (j := kn w late t) (i := (kn w late t).toNat) (by simp only at k0; omega) (by simp only at k0 k1; omega)
        wtm_at "jw"
        rw [Int.zero_add]
        refine ⟨r, w, t, late, rfl, .inr (SqT.of hr1), fun h => by omega, ?_⟩
        rw [Int.zero_add] at a1
        have e4 : ∀ b, wrg ts (kn w late t, w[t]?.getD 0) = b → ((evs late (rw.take i) ++ evN w late (t + 1)).countP (wrg ts)) = (evs late (rw.take i) ++ evN w late t).countP (wrg ts) + (if b = true then 1 else 0) := fun b hb => by
          rw [evN, ← List.append_assoc, List.countP_append, List.countP_cons, List.countP_nil, hb]
          simp
        wtm_at "jw"
        refine c_decN (fun hne => ?_) (fun he => ?_)
        · wtm_at "jw"
          refine ⟨rfl, some (.int (t : Int)), ?_⟩
          rw [e4 true (by unfold wrg; rw [decide_eq_false hne]; rfl)]
          rfl
        · wtm_at "jw"
          refine ⟨rfl, some (.int (t : Int)), ?_⟩
          rw [e4 false (by unfold wrg; rw [decide_eq_true he]; rfl)]
          rfl
      · obtain ⟨rfl, v2, rfl⟩ := h
        rw [List.length_map, show ((w.length : Int)).toNat = w.length by omega]
        refine ⟨rfl, some (.ref r), v2, ?_⟩
        rw [e3, evs_snoc]
    · obtain ⟨rfl, v1, v2, rfl⟩ := h
      rw [List.length_map, wl.1, List.take_length]
      wtm_at "jw"
      exact q
/-! ### all tables -/
def tbls (n : Nat) : Nat → List (List Int)
  | 0 => [[]]
  | e + 1 => (tbls n e).flatMap fun r => (List.range n).map fun (k : Nat) => r ++ [(k : Int)]
theorem tbls_len (n : Nat) : ∀ e, (tbls n e).length = n ^ e
  | 0 => rfl
  | e + 1 => by
    rw [tbls, List.length_flatMap, Nat.pow_succ]
    have : (List.map (fun r => ((List.range n).map fun (k : Nat) => r ++ [(k : Int)]).length) (tbls n e)) = (tbls n e).map fun _ => n := by
      refine List.map_congr_left fun r _ => ?_
      rw [List.length_map, List.length_range]
    rw [this, List.map_const', List.sum_replicate_nat, tbls_len n e]
theorem tbls_mem {n : Nat} : ∀ {e : Nat} {t : List Int}, t ∈ tbls n e ↔ t.length = e ∧ ∀ x ∈ t, 0 ≤ x ∧ x < n
  | 0, t => by
    rw [tbls, List.mem_singleton]
    constructor
    · rintro rfl
      exact ⟨rfl, fun x hx => (nomatch hx)⟩
    · rintro ⟨h, _⟩
      exact List.eq_nil_of_length_eq_zero h
  | e + 1, t => by
    rw [tbls, List.mem_flatMap]
    constructor
    · rintro ⟨r, hr, ht⟩
      obtain ⟨k, hk, rfl⟩ := List.mem_map.mp ht
      obtain ⟨h1, h2⟩ := tbls_mem.mp hr
      have hk' := List.mem_range.mp hk
      refine ⟨by rw [List.length_append, h1]; rfl, fun x hx => ?_⟩
      rcases List.mem_append.mp hx with hx | hx
      · exact h2 x hx
      · rcases List.mem_cons.mp hx with rfl | hx
        · omega
        · cases hx
    · rintro ⟨h1, h2⟩
      have hne : t ≠ [] := fun z => by rw [z] at h1; cases h1
      have hl := h2 _ (List.getLast_mem hne)
      refine ⟨t.dropLast, tbls_mem.mpr ⟨by rw [List.length_dropLast, h1]; rfl, fun x hx => h2 x ((List.dropLast_sublist t).subset hx)⟩, List.mem_map.mpr ⟨(t.getLast hne).toNat, List.mem_range.mpr (by omega), ?_⟩⟩
      rw [show (((t.getLast hne).toNat : Nat) : Int) = t.getLast hne by omega]
      exact List.dropLast_concat_getLast hne
/-- each entry of a is at most that of b -/
def ptw (a b : List Int) : Prop := ∀ (i : Nat) x y, a[i]? = some x → b[i]? = some y → x ≤ y
theorem tbls_order (n : Nat) : ∀ e, (tbls n e).Pairwise fun x y => ¬ ptw y x
  | 0 => by rw [tbls]; exact List.pairwise_singleton _ _
  | e + 1 => by
    rw [tbls, List.pairwise_flatMap]
    refine ⟨fun r _ => ?_, ?_⟩
    · rw [List.pairwise_map]
      refine List.Pairwise.imp ?_ List.pairwise_lt_range
      intro k k' hk h
      have := h r.length (k' : Int) (k : Int) (by simp) (by simp)
      omega
    · have ih := tbls_order n e
      have hm : ∀ r ∈ tbls n e, r.length = e := fun r hr => (tbls_mem.mp hr).1
      refine List.Pairwise.imp_of_mem ?_ ih
      intro r r' hr hr' h x hx y hy hp
      obtain ⟨k, _, rfl⟩ := List.mem_map.mp hx
      obtain ⟨k', _, rfl⟩ := List.mem_map.mp hy
      refine h fun i a b ha hb => ?_
      have hi := (List.getElem?_eq_some_iff.mp ha).1
      have hi2 := (List.getElem?_eq_some_iff.mp hb).1
      exact hp i a b (by rw [List.getElem?_append_left hi]; exact ha) (by rw [List.getElem?_append_left hi2]; exact hb)
theorem i_catT {K : PySem.W.Frag} {H : Hp} {Q : VK} {p b : Addr} {xs ys : List V} (h1 : H p = some (.tup xs)) (h2 : H b = some (.tup ys)) (hl : xs.length + ys.length ≤ 10000) (q : ∀ (r : Addr) (H' : Hp), Same H H' → H' r = some (.tup (xs ++ ys)) → Q (.ref r) H') : rCatA K (.ref p) (.ref b) H Q := by
  refine ⟨p, b, xs, ys, rfl, rfl, SqT.of h1, SqT.of h2, by rw [sizeLine_eq]; omega, fun e => ?_, fun _ e => ?_, fun _ _ r hr => ?_⟩
  · subst e; exact q b H (Same.refl _) h2
  · subst e; exact q p H (Same.refl _) (by rw [List.append_nil]; exact h1)
  · exact q r _ (same_new hr) upd_same
theorem Rwl.nil {H : Hp} : Rwl H [] [] := ⟨rfl, fun i r w h => by simp at h⟩
theorem Rwl.snoc {H : Hp} {rs : List Addr} {rw : List (List Int)} {r : Addr} {w : List Int} (h : Rwl H rs rw) (hr : H r = some (.tup (w.map V.int))) : Rwl H (rs ++ [r]) (rw ++ [w]) := by
  have hl := h.1
  refine ⟨by rw [List.length_append, List.length_append, hl]; rfl, fun i s x a b => ?_⟩
  by_cases hi : i < rs.length
  · rw [List.getElem?_append_left hi] at a
    rw [List.getElem?_append_left (by omega)] at b
    exact h.2 i s x a b
  · rw [List.getElem?_append_right (by omega)] at a
    rw [List.getElem?_append_right (by omega), ← hl] at b
    cases e : i - rs.length with
    | zero =>
      rw [e] at a b
      cases a
      cases b
      exact hr
    | succ n => rw [e] at a; cases a
def flat (n : Nat) (l : List (List Int)) : List (List Int) := l.flatMap fun r => (List.range n).map fun (k : Nat) => r ++ [(k : Int)]
theorem flat_snoc (n : Nat) (l : List (List Int)) (r : List Int) : flat n (l ++ [r]) = flat n l ++ (List.range n).map fun (k : Nat) => r ++ [(k : Int)] := by
  unfold flat
  rw [List.flatMap_append]
  simp
theorem flat_len (n : Nat) : ∀ l : List (List Int), (flat n l).length = l.length * n
  | [] => by simp [flat]
  | r :: l => by
    have ih := flat_len n l
    unfold flat at ih ⊢
    rw [List.flatMap_cons, List.length_append, ih, List.length_map, List.length_range, List.length_cons, Nat.succ_mul]
    omega
theorem pow_small {n i : Nat} (hn : n ≤ 4) (hi : i ≤ 4) : n ^ i ≤ 256 :=
  Nat.le_trans (Nat.pow_le_pow_left hn i) (Nat.le_trans (Nat.pow_le_pow_right (by decide) hi) (by decide))
def sp__law_tables (K : PySem.W.Frag) : Sp := fun vs H Q _ => ∃ (n : Nat), vs = [.int (n : Int)] ∧ n ≤ 4 ∧ ∀ (R : Addr) (rs : List Addr) (H' : Hp), Same H H' → H' R = some (.lst (rs.map V.ref)) → Rwl H' rs (tbls n n) → Q (.ref R) H'
theorem ok__law_tables {P : Program} {w : World} {K : PySem.W.Frag} {mg : Str → Option Value} {base : Heap} {f : Addr} {fd : FuncData} (F : Df K mg "_law_tables" s__law_tables f fd ["many"]) (T : Txt mg) : FnOk P w K mg base CX0 1 f fd ["many"] (sp__law_tables K) := by
  refine F.ok sc__law_tables (fun vs H Q E h => ?_) (fun cdv A outer s H vs Q E hr h => ?_)
  · obtain ⟨n, rfl, _⟩ := h
    rfl
  · obtain ⟨n, rfl, n4, q⟩ := h
    refine ⟨_, (pss_cons (ps_set (i := 1) sc__law_tables.nd rfl (Or.inl rfl) (pe_lst (pa_cons (pe_tup pa_nil) pa_nil)))
      (pss_cons (ps_for PassesOwn.never rfl (pi_range1 rfl T.b_range (pa_cons (pv 0) pa_nil)) (pg_name (i := 2) sc__law_tables.nd rfl (Or.inl rfl)) (pss_cons (ps_set (i := 3) sc__law_tables.nd rfl (Or.inl rfl) (pe_lst pa_nil))
      (pss_cons (ps_for PassesOwn.never rfl (pi_list (pv 1)) (pg_name (i := 4) sc__law_tables.nd rfl (Or.inl rfl)) (pss_one (ps_for PassesOwn.never rfl (pi_range1 rfl T.b_range (pa_cons (pv 0) pa_nil)) (pg_name (i := 5) sc__law_tables.nd rfl (Or.inl rfl)) (pss_one (ps_expr (pe_bmK (K := K) rfl PySem.F.plainAttrs_list PySem.F.slot_list_append PySem.F.type_list_append mt_append (pv 3) (pa_cons (pe_op (r := rCatA K) op_catA (pv 4) (pe_tup (pa_cons (pv 5) pa_nil))) pa_nil)))))))
      (pss_one (ps_set (i := 1) sc__law_tables.nd rfl (Or.inl rfl) (pv 3))))))
      (pss_one (ps_ret (pv 1))))), ?_⟩
    try dsimp only [cxOf, Cx.nox, Cx.wish]
    refine st_of (σ' := [some _, none, none, none, none, none]) rfl ?_
    wtm_at "jw"
    intro e0 he0
    wtm_at "jw"
    intro R0 hR0
    have s0 := (same_new (o := .tup []) he0).trans (same_new (o := .lst [V.ref e0]) hR0)
    have h1 := same_new (o := .lst [V.ref e0]) hR0 _ _ (upd_same (H := H) (a := e0) (o := .tup []))
    wtm_at "jw"
    refine f_range (fun i σ H' => Same H H' ∧ ∃ R rs v1 v2 v3 v4, σ = [some (.int (n : Int)), some (.ref R), v1, v2, v3, v4] ∧ H' R = some (.lst (rs.map V.ref)) ∧ Rwl H' rs (tbls n i))
      ⟨s0, R0, [e0], none, none, none, none, rfl, upd_same, by rw [tbls]; exact Rwl.nil.snoc h1⟩ (fun i σ H' hi h => ?_) (fun σ H' h => ?_)
    · obtain ⟨s1, R, rs, v1, v2, v3, v4, rfl, hR, wl⟩ := h
      have hps := pow_small (n := n) (i := i) n4 (by omega)
      have htl := tbls_len n i
      have hrl := wl.1
      wtm_at "jw"
      intro W hW
      have nRW : R ≠ W := ne_of_none hR hW
      have s2 := same_new (o := .lst []) hW
      have fW := s1.free hW
      wtm_at "jw"
      refine f_list (xs := rs.map V.ref) (fun j σ H2 => Same H' H2 ∧ ∃ ws v2 v3 v4, σ = [some (.int (n : Int)), some (.ref R), v2, some (.ref W), v3, v4] ∧ H2 W = some (.lst (ws.map V.ref)) ∧ Rwl H2 ws (flat n ((tbls n i).take j)))
        ⟨s2, [], _, _, _, rfl, upd_same, Rwl.nil⟩ (fun j σ H2 _ h => SqL.of (h.1 _ _ hR)) (fun j x σ H2 hj h => ?_) (fun σ H2 h => ?_)
      · obtain ⟨s3, ws, v2, v3, v4, rfl, hW2, wl2⟩ := h
        obtain ⟨r, w, rfl, e1, e2, hr1, e3, hlt⟩ := (wl.tps (Tps.of s3)).at hj
        have hwl : w.length = i := (tbls_mem.mp (List.mem_of_getElem? e2)).1
        wtm_at "jw"
        refine f_range (fun k σ H3 => Same H' H3 ∧ H3 r = some (.tup (w.map V.int)) ∧ ∃ ws v4, σ = [some (.int (n : Int)), some (.ref R), v2, some (.ref W), some (.ref r), v4] ∧ H3 W = some (.lst (ws.map V.ref)) ∧ Rwl H3 ws (flat n ((tbls n i).take j) ++ (List.range k).map fun (k : Nat) => w ++ [(k : Int)]))
          ⟨s3, hr1, ws, _, rfl, hW2, by rw [List.range_zero, List.map_nil, List.append_nil]; exact wl2⟩ (fun k σ H3 hk h => ?_) (fun σ H3 h => ?_)
        · obtain ⟨s4, hr4, ws, v4, rfl, hW3, wl3⟩ := h
          have hsz : ws.length ≤ 2000 := by
            have h5 := wl3.1
            rw [List.length_append, flat_len, List.length_map, List.length_range, List.length_take] at h5
            have h6 : min j (tbls n i).length * n ≤ 256 * 4 := Nat.mul_le_mul (by omega) n4
            omega
          wtm_at "jw"
          intro u hu
          refine i_catT (same_new hu _ _ hr4) upd_same (by rw [List.length_map, hwl]; simp; omega) fun t H4 s5 ht => ?_
          have s35 := (same_new (o := .tup [V.int (0 + (k : Int))]) hu).trans s5
          have hW4 := s35 _ _ hW3
          have hsm : (ws.map V.ref).length < sizeLine := by rw [sizeLine_eq, List.length_map]; omega
          have ht' : H4 t = some (.tup ((w ++ [(k : Int)]).map V.int)) := by rw [ht, List.map_append, Int.zero_add]; rfl
          have tW := tps_put (ys := ws.map V.ref ++ [V.ref t]) hW4
          wtm_at "jw"
          refine ⟨put_same (s4.trans s35) hW, (tW r).1 _ (s35 _ _ hr4), ws ++ [t], _, rfl, by rw [upd_same, List.map_append]; rfl, ?_⟩
          rw [List.range_succ, List.map_append, ← List.append_assoc]
          exact (wl3.tps ((Tps.of s35).trans tW)).snoc ((tW t).1 _ ht')
        · obtain ⟨s4, hr4, ws, v4, rfl, hW3, wl3⟩ := h
          rw [Int.toNat_natCast] at wl3
          refine ⟨s4, ws, _, _, _, rfl, hW3, ?_⟩
          rw [e3, flat_snoc]
          exact wl3
      · obtain ⟨s3, ws, v2, v3, v4, rfl, hW2, wl2⟩ := h
        rw [List.length_map, hrl, List.take_length] at wl2
        wtm_at "jw"
        refine ⟨s1.trans s3, W, ws, _, _, _, _, rfl, hW2, ?_⟩
        rw [tbls]
        exact wl2
    · obtain ⟨s1, R, rs, v1, v2, v3, v4, rfl, hR, wl⟩ := h
      rw [Int.toNat_natCast] at wl
      wtm_at "jw"
      exact q R rs _ s1 hR wl
/-- ints below n -/
def Below (n : Nat) (w : List Int) : Prop := ∀ x ∈ w, 0 ≤ x ∧ x < n
theorem Below.snoc {n : Nat} {w : List Int} {x : Int} (h : Below n w) (h0 : 0 ≤ x) (h1 : x < n) : Below n (w ++ [x]) := fun y hy => by
  rcases List.mem_append.mp hy with hy | hy
  · exact h y hy
  · rcases List.mem_cons.mp hy with rfl | hy
    · exact ⟨h0, h1⟩
    · cases hy
theorem Below.at {n : Nat} {w : List Int} {i : Nat} (h : Below n w) (hn : 0 < n) : 0 ≤ w[i]?.getD 0 ∧ w[i]?.getD 0 < n := by
  cases e : w[i]? with
  | none => show (0 : Int) ≤ 0 ∧ (0 : Int) < n; omega
  | some x => exact h x (List.mem_of_getElem? e)
theorem Below.kn {n : Nat} {w : List Int} {late t : Nat} (h : Below n w) (hn : 0 < n) : 0 ≤ kn w late t ∧ kn w late t < n := by
  unfold Law.kn
  split
  · exact h.at hn
  · omega
def sp__law_keys_row (K : PySem.W.Frag) : Sp := fun vs H Q _ => ∃ (p a rl : Addr) (size n : Nat) (by_ : Nat) (noise : Int) (rule : List Int), vs = [.ref p, .int (size : Int), .int (n : Int), .ref rl, .int (by_ : Int), .int noise] ∧ DrawAt H p a ∧ SqT K H rl (rule.map V.int) ∧ rule.length = n ∧ Below n rule ∧ 0 < n ∧ n ≤ 4 ∧ 0 < by_ ∧ 0 < noise ∧ noise < 1000 ∧ size ≤ 24 ∧
  ∀ (r : Addr) (w : List Int) (H' : Hp), Drew p a H H' → H' r = some (.tup (w.map V.int)) → Below n w → w.length ≤ 24 → Q (.ref r) H'
theorem ok__law_keys_row {P : Program} {w : World} {K : PySem.W.Frag} {mg : Str → Option Value} {base : Heap} {f : Addr} {fd : FuncData} (F : Df K mg "_law_keys_row" s__law_keys_row f fd ["d", "size", "many", "rule", "by", "noise"]) (T : Txt mg)
    (c__law_draw : Cl P w K mg base 1 "_law_draw" (sp__law_draw K))
    (c__law_known_key : Cl P w K mg base 1 "_law_known_key" (sp__law_known_key K)) : FnOk P w K mg base CX0 2 f fd ["d", "size", "many", "rule", "by", "noise"] (sp__law_keys_row K) := by
  refine F.ok sc__law_keys_row (fun vs H Q E h => ?_) (fun cdv A outer s H vs Q E hr h => ?_)
  · obtain ⟨p, a, rl, size, n, by_, noise, rule, rfl, _⟩ := h
    rfl
  · obtain ⟨p, a, rl, size, n, by_, noise, rule, rfl, hd, hrl, hrn, hrb, n0, n1, b0, z0, z1, sz, q⟩ := h
    refine ⟨_, (pss_cons (ps_set (i := 6) sc__law_keys_row.nd rfl (Or.inl rfl) (pe_lst pa_nil))
      (pss_cons (ps_for PassesOwn.never rfl (pi_range1 rfl T.b_range (pa_cons (pv 1) pa_nil)) (pg_name (i := 7) sc__law_keys_row.nd rfl (Or.inl rfl)) (pss_one (ps_if (pt_cmpR op_eq (pe_cl c__law_draw hr (by decide) rfl (pa_cons (pv 0) (pa_cons (pv 5) pa_nil))) pe_int (nomark _)) (pss_one (ps_expr (pe_bmK (K := K) rfl PySem.F.plainAttrs_list PySem.F.slot_list_append PySem.F.type_list_append mt_append (pv 6) (pa_cons (pe_cl c__law_draw hr (by decide) rfl (pa_cons (pv 0) (pa_cons (pv 2) pa_nil))) pa_nil)))) (pss_one (ps_expr (pe_bmK (K := K) rfl PySem.F.plainAttrs_list PySem.F.slot_list_append PySem.F.type_list_append mt_append (pv 6) (pa_cons (pe_ix (r := rIxT K) ix_tup (pv 3) (pe_cl c__law_known_key hr (by decide) rfl (pa_cons (pv 6) (pa_cons (pv 7) (pa_cons (pv 4) pa_nil)))) (fun _ _ => rfl)) pa_nil)))))))
      (pss_one (ps_ret (pe_callTy (T := "tuple") (r := rTupOf K) c_tup (by rfl) T.b_tuple (by decide +kernel) (pa_cons (pv 6) pa_nil)))))), ?_⟩
    try dsimp only [cxOf, Cx.nox, Cx.wish]
    refine st_of (σ' := [some _, some _, some _, some _, some _, some _, none, none]) rfl ?_
    wtm_at "jw"
    intro R hR
    have nR := hd.ne_none hR
    wtm_at "jw"
    refine f_range (fun i σ H' => Drew p a H H' ∧ ∃ v1 w, σ = [some (.ref p), some (.int (size : Int)), some (.int (n : Int)), some (.ref rl), some (.int (by_ : Int)), some (.int noise), some (.ref R), v1] ∧ H' R = some (.lst (w.map V.int)) ∧ w.length = i ∧ Below n w)
      ⟨hd.drew.new hR, none, [], rfl, upd_same, rfl, fun x hx => (nomatch hx)⟩ (fun i σ H' hi h => ?_) (fun σ H' h => ?_)
    · obtain ⟨d1, v1, w, rfl, hR1, hw, hb⟩ := h
      have hsm : (w.map V.int).length < sizeLine := small1000 (by rw [List.length_map]; omega)
      wtm_at "jw"
      refine ⟨p, a, _, rfl, d1.at_, by omega, by omega, fun y H2 y0 y1 d2 => ?_⟩
      have hR2 := d2.kp _ _ hR1 nR
      have d12 := d1.trans d2
      wtm_at "jw"
      refine c_dec (fun h => ?_) (fun h => ?_)
      · wtm_at "jw"
        refine ⟨p, a, _, rfl, d12.at_, by omega, by omega, fun x H3 x0 x1 d3 => ?_⟩
        have hR3 := d3.kp _ _ hR2 nR
        wtm_at "jw"
        refine ⟨(d12.trans d3).put hd hR, _, w ++ [x], rfl, by rw [upd_same, List.map_append]; rfl, by simp [hw], hb.snoc x0 x1⟩
      · have hk := hb.kn (late := by_) (t := i) n0
        have hrl2 := (d12.tps hd).sq hrl
        have a1 := int_atG (ns := rule) hk.1 (by rw [hrn]; exact hk.2)
        wtm_at "jw"
        rw [Int.zero_add]
        refine ⟨R, w, i, by_, rfl, .inl (SqL.of hR2), fun h => by omega, ?_⟩
        wtm_at "jw"
        have hx := hrb.at (i := (kn w by_ i).toNat) n0
        refine ⟨d12.put hd hR, _, w ++ [rule[(kn w by_ i).toNat]?.getD 0], rfl, by rw [upd_same, List.map_append]; rfl, by simp [hw], hb.snoc hx.1 hx.2⟩
    · obtain ⟨d1, v1, w, rfl, hR1, hw, hb⟩ := h
      wtm_at "jw"
      intro r hr'
      exact q r w _ (d1.new hr') upd_same hb (by omega)
def sp__law_record (K : PySem.W.Frag) : Sp := fun vs H Q _ => ∃ (p a : Addr) (seats n late : Nat), vs = [.ref p, .int (seats : Int), .int (n : Int), .int (late : Int)] ∧ DrawAt H p a ∧ 0 < n ∧ n ≤ 4 ∧ 0 < late ∧ late ≤ 24 ∧ 0 < seats ∧ seats ≤ 4 ∧
  ∀ (r : Addr) (rw : List (List Int)) (H' : Hp), Drew p a H H' → Rws H' r rw → rw.length = seats → (∀ w ∈ rw, w.length ≤ 24 ∧ Below n w) → Q (.ref r) H'
theorem ok__law_record {P : Program} {w : World} {K : PySem.W.Frag} {mg : Str → Option Value} {base : Heap} {f : Addr} {fd : FuncData} (F : Df K mg "_law_record" s__law_record f fd ["d", "seats", "many", "late"]) (T : Txt mg)
    (c__law_pick : Cl P w K mg base 2 "_law_pick" (sp__law_pick K))
    (c__law_draw : Cl P w K mg base 1 "_law_draw" (sp__law_draw K))
    (c__law_keys_row : Cl P w K mg base 2 "_law_keys_row" (sp__law_keys_row K)) : FnOk P w K mg base CX0 3 f fd ["d", "seats", "many", "late"] (sp__law_record K) := by
  refine F.ok sc__law_record (fun vs H Q E h => ?_) (fun cdv A outer s H vs Q E hr h => ?_)
  · obtain ⟨p, a, seats, n, late, rfl, _⟩ := h
    rfl
  · obtain ⟨p, a, seats, n, late, rfl, hd, n0, n1, l0, l1, s0, s1, q⟩ := h
    refine ⟨_, (pss_cons (ps_set (i := 4) sc__law_record.nd rfl (Or.inl rfl) (pe_callTy (T := "tuple") (r := rTupOf K) c_tup (by rfl) T.b_tuple (by decide +kernel) (pa_cons (pe_lc (own := [("key", 5)]) (g := gName 5) (tt := tYes) rfl sc__law_record.nd (pi_range1 rfl T.b_range (pa_cons (pv 2) pa_nil)) (blkOk_by (own := [("key", 5)]) (N := N__law_record) (sc := defScope s__law_record) (by decide +kernel)) (fun _ _ _ _ _ => (pg_name (i := 5) sc__law_record.nd rfl (Or.inl rfl))) (fun _ _ _ _ _ => pts_nil) (fun _ _ _ _ _ => (pe_cl c__law_draw hr (by decide) rfl (pa_cons (pv 0) (pa_cons (pv 2) pa_nil))))) pa_nil)))
      (pss_cons (ps_set (i := 6) sc__law_record.nd rfl (Or.inl rfl) (pe_cl c__law_pick hr (by decide) rfl (pa_cons (pv 0) (pa_cons (pe_lst (pa_cons (pv 3) (pa_cons (pv 3) (pa_cons pe_int (pa_cons pe_int pa_nil))))) pa_nil))))
      (pss_cons (ps_set (i := 7) sc__law_record.nd rfl (Or.inl rfl) (pe_cl c__law_pick hr (by decide) rfl (pa_cons (pv 0) (pa_cons (pe_lst (pa_cons pe_int (pa_cons pe_int (pa_cons pe_int (pa_cons pe_int pa_nil))))) pa_nil))))
      (pss_cons (ps_set (i := 8) sc__law_record.nd rfl (Or.inl rfl) (pe_cl c__law_pick hr (by decide) rfl (pa_cons (pv 0) (pa_cons (pe_lst (pa_cons pe_int (pa_cons pe_int (pa_cons pe_int (pa_cons pe_int (pa_cons pe_int (pa_cons pe_int (pa_cons pe_int (pa_cons pe_int pa_nil))))))))) pa_nil))))
      (pss_cons (ps_set (i := 9) sc__law_record.nd rfl (Or.inl rfl) (pe_cmpR op_eq (pe_cl c__law_draw hr (by decide) rfl (pa_cons (pv 0) (pa_cons pe_int pa_nil))) pe_int (nomark _)))
      (pss_cons (ps_set (i := 10) sc__law_record.nd rfl (Or.inl rfl) (pe_lst pa_nil))
      (pss_cons (ps_for PassesOwn.never rfl (pi_range1 rfl T.b_range (pa_cons (pv 1) pa_nil)) (pg_name (i := 11) sc__law_record.nd rfl (Or.inl rfl)) (pss_cons (ps_set (i := 12) sc__law_record.nd rfl (Or.inl rfl) (pv 8))
      (pss_cons (ps_if (pt_val (pv 9)) (pss_one (ps_set (i := 12) sc__law_record.nd rfl (Or.inl rfl) (pe_cl c__law_draw hr (by decide) rfl (pa_cons (pv 0) (pa_cons (pe_op op_add (pv 8) pe_int) pa_nil))))) pss_nil)
      (pss_one (ps_expr (pe_bmK (K := K) rfl PySem.F.plainAttrs_list PySem.F.slot_list_append PySem.F.type_list_append mt_append (pv 10) (pa_cons (pe_cl c__law_keys_row hr (by decide) rfl (pa_cons (pv 0) (pa_cons (pv 12) (pa_cons (pv 2) (pa_cons (pv 4) (pa_cons (pv 6) (pa_cons (pv 7) pa_nil))))))) pa_nil)))))))
      (pss_one (ps_ret (pe_callTy (T := "tuple") (r := rTupOf K) c_tup (by rfl) T.b_tuple (by decide +kernel) (pa_cons (pv 10) pa_nil))))))))))), ?_⟩
    try dsimp only [cxOf, Cx.nox, Cx.wish]
    refine st_of (σ' := [some _, some _, some _, some _, none, none, none, none, none, none, none, none, none]) rfl ?_
    wtm_at "jw"
    intro D hD
    have nD := hd.ne_none hD
    refine l_range (fun i H' => Drew p a H H' ∧ ∃ ns : List Int, H' D = some (.lst (ns.map V.int)) ∧ ns.length = i ∧ Below n ns) ⟨hd.drew.new hD, [], upd_same, rfl, fun x hx => (nomatch hx)⟩ (fun i H' hi h => ?_) (fun H' h => ?_)
    · obtain ⟨d1, ns, h1, hn, hb⟩ := h
      wtm_at "jw"
      refine ⟨rfl, ?_⟩
      wtm_at "jw"
      refine ⟨p, a, _, rfl, d1.at_, by omega, by omega, fun z H2 z0 z1 d2 => ?_⟩
      refine ⟨_, d2.kp _ _ h1 nD, small1000 (by rw [List.length_map]; omega), (d1.trans d2).put hd hD, ns ++ [z], by rw [upd_same, List.map_append]; rfl, by simp [hn], hb.snoc z0 z1⟩
    · obtain ⟨d1, rule, h1, hn, hb⟩ := h
      rw [Int.toNat_natCast] at hn
      wtm_at "jw"
      intro rl hrl
      have d2 := d1.new (o := .tup (rule.map V.int)) hrl
      have r2 := upd_same (H := H') (a := rl) (o := .tup (rule.map V.int))
      generalize upd H' rl (.tup (rule.map V.int)) = H2 at d2 r2 ⊢
      wtm_at "jw"
      intro B1 hB1
      have d3 := d2.new (o := .lst [V.int (late : Int), V.int (late : Int), V.int 1, V.int 2]) hB1
      wtm_at "jw"
      refine ⟨p, a, B1, _, rfl, d3.at_, .inl ⟨d2.at_.ne_none hB1, SqL.of upd_same⟩, by simp, by simp, fun x H3 hx d4 => ?_⟩
      obtain ⟨by_, rfl, b0⟩ : ∃ z : Nat, x = V.int (z : Int) ∧ 0 < z := by
        simp only [List.mem_cons, List.not_mem_nil, or_false] at hx
        rcases hx with h | h | h | h
        · exact ⟨late, h, l0⟩
        · exact ⟨late, h, l0⟩
        · exact ⟨1, h, by decide⟩
        · exact ⟨2, h, by decide⟩
      have d5 := d3.trans d4
      have r3 := ((d4.tps d3.at_) rl).1 _ (same_new (o := .lst [V.int (late : Int), V.int (late : Int), V.int 1, V.int 2]) hB1 _ _ r2)
      wtm_at "jw"
      intro B2 hB2
      have d6 := d5.new (o := .lst [V.int 1, V.int 2, V.int 4, V.int 9]) hB2
      wtm_at "jw"
      refine ⟨p, a, B2, _, rfl, d6.at_, .inl ⟨d5.at_.ne_none hB2, SqL.of upd_same⟩, by simp, by simp, fun x H4 hx d7 => ?_⟩
      obtain ⟨noise, rfl, z0, z1⟩ : ∃ z : Int, x = V.int z ∧ 0 < z ∧ z < 1000 := by
        simp only [List.mem_cons, List.not_mem_nil, or_false] at hx
        rcases hx with h | h | h | h <;> exact ⟨_, h, by omega, by omega⟩
      have d8 := d6.trans d7
      have r4 := ((d7.tps d6.at_) rl).1 _ (same_new (o := .lst [V.int 1, V.int 2, V.int 4, V.int 9]) hB2 _ _ r3)
      wtm_at "jw"
      intro B3 hB3
      have d9 := d8.new (o := .lst [V.int 1, V.int 2, V.int 3, V.int 5, V.int 8, V.int 12, V.int 24, V.int 0]) hB3
      wtm_at "jw"
      refine ⟨p, a, B3, _, rfl, d9.at_, .inl ⟨d8.at_.ne_none hB3, SqL.of upd_same⟩, by simp, by simp, fun x H5 hx d10 => ?_⟩
      obtain ⟨size, rfl, sz⟩ : ∃ z : Nat, x = V.int (z : Int) ∧ z ≤ 24 := by
        simp only [List.mem_cons, List.not_mem_nil, or_false] at hx
        rcases hx with h | h | h | h | h | h | h | h
        · exact ⟨1, h, by decide⟩
        · exact ⟨2, h, by decide⟩
        · exact ⟨3, h, by decide⟩
        · exact ⟨5, h, by decide⟩
        · exact ⟨8, h, by decide⟩
        · exact ⟨12, h, by decide⟩
        · exact ⟨24, h, by decide⟩
        · exact ⟨0, h, by decide⟩
      have d11 := d9.trans d10
      have r5 := ((d10.tps d9.at_) rl).1 _ (same_new (o := .lst [V.int 1, V.int 2, V.int 3, V.int 5, V.int 8, V.int 12, V.int 24, V.int 0]) hB3 _ _ r4)
      wtm_at "jw"
      refine ⟨p, a, _, rfl, d11.at_, by decide, by decide, fun u H6 u0 u1 d12 => ?_⟩
      have d13 := d11.trans d12
      have r6 := ((d12.tps d11.at_) rl).1 _ r5
      wtm_at "jw"
      intro R hR
      have fR := d13.free hR
      have nR := hd.ne_none fR
      have r7 := same_new (o := .lst []) hR _ _ r6
      wtm_at "jw"
      refine f_range (fun i σ H' => Drew p a H H' ∧ H' rl = some (.tup (rule.map V.int)) ∧ ∃ v1 v2 rs rw, σ = [some (.ref p), some (.int (seats : Int)), some (.int (n : Int)), some (.int (late : Int)), some (.ref rl), none, some (.int (by_ : Int)), some (.int noise), some (.int (size : Int)), some (.bl (decide (u = 0))), some (.ref R), v1, v2] ∧ H' R = some (.lst (rs.map V.ref)) ∧ Rwl H' rs rw ∧ rw.length = i ∧ ∀ w ∈ rw, w.length ≤ 24 ∧ Below n w)
        ⟨d13.new hR, r7, none, none, [], [], rfl, upd_same, Rwl.nil, rfl, fun w hw => (nomatch hw)⟩ (fun i σ H' hi h => ?_) (fun σ H' h => ?_)
      · obtain ⟨e1, hrl1, v1, v2, rs, rw, rfl, hR1, wl, hlen, hall⟩ := h
        wtm_at "js"
        refine i_ifC (fun σ' H2 => Drew p a H H2 ∧ H2 rl = some (.tup (rule.map V.int)) ∧ ∃ len : Nat, len ≤ 24 ∧ σ' = [some (.ref p), some (.int (seats : Int)), some (.int (n : Int)), some (.int (late : Int)), some (.ref rl), none, some (.int (by_ : Int)), some (.int noise), some (.int (size : Int)), some (.bl (decide (u = 0))), some (.ref R), some (.int (0 + (i : Int))), some (.int (len : Int))] ∧ H2 R = some (.lst (rs.map V.ref)) ∧ Rwl H2 rs rw) ?_ ?_
        · rintro σ' H2 ⟨e2, hrl2, len, hl24, rfl, hR2, wl2⟩
          have hsm : (rs.map V.ref).length < sizeLine := small1000 (by rw [List.length_map, wl2.1]; omega)
          wtm_at "jw"
          refine ⟨p, a, rl, len, n, by_, noise, rule, rfl, e2.at_, SqT.of hrl2, hn, hb, n0, n1, b0, z0, z1, hl24, fun r w H3 e3 hr3 hbw hwl => ?_⟩
          have t3 := e3.tps e2.at_
          have hR3 := e3.kp _ _ hR2 nR
          have tp := tps_put (ys := rs.map V.ref ++ [V.ref r]) hR3
          wtm_at "jw"
          refine ⟨(e2.trans e3).put hd fR, (tp rl).1 _ ((t3 rl).1 _ hrl2), _, _, rs ++ [r], rw ++ [w], rfl, by rw [upd_same, List.map_append]; rfl, (wl2.tps (t3.trans tp)).snoc ((tp r).1 _ hr3), by simp [hlen], fun x hx => ?_⟩
          rcases List.mem_append.mp hx with hx | hx
          · exact hall x hx
          · rcases List.mem_cons.mp hx with rfl | hx
            · exact ⟨hwl, hbw⟩
            · cases hx
        · intro N hN
          wtm_at "jw"
          refine c_dec (fun h => ?_) (fun h => ?_)
          · wtm_at "jw"
            refine ⟨p, a, _, rfl, e1.at_, by omega, by omega, fun g H2 g0 g1 e2 => ?_⟩
            have t2 := e2.tps e1.at_
            have eg : g = ((g.toNat : Nat) : Int) := by omega
            wtm_at "jw"
            exact hN _ _ ⟨e1.trans e2, (t2 rl).1 _ hrl1, g.toNat, by omega, by rw [← eg], e2.kp _ _ hR1 nR, wl.tps t2⟩
          · wtm_at "jw"
            exact hN _ _ ⟨e1, hrl1, size, sz, rfl, hR1, wl⟩
      · obtain ⟨e1, hrl1, v1, v2, rs, rw, rfl, hR1, wl, hlen, hall⟩ := h
        rw [Int.toNat_natCast] at hlen
        wtm_at "jw"
        intro r hr'
        exact q r rw _ (e1.new hr') ⟨rs, upd_same, wl.tps (Tps.of (same_new hr'))⟩ hlen hall
theorem cut_takeI {ts : List Int} {k : Int} (h0 : 0 ≤ k) (h : k ≤ ts.length) : cutV (ts.map V.int) none (some k) = (ts.take k.toNat).map V.int := by
  have e : k = ((k.toNat : Nat) : Int) := by omega
  unfold cutV
  rw [e, HT.sIx_nat, HT.sIx_none, List.drop_zero, Nat.min_eq_left (by rw [List.length_map]; omega), Nat.sub_zero, ← e, List.map_take]
theorem cut_dropI {ts : List Int} {k : Int} (h0 : 0 ≤ k) (h : k ≤ ts.length) : cutV (ts.map V.int) (some k) none = (ts.drop k.toNat).map V.int := by
  have e : k = ((k.toNat : Nat) : Int) := by omega
  unfold cutV
  rw [e, HT.sIx_nat, HT.sIx_none, Nat.min_eq_left (by rw [List.length_map]; omega), ← e, List.map_drop]
  exact List.take_of_length_le (Nat.le_of_eq (by rw [List.length_drop]))
def sp__law_bent_table (K : PySem.W.Frag) : Sp := fun vs H Q _ => ∃ (p a t : Addr) (ts : List Int) (n : Nat), vs = [.ref p, .ref t, .int (n : Int)] ∧ DrawAt H p a ∧ SqT K H t (ts.map V.int) ∧ ts.length = n ∧ Below n ts ∧ 2 ≤ n ∧ n ≤ 4 ∧
  ∀ (r : Addr) (us : List Int) (H' : Hp), Drew p a H H' → SqT K H' r (us.map V.int) → us.length = n → Q (.ref r) H'
theorem ok__law_bent_table {P : Program} {w : World} {K : PySem.W.Frag} {mg : Str → Option Value} {base : Heap} {f : Addr} {fd : FuncData} (F : Df K mg "_law_bent_table" s__law_bent_table f fd ["d", "table", "many"]) (T : Txt mg)
    (c__law_draw : Cl P w K mg base 1 "_law_draw" (sp__law_draw K)) : FnOk P w K mg base CX0 2 f fd ["d", "table", "many"] (sp__law_bent_table K) := by
  refine F.ok sc__law_bent_table (fun vs H Q E h => ?_) (fun cdv A outer s H vs Q E hr h => ?_)
  · obtain ⟨p, a, t, ts, n, rfl, _⟩ := h
    rfl
  · obtain ⟨p, a, t, ts, n, rfl, hd, ht, htn, hb, n2, n4, q⟩ := h
    refine ⟨_, (pss_cons (ps_set (i := 3) sc__law_bent_table.nd rfl (Or.inl rfl) (pe_cl c__law_draw hr (by decide) rfl (pa_cons (pv 0) (pa_cons (pv 2) pa_nil))))
      (pss_cons (ps_set (i := 4) sc__law_bent_table.nd rfl (Or.inl rfl) (pe_op op_mod (pe_callTy (T := "int") c_int (by rfl) T.b_int (by decide +kernel) (pa_cons (pe_op op_add (pe_op op_add (pe_ix (r := rIxT K) ix_tup (pv 1) (pv 3) (fun _ _ => rfl)) pe_int) (pe_cl c__law_draw hr (by decide) rfl (pa_cons (pv 0) (pa_cons (pe_op op_sub (pv 2) pe_int) pa_nil)))) pa_nil)) (pv 2)))
      (pss_one (ps_ret (pe_op (r := rCatA K) op_catA (pe_op (r := rCatA K) op_catA (pe_slice (r := rSlQ K) sl_tupQ (pv 1) po_none (po_some (pv 3))) (pe_tup (pa_cons (pv 4) pa_nil))) (pe_slice (r := rSlQ K) sl_tupQ (pv 1) (po_some (pe_op op_add (pv 3) pe_int)) po_none)))))), ?_⟩
    try dsimp only [cxOf, Cx.nox, Cx.wish]
    refine st_of (σ' := [some _, some _, some _, none, none]) rfl ?_
    wtm_at "jw"
    refine ⟨p, a, _, rfl, hd, by omega, by omega, fun k H1 k0 k1 d1 => ?_⟩
    have ht1 := (d1.tps hd).sq ht
    have a1 := int_atG (ns := ts) k0 (by omega)
    wtm_at "jw"
    refine ⟨p, a, _, rfl, d1.at_, by omega, by omega, fun z H2 z0 z1 d2 => ?_⟩
    have ht2 := (d2.tps d1.at_).sq ht1
    have d12 := d1.trans d2
    wtm_at "jw"
    refine i_slA ht2 fun r1 H3 s3 hr3 => ?_
    rw [cut_takeI k0 (by omega)] at hr3
    wtm_at "jw"
    intro u hu
    have s4 := same_new (o := .tup [V.int ((ts[k.toNat]?.getD 0 + 1 + z) % (n : Int))]) hu
    have hu4 := upd_same (H := H3) (a := u) (o := .tup [V.int ((ts[k.toNat]?.getD 0 + 1 + z) % (n : Int))])
    generalize upd H3 u (.tup [V.int ((ts[k.toNat]?.getD 0 + 1 + z) % (n : Int))]) = H4 at s4 hu4 ⊢
    refine i_catI (ns := ts.take k.toNat) (ms := [(ts[k.toNat]?.getD 0 + 1 + z) % (n : Int)]) (Same.tup s4 hr3) (SqT.of hu4) (by rw [List.length_take]; simp; omega) fun r2 H5 s5 hr5 => ?_
    have S5 : Same H2 H5 := (s3.trans s4).trans (show Same H4 H5 from s5)
    have ht5 := Same.tup S5 ht2
    wtm_at "jw"
    refine i_slA ht5 fun r3 H6 s6 hr6 => ?_
    rw [cut_dropI (by omega) (by omega)] at hr6
    refine i_catI (Same.tup s6 hr5) hr6 (by rw [List.length_append, List.length_take, List.length_drop]; simp; omega) fun r4 H7 s7 hr7 => ?_
    refine q r4 _ _ (d12.same ((S5.trans s6).trans (show Same H6 H7 from s7))) hr7 ?_
    rw [List.length_append, List.length_append, List.length_take, List.length_drop]
    simp
    omega
/-- what is known of a row -/
def mk (w : List Int) (j : Nat) : Int → Option Int := fun i => if 0 ≤ i ∧ i < j then some (w[i.toNat]?.getD 0) else none
theorem mk_add (w : List Int) (j : Nat) : (fun i : Int => if i = (j : Int) then some (w[j]?.getD 0) else mk w j i) = mk w (j + 1) := by
  funext i
  unfold mk
  by_cases h : i = (j : Int)
  · subst h
    rw [if_pos rfl, if_pos (by omega), Int.toNat_natCast]
  · rw [if_neg h]
    by_cases h2 : 0 ≤ i ∧ i < j
    · rw [if_pos h2, if_pos (by omega)]
    · rw [if_neg h2, if_neg (by omega)]
theorem lastO_mk (w : List Int) (j : Nat) : ∀ t, j ≤ t → lastO (mk w j) t = if j = 0 then none else some ((j - 1 : Nat) : Int)
  | 0, h => by
    have : j = 0 := by omega
    subst this
    rfl
  | t + 1, h => by
    rw [lastO]
    unfold mk
    by_cases hj : j = t + 1
    · rw [if_pos (c := 0 ≤ (t : Int) ∧ (t : Int) < j) (by omega)]
      rw [if_pos (by rfl), if_neg (by omega), hj]
      rfl
    · rw [if_neg (c := 0 ≤ (t : Int) ∧ (t : Int) < j) (by omega)]
      rw [if_neg (by simp)]
      exact lastO_mk w j t (by omega)
theorem gs_mk {w ts : List Int} {n late t : Nat} (hts : ts.length = n) (hn : 0 < n) (hw : Below n w) (hl : 0 < late) : gs ts (mk w (t + 1 - late)) t = ts[(kn w late t).toNat]?.getD 0 := by
  unfold gs
  rw [lastO_mk _ _ _ (by omega)]
  by_cases h : late ≤ t
  · rw [if_neg (by omega)]
    dsimp only
    have e1 : t + 1 - late - 1 = t - late := by omega
    have e2 : mk w (t + 1 - late) ((t - late : Nat) : Int) = some (w[t - late]?.getD 0) := by
      unfold mk
      rw [if_pos (by omega), Int.toNat_natCast]
    rw [e1, e2]
    have e3 : kn w late t = w[t - late]?.getD 0 := by unfold kn; rw [if_pos h]
    have hb := hw.at (i := t - late) hn
    rw [e3]
    show ts[((w[t - late]?.getD 0) % (ts.length : Int)).toNat]?.getD 0 = _
    rw [Int.emod_eq_of_lt hb.1 (by rw [hts]; exact hb.2)]
  · rw [if_pos (by omega)]
    have e3 : kn w late t = 0 := by unfold kn; rw [if_neg h]
    rw [e3]
    rfl
def sp__law_guesses_right (K : PySem.W.Frag) : Sp := fun vs H Q _ => ∃ (a r : Addr) (ts w : List Int) (n late : Nat), vs = [.ref a, .ref r, .int (late : Int)] ∧ SqT K H a (ts.map V.int) ∧ ts.length = n ∧ 0 < n ∧ SqT K H r (w.map V.int) ∧ Below n w ∧ w.length ≤ 24 ∧ 0 < late ∧ late ≤ 24 ∧ ∀ H', Same H H' → Q (.bl true) H'
theorem ok__law_guesses_right {P : Program} {w : World} {K : PySem.W.Frag} {mg : Str → Option Value} {base : Heap} {f : Addr} {fd : FuncData} (F : Df K mg "_law_guesses_right" s__law_guesses_right f fd ["table", "row", "late"]) (T : Txt mg)
    (c_guess_of : Cl P w K mg base 2 "guess_of" (sp_guess_of K))
    (c__law_is_int : Cl P w K mg base 1 "_law_is_int" (sp__law_is_int K))
    (c__law_known_key : Cl P w K mg base 1 "_law_known_key" (sp__law_known_key K)) : FnOk P w K mg base CX0 3 f fd ["table", "row", "late"] (sp__law_guesses_right K) := by
  refine F.ok sc__law_guesses_right (fun vs H Q E h => ?_) (fun cdv A outer s H vs Q E hr h => ?_)
  · obtain ⟨a, r, ts, w, n, late, rfl, _⟩ := h
    rfl
  · obtain ⟨a, r, ts, w, n, late, rfl, ha, htn, n0, hrw, hb, hwl, l0, l1, q⟩ := h
    have hu := hu_of hr
    refine ⟨_, (pss_cons (ps_for PassesOwn.never rfl (pi_range1 rfl T.b_range (pa_cons (pe_callB (id := "len") (r := qLen K) c_len (by rfl) T.b_len (by decide +kernel) (pa_cons (pv 1) pa_nil)) pa_nil)) (pg_name (i := 3) sc__law_guesses_right.nd rfl (Or.inl rfl)) (pss_cons (ps_set (i := 4) sc__law_guesses_right.nd rfl (Or.inl rfl) pe_dnewK)
      (pss_cons (ps_for PassesOwn.never rfl (pi_range1 rfl T.b_range (pa_cons (pe_op op_add (pe_op op_sub (pv 3) (pv 2)) pe_int) pa_nil)) (pg_name (i := 5) sc__law_guesses_right.nd rfl (Or.inl rfl)) (pss_one (ps_dput hu (pv 4) (pv 5) (pe_ix (r := rIxT K) ix_tup (pv 1) (pv 5) (fun _ _ => rfl)) rfl)))
      (pss_cons (ps_set (i := 6) sc__law_guesses_right.nd rfl (Or.inl rfl) (pe_cl c_guess_of hr (by decide) rfl (pa_cons (pv 0) (pa_cons (pv 4) (pa_cons (pv 3) pa_nil)))))
      (pss_one (ps_if (PW.pt (pw_or (pt_not (pt_val (pe_cl c__law_is_int hr (by decide) rfl (pa_cons (pv 6) pa_nil)))) (pw_or1 (pt_cmpR op_ne (pv 6) (pe_ix (r := rIxT K) ix_tup (pv 0) (pe_cl c__law_known_key hr (by decide) rfl (pa_cons (pv 1) (pa_cons (pv 3) (pa_cons (pv 2) pa_nil)))) (fun _ _ => rfl)) (nomark _))))) (pss_one (ps_ret pe_bl)) pss_nil))))))
      (pss_one (ps_ret pe_bl))), ?_⟩
    try dsimp only [cxOf, Cx.nox, Cx.wish]
    refine st_of (σ' := [some _, some _, some _, none, none, none, none]) rfl ?_
    wtm_at "jw"
    refine f_range (fun t σ H' => Same H H' ∧ ∃ v1 v2 v3 v4, σ = [some (.ref a), some (.ref r), some (.int (late : Int)), v1, v2, v3, v4]) ⟨Same.refl _, none, none, none, none, rfl⟩ (fun t σ H' ht h => ?_) (fun σ H' h => ?_)
    · obtain ⟨s1, v1, v2, v3, v4, rfl⟩ := h
      rw [List.length_map] at ht
      have ht' : t < w.length := by omega
      wtm_at "jw"
      refine i_dnew fun D hD => ?_
      have s2 := s1.trans (same_new (o := .dK []) hD)
      have fD := s1.free hD
      wtm_at "jw"
      refine f_range (fun j σ H2 => Same H H2 ∧ ∃ kvs v3 v4, σ = [some (.ref a), some (.ref r), some (.int (late : Int)), some (.int (0 + (t : Int))), some (.ref D), v3, v4] ∧ H2 D = some (.dK kvs) ∧ DI kvs (mk w j) ∧ kvs.length ≤ j) ⟨s2, [], _, _, rfl, upd_same, by
          refine ⟨fun i => ?_, [], rfl, List.nodup_nil⟩
          unfold mk
          rw [if_neg (by omega)]
          rfl, Nat.le_refl _⟩ (fun j σ H2 hj h => ?_) (fun σ H2 h => ?_)
      · obtain ⟨s3, kvs, v3, v4, rfl, hD3, di, hkl⟩ := h
        have hr3 := Same.tup s3 hrw
        have hj' : j < w.length := by omega
        have a1 := int_at (ns := w) (j := 0 + (j : Int)) (i := j) (by omega) hj'
        wtm_at "jw"
        refine i_dput ?_
        wtm_at "jw"
        refine i_dputI hD3 (by omega) ?_
        have := putK_le (kvs := kvs) (k := .inl (0 + (j : Int))) (v := .int (w[j]?.getD 0))
        refine ⟨put_same s3 fD, _, _, _, rfl, upd_same, ?_, by omega⟩
        rw [← mk_add, Int.zero_add]
        exact di.put
      · obtain ⟨s3, kvs, v3, v4, rfl, hD3, di, hkl⟩ := h
        have ej : ((0 : Int) + (t : Int) - (late : Int) + 1).toNat = t + 1 - late := by omega
        rw [ej] at di
        have hk := hb.kn (late := late) (t := t) n0
        have ha3 := Same.tup s3 ha
        have hr3 := Same.tup s3 hrw
        have a1 := int_atG (ns := ts) hk.1 (by rw [htn]; exact hk.2)
        wtm_at "jw"
        rw [Int.zero_add]
        refine ⟨a, D, ts, kvs, _, t, rfl, ha3, by omega, hD3, di.1, by omega, ?_⟩
        rw [gs_mk htn n0 hb l0]
        wtm_at "jw"
        refine ⟨_, rfl, ?_⟩
        wtm_at "jw"
        refine ⟨r, w, t, late, rfl, .inr hr3, fun h => by omega, ?_⟩
        wtm_at "jw"
        refine c_noN rfl ?_
        wtm_at "jw"
        exact ⟨s3, _, _, _, _, rfl⟩
    · obtain ⟨s1, v1, v2, v3, v4, rfl⟩ := h
      wtm_at "jw"
      exact q _ s1
/-! ### the best table is the first of the least -/
def sumN (f : Nat → Nat) : Nat → Nat
  | 0 => 0
  | n + 1 => sumN f n + f n
theorem sumN_le {f g : Nat → Nat} : ∀ {n : Nat}, (∀ a, a < n → f a ≤ g a) → sumN f n ≤ sumN g n ∧ (sumN f n = sumN g n → ∀ a, a < n → f a = g a)
  | 0, _ => ⟨Nat.le_refl _, fun _ a h => absurd h (Nat.not_lt_zero a)⟩
  | n + 1, h => by
    obtain ⟨h1, h2⟩ := sumN_le (n := n) fun a ha => h a (by omega)
    have h3 := h n (by omega)
    rw [sumN, sumN]
    refine ⟨by omega, fun e a ha => ?_⟩
    by_cases hh : a < n
    · exact h2 (by omega) a hh
    · have : a = n := by omega
      subst this
      omega
theorem sumN_add (f g : Nat → Nat) : ∀ n, sumN (fun a => f a + g a) n = sumN f n + sumN g n
  | 0 => rfl
  | n + 1 => by rw [sumN, sumN, sumN, sumN_add f g n]; omega
theorem sumN_zero : ∀ n, sumN (fun _ => 0) n = 0
  | 0 => rfl
  | n + 1 => by rw [sumN, sumN_zero n]
theorem sumN_ind (p : Int × Int) (f : Nat → Int) : ∀ n, sumN (fun a => if p = ((a : Int), f a) then 1 else 0) n = if 0 ≤ p.1 ∧ p.1 < n ∧ f p.1.toNat = p.2 then 1 else 0
  | 0 => by rw [sumN, if_neg (by omega)]
  | n + 1 => by
    rw [sumN, sumN_ind p f n]
    by_cases h : p.1 = (n : Int)
    · have hn : p.1.toNat = n := by omega
      rw [if_neg (by omega), hn]
      by_cases h2 : f n = p.2
      · rw [if_pos (Prod.ext h h2.symm), if_pos ⟨by omega, by omega, h2⟩]
      · rw [if_neg (fun z => h2 (congrArg Prod.snd z).symm), if_neg (fun z => h2 z.2.2)]
    · have h3 : ¬ p = ((n : Int), f n) := fun z => h (congrArg Prod.fst z)
      rw [if_neg h3]
      by_cases h2 : 0 ≤ p.1 ∧ p.1 < n ∧ f p.1.toNat = p.2
      · rw [if_pos h2, if_pos ⟨h2.1, by omega, h2.2.2⟩]
      · rw [if_neg h2, if_neg (fun z => h2 ⟨z.1, by omega, z.2.2⟩)]
def hits (t : List Int) (ev : List (Int × Int)) (a : Nat) : Nat := cnt ev (a : Int) (t[a]?.getD 0)
theorem split_ev {n : Nat} (t : List Int) : ∀ ev : List (Int × Int), Keys n ev → ev.countP (wrg t) + sumN (hits t ev) n = ev.length
  | [], _ => by
    have : hits t [] = fun _ => 0 := by funext a; rfl
    rw [this, sumN_zero]
    rfl
  | p :: ev, h => by
    have ih := split_ev (n := n) t ev fun q hq => h q (List.mem_cons_of_mem _ hq)
    obtain ⟨h0, h1⟩ := h p List.mem_cons_self
    have e : hits t (p :: ev) = fun a => hits t ev a + (if p = ((a : Int), t[a]?.getD 0) then 1 else 0) := by
      funext a
      unfold hits cnt
      rw [List.count_cons]
      by_cases hh : p = ((a : Int), t[a]?.getD 0)
      · rw [if_pos hh, if_pos (by rw [hh]; simp)]
      · rw [if_neg hh, if_neg (by simpa using hh)]
    rw [e, sumN_add, sumN_ind p (fun a => t[a]?.getD 0) n, List.countP_cons, List.length_cons]
    by_cases hh : t[p.1.toNat]?.getD 0 = p.2
    · rw [if_neg (by unfold wrg; rw [decide_eq_true hh]; simp), if_pos ⟨h0, h1, hh⟩]
      omega
    · rw [if_pos (by unfold wrg; rw [decide_eq_false hh]; rfl), if_neg (fun z => hh z.2.2)]
      omega
theorem bestT_at {ev : List (Int × Int)} {n a : Nat} (h : a < n) : (bestT ev n)[a]?.getD 0 = bestN ev (a : Int) n := by
  unfold bestT
  rw [List.getElem?_map, List.getElem?_range h]
  rfl
theorem best_least {ev : List (Int × Int)} {n : Nat} {t : List Int} (hk : Keys n ev) (ht : t.length = n) (hb : Below n t) (hn : 0 < n) :
    ev.countP (wrg (bestT ev n)) ≤ ev.countP (wrg t) ∧ (ev.countP (wrg (bestT ev n)) = ev.countP (wrg t) → ptw (bestT ev n) t) := by
  have e1 := split_ev (n := n) t ev hk
  have e2 := split_ev (n := n) (bestT ev n) ev hk
  have hm : ∀ a, a < n → cnt ev (a : Int) (t[a]?.getD 0) ≤ cnt ev (a : Int) (bestN ev (a : Int) n) ∧ (cnt ev (a : Int) (t[a]?.getD 0) = cnt ev (a : Int) (bestN ev (a : Int) n) → bestN ev (a : Int) n ≤ t[a]?.getD 0) := fun a ha => by
    have hx := hb.at (i := a) hn
    have := bestN_max ev (a : Int) n (t[a]?.getD 0).toNat (by omega)
    rw [show (((t[a]?.getD 0).toNat : Nat) : Int) = t[a]?.getD 0 by omega] at this
    exact this
  obtain ⟨h1, h2⟩ := sumN_le (f := hits t ev) (g := hits (bestT ev n) ev) (n := n) fun a ha => by
    unfold hits
    rw [bestT_at ha]
    exact (hm a ha).1
  refine ⟨by omega, fun e i x y hx hy => ?_⟩
  have hi : i < n := by
    have := (List.getElem?_eq_some_iff.mp hy).1
    omega
  have h3 := h2 (by omega) i hi
  unfold hits at h3
  rw [bestT_at hi] at h3
  have h4 := (hm i hi).2 h3
  have e3 := bestT_at (ev := ev) hi
  rw [hx] at e3
  rw [hy] at h4
  rw [← e3] at h4
  exact h4
theorem bestT_mem {ev : List (Int × Int)} {n : Nat} (hn : 0 < n) : bestT ev n ∈ tbls n n := tbls_mem.mpr ⟨bestT_len ev n, fun x hx => by
  unfold bestT at hx
  obtain ⟨a, _, rfl⟩ := List.mem_map.mp hx
  exact bestN_lt ev (a : Int) n hn⟩
/-- the first of the least is the best table -/
theorem first_best {ev : List (Int × Int)} {n j : Nat} {b : List Int} (hk : Keys n ev) (hn : 0 < n) (hj : (tbls n n)[j]? = some b) (h1 : ∀ (k : Nat) t, k < j → (tbls n n)[k]? = some t → ev.countP (wrg b) < ev.countP (wrg t))
    (h2 : ∀ t ∈ tbls n n, ev.countP (wrg b) ≤ ev.countP (wrg t)) : b = bestT ev n := by
  obtain ⟨m, hm⟩ := List.mem_iff_getElem?.mp (bestT_mem (ev := ev) hn)
  obtain ⟨hbl, hbb⟩ := tbls_mem.mp (List.mem_of_getElem? hj)
  obtain ⟨l1, l2⟩ := best_least hk hbl hbb hn
  have l3 := h2 (bestT ev n) (bestT_mem hn)
  by_cases e : m = j
  · subst e
    rw [hj] at hm
    exact Option.some.inj hm
  · by_cases e2 : m < j
    · have := h1 m _ e2 hm
      omega
    · have ho := tbls_order n n
      obtain ⟨hj1, rfl⟩ := List.getElem?_eq_some_iff.mp hj
      obtain ⟨hm1, hm2⟩ := List.getElem?_eq_some_iff.mp hm
      have := (List.pairwise_iff_getElem.mp ho) j m hj1 hm1 (by omega)
      rw [hm2] at this
      exact absurd (l2 (by omega)) this
theorem keys_of {n late : Nat} {rw : List (List Int)} (hn : 0 < n) (h : ∀ w ∈ rw, Below n w) : Keys n (evs late rw) := fun p hp => by
  unfold evs at hp
  obtain ⟨l, hl, hpl⟩ := List.mem_flatten.mp hp
  obtain ⟨w, hw, rfl⟩ := List.mem_map.mp hl
  have hb := h w hw
  suffices hh : ∀ m, p ∈ evN w late m → 0 ≤ p.1 ∧ p.1 < n from hh _ hpl
  intro m
  induction m with
  | zero => intro z; cases z
  | succ m ih =>
    intro z
    rw [evN, List.mem_append] at z
    rcases z with z | z
    · exact ih z
    · rcases List.mem_cons.mp z with rfl | z
      · exact hb.kn hn
      · cases z
def sp_law (K : PySem.W.Frag) : Sp := fun vs H Q _ => ∃ (a : Addr) (ns : List Int), vs = [.ref a] ∧ SqL K H a (ns.map V.int) ∧ ns.length ≤ 63 ∧ ∀ H', Q (.bl true) H'
theorem ok_law {P : Program} {w : World} {K : PySem.W.Frag} {mg : Str → Option Value} {base : Heap} {f : Addr} {fd : FuncData} (F : Df K mg "law" s_law f fd ["script"]) (T : Txt mg)
    (c__law_begin : Cl P w K mg base 1 "_law_begin" (sp__law_begin K))
    (c__law_pick : Cl P w K mg base 2 "_law_pick" (sp__law_pick K))
    (c__law_record : Cl P w K mg base 3 "_law_record" (sp__law_record K))
    (c__law_tables : Cl P w K mg base 1 "_law_tables" (sp__law_tables K))
    (c_best_table : Cl P w K mg base 2 "best_table" (sp_best_table K))
    (c__law_guesses_right : Cl P w K mg base 3 "_law_guesses_right" (sp__law_guesses_right K))
    (c__law_wrong : Cl P w K mg base 2 "_law_wrong" (sp__law_wrong K))
    (c__law_bent_table : Cl P w K mg base 2 "_law_bent_table" (sp__law_bent_table K))
    (c_wrong_guesses : Cl P w K mg base 2 "wrong_guesses" (sp_wrong_guesses K))
    (c__law_is_ints : Cl P w K mg base 2 "_law_is_ints" (sp__law_is_ints K))
    (c__law_draw : Cl P w K mg base 1 "_law_draw" (sp__law_draw K))
    (c__law_is_int : Cl P w K mg base 1 "_law_is_int" (sp__law_is_int K)) : FnOk P w K mg base CX0 4 f fd ["script"] (sp_law K) := by
  refine F.ok sc_law (fun vs H Q E h => ?_) (fun cdv A outer s H vs Q E hr h => ?_)
  · obtain ⟨a, ns, rfl, _⟩ := h
    rfl
  · obtain ⟨a, ns, rfl, hS, hl, k⟩ := h
    refine ⟨_, (pss_cons (ps_set (i := 1) sc_law.nd rfl (Or.inr rfl) (pe_cl c__law_begin hr (by decide) rfl (pa_cons (pv 0) pa_nil)))
      (pss_cons (ps_set (i := 2) sc_law.nd rfl (Or.inr rfl) (pe_cl c__law_pick hr (by decide) rfl (pa_cons (pv 1) (pa_cons (pe_lst (pa_cons pe_int (pa_cons pe_int (pa_cons pe_int (pa_cons pe_int (pa_cons pe_int pa_nil)))))) pa_nil))))
      (pss_cons (ps_set (i := 3) sc_law.nd rfl (Or.inl rfl) (pe_cl c__law_pick hr (by decide) rfl (pa_cons (pv 1) (pa_cons (pe_lst (pa_cons pe_int (pa_cons pe_int (pa_cons pe_int (pa_cons pe_int (pa_cons pe_int pa_nil)))))) pa_nil))))
      (pss_cons (ps_set (i := 4) sc_law.nd rfl (Or.inl rfl) (pe_cl c__law_pick hr (by decide) rfl (pa_cons (pv 1) (pa_cons (pe_lst (pa_cons pe_int (pa_cons pe_int (pa_cons pe_int (pa_cons pe_int (pa_cons (pe_op op_add pe_int (pe_cl c__law_draw hr (by decide) rfl (pa_cons (pv 1) (pa_cons pe_int pa_nil)))) pa_nil)))))) pa_nil))))
      (pss_cons (ps_set (i := 5) sc_law.nd rfl (Or.inl rfl) (pe_cl c__law_record hr (by decide) rfl (pa_cons (pv 1) (pa_cons (pv 3) (pa_cons (pv 2) (pa_cons (pv 4) pa_nil))))))
      (pss_cons (ps_set (i := 6) sc_law.nd rfl (Or.inl rfl) pe_non)
      (pss_cons (ps_set (i := 7) sc_law.nd rfl (Or.inl rfl) pe_int)
      (pss_cons (ps_for PassesOwn.never rfl (pi_list (pe_cl c__law_tables hr (by decide) rfl (pa_cons (pv 2) pa_nil))) (pg_name (i := 8) sc_law.nd rfl (Or.inl rfl)) (pss_cons (ps_set (i := 9) sc_law.nd rfl (Or.inl rfl) (pe_cl c__law_wrong hr (by decide) rfl (pa_cons (pv 8) (pa_cons (pv 5) (pa_cons (pv 4) pa_nil)))))
      (pss_one (ps_if (PW.pt (pw_or (pt_cmpR o_isN (pv 6) pe_non (nomark _)) (pw_or1 (pt_cmpR op_lt (pv 9) (pv 7) (nomark _))))) (pss_cons (ps_set (i := 6) sc_law.nd rfl (Or.inl rfl) (pv 8))
      (pss_one (ps_set (i := 7) sc_law.nd rfl (Or.inl rfl) (pv 9)))) pss_nil))))
      (pss_cons (ps_set (i := 10) sc_law.nd rfl (Or.inl rfl) (pe_cl c_best_table hr (by decide) rfl (pa_cons (pv 5) (pa_cons (pv 2) (pa_cons (pv 4) pa_nil)))))
      (pss_cons (ps_if (PW.pt (pw_or (pt_not (pt_val (pe_cl c__law_is_ints hr (by decide) rfl (pa_cons (pv 10) pa_nil)))) (pw_or1 (pt_cmpR (r := rNeD K) (op_neD hr.units) (pv 10) (pv 6) (nomark _))))) (pss_one (ps_ret pe_bl)) pss_nil)
      (pss_cons (ps_set (i := 11) sc_law.nd rfl (Or.inl rfl) (pe_callTy (T := "tuple") (r := rTupOf K) c_tup (by rfl) T.b_tuple (by decide +kernel) (pa_cons (pe_lc (own := [("key", 12)]) (g := gName 12) (tt := tYes) rfl sc_law.nd (pi_range1 rfl T.b_range (pa_cons (pv 2) pa_nil)) (blkOk_by (own := [("key", 12)]) (N := N_law) (sc := defScope s_law) (by decide +kernel)) (fun _ _ _ _ _ => (pg_name (i := 12) sc_law.nd rfl (Or.inl rfl))) (fun _ _ _ _ _ => pts_nil) (fun _ _ _ _ _ => (pe_cl c__law_draw hr (by decide) rfl (pa_cons (pv 1) (pa_cons (pv 2) pa_nil))))) pa_nil)))
      (pss_cons (ps_for PassesOwn.never rfl (pi_list (pe_lst (pa_cons (pv 6) (pa_cons (pe_cl c__law_bent_table hr (by decide) rfl (pa_cons (pv 1) (pa_cons (pv 6) (pa_cons (pv 2) pa_nil)))) (pa_cons (pv 11) pa_nil))))) (pg_name (i := 8) sc_law.nd rfl (Or.inl rfl)) (pss_cons (ps_set (i := 9) sc_law.nd rfl (Or.inl rfl) (pe_cl c_wrong_guesses hr (by decide) rfl (pa_cons (pv 8) (pa_cons (pv 5) (pa_cons (pv 4) pa_nil)))))
      (pss_one (ps_if (PW.pt (pw_or (pt_not (pt_val (pe_cl c__law_is_int hr (by decide) rfl (pa_cons (pv 9) pa_nil)))) (pw_or1 (pt_cmpR op_ne (pv 9) (pe_cl c__law_wrong hr (by decide) rfl (pa_cons (pv 8) (pa_cons (pv 5) (pa_cons (pv 4) pa_nil)))) (nomark _))))) (pss_one (ps_ret pe_bl)) pss_nil))))
      (pss_one (ps_ret (pe_cl c__law_guesses_right hr (by decide) rfl (pa_cons (pv 11) (pa_cons (pe_cl c__law_pick hr (by decide) rfl (pa_cons (pv 1) (pa_cons (pv 5) pa_nil))) (pa_cons (pv 4) pa_nil)))))))))))))))))), ?_⟩
    try dsimp only [cxOf, Cx.nox, Cx.wish]
    refine st_of (σ' := [some _, none, none, none, none, none, none, none, none, none, none, none, none]) rfl ?_
    wtm_at "jw"
    refine ⟨a, ns, rfl, hS, hl, fun p c H0 s0 hp hc d0 => ?_⟩
    wtm_at "jw"
    intro B1 hB1
    have d1 := d0.drew.new (o := .lst [V.int 2, V.int 3, V.int 2, V.int 4, V.int 3]) hB1
    wtm_at "jw"
    refine ⟨p, c, B1, _, rfl, d1.at_, .inl ⟨d0.ne_none hB1, SqL.of upd_same⟩, by simp, by simp, fun x H1 hx e1 => ?_⟩
    obtain ⟨n, rfl, n2, n4⟩ : ∃ z : Nat, x = V.int (z : Int) ∧ 2 ≤ z ∧ z ≤ 4 := by
      simp only [List.mem_cons, List.not_mem_nil, or_false] at hx
      rcases hx with h | h | h | h | h
      · exact ⟨2, h, by decide, by decide⟩
      · exact ⟨3, h, by decide, by decide⟩
      · exact ⟨2, h, by decide, by decide⟩
      · exact ⟨4, h, by decide, by decide⟩
      · exact ⟨3, h, by decide, by decide⟩
    have d2 := d1.trans e1
    wtm_at "jw"
    intro B2 hB2
    have d3 := d2.new (o := .lst [V.int 1, V.int 2, V.int 2, V.int 3, V.int 4]) hB2
    wtm_at "jw"
    refine ⟨p, c, B2, _, rfl, d3.at_, .inl ⟨d2.at_.ne_none hB2, SqL.of upd_same⟩, by simp, by simp, fun x H2 hx e2 => ?_⟩
    obtain ⟨seats, rfl, st1, st4⟩ : ∃ z : Nat, x = V.int (z : Int) ∧ 0 < z ∧ z ≤ 4 := by
      simp only [List.mem_cons, List.not_mem_nil, or_false] at hx
      rcases hx with h | h | h | h | h
      · exact ⟨1, h, by decide, by decide⟩
      · exact ⟨2, h, by decide, by decide⟩
      · exact ⟨2, h, by decide, by decide⟩
      · exact ⟨3, h, by decide, by decide⟩
      · exact ⟨4, h, by decide, by decide⟩
    have d4 := d3.trans e2
    wtm_at "jw"
    refine ⟨p, c, _, rfl, d4.at_, by decide, by decide, fun z H3 z0 z1 e3 => ?_⟩
    have d5 := d4.trans e3
    wtm_at "jw"
    intro B3 hB3
    have d6 := d5.new (o := .lst [V.int 1, V.int 1, V.int 2, V.int 3, V.int (1 + z)]) hB3
    wtm_at "jw"
    refine ⟨p, c, B3, _, rfl, d6.at_, .inl ⟨d5.at_.ne_none hB3, SqL.of upd_same⟩, by simp, by simp, fun x H4 hx e4 => ?_⟩
    obtain ⟨late, rfl, l0, l24⟩ : ∃ z : Nat, x = V.int (z : Int) ∧ 0 < z ∧ z ≤ 24 := by
      simp only [List.mem_cons, List.not_mem_nil, or_false] at hx
      rcases hx with h | h | h | h | h
      · exact ⟨1, h, by decide, by decide⟩
      · exact ⟨1, h, by decide, by decide⟩
      · exact ⟨2, h, by decide, by decide⟩
      · exact ⟨3, h, by decide, by decide⟩
      · exact ⟨(1 + z).toNat, by rw [h, show (((1 + z).toNat : Nat) : Int) = 1 + z by omega], by omega, by omega⟩
    have d7 := d6.trans e4
    wtm_at "jw"
    refine ⟨p, c, seats, n, late, rfl, d7.at_, by omega, n4, l0, l24, st1, st4, fun R rw H5 e5 hR hlen hall => ?_⟩
    have d8 := d7.trans e5
    have hw24 : ∀ w ∈ rw, w.length ≤ 24 := fun w hw => (hall w hw).1
    have hkeys : Keys n (evs late rw) := keys_of (by omega) fun w hw => (hall w hw).2
    wtm_at "jw"
    refine ⟨n, rfl, n4, fun L rs H6 s6 hL wl => ?_⟩
    have d9 := d8.same s6
    have hR6 := hR.tps (Tps.of s6)
    have hrl := wl.1
    have htl := tbls_len n n
    have hpos : 0 < n ^ n := Nat.pow_pos (by omega)
    wtm_at "jw"
    refine f_list (xs := rs.map V.ref) (fun i σ H' => H' = H6 ∧ ∃ bv fv v8 v9, σ = [some (.ref a), some (.ref p), some (.int (n : Int)), some (.int (seats : Int)), some (.int (late : Int)), some (.ref R), some bv, some (.int fv), v8, v9, none, none, none] ∧
        ((i = 0 ∧ bv = .non) ∨ ∃ (j : Nat) (r : Addr) (b : List Int), j < i ∧ rs[j]? = some r ∧ (tbls n n)[j]? = some b ∧ bv = .ref r ∧ fv = (((evs late rw).countP (wrg b) : Nat) : Int) ∧ (∀ (k : Nat) t, k < j → (tbls n n)[k]? = some t → (evs late rw).countP (wrg b) < (evs late rw).countP (wrg t)) ∧ ∀ (k : Nat) t, k < i → (tbls n n)[k]? = some t → (evs late rw).countP (wrg b) ≤ (evs late rw).countP (wrg t)))
      ⟨rfl, .non, 0, none, none, rfl, .inl ⟨rfl, rfl⟩⟩ (fun i σ H' _ h => SqL.of (by rw [h.1]; exact hL)) (fun i x σ H' hi h => ?_) (fun σ H' h => ?_)
    · obtain ⟨rfl, bv, fv, v8, v9, rfl, hcase⟩ := h
      obtain ⟨r, t, rfl, er, et, hr6, _, hlt⟩ := wl.at hi
      have htn : t.length = n := (tbls_mem.mp (List.mem_of_getElem? et)).1
      wtm_at "jw"
      refine ⟨r, R, t, rw, late, rfl, SqT.of hr6, hR6, l0, hw24, by rw [htn]; exact hkeys, ?_⟩
      rcases hcase with ⟨rfl, rfl⟩ | ⟨j, rj, b, hj, erj, ebj, rfl, rfl, f1, f2⟩
      · wtm_at "jw"
        refine c_yes rfl ?_
        wtm_at "jw"
        refine ⟨rfl, _, _, _, _, rfl, .inr ⟨0, r, t, by omega, er, et, rfl, rfl, fun k t' hk => by omega, fun k t' hk e => ?_⟩⟩
        have : k = 0 := by omega
        subst this
        rw [et] at e
        cases e
        exact Nat.le_refl _
      · wtm_at "jw"
        refine c_no (fun h => by cases h) ?_
        wtm_at "jw"
        refine c_dec (fun h => ?_) (fun h => ?_)
        · wtm_at "jw"
          refine ⟨rfl, _, _, _, _, rfl, .inr ⟨i, r, t, by omega, er, et, rfl, rfl, fun k t' hk e => ?_, fun k t' hk e => ?_⟩⟩
          · have := f2 k t' hk e
            omega
          · by_cases hki : k < i
            · have := f2 k t' hki e
              omega
            · have : k = i := by omega
              subst this
              rw [et] at e
              cases e
              exact Nat.le_refl _
        · wtm_at "jw"
          refine ⟨rfl, _, _, _, _, rfl, .inr ⟨j, rj, b, by omega, erj, ebj, rfl, rfl, f1, fun k t' hk e => ?_⟩⟩
          by_cases hki : k < i
          · exact f2 k t' hki e
          · have : k = i := by omega
            subst this
            rw [et] at e
            cases e
            omega
    · obtain ⟨rfl, bv, fv, v8, v9, rfl, hcase⟩ := h
      rcases hcase with ⟨h0, _⟩ | ⟨j, rj, b, hj, erj, ebj, rfl, rfl, f1, f2⟩
      · rw [List.length_map] at h0
        omega
      have hbest : b = bestT (evs late rw) n := first_best hkeys (by omega) ebj f1 fun t ht => by
        obtain ⟨m, hm⟩ := List.mem_iff_getElem?.mp ht
        have hm1 := (List.getElem?_eq_some_iff.mp hm).1
        exact f2 m t (by rw [List.length_map]; omega) hm
      subst hbest
      have hb6 := wl.2 j rj _ erj ebj
      have hbl := bestT_len (evs late rw) n
      have hbb : Below n (bestT (evs late rw) n) := (tbls_mem.mp (List.mem_of_getElem? ebj)).2
      wtm_at "jw"
      refine ⟨R, rw, n, late, rfl, hR6, hw24, by omega, by omega, by omega, fun to H7 s7 ht7 => ?_⟩
      have d10 := d9.same s7
      have hb7 := s7 _ _ hb6
      have hR7 := hR6.tps (Tps.of s7)
      wtm_at "jw"
      refine ⟨to, _, rfl, ht7, by rw [hbl]; omega, fun H8 s8 => ?_⟩
      have d11 := d10.same s8
      have hb8 := s8 _ _ hb7
      have hR8 := hR7.tps (Tps.of s8)
      wtm_at "jw"
      refine i_neS' (dp_ints (SqT.of (s8 _ _ ht7))) (dp_ints (SqT.of hb8)) (shp_ints _) (by decide) ?_
      wtm_at "jw"
      intro D hD
      have fD := d11.free hD
      have nD := d0.ne_none fD
      refine l_range (fun i H' => Drew p c H8 H' ∧ ∃ us : List Int, H' D = some (.lst (us.map V.int)) ∧ us.length = i) ⟨d11.at_.drew.new hD, [], upd_same, rfl⟩ (fun i H' hi h => ?_) (fun H' h => ?_)
      · obtain ⟨g1, us, h1, hn⟩ := h
        wtm_at "jw"
        refine ⟨rfl, ?_⟩
        wtm_at "jw"
        refine ⟨p, c, _, rfl, g1.at_, by omega, by omega, fun z H9 z0 z1 g2 => ?_⟩
        exact ⟨_, g2.kp _ _ h1 nD, small1000 (by rw [List.length_map]; omega), (g1.trans g2).put d11.at_ hD, us ++ [z], by rw [upd_same, List.map_append]; rfl, by simp [hn]⟩
      · obtain ⟨g1, us, h1, hn⟩ := h
        rw [Int.toNat_natCast] at hn
        have t9 := g1.tps d11.at_
        have hb9 := (t9 rj).1 _ hb8
        have hR9 := hR8.tps t9
        wtm_at "jw"
        intro ot hot
        have s10 := same_new (o := .tup (us.map V.int)) hot
        have g2 := g1.new (o := .tup (us.map V.int)) hot
        have ho10 := upd_same (H := H') (a := ot) (o := .tup (us.map V.int))
        have hb10 := s10 _ _ hb9
        have hR10 := hR9.tps (Tps.of s10)
        generalize upd H' ot (.tup (us.map V.int)) = H10 at s10 g2 ho10 hb10 hR10 ⊢
        wtm_at "jw"
        refine ⟨p, c, rj, _, n, rfl, g2.at_, SqT.of hb10, hbl, hbb, n2, n4, fun bt bs H11 g3 hbt hbtl => ?_⟩
        have t11 := g3.tps g2.at_
        have hb11 := (t11 rj).1 _ hb10
        have ho11 := (t11 ot).1 _ ho10
        have hR11 := hR10.tps t11
        wtm_at "jw"
        intro M hM
        have s12 := same_new (o := .lst [V.ref rj, V.ref bt, V.ref ot]) hM
        have hM12 := upd_same (H := H11) (a := M) (o := .lst [V.ref rj, V.ref bt, V.ref ot])
        have g4 := (g2.trans g3).new (o := .lst [V.ref rj, V.ref bt, V.ref ot]) hM
        have hb12 := s12 _ _ hb11
        have ho12 := s12 _ _ ho11
        have hbt12 := Same.tup s12 hbt
        have hR12 := hR11.tps (Tps.of s12)
        generalize upd H11 M (.lst [V.ref rj, V.ref bt, V.ref ot]) = H12 at s12 hM12 g4 hb12 ho12 hbt12 hR12 ⊢
        wtm_at "jw"
        refine f_list (xs := [V.ref rj, V.ref bt, V.ref ot]) (fun i σ H' => Same H12 H' ∧ ∃ v8 v9, σ = [some (.ref a), some (.ref p), some (.int (n : Int)), some (.int (seats : Int)), some (.int (late : Int)), some (.ref R), some (.ref rj), some (.int (((evs late rw).countP (wrg (bestT (evs late rw) n)) : Nat) : Int)), v8, v9, some (.ref to), some (.ref ot), none]) ⟨Same.refl _, _, _, rfl⟩ (fun i σ H' _ h => SqL.of (h.1 _ _ hM12)) (fun i x σ H' hi h => ?_) (fun σ H' h => ?_)
        · obtain ⟨s13, v8, v9, rfl⟩ := h
          obtain ⟨u, ws, rfl, hu, hwn⟩ : ∃ (u : Addr) (ws : List Int), x = V.ref u ∧ SqT K H' u (ws.map V.int) ∧ ws.length = n := by
            have := List.mem_of_getElem? hi
            simp only [List.mem_cons, List.not_mem_nil, or_false] at this
            rcases this with rfl | rfl | rfl
            · exact ⟨_, _, rfl, SqT.of (s13 _ _ hb12), hbl⟩
            · exact ⟨_, _, rfl, Same.tup s13 hbt12, hbtl⟩
            · exact ⟨_, _, rfl, SqT.of (s13 _ _ ho12), hn⟩
          have hR13 := hR12.tps (Tps.of s13)
          have hk2 : Keys ws.length (evs late rw) := by rw [hwn]; exact hkeys
          wtm_at "jw"
          refine ⟨u, R, ws, rw, late, rfl, hu, hR13, hw24, by omega, hk2, fun H14 s14 => ?_⟩
          wtm_at "jw"
          refine ⟨_, rfl, ?_⟩
          wtm_at "jw"
          refine ⟨u, R, ws, rw, late, rfl, Same.tup s14 hu, hR13.tps (Tps.of s14), l0, hw24, hk2, ?_⟩
          wtm_at "jw"
          refine c_noN rfl ?_
          wtm_at "jw"
          exact ⟨s13.trans s14, _, _, rfl⟩
        · obtain ⟨s13, v8, v9, rfl⟩ := h
          obtain ⟨rws, hRt, rwl⟩ := hR12.tps (Tps.of s13)
          have g5 := g4.same s13
          have ho13 := s13 _ _ ho12
          have hrr := rwl.1
          wtm_at "jw"
          refine ⟨p, c, R, _, rfl, g5.at_, .inr (SqT.of hRt), by rw [List.length_map]; omega, by rw [List.length_map]; omega, fun x H15 hx g6 => ?_⟩
          obtain ⟨m, hm⟩ := List.mem_iff_getElem?.mp hx
          obtain ⟨rr, w, rfl, _, ew, hrw, _⟩ := rwl.at hm
          have t15 := g6.tps g5.at_
          have hww := hall w (List.mem_of_getElem? ew)
          wtm_at "jw"
          exact ⟨ot, rr, us, w, n, late, rfl, SqT.of ((t15 ot).1 _ ho13), hn, by omega, SqT.of ((t15 rr).1 _ hrw), hww.2, hww.1, l0, l24, fun H16 s16 => k _⟩
theorem law_hands {K : PySem.W.Frag} {H : Hp} (a : Addr) (ns : List Int) (hl : ns.length ≤ 63) (hb : ∀ z ∈ ns, Builtin.Int.intBits z ≤ 1048576) (hS : SqL K H a (ns.map V.int)) :
    sp_law K [.ref a] H (fun v _ => v = .bl true) fun _ _ _ => False := ⟨a, ns, rfl, hS, hl, fun _ => rfl⟩
theorem all_mk {l : PySem.W.OpenLaw} {w : World} {K : PySem.W.Frag} {h : Heap} {mg : Str → Option Value} {fa : Addr} (X : K.In h) (G : h.Ns mainGlobals mg) (hfa : mg "law" = some (.ref fa))
    {f__law_begin : Addr} {od__law_begin an__law_begin : Option Addr} {sl__law_begin : Array (Option Value)} {oc__law_begin kV__law_begin dc__law_begin pm__law_begin cd__law_begin ct__law_begin : Value}
    {f__law_draw : Addr} {od__law_draw an__law_draw : Option Addr} {sl__law_draw : Array (Option Value)} {oc__law_draw kV__law_draw dc__law_draw pm__law_draw cd__law_draw ct__law_draw : Value}
    {f__law_pick : Addr} {od__law_pick an__law_pick : Option Addr} {sl__law_pick : Array (Option Value)} {oc__law_pick kV__law_pick dc__law_pick pm__law_pick cd__law_pick ct__law_pick : Value}
    {f__law_known_key : Addr} {od__law_known_key an__law_known_key : Option Addr} {sl__law_known_key : Array (Option Value)} {oc__law_known_key kV__law_known_key dc__law_known_key pm__law_known_key cd__law_known_key ct__law_known_key : Value}
    {f__law_keys_row : Addr} {od__law_keys_row an__law_keys_row : Option Addr} {sl__law_keys_row : Array (Option Value)} {oc__law_keys_row kV__law_keys_row dc__law_keys_row pm__law_keys_row cd__law_keys_row ct__law_keys_row : Value}
    {f__law_record : Addr} {od__law_record an__law_record : Option Addr} {sl__law_record : Array (Option Value)} {oc__law_record kV__law_record dc__law_record pm__law_record cd__law_record ct__law_record : Value}
    {f__law_tables : Addr} {od__law_tables an__law_tables : Option Addr} {sl__law_tables : Array (Option Value)} {oc__law_tables kV__law_tables dc__law_tables pm__law_tables cd__law_tables ct__law_tables : Value}
    {f_counted_pairs : Addr} {od_counted_pairs an_counted_pairs : Option Addr} {sl_counted_pairs : Array (Option Value)} {oc_counted_pairs kV_counted_pairs dc_counted_pairs pm_counted_pairs cd_counted_pairs ct_counted_pairs : Value}
    {f_best_key : Addr} {od_best_key an_best_key : Option Addr} {sl_best_key : Array (Option Value)} {oc_best_key kV_best_key dc_best_key pm_best_key cd_best_key ct_best_key : Value}
    {f_best_table : Addr} {od_best_table an_best_table : Option Addr} {sl_best_table : Array (Option Value)} {oc_best_table kV_best_table dc_best_table pm_best_table cd_best_table ct_best_table : Value}
    {f_last_known : Addr} {od_last_known an_last_known : Option Addr} {sl_last_known : Array (Option Value)} {oc_last_known kV_last_known dc_last_known pm_last_known cd_last_known ct_last_known : Value}
    {f_guess_of : Addr} {od_guess_of an_guess_of : Option Addr} {sl_guess_of : Array (Option Value)} {oc_guess_of kV_guess_of dc_guess_of pm_guess_of cd_guess_of ct_guess_of : Value}
    {f__law_is_int : Addr} {od__law_is_int an__law_is_int : Option Addr} {sl__law_is_int : Array (Option Value)} {oc__law_is_int kV__law_is_int dc__law_is_int pm__law_is_int cd__law_is_int ct__law_is_int : Value}
    {f__law_guesses_right : Addr} {od__law_guesses_right an__law_guesses_right : Option Addr} {sl__law_guesses_right : Array (Option Value)} {oc__law_guesses_right kV__law_guesses_right dc__law_guesses_right pm__law_guesses_right cd__law_guesses_right ct__law_guesses_right : Value}
    {f__law_wrong : Addr} {od__law_wrong an__law_wrong : Option Addr} {sl__law_wrong : Array (Option Value)} {oc__law_wrong kV__law_wrong dc__law_wrong pm__law_wrong cd__law_wrong ct__law_wrong : Value}
    {f__law_bent_table : Addr} {od__law_bent_table an__law_bent_table : Option Addr} {sl__law_bent_table : Array (Option Value)} {oc__law_bent_table kV__law_bent_table dc__law_bent_table pm__law_bent_table cd__law_bent_table ct__law_bent_table : Value}
    {f_wrong_guesses : Addr} {od_wrong_guesses an_wrong_guesses : Option Addr} {sl_wrong_guesses : Array (Option Value)} {oc_wrong_guesses kV_wrong_guesses dc_wrong_guesses pm_wrong_guesses cd_wrong_guesses ct_wrong_guesses : Value}
    {f__law_is_ints : Addr} {od__law_is_ints an__law_is_ints : Option Addr} {sl__law_is_ints : Array (Option Value)} {oc__law_is_ints kV__law_is_ints dc__law_is_ints pm__law_is_ints cd__law_is_ints ct__law_is_ints : Value}
    {f_law : Addr} {od_law an_law : Option Addr} {sl_law : Array (Option Value)} {oc_law kV_law dc_law pm_law cd_law ct_law : Value}
    (a__law_begin : PySem.W.nsIn K mainGlobals "_law_begin" = some (some (.ref f__law_begin))) (l__law_begin : K.lookup f__law_begin = some ⟨oc__law_begin, od__law_begin, .func (PySem.W.fnOf "_law_begin" "_law_begin" (defArgs s__law_begin) (defBody s__law_begin) (defScope s__law_begin) .none kV__law_begin dc__law_begin pm__law_begin an__law_begin cd__law_begin ct__law_begin), sl__law_begin⟩) (c__law_begin : PySem.W.codeIn K cd__law_begin "_law_begin" = true) (k__law_begin : PySem.W.keepIn K (.ref f__law_begin) = true)
    (a__law_draw : PySem.W.nsIn K mainGlobals "_law_draw" = some (some (.ref f__law_draw))) (l__law_draw : K.lookup f__law_draw = some ⟨oc__law_draw, od__law_draw, .func (PySem.W.fnOf "_law_draw" "_law_draw" (defArgs s__law_draw) (defBody s__law_draw) (defScope s__law_draw) .none kV__law_draw dc__law_draw pm__law_draw an__law_draw cd__law_draw ct__law_draw), sl__law_draw⟩) (c__law_draw : PySem.W.codeIn K cd__law_draw "_law_draw" = true) (k__law_draw : PySem.W.keepIn K (.ref f__law_draw) = true)
    (a__law_pick : PySem.W.nsIn K mainGlobals "_law_pick" = some (some (.ref f__law_pick))) (l__law_pick : K.lookup f__law_pick = some ⟨oc__law_pick, od__law_pick, .func (PySem.W.fnOf "_law_pick" "_law_pick" (defArgs s__law_pick) (defBody s__law_pick) (defScope s__law_pick) .none kV__law_pick dc__law_pick pm__law_pick an__law_pick cd__law_pick ct__law_pick), sl__law_pick⟩) (c__law_pick : PySem.W.codeIn K cd__law_pick "_law_pick" = true) (k__law_pick : PySem.W.keepIn K (.ref f__law_pick) = true)
    (a__law_known_key : PySem.W.nsIn K mainGlobals "_law_known_key" = some (some (.ref f__law_known_key))) (l__law_known_key : K.lookup f__law_known_key = some ⟨oc__law_known_key, od__law_known_key, .func (PySem.W.fnOf "_law_known_key" "_law_known_key" (defArgs s__law_known_key) (defBody s__law_known_key) (defScope s__law_known_key) .none kV__law_known_key dc__law_known_key pm__law_known_key an__law_known_key cd__law_known_key ct__law_known_key), sl__law_known_key⟩) (c__law_known_key : PySem.W.codeIn K cd__law_known_key "_law_known_key" = true) (k__law_known_key : PySem.W.keepIn K (.ref f__law_known_key) = true)
    (a__law_keys_row : PySem.W.nsIn K mainGlobals "_law_keys_row" = some (some (.ref f__law_keys_row))) (l__law_keys_row : K.lookup f__law_keys_row = some ⟨oc__law_keys_row, od__law_keys_row, .func (PySem.W.fnOf "_law_keys_row" "_law_keys_row" (defArgs s__law_keys_row) (defBody s__law_keys_row) (defScope s__law_keys_row) .none kV__law_keys_row dc__law_keys_row pm__law_keys_row an__law_keys_row cd__law_keys_row ct__law_keys_row), sl__law_keys_row⟩) (c__law_keys_row : PySem.W.codeIn K cd__law_keys_row "_law_keys_row" = true) (k__law_keys_row : PySem.W.keepIn K (.ref f__law_keys_row) = true)
    (a__law_record : PySem.W.nsIn K mainGlobals "_law_record" = some (some (.ref f__law_record))) (l__law_record : K.lookup f__law_record = some ⟨oc__law_record, od__law_record, .func (PySem.W.fnOf "_law_record" "_law_record" (defArgs s__law_record) (defBody s__law_record) (defScope s__law_record) .none kV__law_record dc__law_record pm__law_record an__law_record cd__law_record ct__law_record), sl__law_record⟩) (c__law_record : PySem.W.codeIn K cd__law_record "_law_record" = true) (k__law_record : PySem.W.keepIn K (.ref f__law_record) = true)
    (a__law_tables : PySem.W.nsIn K mainGlobals "_law_tables" = some (some (.ref f__law_tables))) (l__law_tables : K.lookup f__law_tables = some ⟨oc__law_tables, od__law_tables, .func (PySem.W.fnOf "_law_tables" "_law_tables" (defArgs s__law_tables) (defBody s__law_tables) (defScope s__law_tables) .none kV__law_tables dc__law_tables pm__law_tables an__law_tables cd__law_tables ct__law_tables), sl__law_tables⟩) (c__law_tables : PySem.W.codeIn K cd__law_tables "_law_tables" = true) (k__law_tables : PySem.W.keepIn K (.ref f__law_tables) = true)
    (a_counted_pairs : PySem.W.nsIn K mainGlobals "counted_pairs" = some (some (.ref f_counted_pairs))) (l_counted_pairs : K.lookup f_counted_pairs = some ⟨oc_counted_pairs, od_counted_pairs, .func (PySem.W.fnOf "counted_pairs" "counted_pairs" (defArgs s_counted_pairs) (defBody s_counted_pairs) (defScope s_counted_pairs) .none kV_counted_pairs dc_counted_pairs pm_counted_pairs an_counted_pairs cd_counted_pairs ct_counted_pairs), sl_counted_pairs⟩) (c_counted_pairs : PySem.W.codeIn K cd_counted_pairs "counted_pairs" = true) (k_counted_pairs : PySem.W.keepIn K (.ref f_counted_pairs) = true)
    (a_best_key : PySem.W.nsIn K mainGlobals "best_key" = some (some (.ref f_best_key))) (l_best_key : K.lookup f_best_key = some ⟨oc_best_key, od_best_key, .func (PySem.W.fnOf "best_key" "best_key" (defArgs s_best_key) (defBody s_best_key) (defScope s_best_key) .none kV_best_key dc_best_key pm_best_key an_best_key cd_best_key ct_best_key), sl_best_key⟩) (c_best_key : PySem.W.codeIn K cd_best_key "best_key" = true) (k_best_key : PySem.W.keepIn K (.ref f_best_key) = true)
    (a_best_table : PySem.W.nsIn K mainGlobals "best_table" = some (some (.ref f_best_table))) (l_best_table : K.lookup f_best_table = some ⟨oc_best_table, od_best_table, .func (PySem.W.fnOf "best_table" "best_table" (defArgs s_best_table) (defBody s_best_table) (defScope s_best_table) .none kV_best_table dc_best_table pm_best_table an_best_table cd_best_table ct_best_table), sl_best_table⟩) (c_best_table : PySem.W.codeIn K cd_best_table "best_table" = true) (k_best_table : PySem.W.keepIn K (.ref f_best_table) = true)
    (a_last_known : PySem.W.nsIn K mainGlobals "last_known" = some (some (.ref f_last_known))) (l_last_known : K.lookup f_last_known = some ⟨oc_last_known, od_last_known, .func (PySem.W.fnOf "last_known" "last_known" (defArgs s_last_known) (defBody s_last_known) (defScope s_last_known) .none kV_last_known dc_last_known pm_last_known an_last_known cd_last_known ct_last_known), sl_last_known⟩) (c_last_known : PySem.W.codeIn K cd_last_known "last_known" = true) (k_last_known : PySem.W.keepIn K (.ref f_last_known) = true)
    (a_guess_of : PySem.W.nsIn K mainGlobals "guess_of" = some (some (.ref f_guess_of))) (l_guess_of : K.lookup f_guess_of = some ⟨oc_guess_of, od_guess_of, .func (PySem.W.fnOf "guess_of" "guess_of" (defArgs s_guess_of) (defBody s_guess_of) (defScope s_guess_of) .none kV_guess_of dc_guess_of pm_guess_of an_guess_of cd_guess_of ct_guess_of), sl_guess_of⟩) (c_guess_of : PySem.W.codeIn K cd_guess_of "guess_of" = true) (k_guess_of : PySem.W.keepIn K (.ref f_guess_of) = true)
    (a__law_is_int : PySem.W.nsIn K mainGlobals "_law_is_int" = some (some (.ref f__law_is_int))) (l__law_is_int : K.lookup f__law_is_int = some ⟨oc__law_is_int, od__law_is_int, .func (PySem.W.fnOf "_law_is_int" "_law_is_int" (defArgs s__law_is_int) (defBody s__law_is_int) (defScope s__law_is_int) .none kV__law_is_int dc__law_is_int pm__law_is_int an__law_is_int cd__law_is_int ct__law_is_int), sl__law_is_int⟩) (c__law_is_int : PySem.W.codeIn K cd__law_is_int "_law_is_int" = true) (k__law_is_int : PySem.W.keepIn K (.ref f__law_is_int) = true)
    (a__law_guesses_right : PySem.W.nsIn K mainGlobals "_law_guesses_right" = some (some (.ref f__law_guesses_right))) (l__law_guesses_right : K.lookup f__law_guesses_right = some ⟨oc__law_guesses_right, od__law_guesses_right, .func (PySem.W.fnOf "_law_guesses_right" "_law_guesses_right" (defArgs s__law_guesses_right) (defBody s__law_guesses_right) (defScope s__law_guesses_right) .none kV__law_guesses_right dc__law_guesses_right pm__law_guesses_right an__law_guesses_right cd__law_guesses_right ct__law_guesses_right), sl__law_guesses_right⟩) (c__law_guesses_right : PySem.W.codeIn K cd__law_guesses_right "_law_guesses_right" = true) (k__law_guesses_right : PySem.W.keepIn K (.ref f__law_guesses_right) = true)
    (a__law_wrong : PySem.W.nsIn K mainGlobals "_law_wrong" = some (some (.ref f__law_wrong))) (l__law_wrong : K.lookup f__law_wrong = some ⟨oc__law_wrong, od__law_wrong, .func (PySem.W.fnOf "_law_wrong" "_law_wrong" (defArgs s__law_wrong) (defBody s__law_wrong) (defScope s__law_wrong) .none kV__law_wrong dc__law_wrong pm__law_wrong an__law_wrong cd__law_wrong ct__law_wrong), sl__law_wrong⟩) (c__law_wrong : PySem.W.codeIn K cd__law_wrong "_law_wrong" = true) (k__law_wrong : PySem.W.keepIn K (.ref f__law_wrong) = true)
    (a__law_bent_table : PySem.W.nsIn K mainGlobals "_law_bent_table" = some (some (.ref f__law_bent_table))) (l__law_bent_table : K.lookup f__law_bent_table = some ⟨oc__law_bent_table, od__law_bent_table, .func (PySem.W.fnOf "_law_bent_table" "_law_bent_table" (defArgs s__law_bent_table) (defBody s__law_bent_table) (defScope s__law_bent_table) .none kV__law_bent_table dc__law_bent_table pm__law_bent_table an__law_bent_table cd__law_bent_table ct__law_bent_table), sl__law_bent_table⟩) (c__law_bent_table : PySem.W.codeIn K cd__law_bent_table "_law_bent_table" = true) (k__law_bent_table : PySem.W.keepIn K (.ref f__law_bent_table) = true)
    (a_wrong_guesses : PySem.W.nsIn K mainGlobals "wrong_guesses" = some (some (.ref f_wrong_guesses))) (l_wrong_guesses : K.lookup f_wrong_guesses = some ⟨oc_wrong_guesses, od_wrong_guesses, .func (PySem.W.fnOf "wrong_guesses" "wrong_guesses" (defArgs s_wrong_guesses) (defBody s_wrong_guesses) (defScope s_wrong_guesses) .none kV_wrong_guesses dc_wrong_guesses pm_wrong_guesses an_wrong_guesses cd_wrong_guesses ct_wrong_guesses), sl_wrong_guesses⟩) (c_wrong_guesses : PySem.W.codeIn K cd_wrong_guesses "wrong_guesses" = true) (k_wrong_guesses : PySem.W.keepIn K (.ref f_wrong_guesses) = true)
    (a__law_is_ints : PySem.W.nsIn K mainGlobals "_law_is_ints" = some (some (.ref f__law_is_ints))) (l__law_is_ints : K.lookup f__law_is_ints = some ⟨oc__law_is_ints, od__law_is_ints, .func (PySem.W.fnOf "_law_is_ints" "_law_is_ints" (defArgs s__law_is_ints) (defBody s__law_is_ints) (defScope s__law_is_ints) .none kV__law_is_ints dc__law_is_ints pm__law_is_ints an__law_is_ints cd__law_is_ints ct__law_is_ints), sl__law_is_ints⟩) (c__law_is_ints : PySem.W.codeIn K cd__law_is_ints "_law_is_ints" = true) (k__law_is_ints : PySem.W.keepIn K (.ref f__law_is_ints) = true)
    (a_law : PySem.W.nsIn K mainGlobals "law" = some (some (.ref f_law))) (l_law : K.lookup f_law = some ⟨oc_law, od_law, .func (PySem.W.fnOf "law" "law" (defArgs s_law) (defBody s_law) (defScope s_law) .none kV_law dc_law pm_law an_law cd_law ct_law), sl_law⟩) (c_law : PySem.W.codeIn K cd_law "law" = true) (k_law : PySem.W.keepIn K (.ref f_law) = true)
    (z_int : PySem.W.nsIn K mainGlobals "int" = some none)
    (z_len : PySem.W.nsIn K mainGlobals "len" = some none)
    (z_abs : PySem.W.nsIn K mainGlobals "abs" = some none)
    (z_range : PySem.W.nsIn K mainGlobals "range" = some none)
    (z_tuple : PySem.W.nsIn K mainGlobals "tuple" = some none)
    (z_isinstance : PySem.W.nsIn K mainGlobals "isinstance" = some none)
    (z_bool : PySem.W.nsIn K mainGlobals "bool" = some none)
    (z_sum : PySem.W.nsIn K mainGlobals "sum" = some none)
    (z_all : PySem.W.nsIn K mainGlobals "all" = some none)
    : ∃ fd : FuncData, (∀ (s : Shared) (v : Value), BindsTo s fd ⟨[v], []⟩ [("script", v)]) ∧ ∀ base : Heap, K.In base → base.Ns mainGlobals mg → FnOk l.prog w K mg base CX0 4 fa fd ["script"] (sp_law K) := by
  have e := hfa.symm.trans (PySem.W.mg_of X G a_law)
  cases e
  have T : Txt mg := ⟨PySem.W.mg_none_of X G z_int, PySem.W.mg_none_of X G z_len, PySem.W.mg_none_of X G z_abs, PySem.W.mg_none_of X G z_range, PySem.W.mg_none_of X G z_tuple, PySem.W.mg_none_of X G z_isinstance, PySem.W.mg_none_of X G z_bool, PySem.W.mg_none_of X G z_sum, PySem.W.mg_none_of X G z_all⟩
  have F__law_begin := fun_mk (st := s__law_begin) l__law_begin c__law_begin k__law_begin
  have D__law_begin : Df K mg "_law_begin" s__law_begin f__law_begin _ ["script"] := ⟨F__law_begin, PySem.W.mg_of X G a__law_begin, F__law_begin.binds (ps := ["script"]) fun _ _ _ _ _ _ us hl => match us, hl with | [_], _ => rfl⟩
  have F__law_draw := fun_mk (st := s__law_draw) l__law_draw c__law_draw k__law_draw
  have D__law_draw : Df K mg "_law_draw" s__law_draw f__law_draw _ ["d", "many"] := ⟨F__law_draw, PySem.W.mg_of X G a__law_draw, F__law_draw.binds (ps := ["d", "many"]) fun _ _ _ _ _ _ us hl => match us, hl with | [_, _], _ => rfl⟩
  have F__law_pick := fun_mk (st := s__law_pick) l__law_pick c__law_pick k__law_pick
  have D__law_pick : Df K mg "_law_pick" s__law_pick f__law_pick _ ["d", "row"] := ⟨F__law_pick, PySem.W.mg_of X G a__law_pick, F__law_pick.binds (ps := ["d", "row"]) fun _ _ _ _ _ _ us hl => match us, hl with | [_, _], _ => rfl⟩
  have F__law_known_key := fun_mk (st := s__law_known_key) l__law_known_key c__law_known_key k__law_known_key
  have D__law_known_key : Df K mg "_law_known_key" s__law_known_key f__law_known_key _ ["row", "tick", "late"] := ⟨F__law_known_key, PySem.W.mg_of X G a__law_known_key, F__law_known_key.binds (ps := ["row", "tick", "late"]) fun _ _ _ _ _ _ us hl => match us, hl with | [_, _, _], _ => rfl⟩
  have F__law_keys_row := fun_mk (st := s__law_keys_row) l__law_keys_row c__law_keys_row k__law_keys_row
  have D__law_keys_row : Df K mg "_law_keys_row" s__law_keys_row f__law_keys_row _ ["d", "size", "many", "rule", "by", "noise"] := ⟨F__law_keys_row, PySem.W.mg_of X G a__law_keys_row, F__law_keys_row.binds (ps := ["d", "size", "many", "rule", "by", "noise"]) fun _ _ _ _ _ _ us hl => match us, hl with | [_, _, _, _, _, _], _ => rfl⟩
  have F__law_record := fun_mk (st := s__law_record) l__law_record c__law_record k__law_record
  have D__law_record : Df K mg "_law_record" s__law_record f__law_record _ ["d", "seats", "many", "late"] := ⟨F__law_record, PySem.W.mg_of X G a__law_record, F__law_record.binds (ps := ["d", "seats", "many", "late"]) fun _ _ _ _ _ _ us hl => match us, hl with | [_, _, _, _], _ => rfl⟩
  have F__law_tables := fun_mk (st := s__law_tables) l__law_tables c__law_tables k__law_tables
  have D__law_tables : Df K mg "_law_tables" s__law_tables f__law_tables _ ["many"] := ⟨F__law_tables, PySem.W.mg_of X G a__law_tables, F__law_tables.binds (ps := ["many"]) fun _ _ _ _ _ _ us hl => match us, hl with | [_], _ => rfl⟩
  have F_counted_pairs := fun_mk (st := s_counted_pairs) l_counted_pairs c_counted_pairs k_counted_pairs
  have D_counted_pairs : Df K mg "counted_pairs" s_counted_pairs f_counted_pairs _ ["rows", "late"] := ⟨F_counted_pairs, PySem.W.mg_of X G a_counted_pairs, F_counted_pairs.binds (ps := ["rows", "late"]) fun _ _ _ _ _ _ us hl => match us, hl with | [_, _], _ => rfl⟩
  have F_best_key := fun_mk (st := s_best_key) l_best_key c_best_key k_best_key
  have D_best_key : Df K mg "best_key" s_best_key f_best_key _ ["pairs", "known", "many"] := ⟨F_best_key, PySem.W.mg_of X G a_best_key, F_best_key.binds (ps := ["pairs", "known", "many"]) fun _ _ _ _ _ _ us hl => match us, hl with | [_, _, _], _ => rfl⟩
  have F_best_table := fun_mk (st := s_best_table) l_best_table c_best_table k_best_table
  have D_best_table : Df K mg "best_table" s_best_table f_best_table _ ["rows", "many", "late"] := ⟨F_best_table, PySem.W.mg_of X G a_best_table, F_best_table.binds (ps := ["rows", "many", "late"]) fun _ _ _ _ _ _ us hl => match us, hl with | [_, _, _], _ => rfl⟩
  have F_last_known := fun_mk (st := s_last_known) l_last_known c_last_known k_last_known
  have D_last_known : Df K mg "last_known" s_last_known f_last_known _ ["known", "tick"] := ⟨F_last_known, PySem.W.mg_of X G a_last_known, F_last_known.binds (ps := ["known", "tick"]) fun _ _ _ _ _ _ us hl => match us, hl with | [_, _], _ => rfl⟩
  have F_guess_of := fun_mk (st := s_guess_of) l_guess_of c_guess_of k_guess_of
  have D_guess_of : Df K mg "guess_of" s_guess_of f_guess_of _ ["table", "known", "tick"] := ⟨F_guess_of, PySem.W.mg_of X G a_guess_of, F_guess_of.binds (ps := ["table", "known", "tick"]) fun _ _ _ _ _ _ us hl => match us, hl with | [_, _, _], _ => rfl⟩
  have F__law_is_int := fun_mk (st := s__law_is_int) l__law_is_int c__law_is_int k__law_is_int
  have D__law_is_int : Df K mg "_law_is_int" s__law_is_int f__law_is_int _ ["thing"] := ⟨F__law_is_int, PySem.W.mg_of X G a__law_is_int, F__law_is_int.binds (ps := ["thing"]) fun _ _ _ _ _ _ us hl => match us, hl with | [_], _ => rfl⟩
  have F__law_guesses_right := fun_mk (st := s__law_guesses_right) l__law_guesses_right c__law_guesses_right k__law_guesses_right
  have D__law_guesses_right : Df K mg "_law_guesses_right" s__law_guesses_right f__law_guesses_right _ ["table", "row", "late"] := ⟨F__law_guesses_right, PySem.W.mg_of X G a__law_guesses_right, F__law_guesses_right.binds (ps := ["table", "row", "late"]) fun _ _ _ _ _ _ us hl => match us, hl with | [_, _, _], _ => rfl⟩
  have F__law_wrong := fun_mk (st := s__law_wrong) l__law_wrong c__law_wrong k__law_wrong
  have D__law_wrong : Df K mg "_law_wrong" s__law_wrong f__law_wrong _ ["table", "rows", "late"] := ⟨F__law_wrong, PySem.W.mg_of X G a__law_wrong, F__law_wrong.binds (ps := ["table", "rows", "late"]) fun _ _ _ _ _ _ us hl => match us, hl with | [_, _, _], _ => rfl⟩
  have F__law_bent_table := fun_mk (st := s__law_bent_table) l__law_bent_table c__law_bent_table k__law_bent_table
  have D__law_bent_table : Df K mg "_law_bent_table" s__law_bent_table f__law_bent_table _ ["d", "table", "many"] := ⟨F__law_bent_table, PySem.W.mg_of X G a__law_bent_table, F__law_bent_table.binds (ps := ["d", "table", "many"]) fun _ _ _ _ _ _ us hl => match us, hl with | [_, _, _], _ => rfl⟩
  have F_wrong_guesses := fun_mk (st := s_wrong_guesses) l_wrong_guesses c_wrong_guesses k_wrong_guesses
  have D_wrong_guesses : Df K mg "wrong_guesses" s_wrong_guesses f_wrong_guesses _ ["table", "rows", "late"] := ⟨F_wrong_guesses, PySem.W.mg_of X G a_wrong_guesses, F_wrong_guesses.binds (ps := ["table", "rows", "late"]) fun _ _ _ _ _ _ us hl => match us, hl with | [_, _, _], _ => rfl⟩
  have F__law_is_ints := fun_mk (st := s__law_is_ints) l__law_is_ints c__law_is_ints k__law_is_ints
  have D__law_is_ints : Df K mg "_law_is_ints" s__law_is_ints f__law_is_ints _ ["row"] := ⟨F__law_is_ints, PySem.W.mg_of X G a__law_is_ints, F__law_is_ints.binds (ps := ["row"]) fun _ _ _ _ _ _ us hl => match us, hl with | [_], _ => rfl⟩
  have F_law := fun_mk (st := s_law) l_law c_law k_law
  have D_law : Df K mg "law" s_law _ _ ["script"] := ⟨F_law, PySem.W.mg_of X G a_law, F_law.binds (ps := ["script"]) fun _ _ _ _ _ _ us hl => match us, hl with | [_], _ => rfl⟩
  refine ⟨PySem.W.fnOf "law" "law" (defArgs s_law) (defBody s_law) (defScope s_law) .none kV_law dc_law pm_law an_law cd_law ct_law, fun s v => .of_eq rfl, fun base _ _ => ?_⟩
  have C__law_begin : Cl l.prog w K mg base 1 "_law_begin" (sp__law_begin K) := D__law_begin.cl (ok__law_begin D__law_begin T )
  have C__law_draw : Cl l.prog w K mg base 1 "_law_draw" (sp__law_draw K) := D__law_draw.cl (ok__law_draw D__law_draw T )
  have C__law_pick : Cl l.prog w K mg base 2 "_law_pick" (sp__law_pick K) := D__law_pick.cl (ok__law_pick D__law_pick T C__law_draw)
  have C__law_known_key : Cl l.prog w K mg base 1 "_law_known_key" (sp__law_known_key K) := D__law_known_key.cl (ok__law_known_key D__law_known_key T )
  have C__law_keys_row : Cl l.prog w K mg base 2 "_law_keys_row" (sp__law_keys_row K) := D__law_keys_row.cl (ok__law_keys_row D__law_keys_row T C__law_draw C__law_known_key)
  have C__law_record : Cl l.prog w K mg base 3 "_law_record" (sp__law_record K) := D__law_record.cl (ok__law_record D__law_record T C__law_pick C__law_draw C__law_keys_row)
  have C__law_tables : Cl l.prog w K mg base 1 "_law_tables" (sp__law_tables K) := D__law_tables.cl (ok__law_tables D__law_tables T )
  have C_counted_pairs : Cl l.prog w K mg base 1 "counted_pairs" (sp_counted_pairs K) := D_counted_pairs.cl (ok_counted_pairs D_counted_pairs T )
  have C_best_key : Cl l.prog w K mg base 1 "best_key" (sp_best_key K) := D_best_key.cl (ok_best_key D_best_key T )
  have C_best_table : Cl l.prog w K mg base 2 "best_table" (sp_best_table K) := D_best_table.cl (ok_best_table D_best_table T C_counted_pairs C_best_key)
  have C_last_known : Cl l.prog w K mg base 1 "last_known" (sp_last_known K) := D_last_known.cl (ok_last_known D_last_known T )
  have C_guess_of : Cl l.prog w K mg base 2 "guess_of" (sp_guess_of K) := D_guess_of.cl (ok_guess_of D_guess_of T C_last_known)
  have C__law_is_int : Cl l.prog w K mg base 1 "_law_is_int" (sp__law_is_int K) := D__law_is_int.cl (ok__law_is_int D__law_is_int T )
  have C__law_guesses_right : Cl l.prog w K mg base 3 "_law_guesses_right" (sp__law_guesses_right K) := D__law_guesses_right.cl (ok__law_guesses_right D__law_guesses_right T C_guess_of C__law_is_int C__law_known_key)
  have C__law_wrong : Cl l.prog w K mg base 2 "_law_wrong" (sp__law_wrong K) := D__law_wrong.cl (ok__law_wrong D__law_wrong T C__law_known_key)
  have C__law_bent_table : Cl l.prog w K mg base 2 "_law_bent_table" (sp__law_bent_table K) := D__law_bent_table.cl (ok__law_bent_table D__law_bent_table T C__law_draw)
  have C_wrong_guesses : Cl l.prog w K mg base 2 "wrong_guesses" (sp_wrong_guesses K) := D_wrong_guesses.cl (ok_wrong_guesses D_wrong_guesses T C_counted_pairs)
  have C__law_is_ints : Cl l.prog w K mg base 2 "_law_is_ints" (sp__law_is_ints K) := D__law_is_ints.cl (ok__law_is_ints D__law_is_ints T C__law_is_int)
  exact ok_law D_law T C__law_begin C__law_pick C__law_record C__law_tables C_best_table C__law_guesses_right C__law_wrong C__law_bent_table C_wrong_guesses C__law_is_ints C__law_draw C__law_is_int
theorem walk {l : PySem.W.OpenLaw} {q : Program} {loose : List Str} {XP : (Str → Option Value) → Heap → Prop} {YP : World → Heap → Prop} {d : DefRec} {K : Params → PySem.W.Frag} (hn : l.most = some 63) (hdf : d.params.defaults = [])
    (hY : ∀ (w : World) (h : Heap), YP w h → (K w.params).In h)
    (F : ∀ (w : World) (mg : Str → Option Value) (fa : Addr) (h : Heap), (K w.params).In h → h.Ns mainGlobals mg → mg d.name = some (.ref fa) →
      ∃ fd : FuncData, (∀ (s : Shared) (u : Value), BindsTo s fd ⟨[u], []⟩ [("script", u)]) ∧ ∀ base : Heap, (K w.params).In base → base.Ns mainGlobals mg → FnOk l.prog w (K w.params) mg base CX0 4 fa fd ["script"] (sp_law (K w.params))) :
    PySem.W.WalkO q loose XP YP l.row.toRowW d [] (fun f vs => PySem.call f vs) :=
  L2.walk_ofB (n := 63) (k := 4) (x := "script") (CX := fun _ => CX0) (sp := fun w => sp_law (K w.params)) hn (by decide) hdf ⟨rfl, by decide, by decide⟩ hY F (fun _ _ a ns hl hb _ hS => law_hands a ns hl hb hS) fun _ _ _ _ _ z => z
end Law
open PySem PySem.W PyProof.Rows in
set_option maxRecDepth 100000 in
set_option maxHeartbeats 0 in
theorem PySem.Challenge.cw_judgedplay_k94_best_tables_holds : PySem.Challenge.rw_judgedplay_k94_best_tables.Holds := by
  w_on; o_law; k_head; (case hw => w_witness2)
  k_fill
  refine Law.walk (l := PySem.Challenge.rw_judgedplay_k94_best_tables) rfl rfl (fun w h Y => PySem.W.kIn_of Y) ?F
  case F =>
    intro w mg fa h KX G hmg
    refine' Law.all_mk KX G hmg ?a__law_begin ?l__law_begin ?c__law_begin ?k__law_begin ?a__law_draw ?l__law_draw ?c__law_draw ?k__law_draw ?a__law_pick ?l__law_pick ?c__law_pick ?k__law_pick ?a__law_known_key ?l__law_known_key ?c__law_known_key ?k__law_known_key ?a__law_keys_row ?l__law_keys_row ?c__law_keys_row ?k__law_keys_row ?a__law_record ?l__law_record ?c__law_record ?k__law_record ?a__law_tables ?l__law_tables ?c__law_tables ?k__law_tables ?a_counted_pairs ?l_counted_pairs ?c_counted_pairs ?k_counted_pairs ?a_best_key ?l_best_key ?c_best_key ?k_best_key ?a_best_table ?l_best_table ?c_best_table ?k_best_table ?a_last_known ?l_last_known ?c_last_known ?k_last_known ?a_guess_of ?l_guess_of ?c_guess_of ?k_guess_of ?a__law_is_int ?l__law_is_int ?c__law_is_int ?k__law_is_int ?a__law_guesses_right ?l__law_guesses_right ?c__law_guesses_right ?k__law_guesses_right ?a__law_wrong ?l__law_wrong ?c__law_wrong ?k__law_wrong ?a__law_bent_table ?l__law_bent_table ?c__law_bent_table ?k__law_bent_table ?a_wrong_guesses ?l_wrong_guesses ?c_wrong_guesses ?k_wrong_guesses ?a__law_is_ints ?l__law_is_ints ?c__law_is_ints ?k__law_is_ints ?a_law ?l_law ?c_law ?k_law ?z_int ?z_len ?z_abs ?z_range ?z_tuple ?z_isinstance ?z_bool ?z_sum ?z_all
    (case a__law_begin => k_is)
    (case l__law_begin => k_is)
    (case c__law_begin => k_is)
    (case k__law_begin => k_is)
    (case a__law_draw => k_is)
    (case l__law_draw => k_is)
    (case c__law_draw => k_is)
    (case k__law_draw => k_is)
    (case a__law_pick => k_is)
    (case l__law_pick => k_is)
    (case c__law_pick => k_is)
    (case k__law_pick => k_is)
    (case a__law_known_key => k_is)
    (case l__law_known_key => k_is)
    (case c__law_known_key => k_is)
    (case k__law_known_key => k_is)
    (case a__law_keys_row => k_is)
    (case l__law_keys_row => k_is)
    (case c__law_keys_row => k_is)
    (case k__law_keys_row => k_is)
    (case a__law_record => k_is)
    (case l__law_record => k_is)
    (case c__law_record => k_is)
    (case k__law_record => k_is)
    (case a__law_tables => k_is)
    (case l__law_tables => k_is)
    (case c__law_tables => k_is)
    (case k__law_tables => k_is)
    (case a_counted_pairs => k_is)
    (case l_counted_pairs => k_is)
    (case c_counted_pairs => k_is)
    (case k_counted_pairs => k_is)
    (case a_best_key => k_is)
    (case l_best_key => k_is)
    (case c_best_key => k_is)
    (case k_best_key => k_is)
    (case a_best_table => k_is)
    (case l_best_table => k_is)
    (case c_best_table => k_is)
    (case k_best_table => k_is)
    (case a_last_known => k_is)
    (case l_last_known => k_is)
    (case c_last_known => k_is)
    (case k_last_known => k_is)
    (case a_guess_of => k_is)
    (case l_guess_of => k_is)
    (case c_guess_of => k_is)
    (case k_guess_of => k_is)
    (case a__law_is_int => k_is)
    (case l__law_is_int => k_is)
    (case c__law_is_int => k_is)
    (case k__law_is_int => k_is)
    (case a__law_guesses_right => k_is)
    (case l__law_guesses_right => k_is)
    (case c__law_guesses_right => k_is)
    (case k__law_guesses_right => k_is)
    (case a__law_wrong => k_is)
    (case l__law_wrong => k_is)
    (case c__law_wrong => k_is)
    (case k__law_wrong => k_is)
    (case a__law_bent_table => k_is)
    (case l__law_bent_table => k_is)
    (case c__law_bent_table => k_is)
    (case k__law_bent_table => k_is)
    (case a_wrong_guesses => k_is)
    (case l_wrong_guesses => k_is)
    (case c_wrong_guesses => k_is)
    (case k_wrong_guesses => k_is)
    (case a__law_is_ints => k_is)
    (case l__law_is_ints => k_is)
    (case c__law_is_ints => k_is)
    (case k__law_is_ints => k_is)
    (case a_law => k_is)
    (case l_law => k_is)
    (case c_law => k_is)
    (case k_law => k_is)
    (case z_int => k_is)
    (case z_len => k_is)
    (case z_abs => k_is)
    (case z_range => k_is)
    (case z_tuple => k_is)
    (case z_isinstance => k_is)
    (case z_bool => k_is)
    (case z_sum => k_is)
    (case z_all => k_is)
#print axioms PySem.Challenge.cw_judgedplay_k94_best_tables_holds
