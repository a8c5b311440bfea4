import PyProof.Rows.All
import Wide.All
import OpenK.AllK
import Wide.FinOn
import HandS.ForMost
import HandS.Wide
import HandS.WideBits
import HandS.IsInst
import HandS.TupAny
import HandS.Deep
import HandS.EndBits
import HandS.More
import HandS.Walk
import HandS.SortRule
import PySem.Challenge.RW_judgedplay_k56_parcels
set_option Elab.async false
set_option linter.all false
set_option maxRecDepth 100000
set_option maxHeartbeats 4000000
/-! ### my own layer: introduction forms for the readings -/
namespace Jp
open PySem PySem.Spec PyProof.Rows L2
/-! rules by names -/
section
variable {X : Cx}
def rInt1 : List V → Hp → VK → Prop := fun xs H Q => (∃ i, xs = [.int i] ∧ Q (.int i) H) ∨ ∃ k, xs = [.bl k] ∧ Q (.int (if k then 1 else 0)) H
theorem c_int : CallR X (.type "int") rInt1 := call_int1
def rAbs : List V → Hp → VK → Prop := fun xs H Q => ∃ i, xs = [.int i] ∧ Q (.int (if i < 0 then -i else i)) H
theorem c_abs : CallR X (.builtin "abs") rAbs := call_abs
def rMax2 : List V → Hp → VK → Prop := fun xs H Q => ∃ i j, xs = [.int i, .int j] ∧ Q (.int (if j > i then j else i)) H
theorem c_max2 (hc : X.calm = true) : CallR X (.builtin "max") rMax2 := call_max2 hc
def rMin2 : List V → Hp → VK → Prop := fun xs H Q => ∃ i j, xs = [.int i, .int j] ∧ Q (.int (if j < i then j else i)) H
theorem c_min2 (hc : X.calm = true) : CallR X (.builtin "min") rMin2 := call_min2 hc
def qLen (K : PySem.W.Frag) : List V → Hp → VK → Prop := fun xs H Q => ∃ x n, xs = [x] ∧ LenV K x H n ∧ Q (.int (n : Nat)) H
theorem c_len : CallR X (.builtin "len") (qLen X.K) := call_len
def rLenD : List V → Hp → VK → Prop := fun xs H Q => ∃ a kvs, xs = [V.ref a] ∧ H a = some (.dK kvs) ∧ Q (.int kvs.length) H
theorem c_lenD : CallR X (.builtin "len") rLenD := call_lenD
def rTupOf (K : PySem.W.Frag) : List V → Hp → VK → Prop := fun xs H Q => ∃ p ys, xs = [.ref p] ∧ ((SqL K H p ys ∧ ∀ l, H l = none → Q (.ref l) (upd H l (.tup ys))) ∨ (SqT K H p ys ∧ Q (.ref p) H))
theorem c_tup : CallR X (.type "tuple") (rTupOf X.K) := call_tuple_of
def rLstOf (K : PySem.W.Frag) : List V → Hp → VK → Prop := fun xs H Q => ∃ p ys, xs = [.ref p] ∧ (SqL K H p ys ∨ SqT K H p ys) ∧ ∀ l, H l = none → Q (.ref l) (upd H l (.lst ys))
theorem c_lst : CallR X (.type "list") (rLstOf X.K) := call_list_of
def rBool1 : List V → Hp → VK → Prop := fun xs H Q => (∃ i, xs = [.int i] ∧ Q (.bl (i != 0)) H) ∨ ∃ k, xs = [.bl k] ∧ Q (.bl k) H
theorem c_bool1 : CallR X (.type "bool") rBool1 := call_bool1
def rIsNon : R2 := fun x y H Q => y = .non ∧ Q (.bl (decide (x = .non))) H
theorem o_isN : OpR X (compareOp .Is) rIsNon := op_isN
def rNotNon : R2 := fun x y H Q => y = .non ∧ Q (.bl (!decide (x = .non))) H
theorem o_notN : OpR X (compareOp .IsNot) rNotNon := op_notN
def rAddStr : R2 := fun x y H Q => ∃ i j, x = .str i ∧ y = .str j ∧ i.length + j.length ≤ sizeLine ∧ Q (.str (i ++ j)) H
theorem o_addS : OpR X (binaryOp .Add) rAddStr := op_add_str
theorem o_iaddS : OpR X (inplaceOp .Add) rAddStr := iop_add_str
end
section
variable {K : PySem.W.Frag} {σ : L2.St} {H : Hp} {Q : VK}
theorem i_isN {x : V} (q : Q (.bl (decide (x = .non))) H) : rIsNon x .non H Q := ⟨rfl, q⟩
theorem i_notN {x : V} (q : Q (.bl (!decide (x = .non))) H) : rNotNon x .non H Q := ⟨rfl, q⟩
theorem i_int {i : Int} (q : Q (.int i) H) : rInt1 [.int i] H Q := .inl ⟨i, rfl, q⟩
theorem i_intB {k : Bool} (q : Q (.int (if k then 1 else 0)) H) : rInt1 [.bl k] H Q := .inr ⟨k, rfl, q⟩
theorem i_abs {i : Int} (q : Q (.int (if i < 0 then -i else i)) H) : rAbs [.int i] H Q := ⟨i, rfl, q⟩
theorem i_max2 {i j : Int} (q : Q (.int (if j > i then j else i)) H) : rMax2 [.int i, .int j] H Q := ⟨i, j, rfl, q⟩
theorem i_min2 {i j : Int} (q : Q (.int (if j < i then j else i)) H) : rMin2 [.int i, .int j] H Q := ⟨i, j, rfl, q⟩
theorem i_lenL {p : Addr} {xs : List V} (h : SqL K H p xs) (q : Q (.int xs.length) H) : qLen K [.ref p] H Q := ⟨.ref p, xs.length, rfl, .inl ⟨xs, h, rfl⟩, q⟩
theorem i_lenT {p : Addr} {xs : List V} (h : SqT K H p xs) (q : Q (.int xs.length) H) : qLen K [.ref p] H Q := ⟨.ref p, xs.length, rfl, .inr ⟨xs, h, rfl⟩, q⟩
theorem i_lenS {x : Str} (h : x.length ≤ sizeLine) (q : Q (.int x.length) H) : qLen K [.str x] H Q := ⟨.str x, x.length, rfl, ⟨h, rfl⟩, q⟩
theorem i_lenD {p : Addr} {kvs : List (L2.Key × V)} (h : H p = some (.dK kvs)) (q : Q (.int kvs.length) H) : rLenD [.ref p] H Q := ⟨p, kvs, rfl, h, q⟩
theorem i_tupL {p : Addr} {ys : List V} (h : SqL K H p ys) (q : ∀ l, H l = none → Q (.ref l) (upd H l (.tup ys))) : rTupOf K [.ref p] H Q := ⟨p, ys, rfl, .inl ⟨h, q⟩⟩
theorem i_tupT {p : Addr} {ys : List V} (h : SqT K H p ys) (q : Q (.ref p) H) : rTupOf K [.ref p] H Q := ⟨p, ys, rfl, .inr ⟨h, q⟩⟩
theorem i_lstL {p : Addr} {ys : List V} (h : SqL K H p ys) (q : ∀ l, H l = none → Q (.ref l) (upd H l (.lst ys))) : rLstOf K [.ref p] H Q := ⟨p, ys, rfl, .inl h, q⟩
theorem i_lstT {p : Addr} {ys : List V} (h : SqT K H p ys) (q : ∀ l, H l = none → Q (.ref l) (upd H l (.lst ys))) : rLstOf K [.ref p] H Q := ⟨p, ys, rfl, .inr h, q⟩
theorem i_catA {p b : Addr} {xs ys : List V} (h1 : SqT K H p xs) (h2 : SqT K H b ys) (hl : xs.length + ys.length ≤ sizeLine) (q : ∀ (r : Addr) (H' : Hp), (∀ b o, H b = some o → H' b = some o) → SqT K H' r (xs ++ ys) → Q (.ref r) H') : rCatA K (.ref p) (.ref b) H Q := by
  refine ⟨p, b, xs, ys, rfl, rfl, h1, h2, hl, fun e => ?_, fun _ e => ?_, fun _ _ r hr => ?_⟩
  · subst e; exact q b H (fun _ _ h => h) h2
  · subst e; exact q p H (fun _ _ h => h) (by rw [List.append_nil]; exact h1)
  · exact q r _ (fun b o e => by rw [upd_ne (ne_of_none e hr)]; exact e) (.inl (.inl upd_same))
theorem i_catI {p b : Addr} {ns ms : List Int} (h1 : SqT K H p (ns.map V.int)) (h2 : SqT K H b (ms.map V.int)) (hl : ns.length + ms.length ≤ 10000) (q : ∀ (r : Addr) (H' : Hp), (∀ b o, H b = some o → H' b = some o) → SqT K H' r ((ns ++ ms).map V.int) → Q (.ref r) H') : rCatA K (.ref p) (.ref b) H Q :=
  i_catA h1 h2 (by rw [List.length_map, List.length_map]; exact Nat.le_trans hl (by decide)) fun r H' s t => q r H' s (by rw [List.map_append]; exact t)
/-- ns[lo:hi] -/
def cutI (ns : List Int) (lo hi : Option Int) : List Int := (ns.drop (HT.sIx ns.length 0 lo)).take (HT.sIx ns.length ns.length hi - HT.sIx ns.length 0 lo)
theorem cutI_len (ns : List Int) (lo hi : Option Int) : (cutI ns lo hi).length ≤ ns.length := by
  unfold cutI
  rw [List.length_take, List.length_drop]
  omega
theorem i_slI {p : Addr} {ns : List Int} {lo hi : Option Int} (h : SqT K H p (ns.map V.int)) (hw : ¬ (HT.sIx ns.length 0 lo = 0 ∧ HT.sIx ns.length ns.length hi = ns.length))
    (q : ∀ (r : Addr) (H' : Hp), (∀ b o, H b = some o → H' b = some o) → SqT K H' r ((cutI ns lo hi).map V.int) → Q (.ref r) H') : rSlT K (.ref p) lo hi H Q := by
  refine ⟨p, _, rfl, h, by rw [List.length_map]; exact hw, fun r hr => q r _ (fun b o e => by rw [upd_ne (ne_of_none e hr)]; exact e) (.inl (.inl ?_))⟩
  rw [upd_same]
  unfold cutV cutI
  rw [List.length_map, List.map_take, List.map_drop]
theorem i_sl {r : V → Option Int → Option Int → Hp → VK → Prop} {te : TE} {tl th : TO} (h : te σ H fun x H1 => tl σ H1 fun l H2 => th σ H2 fun u H3 => r x l u H3 Q) : tSl r te tl th σ H Q := h
theorem i_noPart {Q : Option Int → Hp → Prop} (q : Q none H) : tNoPart σ H Q := q
theorem i_part {t : TE} {Q : Option Int → Hp → Prop} (h : t σ H fun x H1 => ∃ i, x = .int i ∧ Q (some i) H1) : tPart t σ H Q := h
theorem i_cat {p b : Addr} {xs zs : List V} (h1 : H p = some (.lst xs)) (h2 : H b = some (.lst zs)) (hl : xs.length + zs.length ≤ sizeLine) (q : ∀ r, H r = none → Q (.ref r) (upd H r (.lst (xs ++ zs)))) : rCat (.ref p) (.ref b) H Q := ⟨p, b, xs, zs, rfl, rfl, h1, h2, hl, q⟩
theorem i_cat' {p b : Addr} {xs zs : List V} (e1 : H p = some (.lst xs)) (e2 : H b = some (.lst zs)) (hl : xs.length + zs.length ≤ 10000) (q : ∀ r H', (∀ b o, H b = some o → H' b = some o) → H r = none → H' r = some (.lst (xs ++ zs)) → Q (.ref r) H') : rCat (.ref p) (.ref b) H Q :=
  i_cat e1 e2 (by rw [sizeLine_eq]; omega) fun r hr => q r _ (fun b o e => by rw [upd_ne (ne_of_none e hr)]; exact e) hr upd_same
theorem i_slL {p : Addr} {xs : List V} {lo hi : Option Int} (h : SqL K H p xs) (q : ∀ r H', (∀ b o, H b = some o → H' b = some o) → H r = none → H' r = some (.lst (cutV xs lo hi)) → Q (.ref r) H') : rSlL K (.ref p) lo hi H Q :=
  ⟨p, xs, rfl, h, fun r hr => q r _ (fun b o e => by rw [upd_ne (ne_of_none e hr)]; exact e) hr upd_same⟩
theorem i_chain {r r' : R2} {ta tb tc : TE} (h : ta σ H fun x H1 => tb σ H1 fun y H2 => r x y H2 fun z H3 => ∃ k, z = .bl k ∧ (if k = true then tc σ H3 fun w' H4 => r' y w' H4 Q else Q (.bl false) H3)) : tChain r r' ta tb tc σ H Q := h
theorem i_popAt {p : Addr} {xs : List V} {i : Int} {y : V} (h : H p = some (.lst xs)) (h0 : 0 ≤ i) (h1 : i < xs.length) (h2 : xs.length ≤ 1000000) (e : xs[i.toNat]? = some y) (q : Q y (upd H p (.lst (xs.eraseIdx i.toNat)))) : rPopAt (.ref p) [.int i] H Q :=
  ⟨p, xs, i, i.toNat, y, rfl, rfl, h, by omega, by omega, seqIndex_of h0 h1, e, q⟩
theorem i_isI {i : Int} {Q : Int → Prop} (q : Q i) : ∃ i', V.int i = .int i' ∧ Q i' := ⟨i, rfl, q⟩
theorem i_bm {T : String} {r : V → List V → Hp → VK → Prop} {to : TE} {t : TA} (h : to σ H fun x H1 => tyV K T x H1 ∧ t σ H1 fun xs H2 => r x xs H2 Q) : tBM K T r to t σ H Q := h
theorem i_bm0 {T : String} {r : V → List V → Hp → VK → Prop} {to : TE} (h : to σ H fun x H1 => tyV K T x H1 ∧ r x [] H1 Q) : tBM0 K T r to σ H Q := h
theorem i_tyL {p : Addr} {xs : List V} {R : Prop} (s : SqL K H p xs) (q : R) : tyV K "list" (.ref p) H ∧ R := ⟨.inl ⟨rfl, xs, s⟩, q⟩
theorem i_app {p : Addr} {xs : List V} {y : V} (h : H p = some (.lst xs)) (hl : xs.length < sizeLine) (q : Q .non (upd H p (.lst (xs ++ [y])))) : rAppend (.ref p) [y] H Q := ⟨p, xs, y, rfl, rfl, h, hl, q⟩
theorem i_addS {x y : Str} (h : x.length + y.length ≤ sizeLine) (q : Q (.str (x ++ y)) H) : rAddStr (.str x) (.str y) H Q := ⟨x, y, rfl, rfl, h, q⟩
theorem i_isi {x : V} {n : String} {t : Value} {b : Bool} (ty : TyX K H x t) (e : PySem.W.kitOne K t (.type n) = some b) (q : Q (.bl b) H) : rIsi K [x, .ty n] H Q := ⟨x, .ty n, t, .type n, b, rfl, .ty n, ty, e, q⟩
theorem i_var {i : Nat} {v : V} (h : σ[i]? = some (some v)) (q : Q v H) : tVar i σ H Q := ⟨v, h, q⟩
theorem i_c {v : V} (q : Q v H) : tC v σ H Q := q
theorem i_op {r : R2} {ta tb : TE} (h : ta σ H fun x H1 => tb σ H1 fun y H2 => r x y H2 Q) : tOp r ta tb σ H Q := h
theorem i_un {r : V → Hp → VK → Prop} {ta : TE} (h : ta σ H fun x H1 => r x H1 Q) : tUn r ta σ H Q := h
theorem i_rI0 {g : Int → Int → V} {i j : Int} (q : Q (g i j) H) : rI0 g (.int i) (.int j) H Q := ⟨i, j, rfl, rfl, q⟩
theorem i_rI {C : Int → Int → Prop} {g : Int → Int → V} {i j : Int} (c : C i j) (q : Q (g i j) H) : rI C g (.int i) (.int j) H Q := ⟨i, j, rfl, rfl, c, q⟩
theorem i_rU {g : Int → V} {i : Int} (q : Q (g i) H) : rU g (.int i) H Q := ⟨i, rfl, q⟩
theorem i_eqI {i j : Int} (q : Q (.bl (decide (i = j))) H) : rEq (.int i) (.int j) H Q := ⟨rfl, by
  have e : decide (V.int i = V.int j) = decide (i = j) := by simp
  rw [e]; exact q⟩
theorem i_neI {i j : Int} (q : Q (.bl (!decide (i = j))) H) : rNe (.int i) (.int j) H Q := ⟨rfl, by
  have e : decide (V.int i = V.int j) = decide (i = j) := by simp
  rw [e]; exact q⟩
theorem i_eqB {i j : Bool} (q : Q (.bl (decide (i = j))) H) : rEq (.bl i) (.bl j) H Q := ⟨rfl, by
  have e : decide (V.bl i = V.bl j) = decide (i = j) := by simp
  rw [e]; exact q⟩
theorem i_neB {i j : Bool} (q : Q (.bl (!decide (i = j))) H) : rNe (.bl i) (.bl j) H Q := ⟨rfl, by
  have e : decide (V.bl i = V.bl j) = decide (i = j) := by simp
  rw [e]; exact q⟩
theorem i_eqS {i j : Str} (q : Q (.bl (decide (i = j))) H) : rEq (.str i) (.str j) H Q := ⟨rfl, by
  have e : decide (V.str i = V.str j) = decide (i = j) := by simp
  rw [e]; exact q⟩
theorem i_neS {i j : Str} (q : Q (.bl (!decide (i = j))) H) : rNe (.str i) (.str j) H Q := ⟨rfl, by
  have e : decide (V.str i = V.str j) = decide (i = j) := by simp
  rw [e]; exact q⟩
/-! index -/
theorem i_ixL {p : Addr} {xs : List V} {i : Int} {v : V} (h : SqL K H p xs) (e : atI xs i = some v) (q : Q v H) : rIxL K (.ref p) (.int i) H Q := ⟨p, xs, i, v, rfl, rfl, h, e, q⟩
theorem i_ixT {p : Addr} {xs : List V} {i : Int} {v : V} (h : SqT K H p xs) (e : atI xs i = some v) (q : Q v H) : rIxT K (.ref p) (.int i) H Q := ⟨p, xs, i, v, rfl, rfl, h, e, q⟩
theorem i_ix1 {x y : V} (h : rIxL K x y H Q) : rIx K x y H Q := .inl h
theorem i_ix2 {x y : V} (h : rIxT K x y H Q) : rIx K x y H Q := .inr (.inl h)
/-! arguments, calls, displays -/
theorem i_nil {Q : List V → Hp → Prop} (q : Q [] H) : tNil σ H Q := q
theorem i_cons {ta : TE} {tr : TA} {Q : List V → Hp → Prop} (h : ta σ H fun x H1 => tr σ H1 fun xs H2 => Q (x :: xs) H2) : tCons ta tr σ H Q := h
theorem i_call {sp : Sp} {E : XK} {t : TA} (h : t σ H fun vs H1 => sp (vs ++ []) H1 Q E) : tCall sp [] E t σ H Q := h
theorem i_cb {r : List V → Hp → VK → Prop} {t : TA} (h : t σ H fun vs H1 => r vs H1 Q) : tCB r t σ H Q := h
theorem i_tup {t : TA} (h : t σ H fun xs H1 => xs.length ≤ sizeLine ∧ ∀ p, H1 p = none → Q (.ref p) (upd H1 p (.tup xs))) : tTup t σ H Q := h
theorem i_lst {t : TA} (h : t σ H fun xs H1 => xs.length ≤ sizeLine ∧ ∀ p, H1 p = none → Q (.ref p) (upd H1 p (.lst xs))) : tLst t σ H Q := h
theorem i_new {n : Nat} {R : Addr → Prop} (h : n ≤ sizeLine) (q : ∀ p, H p = none → R p) : n ≤ sizeLine ∧ ∀ p, H p = none → R p := ⟨h, q⟩
theorem i_if {c : TT} {ta tb : TE} (h : c σ H fun b H1 => if b = true then ta σ H1 Q else tb σ H1 Q) : tIf c ta tb σ H Q := h
theorem i_andV {ta tb : TE} (h : ta σ H fun x H1 => ∃ c, x = .bl c ∧ if c = true then tb σ H1 Q else Q (.bl false) H1) : tAndV ta tb σ H Q := h
theorem i_orV {ta tb : TE} (h : ta σ H fun x H1 => ∃ c, x = .bl c ∧ if c = true then Q (.bl true) H1 else tb σ H1 Q) : tOrV ta tb σ H Q := h
theorem i_notV {ta : TE} (h : ta σ H fun x H1 => ∃ c, x = .bl c ∧ Q (.bl (!c)) H1) : tNotV ta σ H Q := h
/-! tests -/
theorem i_test {t : TE} {Q : Bool → Hp → Prop} (h : t σ H fun x H1 => ∃ k, x = .bl k ∧ Q k H1) : tTest t σ H Q := h
theorem i_B {t : TE} {Q : Bool → Hp → Prop} (h : t σ H fun x H1 => ∃ k, x = .bl k ∧ Q k H1) : tB t σ H Q := h
theorem i_isb {k : Bool} {Q : Bool → Prop} (q : Q k) : ∃ k', V.bl k = .bl k' ∧ Q k' := ⟨k, rfl, q⟩
theorem i_and {t u : TT} {Q : Bool → Hp → Prop} (h : t σ H fun c H1 => if c = true then u σ H1 Q else Q false H1) : tAnd t u σ H Q := h
theorem i_or {t u : TT} {Q : Bool → Hp → Prop} (h : t σ H fun c H1 => if c = true then Q true H1 else u σ H1 Q) : tOr t u σ H Q := h
theorem i_not {t : TT} {Q : Bool → Hp → Prop} (h : t σ H fun c H1 => Q (!c) H1) : tNot t σ H Q := h
/-! statements -/
section
variable {nx : L2.St → Hp → Prop} {rt : VK} {bk ct : L2.St → Hp → Prop}
theorem i_seq {t u : TS} (h : t ⟨u ⟨nx, rt, bk, ct⟩, rt, bk, ct⟩ σ H) : tSeq t u ⟨nx, rt, bk, ct⟩ σ H := h
theorem i_next (h : nx σ H) : tNext ⟨nx, rt, bk, ct⟩ σ H := h
theorem i_asg {te : TE} {g : TG} (h : te σ H fun x H1 => g x σ H1 nx) : tAsg te g ⟨nx, rt, bk, ct⟩ σ H := h
theorem i_drop {te : TE} (h : te σ H fun _ H1 => nx σ H1) : tDrop te ⟨nx, rt, bk, ct⟩ σ H := h
theorem i_ret {te : TE} (h : te σ H rt) : tRet te ⟨nx, rt, bk, ct⟩ σ H := h
theorem i_retN (h : rt .non H) : tRetN ⟨nx, rt, bk, ct⟩ σ H := h
theorem i_ifS {c : TT} {t u : TS} (h : c σ H fun b H1 => if b = true then t ⟨nx, rt, bk, ct⟩ σ H1 else u ⟨nx, rt, bk, ct⟩ σ H1) : tIfS c t u ⟨nx, rt, bk, ct⟩ σ H := h
theorem i_ifC {c : TT} {t u : TS} (J : L2.St → Hp → Prop) (h1 : ∀ σ' H', J σ' H' → nx σ' H') (h2 : ∀ N : L2.St → Hp → Prop, (∀ σ' H', J σ' H' → N σ' H') → tIfS c t u ⟨N, rt, bk, ct⟩ σ H) : tIfS c t u ⟨nx, rt, bk, ct⟩ σ H := h2 _ h1
theorem i_break (h : bk σ H) : tBreak ⟨nx, rt, bk, ct⟩ σ H := h
theorem i_cont (h : ct σ H) : tCont ⟨nx, rt, bk, ct⟩ σ H := h
theorem i_augE {i : Nat} {te : TE} {ti : TIp} {x : V} (e : σ[i]? = some (some x)) (h : te σ H fun y H1 => ti x y H1 fun z H2 => gName i z σ H2 nx) : tAug i te ti ⟨nx, rt, bk, ct⟩ σ H := ⟨x, e, h⟩
theorem i_augS {to ti te : TE} {tget : V → V → Hp → VK → Prop} {tip : TIp} {tset : TSet} (h : to σ H fun o H1 => ti σ H1 fun i H2 => tget o i H2 fun x H3 => te σ H3 fun y H4 => tip x y H4 fun z H5 => tset o i z H5 fun H6 => nx σ H6) : tAugS to ti te tget tip tset ⟨nx, rt, bk, ct⟩ σ H := h
theorem i_ipI {f : Int → Int → Int} {i j : Int} (q : Q (.int (f i j)) H) : ipI f (.int i) (.int j) H Q := ⟨i, j, rfl, rfl, q⟩
theorem i_for {wi : TI} {g : TG} {tb : TS} (h : wi σ H fun J H1 => ∃ W : Nat → Nat → L2.St → Hp → Prop, (∃ m, W 0 m σ H1) ∧ ∀ i m σ H, W i m σ H →
  (J.stop i H ∧ nx σ H) ∨ (J.go i H ∧ ∃ N : L2.St → Hp → Prop, (∀ σ' H', N σ' H' → ∃ m', m' < m ∧ W (i + 1) m' σ' H') ∧ ∀ x H', J.yld i H x H' → g x σ H' fun σ2 H2 => tb ⟨N, rt, nx, N⟩ σ2 H2)) : tFor wi g tb ⟨nx, rt, bk, ct⟩ σ H := h
theorem i_iList {tl : TE} {R : It → Hp → Prop} (h : tl σ H fun x H1 => ∃ a, x = .ref a ∧ (∃ xs, SqL K H1 a xs) ∧ R (Itl K a) H1) : iList K tl σ H R := h
theorem i_iTup {tl : TE} {R : It → Hp → Prop} (h : tl σ H fun x H1 => ∃ a, x = .ref a ∧ (∃ xs, SqT K H1 a xs) ∧ R (Itt K a) H1) : iTup K tl σ H R := h
theorem i_isL {a : Addr} {xs : List V} {R : Addr → Prop} (s : SqL K H a xs) (h : R a) : ∃ a', V.ref a = .ref a' ∧ (∃ xs, SqL K H a' xs) ∧ R a' := ⟨a, rfl, ⟨xs, s⟩, h⟩
theorem i_isT {a : Addr} {xs : List V} {R : Addr → Prop} (s : SqT K H a xs) (h : R a) : ∃ a', V.ref a = .ref a' ∧ (∃ xs, SqT K H a' xs) ∧ R a' := ⟨a, rfl, ⟨xs, s⟩, h⟩
theorem i_rng1 {ta : TA} {R : It → Hp → Prop} (h : ta σ H fun vs H1 => ∃ j : Int, vs = [.int j] ∧ -(2 ^ 62) ≤ j ∧ j < 2 ^ 62 ∧ R (Itr 0 j.toNat) H1) : iRng1 ta σ H R := h
theorem i_rng2 {ta : TA} {R : It → Hp → Prop} (h : ta σ H fun vs H1 => ∃ i j : Int, vs = [.int i, .int j] ∧ (-(2 ^ 62) ≤ i ∧ i < 2 ^ 62 ∧ -(2 ^ 62) ≤ j ∧ j < 2 ^ 62) ∧ R (Itr i (j - i).toNat) H1) : iRng2 ta σ H R := h
theorem i_isR1 {j : Int} {R : Int → Prop} (h1 : -(2 ^ 62) ≤ j) (h2 : j < 2 ^ 62) (h : R j) : ∃ j' : Int, [V.int j] = [.int j'] ∧ -(2 ^ 62) ≤ j' ∧ j' < 2 ^ 62 ∧ R j' := ⟨j, rfl, h1, h2, h⟩
theorem i_isR2 {i j : Int} {R : Int → Int → Prop} (h1 : -(2 ^ 62) ≤ i) (h2 : i < 2 ^ 62) (h3 : -(2 ^ 62) ≤ j) (h4 : j < 2 ^ 62) (h : R i j) : ∃ i' j' : Int, [V.int i, V.int j] = [.int i', .int j'] ∧ (-(2 ^ 62) ≤ i' ∧ i' < 2 ^ 62 ∧ -(2 ^ 62) ≤ j' ∧ j' < 2 ^ 62) ∧ R i' j' := ⟨i, j, rfl, ⟨h1, h2, h3, h4⟩, h⟩
end
/-! comprehensions -/
theorem i_lc {wi : TI} {g : TG} {tt : TT} {te : TE} {ws : List Nat} {σ' : L2.St} (e : wipe σ ws = σ') (h : wi σ H fun J H1 => ∀ D, H1 D = none → ∃ W : Nat → Nat → Hp → Prop, (∃ m, W 0 m (upd H1 D (.lst []))) ∧ ∀ i m H, W i m H →
  (J.stop i H ∧ Q (.ref D) H) ∨ (J.go i H ∧ ∃ Nx : Hp → Prop, (∀ H', Nx H' → ∃ m', m' < m ∧ W (i + 1) m' H') ∧ ∀ x H', J.yld i H x H' → g x σ' H' fun σ2 H2 => wipe σ2 ws = σ' ∧ tt σ2 H2 fun b H3 =>
    if b = true then te σ2 H3 fun y H4 => ∃ acc, H4 D = some (.lst acc) ∧ acc.length < sizeLine ∧ Nx (upd H4 D (.lst (acc ++ [y]))) else Nx H3)) : tLc wi g tt te ws σ H Q := by subst e; exact h
/-! targets -/
theorem i_gNameE {i : Nat} {v : V} {σ' : L2.St} {Q : L2.St → Hp → Prop} (e : σ.set i (some v) = σ') (q : Q σ' H) : gName i v σ H Q := by subst e; exact q
theorem st_of {t : TS} {D : Ends} {σ σ' : L2.St} {H : Hp} (e : σ = σ') (h : t D σ' H) : t D σ H := by subst e; exact h
theorem i_gName {i : Nat} {v : V} {Q : L2.St → Hp → Prop} (q : Q (σ.set i (some v)) H) : gName i v σ H Q := q
theorem i_gSub {to ti : TE} {t : TSet} {v : V} {Q : L2.St → Hp → Prop} (h : to σ H fun o H1 => ti σ H1 fun i H2 => t o i v H2 fun H3 => Q σ H3) : gSub to ti t v σ H Q := h
theorem i_setL {p : Addr} {xs : List V} {k : Int} {j : Nat} {v : V} {Q : Hp → Prop} (h : H p = some (.lst xs)) (e : ixN xs.length k = some j) (q : Q (upd H p (.lst (xs.set j v)))) : rSetL (.ref p) (.int k) v H Q := ⟨p, xs, k, j, rfl, rfl, h, e, q⟩
theorem i_gTup {n : Nat} {t : TGs} {a : Addr} {xs : List V} {Q : L2.St → Hp → Prop} (h : SqT K H a xs) (e : xs.length = n) (q : t xs σ H Q) : gTup K n t (.ref a) σ H Q := ⟨a, xs, rfl, h, e, q⟩
theorem i_gNil {Q : L2.St → Hp → Prop} (q : Q σ H) : gNil [] σ H Q := ⟨rfl, q⟩
theorem i_gCons {t : TG} {u : TGs} {v : V} {r : List V} {Q : L2.St → Hp → Prop} (q : t v σ H fun σ' H' => u r σ' H' Q) : gCons t u (v :: r) σ H Q := ⟨v, r, rfl, q⟩
/-! builtins' calls -/
end
/-! ### heaps -/
/-- all but p is as it was -/
def Kp (p : Addr) (H H' : Hp) : Prop := ∀ b o, H b = some o → b ≠ p → H' b = some o
theorem Kp.refl {p : Addr} {H : Hp} : Kp p H H := fun _ _ e _ => e
theorem Kp.of {p : Addr} {H H' : Hp} (s : Same H H') : Kp p H H' := fun b o e _ => s b o e
theorem Kp.trans {p : Addr} {H H1 H2 : Hp} (a : Kp p H H1) (b : Kp p H1 H2) : Kp p H H2 := fun c o e n => b c o (a c o e n) n
theorem Kp.upd {p : Addr} {H : Hp} {o : HO} : Kp p H (upd H p o) := fun b u e n => by rw [upd_ne n]; exact e
theorem same_new {H : Hp} {p : Addr} {o : HO} (h : H p = none) : Same H (upd H p o) := fun b x e => by
  rw [upd_ne (ne_of_none e h)]
  exact e
theorem Same.tup {K : PySem.W.Frag} {H H' : Hp} {a : Addr} {xs : List V} (e : Same H H') (h : SqT K H a xs) : SqT K H' a xs := by
  rcases h with (h | ⟨o, h⟩) | h
  · exact .inl (.inl (e _ _ h))
  · exact .inl (.inr ⟨o, e _ _ h⟩)
  · exact .inr h
/-- all tuples are as they were -/
def Tps (H H' : Hp) : Prop := ∀ a, (∀ xs, H a = some (.tup xs) → H' a = some (.tup xs)) ∧ ∀ o xs, H a = some (.frz o (.tup xs)) → H' a = some (.frz o (.tup xs))
theorem Tps.sq {K : PySem.W.Frag} {H H' : Hp} {a : Addr} {xs : List V} (e : Tps H H') (h : SqT K H a xs) : SqT K H' a xs := by
  rcases h with (h | ⟨o, h⟩) | h
  · exact .inl (.inl ((e a).1 _ h))
  · exact .inl (.inr ⟨o, (e a).2 _ _ h⟩)
  · exact .inr h
theorem Tps.refl {H : Hp} : Tps H H := fun _ => ⟨fun _ h => h, fun _ _ h => h⟩
theorem Tps.trans {H H1 H2 : Hp} (a : Tps H H1) (b : Tps H1 H2) : Tps H H2 := fun c => ⟨fun xs h => (b c).1 xs ((a c).1 xs h), fun o xs h => (b c).2 o xs ((a c).2 o xs h)⟩
theorem Tps.of {H H' : Hp} (s : Same H H') : Tps H H' := fun a => ⟨fun xs h => s _ _ h, fun o xs h => s _ _ h⟩
theorem Kp.tps {p : Addr} {H H' : Hp} (k : Kp p H H') {xs : List V} (h : H p = some (.lst xs)) : Tps H H' := fun a => ⟨fun ys e => k _ _ e (ne_of e h (by intro z; cases z)), fun o ys e => k _ _ e (ne_of e h (by intro z; cases z))⟩
theorem Kp.seq {K : PySem.W.Frag} {p b : Addr} {H H' : Hp} {xs : List V} (k : Kp p H H') (h : SqL K H b xs) (n : b ≠ p) : SqL K H' b xs := by
  rcases h with (h | ⟨o, h⟩) | h
  · exact .inl (.inl (k _ _ h n))
  · exact .inl (.inr ⟨o, k _ _ h n⟩)
  · exact .inr h
/-! ### data -/
def Shp (n : Nat) (d : PyData) : Prop := d.canLay0 = true ∧ d.depth ≤ n
theorem Shp.shaped {n : Nat} {d : PyData} (h : Shp n d) (hn : n ≤ 64) : SeqAt.shaped d = true := by
  unfold SeqAt.shaped
  rw [h.1, decide_eq_true (Nat.le_trans h.2 hn)]
  rfl
theorem Shp.eqv {n : Nat} {d : PyData} (h : Shp n d) : PyData.eqv d d = true := SeqAt.eqv_refl d h.1
theorem Shp.int (i : Int) : Shp 0 (.int i) := ⟨by simp [PyData.canLay0], by simp [PyData.depth]⟩
theorem Shp.non : Shp 0 .none := ⟨by simp [PyData.canLay0], by simp [PyData.depth]⟩
theorem Shp.bool (b : Bool) : Shp 0 (.bool b) := ⟨by simp [PyData.canLay0], by simp [PyData.depth]⟩
theorem Shp.mono {n m : Nat} {d : PyData} (h : Shp n d) (hm : n ≤ m) : Shp m d := ⟨h.1, Nat.le_trans h.2 hm⟩
theorem shpAll {n : Nat} : ∀ {ds : List PyData}, (∀ d ∈ ds, Shp n d) → PyData.canLayAll0 ds = true ∧ PyData.depthAll ds ≤ n
  | [], _ => ⟨by simp [PyData.canLayAll0], by simp [PyData.depthAll]⟩
  | d :: ds, h => by
    have h1 := h d List.mem_cons_self
    have h2 := shpAll (ds := ds) fun x hx => h x (List.mem_cons_of_mem _ hx)
    refine ⟨by rw [PyData.canLayAll0, h1.1, h2.1]; rfl, ?_⟩
    rw [PyData.depthAll]
    exact Nat.max_le.mpr ⟨h1.2, h2.2⟩
theorem Shp.tup {n : Nat} {ds : List PyData} (h : ∀ d ∈ ds, Shp n d) : Shp (n + 1) (.tuple ds) := by
  have := shpAll h
  exact ⟨by rw [PyData.canLay0]; exact this.1, by rw [PyData.depth]; omega⟩
theorem Shp.lst {n : Nat} {ds : List PyData} (h : ∀ d ∈ ds, Shp n d) : Shp (n + 1) (.list ds) := by
  have := shpAll h
  exact ⟨by rw [PyData.canLay0]; exact this.1, by rw [PyData.depth]; omega⟩
theorem dpAll_of {K : PySem.W.Frag} {H : Hp} : ∀ {xs : List V} {ds : List PyData}, xs.length = ds.length → (∀ (i : Nat) x d, xs[i]? = some x → ds[i]? = some d → Dp K H x d) → DpAll K H xs ds
  | [], [], _, _ => .nil
  | x :: xs, d :: ds, hl, h => .cons (h 0 x d rfl rfl) (dpAll_of (by simpa using hl) fun i y e h1 h2 => h (i + 1) y e (by simpa using h1) (by simpa using h2))
theorem dp_ints {K : PySem.W.Frag} {H : Hp} {a : Addr} {ns : List Int} (h : SqT K H a (ns.map V.int)) : Dp K H (.ref a) (.tuple (ns.map PyData.int)) := by
  refine .tup h (dpAll_of (by simp) fun i x d h1 h2 => ?_)
  rw [List.getElem?_map] at h1 h2
  cases e : ns[i]? with
  | none => rw [e] at h1; cases h1
  | some z =>
    rw [e] at h1 h2
    cases h1
    cases h2
    exact .int z
/-! ### slices of tuples -/
section
variable {prog : Program} {w : World} {A : Around} {E : Value → Shared → Prop} {s : Shared}
theorem tup_whole {t sl : Addr} {items : Array Value} {vl vu : Value} {lo hi : Option Int} {Q : Value → Shared → Prop} (ht : IsTup s.heap t items) (hs : s.heap.IsSliceOf sl vl vu .none) (pl : IsPart vl lo) (pu : IsPart vu hi)
    (h0 : HT.sIx items.size 0 lo = 0) (h1 : HT.sIx items.size items.size hi = items.size) (h : Q (.ref t) s) : wpAny (model prog w) A (getItem (.ref t) (.ref sl)) Q E s := by
  have hTs : s.TypeIs (.ref sl) "slice" := by
    obtain ⟨os, hos, hcs, _⟩ := id hs
    exact ⟨os, hos, hcs⟩
  unfold getItem
  try with_reducible refine wpAny_holding ?_
  first | refine wpAny_bind (wpAny_pure ?_) | skip
  refine wpAny_bind (wpAny_sequenceKey ht.typeIs (by decide) (wpAny_bind (wpAny_callSpecial?_slot (name := Str.ofString "__getitem__") ht.typeIs PyProof.Rows.slot_tuple_getitem (wpAny_call_entry PyProof.Rows.slot_tuple_getitem ht.typeIs entry_tuple_getitem ?_ (args_tuple_getitem _ _)))))
  show wpAny _ _ (Builtin.Tuple.tupleItemsOf (.ref t) >>= _) _ _ s
  refine wpAny_bind (tupleItemsOf_ ht (wpAny_bind (wpAny_typeOf hTs ?_)))
  rw [if_pos (by decide)]
  refine wpAny_bind (HT.sliceApplied_gen hs pl pu ?_)
  show wpAny _ _ (if (((HT.sIx items.size 0 lo : Nat) : Int) == 0 && (1 : Int) == 1 && (HT.sIx items.size items.size hi - HT.sIx items.size 0 lo) == items.size) = true then _ else _) _ _ s
  rw [h0, h1, if_pos (by simp)]
  unfold Builtin.Tuple.tupleIsExact
  refine wpAny_bind (wpAny_bind (wpAny_typeOf ht.typeIs (wpAny_pure ?_)))
  rw [if_pos (by decide)]
  first
    | exact wpAny_bind (wpAny_rule (wpAny_pure ⟨_, rfl, wpAny_pure h⟩))
    | exact wpAny_bind (wpAny_rule (wpAny_bind (wpAny_pure (wpAny_pure ⟨_, rfl, wpAny_pure h⟩))))
end
section
variable {X : Cx}
/-- t[lo:hi], the whole of it too (that is t itself) -/
def rSlQ (K : PySem.W.Frag) : V → Option Int → Option Int → Hp → VK → Prop := fun x lo hi H Q => ∃ a xs, x = .ref a ∧ SqT K H a xs ∧
  (cutV xs lo hi = xs → Q (.ref a) H) ∧ ∀ p, H p = none → Q (.ref p) (upd H p (.tup (cutV xs lo hi)))
theorem sl_tupQ : SlR X (rSlQ X.K) := by
  intro pins s σ H x v vl vu lo hi sl Q I rx hs pl pu h
  obtain ⟨a, xs, e, hx, q0, q1⟩ := h
  by_cases hw : HT.sIx xs.length 0 lo = 0 ∧ HT.sIx xs.length xs.length hi = xs.length
  · subst e
    cases rx
    obtain ⟨its, r, ht, hz⟩ := I.tuple hx
    have hlen : its.toArray.size = xs.length := by rw [List.size_toArray]; exact r.length.symm
    refine ⟨"tuple", _, PyProof.Rows.slot_tuple_getitem.lookup, ht.typeIs, ?_⟩
    refine tup_whole ht hs pl pu (by rw [hlen]; exact hw.1) (by rw [hlen]; exact hw.2) ⟨.ref a, H, I, rfl, q0 ?_⟩
    unfold cutV
    rw [hw.1, hw.2]
    simp
  · exact sl_tup pins s σ H x v vl vu lo hi sl Q I rx hs pl pu ⟨a, xs, e, hx, hw, q1⟩
end
/-! ### loops -/
section
variable {K : PySem.W.Frag} {a : Addr} {xs : List V} {g : TG} {tb : TS} {σ : L2.St} {H : Hp} {nx : L2.St → Hp → Prop} {rt : VK}
theorem f_list (Pv : Nat → L2.St → Hp → Prop) (h0 : Pv 0 σ H) (hl : ∀ i σ H, i ≤ xs.length → Pv i σ H → SqL K H a xs)
    (hs : ∀ i x σ H, xs[i]? = some x → Pv i σ H → g x σ H fun σ2 H2 => tb ⟨Pv (i + 1), rt, nx, Pv (i + 1)⟩ σ2 H2) (hd : ∀ σ H, Pv xs.length σ H → nx σ H) :
    ∃ W : Nat → Nat → L2.St → Hp → Prop, (∃ m, W 0 m σ H) ∧ ∀ i m σ H, W i m σ H →
      ((Itl K a).stop i H ∧ nx σ H) ∨ ((Itl K a).go i H ∧ ∃ N : L2.St → Hp → Prop, (∀ σ' H', N σ' H' → ∃ m', m' < m ∧ W (i + 1) m' σ' H') ∧ ∀ x H', (Itl K a).yld i H x H' → g x σ H' fun σ2 H2 => tb ⟨N, rt, nx, N⟩ σ2 H2) :=
  for_list (D := ⟨nx, rt, fun _ _ => False, fun _ _ => False⟩) Pv h0 hl hs hd
theorem f_tup (Pv : Nat → L2.St → Hp → Prop) (h0 : Pv 0 σ H) (hl : ∀ i σ H, i ≤ xs.length → Pv i σ H → SqT K H a xs)
    (hs : ∀ i x σ H, xs[i]? = some x → Pv i σ H → g x σ H fun σ2 H2 => tb ⟨Pv (i + 1), rt, nx, Pv (i + 1)⟩ σ2 H2) (hd : ∀ σ H, Pv xs.length σ H → nx σ H) :
    ∃ W : Nat → Nat → L2.St → Hp → Prop, (∃ m, W 0 m σ H) ∧ ∀ i m σ H, W i m σ H →
      ((Itt K a).stop i H ∧ nx σ H) ∨ ((Itt K a).go i H ∧ ∃ N : L2.St → Hp → Prop, (∀ σ' H', N σ' H' → ∃ m', m' < m ∧ W (i + 1) m' σ' H') ∧ ∀ x H', (Itt K a).yld i H x H' → g x σ H' fun σ2 H2 => tb ⟨N, rt, nx, N⟩ σ2 H2) :=
  for_tup (D := ⟨nx, rt, fun _ _ => False, fun _ _ => False⟩) Pv h0 hl hs hd
theorem f_range {lo : Int} {n : Nat} (Pv : Nat → L2.St → Hp → Prop) (h0 : Pv 0 σ H)
    (hs : ∀ i σ H, i < n → Pv i σ H → g (.int (lo + i)) σ H fun σ2 H2 => tb ⟨Pv (i + 1), rt, nx, Pv (i + 1)⟩ σ2 H2) (hd : ∀ σ H, Pv n σ H → nx σ H) :
    ∃ W : Nat → Nat → L2.St → Hp → Prop, (∃ m, W 0 m σ H) ∧ ∀ i m σ H, W i m σ H →
      ((Itr lo n).stop i H ∧ nx σ H) ∨ ((Itr lo n).go i H ∧ ∃ N : L2.St → Hp → Prop, (∀ σ' H', N σ' H' → ∃ m', m' < m ∧ W (i + 1) m' σ' H') ∧ ∀ x H', (Itr lo n).yld i H x H' → g x σ H' fun σ2 H2 => tb ⟨N, rt, nx, N⟩ σ2 H2) :=
  for_range (D := ⟨nx, rt, fun _ _ => False, fun _ _ => False⟩) Pv h0 hs hd
theorem f_rangeC {lo c : Int} {n : Nat} (Pv : Nat → L2.St → Hp → Prop) (h0 : Pv 0 σ H)
    (hs : ∀ i σ H, i < n → Pv i σ H → g (.int (lo + (i : Nat) * c)) σ H fun σ2 H2 => tb ⟨Pv (i + 1), rt, nx, Pv (i + 1)⟩ σ2 H2) (hd : ∀ σ H, Pv n σ H → nx σ H) :
    ∃ W : Nat → Nat → L2.St → Hp → Prop, (∃ m, W 0 m σ H) ∧ ∀ i m σ H, W i m σ H →
      ((Itc lo c n).stop i H ∧ nx σ H) ∨ ((Itc lo c n).go i H ∧ ∃ N : L2.St → Hp → Prop, (∀ σ' H', N σ' H' → ∃ m', m' < m ∧ W (i + 1) m' σ' H') ∧ ∀ x H', (Itc lo c n).yld i H x H' → g x σ H' fun σ2 H2 => tb ⟨N, rt, nx, N⟩ σ2 H2) :=
  for_rangeC (D := ⟨nx, rt, fun _ _ => False, fun _ _ => False⟩) Pv h0 hs hd
theorem i_rng3 {ta : TA} {R : It → Hp → Prop} (h : ta σ H fun vs H1 => ∃ (i j c : Int) (n : Nat), vs = [.int i, .int j, .int c] ∧ RgC i j c n ∧ R (Itc i c n) H1) : iRng3 ta σ H R := h
variable {tt : TT} {te : TE} {ws : List Nat} {D : Addr} {Qd : Hp → Prop} {σ' : L2.St}
theorem l_list (Pv : Nat → Hp → Prop) (h0 : Pv 0 (upd H D (.lst []))) (hl : ∀ i H, i ≤ xs.length → Pv i H → SqL K H a xs)
    (hs : ∀ i x H, xs[i]? = some x → Pv i H → g x σ' H fun σ2 H2 => wipe σ2 ws = σ' ∧ tt σ2 H2 fun b H3 =>
      if b = true then te σ2 H3 fun y H4 => ∃ acc, H4 D = some (.lst acc) ∧ acc.length < sizeLine ∧ Pv (i + 1) (upd H4 D (.lst (acc ++ [y]))) else Pv (i + 1) H3) (hd : ∀ H, Pv xs.length H → Qd H) (e : wipe σ' ws = σ' := by rfl) :
    ∃ W : Nat → Nat → Hp → Prop, (∃ m, W 0 m (upd H D (.lst []))) ∧ ∀ i m H, W i m H →
      ((Itl K a).stop i H ∧ Qd H) ∨ ((Itl K a).go i H ∧ ∃ Nx : Hp → Prop, (∀ H', Nx H' → ∃ m', m' < m ∧ W (i + 1) m' H') ∧ ∀ x H', (Itl K a).yld i H x H' → g x σ' H' fun σ2 H2 => wipe σ2 ws = σ' ∧ tt σ2 H2 fun b H3 =>
        if b = true then te σ2 H3 fun y H4 => ∃ acc, H4 D = some (.lst acc) ∧ acc.length < sizeLine ∧ Nx (upd H4 D (.lst (acc ++ [y]))) else Nx H3) := by
  have h := lc_list (K := K) (a := a) (xs := xs) (g := g) (tt := tt) (te := te) (vs := ws) (σ := σ') (H1 := H) (D := D) (Qd := Qd) Pv h0 hl (by rw [e]; exact hs) hd
  rw [e] at h
  exact h
theorem l_tup (Pv : Nat → Hp → Prop) (h0 : Pv 0 (upd H D (.lst []))) (hl : ∀ i H, i ≤ xs.length → Pv i H → SqT K H a xs)
    (hs : ∀ i x H, xs[i]? = some x → Pv i H → g x σ' H fun σ2 H2 => wipe σ2 ws = σ' ∧ tt σ2 H2 fun b H3 =>
      if b = true then te σ2 H3 fun y H4 => ∃ acc, H4 D = some (.lst acc) ∧ acc.length < sizeLine ∧ Pv (i + 1) (upd H4 D (.lst (acc ++ [y]))) else Pv (i + 1) H3) (hd : ∀ H, Pv xs.length H → Qd H) (e : wipe σ' ws = σ' := by rfl) :
    ∃ W : Nat → Nat → Hp → Prop, (∃ m, W 0 m (upd H D (.lst []))) ∧ ∀ i m H, W i m H →
      ((Itt K a).stop i H ∧ Qd H) ∨ ((Itt K a).go i H ∧ ∃ Nx : Hp → Prop, (∀ H', Nx H' → ∃ m', m' < m ∧ W (i + 1) m' H') ∧ ∀ x H', (Itt K a).yld i H x H' → g x σ' H' fun σ2 H2 => wipe σ2 ws = σ' ∧ tt σ2 H2 fun b H3 =>
        if b = true then te σ2 H3 fun y H4 => ∃ acc, H4 D = some (.lst acc) ∧ acc.length < sizeLine ∧ Nx (upd H4 D (.lst (acc ++ [y]))) else Nx H3) := by
  have h := lc_tup (K := K) (a := a) (xs := xs) (g := g) (tt := tt) (te := te) (vs := ws) (σ := σ') (H1 := H) (D := D) (Qd := Qd) Pv h0 hl (by rw [e]; exact hs) hd
  rw [e] at h
  exact h
theorem l_range {lo : Int} {n : Nat} (Pv : Nat → Hp → Prop) (h0 : Pv 0 (upd H D (.lst [])))
    (hs : ∀ i H, i < n → Pv i H → g (.int (lo + i)) σ' H fun σ2 H2 => wipe σ2 ws = σ' ∧ tt σ2 H2 fun b H3 =>
      if b = true then te σ2 H3 fun y H4 => ∃ acc, H4 D = some (.lst acc) ∧ acc.length < sizeLine ∧ Pv (i + 1) (upd H4 D (.lst (acc ++ [y]))) else Pv (i + 1) H3) (hd : ∀ H, Pv n H → Qd H) (e : wipe σ' ws = σ' := by rfl) :
    ∃ W : Nat → Nat → Hp → Prop, (∃ m, W 0 m (upd H D (.lst []))) ∧ ∀ i m H, W i m H →
      ((Itr lo n).stop i H ∧ Qd H) ∨ ((Itr lo n).go i H ∧ ∃ Nx : Hp → Prop, (∀ H', Nx H' → ∃ m', m' < m ∧ W (i + 1) m' H') ∧ ∀ x H', (Itr lo n).yld i H x H' → g x σ' H' fun σ2 H2 => wipe σ2 ws = σ' ∧ tt σ2 H2 fun b H3 =>
        if b = true then te σ2 H3 fun y H4 => ∃ acc, H4 D = some (.lst acc) ∧ acc.length < sizeLine ∧ Nx (upd H4 D (.lst (acc ++ [y]))) else Nx H3) := by
  have h := lc_range (lo := lo) (n := n) (g := g) (tt := tt) (te := te) (vs := ws) (σ := σ') (H1 := H) (D := D) (Qd := Qd) Pv h0 (by rw [e]; exact hs) hd
  rw [e] at h
  exact h
/-! a comprehension whose elements lay nothing -/
theorem l_rangeP {lo : Int} {n : Nat} (f : Nat → V) (hD : H D = none) (hn : n ≤ 1000000)
    (hs : ∀ i H' (R : VK), i < n → Same H H' → R (f i) H' → g (.int (lo + i)) σ' H' fun σ2 H2 => wipe σ2 ws = σ' ∧ tt σ2 H2 fun b H3 => if b = true then te σ2 H3 R else False)
    (hd : ∀ H', Same H H' → H' D = some (.lst ((List.range n).map f)) → Qd H') (e : wipe σ' ws = σ' := by rfl)
    (htt : ∀ (σ2 : L2.St) (H2 : Hp) (A : Hp → Prop) (B : Hp → Prop), (tt σ2 H2 fun b H3 => if b = true then A H3 else False) → tt σ2 H2 fun b H3 => if b = true then A H3 else B H3 := by intro _ _ _ _ h; exact h) (hg : ∀ x (σ2 : L2.St) (H2 : Hp) (A B : L2.St → Hp → Prop), (∀ s h, A s h → B s h) → g x σ2 H2 A → g x σ2 H2 B := by intro _ _ _ _ _ h q; exact h _ _ q) :
    ∃ W : Nat → Nat → Hp → Prop, (∃ m, W 0 m (upd H D (.lst []))) ∧ ∀ i m H, W i m H →
      ((Itr lo n).stop i H ∧ Qd H) ∨ ((Itr lo n).go i H ∧ ∃ Nx : Hp → Prop, (∀ H', Nx H' → ∃ m', m' < m ∧ W (i + 1) m' H') ∧ ∀ x H', (Itr lo n).yld i H x H' → g x σ' H' fun σ2 H2 => wipe σ2 ws = σ' ∧ tt σ2 H2 fun b H3 =>
        if b = true then te σ2 H3 fun y H4 => ∃ acc, H4 D = some (.lst acc) ∧ acc.length < sizeLine ∧ Nx (upd H4 D (.lst (acc ++ [y]))) else Nx H3) := by
  refine l_range (fun i H' => Same H H' ∧ H' D = some (.lst ((List.range i).map f))) ⟨same_new hD, upd_same⟩ (fun i H' hi h => ?_) (fun H' h => hd H' h.1 h.2) e
  obtain ⟨s, hD'⟩ := h
  refine hg _ _ _ _ _ (fun σ2 H2 q => ⟨q.1, htt _ _ _ _ q.2⟩) (hs i H' _ hi s ⟨_, hD', ?_, fun b o hb => ?_, ?_⟩)
  · rw [List.length_map, List.length_range, sizeLine_eq]; omega
  · rw [upd_ne (ne_of_none hb hD)]; exact s _ _ hb
  · rw [upd_same, List.range_succ, List.map_append] <;> rfl
theorem l_listP (f : Nat → V) (hD : H D = none) (hn : xs.length ≤ 1000000) (hx : SqL K H a xs)
    (hs : ∀ i x H' (R : VK), xs[i]? = some x → Same H H' → R (f i) H' → g x σ' H' fun σ2 H2 => wipe σ2 ws = σ' ∧ tt σ2 H2 fun b H3 => if b = true then te σ2 H3 R else False)
    (hd : ∀ H', Same H H' → H' D = some (.lst ((List.range xs.length).map f)) → Qd H') (e : wipe σ' ws = σ' := by rfl)
    (htt : ∀ (σ2 : L2.St) (H2 : Hp) (A : Hp → Prop) (B : Hp → Prop), (tt σ2 H2 fun b H3 => if b = true then A H3 else False) → tt σ2 H2 fun b H3 => if b = true then A H3 else B H3 := by intro _ _ _ _ h; exact h) (hg : ∀ x (σ2 : L2.St) (H2 : Hp) (A B : L2.St → Hp → Prop), (∀ s h, A s h → B s h) → g x σ2 H2 A → g x σ2 H2 B := by intro _ _ _ _ _ h q; exact h _ _ q) :
    ∃ W : Nat → Nat → Hp → Prop, (∃ m, W 0 m (upd H D (.lst []))) ∧ ∀ i m H, W i m H →
      ((Itl K a).stop i H ∧ Qd H) ∨ ((Itl K a).go i H ∧ ∃ Nx : Hp → Prop, (∀ H', Nx H' → ∃ m', m' < m ∧ W (i + 1) m' H') ∧ ∀ x H', (Itl K a).yld i H x H' → g x σ' H' fun σ2 H2 => wipe σ2 ws = σ' ∧ tt σ2 H2 fun b H3 =>
        if b = true then te σ2 H3 fun y H4 => ∃ acc, H4 D = some (.lst acc) ∧ acc.length < sizeLine ∧ Nx (upd H4 D (.lst (acc ++ [y]))) else Nx H3) := by
  refine l_list (xs := xs) (fun i H' => Same H H' ∧ H' D = some (.lst ((List.range i).map f))) ⟨same_new hD, upd_same⟩ (fun i H' _ h => Same.seq h.1 hx) (fun i x H' hi h => ?_) (fun H' h => hd H' h.1 h.2) e
  obtain ⟨s, hD'⟩ := h
  have hlt := (List.getElem?_eq_some_iff.mp hi).1
  refine hg _ _ _ _ _ (fun σ2 H2 q => ⟨q.1, htt _ _ _ _ q.2⟩) (hs i x H' _ hi s ⟨_, hD', ?_, fun b o hb => ?_, ?_⟩)
  · rw [List.length_map, List.length_range, sizeLine_eq]; omega
  · rw [upd_ne (ne_of_none hb hD)]; exact s _ _ hb
  · rw [upd_same, List.range_succ, List.map_append] <;> rfl
theorem l_tupP (f : Nat → V) (hD : H D = none) (hn : xs.length ≤ 1000000) (hx : SqT K H a xs)
    (hs : ∀ i x H' (R : VK), xs[i]? = some x → Same H H' → R (f i) H' → g x σ' H' fun σ2 H2 => wipe σ2 ws = σ' ∧ tt σ2 H2 fun b H3 => if b = true then te σ2 H3 R else False)
    (hd : ∀ H', Same H H' → H' D = some (.lst ((List.range xs.length).map f)) → Qd H') (e : wipe σ' ws = σ' := by rfl)
    (htt : ∀ (σ2 : L2.St) (H2 : Hp) (A : Hp → Prop) (B : Hp → Prop), (tt σ2 H2 fun b H3 => if b = true then A H3 else False) → tt σ2 H2 fun b H3 => if b = true then A H3 else B H3 := by intro _ _ _ _ h; exact h) (hg : ∀ x (σ2 : L2.St) (H2 : Hp) (A B : L2.St → Hp → Prop), (∀ s h, A s h → B s h) → g x σ2 H2 A → g x σ2 H2 B := by intro _ _ _ _ _ h q; exact h _ _ q) :
    ∃ W : Nat → Nat → Hp → Prop, (∃ m, W 0 m (upd H D (.lst []))) ∧ ∀ i m H, W i m H →
      ((Itt K a).stop i H ∧ Qd H) ∨ ((Itt K a).go i H ∧ ∃ Nx : Hp → Prop, (∀ H', Nx H' → ∃ m', m' < m ∧ W (i + 1) m' H') ∧ ∀ x H', (Itt K a).yld i H x H' → g x σ' H' fun σ2 H2 => wipe σ2 ws = σ' ∧ tt σ2 H2 fun b H3 =>
        if b = true then te σ2 H3 fun y H4 => ∃ acc, H4 D = some (.lst acc) ∧ acc.length < sizeLine ∧ Nx (upd H4 D (.lst (acc ++ [y]))) else Nx H3) := by
  refine l_tup (xs := xs) (fun i H' => Same H H' ∧ H' D = some (.lst ((List.range i).map f))) ⟨same_new hD, upd_same⟩ (fun i H' _ h => Same.tup h.1 hx) (fun i x H' hi h => ?_) (fun H' h => hd H' h.1 h.2) e
  obtain ⟨s, hD'⟩ := h
  have hlt := (List.getElem?_eq_some_iff.mp hi).1
  refine hg _ _ _ _ _ (fun σ2 H2 q => ⟨q.1, htt _ _ _ _ q.2⟩) (hs i x H' _ hi s ⟨_, hD', ?_, fun b o hb => ?_, ?_⟩)
  · rw [List.length_map, List.length_range, sizeLine_eq]; omega
  · rw [upd_ne (ne_of_none hb hD)]; exact s _ _ hb
  · rw [upd_same, List.range_succ, List.map_append] <;> rfl
end
theorem i_yes {σ : L2.St} {H : Hp} {Q : Bool → Hp → Prop} (q : Q true H) : tYes σ H Q := q
/-! ### ifs -/
theorem c_dec {P A B : Prop} [Decidable P] (h1 : P → A) (h2 : ¬ P → B) : if decide P = true then A else B := by
  by_cases h : P
  · rw [if_pos (decide_eq_true h)]; exact h1 h
  · rw [if_neg (by rw [decide_eq_false h]; exact Bool.false_ne_true)]; exact h2 h
theorem c_decN {P A B : Prop} [Decidable P] (h1 : ¬ P → A) (h2 : P → B) : if (!decide P) = true then A else B := by
  by_cases h : P
  · rw [if_neg (by rw [decide_eq_true h]; exact Bool.false_ne_true)]; exact h2 h
  · rw [if_pos (by rw [decide_eq_false h]; rfl)]; exact h1 h
theorem c_nt {A B : Prop} (h : B) : if (!true) = true then A else B := iteF h
theorem c_nf {A B : Prop} (h : A) : if (!false) = true then A else B := iteT h
theorem c_bool {b : Bool} {A B : Prop} (h1 : b = true → A) (h2 : b = false → B) : if b = true then A else B := by
  cases b
  · exact iteF (h2 rfl)
  · exact iteT (h1 rfl)
theorem c_yes {P A B : Prop} [Decidable P] (h : P) (h1 : A) : if decide P = true then A else B := by rw [if_pos (decide_eq_true h)]; exact h1
theorem c_no {P A B : Prop} [Decidable P] (h : ¬ P) (h1 : B) : if decide P = true then A else B := by rw [if_neg (by rw [decide_eq_false h]; exact Bool.false_ne_true)]; exact h1
theorem c_yesN {P A B : Prop} [Decidable P] (h : ¬ P) (h1 : A) : if (!decide P) = true then A else B := by rw [if_pos (by rw [decide_eq_false h]; rfl)]; exact h1
theorem c_noN {P A B : Prop} [Decidable P] (h : P) (h1 : B) : if (!decide P) = true then A else B := by rw [if_neg (by rw [decide_eq_true h]; exact Bool.false_ne_true)]; exact h1
section
variable {K : PySem.W.Frag} {σ : L2.St} {H : Hp} {Q : VK}
theorem i_slA {p : Addr} {xs : List V} {lo hi : Option Int} (h : SqT K H p xs) (q : ∀ (r : Addr) (H' : Hp), Same H H' → SqT K H' r (cutV xs lo hi) → Q (.ref r) H') : rSlQ K (.ref p) lo hi H Q :=
  ⟨p, xs, rfl, h, fun e => q p H (Same.refl H) (by rw [e]; exact h), fun r hr => q r _ (same_new hr) (SqT.of upd_same)⟩
theorem i_eqD {x y : V} {d e : PyData} {n m : Nat} (h1 : Dp K H x d) (h2 : Dp K H y e) (s1 : Shp n d) (s2 : Shp m e) (hn : n ≤ 64) (hm : m ≤ 64) (q : Q (.bl (PyData.eqv d e)) H) : rEqD K x y H Q := ⟨d, e, h1, h2, s1.shaped hn, s2.shaped hm, q⟩
theorem i_neD {x y : V} {d e : PyData} {n m : Nat} (h1 : Dp K H x d) (h2 : Dp K H y e) (s1 : Shp n d) (s2 : Shp m e) (hn : n ≤ 64) (hm : m ≤ 64) (q : Q (.bl (!PyData.eqv d e)) H) : rNeD K x y H Q := ⟨d, e, h1, h2, s1.shaped hn, s2.shaped hm, q⟩
/-- == and != of the same data -/
theorem i_eqS' {x y : V} {d : PyData} {n : Nat} (h1 : Dp K H x d) (h2 : Dp K H y d) (s1 : Shp n d) (hn : n ≤ 64) (q : Q (.bl true) H) : rEqD K x y H Q := i_eqD h1 h2 s1 s1 hn hn (by rw [s1.eqv]; exact q)
theorem i_neS' {x y : V} {d : PyData} {n : Nat} (h1 : Dp K H x d) (h2 : Dp K H y d) (s1 : Shp n d) (hn : n ≤ 64) (q : Q (.bl false) H) : rNeD K x y H Q := i_neD h1 h2 s1 s1 hn hn (by rw [s1.eqv]; exact q)
theorem i_while {c : TT} {tb : TS} {nx : L2.St → Hp → Prop} {rt : VK} {bk ct : L2.St → Hp → Prop} (W : Nat → L2.St → Hp → Prop) (h0 : ∃ m, W m σ H) (h : ∀ m σ H, W m σ H →
  c σ H fun b H1 => if b = true then ∃ N : L2.St → Hp → Prop, (∀ σ' H', N σ' H' → ∃ m', m' < m ∧ W m' σ' H') ∧ tb ⟨N, rt, nx, N⟩ σ H1 else nx σ H1) : tWhile c tb ⟨nx, rt, bk, ct⟩ σ H := ⟨W, h0, h⟩
theorem i_par {i j : Nat} {ta : TA} {nx : L2.St → Hp → Prop} {rt : VK} {bk ct : L2.St → Hp → Prop} (h : ta σ H fun vs H1 => ∃ v w, vs = [v, w] ∧ nx ((σ.set i (some v)).set j (some w)) H1) : tPar i j ta ⟨nx, rt, bk, ct⟩ σ H := h
theorem i_two {x y : V} {R : V → V → Prop} (q : R x y) : ∃ v w, [x, y] = [v, w] ∧ R v w := ⟨x, y, rfl, q⟩
theorem Dp.same {K : PySem.W.Frag} {H H' : Hp} (s : Same H H') : ∀ (d : PyData) (v : V), Dp K H v d → Dp K H' v d := by
  intro d v h
  exact Dp.rec (motive_1 := fun v d _ => Dp K H' v d) (motive_2 := fun vs ds _ => DpAll K H' vs ds) .non (fun b => .bl b) (fun i => .int i) (fun x => .str x) (fun h _ q => .lst (s.seq h) q) (fun h _ q => .tup (Same.tup s h) q) .nil (fun _ _ h1 h2 => .cons h1 h2) h
end
/-! ### a def that can be called -/
structure Df (K : PySem.W.Frag) (mg : Str → Option Value) (x : Str) (st : Stmt) (f : Addr) (fd : FuncData) (ps : List Str) : Prop where
  fn : Fun K x x st f fd
  mgf : mg x = some (.ref f)
  bi : Binds K fd ps []
/-- a def of the text by its promise: it lets no exception out -/
structure Cl (P : Program) (w : World) (K : PySem.W.Frag) (mg : Str → Option Value) (base : Heap) (k : Nat) (x : Str) (sp : Sp) : Prop where
  ex : ∃ (f : Addr) (fd : FuncData) (ps : List Str), FnOk P w K mg base CX0 k f fd ps sp ∧ mg x = some (.ref f) ∧ PySem.W.keepIn K (.ref f) = true ∧ Binds K fd ps []
section
variable {P : Program} {w : World} {K : PySem.W.Frag} {mg : Str → Option Value} {base : Heap}
theorem Df.ok {x : Str} {st : Stmt} {f : Addr} {fd : FuncData} {ps N : List Str} {k : Nat} {sp : Sp} (F : Df K mg x st f fd ps) (S : FnScope N ps (defScope st)) (len : ∀ vs H Q E, sp vs H Q E → vs.length = ps.length)
    (hbody : ∀ (cdv : Value) (A : Around) (outer : List Env) (s : Shared) (H : Hp) (vs : List V) (Q : VK) (E : XK), Room k (A.deeper (envOfC x (defScope st) s.heap.objs.size f cdv)) → sp vs H Q E →
      ∃ t, PSs (cxOf CX0 P w K mg base N x (defScope st) f cdv A outer s H E).nox (defBody st) t ∧ t { nx := fun _ H' => Q .non H', rt := Q } (start N vs) H) : FnOk P w K mg base CX0 (k + 1) f fd ps sp :=
  F.fn.ok S len hbody
theorem Df.cl {x : Str} {st : Stmt} {f : Addr} {fd : FuncData} {ps : List Str} {k : Nat} {sp : Sp} (F : Df K mg x st f fd ps) (o : FnOk P w K mg base CX0 k f fd ps sp) : Cl P w K mg base k x sp :=
  ⟨f, fd, ps, o, F.mgf, F.fn.kp, F.bi⟩
variable {X : Cx}
theorem pe_cl {x : Str} {sp : Sp} {j k : Nat} {e : Expr} {es : List Expr} {t : TA} {p pos : Pos} (c : Cl X.prog X.w X.K X.mg X.base k x sp) (hr : Room j X.A) (hk : k ≤ j) (hg : Gl X x) (ha : PA X (e :: es) t)
    (hdb : (x == ("__debug__" : Str)) = false := by decide) (he : starEach (e :: es) X.env = (false, eval e X.env) :: starEach es X.env := by rfl) (hpl : (backTo pos (starEach es X.env)).any (·.1) = false := by rfl) :
    PE X (.Call (.Name x p) (e :: es) [] pos) (tCall sp [] E0 t) := by
  obtain ⟨f, fd, ps, F, hm, kp, b⟩ := c.ex
  exact pe_call F (hr.mono hk) hg hm kp b .nil pass0 ha hdb he hpl
theorem pe_cl0 {x : Str} {sp : Sp} {j k : Nat} {p pos : Pos} (c : Cl X.prog X.w X.K X.mg X.base k x sp) (hr : Room j X.A) (hk : k ≤ j) (hg : Gl X x) (hdb : (x == ("__debug__" : Str)) = false := by decide) :
    PE X (.Call (.Name x p) [] [] pos) (tCall sp [] E0 tNil) := by
  obtain ⟨f, fd, ps, F, hm, kp, b⟩ := c.ex
  exact pe_call0 F (hr.mono hk) hg hm kp b .nil pass0 hdb
/-- a constant of the module's top -/
def Cn (mg : Str → Option Value) (x : Str) (v : V) : Prop := ∃ u, mg x = some u ∧ RelV v u
theorem pe_cn {x : Str} {v : V} {pos : Pos} (hg : Gl X x) (h : Cn X.mg x v) (hd : (x == ("__debug__" : Str)) = false := by decide) : PE X (.Name x pos) (tC v) := by
  obtain ⟨u, hm, r⟩ := h
  exact pe_glob hg hm r hd
section
variable {K : PySem.W.Frag} {T : String} {name : Str} {id : String} {r : V → List V → Hp → VK → Prop} {o e : Expr} {es : List Expr} {apos cpos pos : Pos} {to ta : TE} {t : TA}
theorem pe_bm0K (hK : X.K = K) (pa : PlainAttrs T) (slot : Slot T name id) (hty : typeOf (.builtin id) = pure (.type "method_descriptor")) (hm : MtR X id r) (ho : PE X o to)
    (hbase : attributeBase o name X.env (eval o X.env) = eval o X.env := by rfl) (hline : (apos.endLine == cpos.line) = true := by rfl) : PE X (.Call (.Attribute o name apos) [] [] cpos) (tBM0 K T r to) := by
  subst hK; exact pe_bm0 pa slot hty hm ho hbase hline
theorem pe_bmK (hK : X.K = K) (pa : PlainAttrs T) (slot : Slot T name id) (hty : typeOf (.builtin id) = pure (.type "method_descriptor")) (hm : MtR X id r) (ho : PE X o to) (ha : PA X (e :: es) t)
    (hbase : attributeBase o name X.env (eval o X.env) = eval o X.env := by rfl)
    (hfew : ((backTo cpos (starEach (e :: es) X.env)).all (fun x => !x.1) && (backToKw cpos (keywordEach [] X.env)).all (fun x => x.1.isSome)
      && decide ((e :: es).length + ([] : List Keyword).length + (if ([] : List Keyword).isEmpty then 0 else 1) < 30)) = true := by rfl)
    (hline : (apos.endLine == cpos.line) = true := by rfl) (hs : starEach (e :: es) X.env = (false, eval e X.env) :: starEach es X.env := by rfl) (hplain : (backTo cpos (starEach es X.env)).any (·.1) = false := by rfl) :
    PE X (.Call (.Attribute o name apos) (e :: es) [] cpos) (tBM K T r to t) := by
  subst hK; exact pe_bm pa slot hty hm ho ha hbase hfew hline hs hplain
theorem pe_fldK (hK : X.K = K) {f : Str} (he : PE X e ta) (hb : attributeBase e f X.env (eval e X.env) = eval e X.env) : PE X (.Attribute e f pos) (tFld K ta f) := by
  subst hK; exact pe_fld he hb
theorem pg_tupK (hK : X.K = K) {es : List Expr} {k : Nat} {t : TGs} {n : Nat} (hc : X.calm = true) (h : PGs X es t)
    (hn : (assignEach es X.env).length = n := by rfl) (hst : (assignEach es X.env).findIdx? (·.1) = none := by rfl) : PG X (.Tuple es k pos) (gTup K n t) := by
  subst hK; exact pg_tup hc h hn hst
end
theorem get_list : L2.PGet X (rIxL X.K) := by
  intro pins s σ H x y v u Q I rx ry h
  obtain ⟨p, xs, i, z, rfl, rfl, hq, he, q⟩ := h
  cases rx
  obtain ⟨t, rfl⟩ := ry
  obtain ⟨its, r, pl, hz⟩ := I.list hq
  obtain ⟨j, h1, h2, h3, h4, h5⟩ := atI_get he
  obtain ⟨w, ew, rw'⟩ := r.get h2
  have hl := r.length
  have hn := line63
  have fin : EP X pins σ Q w s := ⟨z, H, I, rw', q⟩
  by_cases h0 : 0 ≤ i
  · have hj : i.toNat = j := by
      rw [seqIndex_of h0 h5] at h1
      exact Option.some.inj h1
    exact wpAny_getItem_list pl.isList h0 (by omega) (by rw [hj]; simpa using ew) fin
  · have hj : (i + (its.toArray.size : Int)).toNat = j := by
      rw [seqIndex_neg (by omega) h4] at h1
      rw [List.size_toArray, ← hl]
      exact Option.some.inj h1
    exact wpAny_getItem_list_neg pl.isList (by omega) (by rw [List.size_toArray] <;> omega) (by omega) (by rw [hj]; simpa using ew) fin
end
theorem perm_erase {α : Type} : ∀ (l : List α) (i : Nat) (h : i < l.length), (l[i] :: l.eraseIdx i).Perm l
  | x :: r, 0, _ => List.Perm.refl _
  | x :: r, i + 1, h => (List.Perm.swap x (r[i]'(Nat.lt_of_succ_lt_succ h)) (r.eraseIdx i)).trans ((perm_erase r i (Nat.lt_of_succ_lt_succ h)).cons x)
theorem ints_at {ns : List Int} {i : Nat} {x : V} (h : (ns.map V.int)[i]? = some x) : ∃ z, x = .int z ∧ ns[i]? = some z ∧ ns.take (i + 1) = ns.take i ++ [z] ∧ i < ns.length := by
  rw [List.getElem?_map] at h
  cases e : ns[i]? with
  | none => rw [e] at h; cases h
  | some z =>
    rw [e] at h
    exact ⟨z, (Option.some.inj h).symm, rfl, by rw [List.take_add_one, e]; rfl, (List.getElem?_eq_some_iff.mp e).1⟩
theorem at_lt {α : Type} {xs : List α} {i : Int} (h0 : 0 ≤ i) (h : i < xs.length) : ∃ v, atI xs i = some v ∧ v ∈ xs ∧ xs[i.toNat]? = some v := by
  have hl : i.toNat < xs.length := by omega
  refine ⟨xs[i.toNat], ?_, List.getElem_mem hl, List.getElem?_eq_getElem hl⟩
  have := atI_nat (xs := xs) (j := i.toNat) (v := xs[i.toNat]) (List.getElem?_eq_getElem hl)
  rw [Int.toNat_of_nonneg h0] at this
  exact this
theorem ixN_of {n : Nat} {i : Int} (h0 : 0 ≤ i) (h : i < n) : ixN n i = some i.toNat := by
  unfold ixN
  rw [if_pos h0, if_pos h]
end Jp

/-! ### defs that ask for no guards around them: those that call repr of a container -/
namespace Jp
open PySem PySem.Spec PyProof.Rows L2
structure Gok (P : Program) (w : World) (K : PySem.W.Frag) (mg : Str → Option Value) (base : Heap) (k : Nat) (f : Addr) (fd : FuncData) (ps : List Str) (sp : Sp) : Prop where
  len : ∀ vs H Q E, sp vs H Q E → vs.length = ps.length
  go : ∀ (A : Around) (ou : List Env) (s : Shared) (H : Hp) (g : Args) (us : List Value) (vs : List V) (Q : VK) (E : XK), A.guards = some [] → Room k A → Env0 P w K mg base A ou s H → BindsTo s fd g (ps.zip us) → Vals vs us → sp vs H Q E →
    codeAny (model P w) A (.call (.ref f) g) (CR CX0 ou P w H s Q E) s
structure Cg (P : Program) (w : World) (K : PySem.W.Frag) (mg : Str → Option Value) (base : Heap) (k : Nat) (x : Str) (sp : Sp) : Prop where
  ex : ∃ (f : Addr) (fd : FuncData) (ps : List Str), Gok P w K mg base k f fd ps sp ∧ mg x = some (.ref f) ∧ PySem.W.keepIn K (.ref f) = true ∧ Binds K fd ps []
section
variable {P : Program} {w : World} {K : PySem.W.Frag} {mg : Str → Option Value} {base : Heap}
theorem Df.gok {x : Str} {st : Stmt} {f : Addr} {fd : FuncData} {ps N : List Str} {k : Nat} {sp : Sp} (F : Df K mg x st f fd ps) (S : FnScope N ps (defScope st)) (len : ∀ vs H Q E, sp vs H Q E → vs.length = ps.length)
    (body : ∀ (cdv : Value) (A : Around) (ou : List Env) (s : Shared) (H : Hp) (vs : List V) (Q : VK) (E : XK), Room k (A.deeper (envOfC x (defScope st) s.heap.objs.size f cdv)) → A.guards = some [] → sp vs H Q E →
      ∃ t, PSs (cxOf CX0 P w K mg base N x (defScope st) f cdv A ou s H E).nox (defBody st) t ∧ t { nx := fun _ H' => Q .non H', rt := Q } (start N vs) H) : Gok P w K mg base (k + 1) f fd ps sp := by
  obtain ⟨oc, od, kV, doc, pm, an, cdv, ct, osl, rfl, lk, hcd⟩ := F.fn.ex
  refine ⟨len, fun A ou s H g us vs Q E hgu rm e0 bi rv want => ?_⟩
  have many := len vs H Q E want
  have kin : K.In s.heap := e0.mod.kin.keeps fun b o z => (e0.bs b o z).1
  have noLim : s.heap.NoLimit := e0.mod.nolimit.keeps fun b o z => (e0.bs b o z).1
  have kinds : ∀ y ∈ ps.zip us, (defScope st).names.lookup y.1 = some .local ∨ ((defScope st).names.lookup y.1 = some .cell ∧ ((cellsFrom (s.heap.objs.size + 1) (defScope st).names []).lookup y.1).isSome = true) := by
    rintro ⟨n, v⟩ hy
    rcases S.par n (List.of_mem_zip hy).1 with l | c
    · exact .inl l
    · exact .inr ⟨c, PySem.W.cellsFrom_some _ _ _ (.inl c)⟩
  refine codeAny_call_function rm.depth (kin _ _ lk) rfl S.co S.gen rfl (PySem.W.codeRec_of kin hcd) (bi _ _ _ _ (wpAny_newFunctionEnv_cells S.kind kinds fun env he s1 x => ?_)); subst he
  refine ⟨noLim.keeps x.toInCall.keep, codeAny_func ?_⟩
  obtain ⟨t, ht, rd⟩ := body cdv A ou s H vs Q E (rm.deeper _) hgu want
  have inv : Inv (cxOf CX0 P w K mg base N _ (defScope st) f cdv A ou s H E) [] (start N vs) H s1 := inv_start S rm.hd e0 many rv x
  refine wpAny_mono (ht.nox.run [] s1 (start N vs) H _ inv rd) (fun fl s' hs => ?_) fun e s' z => z
  cases fl
  case ret u =>
    obtain ⟨v, σ', H', J, rr, q⟩ := hs
    exact ⟨v, H', J.os, J.bare, J.base, J.hok, rr, q⟩
  case next =>
    obtain ⟨σ', H', J, q⟩ := hs
    exact ⟨V.non, H', J.os, J.bare, J.base, J.hok, rfl, q⟩
  case brk => obtain ⟨_, _, _, q⟩ := hs; exact False.elim q
  case cont => obtain ⟨_, _, _, q⟩ := hs; exact False.elim q
theorem Df.cg {x : Str} {st : Stmt} {f : Addr} {fd : FuncData} {ps : List Str} {k : Nat} {sp : Sp} (F : Df K mg x st f fd ps) (o : Gok P w K mg base k f fd ps sp) : Cg P w K mg base k x sp :=
  ⟨f, fd, ps, o, F.mgf, F.fn.kp, F.bi⟩
end
section
variable {X : Cx}
theorem run_cg {k : Nat} {f : Addr} {fd : FuncData} {ps : List Str} {sp : Sp} {pins : List (Addr × Obj)} {σ : L2.St} {H : Hp} {s : Shared} {Q : VK} {us : List Value} {vs : List V} (F : Gok X.prog X.w X.K X.mg X.base k f fd ps sp) (rm : Room k X.A) (hgu : X.A.guards = some []) (bi : Binds X.K fd ps [])
    (I : Inv X pins σ H s) (rv : Vals vs us) (want : sp (vs ++ []) H Q E0) : wpAny (model X.prog X.w) X.A (call (.ref f) us) (EP X pins σ Q) X.xe s := by
  rw [List.append_nil] at want
  have many : (us ++ []).length = ps.length := by rw [List.append_nil, ← rv.length]; exact F.len _ _ _ _ want
  have bd := bi s us I.kIn many
  rw [List.append_nil] at bd
  refine wpAny_call (codeAny_mono (F.go X.A X.stack s H ⟨us, []⟩ us vs Q E0 hgu rm I.env0 bd rv want) fun r s' hq => ?_)
  cases r
  case error e => exact pass0 pins σ H s e s' I hq
  case ok fl =>
    cases fl
    case ret u => exact I.after hq
    all_goals exact False.elim hq
theorem pe_cg {x : Str} {sp : Sp} {j k : Nat} {e : Expr} {es : List Expr} {t : TA} {p pos : Pos} (c : Cg X.prog X.w X.K X.mg X.base k x sp) (hr : Room j X.A) (hgu : X.A.guards = some []) (hk : k ≤ j) (hg : Gl X x) (ha : PA X (e :: es) t)
    (hdb : (x == ("__debug__" : Str)) = false := by decide) (he : starEach (e :: es) X.env = (false, eval e X.env) :: starEach es X.env := by rfl) (hpl : (backTo pos (starEach es X.env)).any (·.1) = false := by rfl) :
    PE X (.Call (.Name x p) (e :: es) [] pos) (tCall sp [] E0 t) := by
  obtain ⟨f, fd, ps, F, hm, kp, b⟩ := c.ex
  refine ⟨fun pins s σ H Q I h => wpAny_Call_Name_kw (ld_glob I hg hm ?_ hdb)⟩
  refine PySem.W.callWith_K (h₀ := X.base) I.ok.mod.kin kp (thn (ha.run pos pins s σ H _ I h) fun us s1 hh => ?_) he hpl
  obtain ⟨vs, H1, I1, r, q⟩ := hh
  exact ⟨I1.kIn, run_cg F (hr.mono hk) hgu b I1 r q⟩
theorem pe_cg0 {x : Str} {sp : Sp} {j k : Nat} {p pos : Pos} (c : Cg X.prog X.w X.K X.mg X.base k x sp) (hr : Room j X.A) (hgu : X.A.guards = some []) (hk : k ≤ j) (hg : Gl X x) (hdb : (x == ("__debug__" : Str)) = false := by decide) :
    PE X (.Call (.Name x p) [] [] pos) (tCall sp [] E0 tNil) := by
  obtain ⟨f, fd, ps, F, hm, kp, b⟩ := c.ex
  exact ⟨fun pins s σ H Q I h => wpAny_Call_Name_kw (ld_glob I hg hm (PySem.W.callWith_K0 I.kIn kp (run_cg (us := []) F (hr.mono hk) hgu b I .nil h)) hdb)⟩
/-- repr of a container -/
def rReprD (K : PySem.W.Frag) : List V → Hp → VK → Prop := fun xs H Q => ∃ (a : Addr) (d : PyData), xs = [.ref a] ∧ Dp K H (.ref a) d ∧ PyData.layable0 d = true ∧ d.showable = true ∧ d.shown.length ≤ sizeLine ∧ d.depth ≤ 20 ∧ Q (.str d.shown) H
theorem c_reprD (hgu : X.A.guards = some []) (hu : X.A.units + 64 < cLine) : CallR X (.builtin "repr") (rReprD X.K) := by
  intro pins s σ H xs us Q I r h
  obtain ⟨a, d, rfl, hd, hl, hs, hz, hdp, q⟩ := h
  obtain ⟨u, rfl, ru⟩ := vals1 r
  obtain ⟨as, rd⟩ := Dp.reads I d _ u hd ru
  cases ru
  exact repr_of_reads' rd hs (PyData.noDict_hsm (PyData.hasDict_of_layable hl)) hgu (by omega) (fun _ _ e => e) (fun h' u tk hk => ⟨.str d.shown, H, I.kept hk, ⟨_, rfl⟩, q⟩) hz
end
/-- the law's call, where it stands alone -/
theorem law_cg {P : Program} {w : World} {K : PySem.W.Frag} {mg mb : Str → Option Value} {k : Nat} {fa a : Addr} {fd : FuncData} {x : Str} {sp : Sp} {s₁ : Shared} {vs : List Value} {ns : List Int}
    (KX : K.In s₁.heap) (hns : s₁.heap.Ns mainGlobals mg) (hb : s₁.heap.Ns builtinsNs mb) (hbb : ∀ x : Str, x ≠ "__name__" → mb x = bootBuiltins x) (hlim : s₁.heap.NoLimit) (hg : s₁.gens = #[])
    (ha : s₁.heap.get? a = some { cls := .type "list", data := .seq vs.toArray }) (hi : IntsAre vs ns) (hl : ns.length ≤ sizeLine) (hr : Room k callerA)
    (F : ∀ base : Heap, K.In base → base.Ns mainGlobals mg → Gok P w K mg base k fa fd [x] sp) (bind : ∀ (s : Shared) (u : Value), BindsTo s fd ⟨[u], []⟩ [(x, u)])
    (hsp : ∀ H : Hp, Only H → SqL K H a (ns.map V.int) → sp [.ref a] H (fun v _ => v = .bl true) fun _ _ _ => False) :
    codeAny (model P w) callerA (.call (.ref fa) ⟨[.ref a], []⟩) (fun r s' => r = .ok (.ret (.bool true)) ∧ OldK s₁.heap s'.heap ∧ s'.os = s₁.os ∧ AllBare s'.gens) s₁ := by
  have rv := vals_ints hi; have lenV := hi.length
  have main : ∀ H : Hp, Only H → SqL K H a (ns.map V.int) → HOk P w H s₁.heap → (∀ b, H b ≠ none → b = a) → (H a ≠ none → K.lookup a = none) → codeAny (model P w) callerA (.call (.ref fa) ⟨[.ref a], []⟩) (fun r s' => r = .ok (.ret (.bool true)) ∧ OldK s₁.heap s'.heap ∧ s'.os = s₁.os ∧ AllBare s'.gens) s₁ := by
    intro H only hS hok hA hK
    have isA : ∀ {b : Addr} {u : HO}, H b = some u → b = a := fun {b u} e => hA b (by rw [e]; exact Option.some_ne_none u)
    have notDict : ∀ {b : Addr} {o : Obj} {es : Array DictEntry} {ep : Nat}, s₁.heap.get? b = some o → o.data = .dict es ep → H b = none := by
      intro b o es ep e d
      cases q : H b with
      | none => rfl
      | some u =>
        obtain rfl := isA q
        rw [ha] at e
        cases e
        cases (show Data.seq vs.toArray _ = Data.dict es ep from d)
    have ns' : ∀ {b : Addr} {m : Str → Option Value}, s₁.heap.Ns b m → (hidT s₁.heap H).Ns b m := by
      intro b m hh
      obtain ⟨o, es, ep, e, d, r⟩ := hh
      exact ⟨o, es, ep, hidT_get e (notDict e d), d, r⟩
    have kIn : K.In (hidT s₁.heap H) := by
      intro b o e
      refine hidT_get (KX b o e) ?_
      cases q : H b with
      | none => rfl
      | some u =>
        obtain rfl := isA q
        rw [hK (by rw [q]; exact Option.some_ne_none u)] at e
        cases e
    have mod : Mod K mg (hidT s₁.heap H) := by
      obtain ⟨mc, h1, h2⟩ := hlim
      exact ⟨kIn, ns' hns, ⟨mb, ns' hb, hbb⟩, mc, ns' h1, h2⟩
    have e0 : Env0 P w K mg (hidT s₁.heap H) callerA [] s₁ H := ⟨rfl, mod, fun b o e => of_hidT e, Nat.le_of_eq (hidT_size _ _), trivial, fun b z => (nomatch (show b ∈ ([] : List Addr) from z)), hok, .of_eq hg⟩
    have run := (F _ kIn (ns' hns)).go callerA [] s₁ H ⟨[.ref a], []⟩ [.ref a] [.ref a] (fun v _ => v = .bl true) (fun _ _ _ => False) rfl hr e0 (bind s₁ (.ref a)) (.cons rfl .nil) (hsp H only hS)
    refine codeAny_mono run fun r s' h => ?_
    cases r
    case error e => exact False.elim h
    case ok fl =>
      cases fl
      case ret u =>
        obtain ⟨v, H', os, bare, un, hok', r', q⟩ := h
        obtain rfl : v = .bl true := q
        obtain rfl : u = Value.bool true := r'
        refine ⟨rfl, OldK.of_keep fun b o e => ?_, os, bare⟩
        cases q : H b with
        | none => exact un.keep b o e q (by intro z; exact (nomatch (show b ∈ ([] : List Addr) from z))) (by simp)
        | some u =>
          rcases only b with z | ⟨ob, xs, z⟩
          · rw [q] at z
            cases z
          · obtain ⟨e1, _⟩ := hok b _ z
            obtain ⟨e2, _⟩ := hok' b _ (un.frzs b ob _ z)
            rw [e] at e1
            cases e1
            exact e2
      all_goals exact False.elim h
  cases hk : K.lookup a with
  | some o =>
    have e := KX a o hk
    rw [ha] at e
    cases e
    refine main (fun _ => none) (fun _ => .inl rfl) (.inr ⟨_, vs.toArray, _, hk, rfl, rfl, rfl, by rw [List.size_toArray, lenV]; exact hl, by simpa using rv⟩) (fun b u z => (nomatch (show (none : Option HO) = some u from z))) (fun b z => absurd rfl z) fun z => absurd rfl z
  | none =>
    have at_ : ∀ b, b ≠ a → (if b = a then some (HO.frz { cls := .type "list", data := .seq vs.toArray } (.lst (ns.map V.int))) else none) = none := fun b n => if_neg n
    refine main (fun b => if b = a then some (.frz { cls := .type "list", data := .seq vs.toArray } (.lst (ns.map V.int))) else none) (fun b => ?_) (.inl (.inr ⟨_, if_pos rfl⟩)) (fun b u z => ?_) (fun b z => ?_) fun _ => hk
    · by_cases n : b = a
      · exact .inr ⟨_, _, if_pos n⟩
      · exact .inl (at_ b n)
    · by_cases n : b = a
      · have z' := (if_pos n).symm.trans z
        cases z'
        subst n
        exact ⟨ha, by rw [List.length_map]; exact hl, vs, _, rv, ha⟩
      · have z' := (at_ b n).symm.trans z
        cases z'
    · by_cases n : b = a
      · exact n
      · exact absurd (at_ b n) z
theorem walk_cg {l : PySem.W.OpenLaw} {n k : Nat} {q : Program} {loose : List Str} {XP : (Str → Option Value) → Heap → Prop} {YP : World → Heap → Prop} {d : DefRec} {K : Params → PySem.W.Frag} {sp : World → Sp} {x : Str}
    (hn : l.most = some n) (hn2 : n ≤ sizeLine) (hdf : d.params.defaults = []) (hr : Room k callerA) (hY : ∀ (w : World) (h : Heap), YP w h → (K w.params).In h)
    (F : ∀ (w : World) (mg : Str → Option Value) (fa : Addr) (h : Heap), (K w.params).In h → h.Ns mainGlobals mg → mg d.name = some (.ref fa) → ∃ fd : FuncData, (∀ (s : Shared) (u : Value), BindsTo s fd ⟨[u], []⟩ [(x, u)]) ∧ ∀ base : Heap, (K w.params).In base → base.Ns mainGlobals mg → Gok l.prog w (K w.params) mg base k fa fd [x] (sp w))
    (hsp : ∀ (w : World) (H : Hp) (a : Addr) (ns : List Int), ns.length ≤ n → (∀ z ∈ ns, Builtin.Int.intBits z ≤ 1048576) → Only H → SqL (K w.params) H a (ns.map V.int) → sp w [.ref a] H (fun v _ => v = .bl true) fun _ _ _ => False) :
    PySem.W.WalkO q loose XP YP l.row.toRowW d [] (fun f vs => PySem.call f vs) := by
  refine Att.attach_callB hn hdf fun w s₀ s₁ mg mb fa o pm cd doc a vs ns G Y _ _ _ hmg hobj hints hlen hbits hgen => ?_
  have kin := hY w _ Y
  obtain ⟨fd, hb, hF⟩ := F w mg fa _ kin G.T.g hmg
  exact law_cg kin G.T.g G.T.b G.T.builtins G.T.nolimit hgen hobj hints (Nat.le_trans hlen hn2) hr hF hb fun H hO hS => hsp w H a ns hlen hbits hO hS
/-! what can be shown -/
/-- data whose text is short -/
structure Rp (n w : Nat) (d : PyData) : Prop where
  lay : d.canLay0 = true
  dep : d.depth ≤ n
  wei : d.weight ≤ w
  short : d.intsShort 13 = true
  show_ : d.showable = true
theorem Rp.mono {n m w v : Nat} {d : PyData} (h : Rp n w d) (h1 : n ≤ m) (h2 : w ≤ v) : Rp m v d := ⟨h.lay, Nat.le_trans h.dep h1, Nat.le_trans h.wei h2, h.short, h.show_⟩
theorem Rp.non : Rp 0 0 .none := ⟨by simp [PyData.canLay0], by simp [PyData.depth], by simp [PyData.weight], by simp [PyData.intsShort], by simp [PyData.showable]⟩
theorem Rp.int {i : Int} (h : i.natAbs < 10 ^ 12) : Rp 0 40 (.int i) := by
  have e : (10 : Nat) ^ 12 < 2 ^ 40 := by decide
  have h1 : i.natAbs = 0 ∨ i.natAbs.log2 < 40 := by
    by_cases z : i.natAbs = 0
    · exact .inl z
    · exact .inr ((Nat.log2_lt z).mpr (by omega))
  refine ⟨by simp [PyData.canLay0], by simp [PyData.depth], ?_, ?_, ?_⟩
  · rw [PyData.weight]
    split
    · omega
    · rename_i hz
      rcases h1 with z | z
      · exact absurd (by simpa using z) hz
      · omega
  · rw [PyData.intsShort, PyData.shown]
    exact decide_eq_true (by rw [PySem.ofString_length]; exact int_text_length_le10 (k := 12) (by decide) h)
  · rw [PyData.showable]
    rcases h1 with z | z
    · rw [z]; decide
    · exact decide_eq_true (by omega)
theorem Rp.facts : Rp 0 40 (.str "facts") := ⟨by decide +kernel, by simp [PyData.depth], by decide +kernel, by simp [PyData.intsShort], by simp [PyData.showable]⟩
theorem rpAll {n w : Nat} : ∀ {ds : List PyData}, (∀ d ∈ ds, Rp n w d) → PyData.canLayAll0 ds = true ∧ PyData.depthAll ds ≤ n ∧ PyData.weightAll ds ≤ ds.length * (w + 1) ∧ PyData.intsShortAll 13 ds = true ∧ PyData.showableAll ds = true
  | [], _ => by simp [PyData.canLayAll0, PyData.depthAll, PyData.weightAll, PyData.intsShortAll, PyData.showableAll]
  | d :: ds, h => by
    have a := h d List.mem_cons_self
    obtain ⟨b1, b2, b3, b4, b5⟩ := rpAll (ds := ds) fun x hx => h x (List.mem_cons_of_mem _ hx)
    refine ⟨by rw [PyData.canLayAll0, a.lay, b1]; rfl, ?_, ?_, by rw [PyData.intsShortAll, a.short, b4]; rfl, by rw [PyData.showableAll, a.show_, b5]; rfl⟩
    · rw [PyData.depthAll]
      exact Nat.max_le.mpr ⟨a.dep, b2⟩
    · have := a.wei
      rw [PyData.weightAll, List.length_cons, Nat.succ_mul]
      omega
theorem Rp.tup {n w : Nat} {ds : List PyData} (h : ∀ d ∈ ds, Rp n w d) : Rp (n + 1) (ds.length * (w + 1)) (.tuple ds) := by
  obtain ⟨b1, b2, b3, b4, b5⟩ := rpAll h
  exact ⟨by rw [PyData.canLay0]; exact b1, by rw [PyData.depth]; omega, by rw [PyData.weight]; exact b3, by rw [PyData.intsShort]; exact b4, by rw [PyData.showable]; exact b5⟩
theorem Rp.layable {n w : Nat} {d : PyData} (h : Rp n w d) (hn : n ≤ 20) (hw : w ≤ 1000000) : PyData.layable0 d = true := by
  have := h.dep; have := h.wei
  unfold PyData.layable0
  rw [h.lay, decide_eq_true (show d.depth ≤ 64 by omega), decide_eq_true (show d.weight ≤ 2 ^ 20 by omega)]; rfl
theorem i_repr {K : PySem.W.Frag} {H : Hp} {Q : VK} {v : V} {ds : List PyData} {n w : Nat} (h : Dp K H v (.tuple ds)) (r : Rp n w (.tuple ds)) (hn : n ≤ 20) (hw : w ≤ 1000000) (q : Q (.str (PyData.tuple ds).shown) H) : rReprD K [v] H Q := by
  have hl := r.layable hn hw
  have hz : (PyData.tuple ds).shown.length ≤ sizeLine := by
    have := shown_le13 hl r.short
    rw [sizeLine_eq]; omega
  cases h with
  | tup a b => exact ⟨_, _, rfl, .tup a b, hl, r.show_, hz, Nat.le_trans r.dep hn, q⟩
theorem i_reprS {K : PySem.W.Frag} {H : Hp} {Q : VK} {v : V} {d : PyData} {n w : Nat} (h : Dp K H v d) (r : Rp n w d) (hn : n ≤ 20) (hw : w ≤ 1000000) (ht : ∃ ds, d = .tuple ds) (q : ∀ s, s = d.shown → Q (.str s) H) : rReprD K [v] H Q := by
  obtain ⟨ds, rfl⟩ := ht
  exact i_repr h r hn hw (q _ rfl)
end Jp

namespace Law
open PySem PySem.Spec PyProof.Rows L2 Jp
/-! ### the walk's small steps -/
local macro_rules | `(tactic| wtm_at "jset") => `(tactic| (first | (simp only [wipe, List.map_cons, List.map_nil, List.set_cons_zero, List.set_cons_succ]; done) | (simp only [wipe, List.map_cons, List.map_nil, List.set_cons_zero, List.set_cons_succ]; exact rfl) | exact rfl))
local macro_rules | `(tactic| wtm_at "jw1") => `(tactic| first
  | ((with_reducible refine' i_var ?h ?_); (case h => exact rfl))
  | with_reducible refine' i_c ?_ | with_reducible refine' i_op ?_ | with_reducible refine' i_seq ?_ | with_reducible refine' i_asg ?_
  | ((with_reducible refine' i_gNameE ?e ?_); (case e => wtm_at "jset"))
  | with_reducible refine' i_ret ?_ | with_reducible refine' i_test ?_ | with_reducible refine' i_isb ?_
  | with_reducible refine' i_cons ?_ | with_reducible refine' i_nil ?_ | with_reducible refine' i_call ?_ | with_reducible refine' i_cb ?_
  | with_reducible refine' i_rI0 ?_ | ((with_reducible refine' i_rI ?c ?_); (case c => wtm_at "jside")) | with_reducible refine' i_rU ?_
  | with_reducible refine' i_eqI ?_ | with_reducible refine' i_neI ?_ | with_reducible refine' i_eqB ?_ | with_reducible refine' i_neB ?_ | with_reducible refine' i_eqS ?_ | with_reducible refine' i_neS ?_
  | with_reducible refine' i_isN ?_ | with_reducible refine' i_notN ?_
  | with_reducible refine' i_un ?_ | with_reducible refine' i_drop ?_ | with_reducible refine' i_retN ?_ | with_reducible refine' i_next ?_
  | ((with_reducible refine' i_ixL ?h ?e ?_); (case h => wtm_at "jsq"); (case e => wtm_at "jat"))
  | ((with_reducible refine' i_ixT ?h ?e ?_); (case h => wtm_at "jsq"); (case e => wtm_at "jat"))
  | ((with_reducible refine' i_ix1 (i_ixL ?h ?e ?_)); (case h => wtm_at "jsq"); (case e => wtm_at "jat"))
  | ((with_reducible refine' i_ix2 (i_ixT ?h ?e ?_)); (case h => wtm_at "jsq"); (case e => wtm_at "jat"))
  | with_reducible refine' i_gSub ?_
  | ((with_reducible refine' i_setL ?h ?e ?_); (case h => wtm_at "jhp"); (case e => wtm_at "jixn"))
  | ((with_reducible refine' i_gTup ?h ?e ?_); (case h => wtm_at "jsq"); (case e => rfl)) | with_reducible refine' i_gCons ?_ | with_reducible refine' i_gNil ?_
  | with_reducible refine' i_int ?_ | with_reducible refine' i_intB ?_ | with_reducible refine' i_abs ?_ | with_reducible refine' i_max2 ?_ | with_reducible refine' i_min2 ?_
  | ((with_reducible refine' i_lenL ?h ?_); (case h => wtm_at "jsq")) | ((with_reducible refine' i_lenT ?h ?_); (case h => wtm_at "jsq"))
  | ((with_reducible refine' i_tupL ?h ?_); (case h => wtm_at "jsq")) | ((with_reducible refine' i_lstL ?h ?_); (case h => wtm_at "jsq")) | ((with_reducible refine' i_lstT ?h ?_); (case h => wtm_at "jsq")) | ((with_reducible refine' i_tupT ?h ?_); (case h => wtm_at "jsq"))
  | ((with_reducible refine' i_new ?h ?_); (case h => wtm_at "jlen"))
  | with_reducible refine' i_tup ?_ | with_reducible refine' i_lst ?_ | with_reducible refine' i_if ?_ | with_reducible refine' i_andV ?_ | with_reducible refine' i_orV ?_ | with_reducible refine' i_notV ?_ | with_reducible refine' i_B ?_
  | with_reducible refine' i_and ?_ | with_reducible refine' i_or ?_ | with_reducible refine' i_not ?_ | with_reducible refine' i_break ?_ | with_reducible refine' i_cont ?_
  | ((with_reducible refine' i_augE ?h ?_); (case h => exact rfl)) | with_reducible refine' i_augS ?_ | with_reducible refine' i_ipI ?_
  | with_reducible refine' i_for ?_ | with_reducible refine' i_iList ?_ | with_reducible refine' i_iTup ?_ | ((with_reducible refine' i_isL ?h ?_); (case h => wtm_at "jsq")) | ((with_reducible refine' i_isT ?h ?_); (case h => wtm_at "jsq"))
  | with_reducible refine' i_rng1 ?_ | with_reducible refine' i_rng2 ?_
  | ((with_reducible refine' i_isR1 ?h1 ?h2 ?_); (case h1 => wtm_at "jside"); (case h2 => wtm_at "jside"))
  | ((with_reducible refine' i_isR2 ?h1 ?h2 ?h3 ?h4 ?_); (case h1 => wtm_at "jside"); (case h2 => wtm_at "jside"); (case h3 => wtm_at "jside"); (case h4 => wtm_at "jside"))
  | ((with_reducible refine' i_lc ?e ?_); (case e => wtm_at "jset"))
  | with_reducible refine' i_yes ?_ | with_reducible refine' i_sl ?_ | with_reducible refine' i_par ?_ | with_reducible refine' i_two ?_ | with_reducible refine' i_noPart ?_ | with_reducible refine' i_part ?_ | with_reducible refine' i_isI ?_
  | with_reducible refine' i_bm ?_ | with_reducible refine' i_bm0 ?_ | ((with_reducible refine' i_tyL ?h ?_); (case h => wtm_at "jsq"))
  | ((with_reducible refine' i_app ?h ?e ?_); (case h => wtm_at "jhp"); (case e => wtm_at "jsmall"))
  | with_reducible refine' i_chain ?_ | ((with_reducible refine' i_cat ?h1 ?h2 ?e ?_); (case h1 => wtm_at "jhp"); (case h2 => wtm_at "jhp"); (case e => wtm_at "jlen"))
  | with_reducible refine iteT ?_ | with_reducible refine iteF ?_ | with_reducible refine' c_nt ?_ | with_reducible refine' c_nf ?_)
local macro_rules | `(tactic| wtm_at "js") => `(tactic| repeat (wtm_at "jw1"))
local macro_rules | `(tactic| wtm_at "jw") => `(tactic| repeat (first | wtm_at "jw1" | with_reducible refine' i_ifS ?_))
local macro_rules | `(tactic| wtm_at "jlen") => `(tactic| first | decide | (simp [sizeLine]; done) | omega)
/- a condition of an operation -/
local macro_rules | `(tactic| wtm_at "jside") => `(tactic| first | with_reducible assumption | omega | decide | (simp only [List.length_map]; omega) | (refine Or.inl ?_; decide) | (refine Or.inr ?_; decide) | (refine ⟨?_, ?_⟩ <;> omega) | (refine Or.inl ?_; constructor <;> omega) | (refine Or.inr ?_; constructor <;> omega) | (refine ⟨by decide, by decide, by decide⟩) | (with_reducible refine wide_div ?_ (b := 64) ?_ ?_ ?_ <;> first | omega | decide))
/- H p = some o -/
local macro_rules | `(tactic| wtm_at "jhp") => `(tactic| first | assumption | with_reducible exact upd_same | ((with_reducible refine' Eq.trans (upd_ne ?hne) ?hgo); (case hne => wtm_at "jne"); (case hgo => wtm_at "jhp")))
local macro_rules | `(tactic| wtm_at "jne") => `(tactic| first | assumption | (refine Ne.symm ?_; assumption) | (refine ne_of_none (by assumption) (by assumption)) | (refine (ne_of_none (by assumption) (by assumption)).symm))
local macro_rules | `(tactic| wtm_at "jsq") => `(tactic| first | assumption | ((with_reducible refine' SqL.of ?hh); (case hh => wtm_at "jhp")) | ((with_reducible refine' SqT.of ?hh); (case hh => wtm_at "jhp")) | ((with_reducible refine' Same.seq (same_new ?hn) ?hh); (case hn => assumption); (case hh => wtm_at "jsq")) | ((with_reducible refine' Same.tup (same_new ?hn) ?hh); (case hn => assumption); (case hh => wtm_at "jsq")))
/- the item at a place -/
local macro_rules | `(tactic| wtm_at "jat") => `(tactic| first | exact rfl | assumption)
local macro_rules | `(tactic| wtm_at "jixn") => `(tactic| first | exact rfl | assumption)
local macro_rules | `(tactic| wtm_at "jsmall") => `(tactic| first | assumption | exact small1000 (by first | assumption | omega | (simp; done) | (simp; omega)))

def top (i : Nat) : Stmt := PySem.Challenge.pw_judgedplay_k56_parcels.main.body.getD i (.Pass ⟨0, 0, 0, 0⟩)
abbrev s__law_begin : Stmt := top 12
abbrev N__law_begin : List Str := ["script", "cell"]
theorem sc__law_begin : FnScope N__law_begin ["script"] (defScope s__law_begin) := ⟨rfl, rfl, rfl, by decide +kernel, rfl, by decide +kernel, by decide +kernel⟩
abbrev s__law_draw : Stmt := top 13
abbrev N__law_draw : List Str := ["d", "many", "found", "size", "cell"]
theorem sc__law_draw : FnScope N__law_draw ["d", "many"] (defScope s__law_draw) := ⟨rfl, rfl, rfl, by decide +kernel, rfl, by decide +kernel, by decide +kernel⟩
abbrev s__law_pick : Stmt := top 14
abbrev N__law_pick : List Str := ["d", "row"]
theorem sc__law_pick : FnScope N__law_pick ["d", "row"] (defScope s__law_pick) := ⟨rfl, rfl, rfl, by decide +kernel, rfl, by decide +kernel, by decide +kernel⟩
abbrev s__law_some_facts : Stmt := top 17
abbrev N__law_some_facts : List Str := ["d", "seats", "tick", "entered", "gone", "seat", "entry", "left", "many", "pending", "now", "k"]
theorem sc__law_some_facts : FnScope N__law_some_facts ["d", "seats"] (defScope s__law_some_facts) := ⟨rfl, rfl, rfl, by decide +kernel, rfl, by decide +kernel, by decide +kernel⟩
abbrev s__law_some_state : Stmt := top 18
abbrev N__law_some_state : List Str := ["d", "seats", "found", "k"]
theorem sc__law_some_state : FnScope N__law_some_state ["d", "seats"] (defScope s__law_some_state) := ⟨rfl, rfl, rfl, by decide +kernel, rfl, by decide +kernel, by decide +kernel⟩
abbrev s__law_row_of : Stmt := top 19
abbrev N__law_row_of : List Str := ["facts", "state", "ticks", "tick", "found", "wanted", "entry"]
theorem sc__law_row_of : FnScope N__law_row_of ["facts", "state"] (defScope s__law_row_of) := ⟨rfl, rfl, rfl, by decide +kernel, rfl, by decide +kernel, by decide +kernel⟩
abbrev s_tick_number : Stmt := top 7
abbrev N_tick_number : List Str := ["tick"]
theorem sc_tick_number : FnScope N_tick_number ["tick"] (defScope s_tick_number) := ⟨rfl, rfl, rfl, by decide +kernel, rfl, by decide +kernel, by decide +kernel⟩
abbrev s_parcel_of : Stmt := top 9
abbrev N_parcel_of : List Str := ["facts", "state", "row", "tick", "order", "value"]
theorem sc_parcel_of : FnScope N_parcel_of ["facts", "state"] (defScope s_parcel_of) := ⟨rfl, rfl, rfl, by decide +kernel, rfl, by decide +kernel, by decide +kernel⟩
abbrev s_is_int : Stmt := top 2
abbrev N_is_int : List Str := ["thing"]
theorem sc_is_int : FnScope N_is_int ["thing"] (defScope s_is_int) := ⟨rfl, rfl, rfl, by decide +kernel, rfl, by decide +kernel, by decide +kernel⟩
abbrev s_is_ints : Stmt := top 3
abbrev N_is_ints : List Str := ["thing", "one"]
theorem sc_is_ints : FnScope N_is_ints ["thing"] (defScope s_is_ints) := ⟨rfl, rfl, rfl, by decide +kernel, rfl, by decide +kernel, by decide +kernel⟩
abbrev s_is_ints_between : Stmt := top 4
abbrev N_is_ints_between : List Str := ["thing", "low", "high", "one"]
theorem sc_is_ints_between : FnScope N_is_ints_between ["thing", "low", "high"] (defScope s_is_ints_between) := ⟨rfl, rfl, rfl, by decide +kernel, rfl, by decide +kernel, by decide +kernel⟩
abbrev s_tick_of : Stmt := top 8
abbrev N_tick_of : List Str := ["number"]
theorem sc_tick_of : FnScope N_tick_of ["number"] (defScope s_tick_of) := ⟨rfl, rfl, rfl, by decide +kernel, rfl, by decide +kernel, by decide +kernel⟩
abbrev s_opened_parcel : Stmt := top 10
abbrev N_opened_parcel : List Str := ["numbers", "seats", "begin", "many", "rest", "entered", "number", "gone", "pending", "k", "facts"]
theorem sc_opened_parcel : FnScope N_opened_parcel ["numbers", "seats"] (defScope s_opened_parcel) := ⟨rfl, rfl, rfl, by decide +kernel, rfl, by decide +kernel, by decide +kernel⟩
abbrev s__law_is_same : Stmt := top 20
abbrev N__law_is_same : List Str := ["told", "due"]
theorem sc__law_is_same : FnScope N__law_is_same ["told", "due"] (defScope s__law_is_same) := ⟨rfl, rfl, rfl, by decide +kernel, rfl, by decide +kernel, by decide +kernel⟩
abbrev s__law_is_refused : Stmt := top 22
abbrev N__law_is_refused : List Str := ["d", "row", "seats", "header", "most", "many", "at", "number", "thing"]
theorem sc__law_is_refused : FnScope N__law_is_refused ["d", "row", "seats"] (defScope s__law_is_refused) := ⟨rfl, rfl, rfl, by decide +kernel, rfl, by decide +kernel, by decide +kernel⟩
abbrev s__law_is_int : Stmt := top 15
abbrev N__law_is_int : List Str := ["thing"]
theorem sc__law_is_int : FnScope N__law_is_int ["thing"] (defScope s__law_is_int) := ⟨rfl, rfl, rfl, by decide +kernel, rfl, by decide +kernel, by decide +kernel⟩
abbrev s__law_is_ints : Stmt := top 16
abbrev N__law_is_ints : List Str := ["row", "part"]
theorem sc__law_is_ints : FnScope N__law_is_ints ["row"] (defScope s__law_is_ints) := ⟨rfl, rfl, rfl, by decide +kernel, rfl, by decide +kernel, by decide +kernel⟩
abbrev s__law_is_cut_right : Stmt := top 21
abbrev N__law_is_cut_right : List Str := ["row", "seats", "facts", "state", "size", "least", "told"]
theorem sc__law_is_cut_right : FnScope N__law_is_cut_right ["row", "seats", "facts", "state", "size"] (defScope s__law_is_cut_right) := ⟨rfl, rfl, rfl, by decide +kernel, rfl, by decide +kernel, by decide +kernel⟩
abbrev s_law : Stmt := top 23
abbrev N_law : List Str := ["script", "d", "turn", "seats", "facts", "state", "row", "told", "least", "header", "size"]
theorem sc_law : FnScope N_law ["script"] (defScope s_law) := ⟨rfl, rfl, rfl, by decide +kernel, rfl, by decide +kernel, by decide +kernel⟩
/-- what the text's top has: built-ins that are still so, constants -/
structure Txt (mg : Str → Option Value) : Prop where
  b_int : mg "int" = none
  b_len : mg "len" = none
  b_abs : mg "abs" = none
  b_range : mg "range" = none
  b_tuple : mg "tuple" = none
  b_isinstance : mg "isinstance" = none
  b_bool : mg "bool" = none
  b_repr : mg "repr" = none
  b_list : mg "list" = none
  b_all : mg "all" = none
  c_LOW : Cn mg "LOW" (.int (-32768))
  c_MOST_NUMBER : Cn mg "MOST_NUMBER" (.int 65536)
/-! ### the draws -/
/-- a row of draws stands at p, its cells at a -/
def DrawAt (H : Hp) (p a : Addr) : Prop := ∃ (ns : List Int) (pos pend seed : Int), H p = some (.lst [.ref a, .int pos, .int pend, .int seed]) ∧ H a = some (.lst (ns.map V.int)) ∧ a ≠ p ∧ 0 ≤ pos
theorem DrawAt.same {H H' : Hp} {p a : Addr} (d : DrawAt H p a) (s : Same H H') : DrawAt H' p a := by
  obtain ⟨ns, pos, pend, seed, h1, h2, h3, h4⟩ := d
  exact ⟨ns, pos, pend, seed, s _ _ h1, s _ _ h2, h3, h4⟩
/-- behind draws: the row stands, all else is as it was -/
structure Drew (p a : Addr) (H H' : Hp) : Prop where
  at_ : DrawAt H' p a
  kp : Kp p H H'
theorem Drew.trans {p a : Addr} {H H1 H2 : Hp} (x : Drew p a H H1) (y : Drew p a H1 H2) : Drew p a H H2 := ⟨y.at_, x.kp.trans y.kp⟩
theorem Drew.new {p a q : Addr} {H H1 : Hp} {o : HO} (x : Drew p a H H1) (h : H1 q = none) : Drew p a H (upd H1 q o) := ⟨x.at_.same (same_new h), x.kp.trans (.of (same_new h))⟩
theorem Drew.same {p a : Addr} {H H1 H2 : Hp} (x : Drew p a H H1) (s : Same H1 H2) : Drew p a H H2 := ⟨x.at_.same s, x.kp.trans (.of s)⟩
theorem DrawAt.drew {p a : Addr} {H : Hp} (d : DrawAt H p a) : Drew p a H H := ⟨d, Kp.refl⟩
theorem DrawAt.some {H : Hp} {p a : Addr} (d : DrawAt H p a) : ∃ xs, H p = some (.lst xs) := by
  obtain ⟨ns, pos, pend, seed, h1, _⟩ := d
  exact ⟨_, h1⟩
theorem DrawAt.ne_none {H : Hp} {p a q : Addr} (d : DrawAt H p a) (h : H q = none) : q ≠ p := by
  obtain ⟨xs, e⟩ := d.some
  exact (ne_of_none e h).symm
theorem DrawAt.ne_noneA {H : Hp} {p a q : Addr} (d : DrawAt H p a) (h : H q = none) : q ≠ a := by
  obtain ⟨ns, pos, pend, seed, _, h1, _⟩ := d
  exact (ne_of_none h1 h).symm
theorem Drew.free {p a q : Addr} {H H' : Hp} (w : Drew p a H H') (h : H' q = none) : H q = none := by
  cases e : H q with
  | none => rfl
  | some o =>
    by_cases hq : q = p
    · obtain ⟨xs, e'⟩ := w.at_.some
      rw [hq, e'] at h; cases h
    · rw [w.kp _ _ e hq] at h; cases h
/-- a thing of our own, made behind H, is written -/
theorem Drew.put {p a q : Addr} {H H1 : Hp} {o : HO} (x : Drew p a H H1) (d : DrawAt H p a) (h : H q = none) : Drew p a H (upd H1 q o) := by
  have n1 := d.ne_none h
  have n2 := d.ne_noneA h
  obtain ⟨ns, pos, pend, seed, h1, h2, h3, h4⟩ := x.at_
  refine ⟨⟨ns, pos, pend, seed, by rw [upd_ne n1.symm]; exact h1, by rw [upd_ne n2.symm]; exact h2, h3, h4⟩, fun b u hb hne => ?_⟩
  rw [upd_ne (ne_of_none hb h)]
  exact x.kp _ _ hb hne
theorem Drew.tps {p a : Addr} {H H' : Hp} (w : Drew p a H H') (d : DrawAt H p a) : Tps H H' := by
  obtain ⟨xs, e⟩ := d.some
  exact w.kp.tps e
def sp__law_begin (K : PySem.W.Frag) : Sp := fun vs H Q _ => ∃ (a : Addr) (ns : List Int), vs = [.ref a] ∧ SqL K H a (ns.map V.int) ∧ ns.length ≤ 63 ∧
  ∀ (p c : Addr) (H' : Hp), Same H H' → H p = none → H c = none → DrawAt H' p c → Q (.ref p) H'
theorem ok__law_begin {P : Program} {w : World} {K : PySem.W.Frag} {mg : Str → Option Value} {base : Heap} {f : Addr} {fd : FuncData} (F : Df K mg "_law_begin" s__law_begin f fd ["script"]) (T : Txt mg) : FnOk P w K mg base CX0 1 f fd ["script"] (sp__law_begin K) := by
  refine F.ok sc__law_begin (fun vs H Q E h => ?_) (fun cdv A outer s H vs Q E hr h => ?_)
  · obtain ⟨a, ns, rfl, _⟩ := h
    rfl
  · obtain ⟨a, ns, rfl, hS, hl, k⟩ := h
    refine ⟨_, (pss_one (ps_ret (pe_lst (pa_cons (pe_lc (own := [("cell", 1)]) (g := gName 1) (tt := tYes) rfl sc__law_begin.nd (pi_list (pv 0)) (blkOk_by (own := [("cell", 1)]) (N := N__law_begin) (sc := defScope s__law_begin) (by decide +kernel)) (fun _ _ _ _ _ => (pg_name (i := 1) sc__law_begin.nd rfl (Or.inl rfl))) (fun _ _ _ _ _ => pts_nil) (fun _ _ _ _ _ => (pe_callTy (T := "int") c_int (by rfl) T.b_int (by decide +kernel) (pa_cons (pv 1) pa_nil)))) (pa_cons pe_int (pa_cons pe_int (pa_cons pe_int pa_nil))))))), ?_⟩
    try dsimp only [cxOf, Cx.nox, Cx.wish]
    refine st_of (σ' := [some _, none]) rfl ?_
    wtm_at "jw"
    intro D hD
    refine l_list (xs := ns.map V.int) (fun i H1 => Same H H1 ∧ H1 D = some (.lst ((ns.take i).map V.int))) ⟨same_new hD, upd_same⟩ (fun i H1 _ h => h.1.seq hS) (fun i x H1 hi h => ?_) (fun H1 h => ?_)
    · obtain ⟨s1, h1⟩ := h
      rw [List.getElem?_map] at hi
      cases e : ns[i]? with
      | none => rw [e] at hi; cases hi
      | some z =>
        rw [e] at hi
        cases hi
        have hlt : i < ns.length := (List.getElem?_eq_some_iff.mp e).1
        wtm_at "jw"
        refine ⟨rfl, ?_⟩
        wtm_at "jw"
        refine ⟨_, h1, small1000 (by rw [List.length_map, List.length_take]; omega), ?_, ?_⟩
        · intro b o hb
          have hne : b ≠ D := ne_of_none hb hD
          rw [upd_ne hne]
          exact s1 _ _ hb
        · rw [upd_same, List.take_add_one, e, List.map_append]
          rfl
    · obtain ⟨s1, h1⟩ := h
      rw [List.length_map, List.take_length] at h1
      wtm_at "jw"
      intro p hp
      have hne : D ≠ p := ne_of_none h1 hp
      refine k p D _ (fun b o hb => ?_) (s1.free hp) hD ⟨ns, 0, 0, 11, upd_same, by rw [upd_ne hne]; exact h1, hne, by decide⟩
      rw [upd_ne (ne_of_none (s1 _ _ hb) hp)]
      exact s1 _ _ hb
def sp__law_draw (K : PySem.W.Frag) : Sp := fun vs H Q _ => ∃ (p a : Addr) (many : Int), vs = [.ref p, .int many] ∧ DrawAt H p a ∧ 0 < many ∧ many < 18446744073709551616 ∧
  ∀ (r : Int) (H' : Hp), 0 ≤ r → r < many → Drew p a H H' → Q (.int r) H'
theorem ok__law_draw {P : Program} {w : World} {K : PySem.W.Frag} {mg : Str → Option Value} {base : Heap} {f : Addr} {fd : FuncData} (F : Df K mg "_law_draw" s__law_draw f fd ["d", "many"]) (T : Txt mg) : FnOk P w K mg base CX0 1 f fd ["d", "many"] (sp__law_draw K) := by
  refine F.ok sc__law_draw (fun vs H Q E h => ?_) (fun cdv A outer s H vs Q E hr h => ?_)
  · obtain ⟨p, a, m, rfl, _⟩ := h
    rfl
  · obtain ⟨p, a, m, rfl, ⟨ns, pos, pend, seed, hp, ha, nap, h0⟩, hm0, hm1, k⟩ := h
    have fin : ∀ (z : Int) (pos' pend' seed' : Int) (H' : Hp), 0 ≤ pos' → H' p = some (.lst [.ref a, .int pos', .int pend', .int seed']) → Kp p H H' → Q (.int (z % m)) H' := fun z pos' pend' seed' H' hp' h1 h2 =>
      k _ _ (Int.emod_nonneg _ (by omega)) (Int.emod_lt_of_pos _ hm0) ⟨⟨ns, pos', pend', seed', h1, h2 _ _ ha nap, nap, hp'⟩, h2⟩
    refine ⟨_, (pss_cons (ps_if (pt_cmpR op_gt (pe_ix (r := rIxL K) ix_list (pv 0) pe_int (fun _ _ => rfl)) pe_int (nomark _)) (pss_cons (ps_set (i := 2) sc__law_draw.nd rfl (Or.inl rfl) (pe_ix (r := rIxL K) ix_list (pv 0) pe_int (fun _ _ => rfl)))
      (pss_cons (ps_asg (pe_op op_fdivW (pv 2) (pv 1)) (pg_sub (pv 0) pe_int set_list))
      (pss_one (ps_ret (pe_op op_mod (pe_callTy (T := "int") c_int (by rfl) T.b_int (by decide +kernel) (pa_cons (pv 2) pa_nil)) (pv 1)))))) pss_nil)
      (pss_cons (ps_set (i := 3) sc__law_draw.nd rfl (Or.inl rfl) pe_int)
      (pss_cons (ps_if (pt_cmpR op_lt (pe_ix (r := rIxL K) ix_list (pv 0) pe_int (fun _ _ => rfl)) (pe_callB (id := "len") (r := qLen K) c_len (by rfl) T.b_len (by decide +kernel) (pa_cons (pe_ix (r := rIxL K) ix_list (pv 0) pe_int (fun _ _ => rfl)) pa_nil)) (nomark _)) (pss_cons (ps_set (i := 4) sc__law_draw.nd rfl (Or.inl rfl) (pe_ix (r := rIx K) ix_seq (pe_ix (r := rIxL K) ix_list (pv 0) pe_int (fun _ _ => rfl)) (pe_ix (r := rIxL K) ix_list (pv 0) pe_int (fun _ _ => rfl)) (fun _ _ => rfl)))
      (pss_one (ps_set (i := 3) sc__law_draw.nd rfl (Or.inl rfl) (pe_op op_add (pe_op op_mul pe_int (pe_callB (id := "abs") c_abs (by rfl) T.b_abs (by decide +kernel) (pa_cons (pv 4) pa_nil))) (pe_callTy (T := "int") c_int (by rfl) T.b_int (by decide +kernel) (pa_cons (pe_cmpR op_lt (pv 4) pe_int (nomark _)) pa_nil)))))) pss_nil)
      (pss_cons (ps_augS (pv 0) pe_int get_list pe_int iop_add set_list)
      (pss_cons (ps_if (pt_cmpR op_ge (pv 3) (pe_op op_mul pe_int (pe_op op_pow pe_int pe_int)) (nomark _)) (pss_cons (ps_set (i := 2) sc__law_draw.nd rfl (Or.inl rfl) (pe_op op_mod (pe_callTy (T := "int") c_int (by rfl) T.b_int (by decide +kernel) (pa_cons (pe_op op_fdiv (pv 3) pe_int) pa_nil)) (pe_op op_shl pe_int pe_int)))
      (pss_cons (ps_asg (pe_op op_fdivW (pv 2) (pv 1)) (pg_sub (pv 0) pe_int set_list))
      (pss_one (ps_ret (pe_op op_mod (pe_callTy (T := "int") c_int (by rfl) T.b_int (by decide +kernel) (pa_cons (pv 2) pa_nil)) (pv 1)))))) pss_nil)
      (pss_cons (ps_asg (pe_op op_mod (pe_callTy (T := "int") c_int (by rfl) T.b_int (by decide +kernel) (pa_cons (pe_op op_add (pe_op op_add (pe_op op_add (pe_op op_mul (pe_ix (r := rIxL K) ix_list (pv 0) pe_int (fun _ _ => rfl)) pe_int) (pe_op op_mul (pe_op op_mod (pe_callTy (T := "int") c_int (by rfl) T.b_int (by decide +kernel) (pa_cons (pv 3) pa_nil)) pe_int) pe_int)) (pe_op op_mul (pe_ix (r := rIxL K) ix_list (pv 0) pe_int (fun _ _ => rfl)) pe_int)) pe_int) pa_nil)) pe_int) (pg_sub (pv 0) pe_int set_list))
      (pss_one (ps_ret (pe_op op_mod (pe_callTy (T := "int") c_int (by rfl) T.b_int (by decide +kernel) (pa_cons (pe_op op_fdiv (pe_ix (r := rIxL K) ix_list (pv 0) pe_int (fun _ _ => rfl)) pe_int) pa_nil)) (pv 1)))))))))), ?_⟩
    try dsimp only [cxOf, Cx.nox, Cx.wish]
    refine st_of (σ' := [some _, some _, none, none, none]) rfl ?_
    wtm_at "jw"
    refine c_dec (fun h => ?_) (fun h => ?_)
    · wtm_at "jw"
      exact fin _ _ _ _ _ h0 upd_same Kp.upd
    · wtm_at "jw"
      refine c_dec (fun h1 => ?_) (fun h1 => ?_)
      · obtain ⟨c, hc⟩ : ∃ c : Int, atI (ns.map V.int) pos = some (.int c) := by
          obtain ⟨v, e, hv, _⟩ := at_lt (xs := ns.map V.int) h0 h1
          obtain ⟨z, _, rfl⟩ := List.mem_map.mp hv
          exact ⟨z, e⟩
        wtm_at "jw"
        refine c_dec (fun h2 => ?_) (fun h2 => ?_)
        · wtm_at "jw"
          exact fin _ (pos + 1) _ _ _ (by omega) upd_same (Kp.upd.trans Kp.upd)
        · wtm_at "jw"
          exact fin _ (pos + 1) _ _ _ (by omega) upd_same (Kp.upd.trans Kp.upd)
      · wtm_at "jw"
        refine c_dec (fun h2 => ?_) (fun h2 => ?_)
        · wtm_at "jw"
          exact fin _ (pos + 1) _ _ _ (by omega) upd_same (Kp.upd.trans Kp.upd)
        · wtm_at "jw"
          exact fin _ (pos + 1) _ _ _ (by omega) upd_same (Kp.upd.trans Kp.upd)

def sp__law_pick (K : PySem.W.Frag) : Sp := fun vs H Q _ => ∃ (p a b : Addr) (xs : List V), vs = [.ref p, .ref b] ∧ DrawAt H p a ∧ ((b ≠ p ∧ SqL K H b xs) ∨ SqT K H b xs) ∧ 0 < xs.length ∧ xs.length < 1073741824 ∧
  ∀ (x : V) (H' : Hp), x ∈ xs → Drew p a H H' → Q x H'
theorem ok__law_pick {P : Program} {w : World} {K : PySem.W.Frag} {mg : Str → Option Value} {base : Heap} {f : Addr} {fd : FuncData} (F : Df K mg "_law_pick" s__law_pick f fd ["d", "row"]) (T : Txt mg)
    (c__law_draw : Cl P w K mg base 1 "_law_draw" (sp__law_draw K)) : FnOk P w K mg base CX0 2 f fd ["d", "row"] (sp__law_pick K) := by
  refine F.ok sc__law_pick (fun vs H Q E h => ?_) (fun cdv A outer s H vs Q E hr h => ?_)
  · obtain ⟨p, a, b, xs, rfl, _⟩ := h
    rfl
  · obtain ⟨p, a, b, xs, rfl, hd, hb, hl0, hl1, k⟩ := h
    refine ⟨_, (pss_one (ps_ret (pe_ix (r := rIx K) ix_seq (pv 1) (pe_cl c__law_draw hr (by decide) rfl (pa_cons (pv 0) (pa_cons (pe_callB (id := "len") (r := qLen K) c_len (by rfl) T.b_len (by decide +kernel) (pa_cons (pv 1) pa_nil)) pa_nil))) (fun _ _ => rfl)))), ?_⟩
    try dsimp only [cxOf, Cx.nox, Cx.wish]
    refine st_of (σ' := [some _, some _]) rfl ?_
    rcases hb with ⟨nb, hb⟩ | hb
    all_goals
      wtm_at "jw"
      refine ⟨p, a, _, rfl, hd, by omega, by omega, fun r H' hr0 hr1 w => ?_⟩
      obtain ⟨v, e, hv, _⟩ := at_lt hr0 hr1
    · have hb' := w.kp.seq hb nb
      wtm_at "jw"
      exact k _ _ hv w
    · have hb' := (w.tps hd).sq hb
      wtm_at "jw"
      exact k _ _ hv w

def sp__law_is_int (K : PySem.W.Frag) : Sp := fun vs H Q _ => ∃ (i : Int), vs = [.int i] ∧ Q (.bl true) H
theorem ok__law_is_int {P : Program} {w : World} {K : PySem.W.Frag} {mg : Str → Option Value} {base : Heap} {f : Addr} {fd : FuncData} (F : Df K mg "_law_is_int" s__law_is_int f fd ["thing"]) (T : Txt mg) : FnOk P w K mg base CX0 1 f fd ["thing"] (sp__law_is_int K) := by
  refine F.ok sc__law_is_int (fun vs H Q E h => ?_) (fun cdv A outer s H vs Q E hr h => ?_)
  · obtain ⟨i, rfl, _⟩ := h
    rfl
  · obtain ⟨i, rfl, k⟩ := h
    refine ⟨_, (pss_one (ps_ret (pe_and (pe_callB (id := "isinstance") (r := rIsi K) call_isi (by rfl) T.b_isinstance (by decide +kernel) (pa_cons (pv 0) (pa_cons (pe_bltn (v := .ty "int") (u := Value.type "int") (by rfl) T.b_int (by decide +kernel) rfl) pa_nil))) (pe_one (pe_not (pe_callB (id := "isinstance") (r := rIsi K) call_isi (by rfl) T.b_isinstance (by decide +kernel) (pa_cons (pv 0) (pa_cons (pe_bltn (v := .ty "bool") (u := Value.type "bool") (by rfl) T.b_bool (by decide +kernel) rfl) pa_nil)))))))), ?_⟩
    try dsimp only [cxOf, Cx.nox, Cx.wish]
    refine st_of (σ' := [some _]) rfl ?_
    wtm_at "jw"
    refine i_isi (.base (.int i)) rfl ?_
    wtm_at "jw"
    refine i_isi (.base (.int i)) rfl ?_
    wtm_at "jw"
    exact k

/-! ### pairs of ints, tuples of them -/
/-- the pairs of rows stand at rs -/
def Prw (H : Hp) (rs : List Addr) (rows : List (Int × Int)) : Prop := rs.length = rows.length ∧ ∀ (i : Nat) (r : Addr) (p : Int × Int), rs[i]? = some r → rows[i]? = some p → H r = some (.tup [.int p.1, .int p.2])
/-- a tuple of pairs -/
def Prs (H : Hp) (a : Addr) (rows : List (Int × Int)) : Prop := ∃ rs : List Addr, H a = some (.tup (rs.map V.ref)) ∧ Prw H rs rows
/-- a list of pairs -/
def LPr (H : Hp) (a : Addr) (rows : List (Int × Int)) : Prop := ∃ rs : List Addr, H a = some (.lst (rs.map V.ref)) ∧ Prw H rs rows
theorem Prw.nil {H : Hp} : Prw H [] [] := ⟨rfl, fun i r p h => by simp at h⟩
theorem Prw.tps {H H' : Hp} {rs : List Addr} {rows : List (Int × Int)} (w : Prw H rs rows) (t : Tps H H') : Prw H' rs rows := ⟨w.1, fun i r p h1 h2 => (t r).1 _ (w.2 i r p h1 h2)⟩
theorem Prw.same {H H' : Hp} {rs : List Addr} {rows : List (Int × Int)} (w : Prw H rs rows) (s : Same H H') : Prw H' rs rows := w.tps (Tps.of s)
theorem Prw.snoc {H : Hp} {rs : List Addr} {rows : List (Int × Int)} {q : Addr} {x y : Int} (w : Prw H rs rows) (h : H q = some (.tup [.int x, .int y])) : Prw H (rs ++ [q]) (rows ++ [(x, y)]) := by
  refine ⟨by simp [w.1], fun i r p h1 h2 => ?_⟩
  have hl := w.1
  by_cases hi : i < rs.length
  · rw [List.getElem?_append_left hi] at h1
    rw [List.getElem?_append_left (by omega)] at h2
    exact w.2 i r p h1 h2
  · rw [List.getElem?_append_right (by omega)] at h1
    rw [List.getElem?_append_right (by omega)] at h2
    rw [hl] at h1
    cases e : i - rows.length with
    | zero =>
      rw [e] at h1 h2
      cases h1
      cases h2
      exact h
    | succ n =>
      rw [e] at h1
      cases h1
theorem Prs.tps {H H' : Hp} {a : Addr} {rows : List (Int × Int)} (h : Prs H a rows) (t : Tps H H') : Prs H' a rows := by
  obtain ⟨rs, ha, w⟩ := h
  exact ⟨rs, (t a).1 _ ha, w.tps t⟩
theorem Prs.same {H H' : Hp} {a : Addr} {rows : List (Int × Int)} (h : Prs H a rows) (s : Same H H') : Prs H' a rows := h.tps (Tps.of s)
theorem LPr.same {H H' : Hp} {a : Addr} {rows : List (Int × Int)} (h : LPr H a rows) (s : Same H H') : LPr H' a rows := by
  obtain ⟨rs, ha, w⟩ := h
  exact ⟨rs, s _ _ ha, w.same s⟩
theorem LPr.kp {H H' : Hp} {p a : Addr} {xs : List V} {rows : List (Int × Int)} (h : LPr H a rows) (k : Kp p H H') (hp : H p = some (.lst xs)) (n : a ≠ p) : LPr H' a rows := by
  obtain ⟨rs, ha, w⟩ := h
  exact ⟨rs, k _ _ ha n, w.tps (k.tps hp)⟩
theorem Prw.put {H : Hp} {D : Addr} {rs : List Addr} {xs ys : List V} {rows : List (Int × Int)} (w : Prw H rs rows) (h : H D = some (.lst xs)) : Prw (upd H D (.lst ys)) rs rows := by
  refine ⟨w.1, fun i r p h1 h2 => ?_⟩
  have hr := w.2 i r p h1 h2
  rw [upd_ne (ne_of hr h (by intro z; cases z))]
  exact hr
/-- a new pair behind the others -/
theorem LPr.add {H : Hp} {D q : Addr} {rs : List Addr} {rows : List (Int × Int)} {x y : Int} (h : H D = some (.lst (rs.map V.ref))) (w : Prw H rs rows) (hq : H q = none) :
    LPr (upd (upd H q (.tup [.int x, .int y])) D (.lst (rs.map V.ref ++ [.ref q]))) D (rows ++ [(x, y)]) := by
  have hD : upd H q (.tup [.int x, .int y]) D = some (.lst (rs.map V.ref)) := by rw [upd_ne (ne_of_none h hq)]; exact h
  refine ⟨rs ++ [q], by rw [upd_same, List.map_append]; rfl, Prw.put (xs := rs.map V.ref) ((w.same (same_new hq)).snoc upd_same) hD⟩
/-- a pair that stands already -/
theorem LPr.add' {H : Hp} {D q : Addr} {rs : List Addr} {rows : List (Int × Int)} {x y : Int} (h : H D = some (.lst (rs.map V.ref))) (w : Prw H rs rows) (hq : H q = some (.tup [.int x, .int y])) :
    LPr (upd H D (.lst (rs.map V.ref ++ [.ref q]))) D (rows ++ [(x, y)]) :=
  ⟨rs ++ [q], by rw [upd_same, List.map_append]; rfl, (w.snoc hq).put h⟩
theorem Prw.at {H : Hp} {rs : List Addr} {rows : List (Int × Int)} {i : Nat} {v : V} (w : Prw H rs rows) (h : (rs.map V.ref)[i]? = some v) : ∃ r p, v = .ref r ∧ rs[i]? = some r ∧ rows[i]? = some p ∧ H r = some (.tup [.int p.1, .int p.2]) ∧ rows.take (i + 1) = rows.take i ++ [p] ∧ i < rows.length := by
  rw [List.getElem?_map] at h
  cases e : rs[i]? with
  | none => rw [e] at h; cases h
  | some r =>
    rw [e] at h
    have hi := (List.getElem?_eq_some_iff.mp e).1
    have hl := w.1
    have e2 : rows[i]? = some (rows[i]'(by omega)) := List.getElem?_eq_getElem (by omega)
    exact ⟨r, _, (Option.some.inj h).symm, rfl, e2, w.2 i r _ e e2, by rw [List.take_add_one, e2]; rfl, by omega⟩
def prD (p : Int × Int) : PyData := .tuple [.int p.1, .int p.2]
theorem dp_prs {K : PySem.W.Frag} {H : Hp} {a : Addr} {rows : List (Int × Int)} (h : Prs H a rows) : Dp K H (.ref a) (.tuple (rows.map prD)) := by
  obtain ⟨rs, ha, w⟩ := h
  refine .tup (SqT.of ha) (dpAll_of (by simp [w.1]) fun i x d h1 h2 => ?_)
  obtain ⟨r, p, rfl, e1, e2, hr, _⟩ := w.at h1
  rw [List.getElem?_map, e2] at h2
  cases h2
  exact dp_ints (ns := [p.1, p.2]) (SqT.of hr)
theorem shp_prs (rows : List (Int × Int)) : Shp 2 (.tuple (rows.map prD)) :=
  Shp.tup fun d hd => by
    obtain ⟨p, _, rfl⟩ := List.mem_map.mp hd
    exact Shp.tup fun e he => by
      rcases List.mem_cons.mp he with rfl | he
      · exact (Shp.int _)
      · rcases List.mem_cons.mp he with rfl | he
        · exact (Shp.int _)
        · cases he
theorem shp_ints (ns : List Int) : Shp 1 (.tuple (ns.map PyData.int)) :=
  Shp.tup fun d hd => by
    obtain ⟨p, _, rfl⟩ := List.mem_map.mp hd
    exact Shp.int _
theorem put_same {H H' : Hp} {D : Addr} {o : HO} (s : Same H H') (h : H D = none) : Same H (upd H' D o) := fun b u hb => by
  rw [upd_ne (ne_of_none hb h)]
  exact s _ _ hb
theorem tps_put {H : Hp} {D : Addr} {xs ys : List V} (h : H D = some (.lst xs)) : Tps H (upd H D (.lst ys)) := (Kp.upd (p := D)).tps h

/-! ### dicts with int keys -/
section
variable {K : PySem.W.Frag} {σ : L2.St} {H : Hp} {Q : VK}
theorem i_dget {td ty : TE} (h : td σ H fun x H1 => ty σ H1 fun y H2 => ∃ a v, x = .ref a ∧ DGet H2 a y (some v) ∧ Q v H2) : tDGet td ty σ H Q := h
theorem i_dgetI {p : Addr} {i : Int} {v : V} {kvs : List (L2.Key × V)} {R : V → Prop} (h : Rd H p (.dK kvs)) (e : valV kvs (.inl i) = some v) (q : R v) : ∃ a v', V.ref p = .ref a ∧ DGet H a (.int i) (some v') ∧ R v' :=
  ⟨p, v, rfl, .inl ⟨kvs, .inl i, h, rfl, e.symm⟩, q⟩
theorem i_din {td ty : TE} (h : ty σ H fun y H1 => td σ H1 fun x H2 => ∃ a o, x = .ref a ∧ DGet H2 a y o ∧ Q (.bl o.isSome) H2) : tDIn ty td σ H Q := h
theorem i_dinI {p : Addr} {i : Int} {kvs : List (L2.Key × V)} {R : Option V → Prop} (h : Rd H p (.dK kvs)) (q : R (valV kvs (.inl i))) : ∃ a o, V.ref p = .ref a ∧ DGet H a (.int i) o ∧ R o :=
  ⟨p, _, rfl, .inl ⟨kvs, .inl i, h, rfl, rfl⟩, q⟩
theorem i_dput {td ty tv : TE} {nx : L2.St → Hp → Prop} {rt : VK} {bk ct : L2.St → Hp → Prop} (h : tv σ H fun v H1 => td σ H1 fun x H2 => ty σ H2 fun y H3 => ∃ a H4, x = .ref a ∧ DPut H3 a y v H4 ∧ nx σ H4) : sDPut td ty tv ⟨nx, rt, bk, ct⟩ σ H := h
theorem i_dputI {p : Addr} {i : Int} {v : V} {kvs : List (L2.Key × V)} {R : Hp → Prop} (h : H p = some (.dK kvs)) (hl : kvs.length ≤ 10000) (q : R (upd H p (.dK (putK kvs (.inl i) v)))) : ∃ a H4, V.ref p = .ref a ∧ DPut H a (.int i) v H4 ∧ R H4 :=
  ⟨p, _, rfl, .inl ⟨kvs, .inl i, h, rfl, by rw [sizeLine_eq]; omega, rfl⟩, q⟩
theorem i_dnew (q : ∀ p, H p = none → Q (.ref p) (upd H p (.dK []))) : tDNewK σ H Q := q
def rSortDI : List V → Hp → VK → Prop := fun xs H Q => ∃ (a : Addr) (kvs : List (L2.Key × V)) (ks : List Int), xs = [.ref a] ∧ Rd H a (.dK kvs) ∧ kvs.map (·.1) = ks.map Sum.inl ∧ ks.length < 64 ∧ ∀ (ys : List Int) (p : Addr), ys.Perm ks → ys.Pairwise (· ≤ ·) → H p = none → Q (.ref p) (upd H p (.lst (ys.map V.int)))
theorem c_sortDI {X : Cx} (hc : X.calm = true) : CallR X (.builtin "sorted") rSortDI := call_sortedDI hc
end
/-- the dict's entries are the map m of ints -/
def DI (kvs : List (L2.Key × V)) (m : Int → Option Int) : Prop := (∀ i : Int, valV kvs (.inl i) = (m i).map V.int) ∧ ∃ ks : List Int, kvs.map (·.1) = ks.map Sum.inl ∧ ks.Nodup
theorem DI.nil : DI [] fun _ => none := ⟨fun _ => rfl, [], rfl, List.nodup_nil⟩
theorem putK_keys {kvs : List (L2.Key × V)} {k : L2.Key} {v : V} : (putK kvs k v).map (·.1) = if (valV kvs k).isSome = true then kvs.map (·.1) else kvs.map (·.1) ++ [k] := by
  unfold putK
  rw [valV_any]
  by_cases h : (valV kvs k).isSome = true
  · rw [if_pos h, if_pos h, List.map_map]
    refine List.map_congr_left fun p _ => ?_
    show (if p.1 = k then (p.1, v) else p).1 = p.1
    split <;> rfl
  · rw [if_neg h, if_neg h, List.map_append]
    rfl
theorem DI.put {kvs : List (L2.Key × V)} {m : Int → Option Int} {i v : Int} (d : DI kvs m) : DI (putK kvs (.inl i) (.int v)) (fun j => if j = i then some v else m j) := by
  obtain ⟨h, ks, hk, hn⟩ := d
  refine ⟨fun j => ?_, ?_⟩
  · rw [valV_put]
    show _ = Option.map V.int (if j = i then some v else m j)
    by_cases e : j = i
    · subst e
      rw [if_pos rfl, if_pos rfl]
      rfl
    · rw [if_neg (by intro z; exact e (Sum.inl.inj z)), if_neg e]
      exact h j
  · rw [putK_keys]
    by_cases e : (valV kvs (.inl i)).isSome = true
    · rw [if_pos e]
      exact ⟨ks, hk, hn⟩
    · rw [if_neg e, hk]
      refine ⟨ks ++ [i], by rw [List.map_append]; rfl, ?_⟩
      have hni : ¬ i ∈ ks := fun hi => by
        have e1 : valV kvs (.inl i) = none := by
          cases q : valV kvs (.inl i) with
          | none => rfl
          | some z => rw [q] at e; exact absurd rfl e
        refine valV_not e1 ?_
        rw [hk]
        exact List.mem_map.mpr ⟨i, hi, rfl⟩
      exact nd_snoc hn hni
theorem DI.mem {kvs : List (L2.Key × V)} {m : Int → Option Int} {ks : List Int} (d : DI kvs m) (hk : kvs.map (·.1) = ks.map Sum.inl) (i : Int) : i ∈ ks ↔ (m i).isSome = true := by
  have h := d.1 i
  constructor
  · intro hi
    cases e : m i with
    | some z => rfl
    | none =>
      rw [e] at h
      refine absurd ?_ (valV_not h)
      rw [hk]
      exact List.mem_map.mpr ⟨i, hi, rfl⟩
  · intro hi
    obtain ⟨z, hz⟩ := Option.isSome_iff_exists.mp hi
    rw [hz] at h
    have := valV_in h
    rw [hk] at this
    obtain ⟨j, hj, e⟩ := List.mem_map.mp this
    exact Sum.inl.inj e ▸ hj
/-- distinct ints of 0 .. n - 1 are at most n -/
theorem nodup_len : ∀ (n : Nat) (l : List Int), l.Nodup → (∀ x ∈ l, 0 ≤ x ∧ x < n) → l.length ≤ n
  | 0, l, _, h => by
    cases l with
    | nil => exact Nat.le_refl _
    | cons x r => have := h x List.mem_cons_self; omega
  | n + 1, l, hn, h => by
    by_cases hm : (n : Int) ∈ l
    · have e := List.length_erase_of_mem hm
      have := nodup_len n (l.erase (n : Int)) (hn.erase _) fun x hx => by
        have h1 := (List.Nodup.mem_erase_iff hn).mp hx
        have h2 := h x h1.2
        have : x ≠ (n : Int) := h1.1
        omega
      omega
    · have := nodup_len n l hn fun x hx => by
        have h2 := h x hx
        have : x ≠ (n : Int) := fun e => hm (e ▸ hx)
        omega
      omega
theorem DI.len {kvs : List (L2.Key × V)} {m : Int → Option Int} {n : Nat} (d : DI kvs m) (h : ∀ i, (m i).isSome = true → 0 ≤ i ∧ i < n) : kvs.length ≤ n := by
  obtain ⟨ks, hk, hn⟩ := d.2
  have e : kvs.length = ks.length := by
    have := congrArg List.length hk
    rw [List.length_map, List.length_map] at this
    exact this
  rw [e]
  exact nodup_len n ks hn fun x hx => h x ((d.mem hk x).mp hx)
/-- ints in order, all of them distinct -/
theorem lt_of_le_nodup : ∀ {l : List Int}, l.Pairwise (· ≤ ·) → l.Nodup → l.Pairwise (· < ·)
  | [], _, _ => .nil
  | a :: r, h, n => by
    rw [List.pairwise_cons] at h
    rw [List.nodup_cons] at n
    refine List.pairwise_cons.mpr ⟨fun x hx => ?_, lt_of_le_nodup h.2 n.2⟩
    have h1 := h.1 x hx
    have h2 : x ≠ a := fun e => n.1 (e ▸ hx)
    omega
theorem sorted_ext : ∀ {l1 l2 : List Int}, l1.Pairwise (· < ·) → l2.Pairwise (· < ·) → (∀ x, x ∈ l1 ↔ x ∈ l2) → l1 = l2
  | [], [], _, _, _ => rfl
  | [], b :: r, _, _, h => by have := (h b).mpr List.mem_cons_self; cases this
  | a :: r, [], _, _, h => by have := (h a).mp List.mem_cons_self; cases this
  | a :: r, b :: t, h1, h2, h => by
    rw [List.pairwise_cons] at h1 h2
    have ha := (h a).mp List.mem_cons_self
    have hb := (h b).mpr List.mem_cons_self
    have e : a = b := by
      rcases List.mem_cons.mp ha with e | ha
      · exact e
      · rcases List.mem_cons.mp hb with e | hb
        · exact e.symm
        · have := h2.1 a ha
          have := h1.1 b hb
          omega
    subst e
    rw [sorted_ext h1.2 h2.2 fun x => ⟨fun hx => ?_, fun hx => ?_⟩]
    · rcases List.mem_cons.mp ((h x).mp (List.mem_cons_of_mem _ hx)) with e | q
      · have := h1.1 x hx
        omega
      · exact q
    · rcases List.mem_cons.mp ((h x).mpr (List.mem_cons_of_mem _ hx)) with e | q
      · have := h2.1 x hx
        omega
      · exact q
theorem putK_le {kvs : List (L2.Key × V)} {k : L2.Key} {v : V} : (putK kvs k v).length ≤ kvs.length + 1 := by
  have h := congrArg List.length (putK_keys (kvs := kvs) (k := k) (v := v))
  rw [List.length_map] at h
  rw [h]
  split
  · rw [List.length_map]; omega
  · rw [List.length_append, List.length_map]; simp

/-! ### immutable data: None, bools, ints, texts, tuples of them -/
mutual
inductive TD (K : PySem.W.Frag) (H : Hp) : V → PyData → Prop
  | non : TD K H .non .none
  | bl (b : Bool) : TD K H (.bl b) (.bool b)
  | int (i : Int) : TD K H (.int i) (.int i)
  | str (x : Str) : TD K H (.str x) (.str x)
  | tup {a : Addr} {xs : List V} {ds : List PyData} : SqT K H a xs → TDs K H xs ds → TD K H (.ref a) (.tuple ds)
inductive TDs (K : PySem.W.Frag) (H : Hp) : List V → List PyData → Prop
  | nil : TDs K H [] []
  | cons {v : V} {vs : List V} {d : PyData} {ds : List PyData} : TD K H v d → TDs K H vs ds → TDs K H (v :: vs) (d :: ds)
end
def oD : Option Int → PyData
  | none => .none
  | some z => .int z
def ovO : Option Int → V
  | none => .non
  | some z => .int z
def pD (p : Int × Int) : PyData := .tuple [.int p.1, .int p.2]
section
variable {K : PySem.W.Frag} {H H' : Hp}
theorem TD.tps (t : Tps H H') {v : V} {d : PyData} (h : TD K H v d) : TD K H' v d :=
  TD.rec (motive_1 := fun v d _ => TD K H' v d) (motive_2 := fun vs ds _ => TDs K H' vs ds) .non (fun b => .bl b) (fun i => .int i) (fun x => .str x) (fun h _ q => .tup (t.sq h) q) .nil (fun _ _ h1 h2 => .cons h1 h2) h
theorem TDs.tps (t : Tps H H') {vs : List V} {ds : List PyData} (h : TDs K H vs ds) : TDs K H' vs ds :=
  TDs.rec (motive_1 := fun v d _ => TD K H' v d) (motive_2 := fun vs ds _ => TDs K H' vs ds) .non (fun b => .bl b) (fun i => .int i) (fun x => .str x) (fun h _ q => .tup (t.sq h) q) .nil (fun _ _ h1 h2 => .cons h1 h2) h
theorem TD.dp {v : V} {d : PyData} (h : TD K H v d) : Dp K H v d :=
  TD.rec (motive_1 := fun v d _ => Dp K H v d) (motive_2 := fun vs ds _ => DpAll K H vs ds) .non (fun b => .bl b) (fun i => .int i) (fun x => .str x) (fun h _ q => .tup h q) .nil (fun _ _ h1 h2 => .cons h1 h2) h
theorem TDs.dp {vs : List V} {ds : List PyData} (h : TDs K H vs ds) : DpAll K H vs ds :=
  TDs.rec (motive_1 := fun v d _ => Dp K H v d) (motive_2 := fun vs ds _ => DpAll K H vs ds) .non (fun b => .bl b) (fun i => .int i) (fun x => .str x) (fun h _ q => .tup h q) .nil (fun _ _ h1 h2 => .cons h1 h2) h
theorem TD.same (s : Same H H') {v : V} {d : PyData} (h : TD K H v d) : TD K H' v d := h.tps (Tps.of s)
theorem TDs.same (s : Same H H') {vs : List V} {ds : List PyData} (h : TDs K H vs ds) : TDs K H' vs ds := h.tps (Tps.of s)
theorem TDs.len : ∀ {vs : List V} {ds : List PyData}, TDs K H vs ds → vs.length = ds.length
  | [], _, .nil => rfl
  | v :: vs, _, .cons h t => by rw [List.length_cons, List.length_cons, TDs.len t]
theorem TDs.get : ∀ {vs : List V} {ds : List PyData} {i : Nat} {d : PyData}, TDs K H vs ds → ds[i]? = some d → ∃ v, vs[i]? = some v ∧ TD K H v d
  | _, _, _, _, .nil, e => by simp at e
  | _, _, 0, _, .cons (v := v) h t, e => by
    cases e
    exact ⟨v, rfl, h⟩
  | _, _, i + 1, _, .cons h t, e => by
    obtain ⟨v, e2, q⟩ := TDs.get (i := i) t (by simpa using e)
    exact ⟨v, by simpa using e2, q⟩
theorem TDs.at {vs : List V} {ds : List PyData} {i : Nat} {v : V} (h : TDs K H vs ds) (e : vs[i]? = some v) : ∃ d, ds[i]? = some d ∧ TD K H v d ∧ ds.take (i + 1) = ds.take i ++ [d] ∧ i < ds.length := by
  have hi := (List.getElem?_eq_some_iff.mp e).1
  have hl := h.len
  have e2 : ds[i]? = some (ds[i]'(by omega)) := List.getElem?_eq_getElem (by omega)
  obtain ⟨v', e3, q⟩ := h.get e2
  rw [e] at e3
  cases e3
  exact ⟨_, e2, q, by rw [List.take_add_one, e2]; rfl, by omega⟩
theorem TDs.mem {vs : List V} {ds : List PyData} {v : V} (h : TDs K H vs ds) (hv : v ∈ vs) : ∃ d, d ∈ ds ∧ TD K H v d := by
  obtain ⟨i, hi⟩ := List.getElem?_of_mem hv
  obtain ⟨d, e, q, _⟩ := h.at hi
  exact ⟨d, List.mem_of_getElem? e, q⟩
theorem TDs.of : ∀ {vs : List V} {ds : List PyData}, vs.length = ds.length → (∀ (i : Nat) v d, vs[i]? = some v → ds[i]? = some d → TD K H v d) → TDs K H vs ds
  | [], [], _, _ => .nil
  | v :: vs, d :: ds, hl, h => .cons (h 0 v d rfl rfl) (TDs.of (by simpa using hl) fun i y e h1 h2 => h (i + 1) y e (by simpa using h1) (by simpa using h2))
theorem TDs.app : ∀ {vs us : List V} {ds es : List PyData}, TDs K H vs ds → TDs K H us es → TDs K H (vs ++ us) (ds ++ es)
  | _, _, _, _, .nil, h => h
  | _, _, _, _, .cons h t, q => .cons h (TDs.app t q)
theorem TDs.snoc {vs : List V} {ds : List PyData} {v : V} {d : PyData} (h : TDs K H vs ds) (q : TD K H v d) : TDs K H (vs ++ [v]) (ds ++ [d]) := h.app (.cons q .nil)
theorem TDs.map {α : Type} {f : α → V} {g : α → PyData} : ∀ {l : List α}, (∀ x ∈ l, TD K H (f x) (g x)) → TDs K H (l.map f) (l.map g)
  | [], _ => .nil
  | x :: r, h => .cons (h x List.mem_cons_self) (TDs.map fun y hy => h y (List.mem_cons_of_mem _ hy))
theorem TDs.ints (ns : List Int) : TDs K H (ns.map V.int) (ns.map PyData.int) := TDs.map fun x _ => .int x
theorem TD.ovO (o : Option Int) : TD K H (ovO o) (oD o) := by cases o <;> constructor
theorem TDs.ovs (os : List (Option Int)) : TDs K H (os.map Law.ovO) (os.map oD) := TDs.map fun x _ => TD.ovO x
theorem TD.tup_inv {v : V} {ds : List PyData} (h : TD K H v (.tuple ds)) : ∃ a xs, v = .ref a ∧ SqT K H a xs ∧ TDs K H xs ds := by
  cases h with
  | tup a b => exact ⟨_, _, rfl, a, b⟩
theorem TD.int_inv {v : V} {i : Int} (h : TD K H v (.int i)) : v = .int i := by cases h; rfl
theorem TD.non_inv {v : V} (h : TD K H v .none) : v = .non := by cases h; rfl
theorem TD.str_inv {v : V} {i : Str} (h : TD K H v (.str i)) : v = .str i := by cases h; rfl
theorem TD.bl_inv {v : V} {i : Bool} (h : TD K H v (.bool i)) : v = .bl i := by cases h; rfl
theorem TD.ov_inv {v : V} {o : Option Int} (h : TD K H v (oD o)) : v = Law.ovO o := by
  cases o with
  | none => exact h.non_inv
  | some z => exact h.int_inv
theorem TDs.ints_inv : ∀ {ns : List Int} {vs : List V}, TDs K H vs (ns.map PyData.int) → vs = ns.map V.int
  | [], _, h => by cases h; rfl
  | n :: ns, _, h => by
    cases h with
    | cons a b => rw [a.int_inv, TDs.ints_inv b]; rfl
theorem TDs.ovs_inv : ∀ {os : List (Option Int)} {vs : List V}, TDs K H vs (os.map oD) → vs = os.map Law.ovO
  | [], _, h => by cases h; rfl
  | n :: ns, _, h => by
    cases h with
    | cons a b => rw [a.ov_inv, TDs.ovs_inv b]; rfl
theorem TD.pair_inv {v : V} {p : Int × Int} (h : TD K H v (pD p)) : ∃ a, v = .ref a ∧ SqT K H a [.int p.1, .int p.2] := by
  obtain ⟨a, xs, e, s, q⟩ := h.tup_inv
  rw [TDs.ints_inv (ns := [p.1, p.2]) q] at s
  exact ⟨a, e, s⟩
theorem TD.of {a : Addr} {xs : List V} {ds : List PyData} (h : H a = some (.tup xs)) (q : TDs K H xs ds) : TD K H (.ref a) (.tuple ds) := .tup (SqT.of h) q
/-- a new tuple of data -/
theorem TD.new {a : Addr} {xs : List V} {ds : List PyData} (h : H a = none) (q : TDs K H xs ds) : TD K (upd H a (.tup xs)) (.ref a) (.tuple ds) := .of upd_same (q.same (same_new h))
/-- a list of data -/
def LD (K : PySem.W.Frag) (H : Hp) (a : Addr) (ds : List PyData) : Prop := ∃ vs, H a = some (.lst vs) ∧ TDs K H vs ds
theorem LD.same (s : Same H H') {a : Addr} {ds : List PyData} (h : LD K H a ds) : LD K H' a ds := by
  obtain ⟨vs, e, q⟩ := h
  exact ⟨vs, s _ _ e, q.same s⟩
theorem LD.kp {p a : Addr} {xs : List V} {ds : List PyData} (h : LD K H a ds) (k : Kp p H H') (hp : H p = some (.lst xs)) (n : a ≠ p) : LD K H' a ds := by
  obtain ⟨vs, e, q⟩ := h
  exact ⟨vs, k _ _ e n, q.tps (k.tps hp)⟩
theorem LD.put {a : Addr} {xs vs : List V} {ds : List PyData} (h : H a = some (.lst xs)) (q : TDs K H vs ds) : LD K (upd H a (.lst vs)) a ds := ⟨vs, upd_same, q.tps (tps_put h)⟩
theorem LD.new {a : Addr} {vs : List V} {ds : List PyData} (h : H a = none) (q : TDs K H vs ds) : LD K (upd H a (.lst vs)) a ds := ⟨vs, upd_same, q.same (same_new h)⟩
theorem LD.snoc {a : Addr} {vs : List V} {v : V} {d : PyData} {ds : List PyData} (h : H a = some (.lst vs)) (q : TDs K H vs ds) (x : TD K H v d) : LD K (upd H a (.lst (vs ++ [v]))) a (ds ++ [d]) := .put h (q.snoc x)
variable {σ : L2.St} {Q : VK}
theorem i_tyLD {p : Addr} {ds : List PyData} {R : Prop} (s : LD K H p ds) (q : R) : tyV K "list" (.ref p) H ∧ R := by
  obtain ⟨vs, e, _⟩ := s
  exact i_tyL (SqL.of e) q
theorem i_lenLD {p : Addr} {ds : List PyData} (s : LD K H p ds) (q : Q (.int ds.length) H) : qLen K [.ref p] H Q := by
  obtain ⟨vs, e, t⟩ := s
  rw [← t.len] at q
  exact i_lenL (SqL.of e) q
theorem i_ixD {p : V} {ds : List PyData} {i : Int} {d : PyData} (h : TD K H p (.tuple ds)) (h0 : 0 ≤ i) (e : ds[i.toNat]? = some d) (q : ∀ y, TD K H y d → Q y H) : rIxT K p (.int i) H Q := by
  obtain ⟨a, xs, rfl, s, t⟩ := h.tup_inv
  obtain ⟨y, ey, hy⟩ := t.get e
  refine ⟨a, xs, i, y, rfl, rfl, s, ?_, q y hy⟩
  have := atI_nat (xs := xs) (j := i.toNat) (v := y) ey
  rw [Int.toNat_of_nonneg h0] at this
  exact this
theorem i_ixDI {p : V} {ds : List PyData} {i j : Int} (h : TD K H p (.tuple ds)) (h0 : 0 ≤ i) (e : ds[i.toNat]? = some (.int j)) (q : Q (.int j) H) : rIxT K p (.int i) H Q :=
  i_ixD h h0 e fun y hy => by rw [hy.int_inv]; exact q
theorem i_ixDO {p : V} {ds : List PyData} {i : Int} {o : Option Int} (h : TD K H p (.tuple ds)) (h0 : 0 ≤ i) (e : ds[i.toNat]? = some (oD o)) (q : Q (ovO o) H) : rIxT K p (.int i) H Q :=
  i_ixD h h0 e fun y hy => by rw [hy.ov_inv]; exact q
theorem i_ixDS {p : V} {ds : List PyData} {i : Int} {j : Str} (h : TD K H p (.tuple ds)) (h0 : 0 ≤ i) (e : ds[i.toNat]? = some (.str j)) (q : Q (.str j) H) : rIxT K p (.int i) H Q :=
  i_ixD h h0 e fun y hy => by rw [hy.str_inv]; exact q
theorem i_lenDt {p : V} {ds : List PyData} (h : TD K H p (.tuple ds)) (q : Q (.int ds.length) H) : qLen K [p] H Q := by
  obtain ⟨a, xs, rfl, s, t⟩ := h.tup_inv
  rw [← t.len] at q
  exact i_lenT s q
theorem i_gTupD {n : Nat} {t : TGs} {v : V} {ds : List PyData} {R : L2.St → Hp → Prop} (h : TD K H v (.tuple ds)) (e : ds.length = n) (q : ∀ xs, TDs K H xs ds → t xs σ H R) : gTup K n t v σ H R := by
  obtain ⟨a, xs, rfl, s, u⟩ := h.tup_inv
  exact i_gTup s (by rw [u.len, e]) (q xs u)
theorem i_gPair {n : Nat} {t : TGs} {v : V} {p : Int × Int} {R : L2.St → Hp → Prop} (h : TD K H v (pD p)) (e : 2 = n) (q : t [.int p.1, .int p.2] σ H R) : gTup K n t v σ H R := by
  obtain ⟨a, rfl, s⟩ := h.pair_inv
  exact i_gTup s e q
theorem i_isTD {v : V} {ds : List PyData} {R : Addr → Prop} (h : TD K H v (.tuple ds)) (q : ∀ a xs, v = .ref a → SqT K H a xs → TDs K H xs ds → R a) : ∃ a', v = .ref a' ∧ (∃ xs, SqT K H a' xs) ∧ R a' := by
  obtain ⟨a, xs, e, s, t⟩ := h.tup_inv
  exact ⟨a, e, ⟨xs, s⟩, q a xs e s t⟩
theorem i_lstTD {v : V} {ds : List PyData} (h : TD K H v (.tuple ds)) (q : ∀ xs l, TDs K H xs ds → H l = none → Q (.ref l) (upd H l (.lst xs))) : rLstOf K [v] H Q := by
  obtain ⟨a, xs, rfl, s, t⟩ := h.tup_inv
  exact i_lstT s fun l hl => q xs l t hl
theorem i_tupTD {v : V} {ds : List PyData} (h : TD K H v (.tuple ds)) (q : Q v H) : rTupOf K [v] H Q := by
  obtain ⟨a, xs, rfl, s, t⟩ := h.tup_inv
  exact i_tupT s q
theorem TDs.pair_at {vs : List V} {ps : List (Int × Int)} {i : Nat} {v : V} (h : TDs K H vs (ps.map pD)) (e : vs[i]? = some v) : ∃ p, ps[i]? = some p ∧ TD K H v (pD p) ∧ ps.take (i + 1) = ps.take i ++ [p] ∧ i < ps.length := by
  obtain ⟨d, e1, t, _, hl⟩ := h.at e
  rw [List.getElem?_map] at e1
  cases e2 : ps[i]? with
  | none => rw [e2] at e1; cases e1
  | some p =>
    rw [e2] at e1
    cases e1
    exact ⟨p, rfl, t, by rw [List.take_add_one, e2]; rfl, (List.getElem?_eq_some_iff.mp e2).1⟩
theorem i_eqNI {j : Int} (q : Q (.bl false) H) : rEq .non (.int j) H Q := ⟨rfl, by
  have e : decide (V.non = V.int j) = false := by simp
  rw [e]; exact q⟩
/-! shapes -/
theorem Shp.str {x : Str} (h : PyData.canLay0 (.str x) = true) : Shp 0 (.str x) := ⟨h, by simp [PyData.depth]⟩
theorem Shp.oD (o : Option Int) : Shp 0 (oD o) := by
  cases o with
  | none => exact Shp.non
  | some z => exact Shp.int z
theorem Shp.ovs (os : List (Option Int)) : Shp 1 (.tuple (os.map Law.oD)) := Shp.tup fun d hd => by
  obtain ⟨x, _, rfl⟩ := List.mem_map.mp hd
  exact Shp.oD x
theorem Shp.pD (p : Int × Int) : Shp 1 (pD p) := Shp.tup fun d hd => by
  rcases List.mem_cons.mp hd with rfl | hd
  · exact Shp.int _
  · rcases List.mem_cons.mp hd with rfl | hd
    · exact Shp.int _
    · cases hd
theorem Shp.prs (ps : List (Int × Int)) : Shp 2 (.tuple (ps.map Law.pD)) := Shp.tup fun d hd => by
  obtain ⟨x, _, rfl⟩ := List.mem_map.mp hd
  exact Shp.pD x
/-! dicts with text keys -/
theorem i_disp {trs : List (TE × TE)} (h : ∀ p, H p = none → tPairs trs σ (upd H p (.dK [])) fun ps H2 => H2 p = some (.dK []) ∧ ∃ kvs : List (L2.Key × V), ps = kvs.map (fun kv => (kV kv.1, kv.2)) ∧ kvs.length ≤ 15 ∧ Q (.ref p) (upd H2 p (.dK (mergeK [] kvs)))) : tDisp trs σ H Q := h
theorem i_pNil {R : List (V × V) → Hp → Prop} (h : R [] H) : tPairs [] σ H R := h
theorem i_pCons {tk tv : TE} {r : List (TE × TE)} {R : List (V × V) → Hp → Prop} (h : tk σ H fun x H1 => tv σ H1 fun y H2 => tPairs r σ H2 fun ps H3 => R ((x, y) :: ps) H3) : tPairs ((tk, tv) :: r) σ H R := h
theorem i_dgetS {p : Addr} {i : Str} {v : V} {kvs : List (L2.Key × V)} {R : V → Prop} (h : Rd H p (.dK kvs)) (e : valV kvs (.inr i) = some v) (q : R v) : ∃ a v', V.ref p = .ref a ∧ DGet H a (.str i) (some v') ∧ R v' :=
  ⟨p, v, rfl, .inl ⟨kvs, .inr i, h, rfl, e.symm⟩, q⟩
end
/- data at the heap of the goal -/
local macro_rules | `(tactic| wtm_at "jtd") => `(tactic| first | assumption | ((with_reducible refine' TD.same (same_new ?hn) ?hh); (case hn => assumption); (case hh => wtm_at "jtd")))
local macro_rules | `(tactic| wtm_at "jw1") => `(tactic| first
  | ((with_reducible refine' i_ixDI ?h ?h0 ?e ?_); (case h => wtm_at "jtd"); (case h0 => wtm_at "jside"); (case e => wtm_at "jat"))
  | ((with_reducible refine' i_ixDO ?h ?h0 ?e ?_); (case h => wtm_at "jtd"); (case h0 => wtm_at "jside"); (case e => wtm_at "jat"))
  | ((with_reducible refine' i_ixDS ?h ?h0 ?e ?_); (case h => wtm_at "jtd"); (case h0 => wtm_at "jside"); (case e => wtm_at "jat"))
  | ((with_reducible refine' i_ix2 (i_ixDI ?h ?h0 ?e ?_)); (case h => wtm_at "jtd"); (case h0 => wtm_at "jside"); (case e => wtm_at "jat"))
  | ((with_reducible refine' i_ix2 (i_ixDO ?h ?h0 ?e ?_)); (case h => wtm_at "jtd"); (case h0 => wtm_at "jside"); (case e => wtm_at "jat"))
  | ((with_reducible refine' i_ixD ?h ?h0 ?e ?_); (case h => wtm_at "jtd"); (case h0 => wtm_at "jside"); (case e => wtm_at "jat"); intro _ _)
  | ((with_reducible refine' i_ix2 (i_ixD ?h ?h0 ?e ?_)); (case h => wtm_at "jtd"); (case h0 => wtm_at "jside"); (case e => wtm_at "jat"); intro _ _)
  | ((with_reducible refine' i_lenDt ?h ?_); (case h => wtm_at "jtd"))
  | with_reducible refine' i_eqNI ?_
  | ((with_reducible refine' i_tyLD ?h ?_); (case h => assumption))
  | ((with_reducible refine' i_lenLD ?h ?_); (case h => assumption))
  | ((with_reducible refine' i_gPair ?h ?e ?_); (case h => wtm_at "jtd"); (case e => rfl))
  | with_reducible refine' i_pNil ?_ | with_reducible refine' i_pCons ?_)

/-! ### draws and picks, said shortly -/
section
variable {K : PySem.W.Frag} {p a B : Addr} {H0 H : Hp} {Q : VK} {E : XK}
theorem drawL {m : Int} (w : Drew p a H0 H) (h0 : 0 < m) (h1 : m < 18446744073709551616) (q : ∀ z H', 0 ≤ z → z < m → Drew p a H H' → Drew p a H0 H' → Q (.int z) H') : sp__law_draw K [.ref p, .int m] H Q E :=
  ⟨p, a, m, rfl, w.at_, h0, h1, fun z H' z0 z1 e => q z H' z0 z1 e (w.trans e)⟩
theorem pickL {xs : List V} (P : Int → Prop) (ns : List Int) (w : Drew p a H0 H) (hB : H B = none) (e : xs = ns.map V.int) (h0 : 0 < ns.length) (h1 : ns.length < 1000) (hP : ∀ z ∈ ns, P z)
    (q : ∀ z H', P z → Drew p a H H' → Drew p a H0 H' → Q (.int z) H') : sp__law_pick K [.ref p, .ref B] (upd H B (.lst xs)) Q E := by
  subst e
  refine ⟨p, a, B, ns.map V.int, rfl, w.at_.same (same_new hB), .inl ⟨w.at_.ne_none hB, SqL.of upd_same⟩, by rw [List.length_map]; exact h0, by rw [List.length_map]; omega, fun x H' hx e => ?_⟩
  obtain ⟨z, hz, rfl⟩ := List.mem_map.mp hx
  have e1 := (w.at_.drew.new (o := .lst (ns.map V.int)) hB).trans e
  exact q z H' (hP z hz) e1 (w.trans e1)
theorem pickV {xs : List V} (w : Drew p a H0 H) (hB : H B = none) (h0 : 0 < xs.length) (h1 : xs.length < 1000) (q : ∀ x H', x ∈ xs → Drew p a H H' → Drew p a H0 H' → Q x H') : sp__law_pick K [.ref p, .ref B] (upd H B (.lst xs)) Q E := by
  refine ⟨p, a, B, xs, rfl, w.at_.same (same_new hB), .inl ⟨w.at_.ne_none hB, SqL.of upd_same⟩, h0, by omega, fun x H' hx e => ?_⟩
  have e1 := (w.at_.drew.new (o := .lst xs) hB).trans e
  exact q x H' hx e1 (w.trans e1)
/-- a pick out of a list that stands -/
theorem pickS {xs : List V} (w : Drew p a H0 H) (hB : H B = some (.lst xs)) (n : B ≠ p) (h0 : 0 < xs.length) (h1 : xs.length < 1000000) (q : ∀ x H', x ∈ xs → Drew p a H H' → Drew p a H0 H' → Q x H') : sp__law_pick K [.ref p, .ref B] H Q E :=
  ⟨p, a, B, xs, rfl, w.at_, .inl ⟨n, SqL.of hB⟩, h0, by omega, fun x H' hx e => q x H' hx e (w.trans e)⟩
theorem pickT {xs : List V} (w : Drew p a H0 H) (hB : SqT K H B xs) (h0 : 0 < xs.length) (h1 : xs.length < 1000000) (q : ∀ x H', x ∈ xs → Drew p a H H' → Drew p a H0 H' → Q x H') : sp__law_pick K [.ref p, .ref B] H Q E :=
  ⟨p, a, B, xs, rfl, w.at_, .inr hB, h0, by omega, fun x H' hx e => q x H' hx e (w.trans e)⟩
end
theorem LD.drew {K : PySem.W.Frag} {p a f : Addr} {H H' : Hp} {ds : List PyData} (h : LD K H f ds) (d : DrawAt H p a) (e : Drew p a H H') (n : f ≠ p) : LD K H' f ds := by
  obtain ⟨xs, hp⟩ := d.some
  exact h.kp e.kp hp n
theorem LPr.drew {p a f : Addr} {H H' : Hp} {fo : List (Int × Int)} (h : LPr H f fo) (d : DrawAt H p a) (e : Drew p a H H') (n : f ≠ p) : LPr H' f fo := by
  obtain ⟨xs, hp⟩ := d.some
  exact h.kp e.kp hp n
/-- a pure choice of two -/
theorem i_ifP {σ : L2.St} {H : Hp} {Q : VK} {c : TT} {ta tb : TE} (P : V → Prop) (hc : ∀ R : Bool → Hp → Prop, (∀ b, R b H) → c σ H R) (ha : ∀ R : VK, (∀ v, P v → R v H) → ta σ H R) (hb : ∀ R : VK, (∀ v, P v → R v H) → tb σ H R) (q : ∀ v, P v → Q v H) : tIf c ta tb σ H Q :=
  hc _ fun b => by
    cases b
    · exact hb _ q
    · exact ha _ q
theorem all_two {P : Int → Prop} {x y : Int} (h1 : P x) (h2 : P y) : ∀ z ∈ [x, y], P z := by simp; exact ⟨h1, h2⟩

theorem sqT_ty {K : PySem.W.Frag} {H : Hp} {a : Addr} {xs : List V} (h : SqT K H a xs) : TyX K H (.ref a) (.type "tuple") := by
  rcases h with (h | ⟨o, h⟩) | ⟨o, vs, c, e, h1, _⟩
  · exact .base (.tup h)
  · exact .fTuple h
  · exact .kTuple e h1
theorem TD.ty {K : PySem.W.Frag} {H : Hp} {v : V} {ds : List PyData} (h : TD K H v (.tuple ds)) : TyX K H v (.type "tuple") := by
  obtain ⟨a, xs, rfl, s, _⟩ := h.tup_inv
  exact sqT_ty s
theorem i_isiT {K : PySem.W.Frag} {H : Hp} {Q : VK} {v : V} {ds : List PyData} {n : String} {b : Bool} (h : TD K H v (.tuple ds)) (e : PySem.W.kitOne K (.type "tuple") (.type n) = some b) (q : Q (.bl b) H) : rIsi K [v, .ty n] H Q := i_isi h.ty e q
theorem all_id_true (n : Nat) : (List.replicate n true).all id = true := by
  rw [List.all_replicate]; simp
def sp__law_is_ints (K : PySem.W.Frag) : Sp := fun vs H Q _ => ∃ (x : V) (ns : List Int), vs = [x] ∧ TD K H x (.tuple (ns.map PyData.int)) ∧ ns.length ≤ 1000000 ∧ ∀ H', Same H H' → Q (.bl true) H'
theorem ok__law_is_ints {P : Program} {w : World} {K : PySem.W.Frag} {mg : Str → Option Value} {base : Heap} {f : Addr} {fd : FuncData} (F : Df K mg "_law_is_ints" s__law_is_ints f fd ["row"]) (T : Txt mg)
    (c__law_is_int : Cl P w K mg base 1 "_law_is_int" (sp__law_is_int K)) : FnOk P w K mg base CX0 2 f fd ["row"] (sp__law_is_ints K) := by
  refine F.ok sc__law_is_ints (fun vs H Q E h => ?_) (fun cdv A outer s H vs Q E hr h => ?_)
  · obtain ⟨x, ns, rfl, _⟩ := h
    rfl
  · obtain ⟨x, ns, rfl, hx, hl, k⟩ := h
    refine ⟨_, (pss_one (ps_ret (pe_and (pe_callB (id := "isinstance") (r := rIsi K) call_isi (by rfl) T.b_isinstance (by decide +kernel) (pa_cons (pv 0) (pa_cons (pe_bltn (v := .ty "tuple") (u := Value.type "tuple") (by rfl) T.b_tuple (by decide +kernel) rfl) pa_nil))) (pe_one (pe_callB (id := "all") (r := rAll K) (cr_all rfl) (by rfl) T.b_all (by decide +kernel) (pa_cons (pe_lc (own := [("part", 1)]) (g := gName 1) (tt := tYes) rfl sc__law_is_ints.nd (pi_tup (pv 0)) (blkOk_by (own := [("part", 1)]) (N := N__law_is_ints) (sc := defScope s__law_is_ints) (by decide +kernel)) (fun _ _ _ _ _ => (pg_name (i := 1) sc__law_is_ints.nd rfl (Or.inl rfl))) (fun _ _ _ _ _ => pts_nil) (fun _ _ _ _ _ => (pe_cl c__law_is_int hr (by decide) rfl (pa_cons (pv 1) pa_nil)))) pa_nil)))))), ?_⟩
    try dsimp only [cxOf, Cx.nox, Cx.wish]
    refine st_of (σ' := [some _, none]) rfl ?_
    wtm_at "jw"
    refine i_isiT hx rfl ?_
    obtain ⟨a, xs, rfl, hS, hT⟩ := hx.tup_inv
    rw [hT.ints_inv] at hS
    wtm_at "jw"
    intro D hD
    refine l_tupP (xs := ns.map V.int) (fun _ => V.bl true) hD (by rw [List.length_map]; exact hl) hS (fun i x H' R hi s hR => ?_) (fun H' s hD' => ?_)
    · obtain ⟨z, rfl, _⟩ := ints_at hi
      wtm_at "jw"
      refine ⟨rfl, ?_⟩
      wtm_at "jw"
      refine ⟨z, rfl, ?_⟩
      exact hR
    · wtm_at "jw"
      refine ⟨D, List.replicate (ns.map V.int).length true, rfl, SqL.of ?_, ?_⟩
      · rw [hD', List.map_replicate, List.map_const', List.length_range]
      · rw [all_id_true]
        exact k _ s

def og (os : List (Option Int)) (i : Nat) : Option Int := (os[i]?).getD none
def factsD (t f : Int) (en go : List (Option Int)) (pend : List (Int × Int)) : PyData := .tuple [.str "facts", .int t, .int f, .tuple (en.map oD), .tuple (go.map oD), .tuple (pend.map pD)]
theorem Prw.tds {K : PySem.W.Frag} {H : Hp} {rs : List Addr} {rows : List (Int × Int)} (w : Prw H rs rows) : TDs K H (rs.map V.ref) (rows.map pD) := by
  refine TDs.of (by simp [w.1]) fun i x d h1 h2 => ?_
  obtain ⟨r, p, rfl, e1, e2, hr, _⟩ := w.at h1
  rw [List.getElem?_map, e2] at h2
  cases h2
  exact TD.of (xs := [.int p.1, .int p.2]) hr (TDs.ints [p.1, p.2])
/-! ### the facts -/
def ob : Option Int → Prop
  | none => True
  | some z => z.natAbs < 10 ^ 12
theorem rp_o {o : Option Int} (h : ob o) : Rp 0 40 (oD o) := by
  cases o with
  | none => exact Rp.non.mono (by decide) (by decide)
  | some z => exact Rp.int h
theorem rp_os {os : List (Option Int)} (h : ∀ o ∈ os, ob o) (hl : os.length ≤ 100) : Rp 1 5000 (.tuple (os.map oD)) := by
  refine (Rp.tup (n := 0) (w := 40) fun d hd => ?_).mono (Nat.le_refl _) ?_
  · obtain ⟨o, ho, rfl⟩ := List.mem_map.mp hd
    exact rp_o (h o ho)
  · rw [List.length_map]; omega
theorem rp_ints {ns : List Int} (h : ∀ z ∈ ns, z.natAbs < 10 ^ 12) (hl : ns.length ≤ 100) : Rp 1 5000 (.tuple (ns.map PyData.int)) := by
  refine (Rp.tup (n := 0) (w := 40) fun d hd => ?_).mono (Nat.le_refl _) ?_
  · obtain ⟨o, ho, rfl⟩ := List.mem_map.mp hd
    exact Rp.int (h o ho)
  · rw [List.length_map]; omega
theorem rp_prs {ps : List (Int × Int)} (h : ∀ p ∈ ps, p.1.natAbs < 10 ^ 12 ∧ p.2.natAbs < 10 ^ 12) (hl : ps.length ≤ 200) : Rp 2 20000 (.tuple (ps.map pD)) := by
  refine (Rp.tup (n := 1) (w := 82) fun d hd => ?_).mono (Nat.le_refl _) ?_
  · obtain ⟨p, hp, rfl⟩ := List.mem_map.mp hd
    have := h p hp
    exact Rp.tup (n := 0) (w := 40) (ds := [.int p.1, .int p.2]) fun d hd => by
      rcases List.mem_cons.mp hd with rfl | hd
      · exact Rp.int this.1
      · rw [List.mem_singleton.mp hd]; exact Rp.int this.2
  · rw [List.length_map]; omega
theorem rp_facts {t f : Int} {en go : List (Option Int)} {pend : List (Int × Int)} (ht : t.natAbs < 10 ^ 12) (hf : f.natAbs < 10 ^ 12) (he : ∀ o ∈ en, ob o) (hg : ∀ o ∈ go, ob o) (hp : ∀ p ∈ pend, p.1.natAbs < 10 ^ 12 ∧ p.2.natAbs < 10 ^ 12)
    (l1 : en.length ≤ 100) (l2 : go.length ≤ 100) (l3 : pend.length ≤ 200) : Rp 3 120006 (factsD t f en go pend) := by
  refine (Rp.tup (n := 2) (w := 20000) (ds := [.str "facts", .int t, .int f, .tuple (en.map oD), .tuple (go.map oD), .tuple (pend.map pD)]) ?_).mono (Nat.le_refl _) (by simp)
  simp only [List.forall_mem_cons]
  exact ⟨Rp.facts.mono (by decide) (by decide), (Rp.int ht).mono (by decide) (by decide), (Rp.int hf).mono (by decide) (by decide), (rp_os he l1).mono (by decide) (by decide), (rp_os hg l2).mono (by decide) (by decide), rp_prs hp l3, by simp⟩
theorem shp_facts (t f : Int) (en go : List (Option Int)) (pend : List (Int × Int)) : Shp 3 (factsD t f en go pend) := by
  refine Shp.tup (ds := [.str "facts", .int t, .int f, .tuple (en.map oD), .tuple (go.map oD), .tuple (pend.map pD)]) ?_
  simp only [List.forall_mem_cons]
  exact ⟨(Shp.str (by decide +kernel)).mono (by decide), (Shp.int _).mono (by decide), (Shp.int _).mono (by decide), (Shp.ovs _).mono (by decide), (Shp.ovs _).mono (by decide), Shp.prs _, by simp⟩

/-! ### parcels, plainly -/
def ng (ns : List Int) (i : Nat) : Int := ns[i]?.getD 0
def tn : Option Int → Int
  | none => 0
  | some x => x + 1
def tickOf (n : Int) : Option Int := if n = 0 then none else some (n - 1)
abbrev Pcl := Int × Int × List (Option Int) × List (Option Int) × List (Int × Int) × List Int
def openN (ns : List Int) (s : Nat) : Option Pcl :=
  if ns.length < 3 + 2 * s then none else
  if (ns.length : Int) < (3 + 2 * s : Nat) + 2 * ng ns (2 + 2 * s) + 2 then none else
  some (ng ns 0, ng ns 1, ((ns.drop 2).take s).map tickOf, ((ns.drop (2 + s)).take s).map tickOf,
    (List.range (ng ns (2 + 2 * s)).toNat).map (fun k => (ng ns (3 + 2 * s + 2 * k), ng ns (3 + 2 * s + 2 * k + 1))), (ns.drop (3 + 2 * s + 2 * (ng ns (2 + 2 * s)).toNat)).map fun z => z - 32768)
def flat : List (Int × Int) → List Int
  | [] => []
  | p :: r => p.1 :: p.2 :: flat r
theorem flat_len : ∀ ps, (flat ps).length = 2 * ps.length
  | [] => rfl
  | p :: r => by
    show (flat r).length + 1 + 1 = 2 * (r.length + 1)
    rw [flat_len r]; omega
theorem flat_at : ∀ (ps : List (Int × Int)) (k : Nat) (z : List Int), k < ps.length → (flat ps ++ z)[2 * k]? = (ps[k]?).map (·.1) ∧ (flat ps ++ z)[2 * k + 1]? = (ps[k]?).map (·.2)
  | [], k, z, h => by simp at h
  | p :: r, 0, z, h => ⟨rfl, rfl⟩
  | p :: r, k + 1, z, h => by
    have ih := flat_at r k z (by simpa using h)
    rw [show 2 * (k + 1) = 2 * k + 1 + 1 by omega]
    exact ih
theorem flat_snoc : ∀ (ps : List (Int × Int)) (p : Int × Int), flat (ps ++ [p]) = flat ps ++ [p.1, p.2]
  | [], _ => rfl
  | q :: r, p => by
    show q.1 :: q.2 :: flat (r ++ [p]) = _
    rw [flat_snoc r p]; rfl
def enc (t f : Int) (en go : List (Option Int)) (ps : List (Int × Int)) (st : List Int) : List Int := t :: f :: (en.map tn ++ (go.map tn ++ ((ps.length : Int) :: (flat ps ++ st.map fun z => z + 32768))))
theorem tick_tn {o : Option Int} (h : ∀ x, o = some x → 0 ≤ x) : tickOf (tn o) = o := by
  cases o with
  | none => rfl
  | some x =>
    have := h x rfl
    show (if x + 1 = 0 then none else some (x + 1 - 1)) = some x
    rw [if_neg (by omega), show x + 1 - 1 = x by omega]
theorem ticks_tn : ∀ {os : List (Option Int)}, (∀ o ∈ os, ∀ x, o = some x → 0 ≤ x) → (os.map tn).map tickOf = os
  | [], _ => rfl
  | o :: r, h => by
    rw [List.map_cons, List.map_cons, tick_tn (h o List.mem_cons_self), ticks_tn fun p hp => h p (List.mem_cons_of_mem _ hp)]
theorem sub_add : ∀ st : List Int, (st.map fun z => z + 32768).map (fun z => z - 32768) = st
  | [] => rfl
  | x :: r => by
    rw [List.map_cons, List.map_cons, sub_add r]
    congr 1
    omega
theorem enc_len (t f : Int) (en go : List (Option Int)) (ps : List (Int × Int)) (st : List Int) : (enc t f en go ps st).length = 3 + en.length + go.length + 2 * ps.length + st.length := by
  unfold enc
  simp only [List.length_cons, List.length_append, List.length_map, flat_len]
  omega
theorem at_app {l m : List Int} {i : Nat} (h : l.length ≤ i) : (l ++ m)[i]? = m[i - l.length]? := List.getElem?_append_right h
theorem enc_cnt (t f : Int) (en go : List (Option Int)) (ps : List (Int × Int)) (st : List Int) {s : Nat} (h1 : en.length = s) (h2 : go.length = s) : (enc t f en go ps st)[2 + 2 * s]? = some (ps.length : Int) := by
  unfold enc
  rw [show 2 + 2 * s = 2 * s + 1 + 1 by omega, List.getElem?_cons_succ, List.getElem?_cons_succ, at_app (by rw [List.length_map]; omega), at_app (by rw [List.length_map, List.length_map]; omega), List.length_map, List.length_map, show 2 * s - en.length - go.length = 0 by omega]
  rfl
/-- what is cut behind the pending rows is opened -/
theorem open_whole {t f : Int} {en go : List (Option Int)} {ps : List (Int × Int)} {st : List Int} {s : Nat} (h1 : en.length = s) (h2 : go.length = s) (he : ∀ o ∈ en, ∀ x, o = some x → 0 ≤ x) (hg : ∀ o ∈ go, ∀ x, o = some x → 0 ≤ x) (hs : 2 ≤ st.length) :
    openN (enc t f en go ps st) s = some (t, f, en, go, ps, st) := by
  have hl := enc_len t f en go ps st
  have hc : ng (enc t f en go ps st) (2 + 2 * s) = ps.length := by unfold ng; rw [enc_cnt t f en go ps st h1 h2]; rfl
  unfold openN
  rw [if_neg (by omega), hc, if_neg (by omega), Int.toNat_natCast]
  have d2 : (enc t f en go ps st).drop 2 = en.map tn ++ (go.map tn ++ ((ps.length : Int) :: (flat ps ++ st.map fun z => z + 32768))) := rfl
  have d3 : (enc t f en go ps st).drop (2 + s) = go.map tn ++ ((ps.length : Int) :: (flat ps ++ st.map fun z => z + 32768)) := by
    rw [← List.drop_drop, d2, List.drop_left' (by rw [List.length_map, h1])]
  have d4 : (enc t f en go ps st).drop (2 + s + s + 1) = flat ps ++ st.map fun z => z + 32768 := by
    rw [show 2 + s + s + 1 = 2 + s + (s + 1) by omega, ← List.drop_drop, d3, ← List.drop_drop, List.drop_left' (by rw [List.length_map, h2])]
    rfl
  have d5 : (enc t f en go ps st).drop (3 + 2 * s + 2 * ps.length) = st.map fun z => z + 32768 := by
    rw [show 3 + 2 * s + 2 * ps.length = 2 + s + s + 1 + 2 * ps.length by omega, ← List.drop_drop, d4, List.drop_left' (flat_len ps)]
  rw [d2, d3, d5, List.take_left' (by rw [List.length_map, h1]), List.take_left' (by rw [List.length_map, h2]), ticks_tn he, ticks_tn hg, sub_add]
  have e : (List.range ps.length).map (fun k => (ng (enc t f en go ps st) (3 + 2 * s + 2 * k), ng (enc t f en go ps st) (3 + 2 * s + 2 * k + 1))) = ps := by
    refine List.ext_getElem? fun k => ?_
    rw [List.getElem?_map]
    by_cases hk : k < ps.length
    · rw [List.getElem?_range hk]
      have a := flat_at ps k (st.map fun z => z + 32768) hk
      have e1 : ∀ i, (enc t f en go ps st)[3 + 2 * s + i]? = (flat ps ++ st.map fun z => z + 32768)[i]? := fun i => by
        rw [← d4, List.getElem?_drop, show 2 + s + s + 1 + i = 3 + 2 * s + i by omega]
      unfold ng
      rw [Option.map_some, e1, show 3 + 2 * s + 2 * k + 1 = 3 + 2 * s + (2 * k + 1) by omega, e1, a.1, a.2, List.getElem?_eq_getElem hk]
      rfl
    · rw [List.getElem?_eq_none (by rw [List.length_range]; omega), List.getElem?_eq_none (by omega)]; rfl
  rw [e]
  rfl
theorem enc_take {t f : Int} {en go : List (Option Int)} {ps : List (Int × Int)} {st : List Int} {s size : Nat} (h1 : en.length = s) (h2 : go.length = s) (h : 3 + 2 * s + 2 * ps.length ≤ size) :
    (enc t f en go ps st).take size = enc t f en go ps (st.take (size - (3 + 2 * s + 2 * ps.length))) := by
  have e : ∀ z : List Int, enc t f en go ps z = (t :: f :: (en.map tn ++ (go.map tn ++ ((ps.length : Int) :: flat ps)))) ++ z.map fun z => z + 32768 := fun z => by
    unfold enc
    simp
  rw [e, e, List.take_append]
  have l : (t :: f :: (en.map tn ++ (go.map tn ++ ((ps.length : Int) :: flat ps)))).length = 3 + 2 * s + 2 * ps.length := by
    simp only [List.length_cons, List.length_append, List.length_map, flat_len]
    omega
  rw [l, List.take_of_length_le (by rw [l]; exact h), List.map_take]
theorem open_cut {t f : Int} {en go : List (Option Int)} {ps : List (Int × Int)} {st : List Int} {s size : Nat} (h1 : en.length = s) (h2 : go.length = s) (he : ∀ o ∈ en, ∀ x, o = some x → 0 ≤ x) (hg : ∀ o ∈ go, ∀ x, o = some x → 0 ≤ x) (hsz : size ≤ (enc t f en go ps st).length) :
    openN ((enc t f en go ps st).take size) s = if size < 3 + 2 * s + 2 * ps.length + 2 then none else some (t, f, en, go, ps, st.take (size - (3 + 2 * s + 2 * ps.length))) := by
  have hl := enc_len t f en go ps st
  by_cases h : size < 3 + 2 * s + 2 * ps.length + 2
  · rw [if_pos h]
    unfold openN
    rw [List.length_take, Nat.min_eq_left hsz]
    by_cases hb : size < 3 + 2 * s
    · rw [if_pos hb]
    · rw [if_neg hb, if_pos]
      unfold ng
      rw [List.getElem?_take_of_lt (by omega), enc_cnt t f en go ps st h1 h2]
      show (size : Int) < ((3 + 2 * s : Nat) : Int) + 2 * (ps.length : Int) + 2
      omega
  · rw [if_neg h, enc_take h1 h2 (by omega), open_whole h1 h2 he hg (by rw [List.length_take]; omega)]
/-- too many pending rows are told -/
theorem open_many {ns : List Int} {s : Nat} {m : Int} (hl : 3 + 2 * s ≤ ns.length) (hm : (ns.length : Int) < (3 + 2 * s : Nat) + 2 * m + 2) : openN (ns.set (2 + 2 * s) m) s = none := by
  unfold openN
  rw [List.length_set, if_neg (by omega)]
  have : ng (ns.set (2 + 2 * s) m) (2 + 2 * s) = m := by unfold ng; rw [List.getElem?_set_self (by omega)]; rfl
  rw [this, if_pos hm]
theorem take_cons_drop {α : Type} {l : List α} {i : Nat} {x : α} (h : i < l.length) : l.take i ++ [x] ++ l.drop (i + 1) = l.set i x := by
  rw [List.set_eq_take_append_cons_drop, if_pos h]
  simp

/-! ### what is an int -/
def isID : PyData → Bool
  | .int _ => true
  | _ => false
def sp_is_int (K : PySem.W.Frag) : Sp := fun vs H Q _ => ∃ (v : V) (d : PyData), vs = [v] ∧ TD K H v d ∧ Q (.bl (isID d)) H
theorem ok_is_int {P : Program} {w : World} {K : PySem.W.Frag} {mg : Str → Option Value} {base : Heap} {f : Addr} {fd : FuncData} (F : Df K mg "is_int" s_is_int f fd ["thing"]) (T : Txt mg) : FnOk P w K mg base CX0 1 f fd ["thing"] (sp_is_int K) := by
  refine F.ok sc_is_int (fun vs H Q E h => ?_) (fun cdv A outer s H vs Q E hr h => ?_)
  · obtain ⟨v, d, rfl, _⟩ := h
    rfl
  · obtain ⟨v, d, rfl, hv, q⟩ := h
    refine ⟨_, (pss_one (ps_ret (pe_and (pe_callB (id := "isinstance") (r := rIsi K) call_isi (by rfl) T.b_isinstance (by decide +kernel) (pa_cons (pv 0) (pa_cons (pe_bltn (v := .ty "int") (u := Value.type "int") (by rfl) T.b_int (by decide +kernel) rfl) pa_nil))) (pe_one (pe_not (pe_callB (id := "isinstance") (r := rIsi K) call_isi (by rfl) T.b_isinstance (by decide +kernel) (pa_cons (pv 0) (pa_cons (pe_bltn (v := .ty "bool") (u := Value.type "bool") (by rfl) T.b_bool (by decide +kernel) rfl) pa_nil)))))))), ?_⟩
    try dsimp only [cxOf, Cx.nox, Cx.wish]
    refine st_of (σ' := [some _]) rfl ?_
    cases d with
    | none =>
      obtain rfl := hv.non_inv
      wtm_at "jw"
      refine i_isi (.base .non) rfl ?_
      wtm_at "jw"
      exact q
    | bool b =>
      obtain rfl := hv.bl_inv
      wtm_at "jw"
      refine i_isi (b := true) (.base (.bl b)) (kit_ty (by decide +kernel)) ?_
      wtm_at "jw"
      refine i_isi (b := true) (.base (.bl b)) rfl ?_
      wtm_at "jw"
      exact q
    | int i =>
      obtain rfl := hv.int_inv
      wtm_at "jw"
      refine i_isi (.base (.int i)) rfl ?_
      wtm_at "jw"
      refine i_isi (.base (.int i)) rfl ?_
      wtm_at "jw"
      exact q
    | str s =>
      obtain rfl := hv.str_inv
      wtm_at "jw"
      refine i_isi (.base (.str s)) rfl ?_
      wtm_at "jw"
      exact q
    | tuple ds =>
      wtm_at "jw"
      refine i_isiT hv rfl ?_
      wtm_at "jw"
      exact q
    | list ds => cases hv
    | dict kvs => cases hv
def isIs : PyData → Bool
  | .tuple ds => ds.all isID
  | _ => false
theorem all_take {α : Type} {f : α → Bool} {l : List α} {i : Nat} {x : α} (h : (l.take i).all f = true) (e : l.take (i + 1) = l.take i ++ [x]) (hx : f x = true) : (l.take (i + 1)).all f = true := by
  rw [e, List.all_append, h]; simp [hx]
theorem all_no {α : Type} {f : α → Bool} {l : List α} {i : Nat} {x : α} (e : l[i]? = some x) (hx : f x = false) : l.all f = false := by
  rw [List.all_eq_false]
  exact ⟨x, List.mem_of_getElem? e, by rw [hx]; exact Bool.false_ne_true⟩
/-- a thing: data, or a list -/
def sp_is_ints (K : PySem.W.Frag) : Sp := fun vs H Q _ => ∃ (v : V), vs = [v] ∧ ((∃ d, TD K H v d ∧ Q (.bl (isIs d)) H) ∨ ∃ a xs, v = .ref a ∧ H a = some (.lst xs) ∧ Q (.bl false) H)
theorem ok_is_ints {P : Program} {w : World} {K : PySem.W.Frag} {mg : Str → Option Value} {base : Heap} {f : Addr} {fd : FuncData} (F : Df K mg "is_ints" s_is_ints f fd ["thing"]) (T : Txt mg)
    (c_is_int : Cl P w K mg base 1 "is_int" (sp_is_int K)) : FnOk P w K mg base CX0 2 f fd ["thing"] (sp_is_ints K) := by
  refine F.ok sc_is_ints (fun vs H Q E h => ?_) (fun cdv A outer s H vs Q E hr h => ?_)
  · obtain ⟨v, rfl, _⟩ := h
    rfl
  · obtain ⟨v, rfl, h⟩ := h
    refine ⟨_, (pss_cons (ps_if (pt_not (pt_val (pe_callB (id := "isinstance") (r := rIsi K) call_isi (by rfl) T.b_isinstance (by decide +kernel) (pa_cons (pv 0) (pa_cons (pe_bltn (v := .ty "tuple") (u := Value.type "tuple") (by rfl) T.b_tuple (by decide +kernel) rfl) pa_nil))))) (pss_one (ps_ret pe_bl)) pss_nil)
      (pss_cons (ps_for PassesOwn.never rfl (pi_tup (pv 0)) (pg_name (i := 1) sc_is_ints.nd rfl (Or.inl rfl)) (pss_one (ps_if (pt_not (pt_val (pe_cl c_is_int hr (by decide) rfl (pa_cons (pv 1) pa_nil)))) (pss_one (ps_ret pe_bl)) pss_nil)))
      (pss_one (ps_ret pe_bl)))), ?_⟩
    try dsimp only [cxOf, Cx.nox, Cx.wish]
    refine st_of (σ' := [some _, none]) rfl ?_
    rcases h with ⟨d, hv, q⟩ | ⟨a, xs, rfl, ha, q⟩
    · cases d with
      | none =>
        obtain rfl := hv.non_inv
        wtm_at "jw"
        refine i_isi (.base .non) rfl ?_
        wtm_at "jw"
        exact q
      | bool b =>
        obtain rfl := hv.bl_inv
        wtm_at "jw"
        refine i_isi (.base (.bl b)) rfl ?_
        wtm_at "jw"
        exact q
      | int i =>
        obtain rfl := hv.int_inv
        wtm_at "jw"
        refine i_isi (.base (.int i)) rfl ?_
        wtm_at "jw"
        exact q
      | str s =>
        obtain rfl := hv.str_inv
        wtm_at "jw"
        refine i_isi (.base (.str s)) rfl ?_
        wtm_at "jw"
        exact q
      | tuple ds =>
        obtain ⟨a, xs, rfl, hS, hT⟩ := hv.tup_inv
        wtm_at "jw"
        refine i_isi (sqT_ty hS) rfl ?_
        wtm_at "jw"
        refine f_tup (xs := xs) (fun i σ H' => H' = H ∧ (ds.take i).all isID = true ∧ ∃ v1, σ = [some (.ref a), v1]) ⟨rfl, rfl, none, rfl⟩ (fun i σ H' _ h => by rw [h.1]; exact hS) (fun i x σ H' hi h => ?_) (fun σ H' h => ?_)
        · obtain ⟨rfl, hal, v1, rfl⟩ := h
          obtain ⟨d, hd, hx, e, _⟩ := hT.at hi
          wtm_at "jw"
          refine ⟨x, d, rfl, hx, ?_⟩
          wtm_at "jw"
          cases hid : isID d with
          | true =>
            wtm_at "jw"
            exact ⟨rfl, all_take hal e hid, _, rfl⟩
          | false =>
            wtm_at "jw"
            have : isIs (.tuple ds) = false := all_no hd hid
            rw [this] at q
            exact q
        · obtain ⟨rfl, hal, v1, rfl⟩ := h
          rw [hT.len, List.take_length] at hal
          wtm_at "jw"
          rw [show isIs (.tuple ds) = true from hal] at q
          exact q
      | list ds => cases hv
      | dict kvs => cases hv
    · wtm_at "jw"
      refine i_isi (.base (.lst ha)) rfl ?_
      wtm_at "jw"
      exact q
def okI (lo hi : Int) : PyData → Bool
  | .int z => decide (lo ≤ z) && decide (z ≤ hi)
  | _ => false
def okD (lo hi : Int) : PyData → Bool
  | .tuple ds => ds.all (okI lo hi)
  | _ => false
theorem ok_ints {lo hi : Int} {d : PyData} (h : okI lo hi d = true) : isID d = true := by
  cases d <;> first | rfl | cases h
theorem okD_isIs {lo hi : Int} {d : PyData} (h : isIs d = false) : okD lo hi d = false := by
  cases d with
  | tuple ds =>
    unfold isIs at h
    simp only at h
    rw [List.all_eq_false] at h
    obtain ⟨x, hx, hn⟩ := h
    show ds.all (okI lo hi) = false
    rw [List.all_eq_false]
    exact ⟨x, hx, fun z => hn (ok_ints z)⟩
  | _ => rfl
def sp_is_ints_between (K : PySem.W.Frag) : Sp := fun vs H Q _ => ∃ (v : V) (lo hi : Int), vs = [v, .int lo, .int hi] ∧ ((∃ d, TD K H v d ∧ Q (.bl (okD lo hi d)) H) ∨ ∃ a xs, v = .ref a ∧ H a = some (.lst xs) ∧ Q (.bl false) H)
theorem ok_is_ints_between {P : Program} {w : World} {K : PySem.W.Frag} {mg : Str → Option Value} {base : Heap} {f : Addr} {fd : FuncData} (F : Df K mg "is_ints_between" s_is_ints_between f fd ["thing", "low", "high"]) (T : Txt mg)
    (c_is_ints : Cl P w K mg base 2 "is_ints" (sp_is_ints K)) : FnOk P w K mg base CX0 3 f fd ["thing", "low", "high"] (sp_is_ints_between K) := by
  refine F.ok sc_is_ints_between (fun vs H Q E h => ?_) (fun cdv A outer s H vs Q E hr h => ?_)
  · obtain ⟨v, lo, hi, rfl, _⟩ := h
    rfl
  · obtain ⟨v, lo, hi, rfl, h⟩ := h
    refine ⟨_, (pss_cons (ps_if (pt_not (pt_val (pe_cl c_is_ints hr (by decide) rfl (pa_cons (pv 0) pa_nil)))) (pss_one (ps_ret pe_bl)) pss_nil)
      (pss_cons (ps_for PassesOwn.never rfl (pi_tup (pv 0)) (pg_name (i := 3) sc_is_ints_between.nd rfl (Or.inl rfl)) (pss_one (ps_if (pt_not (pt_chain op_le op_le (pv 1) (pv 3) (pv 2))) (pss_one (ps_ret pe_bl)) pss_nil)))
      (pss_one (ps_ret pe_bl)))), ?_⟩
    try dsimp only [cxOf, Cx.nox, Cx.wish]
    refine st_of (σ' := [some _, some _, some _, none]) rfl ?_
    wtm_at "jw"
    rcases h with ⟨d, hv, q⟩ | ⟨a, xs, rfl, ha, q⟩
    · refine ⟨v, rfl, .inl ⟨d, hv, ?_⟩⟩
      wtm_at "jw"
      cases hid : isIs d with
      | false =>
        wtm_at "jw"
        rw [okD_isIs hid] at q
        exact q
      | true =>
        wtm_at "jw"
        cases d with
        | tuple ds =>
          obtain ⟨a, xs, rfl, hS, hT⟩ := hv.tup_inv
          have hid' : ds.all isID = true := hid
          rw [List.all_eq_true] at hid'
          wtm_at "jw"
          refine f_tup (xs := xs) (fun i σ H' => H' = H ∧ (ds.take i).all (okI lo hi) = true ∧ ∃ v1, σ = [some (.ref a), some (.int lo), some (.int hi), v1]) ⟨rfl, rfl, none, rfl⟩ (fun i σ H' _ h => by rw [h.1]; exact hS) (fun i x σ H' hi' h => ?_) (fun σ H' h => ?_)
          · obtain ⟨rfl, hal, v1, rfl⟩ := h
            obtain ⟨d, hd, hx, e, _⟩ := hT.at hi'
            have hdi := hid' d (List.mem_of_getElem? hd)
            cases d with
            | int z =>
              obtain rfl := hx.int_inv
              wtm_at "jw"
              refine c_dec (fun h1 => ?_) (fun h1 => ?_)
              · wtm_at "jw"
                refine c_decN (fun h2 => ?_) (fun h2 => ?_)
                · wtm_at "jw"
                  have : okD lo hi (.tuple ds) = false := all_no hd (by simp [okI, h2])
                  rw [this] at q
                  exact q
                · wtm_at "jw"
                  exact ⟨rfl, all_take hal e (by simp [okI, h1, h2]), _, rfl⟩
              · wtm_at "jw"
                have : okD lo hi (.tuple ds) = false := all_no hd (by simp [okI, h1])
                rw [this] at q
                exact q
            | _ => cases hdi
          · obtain ⟨rfl, hal, v1, rfl⟩ := h
            rw [hT.len, List.take_length] at hal
            wtm_at "jw"
            rw [show okD lo hi (.tuple ds) = true from hal] at q
            exact q
        | _ => cases hid
    · refine ⟨_, rfl, .inr ⟨a, xs, rfl, ha, ?_⟩⟩
      wtm_at "jw"
      exact q
def sp_tick_number (K : PySem.W.Frag) : Sp := fun vs H Q _ => ∃ (o : Option Int), vs = [ovO o] ∧ Q (.int (tn o)) H
theorem ok_tick_number {P : Program} {w : World} {K : PySem.W.Frag} {mg : Str → Option Value} {base : Heap} {f : Addr} {fd : FuncData} (F : Df K mg "tick_number" s_tick_number f fd ["tick"]) (T : Txt mg) : FnOk P w K mg base CX0 1 f fd ["tick"] (sp_tick_number K) := by
  refine F.ok sc_tick_number (fun vs H Q E h => ?_) (fun cdv A outer s H vs Q E hr h => ?_)
  · obtain ⟨o, rfl, _⟩ := h
    rfl
  · obtain ⟨o, rfl, q⟩ := h
    refine ⟨_, (pss_one (ps_ret (pe_ifExp (pt_cmpR o_isN (pv 0) pe_non (nomark _)) pe_int (pe_op op_add (pv 0) pe_int)))), ?_⟩
    try dsimp only [cxOf, Cx.nox, Cx.wish]
    refine st_of (σ' := [some _]) rfl ?_
    cases o with
    | none =>
      unfold ovO
      wtm_at "jw"
      refine c_yes rfl ?_
      wtm_at "jw"
      exact q
    | some x =>
      unfold ovO
      wtm_at "jw"
      refine c_no (fun h => by cases h) ?_
      wtm_at "jw"
      exact q
def sp_tick_of (K : PySem.W.Frag) : Sp := fun vs H Q _ => ∃ (n : Int), vs = [.int n] ∧ Q (ovO (tickOf n)) H
theorem ok_tick_of {P : Program} {w : World} {K : PySem.W.Frag} {mg : Str → Option Value} {base : Heap} {f : Addr} {fd : FuncData} (F : Df K mg "tick_of" s_tick_of f fd ["number"]) (T : Txt mg) : FnOk P w K mg base CX0 1 f fd ["number"] (sp_tick_of K) := by
  refine F.ok sc_tick_of (fun vs H Q E h => ?_) (fun cdv A outer s H vs Q E hr h => ?_)
  · obtain ⟨n, rfl, _⟩ := h
    rfl
  · obtain ⟨n, rfl, q⟩ := h
    unfold tickOf at q
    refine ⟨_, (pss_one (ps_ret (pe_ifExp (pt_cmpR op_eq (pv 0) pe_int (nomark _)) pe_non (pe_op op_sub (pv 0) pe_int)))), ?_⟩
    try dsimp only [cxOf, Cx.nox, Cx.wish]
    refine st_of (σ' := [some _]) rfl ?_
    wtm_at "jw"
    refine c_dec (fun h => ?_) (fun h => ?_)
    · rw [if_pos h] at q
      wtm_at "jw"
      exact q
    · rw [if_neg h] at q
      wtm_at "jw"
      exact q
theorem i_ext {H : Hp} {Q : VK} {l b : Addr} {xs zs : List V} (h1 : H l = some (.lst xs)) (h2 : H b = some (.lst zs)) (hl : xs.length + zs.length ≤ 10000) (q : Q .non (upd H l (.lst (xs ++ zs)))) : rExtend (.ref l) [.ref b] H Q := ⟨l, b, xs, zs, rfl, rfl, h1, h2, by rw [sizeLine_eq]; omega, q⟩
/-! ### parcels -/
/-- a row of ints grows -/
theorem enc_eq (t f : Int) (en go : List (Option Int)) (ps : List (Int × Int)) (st : List Int) : enc t f en go ps st = ([t, f] ++ en.map tn ++ go.map tn ++ [(ps.length : Int)] ++ flat ps) ++ st.map fun z => z + 32768 := by
  unfold enc
  simp
theorem i_lcP {K : PySem.W.Frag} {H : Hp} {v : V} {ds : List PyData} {R : Addr → Prop} (h : TD K H v (.tuple ds)) (q : ∀ a xs, v = .ref a → SqT K H a xs → TDs K H xs ds → R a) : ∃ a', v = .ref a' ∧ (∃ xs, SqT K H a' xs) ∧ R a' := i_isTD h q
def sp_parcel_of (K : PySem.W.Frag) : Sp := fun vs H Q _ => ∃ (x y : V) (t f : Int) (en go : List (Option Int)) (ps : List (Int × Int)) (st : List Int), vs = [x, y] ∧ TD K H x (factsD t f en go ps) ∧ TD K H y (.tuple (st.map PyData.int)) ∧ en.length ≤ 100 ∧ go.length ≤ 100 ∧ ps.length ≤ 100 ∧ st.length ≤ 100 ∧
  ∀ v H', Same H H' → TD K H' v (.tuple ((enc t f en go ps st).map PyData.int)) → Q v H'
theorem ok_parcel_of {P : Program} {w : World} {K : PySem.W.Frag} {mg : Str → Option Value} {base : Heap} {f : Addr} {fd : FuncData} (F : Df K mg "parcel_of" s_parcel_of f fd ["facts", "state"]) (T : Txt mg)
    (c_tick_number : Cl P w K mg base 1 "tick_number" (sp_tick_number K)) : FnOk P w K mg base CX0 2 f fd ["facts", "state"] (sp_parcel_of K) := by
  refine F.ok sc_parcel_of (fun vs H Q E h => ?_) (fun cdv A outer s H vs Q E hr h => ?_)
  · obtain ⟨x, y, t, f, en, go, ps, st, rfl, _⟩ := h
    rfl
  · obtain ⟨x, y, t, f, en, go, ps, st, rfl, hx, hy, le, lg, lp, ls, q⟩ := h
    rw [enc_eq] at q
    refine ⟨_, (pss_cons (ps_set (i := 2) sc_parcel_of.nd rfl (Or.inl rfl) (pe_lst (pa_cons (pe_ix (r := rIxT K) ix_tup (pv 0) pe_int (fun _ _ => rfl)) (pa_cons (pe_ix (r := rIxT K) ix_tup (pv 0) pe_int (fun _ _ => rfl)) pa_nil))))
      (pss_cons (ps_expr (pe_bmK (K := K) rfl PySem.F.plainAttrs_list PySem.F.slot_list_extend PySem.F.type_list_extend mt_extend (pv 2) (pa_cons (pe_lc (own := [("tick", 3)]) (g := gName 3) (tt := tYes) rfl sc_parcel_of.nd (pi_tup (pe_ix (r := rIxT K) ix_tup (pv 0) pe_int (fun _ _ => rfl))) (blkOk_by (own := [("tick", 3)]) (N := N_parcel_of) (sc := defScope s_parcel_of) (by decide +kernel)) (fun _ _ _ _ _ => (pg_name (i := 3) sc_parcel_of.nd rfl (Or.inl rfl))) (fun _ _ _ _ _ => pts_nil) (fun _ _ _ _ _ => (pe_cl c_tick_number hr (by decide) rfl (pa_cons (pv 3) pa_nil)))) pa_nil)))
      (pss_cons (ps_expr (pe_bmK (K := K) rfl PySem.F.plainAttrs_list PySem.F.slot_list_extend PySem.F.type_list_extend mt_extend (pv 2) (pa_cons (pe_lc (own := [("tick", 3)]) (g := gName 3) (tt := tYes) rfl sc_parcel_of.nd (pi_tup (pe_ix (r := rIxT K) ix_tup (pv 0) pe_int (fun _ _ => rfl))) (blkOk_by (own := [("tick", 3)]) (N := N_parcel_of) (sc := defScope s_parcel_of) (by decide +kernel)) (fun _ _ _ _ _ => (pg_name (i := 3) sc_parcel_of.nd rfl (Or.inl rfl))) (fun _ _ _ _ _ => pts_nil) (fun _ _ _ _ _ => (pe_cl c_tick_number hr (by decide) rfl (pa_cons (pv 3) pa_nil)))) pa_nil)))
      (pss_cons (ps_expr (pe_bmK (K := K) rfl PySem.F.plainAttrs_list PySem.F.slot_list_append PySem.F.type_list_append mt_append (pv 2) (pa_cons (pe_callB (id := "len") (r := qLen K) c_len (by rfl) T.b_len (by decide +kernel) (pa_cons (pe_ix (r := rIxT K) ix_tup (pv 0) pe_int (fun _ _ => rfl)) pa_nil)) pa_nil)))
      (pss_cons (ps_for PassesOwn.never rfl (pi_tup (pe_ix (r := rIxT K) ix_tup (pv 0) pe_int (fun _ _ => rfl))) (pg_tupK (K := K) rfl rfl (pgs_cons (pg_name (i := 3) sc_parcel_of.nd rfl (Or.inl rfl)) (pgs_cons (pg_name (i := 4) sc_parcel_of.nd rfl (Or.inl rfl)) pgs_nil))) (pss_cons (ps_expr (pe_bmK (K := K) rfl PySem.F.plainAttrs_list PySem.F.slot_list_append PySem.F.type_list_append mt_append (pv 2) (pa_cons (pv 3) pa_nil)))
      (pss_one (ps_expr (pe_bmK (K := K) rfl PySem.F.plainAttrs_list PySem.F.slot_list_append PySem.F.type_list_append mt_append (pv 2) (pa_cons (pv 4) pa_nil))))))
      (pss_cons (ps_expr (pe_bmK (K := K) rfl PySem.F.plainAttrs_list PySem.F.slot_list_extend PySem.F.type_list_extend mt_extend (pv 2) (pa_cons (pe_lc (own := [("value", 5)]) (g := gName 5) (tt := tYes) rfl sc_parcel_of.nd (pi_tup (pv 1)) (blkOk_by (own := [("value", 5)]) (N := N_parcel_of) (sc := defScope s_parcel_of) (by decide +kernel)) (fun _ _ _ _ _ => (pg_name (i := 5) sc_parcel_of.nd rfl (Or.inl rfl))) (fun _ _ _ _ _ => pts_nil) (fun _ _ _ _ _ => (pe_op op_sub (pv 5) (pe_cn rfl T.c_LOW)))) pa_nil)))
      (pss_one (ps_ret (pe_callTy (T := "tuple") (r := rTupOf K) c_tup (by rfl) T.b_tuple (by decide +kernel) (pa_cons (pv 2) pa_nil)))))))))), ?_⟩
    try dsimp only [cxOf, Cx.nox, Cx.wish]
    refine st_of (σ' := [some _, some _, none, none, none, none]) rfl ?_
    wtm_at "jw"
    intro R hR
    have s1 := same_new (o := .lst [.int t, .int f]) hR
    have hR1 : upd H R (.lst [.int t, .int f]) R = some (.lst (([t, f] : List Int).map V.int)) := upd_same
    generalize upd H R (.lst [.int t, .int f]) = H1 at s1 hR1 ⊢
    have hx1 := hx.same s1
    wtm_at "jw"
    refine i_isTD (by assumption) fun a xs ea hS hT => ?_
    have exs := hT.ovs_inv
    subst exs
    intro D hD
    have nDR : D ≠ R := (ne_of_none hR1 hD).symm
    refine l_tup (xs := en.map ovO) (fun i H' => Same H1 H' ∧ H' D = some (.lst (((en.take i).map tn).map V.int))) ⟨same_new hD, upd_same⟩ (fun i H' _ h => Same.tup h.1 hS) (fun i z H' hi h => ?_) (fun H2 h => ?_)
    · obtain ⟨s2, hD2⟩ := h
      rw [List.getElem?_map] at hi
      obtain ⟨o, ho, rfl⟩ : ∃ o, en[i]? = some o ∧ z = ovO o := by
        cases e : en[i]? with
        | none => rw [e] at hi; cases hi
        | some o => rw [e] at hi; exact ⟨o, rfl, (Option.some.inj hi).symm⟩
      wtm_at "jw"
      refine ⟨rfl, ?_⟩
      wtm_at "jw"
      refine ⟨o, rfl, ?_⟩
      exact ⟨_, hD2, small1000 (by rw [List.length_map, List.length_map, List.length_take]; omega), put_same s2 hD, by rw [upd_same, List.take_add_one, ho, List.map_append, List.map_append]; rfl⟩
    obtain ⟨s2, hD2⟩ := h
    rw [List.length_map, List.take_length] at hD2
    have hR2 := s2 _ _ hR1
    wtm_at "jw"
    refine i_ext hR2 hD2 (by simp; omega) ?_
    have k2 : upd H2 R (.lst (([t, f] : List Int).map V.int ++ (en.map tn).map V.int)) R = some (.lst (([t, f] ++ en.map tn).map V.int)) := by rw [upd_same, List.map_append]
    have s02 : Same H (upd H2 R (.lst (([t, f] : List Int).map V.int ++ (en.map tn).map V.int))) := put_same (s1.trans s2) hR
    generalize upd H2 R (.lst (([t, f] : List Int).map V.int ++ (en.map tn).map V.int)) = H3 at k2 s02 ⊢
    have hx3 := hx.same s02
    wtm_at "jw"
    refine i_isTD (by assumption) fun a2 xs2 ea2 hS2 hT2 => ?_
    have exs2 := hT2.ovs_inv
    subst exs2
    intro D2 hD2'
    refine l_tup (xs := go.map ovO) (fun i H' => Same H3 H' ∧ H' D2 = some (.lst (((go.take i).map tn).map V.int))) ⟨same_new hD2', upd_same⟩ (fun i H' _ h => Same.tup h.1 hS2) (fun i z H' hi h => ?_) (fun H4 h => ?_)
    · obtain ⟨s2, hD2⟩ := h
      rw [List.getElem?_map] at hi
      obtain ⟨o, ho, rfl⟩ : ∃ o, go[i]? = some o ∧ z = ovO o := by
        cases e : go[i]? with
        | none => rw [e] at hi; cases hi
        | some o => rw [e] at hi; exact ⟨o, rfl, (Option.some.inj hi).symm⟩
      wtm_at "jw"
      refine ⟨rfl, ?_⟩
      wtm_at "jw"
      refine ⟨o, rfl, ?_⟩
      exact ⟨_, hD2, small1000 (by rw [List.length_map, List.length_map, List.length_take]; omega), put_same s2 hD2', by rw [upd_same, List.take_add_one, ho, List.map_append, List.map_append]; rfl⟩
    obtain ⟨s4, hD4⟩ := h
    rw [List.length_map, List.take_length] at hD4
    have hR4 := s4 _ _ k2
    wtm_at "jw"
    refine i_ext hR4 hD4 (by simp; omega) ?_
    have k5 : upd H4 R (.lst (([t, f] ++ en.map tn).map V.int ++ (go.map tn).map V.int)) R = some (.lst (([t, f] ++ en.map tn ++ go.map tn).map V.int)) := by rw [upd_same, List.map_append (l₂ := go.map tn)]
    have s05 : Same H (upd H4 R (.lst (([t, f] ++ en.map tn).map V.int ++ (go.map tn).map V.int))) := put_same (s02.trans s4) hR
    generalize upd H4 R (.lst (([t, f] ++ en.map tn).map V.int ++ (go.map tn).map V.int)) = H5 at k5 s05 ⊢
    have hx5 := hx.same s05
    have hsz5 : (([t, f] ++ en.map tn ++ go.map tn).map V.int).length < sizeLine := small1000 (by simp; omega)
    wtm_at "jw"
    rw [List.length_map]
    have k6 : upd H5 R (.lst (([t, f] ++ en.map tn ++ go.map tn).map V.int ++ [.int (ps.length : Nat)])) R = some (.lst (([t, f] ++ en.map tn ++ go.map tn ++ [(ps.length : Int)] ++ flat (ps.take 0)).map V.int)) := by rw [upd_same]; simp [flat]
    have s06 : Same H (upd H5 R (.lst (([t, f] ++ en.map tn ++ go.map tn).map V.int ++ [.int (ps.length : Nat)]))) := put_same s05 hR
    generalize upd H5 R (.lst (([t, f] ++ en.map tn ++ go.map tn).map V.int ++ [.int (ps.length : Nat)])) = H6 at k6 s06 ⊢
    have hx6 := hx.same s06
    wtm_at "jw"
    refine i_isTD (by assumption) fun a3 xs3 ea3 hS3 hT3 => ?_
    refine f_tup (xs := xs3) (fun i σ H' => Same H H' ∧ Tps H6 H' ∧ H' R = some (.lst (([t, f] ++ en.map tn ++ go.map tn ++ [(ps.length : Int)] ++ flat (ps.take i)).map V.int)) ∧ ∃ v3 v4 v5, σ = [some x, some y, some (.ref R), v3, v4, v5])
      ⟨s06, Tps.refl, k6, _, _, _, rfl⟩ (fun i σ H' _ h => h.2.1.sq hS3) (fun i z σ H' hi h => ?_) (fun σ H' h => ?_)
    · obtain ⟨s7, tp, hR7, v3, v4, v5, rfl⟩ := h
      obtain ⟨p, ep, hz, etk, hlt⟩ := (hT3.tps tp).pair_at hi
      have fl := flat_len (ps.take i)
      rw [List.length_take] at fl
      have hsz7 : (([t, f] ++ en.map tn ++ go.map tn ++ [(ps.length : Int)] ++ flat (ps.take i)).map V.int).length < sizeLine := small1000 (by rw [List.length_map, List.length_append, fl]; simp; omega)
      wtm_at "jw"
      have hsz8 : (([t, f] ++ en.map tn ++ go.map tn ++ [(ps.length : Int)] ++ flat (ps.take i)).map V.int ++ [V.int p.1]).length < sizeLine := small1000 (by rw [List.length_append, List.length_map, List.length_append, fl]; simp; omega)
      wtm_at "jw"
      refine ⟨put_same (put_same s7 hR) hR, (tp.trans (tps_put hR7)).trans (tps_put upd_same), ?_, _, _, _, rfl⟩
      rw [upd_same, etk, flat_snoc]
      simp
    · obtain ⟨s7, tp, hR7, v3, v4, v5, rfl⟩ := h
      rw [hT3.len, List.length_map, List.take_length] at hR7
      have hy7 := hy.same s7
      obtain ⟨ya, ys, rfl, hyS, hyT⟩ := hy7.tup_inv
      rw [hyT.ints_inv] at hyS
      wtm_at "jw"
      intro D3 hD3
      refine l_tupP (xs := st.map V.int) (fun i => .int ((st[i]?).getD 0 + 32768)) hD3 (by rw [List.length_map]; omega) hyS (fun i z H' T hi s hT => ?_) (fun H8 s8 hD8 => ?_)
      · obtain ⟨z, rfl, ez, _⟩ := ints_at hi
        rw [ez] at hT
        wtm_at "jw"
        refine ⟨rfl, ?_⟩
        wtm_at "jw"
        exact hT
      have e8 : (List.range (st.map V.int).length).map (fun i => V.int ((st[i]?).getD 0 + 32768)) = (st.map fun z => z + 32768).map V.int := by
        rw [List.length_map, List.map_map]
        refine List.ext_getElem? fun i => ?_
        rw [List.getElem?_map, List.getElem?_map]
        by_cases hi : i < st.length
        · rw [List.getElem?_range hi, List.getElem?_eq_getElem hi]
          simp [List.getElem?_eq_getElem hi]
        · rw [List.getElem?_eq_none (by rw [List.length_range]; omega), List.getElem?_eq_none (by omega)]; rfl
      rw [e8] at hD8
      have hR8 := s8 _ _ hR7
      wtm_at "jw"
      have fl := flat_len ps
      refine i_ext hR8 hD8 (by rw [List.length_map, List.length_append, fl]; simp; omega) ?_
      rw [← List.map_append]
      have hR9 := upd_same (H := H8) (a := R) (o := .lst ((([t, f] ++ en.map tn ++ go.map tn ++ [(ps.length : Int)] ++ flat ps) ++ st.map fun z => z + 32768).map V.int))
      have s09 : Same H (upd H8 R (.lst ((([t, f] ++ en.map tn ++ go.map tn ++ [(ps.length : Int)] ++ flat ps) ++ st.map fun z => z + 32768).map V.int))) := put_same (s7.trans s8) hR
      generalize upd H8 R (.lst ((([t, f] ++ en.map tn ++ go.map tn ++ [(ps.length : Int)] ++ flat ps) ++ st.map fun z => z + 32768).map V.int)) = H9 at hR9 s09 ⊢
      wtm_at "jw"
      intro W hW
      exact q _ _ (s09.trans (same_new hW)) (TD.new hW (TDs.ints _))
def pclD : Pcl → PyData
  | (t, f, en, go, ps, st) => .tuple [factsD t f en go ps, .tuple (st.map PyData.int)]
def opR (K : PySem.W.Frag) (H : Hp) (r : V) : Option Pcl → Prop
  | none => r = .non
  | some p => TD K H r (pclD p)
theorem ng_at {ns : List Int} {j : Int} {i : Nat} (hj : j = (i : Int)) (h : i < ns.length) : atI (ns.map V.int) j = some (.int (ng ns i)) := by
  subst hj
  refine atI_nat ?_
  unfold ng
  rw [List.getElem?_map, List.getElem?_eq_getElem h]
  rfl
theorem cut_two {ns : List Int} {i j : Int} {a b : Nat} (hi : i = (a : Int)) (hj : j = (b : Int)) (hab : a ≤ b) (h : b ≤ ns.length) : cutV (ns.map V.int) (some i) (some j) = ((ns.drop a).take (b - a)).map V.int := by
  subst hi
  subst hj
  unfold cutV
  rw [HT.sIx_nat, HT.sIx_nat, List.length_map, Nat.min_eq_left h, Nat.min_eq_left (show a ≤ ns.length by omega), List.map_take, List.map_drop]
theorem cut_from {ns : List Int} {i : Int} {a : Nat} (hi : i = (a : Int)) (h : a ≤ ns.length) : cutV (ns.map V.int) (some i) none = (ns.drop a).map V.int := by
  subst hi
  unfold cutV
  rw [HT.sIx_nat, HT.sIx_none, List.length_map, Nat.min_eq_left (by omega), List.map_drop, List.take_of_length_le (by rw [List.length_drop, List.length_map]; omega)]
theorem cut_to {ns : List Int} {j : Int} {b : Nat} (hj : j = (b : Int)) (h : b ≤ ns.length) : cutV (ns.map V.int) none (some j) = (ns.take b).map V.int := by
  subst hj
  unfold cutV
  rw [HT.sIx_nat, HT.sIx_none, List.length_map, Nat.min_eq_left (by omega), List.drop_zero, Nat.sub_zero, List.map_take]
theorem mem_of_le {ns : List Int} {lo hi : Int} (h : ∀ z ∈ ns, lo ≤ z ∧ z ≤ hi) {i : Nat} (hi' : i < ns.length) : lo ≤ ng ns i ∧ ng ns i ≤ hi := by
  unfold ng
  rw [List.getElem?_eq_getElem hi']
  exact h _ (List.getElem_mem hi')
theorem okD_ints {ns : List Int} {lo hi : Int} (h : ∀ z ∈ ns, lo ≤ z ∧ z ≤ hi) : okD lo hi (.tuple (ns.map PyData.int)) = true := by
  show (ns.map PyData.int).all (okI lo hi) = true
  rw [List.all_map, List.all_eq_true]
  intro z hz
  have := h z hz
  simp [okI, this]
def sp_opened_parcel (K : PySem.W.Frag) : Sp := fun vs H Q _ => ∃ (v : V) (s : Nat), vs = [v, .int (s : Int)] ∧ s ≤ 10 ∧
  ((∃ ns : List Int, TD K H v (.tuple (ns.map PyData.int)) ∧ (∀ z ∈ ns, 0 ≤ z ∧ z ≤ 65536) ∧ ns.length ≤ 500 ∧ ∀ r H', Same H H' → opR K H' r (openN ns s) → Q r H') ∨
   (∃ d, TD K H v d ∧ okD 0 65536 d = false ∧ Q .non H) ∨ ∃ a xs, v = .ref a ∧ H a = some (.lst xs) ∧ Q .non H)
theorem ok_opened_parcel {P : Program} {w : World} {K : PySem.W.Frag} {mg : Str → Option Value} {base : Heap} {f : Addr} {fd : FuncData} (F : Df K mg "opened_parcel" s_opened_parcel f fd ["numbers", "seats"]) (T : Txt mg)
    (c_is_ints_between : Cl P w K mg base 3 "is_ints_between" (sp_is_ints_between K))
    (c_tick_of : Cl P w K mg base 1 "tick_of" (sp_tick_of K)) : FnOk P w K mg base CX0 4 f fd ["numbers", "seats"] (sp_opened_parcel K) := by
  refine F.ok sc_opened_parcel (fun vs H Q E h => ?_) (fun cdv A outer s H vs Q E hr h => ?_)
  · obtain ⟨v, s, rfl, _⟩ := h
    rfl
  · obtain ⟨v, n, rfl, n10, h⟩ := h
    refine ⟨_, (pss_cons (ps_if (pt_not (pt_val (pe_cl c_is_ints_between hr (by decide) rfl (pa_cons (pv 0) (pa_cons pe_int (pa_cons (pe_cn rfl T.c_MOST_NUMBER) pa_nil)))))) (pss_one (ps_ret pe_non)) pss_nil)
      (pss_cons (ps_set (i := 2) sc_opened_parcel.nd rfl (Or.inr rfl) (pe_op op_add pe_int (pe_op op_mul pe_int (pv 1))))
      (pss_cons (ps_if (pt_cmpR op_lt (pe_callB (id := "len") (r := qLen K) c_len (by rfl) T.b_len (by decide +kernel) (pa_cons (pv 0) pa_nil)) (pv 2) (nomark _)) (pss_one (ps_ret pe_non)) pss_nil)
      (pss_cons (ps_set (i := 3) sc_opened_parcel.nd rfl (Or.inl rfl) (pe_ix (r := rIxT K) ix_tup (pv 0) (pe_op op_sub (pv 2) pe_int) (fun _ _ => rfl)))
      (pss_cons (ps_set (i := 4) sc_opened_parcel.nd rfl (Or.inl rfl) (pe_op op_add (pv 2) (pe_op op_mul pe_int (pv 3))))
      (pss_cons (ps_if (pt_cmpR op_lt (pe_callB (id := "len") (r := qLen K) c_len (by rfl) T.b_len (by decide +kernel) (pa_cons (pv 0) pa_nil)) (pe_op op_add (pv 4) pe_int) (nomark _)) (pss_one (ps_ret pe_non)) pss_nil)
      (pss_cons (ps_set (i := 5) sc_opened_parcel.nd rfl (Or.inl rfl) (pe_callTy (T := "tuple") (r := rTupOf K) c_tup (by rfl) T.b_tuple (by decide +kernel) (pa_cons (pe_lc (own := [("number", 6)]) (g := gName 6) (tt := tYes) rfl sc_opened_parcel.nd (pi_tup (pe_slice (r := rSlQ K) sl_tupQ (pv 0) (po_some pe_int) (po_some (pe_op op_add pe_int (pv 1))))) (blkOk_by (own := [("number", 6)]) (N := N_opened_parcel) (sc := defScope s_opened_parcel) (by decide +kernel)) (fun _ _ _ _ _ => (pg_name (i := 6) sc_opened_parcel.nd rfl (Or.inl rfl))) (fun _ _ _ _ _ => pts_nil) (fun _ _ _ _ _ => (pe_cl c_tick_of hr (by decide) rfl (pa_cons (pv 6) pa_nil)))) pa_nil)))
      (pss_cons (ps_set (i := 7) sc_opened_parcel.nd rfl (Or.inl rfl) (pe_callTy (T := "tuple") (r := rTupOf K) c_tup (by rfl) T.b_tuple (by decide +kernel) (pa_cons (pe_lc (own := [("number", 6)]) (g := gName 6) (tt := tYes) rfl sc_opened_parcel.nd (pi_tup (pe_slice (r := rSlQ K) sl_tupQ (pv 0) (po_some (pe_op op_add pe_int (pv 1))) (po_some (pe_op op_add pe_int (pe_op op_mul pe_int (pv 1)))))) (blkOk_by (own := [("number", 6)]) (N := N_opened_parcel) (sc := defScope s_opened_parcel) (by decide +kernel)) (fun _ _ _ _ _ => (pg_name (i := 6) sc_opened_parcel.nd rfl (Or.inl rfl))) (fun _ _ _ _ _ => pts_nil) (fun _ _ _ _ _ => (pe_cl c_tick_of hr (by decide) rfl (pa_cons (pv 6) pa_nil)))) pa_nil)))
      (pss_cons (ps_set (i := 8) sc_opened_parcel.nd rfl (Or.inl rfl) (pe_callTy (T := "tuple") (r := rTupOf K) c_tup (by rfl) T.b_tuple (by decide +kernel) (pa_cons (pe_lc (own := [("k", 9)]) (g := gName 9) (tt := tYes) rfl sc_opened_parcel.nd (pi_range1 rfl T.b_range (pa_cons (pv 3) pa_nil)) (blkOk_by (own := [("k", 9)]) (N := N_opened_parcel) (sc := defScope s_opened_parcel) (by decide +kernel)) (fun _ _ _ _ _ => (pg_name (i := 9) sc_opened_parcel.nd rfl (Or.inl rfl))) (fun _ _ _ _ _ => pts_nil) (fun _ _ _ _ _ => (pe_tup (pa_cons (pe_ix (r := rIxT K) ix_tup (pv 0) (pe_op op_add (pv 2) (pe_op op_mul pe_int (pv 9))) (fun _ _ => rfl)) (pa_cons (pe_ix (r := rIxT K) ix_tup (pv 0) (pe_op op_add (pe_op op_add (pv 2) (pe_op op_mul pe_int (pv 9))) pe_int) (fun _ _ => rfl)) pa_nil))))) pa_nil)))
      (pss_cons (ps_set (i := 10) sc_opened_parcel.nd rfl (Or.inl rfl) (pe_tup (pa_cons pe_str (pa_cons (pe_ix (r := rIxT K) ix_tup (pv 0) pe_int (fun _ _ => rfl)) (pa_cons (pe_ix (r := rIxT K) ix_tup (pv 0) pe_int (fun _ _ => rfl)) (pa_cons (pv 5) (pa_cons (pv 7) (pa_cons (pv 8) pa_nil))))))))
      (pss_one (ps_ret (pe_tup (pa_cons (pv 10) (pa_cons (pe_callTy (T := "tuple") (r := rTupOf K) c_tup (by rfl) T.b_tuple (by decide +kernel) (pa_cons (pe_lc (own := [("number", 6)]) (g := gName 6) (tt := tYes) rfl sc_opened_parcel.nd (pi_tup (pe_slice (r := rSlQ K) sl_tupQ (pv 0) (po_some (pv 4)) po_none)) (blkOk_by (own := [("number", 6)]) (N := N_opened_parcel) (sc := defScope s_opened_parcel) (by decide +kernel)) (fun _ _ _ _ _ => (pg_name (i := 6) sc_opened_parcel.nd rfl (Or.inl rfl))) (fun _ _ _ _ _ => pts_nil) (fun _ _ _ _ _ => (pe_op op_add (pv 6) (pe_cn rfl T.c_LOW)))) pa_nil)) pa_nil))))))))))))))), ?_⟩
    try dsimp only [cxOf, Cx.nox, Cx.wish]
    refine st_of (σ' := [some _, some _, none, none, none, none, none, none, none, none, none]) rfl ?_
    wtm_at "jw"
    rcases h with ⟨ns, hv, hns, hl, q⟩ | ⟨d, hv, hd, q⟩ | ⟨a, xs, rfl, ha, q⟩
    · refine ⟨v, 0, 65536, rfl, .inl ⟨_, hv, ?_⟩⟩
      rw [okD_ints hns]
      obtain ⟨a, xs, rfl, hS, hT⟩ := hv.tup_inv
      rw [hT.ints_inv] at hS
      clear hv
      unfold openN at q
      wtm_at "jw"
      rw [List.length_map]
      refine c_dec (fun h1 => ?_) (fun h1 => ?_)
      · rw [if_pos (by omega)] at q
        wtm_at "jw"
        exact q _ _ (Same.refl _) rfl
      · rw [if_neg (by omega)] at q
        have a1 := ng_at (ns := ns) (j := 3 + 2 * (n : Int) - 1) (i := 2 + 2 * n) (by omega) (by omega)
        have hm := mem_of_le hns (show 2 + 2 * n < ns.length by omega)
        wtm_at "jw"
        rw [List.length_map]
        obtain ⟨m, hm2⟩ : ∃ m : Nat, ng ns (2 + 2 * n) = (m : Int) := ⟨(ng ns (2 + 2 * n)).toNat, by omega⟩
        rw [hm2] at q ⊢
        refine c_dec (fun h2 => ?_) (fun h2 => ?_)
        · rw [if_pos (by omega)] at q
          wtm_at "jw"
          exact q _ _ (Same.refl _) rfl
        · rw [if_neg (by omega), Int.toNat_natCast] at q
          wtm_at "jw"
          refine i_slA hS fun r1 H1 s1 hr1 => ?_
          rw [cut_two (i := 2) (j := 2 + (n : Int)) (a := 2) (b := 2 + n) (by omega) (by omega) (by omega) (by omega), show 2 + n - 2 = n by omega] at hr1
          have hS1 := Same.tup s1 hS
          wtm_at "jw"
          intro D hD
          refine l_tup (xs := ((ns.drop 2).take n).map V.int) (fun i H' => Same H1 H' ∧ H' D = some (.lst (((((ns.drop 2).take n).take i).map tickOf).map ovO))) ⟨same_new hD, upd_same⟩ (fun i H' _ h => Same.tup h.1 hr1) (fun i z H' hi h => ?_) (fun H2 h => ?_)
          · obtain ⟨s2, hD2⟩ := h
            obtain ⟨z, rfl, ez, ez2, hlt⟩ := ints_at hi
            rw [List.length_take] at hlt
            wtm_at "jw"
            refine ⟨rfl, ?_⟩
            wtm_at "jw"
            refine ⟨z, rfl, ?_⟩
            exact ⟨_, hD2, small1000 (by rw [List.length_map, List.length_map, List.length_take, List.length_take]; omega), put_same s2 hD, by rw [upd_same, ez2, List.map_append, List.map_append]; rfl⟩
          obtain ⟨s2, hD2⟩ := h
          rw [List.length_map, List.take_length] at hD2
          wtm_at "jw"
          intro T1 hT1
          have s3 := same_new (o := .tup ((((ns.drop 2).take n).map tickOf).map ovO)) hT1
          have k1 : TD K (upd H2 T1 (.tup ((((ns.drop 2).take n).map tickOf).map ovO))) (.ref T1) (.tuple ((((ns.drop 2).take n).map tickOf).map oD)) := TD.new hT1 (TDs.ovs _)
          have hS3 := Same.tup s3 (Same.tup s2 hS1)
          generalize upd H2 T1 (.tup ((((ns.drop 2).take n).map tickOf).map ovO)) = H3 at s3 k1 hS3 ⊢
          wtm_at "jw"
          refine i_slA hS3 fun r2 H4 s4 hr2 => ?_
          rw [cut_two (i := 2 + (n : Int)) (j := 2 + 2 * (n : Int)) (a := 2 + n) (b := 2 + 2 * n) (by omega) (by omega) (by omega) (by omega), show 2 + 2 * n - (2 + n) = n by omega] at hr2
          have hS4 := Same.tup s4 hS3
          have k1' := k1.same s4
          wtm_at "jw"
          intro D2 hD2'
          refine l_tup (xs := ((ns.drop (2 + n)).take n).map V.int) (fun i H' => Same H4 H' ∧ H' D2 = some (.lst (((((ns.drop (2 + n)).take n).take i).map tickOf).map ovO))) ⟨same_new hD2', upd_same⟩ (fun i H' _ h => Same.tup h.1 hr2) (fun i z H' hi h => ?_) (fun H5 h => ?_)
          · obtain ⟨s2, hD2⟩ := h
            obtain ⟨z, rfl, ez, ez2, hlt⟩ := ints_at hi
            rw [List.length_take] at hlt
            wtm_at "jw"
            refine ⟨rfl, ?_⟩
            wtm_at "jw"
            refine ⟨z, rfl, ?_⟩
            exact ⟨_, hD2, small1000 (by rw [List.length_map, List.length_map, List.length_take, List.length_take]; omega), put_same s2 hD2', by rw [upd_same, ez2, List.map_append, List.map_append]; rfl⟩
          obtain ⟨s5, hD5⟩ := h
          rw [List.length_map, List.take_length] at hD5
          wtm_at "jw"
          intro T2 hT2
          have s6 := same_new (o := .tup ((((ns.drop (2 + n)).take n).map tickOf).map ovO)) hT2
          have k2 : TD K (upd H5 T2 (.tup ((((ns.drop (2 + n)).take n).map tickOf).map ovO))) (.ref T2) (.tuple ((((ns.drop (2 + n)).take n).map tickOf).map oD)) := TD.new hT2 (TDs.ovs _)
          have hS6 := Same.tup s6 (Same.tup s5 hS4)
          have k1'' := (k1'.same s5).same s6
          generalize upd H5 T2 (.tup ((((ns.drop (2 + n)).take n).map tickOf).map ovO)) = H6 at s6 k2 hS6 k1'' ⊢
          wtm_at "jw"
          rw [Int.toNat_natCast]
          intro D3 hD3
          refine l_range (fun i H' => Same H6 H' ∧ LPr H' D3 ((List.range i).map fun k => (ng ns (3 + 2 * n + 2 * k), ng ns (3 + 2 * n + 2 * k + 1)))) ⟨same_new hD3, [], upd_same, .nil⟩ (fun i H' hi h => ?_) (fun H7 h => ?_)
          · obtain ⟨s7, rs, hD7, hw⟩ := h
            have hS7 := Same.tup s7 hS6
            have b1 := ng_at (ns := ns) (j := 3 + 2 * (n : Int) + 2 * (0 + (i : Int))) (i := 3 + 2 * n + 2 * i) (by omega) (by omega)
            have b2 := ng_at (ns := ns) (j := 3 + 2 * (n : Int) + 2 * (0 + (i : Int)) + 1) (i := 3 + 2 * n + 2 * i + 1) (by omega) (by omega)
            wtm_at "jw"
            refine ⟨rfl, ?_⟩
            wtm_at "jw"
            intro u hu
            have hl7 := hw.1
            rw [List.length_map, List.length_range] at hl7
            have hD8 := same_new (o := .tup [V.int (ng ns (3 + 2 * n + 2 * i)), V.int (ng ns (3 + 2 * n + 2 * i + 1))]) hu _ _ hD7
            exact ⟨_, hD8, small1000 (by rw [List.length_map]; omega), put_same (s7.trans (same_new hu)) hD3, by rw [List.range_succ, List.map_append]; exact LPr.add hD7 hw hu⟩
          obtain ⟨s7, rs, hD7, hw⟩ := h
          wtm_at "jw"
          intro T3 hT3
          have s8 := same_new (o := .tup (rs.map V.ref)) hT3
          have k3 : TD K (upd H7 T3 (.tup (rs.map V.ref))) (.ref T3) (.tuple (((List.range m).map fun k => (ng ns (3 + 2 * n + 2 * k), ng ns (3 + 2 * n + 2 * k + 1))).map pD)) := TD.new hT3 hw.tds
          have hS8 := Same.tup s8 (Same.tup s7 hS6)
          have k1a := (k1''.same s7).same s8
          have k2a := (k2.same s7).same s8
          generalize upd H7 T3 (.tup (rs.map V.ref)) = H8 at s8 k3 hS8 k1a k2a ⊢
          have b0 := ng_at (ns := ns) (j := 0) (i := 0) rfl (by omega)
          have b1 := ng_at (ns := ns) (j := 1) (i := 1) rfl (by omega)
          wtm_at "jw"
          intro T4 hT4
          have s9 := same_new (o := .tup [.str "facts", .int (ng ns 0), .int (ng ns 1), .ref T1, .ref T2, .ref T3]) hT4
          have k4 : TD K (upd H8 T4 (.tup [.str "facts", .int (ng ns 0), .int (ng ns 1), .ref T1, .ref T2, .ref T3])) (.ref T4) (factsD (ng ns 0) (ng ns 1) (((ns.drop 2).take n).map tickOf) (((ns.drop (2 + n)).take n).map tickOf) ((List.range m).map fun k => (ng ns (3 + 2 * n + 2 * k), ng ns (3 + 2 * n + 2 * k + 1)))) :=
            TD.new hT4 (.cons (.str _) (.cons (.int _) (.cons (.int _) (.cons k1a (.cons k2a (.cons k3 .nil))))))
          have hS9 := Same.tup s9 hS8
          generalize upd H8 T4 (.tup [.str "facts", .int (ng ns 0), .int (ng ns 1), .ref T1, .ref T2, .ref T3]) = H9 at s9 k4 hS9 ⊢
          wtm_at "jw"
          refine i_slA hS9 fun r3 H10 s10 hr3 => ?_
          rw [cut_from (i := 3 + 2 * (n : Int) + 2 * (m : Int)) (a := 3 + 2 * n + 2 * m) (by omega) (by omega)] at hr3
          have k4' := k4.same s10
          wtm_at "jw"
          intro D4 hD4
          refine l_tup (xs := (ns.drop (3 + 2 * n + 2 * m)).map V.int) (fun i H' => Same H10 H' ∧ H' D4 = some (.lst ((((ns.drop (3 + 2 * n + 2 * m)).take i).map fun z => z - 32768).map V.int))) ⟨same_new hD4, upd_same⟩ (fun i H' _ h => Same.tup h.1 hr3) (fun i z H' hi h => ?_) (fun H11 h => ?_)
          · obtain ⟨s2, hD2⟩ := h
            obtain ⟨z, rfl, ez, ez2, hlt⟩ := ints_at hi
            rw [List.length_drop] at hlt
            wtm_at "jw"
            refine ⟨rfl, ?_⟩
            wtm_at "jw"
            exact ⟨_, hD2, small1000 (by rw [List.length_map, List.length_map, List.length_take, List.length_drop]; omega), put_same s2 hD4, by rw [upd_same, ez2, List.map_append, List.map_append]; rfl⟩
          obtain ⟨s11, hD11⟩ := h
          rw [List.length_map, List.take_length] at hD11
          wtm_at "jw"
          intro T5 hT5
          have s12 := same_new (o := .tup (((ns.drop (3 + 2 * n + 2 * m)).map fun z => z - 32768).map V.int)) hT5
          have k5 : TD K (upd H11 T5 (.tup (((ns.drop (3 + 2 * n + 2 * m)).map fun z => z - 32768).map V.int))) (.ref T5) (.tuple (((ns.drop (3 + 2 * n + 2 * m)).map fun z => z - 32768).map PyData.int)) := TD.new hT5 (TDs.ints _)
          have k4'' := (k4'.same s11).same s12
          generalize upd H11 T5 (.tup (((ns.drop (3 + 2 * n + 2 * m)).map fun z => z - 32768).map V.int)) = H12 at s12 k5 k4'' ⊢
          wtm_at "jw"
          intro W hW
          refine q _ _ (((((((((((s1.trans s2).trans s3).trans s4).trans s5).trans s6).trans s7).trans s8).trans s9).trans s10).trans s11).trans (s12.trans (same_new hW))) ?_
          exact TD.new hW (.cons k4'' (.cons k5 .nil))
    · refine ⟨v, 0, 65536, rfl, .inl ⟨d, hv, ?_⟩⟩
      rw [hd]
      wtm_at "jw"
      exact q
    · refine ⟨_, 0, 65536, rfl, .inr ⟨a, xs, rfl, ha, ?_⟩⟩
      wtm_at "jw"
      exact q
def sp__law_row_of (K : PySem.W.Frag) : Sp := sp_parcel_of K
theorem ok__law_row_of {P : Program} {w : World} {K : PySem.W.Frag} {mg : Str → Option Value} {base : Heap} {f : Addr} {fd : FuncData} (F : Df K mg "_law_row_of" s__law_row_of f fd ["facts", "state"]) (T : Txt mg) : FnOk P w K mg base CX0 1 f fd ["facts", "state"] (sp__law_row_of K) := by
  refine F.ok sc__law_row_of (fun vs H Q E h => ?_) (fun cdv A outer s H vs Q E hr h => ?_)
  · obtain ⟨x, y, t, f, en, go, ps, st, rfl, _⟩ := h
    rfl
  · obtain ⟨x, y, t, f, en, go, ps, st, rfl, hx, hy, le, lg, lp, ls, q⟩ := h
    rw [enc_eq] at q
    refine ⟨_, (pss_cons (ps_setLc (i := 2) (own := [("tick", 3)]) (g := gName 3) (tt := tYes) rfl sc__law_row_of.nd rfl rfl (sw_true rfl rfl rfl (by decide +kernel)) (pi_tup (pe_op (r := rCatA K) op_catA (pe_ix (r := rIxT K) ix_tup (pv 0) pe_int (fun _ _ => rfl)) (pe_ix (r := rIxT K) ix_tup (pv 0) pe_int (fun _ _ => rfl)))) (blkOk_by (own := [("tick", 3)]) (N := N__law_row_of) (sc := defScope s__law_row_of) (by decide +kernel)) (fun _ _ _ _ _ => (pg_name (i := 3) sc__law_row_of.nd rfl (Or.inl rfl))) (fun _ _ _ _ _ => pts_nil) (fun _ _ _ _ _ => (pe_ifExp (pt_cmpR o_isN (pv 3) pe_non (nomark _)) pe_int (pe_op op_add (pv 3) pe_int))))
      (pss_cons (ps_set (i := 4) sc__law_row_of.nd rfl (Or.inl rfl) (pe_op op_cat (pe_op op_cat (pe_lst (pa_cons (pe_ix (r := rIxT K) ix_tup (pv 0) pe_int (fun _ _ => rfl)) (pa_cons (pe_ix (r := rIxT K) ix_tup (pv 0) pe_int (fun _ _ => rfl)) pa_nil))) (pv 2)) (pe_lst (pa_cons (pe_callB (id := "len") (r := qLen K) c_len (by rfl) T.b_len (by decide +kernel) (pa_cons (pe_ix (r := rIxT K) ix_tup (pv 0) pe_int (fun _ _ => rfl)) pa_nil)) pa_nil))))
      (pss_cons (ps_for PassesOwn.never rfl (pi_tup (pe_ix (r := rIxT K) ix_tup (pv 0) pe_int (fun _ _ => rfl))) (pg_tupK (K := K) rfl rfl (pgs_cons (pg_name (i := 3) sc__law_row_of.nd rfl (Or.inl rfl)) (pgs_cons (pg_name (i := 5) sc__law_row_of.nd rfl (Or.inl rfl)) pgs_nil))) (pss_one (ps_set (i := 4) sc__law_row_of.nd rfl (Or.inl rfl) (pe_op op_cat (pv 4) (pe_lst (pa_cons (pv 3) (pa_cons (pv 5) pa_nil)))))))
      (pss_one (ps_ret (pe_callTy (T := "tuple") (r := rTupOf K) c_tup (by rfl) T.b_tuple (by decide +kernel) (pa_cons (pe_op op_cat (pv 4) (pe_lc (own := [("entry", 6)]) (g := gName 6) (tt := tYes) rfl sc__law_row_of.nd (pi_tup (pv 1)) (blkOk_by (own := [("entry", 6)]) (N := N__law_row_of) (sc := defScope s__law_row_of) (by decide +kernel)) (fun _ _ _ _ _ => (pg_name (i := 6) sc__law_row_of.nd rfl (Or.inl rfl))) (fun _ _ _ _ _ => pts_nil) (fun _ _ _ _ _ => (pe_op op_add (pv 6) pe_int)))) pa_nil))))))), ?_⟩
    try dsimp only [cxOf, Cx.nox, Cx.wish]
    refine st_of (σ' := [some _, some _, none, none, none, none, none]) rfl ?_
    wtm_at "jw"
    rename_i x3 hx3 x4 hx4
    obtain ⟨a3, xs3, rfl, hS3, hT3⟩ := hx3.tup_inv
    obtain ⟨a4, xs4, rfl, hS4, hT4⟩ := hx4.tup_inv
    have exs3 := hT3.ovs_inv
    subst exs3
    have exs4 := hT4.ovs_inv
    subst exs4
    refine i_catA hS3 hS4 (by rw [List.length_map, List.length_map, sizeLine_eq]; omega) fun r1 H1 s1 hr1 => ?_
    have s1' : Same H H1 := s1
    rw [← List.map_append] at hr1
    wtm_at "jw"
    intro D hD
    refine l_tup (xs := (en ++ go).map ovO) (fun i H' => Same H1 H' ∧ H' D = some (.lst ((((en ++ go).take i).map tn).map V.int))) ⟨same_new hD, upd_same⟩ (fun i H' _ h => Same.tup h.1 hr1) (fun i z H' hi h => ?_) (fun H2 h => ?_)
    · obtain ⟨s2, hD2⟩ := h
      rw [List.getElem?_map] at hi
      obtain ⟨o, ho, rfl⟩ : ∃ o, (en ++ go)[i]? = some o ∧ z = ovO o := by
        cases e : (en ++ go)[i]? with
        | none => rw [e] at hi; cases hi
        | some o => rw [e] at hi; exact ⟨o, rfl, (Option.some.inj hi).symm⟩
      have hsz : ((((en ++ go).take i).map tn).map V.int).length < sizeLine := small1000 (by rw [List.length_map, List.length_map, List.length_take, List.length_append]; omega)
      wtm_at "jw"
      refine ⟨rfl, ?_⟩
      cases o with
      | none =>
        unfold ovO
        wtm_at "jw"
        refine c_yes rfl ?_
        wtm_at "jw"
        exact ⟨_, hD2, hsz, put_same s2 hD, by rw [upd_same, List.take_add_one, ho, List.map_append, List.map_append]; rfl⟩
      | some w =>
        unfold ovO
        wtm_at "jw"
        refine c_no (fun h => by cases h) ?_
        wtm_at "jw"
        exact ⟨_, hD2, hsz, put_same s2 hD, by rw [upd_same, List.take_add_one, ho, List.map_append, List.map_append]; rfl⟩
    obtain ⟨s2, hD2⟩ := h
    rw [List.length_map, List.take_length] at hD2
    have hx2 := hx.same (s1'.trans s2)
    wtm_at "jw"
    intro B hB
    have s3 := same_new (o := .lst [.int t, .int f]) hB
    have hB3 : upd H2 B (.lst [.int t, .int f]) B = some (.lst (([t, f] : List Int).map V.int)) := upd_same
    have hD3 := s3 _ _ hD2
    have hx3 := hx2.same s3
    generalize upd H2 B (.lst [.int t, .int f]) = H3 at s3 hB3 hD3 hx3 ⊢
    wtm_at "jw"
    refine i_cat' hB3 hD3 (by simp; omega) fun C H4 s4 nC hC4 => ?_
    rw [← List.map_append] at hC4
    have s4' : Same H3 H4 := s4
    have hx4 := hx3.same s4'
    wtm_at "jw"
    rw [List.length_map]
    intro B2 hB2
    have s5 := same_new (o := .lst [.int (ps.length : Nat)]) hB2
    have hB5 : upd H4 B2 (.lst [.int (ps.length : Nat)]) B2 = some (.lst (([(ps.length : Int)] : List Int).map V.int)) := upd_same
    have hC5 := s5 _ _ hC4
    generalize upd H4 B2 (.lst [.int (ps.length : Nat)]) = H5 at s5 hB5 hC5 ⊢
    wtm_at "jw"
    refine i_cat' hC5 hB5 (by simp; omega) fun C2 H6 s6 nC2 hC6 => ?_
    rw [← List.map_append] at hC6
    have s06 : Same H H6 := (((((s1'.trans s2).trans s3).trans s4').trans s5).trans s6)
    have hx6 := hx.same s06
    have hC6' : H6 C2 = some (.lst (([t, f] ++ en.map tn ++ go.map tn ++ [(ps.length : Int)] ++ flat (ps.take 0)).map V.int)) := by rw [hC6]; simp [flat]
    wtm_at "jw"
    refine i_isTD (by assumption) fun a5 xs5 ea5 hS5 hT5 => ?_
    refine f_tup (xs := xs5) (fun i σ H' => Same H6 H' ∧ ∃ (C : Addr) (v2 v3 v4 v5 v6 : Option V), H' C = some (.lst (([t, f] ++ en.map tn ++ go.map tn ++ [(ps.length : Int)] ++ flat (ps.take i)).map V.int)) ∧ σ = [some x, some y, v2, v3, some (.ref C), v5, v6])
      ⟨Same.refl _, C2, _, none, none, _, _, hC6', rfl⟩ (fun i σ H' _ h => Same.tup h.1 hS5) (fun i z σ H' hi h => ?_) (fun σ H' h => ?_)
    · obtain ⟨s7, C, v2, v3, v4, v5, v6, hC7, rfl⟩ := h
      obtain ⟨p, ep, hz, etk, hlt⟩ := (hT5.same s7).pair_at hi
      have fl := flat_len (ps.take i)
      rw [List.length_take] at fl
      wtm_at "jw"
      intro B3 hB3
      have s8 := same_new (o := .lst [.int p.1, .int p.2]) hB3
      have hB8 : upd H' B3 (.lst [.int p.1, .int p.2]) B3 = some (.lst (([p.1, p.2] : List Int).map V.int)) := upd_same
      have hC8 := s8 _ _ hC7
      generalize upd H' B3 (.lst [.int p.1, .int p.2]) = H8 at s8 hB8 hC8 ⊢
      wtm_at "jw"
      refine i_cat' hC8 hB8 (by rw [List.length_map, List.length_append, fl]; simp; omega) fun C3 H9 s9 nC3 hC9 => ?_
      wtm_at "jw"
      refine ⟨(s7.trans s8).trans s9, C3, _, _, none, _, _, ?_, rfl⟩
      rw [hC9, etk, flat_snoc]
      simp
    · obtain ⟨s7, C, v2, v3, v4, v5, v6, hC7, rfl⟩ := h
      rw [hT5.len, List.length_map, List.take_length] at hC7
      have hy7 := hy.same (s06.trans s7)
      obtain ⟨ya, ys, rfl, hyS, hyT⟩ := hy7.tup_inv
      rw [hyT.ints_inv] at hyS
      wtm_at "jw"
      intro D3 hD3
      refine l_tup (xs := st.map V.int) (fun i H8 => Same H' H8 ∧ H8 D3 = some (.lst (((st.take i).map fun z => z + 32768).map V.int))) ⟨same_new hD3, upd_same⟩ (fun i H' _ h => Same.tup h.1 hyS) (fun i z H8 hi h => ?_) (fun H8 h => ?_)
      · obtain ⟨s2, hD2⟩ := h
        obtain ⟨z, rfl, ez, ez2, hlt⟩ := ints_at hi
        wtm_at "jw"
        refine ⟨rfl, ?_⟩
        wtm_at "jw"
        exact ⟨_, hD2, small1000 (by rw [List.length_map, List.length_map, List.length_take]; omega), put_same s2 hD3, by rw [upd_same, ez2, List.map_append, List.map_append]; rfl⟩
      obtain ⟨s8, hD8⟩ := h
      rw [List.length_map, List.take_length] at hD8
      have hC8 := s8 _ _ hC7
      have fl := flat_len ps
      wtm_at "jw"
      refine i_cat' hC8 hD8 (by rw [List.length_map, List.length_append, fl]; simp; omega) fun C3 H9 s9 nC3 hC9 => ?_
      rw [← List.map_append] at hC9
      wtm_at "jw"
      intro W hW
      exact q _ _ (((s06.trans s7).trans s8).trans (Same.trans s9 (same_new hW))) (TD.new hW (TDs.ints _))
def sp__law_is_same (K : PySem.W.Frag) : Sp := fun vs H Q _ => ∃ (x y : V) (d : PyData) (n m w : Nat), vs = [x, y] ∧ TD K H x d ∧ TD K H y d ∧ Shp n d ∧ n ≤ 20 ∧ Rp m w d ∧ m ≤ 20 ∧ w ≤ 1000000 ∧ (∃ ds, d = .tuple ds) ∧ Q (.bl true) H
theorem ok__law_is_same {P : Program} {w : World} {K : PySem.W.Frag} {mg : Str → Option Value} {base : Heap} {f : Addr} {fd : FuncData} (F : Df K mg "_law_is_same" s__law_is_same f fd ["told", "due"]) (T : Txt mg) : Gok P w K mg base 1 f fd ["told", "due"] (sp__law_is_same K) := by
  refine F.gok sc__law_is_same (fun vs H Q E h => ?_) (fun cdv A outer s H vs Q E hr hG h => ?_)
  · obtain ⟨x, y, d, n, m, w, rfl, _⟩ := h
    rfl
  · obtain ⟨x, y, d, n, m, w, rfl, hx, hy, sh, n20, rp, m20, w1, ht, q⟩ := h
    refine ⟨_, (pss_one (ps_ret (pe_and (pe_cmpR (r := rEqD K) (op_eqD hr.units) (pv 0) (pv 1) (nomark _)) (pe_one (pe_cmpR op_eq (pe_callB (id := "repr") (r := rReprD K) (c_reprD hG hr.units) (by rfl) T.b_repr (by decide +kernel) (pa_cons (pv 0) pa_nil)) (pe_callB (id := "repr") (r := rReprD K) (c_reprD hG hr.units) (by rfl) T.b_repr (by decide +kernel) (pa_cons (pv 1) pa_nil)) (nomark _)))))), ?_⟩
    try dsimp only [cxOf, Cx.nox, Cx.wish]
    refine st_of (σ' := [some _, some _]) rfl ?_
    wtm_at "jw"
    refine i_eqS' hx.dp hy.dp sh (by omega) ?_
    wtm_at "jw"
    refine i_reprS hx.dp rp m20 w1 ht fun r1 er1 => ?_
    wtm_at "jw"
    refine i_reprS hy.dp rp m20 w1 ht fun r2 er2 => ?_
    wtm_at "jw"
    rw [decide_eq_true (er1.trans er2.symm)]
    exact q
/-- facts and a state as the law draws them -/
structure Gd (s : Nat) (t f : Int) (en go : List (Option Int)) (ps : List (Int × Int)) (st : List Int) : Prop where
  s4 : s ≤ 4
  s1 : 1 ≤ s
  le : en.length = s
  lg : go.length = s
  tt : 0 ≤ t ∧ t ≤ 24
  ff : 0 ≤ f ∧ f ≤ 3
  he : ∀ o ∈ en, ∀ x, o = some x → 0 ≤ x ∧ x ≤ 100
  hg : ∀ o ∈ go, ∀ x, o = some x → 0 ≤ x ∧ x ≤ 100
  hp : ∀ p ∈ ps, (0 ≤ p.1 ∧ p.1 ≤ 200) ∧ 0 ≤ p.2 ∧ p.2 ≤ 20
  lp : ps.length ≤ 20
  l2 : 2 ≤ st.length
  l44 : st.length ≤ 44
  hs : ∀ z ∈ st, -32768 ≤ z ∧ z ≤ 32767
theorem flat_in {lo hi : Int} : ∀ {ps : List (Int × Int)}, (∀ p ∈ ps, (lo ≤ p.1 ∧ p.1 ≤ hi) ∧ lo ≤ p.2 ∧ p.2 ≤ hi) → ∀ z ∈ flat ps, lo ≤ z ∧ z ≤ hi
  | [], _, z, h => by cases h
  | p :: r, hp, z, h => by
    have h0 := hp p List.mem_cons_self
    rcases List.mem_cons.mp h with rfl | h
    · exact h0.1
    · rcases List.mem_cons.mp h with rfl | h
      · exact h0.2
      · exact flat_in (fun q hq => hp q (List.mem_cons_of_mem _ hq)) z h
section
variable {s : Nat} {t f : Int} {en go : List (Option Int)} {ps : List (Int × Int)} {st : List Int}
theorem Gd.row (G : Gd s t f en go ps st) : ∀ z ∈ enc t f en go ps st, 0 ≤ z ∧ z ≤ 65536 := by
  intro z hz
  have tnB : ∀ os : List (Option Int), (∀ o ∈ os, ∀ x, o = some x → 0 ≤ x ∧ x ≤ 100) → ∀ z ∈ os.map tn, 0 ≤ z ∧ z ≤ 65536 := fun os h z hz => by
    obtain ⟨o, ho, rfl⟩ := List.mem_map.mp hz
    cases o with
    | none => exact ⟨by decide, by decide⟩
    | some x =>
      have := h _ ho x rfl
      show 0 ≤ x + 1 ∧ x + 1 ≤ 65536
      omega
  have := G.tt; have := G.ff; have := G.lp
  unfold enc at hz
  rcases List.mem_cons.mp hz with rfl | hz
  · omega
  rcases List.mem_cons.mp hz with rfl | hz
  · omega
  rcases List.mem_append.mp hz with hz | hz
  · exact tnB _ G.he z hz
  rcases List.mem_append.mp hz with hz | hz
  · exact tnB _ G.hg z hz
  rcases List.mem_cons.mp hz with rfl | hz
  · omega
  rcases List.mem_append.mp hz with hz | hz
  · have := flat_in (lo := 0) (hi := 200) (fun p hp => by have := G.hp p hp; omega) z hz
    omega
  · obtain ⟨y, hy, rfl⟩ := List.mem_map.mp hz
    have := G.hs y hy
    omega
theorem Gd.len (G : Gd s t f en go ps st) : (enc t f en go ps st).length = 3 + 2 * s + 2 * ps.length + st.length := by
  rw [enc_len, G.le, G.lg]; omega
theorem Gd.e0 (G : Gd s t f en go ps st) : ∀ o ∈ en, ∀ x, o = some x → 0 ≤ x := fun o h x e => (G.he o h x e).1
theorem Gd.g0 (G : Gd s t f en go ps st) : ∀ o ∈ go, ∀ x, o = some x → 0 ≤ x := fun o h x e => (G.hg o h x e).1
theorem Gd.rp (G : Gd s t f en go ps st) {n : Nat} : Rp 4 300000 (pclD (t, f, en, go, ps, st.take n)) := by
  have := G.tt; have := G.ff; have := G.lp; have := G.s4
  have h1 : Rp 3 120006 (factsD t f en go ps) := rp_facts (by omega) (by omega) (fun o ho => by
      cases o with
      | none => exact True.intro
      | some x => have := G.he _ ho x rfl; show x.natAbs < _; omega) (fun o ho => by
      cases o with
      | none => exact True.intro
      | some x => have := G.hg _ ho x rfl; show x.natAbs < _; omega) (fun p hp => by have := G.hp p hp; omega) (by rw [G.le]; omega) (by rw [G.lg]; omega) (by omega)
  have h2 : Rp 1 5000 (.tuple ((st.take n).map PyData.int)) := rp_ints (fun z hz => by have := G.hs z (List.mem_of_mem_take hz); omega) (by rw [List.length_take]; have := G.l44; omega)
  refine (Rp.tup (n := 3) (w := 120006) (ds := [factsD t f en go ps, .tuple ((st.take n).map PyData.int)]) ?_).mono (Nat.le_refl _) (by simp)
  simp only [List.forall_mem_cons]
  exact ⟨h1, h2.mono (by decide) (by decide), by simp⟩
theorem shp_pcl : Shp 4 (pclD (t, f, en, go, ps, st)) := by
  refine Shp.tup (ds := [factsD t f en go ps, .tuple (st.map PyData.int)]) ?_
  simp only [List.forall_mem_cons]
  exact ⟨shp_facts _ _ _ _ _, (shp_ints _).mono (by decide), by simp⟩
end
def sp__law_is_cut_right (K : PySem.W.Frag) : Sp := fun vs H Q _ => ∃ (x y z : V) (s size : Nat) (t f : Int) (en go : List (Option Int)) (ps : List (Int × Int)) (st : List Int), vs = [x, .int (s : Int), y, z, .int (size : Int)] ∧ Gd s t f en go ps st ∧ TD K H x (.tuple ((enc t f en go ps st).map PyData.int)) ∧ TD K H y (factsD t f en go ps) ∧ TD K H z (.tuple (st.map PyData.int)) ∧
  size ≤ (enc t f en go ps st).length ∧ ∀ H', Same H H' → Q (.bl true) H'
theorem ok__law_is_cut_right {P : Program} {w : World} {K : PySem.W.Frag} {mg : Str → Option Value} {base : Heap} {f : Addr} {fd : FuncData} (F : Df K mg "_law_is_cut_right" s__law_is_cut_right f fd ["row", "seats", "facts", "state", "size"]) (T : Txt mg)
    (c_opened_parcel : Cl P w K mg base 4 "opened_parcel" (sp_opened_parcel K))
    (c__law_is_same : Cg P w K mg base 1 "_law_is_same" (sp__law_is_same K)) : Gok P w K mg base 5 f fd ["row", "seats", "facts", "state", "size"] (sp__law_is_cut_right K) := by
  refine F.gok sc__law_is_cut_right (fun vs H Q E h => ?_) (fun cdv A outer s H vs Q E hr hG h => ?_)
  · obtain ⟨x, y, z, s, size, t, f, en, go, ps, st, rfl, _⟩ := h
    rfl
  · obtain ⟨x, y, z, n, size, t, f, en, go, ps, st, rfl, G, hx, hy, hz, hsz, q⟩ := h
    have hlen := G.len
    have hs4 := G.s4
    have hlp := G.lp
    have hl2 := G.l2
    have hl44 := G.l44
    obtain ⟨xa, xs, rfl, hxS, hxT⟩ := hx.tup_inv
    rw [hxT.ints_inv] at hxS
    obtain ⟨za, zs, rfl, hzS, hzT⟩ := hz.tup_inv
    rw [hzT.ints_inv] at hzS
    have op := open_cut (t := t) (f := f) G.le G.lg G.e0 G.g0 hsz
    refine ⟨_, (pss_cons (ps_set (i := 5) sc__law_is_cut_right.nd rfl (Or.inl rfl) (pe_op op_add (pe_op op_sub (pe_callB (id := "len") (r := qLen K) c_len (by rfl) T.b_len (by decide +kernel) (pa_cons (pv 0) pa_nil)) (pe_callB (id := "len") (r := qLen K) c_len (by rfl) T.b_len (by decide +kernel) (pa_cons (pv 3) pa_nil))) pe_int))
      (pss_cons (ps_set (i := 6) sc__law_is_cut_right.nd rfl (Or.inl rfl) (pe_cl c_opened_parcel hr (by decide) rfl (pa_cons (pe_slice (r := rSlQ K) sl_tupQ (pv 0) po_none (po_some (pv 4))) (pa_cons (pv 1) pa_nil))))
      (pss_cons (ps_if (pt_cmpR op_lt (pv 4) (pv 5) (nomark _)) (pss_one (ps_ret (pe_cmpR o_isN (pv 6) pe_non (nomark _)))) pss_nil)
      (pss_one (ps_ret (pe_cg c__law_is_same hr hG (by decide) rfl (pa_cons (pv 6) (pa_cons (pe_tup (pa_cons (pv 2) (pa_cons (pe_slice (r := rSlQ K) sl_tupQ (pv 3) po_none (po_some (pe_op op_add (pe_op op_sub (pv 4) (pv 5)) pe_int))) pa_nil))) pa_nil)))))))), ?_⟩
    try dsimp only [cxOf, Cx.nox, Cx.wish]
    refine st_of (σ' := [some _, some _, some _, some _, some _, none, none]) rfl ?_
    wtm_at "jw"
    rw [List.length_map, List.length_map, hlen]
    refine i_slA hxS fun r1 H1 s1 hr1 => ?_
    rw [cut_to (j := (size : Int)) rfl hsz] at hr1
    have hzS1 := Same.tup s1 hzS
    have hy1 := hy.same s1
    wtm_at "jw"
    refine ⟨.ref r1, n, rfl, by omega, .inl ⟨(enc t f en go ps st).take size, .tup hr1 (TDs.ints _), fun z hz => G.row z (List.mem_of_mem_take hz), by rw [List.length_take]; omega, fun r H2 s2 hr2 => ?_⟩⟩
    rw [op] at hr2
    have hzS2 := Same.tup s2 hzS1
    have hy2 := hy1.same s2
    wtm_at "jw"
    refine c_dec (fun h => ?_) (fun h => ?_)
    · rw [if_pos (by omega)] at hr2
      obtain rfl : r = .non := hr2
      wtm_at "jw"
      exact q _ (s1.trans s2)
    · rw [if_neg (by omega)] at hr2
      have hr2' : TD K H2 r (pclD (t, f, en, go, ps, st.take (size - (3 + 2 * n + 2 * ps.length)))) := hr2
      wtm_at "jw"
      refine i_slA hzS2 fun r3 H3 s3 hr3 => ?_
      rw [cut_to (j := (size : Int) - (((3 + 2 * n + 2 * ps.length + st.length : Nat) : Int) - (st.length : Int) + 2) + 2) (b := size - (3 + 2 * n + 2 * ps.length)) (by omega) (by omega)] at hr3
      have hy3 := hy2.same s3
      wtm_at "jw"
      intro W hW
      have s4 := same_new (o := .tup [y, .ref r3]) hW
      have hdue : TD K (upd H3 W (.tup [y, .ref r3])) (.ref W) (pclD (t, f, en, go, ps, st.take (size - (3 + 2 * n + 2 * ps.length)))) := TD.new hW (.cons hy3 (.cons (.tup hr3 (TDs.ints _)) .nil))
      wtm_at "jw"
      refine ⟨r, .ref W, _, 4, 4, 300000, rfl, (hr2'.same s3).same s4, hdue, shp_pcl, by decide, G.rp, by decide, by decide, ⟨_, rfl⟩, ?_⟩
      exact q _ (((s1.trans s2).trans s3).trans s4)
/-! ### what is refused -/
def Bad (K : PySem.W.Frag) (H : Hp) (v : V) : Prop := (∃ d, TD K H v d ∧ okD 0 65536 d = false) ∨ (∃ a xs, v = .ref a ∧ H a = some (.lst xs)) ∨ TD K H v (.tuple [])
theorem Bad.same {K : PySem.W.Frag} {H H' : Hp} {v : V} (s : Same H H') (h : Bad K H v) : Bad K H' v := by
  rcases h with ⟨d, a, b⟩ | ⟨a, xs, e, b⟩ | h
  · exact .inl ⟨d, a.same s, b⟩
  · exact .inr (.inl ⟨a, xs, e, s _ _ b⟩)
  · exact .inr (.inr (h.same s))
theorem badL {K : PySem.W.Frag} {H : Hp} {v : V} {Q : VK} {E : XK} {s : Nat} (h : Bad K H v) (hs : s ≤ 10) (q : ∀ H', Same H H' → Q .non H') : sp_opened_parcel K [v, .int (s : Int)] H Q E := by
  refine ⟨v, s, rfl, hs, ?_⟩
  rcases h with ⟨d, a, b⟩ | ⟨a, xs, e, b⟩ | h
  · exact .inr (.inl ⟨d, a, b, q _ (Same.refl _)⟩)
  · exact .inr (.inr ⟨a, xs, e, b, q _ (Same.refl _)⟩)
  · refine .inl ⟨[], h, by simp, by simp, fun r H' s' hr => ?_⟩
    unfold openN at hr
    rw [if_pos (by simp; omega)] at hr
    obtain rfl : r = .non := hr
    exact q _ s'
theorem bad_row {ns : List Int} {i : Nat} {d : PyData} (h : okI 0 65536 d = false) : okD 0 65536 (.tuple ((ns.take i).map PyData.int ++ [d] ++ (ns.drop (i + 1)).map PyData.int)) = false := by
  show List.all _ _ = false
  rw [List.all_append, List.all_append]
  simp [h]
def sp__law_is_refused (K : PySem.W.Frag) : Sp := fun vs H Q _ => ∃ (p a : Addr) (x : V) (s : Nat) (t f : Int) (en go : List (Option Int)) (ps : List (Int × Int)) (st : List Int), vs = [.ref p, x, .int (s : Int)] ∧ DrawAt H p a ∧ Gd s t f en go ps st ∧ TD K H x (.tuple ((enc t f en go ps st).map PyData.int)) ∧
  ∀ H', Drew p a H H' → Q (.bl true) H'
theorem ok__law_is_refused {P : Program} {w : World} {K : PySem.W.Frag} {mg : Str → Option Value} {base : Heap} {f : Addr} {fd : FuncData} (F : Df K mg "_law_is_refused" s__law_is_refused f fd ["d", "row", "seats"]) (T : Txt mg)
    (c__law_pick : Cl P w K mg base 2 "_law_pick" (sp__law_pick K))
    (c__law_draw : Cl P w K mg base 1 "_law_draw" (sp__law_draw K))
    (c_opened_parcel : Cl P w K mg base 4 "opened_parcel" (sp_opened_parcel K)) : FnOk P w K mg base CX0 5 f fd ["d", "row", "seats"] (sp__law_is_refused K) := by
  refine F.ok sc__law_is_refused (fun vs H Q E h => ?_) (fun cdv A outer s H vs Q E hr h => ?_)
  · obtain ⟨p, a, x, s, t, f, en, go, ps, st, rfl, _⟩ := h
    rfl
  · obtain ⟨p, a, x, n, t, f, en, go, ps, st, rfl, d0, G, hx, q⟩ := h
    have hlen := G.len
    have hs4 := G.s4
    have hs1 := G.s1
    have hlp := G.lp
    have hl2 := G.l2
    have hl44 := G.l44
    have hrow := G.row
    obtain ⟨xa, xs, rfl, hxS, hxT⟩ := hx.tup_inv
    rw [hxT.ints_inv] at hxS
    clear hx hxT
    generalize enc t f en go ps st = ns at hlen hrow hxS
    have w0 := d0.drew
    refine ⟨_, (pss_cons (ps_set (i := 3) sc__law_is_refused.nd rfl (Or.inl rfl) (pe_op op_add pe_int (pe_op op_mul pe_int (pv 2))))
      (pss_cons (ps_set (i := 4) sc__law_is_refused.nd rfl (Or.inl rfl) (pe_op op_fdiv (pe_op op_sub (pe_op op_sub (pe_callB (id := "len") (r := qLen K) c_len (by rfl) T.b_len (by decide +kernel) (pa_cons (pv 1) pa_nil)) (pv 3)) pe_int) pe_int))
      (pss_cons (ps_for PassesOwn.never rfl (pi_list (pe_lst (pa_cons (pe_op op_add (pv 4) pe_int) (pa_cons (pe_op op_add (pe_op op_add (pv 4) pe_int) (pe_cl c__law_draw hr (by decide) rfl (pa_cons (pv 0) (pa_cons pe_int pa_nil)))) (pa_cons pe_int pa_nil))))) (pg_name (i := 5) sc__law_is_refused.nd rfl (Or.inl rfl)) (pss_one (ps_if (pt_cmpR o_notN (pe_cl c_opened_parcel hr (by decide) rfl (pa_cons (pe_op (r := rCatA K) op_catA (pe_op (r := rCatA K) op_catA (pe_slice (r := rSlQ K) sl_tupQ (pv 1) po_none (po_some (pe_op op_sub (pv 3) pe_int))) (pe_tup (pa_cons (pv 5) pa_nil))) (pe_slice (r := rSlQ K) sl_tupQ (pv 1) (po_some (pv 3)) po_none)) (pa_cons (pv 2) pa_nil))) pe_non (nomark _)) (pss_one (ps_ret pe_bl)) pss_nil)))
      (pss_cons (ps_set (i := 6) sc__law_is_refused.nd rfl (Or.inl rfl) (pe_cl c__law_pick hr (by decide) rfl (pa_cons (pv 0) (pa_cons (pe_lst (pa_cons pe_int (pa_cons pe_int (pa_cons (pe_op op_sub (pv 3) pe_int) (pa_cons (pv 3) (pa_cons (pe_op op_sub (pe_callB (id := "len") (r := qLen K) c_len (by rfl) T.b_len (by decide +kernel) (pa_cons (pv 1) pa_nil)) pe_int) (pa_cons (pe_cl c__law_draw hr (by decide) rfl (pa_cons (pv 0) (pa_cons (pe_callB (id := "len") (r := qLen K) c_len (by rfl) T.b_len (by decide +kernel) (pa_cons (pv 1) pa_nil)) pa_nil))) pa_nil))))))) pa_nil))))
      (pss_cons (ps_for PassesOwn.never rfl (pi_list (pe_lst (pa_cons (pe_un un_neg pe_int) (pa_cons (pe_op op_sub (pe_un un_neg pe_int) (pe_cl c__law_draw hr (by decide) rfl (pa_cons (pv 0) (pa_cons pe_int pa_nil)))) (pa_cons pe_int (pa_cons (pe_op op_add pe_int (pe_cl c__law_draw hr (by decide) rfl (pa_cons (pv 0) (pa_cons pe_int pa_nil)))) pa_nil)))))) (pg_name (i := 7) sc__law_is_refused.nd rfl (Or.inl rfl)) (pss_one (ps_if (pt_cmpR o_notN (pe_cl c_opened_parcel hr (by decide) rfl (pa_cons (pe_op (r := rCatA K) op_catA (pe_op (r := rCatA K) op_catA (pe_slice (r := rSlQ K) sl_tupQ (pv 1) po_none (po_some (pv 6))) (pe_tup (pa_cons (pv 7) pa_nil))) (pe_slice (r := rSlQ K) sl_tupQ (pv 1) (po_some (pe_op op_add (pv 6) pe_int)) po_none)) (pa_cons (pv 2) pa_nil))) pe_non (nomark _)) (pss_one (ps_ret pe_bl)) pss_nil)))
      (pss_cons (ps_for PassesOwn.never rfl (pi_list (pe_lst (pa_cons pe_non (pa_cons pe_str (pa_cons (pe_tup pa_nil) (pa_cons (pe_tup (pa_cons pe_int pa_nil)) pa_nil)))))) (pg_name (i := 8) sc__law_is_refused.nd rfl (Or.inl rfl)) (pss_one (ps_if (pt_cmpR o_notN (pe_cl c_opened_parcel hr (by decide) rfl (pa_cons (pe_op (r := rCatA K) op_catA (pe_op (r := rCatA K) op_catA (pe_slice (r := rSlQ K) sl_tupQ (pv 1) po_none (po_some (pv 6))) (pe_tup (pa_cons (pv 8) pa_nil))) (pe_slice (r := rSlQ K) sl_tupQ (pv 1) (po_some (pe_op op_add (pv 6) pe_int)) po_none)) (pa_cons (pv 2) pa_nil))) pe_non (nomark _)) (pss_one (ps_ret pe_bl)) pss_nil)))
      (pss_cons (ps_for PassesOwn.never rfl (pi_list (pe_lst (pa_cons pe_non (pa_cons (pe_tup pa_nil) (pa_cons pe_str (pa_cons pe_str (pa_cons pe_int (pa_cons (pe_callTy (T := "list") (r := rLstOf K) c_lst (by rfl) T.b_list (by decide +kernel) (pa_cons (pv 1) pa_nil)) (pa_cons (pe_tup (pa_cons (pv 1) pa_nil)) pa_nil))))))))) (pg_name (i := 8) sc__law_is_refused.nd rfl (Or.inl rfl)) (pss_one (ps_if (pt_cmpR o_notN (pe_cl c_opened_parcel hr (by decide) rfl (pa_cons (pv 8) (pa_cons (pv 2) pa_nil))) pe_non (nomark _)) (pss_one (ps_ret pe_bl)) pss_nil)))
      (pss_one (ps_ret pe_bl))))))))), ?_⟩
    try dsimp only [cxOf, Cx.nox, Cx.wish]
    refine st_of (σ' := [some _, some _, some _, none, none, none, none, none, none]) rfl ?_
    wtm_at "jw"
    rw [List.length_map, hlen]
    obtain ⟨mo, hmo⟩ : ∃ m : Int, (((3 + 2 * n + 2 * ps.length + st.length : Nat) : Int) - (3 + 2 * (n : Int)) - 2) / 2 = m := ⟨_, rfl⟩
    have hmo1 : 0 ≤ mo ∧ mo ≤ 100 ∧ ((3 + 2 * n + 2 * ps.length + st.length : Nat) : Int) - (3 + 2 * (n : Int)) - 2 < 2 * (mo + 1) := by omega
    rw [hmo]
    refine drawL w0 (by decide) (by decide) fun z1 H1 z10 z11 e1 w1 => ?_
    have hxS1 := (e1.tps d0).sq hxS
    wtm_at "jw"
    intro L hL
    have w2 := w1.new (o := .lst [.int (mo + 1), .int (mo + 2 + z1), .int 65536]) hL
    have s2 := same_new (o := .lst [.int (mo + 1), .int (mo + 2 + z1), .int 65536]) hL
    have hL2 := upd_same (H := H1) (a := L) (o := .lst [.int (mo + 1), .int (mo + 2 + z1), .int 65536])
    have hxS2 := Same.tup s2 hxS1
    generalize upd H1 L (.lst [.int (mo + 1), .int (mo + 2 + z1), .int 65536]) = H2 at w2 s2 hL2 hxS2 ⊢
    wtm_at "jw"
    refine f_list (xs := [.int (mo + 1), .int (mo + 2 + z1), .int 65536]) (fun i σ H' => Same H2 H' ∧ ∃ v5 v6 v7 v8, σ = [some (.ref p), some (.ref xa), some (.int (n : Int)), some (.int (3 + 2 * (n : Int))), some (.int mo), v5, v6, v7, v8]) ⟨Same.refl _, none, none, none, none, rfl⟩ (fun i σ H' _ h => SqL.of (h.1 _ _ hL2)) (fun i y σ H' hi h => ?_) (fun σ H' h => ?_)
    · obtain ⟨s3, v5, v6, v7, v8, rfl⟩ := h
      have hxS3 := Same.tup s3 hxS2
      obtain ⟨m, rfl, hm0, hm1, hm2⟩ : ∃ m : Int, y = .int m ∧ mo + 1 ≤ m ∧ 0 ≤ m ∧ m ≤ 65536 := by
        have := List.mem_of_getElem? hi
        simp only [List.mem_cons, List.not_mem_nil, or_false] at this
        rcases this with h | h | h
        · exact ⟨_, h, by omega, by omega, by omega⟩
        · exact ⟨_, h, by omega, by omega, by omega⟩
        · exact ⟨_, h, by omega, by omega, by omega⟩
      wtm_at "jw"
      refine i_slA hxS3 fun r1 H4 s4 hr1 => ?_
      rw [cut_to (j := 3 + 2 * (n : Int) - 1) (b := 2 + 2 * n) (by omega) (by omega)] at hr1
      have hxS4 := Same.tup s4 hxS3
      wtm_at "jw"
      intro u hu
      have s5 := same_new (o := .tup [.int m]) hu
      have hu5 : SqT K (upd H4 u (.tup [.int m])) u [.int m] := SqT.of upd_same
      have hr5 := Same.tup s5 hr1
      have hxS5 := Same.tup s5 hxS4
      generalize upd H4 u (.tup [.int m]) = H5 at s5 hu5 hr5 hxS5 ⊢
      wtm_at "jw"
      refine i_catA hr5 hu5 (by rw [List.length_map, List.length_take, sizeLine_eq]; simp; omega) fun r2 H6 s6 hr2 => ?_
      have s6' : Same H5 H6 := s6
      have hxS6 := Same.tup s6' hxS5
      wtm_at "jw"
      refine i_slA hxS6 fun r3 H7 s7 hr3 => ?_
      rw [cut_from (i := 3 + 2 * (n : Int)) (a := 2 + 2 * n + 1) (by omega) (by omega)] at hr3
      have hr2' := Same.tup s7 hr2
      wtm_at "jw"
      refine i_catA hr2' hr3 (by simp only [List.length_append, List.length_map, List.length_take, List.length_drop, sizeLine_eq]; simp; omega) fun r4 H8 s8 hr4 => ?_
      have e4 : (ns.take (2 + 2 * n)).map V.int ++ [V.int m] ++ (ns.drop (2 + 2 * n + 1)).map V.int = (ns.set (2 + 2 * n) m).map V.int := by
        rw [← take_cons_drop (by omega), List.map_append, List.map_append]; rfl
      rw [e4] at hr4
      have op : openN (ns.set (2 + 2 * n) m) n = none := open_many (by omega) (by omega)
      wtm_at "jw"
      refine ⟨.ref r4, n, rfl, by omega, .inl ⟨ns.set (2 + 2 * n) m, .tup hr4 (TDs.ints _), fun z hz => ?_, by rw [List.length_set]; omega, fun r H9 s9 hr9 => ?_⟩⟩
      · rcases List.mem_or_eq_of_mem_set hz with hz | rfl
        · exact hrow z hz
        · exact ⟨hm1, hm2⟩
      · rw [op] at hr9
        obtain rfl : r = .non := hr9
        wtm_at "jw"
        refine c_noN rfl ?_
        wtm_at "jw"
        exact ⟨(((((s3.trans s4).trans s5).trans s6').trans s7).trans s8).trans s9, _, _, _, _, rfl⟩
    obtain ⟨s3, v5, v6, v7, v8, rfl⟩ := h
    have w3 := w2.same s3
    have hxS3 := Same.tup s3 hxS2
    wtm_at "jw"
    rw [List.length_map, hlen]
    refine drawL w3 (by omega) (by omega) fun z2 H4 z20 z21 e4 w4 => ?_
    have hxS4 := (e4.tps w3.at_).sq hxS3
    wtm_at "jw"
    intro B hB
    wtm_at "jw"
    refine pickL (fun z => 0 ≤ z ∧ z < ((3 + 2 * n + 2 * ps.length + st.length : Nat) : Int)) [0, 1, 3 + 2 * (n : Int) - 1, 3 + 2 * (n : Int), ((3 + 2 * n + 2 * ps.length + st.length : Nat) : Int) - 1, z2] w4 hB rfl (by simp) (by simp) (by simp; omega) fun at_ H5 hat e5 w5 => ?_
    have hxS5 := (e5.tps w4.at_).sq hxS4
    obtain ⟨j, rfl⟩ : ∃ j : Nat, at_ = (j : Int) := ⟨at_.toNat, by omega⟩
    have hj : j < ns.length := by omega
    -- a row with one entry replaced is refused
    wtm_at "jw"
    refine drawL w5 (by decide) (by decide) fun z3 H6 z30 z31 e6 w6 => ?_
    have hxS6 := (e6.tps w5.at_).sq hxS5
    wtm_at "jw"
    refine drawL w6 (by decide) (by decide) fun z4 H7 z40 z41 e7 w7 => ?_
    have hxS7 := (e7.tps w6.at_).sq hxS6
    wtm_at "jw"
    intro L2 hL2'
    have w8 := w7.new (o := .lst [.int (-1), .int (-1 - z3), .int 65537, .int (65537 + z4)]) hL2'
    have s8 := same_new (o := .lst [.int (-1), .int (-1 - z3), .int 65537, .int (65537 + z4)]) hL2'
    have hL8 := upd_same (H := H7) (a := L2) (o := .lst [.int (-1), .int (-1 - z3), .int 65537, .int (65537 + z4)])
    have hxS8 := Same.tup s8 hxS7
    generalize upd H7 L2 (.lst [.int (-1), .int (-1 - z3), .int 65537, .int (65537 + z4)]) = H8 at w8 s8 hL8 hxS8 ⊢
    wtm_at "jw"
    refine f_list (xs := [.int (-1), .int (-1 - z3), .int 65537, .int (65537 + z4)]) (fun i σ H' => Same H8 H' ∧ ∃ v5 v7 v8, σ = [some (.ref p), some (.ref xa), some (.int (n : Int)), some (.int (3 + 2 * (n : Int))), some (.int mo), v5, some (.int (j : Int)), v7, v8]) ⟨Same.refl _, _, _, _, rfl⟩ (fun i σ H' _ h => SqL.of (h.1 _ _ hL8)) (fun i y σ H' hi h => ?_) (fun σ H' h => ?_)
    · obtain ⟨s3, v5, v7, v8, rfl⟩ := h
      have hxS3 := Same.tup s3 hxS8
      obtain ⟨m, rfl, hm⟩ : ∃ m : Int, y = .int m ∧ okI 0 65536 (.int m) = false := by
        have := List.mem_of_getElem? hi
        simp only [List.mem_cons, List.not_mem_nil, or_false] at this
        rcases this with h | h | h | h
        · exact ⟨_, h, by simp [okI]⟩
        · exact ⟨_, h, by simp [okI]; omega⟩
        · exact ⟨_, h, by simp [okI]⟩
        · exact ⟨_, h, by simp [okI]; omega⟩
      wtm_at "jw"
      refine i_slA hxS3 fun r1 H4 s4 hr1 => ?_
      rw [cut_to (j := (j : Int)) (b := j) rfl (by omega)] at hr1
      have hxS4 := Same.tup s4 hxS3
      wtm_at "jw"
      intro u hu
      have s5 := same_new (o := .tup [.int m]) hu
      have hu5 : SqT K (upd H4 u (.tup [.int m])) u [.int m] := SqT.of upd_same
      have hr5 := Same.tup s5 hr1
      have hxS5 := Same.tup s5 hxS4
      generalize upd H4 u (.tup [.int m]) = H5 at s5 hu5 hr5 hxS5 ⊢
      wtm_at "jw"
      refine i_catA hr5 hu5 (by rw [List.length_map, List.length_take, sizeLine_eq]; simp; omega) fun r2 H6 s6 hr2 => ?_
      have s6' : Same H5 H6 := s6
      have hxS6 := Same.tup s6' hxS5
      wtm_at "jw"
      refine i_slA hxS6 fun r3 H7 s7 hr3 => ?_
      rw [cut_from (i := (j : Int) + 1) (a := j + 1) (by omega) (by omega)] at hr3
      have hr2' := Same.tup s7 hr2
      wtm_at "jw"
      refine i_catA hr2' hr3 (by simp only [List.length_append, List.length_map, List.length_take, List.length_drop, sizeLine_eq]; simp; omega) fun r4 H8 s8 hr4 => ?_
      wtm_at "jw"
      refine badL (.inl ⟨_, .tup hr4 (((TDs.ints _).app (.cons (.int m) .nil)).app (TDs.ints _)), bad_row hm⟩) (by omega) fun H9 s9 => ?_
      wtm_at "jw"
      refine c_noN rfl ?_
      wtm_at "jw"
      exact ⟨(((((s3.trans s4).trans s5).trans s6').trans s7).trans s8).trans s9, _, _, _, rfl⟩
    obtain ⟨s9, v5, v7, v8, rfl⟩ := h
    have w9 := w8.same s9
    have hxS9 := Same.tup s9 hxS8
    wtm_at "jw"
    intro E1 hE1
    have s10 := same_new (o := .tup []) hE1
    have k10 : TD K (upd H' E1 (.tup [])) (.ref E1) (.tuple []) := TD.new hE1 .nil
    generalize upd H' E1 (.tup []) = H10 at s10 k10 ⊢
    wtm_at "jw"
    intro E2 hE2
    have s11 := same_new (o := .tup [.int 1]) hE2
    have k11 : TD K (upd H10 E2 (.tup [.int 1])) (.ref E2) (.tuple [.int 1]) := TD.new hE2 (TDs.ints [1])
    have k10' := k10.same s11
    generalize upd H10 E2 (.tup [.int 1]) = H11 at s11 k11 k10' ⊢
    wtm_at "jw"
    intro L3 hL3
    have s12 := same_new (o := .lst [.non, .str "1", .ref E1, .ref E2]) hL3
    have hL12 := upd_same (H := H11) (a := L3) (o := .lst [.non, .str "1", .ref E1, .ref E2])
    have k11' := k11.same s12
    have k10'' := k10'.same s12
    generalize upd H11 L3 (.lst [.non, .str "1", .ref E1, .ref E2]) = H12 at s12 hL12 k11' k10'' ⊢
    have w12 := ((w9.same s10).same s11).same s12
    have hxS12 := Same.tup s12 (Same.tup s11 (Same.tup s10 hxS9))
    wtm_at "jw"
    refine f_list (xs := [.non, .str "1", .ref E1, .ref E2]) (fun i σ H' => Same H12 H' ∧ ∃ v5 v7 v8, σ = [some (.ref p), some (.ref xa), some (.int (n : Int)), some (.int (3 + 2 * (n : Int))), some (.int mo), v5, some (.int (j : Int)), v7, v8]) ⟨Same.refl _, _, _, _, rfl⟩ (fun i σ H' _ h => SqL.of (h.1 _ _ hL12)) (fun i y σ H' hi h => ?_) (fun σ H' h => ?_)
    · obtain ⟨s3, v5, v7, v8, rfl⟩ := h
      have hxS3 := Same.tup s3 hxS12
      obtain ⟨d, hyd, hm⟩ : ∃ d, TD K H' y d ∧ okI 0 65536 d = false := by
        have := List.mem_of_getElem? hi
        simp only [List.mem_cons, List.not_mem_nil, or_false] at this
        rcases this with h | h | h | h
        · exact ⟨.none, by rw [h]; exact .non, rfl⟩
        · exact ⟨.str "1", by rw [h]; exact .str _, rfl⟩
        · exact ⟨_, by rw [h]; exact k10''.same s3, rfl⟩
        · exact ⟨_, by rw [h]; exact k11'.same s3, rfl⟩
      wtm_at "jw"
      refine i_slA hxS3 fun r1 H4 s4 hr1 => ?_
      rw [cut_to (j := (j : Int)) (b := j) rfl (by omega)] at hr1
      have hxS4 := Same.tup s4 hxS3
      wtm_at "jw"
      intro u hu
      have s5 := same_new (o := .tup [y]) hu
      have hu5 : SqT K (upd H4 u (.tup [y])) u [y] := SqT.of upd_same
      have hr5 := Same.tup s5 hr1
      have hxS5 := Same.tup s5 hxS4
      generalize upd H4 u (.tup [y]) = H5 at s5 hu5 hr5 hxS5 ⊢
      wtm_at "jw"
      refine i_catA hr5 hu5 (by rw [List.length_map, List.length_take, sizeLine_eq]; simp; omega) fun r2 H6 s6 hr2 => ?_
      have s6' : Same H5 H6 := s6
      have hxS6 := Same.tup s6' hxS5
      wtm_at "jw"
      refine i_slA hxS6 fun r3 H7 s7 hr3 => ?_
      rw [cut_from (i := (j : Int) + 1) (a := j + 1) (by omega) (by omega)] at hr3
      have hr2' := Same.tup s7 hr2
      wtm_at "jw"
      refine i_catA hr2' hr3 (by simp only [List.length_append, List.length_map, List.length_take, List.length_drop, sizeLine_eq]; simp; omega) fun r4 H8 s8 hr4 => ?_
      have sall := ((((s4.trans s5).trans s6').trans s7).trans s8)
      wtm_at "jw"
      refine badL (.inl ⟨_, .tup hr4 (((TDs.ints _).app (.cons (hyd.same sall) .nil)).app (TDs.ints _)), bad_row hm⟩) (by omega) fun H9 s9 => ?_
      wtm_at "jw"
      refine c_noN rfl ?_
      wtm_at "jw"
      exact ⟨(s3.trans sall).trans s9, _, _, _, rfl⟩
    obtain ⟨s13, v5, v7, v8, rfl⟩ := h
    have w13 := w12.same s13
    have hxS13 := Same.tup s13 hxS12
    wtm_at "jw"
    intro F1 hF1
    have s14 := same_new (o := .tup []) hF1
    have k14 : TD K (upd H' F1 (.tup [])) (.ref F1) (.tuple []) := TD.new hF1 .nil
    have hxS14 := Same.tup s14 hxS13
    generalize upd H' F1 (.tup []) = H14 at s14 k14 hxS14 ⊢
    wtm_at "jw"
    intro F2 hF2
    have s15 := same_new (o := .lst (ns.map V.int)) hF2
    have k15 := upd_same (H := H14) (a := F2) (o := .lst (ns.map V.int))
    have k14' := k14.same s15
    have hxS15 := Same.tup s15 hxS14
    generalize upd H14 F2 (.lst (ns.map V.int)) = H15 at s15 k15 k14' hxS15 ⊢
    wtm_at "jw"
    intro F3 hF3
    have s16 := same_new (o := .tup [.ref xa]) hF3
    have k16 : TD K (upd H15 F3 (.tup [.ref xa])) (.ref F3) (.tuple [.tuple (ns.map PyData.int)]) := TD.new hF3 (.cons (.tup hxS15 (TDs.ints _)) .nil)
    have k15' := s16 _ _ k15
    have k14'' := k14'.same s16
    generalize upd H15 F3 (.tup [.ref xa]) = H16 at s16 k16 k15' k14'' ⊢
    wtm_at "jw"
    intro L4 hL4
    have s17 := same_new (o := .lst [.non, .ref F1, .str "", .str "facts", .int 7, .ref F2, .ref F3]) hL4
    have hL17 := upd_same (H := H16) (a := L4) (o := .lst [.non, .ref F1, .str "", .str "facts", .int 7, .ref F2, .ref F3])
    have k16' := k16.same s17
    have k15'' := s17 _ _ k15'
    have k14a := k14''.same s17
    generalize upd H16 L4 (.lst [.non, .ref F1, .str "", .str "facts", .int 7, .ref F2, .ref F3]) = H17 at s17 hL17 k16' k15'' k14a ⊢
    have w17 := (((w13.same s14).same s15).same s16).same s17
    wtm_at "jw"
    refine f_list (xs := [.non, .ref F1, .str "", .str "facts", .int 7, .ref F2, .ref F3]) (fun i σ H' => Same H17 H' ∧ ∃ v5 v7 v8, σ = [some (.ref p), some (.ref xa), some (.int (n : Int)), some (.int (3 + 2 * (n : Int))), some (.int mo), v5, some (.int (j : Int)), v7, v8]) ⟨Same.refl _, _, _, _, rfl⟩ (fun i σ H' _ h => SqL.of (h.1 _ _ hL17)) (fun i y σ H' hi h => ?_) (fun σ H' h => ?_)
    · obtain ⟨s3, v5, v7, v8, rfl⟩ := h
      have hbad : Bad K H' y := by
        have := List.mem_of_getElem? hi
        simp only [List.mem_cons, List.not_mem_nil, or_false] at this
        rcases this with h | h | h | h | h | h | h
        · exact .inl ⟨.none, by rw [h]; exact .non, rfl⟩
        · exact .inr (.inr (by rw [h]; exact k14a.same s3))
        · exact .inl ⟨.str "", by rw [h]; exact .str _, rfl⟩
        · exact .inl ⟨.str "facts", by rw [h]; exact .str _, rfl⟩
        · exact .inl ⟨.int 7, by rw [h]; exact .int _, rfl⟩
        · exact .inr (.inl ⟨F2, _, h, s3 _ _ k15''⟩)
        · exact .inl ⟨_, by rw [h]; exact k16'.same s3, rfl⟩
      wtm_at "jw"
      refine badL hbad (by omega) fun H9 s9 => ?_
      wtm_at "jw"
      refine c_noN rfl ?_
      wtm_at "jw"
      exact ⟨s3.trans s9, _, _, _, rfl⟩
    · obtain ⟨s18, v5, v7, v8, rfl⟩ := h
      wtm_at "jw"
      exact q _ (w17.same s18)
/-! ### the draws -/
theorem osnoc {P : Option Int → Prop} {l : List (Option Int)} {x : Option Int} (h : ∀ y ∈ l, P y) (hx : P x) : ∀ y ∈ l ++ [x], P y := fun y hy => by
  rcases List.mem_append.mp hy with hy | hy
  · exact h y hy
  · rw [List.mem_singleton.mp hy]; exact hx
def sp__law_some_facts (K : PySem.W.Frag) : Sp := fun vs H Q _ => ∃ (p a : Addr) (s : Nat), vs = [.ref p, .int (s : Int)] ∧ DrawAt H p a ∧ 1 ≤ s ∧ s ≤ 4 ∧
  ∀ (v : V) (t f : Int) (en go : List (Option Int)) (ps : List (Int × Int)) (H' : Hp), Drew p a H H' → TD K H' v (factsD t f en go ps) → (∀ st : List Int, 2 ≤ st.length → st.length ≤ 44 → (∀ z ∈ st, -32768 ≤ z ∧ z ≤ 32767) → Gd s t f en go ps st) → Q v H'
theorem ok__law_some_facts {P : Program} {w : World} {K : PySem.W.Frag} {mg : Str → Option Value} {base : Heap} {f : Addr} {fd : FuncData} (F : Df K mg "_law_some_facts" s__law_some_facts f fd ["d", "seats"]) (T : Txt mg)
    (c__law_pick : Cl P w K mg base 2 "_law_pick" (sp__law_pick K))
    (c__law_draw : Cl P w K mg base 1 "_law_draw" (sp__law_draw K)) : FnOk P w K mg base CX0 3 f fd ["d", "seats"] (sp__law_some_facts K) := by
  refine F.ok sc__law_some_facts (fun vs H Q E h => ?_) (fun cdv A outer s H vs Q E hr h => ?_)
  · obtain ⟨p, a, s, rfl, _⟩ := h
    rfl
  · obtain ⟨p, a, n, rfl, d0, n1, n4, q⟩ := h
    refine ⟨_, (pss_cons (ps_set (i := 2) sc__law_some_facts.nd rfl (Or.inl rfl) (pe_cl c__law_pick hr (by decide) rfl (pa_cons (pv 0) (pa_cons (pe_lst (pa_cons pe_int (pa_cons pe_int (pa_cons pe_int (pa_cons pe_int (pa_cons (pe_cl c__law_draw hr (by decide) rfl (pa_cons (pv 0) (pa_cons pe_int pa_nil))) pa_nil)))))) pa_nil))))
      (pss_cons (ps_set (i := 3) sc__law_some_facts.nd rfl (Or.inl rfl) (pe_lst pa_nil))
      (pss_cons (ps_set (i := 4) sc__law_some_facts.nd rfl (Or.inl rfl) (pe_lst pa_nil))
      (pss_cons (ps_for PassesOwn.never rfl (pi_range1 rfl T.b_range (pa_cons (pv 1) pa_nil)) (pg_name (i := 5) sc__law_some_facts.nd rfl (Or.inl rfl)) (pss_cons (ps_set (i := 6) sc__law_some_facts.nd rfl (Or.inl rfl) (pe_cl c__law_pick hr (by decide) rfl (pa_cons (pv 0) (pa_cons (pe_lst (pa_cons pe_int (pa_cons pe_int (pa_cons pe_non (pa_cons (pv 2) (pa_cons (pe_cl c__law_draw hr (by decide) rfl (pa_cons (pv 0) (pa_cons (pe_op op_add (pv 2) pe_int) pa_nil))) pa_nil)))))) pa_nil))))
      (pss_cons (ps_set (i := 7) sc__law_some_facts.nd rfl (Or.inl rfl) pe_non)
      (pss_cons (ps_if (PW.pt (pw_and (pt_cmpR o_notN (pv 6) pe_non (nomark _)) (pw_and1 (pt_cmpR op_eq (pe_cl c__law_draw hr (by decide) rfl (pa_cons (pv 0) (pa_cons pe_int pa_nil))) pe_int (nomark _))))) (pss_one (ps_set (i := 7) sc__law_some_facts.nd rfl (Or.inl rfl) (pe_op op_add (pv 6) (pe_cl c__law_draw hr (by decide) rfl (pa_cons (pv 0) (pa_cons (pe_op op_add (pe_op op_sub (pv 2) (pv 6)) pe_int) pa_nil)))))) pss_nil)
      (pss_cons (ps_expr (pe_bmK (K := K) rfl PySem.F.plainAttrs_list PySem.F.slot_list_append PySem.F.type_list_append mt_append (pv 3) (pa_cons (pv 6) pa_nil)))
      (pss_one (ps_expr (pe_bmK (K := K) rfl PySem.F.plainAttrs_list PySem.F.slot_list_append PySem.F.type_list_append mt_append (pv 4) (pa_cons (pv 7) pa_nil)))))))))
      (pss_cons (ps_set (i := 8) sc__law_some_facts.nd rfl (Or.inl rfl) (pe_cl c__law_pick hr (by decide) rfl (pa_cons (pv 0) (pa_cons (pe_lst (pa_cons pe_int (pa_cons pe_int (pa_cons pe_int (pa_cons pe_int (pa_cons pe_int (pa_cons pe_int (pa_cons pe_int pa_nil)))))))) pa_nil))))
      (pss_cons (ps_set (i := 9) sc__law_some_facts.nd rfl (Or.inl rfl) (pe_lst pa_nil))
      (pss_cons (ps_set (i := 10) sc__law_some_facts.nd rfl (Or.inl rfl) (pv 2))
      (pss_cons (ps_for PassesOwn.never rfl (pi_range1 rfl T.b_range (pa_cons (pv 8) pa_nil)) (pg_name (i := 11) sc__law_some_facts.nd rfl (Or.inl rfl)) (pss_cons (ps_set (i := 10) sc__law_some_facts.nd rfl (Or.inl rfl) (pe_op op_add (pv 10) pe_int))
      (pss_cons (ps_if (pt_cmpR op_lt (pv 8) pe_int (nomark _)) (pss_one (ps_set (i := 10) sc__law_some_facts.nd rfl (Or.inl rfl) (pe_op op_add (pv 10) (pe_cl c__law_draw hr (by decide) rfl (pa_cons (pv 0) (pa_cons pe_int pa_nil)))))) pss_nil)
      (pss_one (ps_expr (pe_bmK (K := K) rfl PySem.F.plainAttrs_list PySem.F.slot_list_append PySem.F.type_list_append mt_append (pv 9) (pa_cons (pe_tup (pa_cons (pv 10) (pa_cons (pe_op op_add pe_int (pe_cl c__law_draw hr (by decide) rfl (pa_cons (pv 0) (pa_cons pe_int pa_nil)))) pa_nil))) pa_nil)))))))
      (pss_one (ps_ret (pe_tup (pa_cons pe_str (pa_cons (pv 2) (pa_cons (pe_cl c__law_draw hr (by decide) rfl (pa_cons (pv 0) (pa_cons pe_int pa_nil))) (pa_cons (pe_callTy (T := "tuple") (r := rTupOf K) c_tup (by rfl) T.b_tuple (by decide +kernel) (pa_cons (pv 3) pa_nil)) (pa_cons (pe_callTy (T := "tuple") (r := rTupOf K) c_tup (by rfl) T.b_tuple (by decide +kernel) (pa_cons (pv 4) pa_nil)) (pa_cons (pe_callTy (T := "tuple") (r := rTupOf K) c_tup (by rfl) T.b_tuple (by decide +kernel) (pa_cons (pv 9) pa_nil)) pa_nil))))))))))))))))), ?_⟩
    try dsimp only [cxOf, Cx.nox, Cx.wish]
    refine st_of (σ' := [some _, some _, none, none, none, none, none, none, none, none, none, none]) rfl ?_
    wtm_at "jw"
    refine drawL d0.drew (by decide) (by decide) fun z1 H1 z10 z11 _ w1 => ?_
    wtm_at "jw"
    intro B hB
    wtm_at "jw"
    refine pickL (fun z => 0 ≤ z ∧ z ≤ 24) [0, 1, 24, 7, z1] w1 hB rfl (by simp) (by simp) (by simp; omega) fun t H2 ht _ w2 => ?_
    wtm_at "jw"
    intro E hE
    have w3 := w2.new (o := .lst []) hE
    have hE3 : upd H2 E (.lst []) E = some (.lst ((([] : List (Option Int))).map ovO)) := upd_same
    have E0 := w2.free hE
    have nE := d0.ne_none E0
    generalize upd H2 E (.lst []) = H3 at w3 hE3 ⊢
    wtm_at "jw"
    intro G hG
    have w4 := w3.new (o := .lst []) hG
    have hG4 : upd H3 G (.lst []) G = some (.lst ((([] : List (Option Int))).map ovO)) := upd_same
    have hE4 := same_new (o := .lst []) hG _ _ hE3
    have G0 := w3.free hG
    have nG := d0.ne_none G0
    have nEG : E ≠ G := ne_of_none hE3 hG
    generalize upd H3 G (.lst []) = H4 at w4 hG4 hE4 ⊢
    wtm_at "jw"
    refine f_range (fun i σ H' => Drew p a H H' ∧ ∃ (en go : List (Option Int)) (v5 v6 v7 : Option V), H' E = some (.lst (en.map ovO)) ∧ H' G = some (.lst (go.map ovO)) ∧ en.length = i ∧ go.length = i ∧ (∀ o ∈ en, ∀ x, o = some x → 0 ≤ x ∧ x ≤ 100) ∧ (∀ o ∈ go, ∀ x, o = some x → 0 ≤ x ∧ x ≤ 100) ∧
        σ = [some (.ref p), some (.int (n : Int)), some (.int t), some (.ref E), some (.ref G), v5, v6, v7, none, none, none, none])
      ⟨w4, [], [], none, none, none, hE4, hG4, rfl, rfl, by simp, by simp, rfl⟩ (fun i σ H' hi h => ?_) (fun σ H' h => ?_)
    · obtain ⟨w5, en, go, v5, v6, v7, hE5, hG5, hel, hgl, hen, hgo, rfl⟩ := h
      wtm_at "jw"
      refine drawL w5 (by omega) (by omega) fun z2 H6 z20 z21 e6 w6 => ?_
      have hE6 := e6.kp _ _ hE5 nE
      have hG6 := e6.kp _ _ hG5 nG
      wtm_at "jw"
      intro B2 hB2
      wtm_at "jw"
      refine pickV w6 hB2 (by simp) (by simp) fun x H7 hx e7 w7 => ?_
      obtain ⟨o, rfl, ho⟩ : ∃ o : Option Int, x = ovO o ∧ ∀ z, o = some z → 0 ≤ z ∧ z ≤ t := by
        simp only [List.mem_cons, List.not_mem_nil, or_false] at hx
        rcases hx with h | h | h | h | h
        · exact ⟨some 0, h, fun z e => by cases e; omega⟩
        · exact ⟨some 0, h, fun z e => by cases e; omega⟩
        · exact ⟨none, h, fun z e => by cases e⟩
        · exact ⟨some t, h, fun z e => by cases e; omega⟩
        · exact ⟨some z2, h, fun z e => by cases e; omega⟩
      have hE7 := e7.kp _ _ hE6 nE
      have hG7 := e7.kp _ _ hG6 nG
      have hszE : (en.map ovO).length < sizeLine := small1000 (by rw [List.length_map]; omega)
      have hszG : (go.map ovO).length < sizeLine := small1000 (by rw [List.length_map]; omega)
      have fin : ∀ (l : Option Int) (H8 : Hp), (∀ z, l = some z → 0 ≤ z ∧ z ≤ 100) → Drew p a H H8 → H8 E = some (.lst (en.map ovO)) → H8 G = some (.lst (go.map ovO)) → Drew p a H (upd (upd H8 E (.lst (en.map ovO ++ [ovO o]))) G (.lst (go.map ovO ++ [ovO l]))) ∧ ∃ (en' go' : List (Option Int)) (v5 v6 v7 : Option V),
          (upd (upd H8 E (.lst (en.map ovO ++ [ovO o]))) G (.lst (go.map ovO ++ [ovO l]))) E = some (.lst (en'.map ovO)) ∧ (upd (upd H8 E (.lst (en.map ovO ++ [ovO o]))) G (.lst (go.map ovO ++ [ovO l]))) G = some (.lst (go'.map ovO)) ∧ en'.length = i + 1 ∧ go'.length = i + 1 ∧ (∀ o ∈ en', ∀ x, o = some x → 0 ≤ x ∧ x ≤ 100) ∧ (∀ o ∈ go', ∀ x, o = some x → 0 ≤ x ∧ x ≤ 100) ∧
          [some (.ref p), some (.int (n : Int)), some (.int t), some (.ref E), some (.ref G), some (.int (0 + (i : Int))), some (ovO o), some (ovO l), none, none, none, none] = [some (.ref p), some (.int (n : Int)), some (.int t), some (.ref E), some (.ref G), v5, v6, v7, none, none, none, none] := fun l H8 hl w hE8 hG8 => by
        refine ⟨(w.put d0 E0).put d0 G0, en ++ [o], go ++ [l], some (.int (0 + (i : Int))), some (ovO o), some (ovO l), ?_, ?_, by simp [hel], by simp [hgl], osnoc hen (fun x e => by have := ho x e; omega), osnoc hgo hl, rfl⟩
        · rw [upd_ne nEG, upd_same, List.map_append]; rfl
        · rw [upd_same, List.map_append]; rfl
      cases o with
      | none =>
        unfold ovO
        wtm_at "jw"
        refine c_noN rfl ?_
        wtm_at "jw"
        have hG8 : upd H7 E (.lst (en.map ovO ++ [V.non])) G = some (.lst (go.map ovO)) := by rw [upd_ne nEG.symm]; exact hG7
        wtm_at "jw"
        exact fin none _ (fun z e => by cases e) w7 hE7 hG7
      | some x =>
        have hx0 := ho x rfl
        unfold ovO
        wtm_at "jw"
        refine c_yesN (fun h => by cases h) ?_
        wtm_at "jw"
        refine drawL w7 (by decide) (by decide) fun z3 H8 z30 z31 e8 w8 => ?_
        have hE8 := e8.kp _ _ hE7 nE
        have hG8 := e8.kp _ _ hG7 nG
        wtm_at "jw"
        refine c_dec (fun h => ?_) (fun h => ?_)
        · wtm_at "jw"
          refine drawL w8 (by omega) (by omega) fun z4 H9 z40 z41 e9 w9 => ?_
          have hE9 := e9.kp _ _ hE8 nE
          have hG9 := e9.kp _ _ hG8 nG
          wtm_at "jw"
          have hG10 : upd H9 E (.lst (en.map ovO ++ [V.int x])) G = some (.lst (go.map ovO)) := by rw [upd_ne nEG.symm]; exact hG9
          wtm_at "jw"
          exact fin (some (x + z4)) _ (fun z e => by cases e; omega) w9 hE9 hG9
        · wtm_at "jw"
          have hG10 : upd H8 E (.lst (en.map ovO ++ [V.int x])) G = some (.lst (go.map ovO)) := by rw [upd_ne nEG.symm]; exact hG8
          wtm_at "jw"
          exact fin none _ (fun z e => by cases e) w8 hE8 hG8
    obtain ⟨w5, en, go, v5, v6, v7, hE5, hG5, hel, hgl, hen, hgo, rfl⟩ := h
    rw [Int.toNat_natCast] at hel hgl
    wtm_at "jw"
    intro B3 hB3
    wtm_at "jw"
    refine pickL (fun z => 0 ≤ z ∧ z ≤ 20) [0, 0, 1, 2, 3, 5, 20] w5 hB3 rfl (by simp) (by simp) (by simp) fun many H6 hm e6 w6 => ?_
    have hE6 := e6.kp _ _ hE5 nE
    have hG6 := e6.kp _ _ hG5 nG
    wtm_at "jw"
    intro R hR
    have w7 := w6.new (o := .lst []) hR
    have s7 := same_new (o := .lst []) hR
    have hR7 : LPr (upd H6 R (.lst [])) R [] := ⟨[], upd_same, .nil⟩
    have hE7 := s7 _ _ hE6
    have hG7 := s7 _ _ hG6
    have R0 := w6.free hR
    have nR := d0.ne_none R0
    have nER : E ≠ R := ne_of_none hE6 hR
    have nGR : G ≠ R := ne_of_none hG6 hR
    generalize upd H6 R (.lst []) = H7 at w7 s7 hR7 hE7 hG7 ⊢
    wtm_at "jw"
    refine f_range (fun i σ H' => Drew p a H H' ∧ ∃ (ps : List (Int × Int)) (now : Int) (v11 : Option V), H' E = some (.lst (en.map ovO)) ∧ H' G = some (.lst (go.map ovO)) ∧ LPr H' R ps ∧ ps.length = i ∧ (∀ q ∈ ps, (0 ≤ q.1 ∧ q.1 ≤ 200) ∧ 0 ≤ q.2 ∧ q.2 ≤ 20) ∧ 0 ≤ now ∧ now ≤ 24 + 4 * (i : Int) ∧
        σ = [some (.ref p), some (.int (n : Int)), some (.int t), some (.ref E), some (.ref G), v5, v6, v7, some (.int many), some (.ref R), some (.int now), v11])
      ⟨w7, [], t, none, hE7, hG7, hR7, rfl, by simp, by omega, by omega, rfl⟩ (fun i σ H' hi h => ?_) (fun σ H' h => ?_)
    · obtain ⟨w8, ps, now, v11, hE8, hG8, hR8, hpl, hps, n0, n2, rfl⟩ := h
      wtm_at "js"
      refine i_ifC (fun σ' H' => Drew p a H H' ∧ ∃ (now' : Int), H' E = some (.lst (en.map ovO)) ∧ H' G = some (.lst (go.map ovO)) ∧ LPr H' R ps ∧ 0 ≤ now' ∧ now' ≤ 24 + 4 * ((i : Int) + 1) ∧
        σ' = [some (.ref p), some (.int (n : Int)), some (.int t), some (.ref E), some (.ref G), v5, v6, v7, some (.int many), some (.ref R), some (.int now'), some (.int (0 + (i : Int)))]) (fun σ' H9 h => ?_) (fun N hN => ?_)
      · obtain ⟨w9, now', hE9, hG9, hR9, m0, m2, rfl⟩ := h
        obtain ⟨rs, hR9', hw9⟩ := hR9
        wtm_at "jw"
        refine drawL w9 (by decide) (by decide) fun z5 H10 z50 z51 e10 w10 => ?_
        have hE10 := e10.kp _ _ hE9 nE
        have hG10 := e10.kp _ _ hG9 nG
        obtain ⟨rs, hR10, hw10⟩ := LPr.drew ⟨rs, hR9', hw9⟩ w9.at_ e10 nR
        wtm_at "jw"
        intro u hu
        have hR11 := same_new (o := .tup [V.int now', V.int (1 + z5)]) hu _ _ hR10
        have hsz : (rs.map V.ref).length < sizeLine := small1000 (by rw [List.length_map, hw10.1]; omega)
        wtm_at "jw"
        refine ⟨(w10.new hu).put d0 R0, ps ++ [(now', 1 + z5)], now', _, ?_, ?_, LPr.add hR10 hw10 hu, by simp [hpl], ?_, m0, m2, rfl⟩
        · rw [upd_ne nER]; exact same_new hu _ _ hE10
        · rw [upd_ne nGR]; exact same_new hu _ _ hG10
        · intro q hq
          rcases List.mem_append.mp hq with hq | hq
          · exact hps q hq
          · rw [List.mem_singleton.mp hq]
            show (0 ≤ now' ∧ now' ≤ 200) ∧ 0 ≤ 1 + z5 ∧ 1 + z5 ≤ 20
            omega
      · wtm_at "jw"
        refine c_dec (fun h => ?_) (fun h => ?_)
        · wtm_at "jw"
          refine drawL w8 (by decide) (by decide) fun z5 H10 z50 z51 e10 w10 => ?_
          wtm_at "jw"
          exact hN _ _ ⟨w10, _, e10.kp _ _ hE8 nE, e10.kp _ _ hG8 nG, hR8.drew w8.at_ e10 nR, by omega, by omega, rfl⟩
        · wtm_at "jw"
          exact hN _ _ ⟨w8, _, hE8, hG8, hR8, by omega, by omega, rfl⟩
    · obtain ⟨w8, ps, now, v11, hE8, hG8, ⟨rs, hR8, hw8⟩, hpl, hps, n0, n2, rfl⟩ := h
      wtm_at "jw"
      refine drawL w8 (by decide) (by decide) fun f H9 f0 f1 e9 w9 => ?_
      have hE9 := e9.kp _ _ hE8 nE
      have hG9 := e9.kp _ _ hG8 nG
      obtain ⟨rs, hR9, hw9⟩ := LPr.drew ⟨rs, hR8, hw8⟩ w8.at_ e9 nR
      wtm_at "jw"
      intro T1 hT1
      have s10 := same_new (o := .tup (en.map ovO)) hT1
      have k1 : TD K (upd H9 T1 (.tup (en.map ovO))) (.ref T1) (.tuple (en.map oD)) := TD.new hT1 (TDs.ovs _)
      have hG10 := s10 _ _ hG9
      have hR10 := s10 _ _ hR9
      have hw10 := hw9.same s10
      generalize upd H9 T1 (.tup (en.map ovO)) = H10 at s10 k1 hG10 hR10 hw10 ⊢
      wtm_at "jw"
      intro T2 hT2
      have s11 := same_new (o := .tup (go.map ovO)) hT2
      have k2 : TD K (upd H10 T2 (.tup (go.map ovO))) (.ref T2) (.tuple (go.map oD)) := TD.new hT2 (TDs.ovs _)
      have k1' := k1.same s11
      have hR11 := s11 _ _ hR10
      have hw11 := hw10.same s11
      generalize upd H10 T2 (.tup (go.map ovO)) = H11 at s11 k2 k1' hR11 hw11 ⊢
      wtm_at "jw"
      intro T3 hT3
      have s12 := same_new (o := .tup (rs.map V.ref)) hT3
      have k3 : TD K (upd H11 T3 (.tup (rs.map V.ref))) (.ref T3) (.tuple (ps.map pD)) := TD.new hT3 hw11.tds
      have k1'' := k1'.same s12
      have k2' := k2.same s12
      generalize upd H11 T3 (.tup (rs.map V.ref)) = H12 at s12 k3 k1'' k2' ⊢
      wtm_at "jw"
      intro T4 hT4
      refine q _ t f en go ps _ ((((w9.same s10).same s11).same s12).new hT4) (TD.new hT4 (.cons (.str _) (.cons (.int _) (.cons (.int _) (.cons k1'' (.cons k2' (.cons k3 .nil))))))) fun st h2 h44 hst => ?_
      exact ⟨n4, n1, hel, hgl, ht, ⟨f0, by omega⟩, hen, hgo, hps, by omega, h2, h44, hst⟩
def sp__law_some_state (K : PySem.W.Frag) : Sp := fun vs H Q _ => ∃ (p a : Addr) (s : Nat), vs = [.ref p, .int (s : Int)] ∧ DrawAt H p a ∧ s ≤ 4 ∧
  ∀ (v : V) (st : List Int) (H' : Hp), Drew p a H H' → TD K H' v (.tuple (st.map PyData.int)) → 2 ≤ st.length → st.length ≤ 44 → (∀ z ∈ st, -32768 ≤ z ∧ z ≤ 32767) → Q v H'
theorem ok__law_some_state {P : Program} {w : World} {K : PySem.W.Frag} {mg : Str → Option Value} {base : Heap} {f : Addr} {fd : FuncData} (F : Df K mg "_law_some_state" s__law_some_state f fd ["d", "seats"]) (T : Txt mg)
    (c__law_pick : Cl P w K mg base 2 "_law_pick" (sp__law_pick K))
    (c__law_draw : Cl P w K mg base 1 "_law_draw" (sp__law_draw K)) : FnOk P w K mg base CX0 3 f fd ["d", "seats"] (sp__law_some_state K) := by
  refine F.ok sc__law_some_state (fun vs H Q E h => ?_) (fun cdv A outer s H vs Q E hr h => ?_)
  · obtain ⟨p, a, s, rfl, _⟩ := h
    rfl
  · obtain ⟨p, a, n, rfl, d0, n4, q⟩ := h
    refine ⟨_, (pss_cons (ps_set (i := 2) sc__law_some_state.nd rfl (Or.inl rfl) (pe_lst (pa_cons (pe_cl c__law_pick hr (by decide) rfl (pa_cons (pv 0) (pa_cons (pe_lst (pa_cons pe_int (pa_cons pe_int (pa_cons (pe_cl c__law_draw hr (by decide) rfl (pa_cons (pv 0) (pa_cons pe_int pa_nil))) pa_nil)))) pa_nil))) (pa_cons (pe_cl c__law_draw hr (by decide) rfl (pa_cons (pv 0) (pa_cons (pe_op op_add pe_int (pv 1)) pa_nil))) pa_nil))))
      (pss_cons (ps_for PassesOwn.never rfl (pi_range1 rfl T.b_range (pa_cons (pe_cl c__law_pick hr (by decide) rfl (pa_cons (pv 0) (pa_cons (pe_lst (pa_cons pe_int (pa_cons pe_int (pa_cons pe_int (pa_cons pe_int (pa_cons pe_int (pa_cons pe_int (pa_cons pe_int pa_nil)))))))) pa_nil))) pa_nil)) (pg_name (i := 3) sc__law_some_state.nd rfl (Or.inl rfl)) (pss_one (ps_expr (pe_bmK (K := K) rfl PySem.F.plainAttrs_list PySem.F.slot_list_append PySem.F.type_list_append mt_append (pv 2) (pa_cons (pe_cl c__law_pick hr (by decide) rfl (pa_cons (pv 0) (pa_cons (pe_lst (pa_cons pe_int (pa_cons pe_int (pa_cons pe_int (pa_cons (pe_un un_neg pe_int) (pa_cons pe_int (pa_cons (pe_un un_neg pe_int) (pa_cons (pe_op op_sub (pe_cl c__law_draw hr (by decide) rfl (pa_cons (pv 0) (pa_cons pe_int pa_nil))) pe_int) pa_nil)))))))) pa_nil))) pa_nil)))))
      (pss_one (ps_ret (pe_callTy (T := "tuple") (r := rTupOf K) c_tup (by rfl) T.b_tuple (by decide +kernel) (pa_cons (pv 2) pa_nil)))))), ?_⟩
    try dsimp only [cxOf, Cx.nox, Cx.wish]
    refine st_of (σ' := [some _, some _, none, none]) rfl ?_
    wtm_at "jw"
    refine drawL d0.drew (by decide) (by decide) fun z1 H1 z10 z11 _ w1 => ?_
    wtm_at "jw"
    intro B hB
    wtm_at "jw"
    refine pickL (fun z => 0 ≤ z ∧ z ≤ 32748) [0, 32748, z1] w1 hB rfl (by simp) (by simp) (by simp; omega) fun t H2 ht _ w2 => ?_
    wtm_at "jw"
    refine drawL w2 (by omega) (by omega) fun z2 H3 z20 z21 _ w3 => ?_
    wtm_at "jw"
    intro F hF
    have w4 := w3.new (o := .lst [.int t, .int z2]) hF
    have hF4 : upd H3 F (.lst [.int t, .int z2]) F = some (.lst (([t, z2] : List Int).map V.int)) := upd_same
    have F0 := w3.free hF
    have nF := d0.ne_none F0
    generalize upd H3 F (.lst [.int t, .int z2]) = H4 at w4 hF4 ⊢
    wtm_at "jw"
    intro B2 hB2
    wtm_at "jw"
    refine pickL (fun z => 0 ≤ z ∧ z ≤ 42) [0, 1, 2, 3, 5, 12, 42] w4 hB2 rfl (by simp) (by simp) (by simp) fun k H5 hk e5 w5 => ?_
    have hF5 := e5.kp _ _ hF4 nF
    wtm_at "jw"
    refine f_range (fun i σ H' => Drew p a H H' ∧ ∃ (st : List Int) (v3 : Option V), H' F = some (.lst (st.map V.int)) ∧ st.length = 2 + i ∧ (∀ z ∈ st, -32768 ≤ z ∧ z ≤ 32767) ∧ σ = [some (.ref p), some (.int (n : Int)), some (.ref F), v3])
      ⟨w5, [t, z2], none, hF5, rfl, by simp; omega, rfl⟩ (fun i σ H' hi h => ?_) (fun σ H' h => ?_)
    · obtain ⟨w6, st, v3, hF6, hl, hst, rfl⟩ := h
      wtm_at "jw"
      refine drawL w6 (by decide) (by decide) fun z3 H7 z30 z31 e7 w7 => ?_
      have hF7 := e7.kp _ _ hF6 nF
      wtm_at "jw"
      intro B3 hB3
      wtm_at "jw"
      refine pickL (fun z => -32768 ≤ z ∧ z ≤ 32767) [0, 1, 255, -1, 32767, -32768, z3 - 32768] w7 hB3 rfl (by simp) (by simp) (by simp; omega) fun y H8 hy e8 w8 => ?_
      have hF8 := e8.kp _ _ hF7 nF
      have hsz : (st.map V.int).length < sizeLine := small1000 (by rw [List.length_map]; omega)
      wtm_at "jw"
      refine ⟨w8.put d0 F0, st ++ [y], _, by rw [upd_same, List.map_append]; rfl, by simp [hl]; omega, fun z hz => ?_, rfl⟩
      rcases List.mem_append.mp hz with hz | hz
      · exact hst z hz
      · rw [List.mem_singleton.mp hz]; exact hy
    · obtain ⟨w6, st, v3, hF6, hl, hst, rfl⟩ := h
      wtm_at "jw"
      intro r hr'
      exact q _ st _ (w6.new hr') (TD.new hr' (TDs.ints st)) (by omega) (by omega) hst
def sp_law (K : PySem.W.Frag) : Sp := fun vs H Q _ => ∃ (a : Addr) (ns : List Int), vs = [.ref a] ∧ SqL K H a (ns.map V.int) ∧ ns.length ≤ 63 ∧ ∀ H', Q (.bl true) H'
theorem ok_law {P : Program} {w : World} {K : PySem.W.Frag} {mg : Str → Option Value} {base : Heap} {f : Addr} {fd : FuncData} (F : Df K mg "law" s_law f fd ["script"]) (T : Txt mg)
    (c__law_begin : Cl P w K mg base 1 "_law_begin" (sp__law_begin K))
    (c__law_pick : Cl P w K mg base 2 "_law_pick" (sp__law_pick K))
    (c__law_some_facts : Cl P w K mg base 3 "_law_some_facts" (sp__law_some_facts K))
    (c__law_some_state : Cl P w K mg base 3 "_law_some_state" (sp__law_some_state K))
    (c__law_row_of : Cl P w K mg base 1 "_law_row_of" (sp__law_row_of K))
    (c_parcel_of : Cl P w K mg base 2 "parcel_of" (sp_parcel_of K))
    (c_opened_parcel : Cl P w K mg base 4 "opened_parcel" (sp_opened_parcel K))
    (c__law_is_same : Cg P w K mg base 1 "_law_is_same" (sp__law_is_same K))
    (c__law_draw : Cl P w K mg base 1 "_law_draw" (sp__law_draw K))
    (c__law_is_refused : Cl P w K mg base 5 "_law_is_refused" (sp__law_is_refused K))
    (c__law_is_ints : Cl P w K mg base 2 "_law_is_ints" (sp__law_is_ints K))
    (c__law_is_cut_right : Cg P w K mg base 5 "_law_is_cut_right" (sp__law_is_cut_right K)) : Gok P w K mg base 6 f fd ["script"] (sp_law K) := by
  refine F.gok sc_law (fun vs H Q E h => ?_) (fun cdv A outer s H vs Q E hr hG h => ?_)
  · obtain ⟨a, ns, rfl, _⟩ := h
    rfl
  · obtain ⟨a, ns, rfl, hS, hl, k⟩ := h
    refine ⟨_, (pss_cons (ps_set (i := 1) sc_law.nd rfl (Or.inl rfl) (pe_cl c__law_begin hr (by decide) rfl (pa_cons (pv 0) pa_nil)))
      (pss_cons (ps_for PassesOwn.never rfl (pi_range1 rfl T.b_range (pa_cons pe_int pa_nil)) (pg_name (i := 2) sc_law.nd rfl (Or.inl rfl)) (pss_cons (ps_set (i := 3) sc_law.nd rfl (Or.inl rfl) (pe_cl c__law_pick hr (by decide) rfl (pa_cons (pv 1) (pa_cons (pe_lst (pa_cons pe_int (pa_cons pe_int (pa_cons pe_int (pa_cons pe_int (pa_cons pe_int pa_nil)))))) pa_nil))))
      (pss_cons (ps_set (i := 4) sc_law.nd rfl (Or.inl rfl) (pe_cl c__law_some_facts hr (by decide) rfl (pa_cons (pv 1) (pa_cons (pv 3) pa_nil))))
      (pss_cons (ps_set (i := 5) sc_law.nd rfl (Or.inl rfl) (pe_cl c__law_some_state hr (by decide) rfl (pa_cons (pv 1) (pa_cons (pv 3) pa_nil))))
      (pss_cons (ps_set (i := 6) sc_law.nd rfl (Or.inl rfl) (pe_cl c__law_row_of hr (by decide) rfl (pa_cons (pv 4) (pa_cons (pv 5) pa_nil))))
      (pss_cons (ps_set (i := 7) sc_law.nd rfl (Or.inl rfl) (pe_cl c_parcel_of hr (by decide) rfl (pa_cons (pv 4) (pa_cons (pv 5) pa_nil))))
      (pss_cons (ps_if (PW.pt (pw_or (pt_not (pt_val (pe_cl c__law_is_ints hr (by decide) rfl (pa_cons (pv 7) pa_nil)))) (pw_or1 (pt_cmpR (r := rNeD K) (op_neD hr.units) (pv 7) (pv 6) (nomark _))))) (pss_one (ps_ret pe_bl)) pss_nil)
      (pss_cons (ps_if (pt_not (pt_val (pe_cg c__law_is_same hr hG (by decide) rfl (pa_cons (pe_cl c_opened_parcel hr (by decide) rfl (pa_cons (pv 6) (pa_cons (pv 3) pa_nil))) (pa_cons (pe_tup (pa_cons (pv 4) (pa_cons (pv 5) pa_nil))) pa_nil))))) (pss_one (ps_ret pe_bl)) pss_nil)
      (pss_cons (ps_set (i := 8) sc_law.nd rfl (Or.inl rfl) (pe_op op_add (pe_op op_sub (pe_callB (id := "len") (r := qLen K) c_len (by rfl) T.b_len (by decide +kernel) (pa_cons (pv 6) pa_nil)) (pe_callB (id := "len") (r := qLen K) c_len (by rfl) T.b_len (by decide +kernel) (pa_cons (pv 5) pa_nil))) pe_int))
      (pss_cons (ps_set (i := 9) sc_law.nd rfl (Or.inl rfl) (pe_op op_add pe_int (pe_op op_mul pe_int (pv 3))))
      (pss_cons (ps_for PassesOwn.never rfl (pi_list (pe_lst (pa_cons pe_int (pa_cons (pe_op op_sub (pv 9) pe_int) (pa_cons (pv 9) (pa_cons (pe_op op_sub (pv 8) pe_int) (pa_cons (pv 8) (pa_cons (pe_op op_sub (pe_callB (id := "len") (r := qLen K) c_len (by rfl) T.b_len (by decide +kernel) (pa_cons (pv 6) pa_nil)) pe_int) (pa_cons (pe_cl c__law_draw hr (by decide) rfl (pa_cons (pv 1) (pa_cons (pe_callB (id := "len") (r := qLen K) c_len (by rfl) T.b_len (by decide +kernel) (pa_cons (pv 6) pa_nil)) pa_nil))) pa_nil))))))))) (pg_name (i := 10) sc_law.nd rfl (Or.inl rfl)) (pss_one (ps_if (pt_not (pt_val (pe_cg c__law_is_cut_right hr hG (by decide) rfl (pa_cons (pv 6) (pa_cons (pv 3) (pa_cons (pv 4) (pa_cons (pv 5) (pa_cons (pv 10) pa_nil)))))))) (pss_one (ps_ret pe_bl)) pss_nil)))
      (pss_cons (ps_if (pt_not (pt_val (pe_cl c__law_is_refused hr (by decide) rfl (pa_cons (pv 1) (pa_cons (pv 6) (pa_cons (pv 3) pa_nil)))))) (pss_one (ps_ret pe_bl)) pss_nil)
      (pss_cons (ps_set (i := 7) sc_law.nd rfl (Or.inl rfl) (pe_cl c_opened_parcel hr (by decide) rfl (pa_cons (pv 6) (pa_cons (pv 3) pa_nil))))
      (pss_one (ps_if (PW.pt (pw_or (pt_not (pt_val (pe_cg c__law_is_same hr hG (by decide) rfl (pa_cons (pv 7) (pa_cons (pe_tup (pa_cons (pv 4) (pa_cons (pv 5) pa_nil))) pa_nil))))) (pw_or1 (pt_cmpR (r := rNeD K) (op_neD hr.units) (pe_cl c_parcel_of hr (by decide) rfl (pa_cons (pe_ix (r := rIxT K) ix_tup (pv 7) pe_int (fun _ _ => rfl)) (pa_cons (pe_ix (r := rIxT K) ix_tup (pv 7) pe_int (fun _ _ => rfl)) pa_nil))) (pv 6) (nomark _))))) (pss_one (ps_ret pe_bl)) pss_nil)))))))))))))))
      (pss_one (ps_ret pe_bl)))), ?_⟩
    try dsimp only [cxOf, Cx.nox, Cx.wish]
    refine st_of (σ' := [some _, none, none, none, none, none, none, none, none, none, none]) rfl ?_
    wtm_at "jw"
    refine ⟨a, ns, rfl, hS, hl, fun p c H0 s0 hp hc d0 => ?_⟩
    have w0 := d0.drew
    wtm_at "jw"
    refine f_range (fun i σ H' => Drew p c H0 H' ∧ ∃ (v2 v3 v4 v5 v6 v7 v8 v9 v10 : Option V), σ = [some (.ref a), some (.ref p), v2, v3, v4, v5, v6, v7, v8, v9, v10])
      ⟨w0, none, none, none, none, none, none, none, none, none, rfl⟩ (fun i σ H' hi h => ?_) (fun σ H' h => ?_)
    · obtain ⟨w1, v2, v3, v4, v5, v6, v7, v8, v9, v10, rfl⟩ := h
      wtm_at "jw"
      intro B hB
      wtm_at "jw"
      refine pickL (fun z => 1 ≤ z ∧ z ≤ 4) [2, 1, 3, 4, 2] w1 hB rfl (by simp) (by simp) (by simp) fun z1 H2 hz1 _ w2 => ?_
      obtain ⟨n, rfl⟩ : ∃ n : Nat, z1 = (n : Int) := ⟨z1.toNat, by omega⟩
      wtm_at "jw"
      refine ⟨p, c, n, rfl, w2.at_, by omega, by omega, fun x t f en go ps H3 e3 hx G0 => ?_⟩
      have w3 := w2.trans e3
      wtm_at "jw"
      refine ⟨p, c, n, rfl, w3.at_, by omega, fun y st H4 e4 hy l2 l44 hst => ?_⟩
      have w4 := w3.trans e4
      have hx4 := hx.tps (e4.tps w3.at_)
      have G := G0 st l2 l44 hst
      have hlen := G.len
      have hlp := G.lp
      have hle := G.le
      have hlg := G.lg
      wtm_at "jw"
      refine ⟨x, y, t, f, en, go, ps, st, rfl, hx4, hy, by omega, by omega, by omega, by omega, fun r H5 s5 hr5 => ?_⟩
      have hx5 := hx4.same s5
      have hy5 := hy.same s5
      wtm_at "jw"
      refine ⟨x, y, t, f, en, go, ps, st, rfl, hx5, hy5, by omega, by omega, by omega, by omega, fun told H6 s6 hto => ?_⟩
      have hx6 := hx5.same s6
      have hy6 := hy5.same s6
      have hr6 := hr5.same s6
      wtm_at "jw"
      refine ⟨told, _, rfl, hto, by omega, fun H7 s7 => ?_⟩
      have hx7 := hx6.same s7
      have hy7 := hy6.same s7
      have hr7 := hr6.same s7
      wtm_at "jw"
      refine i_neS' (hto.same s7).dp hr7.dp (shp_ints _) (by decide) ?_
      wtm_at "jw"
      have op : openN (enc t f en go ps st) n = some (t, f, en, go, ps, st) := open_whole G.le G.lg G.e0 G.g0 l2
      refine ⟨r, n, rfl, by omega, .inl ⟨_, hr7, G.row, by omega, fun o H8 s8 ho => ?_⟩⟩
      rw [op] at ho
      have ho' : TD K H8 o (pclD (t, f, en, go, ps, st)) := ho
      have hx8 := hx7.same s8
      have hy8 := hy7.same s8
      have hr8 := hr7.same s8
      have rp : Rp 4 300000 (pclD (t, f, en, go, ps, st)) := by have := G.rp (n := st.length); rw [List.take_length] at this; exact this
      wtm_at "jw"
      intro W hW
      have s9 := same_new (o := .tup [x, y]) hW
      have hdue : TD K (upd H8 W (.tup [x, y])) (.ref W) (pclD (t, f, en, go, ps, st)) := TD.new hW (.cons hx8 (.cons hy8 .nil))
      have ho9 := ho'.same s9
      have hx9 := hx8.same s9
      have hy9 := hy8.same s9
      have hr9 := hr8.same s9
      generalize upd H8 W (.tup [x, y]) = H9 at s9 hdue ho9 hx9 hy9 hr9 ⊢
      wtm_at "jw"
      refine ⟨o, .ref W, _, 4, 4, 300000, rfl, ho9, hdue, shp_pcl, by decide, rp, by decide, by decide, ⟨_, rfl⟩, ?_⟩
      have w9 := ((((w4.same s5).same s6).same s7).same s8).same s9
      wtm_at "jw"
      rw [List.length_map, List.length_map, hlen]
      refine drawL w9 (by omega) (by omega) fun z2 H10 z20 z21 e10 w10 => ?_
      have t10 := e10.tps w9.at_
      have hx10 := hx9.tps t10
      have hy10 := hy9.tps t10
      have hr10 := hr9.tps t10
      wtm_at "jw"
      intro L hL
      have hs1 := G.s1
      have hs4 := G.s4
      obtain ⟨lst, hlst⟩ : ∃ l : List V, [V.int 0, V.int (3 + 2 * (n : Int) - 1), V.int (3 + 2 * (n : Int)), V.int (((3 + 2 * n + 2 * ps.length + st.length : Nat) : Int) - (st.length : Int) + 2 - 1), V.int (((3 + 2 * n + 2 * ps.length + st.length : Nat) : Int) - (st.length : Int) + 2), V.int (((3 + 2 * n + 2 * ps.length + st.length : Nat) : Int) - 1), V.int z2] = l := ⟨_, rfl⟩
      have hmem : ∀ w ∈ lst, ∃ m : Nat, w = .int (m : Int) ∧ m ≤ (enc t f en go ps st).length := by
        intro w hw
        rw [← hlst] at hw
        simp only [List.mem_cons, List.not_mem_nil, or_false] at hw
        rcases hw with h | h | h | h | h | h | h
        · exact ⟨0, h, by omega⟩
        · exact ⟨2 + 2 * n, by rw [h]; congr 1; omega, by omega⟩
        · exact ⟨3 + 2 * n, by rw [h]; congr 1, by omega⟩
        · exact ⟨3 + 2 * n + 2 * ps.length + 1, by rw [h]; congr 1; omega, by omega⟩
        · exact ⟨3 + 2 * n + 2 * ps.length + 2, by rw [h]; congr 1; omega, by omega⟩
        · exact ⟨3 + 2 * n + 2 * ps.length + st.length - 1, by rw [h]; congr 1; omega, by omega⟩
        · exact ⟨z2.toNat, by rw [h]; congr 1; omega, by omega⟩
      rw [hlst]
      have w11 := w10.new (o := .lst lst) hL
      have s11 := same_new (o := .lst lst) hL
      have hL11 := upd_same (H := H10) (a := L) (o := .lst lst)
      have hx11 := hx10.same s11
      have hy11 := hy10.same s11
      have hr11 := hr10.same s11
      generalize upd H10 L (.lst lst) = H11 at w11 s11 hL11 hx11 hy11 hr11 ⊢
      wtm_at "jw"
      refine f_list (xs := lst) (fun j σ H' => Same H11 H' ∧ ∃ (v10 : Option V), σ = [some (.ref a), some (.ref p), some (.int (0 + (i : Int))), some (.int (n : Int)), some x, some y, some r, some told, some (.int (((3 + 2 * n + 2 * ps.length + st.length : Nat) : Int) - (st.length : Int) + 2)), some (.int (3 + 2 * (n : Int))), v10]) ⟨Same.refl _, _, rfl⟩ (fun j σ H' _ h => SqL.of (h.1 _ _ hL11)) (fun j w σ H' hj h => ?_) (fun σ H' h => ?_)
      · obtain ⟨s12, v10, rfl⟩ := h
        obtain ⟨m, rfl, hm⟩ := hmem w (List.mem_of_getElem? hj)
        wtm_at "jw"
        refine ⟨r, x, y, n, m, t, f, en, go, ps, st, rfl, G, hr11.same s12, hx11.same s12, hy11.same s12, hm, fun H13 s13 => ?_⟩
        wtm_at "jw"
        exact ⟨s12.trans s13, _, rfl⟩
      obtain ⟨s12, v10, rfl⟩ := h
      have w12 := w11.same s12
      have hx12 := hx11.same s12
      have hy12 := hy11.same s12
      have hr12 := hr11.same s12
      wtm_at "jw"
      refine ⟨p, c, r, n, t, f, en, go, ps, st, rfl, w12.at_, G, hr12, fun H13 e13 => ?_⟩
      have w13 := w12.trans e13
      have t13 := e13.tps w12.at_
      have hx13 := hx12.tps t13
      have hy13 := hy12.tps t13
      have hr13 := hr12.tps t13
      wtm_at "jw"
      refine ⟨r, n, rfl, by omega, .inl ⟨_, hr13, G.row, by omega, fun o2 H14 s14 ho2 => ?_⟩⟩
      rw [op] at ho2
      have ho2' : TD K H14 o2 (.tuple [factsD t f en go ps, .tuple (st.map PyData.int)]) := ho2
      have hx14 := hx13.same s14
      have hy14 := hy13.same s14
      have hr14 := hr13.same s14
      wtm_at "jw"
      intro W2 hW2
      have s15 := same_new (o := .tup [x, y]) hW2
      have hdue2 : TD K (upd H14 W2 (.tup [x, y])) (.ref W2) (pclD (t, f, en, go, ps, st)) := TD.new hW2 (.cons hx14 (.cons hy14 .nil))
      have ho15 := ho2'.same s15
      have hr15 := hr14.same s15
      generalize upd H14 W2 (.tup [x, y]) = H15 at s15 hdue2 ho15 hr15 ⊢
      wtm_at "jw"
      refine ⟨o2, .ref W2, _, 4, 4, 300000, rfl, ho15, hdue2, shp_pcl, by decide, rp, by decide, by decide, ⟨_, rfl⟩, ?_⟩
      wtm_at "jw"
      rename_i y0 hy0 y1 hy1
      refine ⟨y0, y1, t, f, en, go, ps, st, rfl, hy0, hy1, by omega, by omega, by omega, by omega, fun rr H16 s16 hrr => ?_⟩
      have hr16 := hr15.same s16
      wtm_at "jw"
      refine i_neS' hrr.dp hr16.dp (shp_ints _) (by decide) ?_
      wtm_at "jw"
      exact ⟨((w13.same s14).same s15).same s16, _, _, _, _, _, _, _, _, _, rfl⟩
    · obtain ⟨w1, v2, v3, v4, v5, v6, v7, v8, v9, v10, rfl⟩ := h
      wtm_at "jw"
      exact k _
theorem law_hands {K : PySem.W.Frag} {H : Hp} (a : Addr) (ns : List Int) (hl : ns.length ≤ 63) (hb : ∀ z ∈ ns, Builtin.Int.intBits z ≤ 1048576) (h : SqL K H a (ns.map V.int)) :
    sp_law K [.ref a] H (fun v _ => v = .bl true) fun _ _ _ => False := ⟨a, ns, rfl, h, hl, fun _ => rfl⟩
theorem all_mk {l : PySem.W.OpenLaw} {w : World} {K : PySem.W.Frag} {h : Heap} {mg : Str → Option Value} {fa : Addr} (X : K.In h) (G : h.Ns mainGlobals mg) (hfa : mg "law" = some (.ref fa))
    {f__law_begin : Addr} {od__law_begin an__law_begin : Option Addr} {sl__law_begin : Array (Option Value)} {oc__law_begin kV__law_begin dc__law_begin pm__law_begin cd__law_begin ct__law_begin : Value}
    {f__law_draw : Addr} {od__law_draw an__law_draw : Option Addr} {sl__law_draw : Array (Option Value)} {oc__law_draw kV__law_draw dc__law_draw pm__law_draw cd__law_draw ct__law_draw : Value}
    {f__law_pick : Addr} {od__law_pick an__law_pick : Option Addr} {sl__law_pick : Array (Option Value)} {oc__law_pick kV__law_pick dc__law_pick pm__law_pick cd__law_pick ct__law_pick : Value}
    {f__law_some_facts : Addr} {od__law_some_facts an__law_some_facts : Option Addr} {sl__law_some_facts : Array (Option Value)} {oc__law_some_facts kV__law_some_facts dc__law_some_facts pm__law_some_facts cd__law_some_facts ct__law_some_facts : Value}
    {f__law_some_state : Addr} {od__law_some_state an__law_some_state : Option Addr} {sl__law_some_state : Array (Option Value)} {oc__law_some_state kV__law_some_state dc__law_some_state pm__law_some_state cd__law_some_state ct__law_some_state : Value}
    {f__law_row_of : Addr} {od__law_row_of an__law_row_of : Option Addr} {sl__law_row_of : Array (Option Value)} {oc__law_row_of kV__law_row_of dc__law_row_of pm__law_row_of cd__law_row_of ct__law_row_of : Value}
    {f_tick_number : Addr} {od_tick_number an_tick_number : Option Addr} {sl_tick_number : Array (Option Value)} {oc_tick_number kV_tick_number dc_tick_number pm_tick_number cd_tick_number ct_tick_number : Value}
    {f_parcel_of : Addr} {od_parcel_of an_parcel_of : Option Addr} {sl_parcel_of : Array (Option Value)} {oc_parcel_of kV_parcel_of dc_parcel_of pm_parcel_of cd_parcel_of ct_parcel_of : Value}
    {f_is_int : Addr} {od_is_int an_is_int : Option Addr} {sl_is_int : Array (Option Value)} {oc_is_int kV_is_int dc_is_int pm_is_int cd_is_int ct_is_int : Value}
    {f_is_ints : Addr} {od_is_ints an_is_ints : Option Addr} {sl_is_ints : Array (Option Value)} {oc_is_ints kV_is_ints dc_is_ints pm_is_ints cd_is_ints ct_is_ints : Value}
    {f_is_ints_between : Addr} {od_is_ints_between an_is_ints_between : Option Addr} {sl_is_ints_between : Array (Option Value)} {oc_is_ints_between kV_is_ints_between dc_is_ints_between pm_is_ints_between cd_is_ints_between ct_is_ints_between : Value}
    {f_tick_of : Addr} {od_tick_of an_tick_of : Option Addr} {sl_tick_of : Array (Option Value)} {oc_tick_of kV_tick_of dc_tick_of pm_tick_of cd_tick_of ct_tick_of : Value}
    {f_opened_parcel : Addr} {od_opened_parcel an_opened_parcel : Option Addr} {sl_opened_parcel : Array (Option Value)} {oc_opened_parcel kV_opened_parcel dc_opened_parcel pm_opened_parcel cd_opened_parcel ct_opened_parcel : Value}
    {f__law_is_same : Addr} {od__law_is_same an__law_is_same : Option Addr} {sl__law_is_same : Array (Option Value)} {oc__law_is_same kV__law_is_same dc__law_is_same pm__law_is_same cd__law_is_same ct__law_is_same : Value}
    {f__law_is_refused : Addr} {od__law_is_refused an__law_is_refused : Option Addr} {sl__law_is_refused : Array (Option Value)} {oc__law_is_refused kV__law_is_refused dc__law_is_refused pm__law_is_refused cd__law_is_refused ct__law_is_refused : Value}
    {f__law_is_int : Addr} {od__law_is_int an__law_is_int : Option Addr} {sl__law_is_int : Array (Option Value)} {oc__law_is_int kV__law_is_int dc__law_is_int pm__law_is_int cd__law_is_int ct__law_is_int : Value}
    {f__law_is_ints : Addr} {od__law_is_ints an__law_is_ints : Option Addr} {sl__law_is_ints : Array (Option Value)} {oc__law_is_ints kV__law_is_ints dc__law_is_ints pm__law_is_ints cd__law_is_ints ct__law_is_ints : Value}
    {f__law_is_cut_right : Addr} {od__law_is_cut_right an__law_is_cut_right : Option Addr} {sl__law_is_cut_right : Array (Option Value)} {oc__law_is_cut_right kV__law_is_cut_right dc__law_is_cut_right pm__law_is_cut_right cd__law_is_cut_right ct__law_is_cut_right : Value}
    {f_law : Addr} {od_law an_law : Option Addr} {sl_law : Array (Option Value)} {oc_law kV_law dc_law pm_law cd_law ct_law : Value}
    (a__law_begin : PySem.W.nsIn K mainGlobals "_law_begin" = some (some (.ref f__law_begin))) (l__law_begin : K.lookup f__law_begin = some ⟨oc__law_begin, od__law_begin, .func (PySem.W.fnOf "_law_begin" "_law_begin" (defArgs s__law_begin) (defBody s__law_begin) (defScope s__law_begin) .none kV__law_begin dc__law_begin pm__law_begin an__law_begin cd__law_begin ct__law_begin), sl__law_begin⟩) (c__law_begin : PySem.W.codeIn K cd__law_begin "_law_begin" = true) (k__law_begin : PySem.W.keepIn K (.ref f__law_begin) = true)
    (a__law_draw : PySem.W.nsIn K mainGlobals "_law_draw" = some (some (.ref f__law_draw))) (l__law_draw : K.lookup f__law_draw = some ⟨oc__law_draw, od__law_draw, .func (PySem.W.fnOf "_law_draw" "_law_draw" (defArgs s__law_draw) (defBody s__law_draw) (defScope s__law_draw) .none kV__law_draw dc__law_draw pm__law_draw an__law_draw cd__law_draw ct__law_draw), sl__law_draw⟩) (c__law_draw : PySem.W.codeIn K cd__law_draw "_law_draw" = true) (k__law_draw : PySem.W.keepIn K (.ref f__law_draw) = true)
    (a__law_pick : PySem.W.nsIn K mainGlobals "_law_pick" = some (some (.ref f__law_pick))) (l__law_pick : K.lookup f__law_pick = some ⟨oc__law_pick, od__law_pick, .func (PySem.W.fnOf "_law_pick" "_law_pick" (defArgs s__law_pick) (defBody s__law_pick) (defScope s__law_pick) .none kV__law_pick dc__law_pick pm__law_pick an__law_pick cd__law_pick ct__law_pick), sl__law_pick⟩) (c__law_pick : PySem.W.codeIn K cd__law_pick "_law_pick" = true) (k__law_pick : PySem.W.keepIn K (.ref f__law_pick) = true)
    (a__law_some_facts : PySem.W.nsIn K mainGlobals "_law_some_facts" = some (some (.ref f__law_some_facts))) (l__law_some_facts : K.lookup f__law_some_facts = some ⟨oc__law_some_facts, od__law_some_facts, .func (PySem.W.fnOf "_law_some_facts" "_law_some_facts" (defArgs s__law_some_facts) (defBody s__law_some_facts) (defScope s__law_some_facts) .none kV__law_some_facts dc__law_some_facts pm__law_some_facts an__law_some_facts cd__law_some_facts ct__law_some_facts), sl__law_some_facts⟩) (c__law_some_facts : PySem.W.codeIn K cd__law_some_facts "_law_some_facts" = true) (k__law_some_facts : PySem.W.keepIn K (.ref f__law_some_facts) = true)
    (a__law_some_state : PySem.W.nsIn K mainGlobals "_law_some_state" = some (some (.ref f__law_some_state))) (l__law_some_state : K.lookup f__law_some_state = some ⟨oc__law_some_state, od__law_some_state, .func (PySem.W.fnOf "_law_some_state" "_law_some_state" (defArgs s__law_some_state) (defBody s__law_some_state) (defScope s__law_some_state) .none kV__law_some_state dc__law_some_state pm__law_some_state an__law_some_state cd__law_some_state ct__law_some_state), sl__law_some_state⟩) (c__law_some_state : PySem.W.codeIn K cd__law_some_state "_law_some_state" = true) (k__law_some_state : PySem.W.keepIn K (.ref f__law_some_state) = true)
    (a__law_row_of : PySem.W.nsIn K mainGlobals "_law_row_of" = some (some (.ref f__law_row_of))) (l__law_row_of : K.lookup f__law_row_of = some ⟨oc__law_row_of, od__law_row_of, .func (PySem.W.fnOf "_law_row_of" "_law_row_of" (defArgs s__law_row_of) (defBody s__law_row_of) (defScope s__law_row_of) .none kV__law_row_of dc__law_row_of pm__law_row_of an__law_row_of cd__law_row_of ct__law_row_of), sl__law_row_of⟩) (c__law_row_of : PySem.W.codeIn K cd__law_row_of "_law_row_of" = true) (k__law_row_of : PySem.W.keepIn K (.ref f__law_row_of) = true)
    (a_tick_number : PySem.W.nsIn K mainGlobals "tick_number" = some (some (.ref f_tick_number))) (l_tick_number : K.lookup f_tick_number = some ⟨oc_tick_number, od_tick_number, .func (PySem.W.fnOf "tick_number" "tick_number" (defArgs s_tick_number) (defBody s_tick_number) (defScope s_tick_number) .none kV_tick_number dc_tick_number pm_tick_number an_tick_number cd_tick_number ct_tick_number), sl_tick_number⟩) (c_tick_number : PySem.W.codeIn K cd_tick_number "tick_number" = true) (k_tick_number : PySem.W.keepIn K (.ref f_tick_number) = true)
    (a_parcel_of : PySem.W.nsIn K mainGlobals "parcel_of" = some (some (.ref f_parcel_of))) (l_parcel_of : K.lookup f_parcel_of = some ⟨oc_parcel_of, od_parcel_of, .func (PySem.W.fnOf "parcel_of" "parcel_of" (defArgs s_parcel_of) (defBody s_parcel_of) (defScope s_parcel_of) .none kV_parcel_of dc_parcel_of pm_parcel_of an_parcel_of cd_parcel_of ct_parcel_of), sl_parcel_of⟩) (c_parcel_of : PySem.W.codeIn K cd_parcel_of "parcel_of" = true) (k_parcel_of : PySem.W.keepIn K (.ref f_parcel_of) = true)
    (a_is_int : PySem.W.nsIn K mainGlobals "is_int" = some (some (.ref f_is_int))) (l_is_int : K.lookup f_is_int = some ⟨oc_is_int, od_is_int, .func (PySem.W.fnOf "is_int" "is_int" (defArgs s_is_int) (defBody s_is_int) (defScope s_is_int) .none kV_is_int dc_is_int pm_is_int an_is_int cd_is_int ct_is_int), sl_is_int⟩) (c_is_int : PySem.W.codeIn K cd_is_int "is_int" = true) (k_is_int : PySem.W.keepIn K (.ref f_is_int) = true)
    (a_is_ints : PySem.W.nsIn K mainGlobals "is_ints" = some (some (.ref f_is_ints))) (l_is_ints : K.lookup f_is_ints = some ⟨oc_is_ints, od_is_ints, .func (PySem.W.fnOf "is_ints" "is_ints" (defArgs s_is_ints) (defBody s_is_ints) (defScope s_is_ints) .none kV_is_ints dc_is_ints pm_is_ints an_is_ints cd_is_ints ct_is_ints), sl_is_ints⟩) (c_is_ints : PySem.W.codeIn K cd_is_ints "is_ints" = true) (k_is_ints : PySem.W.keepIn K (.ref f_is_ints) = true)
    (a_is_ints_between : PySem.W.nsIn K mainGlobals "is_ints_between" = some (some (.ref f_is_ints_between))) (l_is_ints_between : K.lookup f_is_ints_between = some ⟨oc_is_ints_between, od_is_ints_between, .func (PySem.W.fnOf "is_ints_between" "is_ints_between" (defArgs s_is_ints_between) (defBody s_is_ints_between) (defScope s_is_ints_between) .none kV_is_ints_between dc_is_ints_between pm_is_ints_between an_is_ints_between cd_is_ints_between ct_is_ints_between), sl_is_ints_between⟩) (c_is_ints_between : PySem.W.codeIn K cd_is_ints_between "is_ints_between" = true) (k_is_ints_between : PySem.W.keepIn K (.ref f_is_ints_between) = true)
    (a_tick_of : PySem.W.nsIn K mainGlobals "tick_of" = some (some (.ref f_tick_of))) (l_tick_of : K.lookup f_tick_of = some ⟨oc_tick_of, od_tick_of, .func (PySem.W.fnOf "tick_of" "tick_of" (defArgs s_tick_of) (defBody s_tick_of) (defScope s_tick_of) .none kV_tick_of dc_tick_of pm_tick_of an_tick_of cd_tick_of ct_tick_of), sl_tick_of⟩) (c_tick_of : PySem.W.codeIn K cd_tick_of "tick_of" = true) (k_tick_of : PySem.W.keepIn K (.ref f_tick_of) = true)
    (a_opened_parcel : PySem.W.nsIn K mainGlobals "opened_parcel" = some (some (.ref f_opened_parcel))) (l_opened_parcel : K.lookup f_opened_parcel = some ⟨oc_opened_parcel, od_opened_parcel, .func (PySem.W.fnOf "opened_parcel" "opened_parcel" (defArgs s_opened_parcel) (defBody s_opened_parcel) (defScope s_opened_parcel) .none kV_opened_parcel dc_opened_parcel pm_opened_parcel an_opened_parcel cd_opened_parcel ct_opened_parcel), sl_opened_parcel⟩) (c_opened_parcel : PySem.W.codeIn K cd_opened_parcel "opened_parcel" = true) (k_opened_parcel : PySem.W.keepIn K (.ref f_opened_parcel) = true)
    (a__law_is_same : PySem.W.nsIn K mainGlobals "_law_is_same" = some (some (.ref f__law_is_same))) (l__law_is_same : K.lookup f__law_is_same = some ⟨oc__law_is_same, od__law_is_same, .func (PySem.W.fnOf "_law_is_same" "_law_is_same" (defArgs s__law_is_same) (defBody s__law_is_same) (defScope s__law_is_same) .none kV__law_is_same dc__law_is_same pm__law_is_same an__law_is_same cd__law_is_same ct__law_is_same), sl__law_is_same⟩) (c__law_is_same : PySem.W.codeIn K cd__law_is_same "_law_is_same" = true) (k__law_is_same : PySem.W.keepIn K (.ref f__law_is_same) = true)
    (a__law_is_refused : PySem.W.nsIn K mainGlobals "_law_is_refused" = some (some (.ref f__law_is_refused))) (l__law_is_refused : K.lookup f__law_is_refused = some ⟨oc__law_is_refused, od__law_is_refused, .func (PySem.W.fnOf "_law_is_refused" "_law_is_refused" (defArgs s__law_is_refused) (defBody s__law_is_refused) (defScope s__law_is_refused) .none kV__law_is_refused dc__law_is_refused pm__law_is_refused an__law_is_refused cd__law_is_refused ct__law_is_refused), sl__law_is_refused⟩) (c__law_is_refused : PySem.W.codeIn K cd__law_is_refused "_law_is_refused" = true) (k__law_is_refused : PySem.W.keepIn K (.ref f__law_is_refused) = true)
    (a__law_is_int : PySem.W.nsIn K mainGlobals "_law_is_int" = some (some (.ref f__law_is_int))) (l__law_is_int : K.lookup f__law_is_int = some ⟨oc__law_is_int, od__law_is_int, .func (PySem.W.fnOf "_law_is_int" "_law_is_int" (defArgs s__law_is_int) (defBody s__law_is_int) (defScope s__law_is_int) .none kV__law_is_int dc__law_is_int pm__law_is_int an__law_is_int cd__law_is_int ct__law_is_int), sl__law_is_int⟩) (c__law_is_int : PySem.W.codeIn K cd__law_is_int "_law_is_int" = true) (k__law_is_int : PySem.W.keepIn K (.ref f__law_is_int) = true)
    (a__law_is_ints : PySem.W.nsIn K mainGlobals "_law_is_ints" = some (some (.ref f__law_is_ints))) (l__law_is_ints : K.lookup f__law_is_ints = some ⟨oc__law_is_ints, od__law_is_ints, .func (PySem.W.fnOf "_law_is_ints" "_law_is_ints" (defArgs s__law_is_ints) (defBody s__law_is_ints) (defScope s__law_is_ints) .none kV__law_is_ints dc__law_is_ints pm__law_is_ints an__law_is_ints cd__law_is_ints ct__law_is_ints), sl__law_is_ints⟩) (c__law_is_ints : PySem.W.codeIn K cd__law_is_ints "_law_is_ints" = true) (k__law_is_ints : PySem.W.keepIn K (.ref f__law_is_ints) = true)
    (a__law_is_cut_right : PySem.W.nsIn K mainGlobals "_law_is_cut_right" = some (some (.ref f__law_is_cut_right))) (l__law_is_cut_right : K.lookup f__law_is_cut_right = some ⟨oc__law_is_cut_right, od__law_is_cut_right, .func (PySem.W.fnOf "_law_is_cut_right" "_law_is_cut_right" (defArgs s__law_is_cut_right) (defBody s__law_is_cut_right) (defScope s__law_is_cut_right) .none kV__law_is_cut_right dc__law_is_cut_right pm__law_is_cut_right an__law_is_cut_right cd__law_is_cut_right ct__law_is_cut_right), sl__law_is_cut_right⟩) (c__law_is_cut_right : PySem.W.codeIn K cd__law_is_cut_right "_law_is_cut_right" = true) (k__law_is_cut_right : PySem.W.keepIn K (.ref f__law_is_cut_right) = true)
    (a_law : PySem.W.nsIn K mainGlobals "law" = some (some (.ref f_law))) (l_law : K.lookup f_law = some ⟨oc_law, od_law, .func (PySem.W.fnOf "law" "law" (defArgs s_law) (defBody s_law) (defScope s_law) .none kV_law dc_law pm_law an_law cd_law ct_law), sl_law⟩) (c_law : PySem.W.codeIn K cd_law "law" = true) (k_law : PySem.W.keepIn K (.ref f_law) = true)
    (z_int : PySem.W.nsIn K mainGlobals "int" = some none)
    (z_len : PySem.W.nsIn K mainGlobals "len" = some none)
    (z_abs : PySem.W.nsIn K mainGlobals "abs" = some none)
    (z_range : PySem.W.nsIn K mainGlobals "range" = some none)
    (z_tuple : PySem.W.nsIn K mainGlobals "tuple" = some none)
    (z_isinstance : PySem.W.nsIn K mainGlobals "isinstance" = some none)
    (z_bool : PySem.W.nsIn K mainGlobals "bool" = some none)
    (z_repr : PySem.W.nsIn K mainGlobals "repr" = some none)
    (z_list : PySem.W.nsIn K mainGlobals "list" = some none)
    (z_all : PySem.W.nsIn K mainGlobals "all" = some none)
    {u_LOW : Value} (n_LOW : PySem.W.nsIn K mainGlobals "LOW" = some (some u_LOW)) (r_LOW : RelV (.int (-32768)) u_LOW)
    {u_MOST_NUMBER : Value} (n_MOST_NUMBER : PySem.W.nsIn K mainGlobals "MOST_NUMBER" = some (some u_MOST_NUMBER)) (r_MOST_NUMBER : RelV (.int 65536) u_MOST_NUMBER)
    : ∃ fd : FuncData, (∀ (s : Shared) (v : Value), BindsTo s fd ⟨[v], []⟩ [("script", v)]) ∧ ∀ base : Heap, K.In base → base.Ns mainGlobals mg → Gok l.prog w K mg base 6 fa fd ["script"] (sp_law K) := by
  have e := hfa.symm.trans (PySem.W.mg_of X G a_law)
  cases e
  have T : Txt mg := ⟨PySem.W.mg_none_of X G z_int, PySem.W.mg_none_of X G z_len, PySem.W.mg_none_of X G z_abs, PySem.W.mg_none_of X G z_range, PySem.W.mg_none_of X G z_tuple, PySem.W.mg_none_of X G z_isinstance, PySem.W.mg_none_of X G z_bool, PySem.W.mg_none_of X G z_repr, PySem.W.mg_none_of X G z_list, PySem.W.mg_none_of X G z_all, ⟨_, PySem.W.mg_of X G n_LOW, r_LOW⟩, ⟨_, PySem.W.mg_of X G n_MOST_NUMBER, r_MOST_NUMBER⟩⟩
  have F__law_begin := fun_mk (st := s__law_begin) l__law_begin c__law_begin k__law_begin
  have D__law_begin : Df K mg "_law_begin" s__law_begin f__law_begin _ ["script"] := ⟨F__law_begin, PySem.W.mg_of X G a__law_begin, F__law_begin.binds (ps := ["script"]) fun _ _ _ _ _ _ us hl => match us, hl with | [_], _ => rfl⟩
  have F__law_draw := fun_mk (st := s__law_draw) l__law_draw c__law_draw k__law_draw
  have D__law_draw : Df K mg "_law_draw" s__law_draw f__law_draw _ ["d", "many"] := ⟨F__law_draw, PySem.W.mg_of X G a__law_draw, F__law_draw.binds (ps := ["d", "many"]) fun _ _ _ _ _ _ us hl => match us, hl with | [_, _], _ => rfl⟩
  have F__law_pick := fun_mk (st := s__law_pick) l__law_pick c__law_pick k__law_pick
  have D__law_pick : Df K mg "_law_pick" s__law_pick f__law_pick _ ["d", "row"] := ⟨F__law_pick, PySem.W.mg_of X G a__law_pick, F__law_pick.binds (ps := ["d", "row"]) fun _ _ _ _ _ _ us hl => match us, hl with | [_, _], _ => rfl⟩
  have F__law_some_facts := fun_mk (st := s__law_some_facts) l__law_some_facts c__law_some_facts k__law_some_facts
  have D__law_some_facts : Df K mg "_law_some_facts" s__law_some_facts f__law_some_facts _ ["d", "seats"] := ⟨F__law_some_facts, PySem.W.mg_of X G a__law_some_facts, F__law_some_facts.binds (ps := ["d", "seats"]) fun _ _ _ _ _ _ us hl => match us, hl with | [_, _], _ => rfl⟩
  have F__law_some_state := fun_mk (st := s__law_some_state) l__law_some_state c__law_some_state k__law_some_state
  have D__law_some_state : Df K mg "_law_some_state" s__law_some_state f__law_some_state _ ["d", "seats"] := ⟨F__law_some_state, PySem.W.mg_of X G a__law_some_state, F__law_some_state.binds (ps := ["d", "seats"]) fun _ _ _ _ _ _ us hl => match us, hl with | [_, _], _ => rfl⟩
  have F__law_row_of := fun_mk (st := s__law_row_of) l__law_row_of c__law_row_of k__law_row_of
  have D__law_row_of : Df K mg "_law_row_of" s__law_row_of f__law_row_of _ ["facts", "state"] := ⟨F__law_row_of, PySem.W.mg_of X G a__law_row_of, F__law_row_of.binds (ps := ["facts", "state"]) fun _ _ _ _ _ _ us hl => match us, hl with | [_, _], _ => rfl⟩
  have F_tick_number := fun_mk (st := s_tick_number) l_tick_number c_tick_number k_tick_number
  have D_tick_number : Df K mg "tick_number" s_tick_number f_tick_number _ ["tick"] := ⟨F_tick_number, PySem.W.mg_of X G a_tick_number, F_tick_number.binds (ps := ["tick"]) fun _ _ _ _ _ _ us hl => match us, hl with | [_], _ => rfl⟩
  have F_parcel_of := fun_mk (st := s_parcel_of) l_parcel_of c_parcel_of k_parcel_of
  have D_parcel_of : Df K mg "parcel_of" s_parcel_of f_parcel_of _ ["facts", "state"] := ⟨F_parcel_of, PySem.W.mg_of X G a_parcel_of, F_parcel_of.binds (ps := ["facts", "state"]) fun _ _ _ _ _ _ us hl => match us, hl with | [_, _], _ => rfl⟩
  have F_is_int := fun_mk (st := s_is_int) l_is_int c_is_int k_is_int
  have D_is_int : Df K mg "is_int" s_is_int f_is_int _ ["thing"] := ⟨F_is_int, PySem.W.mg_of X G a_is_int, F_is_int.binds (ps := ["thing"]) fun _ _ _ _ _ _ us hl => match us, hl with | [_], _ => rfl⟩
  have F_is_ints := fun_mk (st := s_is_ints) l_is_ints c_is_ints k_is_ints
  have D_is_ints : Df K mg "is_ints" s_is_ints f_is_ints _ ["thing"] := ⟨F_is_ints, PySem.W.mg_of X G a_is_ints, F_is_ints.binds (ps := ["thing"]) fun _ _ _ _ _ _ us hl => match us, hl with | [_], _ => rfl⟩
  have F_is_ints_between := fun_mk (st := s_is_ints_between) l_is_ints_between c_is_ints_between k_is_ints_between
  have D_is_ints_between : Df K mg "is_ints_between" s_is_ints_between f_is_ints_between _ ["thing", "low", "high"] := ⟨F_is_ints_between, PySem.W.mg_of X G a_is_ints_between, F_is_ints_between.binds (ps := ["thing", "low", "high"]) fun _ _ _ _ _ _ us hl => match us, hl with | [_, _, _], _ => rfl⟩
  have F_tick_of := fun_mk (st := s_tick_of) l_tick_of c_tick_of k_tick_of
  have D_tick_of : Df K mg "tick_of" s_tick_of f_tick_of _ ["number"] := ⟨F_tick_of, PySem.W.mg_of X G a_tick_of, F_tick_of.binds (ps := ["number"]) fun _ _ _ _ _ _ us hl => match us, hl with | [_], _ => rfl⟩
  have F_opened_parcel := fun_mk (st := s_opened_parcel) l_opened_parcel c_opened_parcel k_opened_parcel
  have D_opened_parcel : Df K mg "opened_parcel" s_opened_parcel f_opened_parcel _ ["numbers", "seats"] := ⟨F_opened_parcel, PySem.W.mg_of X G a_opened_parcel, F_opened_parcel.binds (ps := ["numbers", "seats"]) fun _ _ _ _ _ _ us hl => match us, hl with | [_, _], _ => rfl⟩
  have F__law_is_same := fun_mk (st := s__law_is_same) l__law_is_same c__law_is_same k__law_is_same
  have D__law_is_same : Df K mg "_law_is_same" s__law_is_same f__law_is_same _ ["told", "due"] := ⟨F__law_is_same, PySem.W.mg_of X G a__law_is_same, F__law_is_same.binds (ps := ["told", "due"]) fun _ _ _ _ _ _ us hl => match us, hl with | [_, _], _ => rfl⟩
  have F__law_is_refused := fun_mk (st := s__law_is_refused) l__law_is_refused c__law_is_refused k__law_is_refused
  have D__law_is_refused : Df K mg "_law_is_refused" s__law_is_refused f__law_is_refused _ ["d", "row", "seats"] := ⟨F__law_is_refused, PySem.W.mg_of X G a__law_is_refused, F__law_is_refused.binds (ps := ["d", "row", "seats"]) fun _ _ _ _ _ _ us hl => match us, hl with | [_, _, _], _ => rfl⟩
  have F__law_is_int := fun_mk (st := s__law_is_int) l__law_is_int c__law_is_int k__law_is_int
  have D__law_is_int : Df K mg "_law_is_int" s__law_is_int f__law_is_int _ ["thing"] := ⟨F__law_is_int, PySem.W.mg_of X G a__law_is_int, F__law_is_int.binds (ps := ["thing"]) fun _ _ _ _ _ _ us hl => match us, hl with | [_], _ => rfl⟩
  have F__law_is_ints := fun_mk (st := s__law_is_ints) l__law_is_ints c__law_is_ints k__law_is_ints
  have D__law_is_ints : Df K mg "_law_is_ints" s__law_is_ints f__law_is_ints _ ["row"] := ⟨F__law_is_ints, PySem.W.mg_of X G a__law_is_ints, F__law_is_ints.binds (ps := ["row"]) fun _ _ _ _ _ _ us hl => match us, hl with | [_], _ => rfl⟩
  have F__law_is_cut_right := fun_mk (st := s__law_is_cut_right) l__law_is_cut_right c__law_is_cut_right k__law_is_cut_right
  have D__law_is_cut_right : Df K mg "_law_is_cut_right" s__law_is_cut_right f__law_is_cut_right _ ["row", "seats", "facts", "state", "size"] := ⟨F__law_is_cut_right, PySem.W.mg_of X G a__law_is_cut_right, F__law_is_cut_right.binds (ps := ["row", "seats", "facts", "state", "size"]) fun _ _ _ _ _ _ us hl => match us, hl with | [_, _, _, _, _], _ => rfl⟩
  have F_law := fun_mk (st := s_law) l_law c_law k_law
  have D_law : Df K mg "law" s_law _ _ ["script"] := ⟨F_law, PySem.W.mg_of X G a_law, F_law.binds (ps := ["script"]) fun _ _ _ _ _ _ us hl => match us, hl with | [_], _ => rfl⟩
  refine ⟨PySem.W.fnOf "law" "law" (defArgs s_law) (defBody s_law) (defScope s_law) .none kV_law dc_law pm_law an_law cd_law ct_law, fun s v => .of_eq rfl, fun base _ _ => ?_⟩
  have C__law_begin : Cl l.prog w K mg base 1 "_law_begin" (sp__law_begin K) := D__law_begin.cl (ok__law_begin D__law_begin T )
  have C__law_draw : Cl l.prog w K mg base 1 "_law_draw" (sp__law_draw K) := D__law_draw.cl (ok__law_draw D__law_draw T )
  have C__law_pick : Cl l.prog w K mg base 2 "_law_pick" (sp__law_pick K) := D__law_pick.cl (ok__law_pick D__law_pick T C__law_draw)
  have C__law_some_facts : Cl l.prog w K mg base 3 "_law_some_facts" (sp__law_some_facts K) := D__law_some_facts.cl (ok__law_some_facts D__law_some_facts T C__law_pick C__law_draw)
  have C__law_some_state : Cl l.prog w K mg base 3 "_law_some_state" (sp__law_some_state K) := D__law_some_state.cl (ok__law_some_state D__law_some_state T C__law_pick C__law_draw)
  have C__law_row_of : Cl l.prog w K mg base 1 "_law_row_of" (sp__law_row_of K) := D__law_row_of.cl (ok__law_row_of D__law_row_of T )
  have C_tick_number : Cl l.prog w K mg base 1 "tick_number" (sp_tick_number K) := D_tick_number.cl (ok_tick_number D_tick_number T )
  have C_parcel_of : Cl l.prog w K mg base 2 "parcel_of" (sp_parcel_of K) := D_parcel_of.cl (ok_parcel_of D_parcel_of T C_tick_number)
  have C_is_int : Cl l.prog w K mg base 1 "is_int" (sp_is_int K) := D_is_int.cl (ok_is_int D_is_int T )
  have C_is_ints : Cl l.prog w K mg base 2 "is_ints" (sp_is_ints K) := D_is_ints.cl (ok_is_ints D_is_ints T C_is_int)
  have C_is_ints_between : Cl l.prog w K mg base 3 "is_ints_between" (sp_is_ints_between K) := D_is_ints_between.cl (ok_is_ints_between D_is_ints_between T C_is_ints)
  have C_tick_of : Cl l.prog w K mg base 1 "tick_of" (sp_tick_of K) := D_tick_of.cl (ok_tick_of D_tick_of T )
  have C_opened_parcel : Cl l.prog w K mg base 4 "opened_parcel" (sp_opened_parcel K) := D_opened_parcel.cl (ok_opened_parcel D_opened_parcel T C_is_ints_between C_tick_of)
  have C__law_is_same : Cg l.prog w K mg base 1 "_law_is_same" (sp__law_is_same K) := D__law_is_same.cg (ok__law_is_same D__law_is_same T )
  have C__law_is_refused : Cl l.prog w K mg base 5 "_law_is_refused" (sp__law_is_refused K) := D__law_is_refused.cl (ok__law_is_refused D__law_is_refused T C__law_pick C__law_draw C_opened_parcel)
  have C__law_is_int : Cl l.prog w K mg base 1 "_law_is_int" (sp__law_is_int K) := D__law_is_int.cl (ok__law_is_int D__law_is_int T )
  have C__law_is_ints : Cl l.prog w K mg base 2 "_law_is_ints" (sp__law_is_ints K) := D__law_is_ints.cl (ok__law_is_ints D__law_is_ints T C__law_is_int)
  have C__law_is_cut_right : Cg l.prog w K mg base 5 "_law_is_cut_right" (sp__law_is_cut_right K) := D__law_is_cut_right.cg (ok__law_is_cut_right D__law_is_cut_right T C_opened_parcel C__law_is_same)
  exact ok_law D_law T C__law_begin C__law_pick C__law_some_facts C__law_some_state C__law_row_of C_parcel_of C_opened_parcel C__law_is_same C__law_draw C__law_is_refused C__law_is_ints C__law_is_cut_right
theorem walk {l : PySem.W.OpenLaw} {q : Program} {loose : List Str} {XP : (Str → Option Value) → Heap → Prop} {YP : World → Heap → Prop} {d : DefRec} {K : Params → PySem.W.Frag} (hn : l.most = some 63) (hdf : d.params.defaults = [])
    (hY : ∀ (w : World) (h : Heap), YP w h → (K w.params).In h)
    (F : ∀ (w : World) (mg : Str → Option Value) (fa : Addr) (h : Heap), (K w.params).In h → h.Ns mainGlobals mg → mg d.name = some (.ref fa) →
      ∃ fd : FuncData, (∀ (s : Shared) (u : Value), BindsTo s fd ⟨[u], []⟩ [("script", u)]) ∧ ∀ base : Heap, (K w.params).In base → base.Ns mainGlobals mg → Gok l.prog w (K w.params) mg base 6 fa fd ["script"] (sp_law (K w.params))) :
    PySem.W.WalkO q loose XP YP l.row.toRowW d [] (fun f vs => PySem.call f vs) :=
  Jp.walk_cg (n := 63) (k := 6) (x := "script") (sp := fun w => sp_law (K w.params)) hn (by decide) hdf ⟨rfl, by decide, by decide⟩ hY F fun _ _ a ns hl hb _ hS => law_hands a ns hl hb hS
end Law
open PySem PySem.W PyProof.Rows in
set_option maxRecDepth 100000 in
set_option maxHeartbeats 0 in
theorem PySem.Challenge.cw_judgedplay_k56_parcels_holds : PySem.Challenge.rw_judgedplay_k56_parcels.Holds := by
  w_on; o_law; k_head; (case hw => w_witness2)
  k_fill
  refine Law.walk (l := PySem.Challenge.rw_judgedplay_k56_parcels) rfl rfl (fun w h Y => PySem.W.kIn_of Y) ?F
  case F =>
    intro w mg fa h KX G hmg
    refine' Law.all_mk KX G hmg ?a__law_begin ?l__law_begin ?c__law_begin ?k__law_begin ?a__law_draw ?l__law_draw ?c__law_draw ?k__law_draw ?a__law_pick ?l__law_pick ?c__law_pick ?k__law_pick ?a__law_some_facts ?l__law_some_facts ?c__law_some_facts ?k__law_some_facts ?a__law_some_state ?l__law_some_state ?c__law_some_state ?k__law_some_state ?a__law_row_of ?l__law_row_of ?c__law_row_of ?k__law_row_of ?a_tick_number ?l_tick_number ?c_tick_number ?k_tick_number ?a_parcel_of ?l_parcel_of ?c_parcel_of ?k_parcel_of ?a_is_int ?l_is_int ?c_is_int ?k_is_int ?a_is_ints ?l_is_ints ?c_is_ints ?k_is_ints ?a_is_ints_between ?l_is_ints_between ?c_is_ints_between ?k_is_ints_between ?a_tick_of ?l_tick_of ?c_tick_of ?k_tick_of ?a_opened_parcel ?l_opened_parcel ?c_opened_parcel ?k_opened_parcel ?a__law_is_same ?l__law_is_same ?c__law_is_same ?k__law_is_same ?a__law_is_refused ?l__law_is_refused ?c__law_is_refused ?k__law_is_refused ?a__law_is_int ?l__law_is_int ?c__law_is_int ?k__law_is_int ?a__law_is_ints ?l__law_is_ints ?c__law_is_ints ?k__law_is_ints ?a__law_is_cut_right ?l__law_is_cut_right ?c__law_is_cut_right ?k__law_is_cut_right ?a_law ?l_law ?c_law ?k_law ?z_int ?z_len ?z_abs ?z_range ?z_tuple ?z_isinstance ?z_bool ?z_repr ?z_list ?z_all ?n_LOW ?r_LOW ?n_MOST_NUMBER ?r_MOST_NUMBER
    (case a__law_begin => k_is)
    (case l__law_begin => k_is)
    (case c__law_begin => k_is)
    (case k__law_begin => k_is)
    (case a__law_draw => k_is)
    (case l__law_draw => k_is)
    (case c__law_draw => k_is)
    (case k__law_draw => k_is)
    (case a__law_pick => k_is)
    (case l__law_pick => k_is)
    (case c__law_pick => k_is)
    (case k__law_pick => k_is)
    (case a__law_some_facts => k_is)
    (case l__law_some_facts => k_is)
    (case c__law_some_facts => k_is)
    (case k__law_some_facts => k_is)
    (case a__law_some_state => k_is)
    (case l__law_some_state => k_is)
    (case c__law_some_state => k_is)
    (case k__law_some_state => k_is)
    (case a__law_row_of => k_is)
    (case l__law_row_of => k_is)
    (case c__law_row_of => k_is)
    (case k__law_row_of => k_is)
    (case a_tick_number => k_is)
    (case l_tick_number => k_is)
    (case c_tick_number => k_is)
    (case k_tick_number => k_is)
    (case a_parcel_of => k_is)
    (case l_parcel_of => k_is)
    (case c_parcel_of => k_is)
    (case k_parcel_of => k_is)
    (case a_is_int => k_is)
    (case l_is_int => k_is)
    (case c_is_int => k_is)
    (case k_is_int => k_is)
    (case a_is_ints => k_is)
    (case l_is_ints => k_is)
    (case c_is_ints => k_is)
    (case k_is_ints => k_is)
    (case a_is_ints_between => k_is)
    (case l_is_ints_between => k_is)
    (case c_is_ints_between => k_is)
    (case k_is_ints_between => k_is)
    (case a_tick_of => k_is)
    (case l_tick_of => k_is)
    (case c_tick_of => k_is)
    (case k_tick_of => k_is)
    (case a_opened_parcel => k_is)
    (case l_opened_parcel => k_is)
    (case c_opened_parcel => k_is)
    (case k_opened_parcel => k_is)
    (case a__law_is_same => k_is)
    (case l__law_is_same => k_is)
    (case c__law_is_same => k_is)
    (case k__law_is_same => k_is)
    (case a__law_is_refused => k_is)
    (case l__law_is_refused => k_is)
    (case c__law_is_refused => k_is)
    (case k__law_is_refused => k_is)
    (case a__law_is_int => k_is)
    (case l__law_is_int => k_is)
    (case c__law_is_int => k_is)
    (case k__law_is_int => k_is)
    (case a__law_is_ints => k_is)
    (case l__law_is_ints => k_is)
    (case c__law_is_ints => k_is)
    (case k__law_is_ints => k_is)
    (case a__law_is_cut_right => k_is)
    (case l__law_is_cut_right => k_is)
    (case c__law_is_cut_right => k_is)
    (case k__law_is_cut_right => k_is)
    (case a_law => k_is)
    (case l_law => k_is)
    (case c_law => k_is)
    (case k_law => k_is)
    (case z_int => k_is)
    (case z_len => k_is)
    (case z_abs => k_is)
    (case z_range => k_is)
    (case z_tuple => k_is)
    (case z_isinstance => k_is)
    (case z_bool => k_is)
    (case z_repr => k_is)
    (case z_list => k_is)
    (case z_all => k_is)
    (case n_LOW => k_is)
    (case r_LOW => first | exact ⟨_, rfl⟩ | rfl)
    (case n_MOST_NUMBER => k_is)
    (case r_MOST_NUMBER => first | exact ⟨_, rfl⟩ | rfl)
#print axioms PySem.Challenge.cw_judgedplay_k56_parcels_holds
