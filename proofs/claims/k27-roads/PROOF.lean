import PyProof.Rows.All
import Wide.All
import OpenK.AllK
import Wide.FinOn
import HandS.ForMost
import HandS.Wide
import HandS.WideBits
import HandS.IsInst
import HandS.TupAny
import HandS.Deep
import HandS.EndBits
import HandS.More
import HandS.Conv
import HandS.Rev
import PyProof.StrOps2
import PySem.Challenge.RW_judgedplay_k27_roads_judged
set_option Elab.async false
set_option linter.all false
set_option maxRecDepth 100000
set_option maxHeartbeats 4000000
/-! ### my own layer: introduction forms for the readings -/
namespace Jp
open PySem PySem.Spec PyProof.Rows L2
/-! rules by names -/
section
variable {X : Cx}
def rInt1 : List V → Hp → VK → Prop := fun xs H Q => (∃ i, xs = [.int i] ∧ Q (.int i) H) ∨ ∃ k, xs = [.bl k] ∧ Q (.int (if k then 1 else 0)) H
theorem c_int : CallR X (.type "int") rInt1 := call_int1
def rAbs : List V → Hp → VK → Prop := fun xs H Q => ∃ i, xs = [.int i] ∧ Q (.int (if i < 0 then -i else i)) H
theorem c_abs : CallR X (.builtin "abs") rAbs := call_abs
def rMax2 : List V → Hp → VK → Prop := fun xs H Q => ∃ i j, xs = [.int i, .int j] ∧ Q (.int (if j > i then j else i)) H
theorem c_max2 (hc : X.calm = true) : CallR X (.builtin "max") rMax2 := call_max2 hc
def rMin2 : List V → Hp → VK → Prop := fun xs H Q => ∃ i j, xs = [.int i, .int j] ∧ Q (.int (if j < i then j else i)) H
theorem c_min2 (hc : X.calm = true) : CallR X (.builtin "min") rMin2 := call_min2 hc
def qLen (K : PySem.W.Frag) : List V → Hp → VK → Prop := fun xs H Q => ∃ x n, xs = [x] ∧ LenV K x H n ∧ Q (.int (n : Nat)) H
theorem c_len : CallR X (.builtin "len") (qLen X.K) := call_len
def rLenD : List V → Hp → VK → Prop := fun xs H Q => ∃ a kvs, xs = [V.ref a] ∧ H a = some (.dK kvs) ∧ Q (.int kvs.length) H
theorem c_lenD : CallR X (.builtin "len") rLenD := call_lenD
def rTupOf (K : PySem.W.Frag) : List V → Hp → VK → Prop := fun xs H Q => ∃ p ys, xs = [.ref p] ∧ ((SqL K H p ys ∧ ∀ l, H l = none → Q (.ref l) (upd H l (.tup ys))) ∨ (SqT K H p ys ∧ Q (.ref p) H))
theorem c_tup : CallR X (.type "tuple") (rTupOf X.K) := call_tuple_of
def rLstOf (K : PySem.W.Frag) : List V → Hp → VK → Prop := fun xs H Q => ∃ p ys, xs = [.ref p] ∧ (SqL K H p ys ∨ SqT K H p ys) ∧ ∀ l, H l = none → Q (.ref l) (upd H l (.lst ys))
theorem c_lst : CallR X (.type "list") (rLstOf X.K) := call_list_of
def rBool1 : List V → Hp → VK → Prop := fun xs H Q => (∃ i, xs = [.int i] ∧ Q (.bl (i != 0)) H) ∨ ∃ k, xs = [.bl k] ∧ Q (.bl k) H
theorem c_bool1 : CallR X (.type "bool") rBool1 := call_bool1
def rIsNon : R2 := fun x y H Q => y = .non ∧ Q (.bl (decide (x = .non))) H
theorem o_isN : OpR X (compareOp .Is) rIsNon := op_isN
def rNotNon : R2 := fun x y H Q => y = .non ∧ Q (.bl (!decide (x = .non))) H
theorem o_notN : OpR X (compareOp .IsNot) rNotNon := op_notN
def rAddStr : R2 := fun x y H Q => ∃ i j, x = .str i ∧ y = .str j ∧ i.length + j.length ≤ sizeLine ∧ Q (.str (i ++ j)) H
theorem o_addS : OpR X (binaryOp .Add) rAddStr := op_add_str
theorem o_iaddS : OpR X (inplaceOp .Add) rAddStr := iop_add_str
end
section
variable {K : PySem.W.Frag} {σ : L2.St} {H : Hp} {Q : VK}
theorem i_isN {x : V} (q : Q (.bl (decide (x = .non))) H) : rIsNon x .non H Q := ⟨rfl, q⟩
theorem i_notN {x : V} (q : Q (.bl (!decide (x = .non))) H) : rNotNon x .non H Q := ⟨rfl, q⟩
theorem i_int {i : Int} (q : Q (.int i) H) : rInt1 [.int i] H Q := .inl ⟨i, rfl, q⟩
theorem i_intB {k : Bool} (q : Q (.int (if k then 1 else 0)) H) : rInt1 [.bl k] H Q := .inr ⟨k, rfl, q⟩
theorem i_abs {i : Int} (q : Q (.int (if i < 0 then -i else i)) H) : rAbs [.int i] H Q := ⟨i, rfl, q⟩
theorem i_max2 {i j : Int} (q : Q (.int (if j > i then j else i)) H) : rMax2 [.int i, .int j] H Q := ⟨i, j, rfl, q⟩
theorem i_min2 {i j : Int} (q : Q (.int (if j < i then j else i)) H) : rMin2 [.int i, .int j] H Q := ⟨i, j, rfl, q⟩
theorem i_lenL {p : Addr} {xs : List V} (h : SqL K H p xs) (q : Q (.int xs.length) H) : qLen K [.ref p] H Q := ⟨.ref p, xs.length, rfl, .inl ⟨xs, h, rfl⟩, q⟩
theorem i_lenT {p : Addr} {xs : List V} (h : SqT K H p xs) (q : Q (.int xs.length) H) : qLen K [.ref p] H Q := ⟨.ref p, xs.length, rfl, .inr ⟨xs, h, rfl⟩, q⟩
theorem i_lenS {x : Str} (h : x.length ≤ sizeLine) (q : Q (.int x.length) H) : qLen K [.str x] H Q := ⟨.str x, x.length, rfl, ⟨h, rfl⟩, q⟩
theorem i_lenD {p : Addr} {kvs : List (L2.Key × V)} (h : H p = some (.dK kvs)) (q : Q (.int kvs.length) H) : rLenD [.ref p] H Q := ⟨p, kvs, rfl, h, q⟩
theorem i_tupL {p : Addr} {ys : List V} (h : SqL K H p ys) (q : ∀ l, H l = none → Q (.ref l) (upd H l (.tup ys))) : rTupOf K [.ref p] H Q := ⟨p, ys, rfl, .inl ⟨h, q⟩⟩
theorem i_tupT {p : Addr} {ys : List V} (h : SqT K H p ys) (q : Q (.ref p) H) : rTupOf K [.ref p] H Q := ⟨p, ys, rfl, .inr ⟨h, q⟩⟩
theorem i_lstL {p : Addr} {ys : List V} (h : SqL K H p ys) (q : ∀ l, H l = none → Q (.ref l) (upd H l (.lst ys))) : rLstOf K [.ref p] H Q := ⟨p, ys, rfl, .inl h, q⟩
theorem i_lstT {p : Addr} {ys : List V} (h : SqT K H p ys) (q : ∀ l, H l = none → Q (.ref l) (upd H l (.lst ys))) : rLstOf K [.ref p] H Q := ⟨p, ys, rfl, .inr h, q⟩
theorem i_catA {p b : Addr} {xs ys : List V} (h1 : SqT K H p xs) (h2 : SqT K H b ys) (hl : xs.length + ys.length ≤ sizeLine) (q : ∀ (r : Addr) (H' : Hp), (∀ b o, H b = some o → H' b = some o) → SqT K H' r (xs ++ ys) → Q (.ref r) H') : rCatA K (.ref p) (.ref b) H Q := by
  refine ⟨p, b, xs, ys, rfl, rfl, h1, h2, hl, fun e => ?_, fun _ e => ?_, fun _ _ r hr => ?_⟩
  · subst e; exact q b H (fun _ _ h => h) h2
  · subst e; exact q p H (fun _ _ h => h) (by rw [List.append_nil]; exact h1)
  · exact q r _ (fun b o e => by rw [upd_ne (ne_of_none e hr)]; exact e) (.inl (.inl upd_same))
theorem i_catI {p b : Addr} {ns ms : List Int} (h1 : SqT K H p (ns.map V.int)) (h2 : SqT K H b (ms.map V.int)) (hl : ns.length + ms.length ≤ 10000) (q : ∀ (r : Addr) (H' : Hp), (∀ b o, H b = some o → H' b = some o) → SqT K H' r ((ns ++ ms).map V.int) → Q (.ref r) H') : rCatA K (.ref p) (.ref b) H Q :=
  i_catA h1 h2 (by rw [List.length_map, List.length_map]; exact Nat.le_trans hl (by decide)) fun r H' s t => q r H' s (by rw [List.map_append]; exact t)
/-- ns[lo:hi] -/
def cutI (ns : List Int) (lo hi : Option Int) : List Int := (ns.drop (HT.sIx ns.length 0 lo)).take (HT.sIx ns.length ns.length hi - HT.sIx ns.length 0 lo)
theorem cutI_len (ns : List Int) (lo hi : Option Int) : (cutI ns lo hi).length ≤ ns.length := by
  unfold cutI
  rw [List.length_take, List.length_drop]
  omega
theorem i_slI {p : Addr} {ns : List Int} {lo hi : Option Int} (h : SqT K H p (ns.map V.int)) (hw : ¬ (HT.sIx ns.length 0 lo = 0 ∧ HT.sIx ns.length ns.length hi = ns.length))
    (q : ∀ (r : Addr) (H' : Hp), (∀ b o, H b = some o → H' b = some o) → SqT K H' r ((cutI ns lo hi).map V.int) → Q (.ref r) H') : rSlT K (.ref p) lo hi H Q := by
  refine ⟨p, _, rfl, h, by rw [List.length_map]; exact hw, fun r hr => q r _ (fun b o e => by rw [upd_ne (ne_of_none e hr)]; exact e) (.inl (.inl ?_))⟩
  rw [upd_same]
  unfold cutV cutI
  rw [List.length_map, List.map_take, List.map_drop]
theorem i_sl {r : V → Option Int → Option Int → Hp → VK → Prop} {te : TE} {tl th : TO} (h : te σ H fun x H1 => tl σ H1 fun l H2 => th σ H2 fun u H3 => r x l u H3 Q) : tSl r te tl th σ H Q := h
theorem i_noPart {Q : Option Int → Hp → Prop} (q : Q none H) : tNoPart σ H Q := q
theorem i_part {t : TE} {Q : Option Int → Hp → Prop} (h : t σ H fun x H1 => ∃ i, x = .int i ∧ Q (some i) H1) : tPart t σ H Q := h
theorem i_cat {p b : Addr} {xs zs : List V} (h1 : H p = some (.lst xs)) (h2 : H b = some (.lst zs)) (hl : xs.length + zs.length ≤ sizeLine) (q : ∀ r, H r = none → Q (.ref r) (upd H r (.lst (xs ++ zs)))) : rCat (.ref p) (.ref b) H Q := ⟨p, b, xs, zs, rfl, rfl, h1, h2, hl, q⟩
theorem i_cat' {p b : Addr} {xs zs : List V} (e1 : H p = some (.lst xs)) (e2 : H b = some (.lst zs)) (hl : xs.length + zs.length ≤ 10000) (q : ∀ r H', (∀ b o, H b = some o → H' b = some o) → H r = none → H' r = some (.lst (xs ++ zs)) → Q (.ref r) H') : rCat (.ref p) (.ref b) H Q :=
  i_cat e1 e2 (by rw [sizeLine_eq]; omega) fun r hr => q r _ (fun b o e => by rw [upd_ne (ne_of_none e hr)]; exact e) hr upd_same
theorem i_slL {p : Addr} {xs : List V} {lo hi : Option Int} (h : SqL K H p xs) (q : ∀ r H', (∀ b o, H b = some o → H' b = some o) → H r = none → H' r = some (.lst (cutV xs lo hi)) → Q (.ref r) H') : rSlL K (.ref p) lo hi H Q :=
  ⟨p, xs, rfl, h, fun r hr => q r _ (fun b o e => by rw [upd_ne (ne_of_none e hr)]; exact e) hr upd_same⟩
theorem i_chain {r r' : R2} {ta tb tc : TE} (h : ta σ H fun x H1 => tb σ H1 fun y H2 => r x y H2 fun z H3 => ∃ k, z = .bl k ∧ (if k = true then tc σ H3 fun w' H4 => r' y w' H4 Q else Q (.bl false) H3)) : tChain r r' ta tb tc σ H Q := h
theorem i_popAt {p : Addr} {xs : List V} {i : Int} {y : V} (h : H p = some (.lst xs)) (h0 : 0 ≤ i) (h1 : i < xs.length) (h2 : xs.length ≤ 1000000) (e : xs[i.toNat]? = some y) (q : Q y (upd H p (.lst (xs.eraseIdx i.toNat)))) : rPopAt (.ref p) [.int i] H Q :=
  ⟨p, xs, i, i.toNat, y, rfl, rfl, h, by omega, by omega, seqIndex_of h0 h1, e, q⟩
theorem i_isI {i : Int} {Q : Int → Prop} (q : Q i) : ∃ i', V.int i = .int i' ∧ Q i' := ⟨i, rfl, q⟩
theorem i_bm {T : String} {r : V → List V → Hp → VK → Prop} {to : TE} {t : TA} (h : to σ H fun x H1 => tyV K T x H1 ∧ t σ H1 fun xs H2 => r x xs H2 Q) : tBM K T r to t σ H Q := h
theorem i_bm0 {T : String} {r : V → List V → Hp → VK → Prop} {to : TE} (h : to σ H fun x H1 => tyV K T x H1 ∧ r x [] H1 Q) : tBM0 K T r to σ H Q := h
theorem i_tyL {p : Addr} {xs : List V} {R : Prop} (s : SqL K H p xs) (q : R) : tyV K "list" (.ref p) H ∧ R := ⟨.inl ⟨rfl, xs, s⟩, q⟩
theorem i_app {p : Addr} {xs : List V} {y : V} (h : H p = some (.lst xs)) (hl : xs.length < sizeLine) (q : Q .non (upd H p (.lst (xs ++ [y])))) : rAppend (.ref p) [y] H Q := ⟨p, xs, y, rfl, rfl, h, hl, q⟩
theorem i_addS {x y : Str} (h : x.length + y.length ≤ sizeLine) (q : Q (.str (x ++ y)) H) : rAddStr (.str x) (.str y) H Q := ⟨x, y, rfl, rfl, h, q⟩
theorem i_isi {x : V} {n : String} {t : Value} {b : Bool} (ty : TyX K H x t) (e : PySem.W.kitOne K t (.type n) = some b) (q : Q (.bl b) H) : rIsi K [x, .ty n] H Q := ⟨x, .ty n, t, .type n, b, rfl, .ty n, ty, e, q⟩
theorem i_var {i : Nat} {v : V} (h : σ[i]? = some (some v)) (q : Q v H) : tVar i σ H Q := ⟨v, h, q⟩
theorem i_c {v : V} (q : Q v H) : tC v σ H Q := q
theorem i_op {r : R2} {ta tb : TE} (h : ta σ H fun x H1 => tb σ H1 fun y H2 => r x y H2 Q) : tOp r ta tb σ H Q := h
theorem i_un {r : V → Hp → VK → Prop} {ta : TE} (h : ta σ H fun x H1 => r x H1 Q) : tUn r ta σ H Q := h
theorem i_rI0 {g : Int → Int → V} {i j : Int} (q : Q (g i j) H) : rI0 g (.int i) (.int j) H Q := ⟨i, j, rfl, rfl, q⟩
theorem i_rI {C : Int → Int → Prop} {g : Int → Int → V} {i j : Int} (c : C i j) (q : Q (g i j) H) : rI C g (.int i) (.int j) H Q := ⟨i, j, rfl, rfl, c, q⟩
theorem i_rU {g : Int → V} {i : Int} (q : Q (g i) H) : rU g (.int i) H Q := ⟨i, rfl, q⟩
theorem i_eqI {i j : Int} (q : Q (.bl (decide (i = j))) H) : rEq (.int i) (.int j) H Q := ⟨rfl, by
  have e : decide (V.int i = V.int j) = decide (i = j) := by simp
  rw [e]; exact q⟩
theorem i_neI {i j : Int} (q : Q (.bl (!decide (i = j))) H) : rNe (.int i) (.int j) H Q := ⟨rfl, by
  have e : decide (V.int i = V.int j) = decide (i = j) := by simp
  rw [e]; exact q⟩
theorem i_eqB {i j : Bool} (q : Q (.bl (decide (i = j))) H) : rEq (.bl i) (.bl j) H Q := ⟨rfl, by
  have e : decide (V.bl i = V.bl j) = decide (i = j) := by simp
  rw [e]; exact q⟩
theorem i_neB {i j : Bool} (q : Q (.bl (!decide (i = j))) H) : rNe (.bl i) (.bl j) H Q := ⟨rfl, by
  have e : decide (V.bl i = V.bl j) = decide (i = j) := by simp
  rw [e]; exact q⟩
theorem i_eqS {i j : Str} (q : Q (.bl (decide (i = j))) H) : rEq (.str i) (.str j) H Q := ⟨rfl, by
  have e : decide (V.str i = V.str j) = decide (i = j) := by simp
  rw [e]; exact q⟩
theorem i_neS {i j : Str} (q : Q (.bl (!decide (i = j))) H) : rNe (.str i) (.str j) H Q := ⟨rfl, by
  have e : decide (V.str i = V.str j) = decide (i = j) := by simp
  rw [e]; exact q⟩
/-! index -/
theorem i_ixL {p : Addr} {xs : List V} {i : Int} {v : V} (h : SqL K H p xs) (e : atI xs i = some v) (q : Q v H) : rIxL K (.ref p) (.int i) H Q := ⟨p, xs, i, v, rfl, rfl, h, e, q⟩
theorem i_ixT {p : Addr} {xs : List V} {i : Int} {v : V} (h : SqT K H p xs) (e : atI xs i = some v) (q : Q v H) : rIxT K (.ref p) (.int i) H Q := ⟨p, xs, i, v, rfl, rfl, h, e, q⟩
theorem i_ix1 {x y : V} (h : rIxL K x y H Q) : rIx K x y H Q := .inl h
theorem i_ix2 {x y : V} (h : rIxT K x y H Q) : rIx K x y H Q := .inr (.inl h)
/-! arguments, calls, displays -/
theorem i_nil {Q : List V → Hp → Prop} (q : Q [] H) : tNil σ H Q := q
theorem i_cons {ta : TE} {tr : TA} {Q : List V → Hp → Prop} (h : ta σ H fun x H1 => tr σ H1 fun xs H2 => Q (x :: xs) H2) : tCons ta tr σ H Q := h
theorem i_call {sp : Sp} {E : XK} {t : TA} (h : t σ H fun vs H1 => sp (vs ++ []) H1 Q E) : tCall sp [] E t σ H Q := h
theorem i_cb {r : List V → Hp → VK → Prop} {t : TA} (h : t σ H fun vs H1 => r vs H1 Q) : tCB r t σ H Q := h
theorem i_tup {t : TA} (h : t σ H fun xs H1 => xs.length ≤ sizeLine ∧ ∀ p, H1 p = none → Q (.ref p) (upd H1 p (.tup xs))) : tTup t σ H Q := h
theorem i_lst {t : TA} (h : t σ H fun xs H1 => xs.length ≤ sizeLine ∧ ∀ p, H1 p = none → Q (.ref p) (upd H1 p (.lst xs))) : tLst t σ H Q := h
theorem i_new {n : Nat} {R : Addr → Prop} (h : n ≤ sizeLine) (q : ∀ p, H p = none → R p) : n ≤ sizeLine ∧ ∀ p, H p = none → R p := ⟨h, q⟩
theorem i_if {c : TT} {ta tb : TE} (h : c σ H fun b H1 => if b = true then ta σ H1 Q else tb σ H1 Q) : tIf c ta tb σ H Q := h
theorem i_andV {ta tb : TE} (h : ta σ H fun x H1 => ∃ c, x = .bl c ∧ if c = true then tb σ H1 Q else Q (.bl false) H1) : tAndV ta tb σ H Q := h
theorem i_orV {ta tb : TE} (h : ta σ H fun x H1 => ∃ c, x = .bl c ∧ if c = true then Q (.bl true) H1 else tb σ H1 Q) : tOrV ta tb σ H Q := h
theorem i_notV {ta : TE} (h : ta σ H fun x H1 => ∃ c, x = .bl c ∧ Q (.bl (!c)) H1) : tNotV ta σ H Q := h
/-! tests -/
theorem i_test {t : TE} {Q : Bool → Hp → Prop} (h : t σ H fun x H1 => ∃ k, x = .bl k ∧ Q k H1) : tTest t σ H Q := h
theorem i_B {t : TE} {Q : Bool → Hp → Prop} (h : t σ H fun x H1 => ∃ k, x = .bl k ∧ Q k H1) : tB t σ H Q := h
theorem i_isb {k : Bool} {Q : Bool → Prop} (q : Q k) : ∃ k', V.bl k = .bl k' ∧ Q k' := ⟨k, rfl, q⟩
theorem i_and {t u : TT} {Q : Bool → Hp → Prop} (h : t σ H fun c H1 => if c = true then u σ H1 Q else Q false H1) : tAnd t u σ H Q := h
theorem i_or {t u : TT} {Q : Bool → Hp → Prop} (h : t σ H fun c H1 => if c = true then Q true H1 else u σ H1 Q) : tOr t u σ H Q := h
theorem i_not {t : TT} {Q : Bool → Hp → Prop} (h : t σ H fun c H1 => Q (!c) H1) : tNot t σ H Q := h
/-! statements -/
section
variable {nx : L2.St → Hp → Prop} {rt : VK} {bk ct : L2.St → Hp → Prop}
theorem i_seq {t u : TS} (h : t ⟨u ⟨nx, rt, bk, ct⟩, rt, bk, ct⟩ σ H) : tSeq t u ⟨nx, rt, bk, ct⟩ σ H := h
theorem i_next (h : nx σ H) : tNext ⟨nx, rt, bk, ct⟩ σ H := h
theorem i_asg {te : TE} {g : TG} (h : te σ H fun x H1 => g x σ H1 nx) : tAsg te g ⟨nx, rt, bk, ct⟩ σ H := h
theorem i_drop {te : TE} (h : te σ H fun _ H1 => nx σ H1) : tDrop te ⟨nx, rt, bk, ct⟩ σ H := h
theorem i_ret {te : TE} (h : te σ H rt) : tRet te ⟨nx, rt, bk, ct⟩ σ H := h
theorem i_retN (h : rt .non H) : tRetN ⟨nx, rt, bk, ct⟩ σ H := h
theorem i_ifS {c : TT} {t u : TS} (h : c σ H fun b H1 => if b = true then t ⟨nx, rt, bk, ct⟩ σ H1 else u ⟨nx, rt, bk, ct⟩ σ H1) : tIfS c t u ⟨nx, rt, bk, ct⟩ σ H := h
theorem i_ifC {c : TT} {t u : TS} (J : L2.St → Hp → Prop) (h1 : ∀ σ' H', J σ' H' → nx σ' H') (h2 : ∀ N : L2.St → Hp → Prop, (∀ σ' H', J σ' H' → N σ' H') → tIfS c t u ⟨N, rt, bk, ct⟩ σ H) : tIfS c t u ⟨nx, rt, bk, ct⟩ σ H := h2 _ h1
theorem i_break (h : bk σ H) : tBreak ⟨nx, rt, bk, ct⟩ σ H := h
theorem i_cont (h : ct σ H) : tCont ⟨nx, rt, bk, ct⟩ σ H := h
theorem i_augE {i : Nat} {te : TE} {ti : TIp} {x : V} (e : σ[i]? = some (some x)) (h : te σ H fun y H1 => ti x y H1 fun z H2 => gName i z σ H2 nx) : tAug i te ti ⟨nx, rt, bk, ct⟩ σ H := ⟨x, e, h⟩
theorem i_augS {to ti te : TE} {tget : V → V → Hp → VK → Prop} {tip : TIp} {tset : TSet} (h : to σ H fun o H1 => ti σ H1 fun i H2 => tget o i H2 fun x H3 => te σ H3 fun y H4 => tip x y H4 fun z H5 => tset o i z H5 fun H6 => nx σ H6) : tAugS to ti te tget tip tset ⟨nx, rt, bk, ct⟩ σ H := h
theorem i_ipI {f : Int → Int → Int} {i j : Int} (q : Q (.int (f i j)) H) : ipI f (.int i) (.int j) H Q := ⟨i, j, rfl, rfl, q⟩
theorem i_for {wi : TI} {g : TG} {tb : TS} (h : wi σ H fun J H1 => ∃ W : Nat → Nat → L2.St → Hp → Prop, (∃ m, W 0 m σ H1) ∧ ∀ i m σ H, W i m σ H →
  (J.stop i H ∧ nx σ H) ∨ (J.go i H ∧ ∃ N : L2.St → Hp → Prop, (∀ σ' H', N σ' H' → ∃ m', m' < m ∧ W (i + 1) m' σ' H') ∧ ∀ x H', J.yld i H x H' → g x σ H' fun σ2 H2 => tb ⟨N, rt, nx, N⟩ σ2 H2)) : tFor wi g tb ⟨nx, rt, bk, ct⟩ σ H := h
theorem i_iList {tl : TE} {R : It → Hp → Prop} (h : tl σ H fun x H1 => ∃ a, x = .ref a ∧ (∃ xs, SqL K H1 a xs) ∧ R (Itl K a) H1) : iList K tl σ H R := h
theorem i_iTup {tl : TE} {R : It → Hp → Prop} (h : tl σ H fun x H1 => ∃ a, x = .ref a ∧ (∃ xs, SqT K H1 a xs) ∧ R (Itt K a) H1) : iTup K tl σ H R := h
theorem i_isL {a : Addr} {xs : List V} {R : Addr → Prop} (s : SqL K H a xs) (h : R a) : ∃ a', V.ref a = .ref a' ∧ (∃ xs, SqL K H a' xs) ∧ R a' := ⟨a, rfl, ⟨xs, s⟩, h⟩
theorem i_isT {a : Addr} {xs : List V} {R : Addr → Prop} (s : SqT K H a xs) (h : R a) : ∃ a', V.ref a = .ref a' ∧ (∃ xs, SqT K H a' xs) ∧ R a' := ⟨a, rfl, ⟨xs, s⟩, h⟩
theorem i_rng1 {ta : TA} {R : It → Hp → Prop} (h : ta σ H fun vs H1 => ∃ j : Int, vs = [.int j] ∧ -(2 ^ 62) ≤ j ∧ j < 2 ^ 62 ∧ R (Itr 0 j.toNat) H1) : iRng1 ta σ H R := h
theorem i_rng2 {ta : TA} {R : It → Hp → Prop} (h : ta σ H fun vs H1 => ∃ i j : Int, vs = [.int i, .int j] ∧ (-(2 ^ 62) ≤ i ∧ i < 2 ^ 62 ∧ -(2 ^ 62) ≤ j ∧ j < 2 ^ 62) ∧ R (Itr i (j - i).toNat) H1) : iRng2 ta σ H R := h
theorem i_isR1 {j : Int} {R : Int → Prop} (h1 : -(2 ^ 62) ≤ j) (h2 : j < 2 ^ 62) (h : R j) : ∃ j' : Int, [V.int j] = [.int j'] ∧ -(2 ^ 62) ≤ j' ∧ j' < 2 ^ 62 ∧ R j' := ⟨j, rfl, h1, h2, h⟩
theorem i_isR2 {i j : Int} {R : Int → Int → Prop} (h1 : -(2 ^ 62) ≤ i) (h2 : i < 2 ^ 62) (h3 : -(2 ^ 62) ≤ j) (h4 : j < 2 ^ 62) (h : R i j) : ∃ i' j' : Int, [V.int i, V.int j] = [.int i', .int j'] ∧ (-(2 ^ 62) ≤ i' ∧ i' < 2 ^ 62 ∧ -(2 ^ 62) ≤ j' ∧ j' < 2 ^ 62) ∧ R i' j' := ⟨i, j, rfl, ⟨h1, h2, h3, h4⟩, h⟩
end
/-! comprehensions -/
theorem i_lc {wi : TI} {g : TG} {tt : TT} {te : TE} {ws : List Nat} {σ' : L2.St} (e : wipe σ ws = σ') (h : wi σ H fun J H1 => ∀ D, H1 D = none → ∃ W : Nat → Nat → Hp → Prop, (∃ m, W 0 m (upd H1 D (.lst []))) ∧ ∀ i m H, W i m H →
  (J.stop i H ∧ Q (.ref D) H) ∨ (J.go i H ∧ ∃ Nx : Hp → Prop, (∀ H', Nx H' → ∃ m', m' < m ∧ W (i + 1) m' H') ∧ ∀ x H', J.yld i H x H' → g x σ' H' fun σ2 H2 => wipe σ2 ws = σ' ∧ tt σ2 H2 fun b H3 =>
    if b = true then te σ2 H3 fun y H4 => ∃ acc, H4 D = some (.lst acc) ∧ acc.length < sizeLine ∧ Nx (upd H4 D (.lst (acc ++ [y]))) else Nx H3)) : tLc wi g tt te ws σ H Q := by subst e; exact h
/-! targets -/
theorem i_gNameE {i : Nat} {v : V} {σ' : L2.St} {Q : L2.St → Hp → Prop} (e : σ.set i (some v) = σ') (q : Q σ' H) : gName i v σ H Q := by subst e; exact q
theorem st_of {t : TS} {D : Ends} {σ σ' : L2.St} {H : Hp} (e : σ = σ') (h : t D σ' H) : t D σ H := by subst e; exact h
theorem i_gName {i : Nat} {v : V} {Q : L2.St → Hp → Prop} (q : Q (σ.set i (some v)) H) : gName i v σ H Q := q
theorem i_gSub {to ti : TE} {t : TSet} {v : V} {Q : L2.St → Hp → Prop} (h : to σ H fun o H1 => ti σ H1 fun i H2 => t o i v H2 fun H3 => Q σ H3) : gSub to ti t v σ H Q := h
theorem i_setL {p : Addr} {xs : List V} {k : Int} {j : Nat} {v : V} {Q : Hp → Prop} (h : H p = some (.lst xs)) (e : ixN xs.length k = some j) (q : Q (upd H p (.lst (xs.set j v)))) : rSetL (.ref p) (.int k) v H Q := ⟨p, xs, k, j, rfl, rfl, h, e, q⟩
theorem i_gTup {n : Nat} {t : TGs} {a : Addr} {xs : List V} {Q : L2.St → Hp → Prop} (h : SqT K H a xs) (e : xs.length = n) (q : t xs σ H Q) : gTup K n t (.ref a) σ H Q := ⟨a, xs, rfl, h, e, q⟩
theorem i_gNil {Q : L2.St → Hp → Prop} (q : Q σ H) : gNil [] σ H Q := ⟨rfl, q⟩
theorem i_gCons {t : TG} {u : TGs} {v : V} {r : List V} {Q : L2.St → Hp → Prop} (q : t v σ H fun σ' H' => u r σ' H' Q) : gCons t u (v :: r) σ H Q := ⟨v, r, rfl, q⟩
/-! builtins' calls -/
end
/-! ### heaps -/
/-- all but p is as it was -/
def Kp (p : Addr) (H H' : Hp) : Prop := ∀ b o, H b = some o → b ≠ p → H' b = some o
theorem Kp.refl {p : Addr} {H : Hp} : Kp p H H := fun _ _ e _ => e
theorem Kp.of {p : Addr} {H H' : Hp} (s : Same H H') : Kp p H H' := fun b o e _ => s b o e
theorem Kp.trans {p : Addr} {H H1 H2 : Hp} (a : Kp p H H1) (b : Kp p H1 H2) : Kp p H H2 := fun c o e n => b c o (a c o e n) n
theorem Kp.upd {p : Addr} {H : Hp} {o : HO} : Kp p H (upd H p o) := fun b u e n => by rw [upd_ne n]; exact e
theorem same_new {H : Hp} {p : Addr} {o : HO} (h : H p = none) : Same H (upd H p o) := fun b x e => by
  rw [upd_ne (ne_of_none e h)]
  exact e
theorem Same.tup {K : PySem.W.Frag} {H H' : Hp} {a : Addr} {xs : List V} (e : Same H H') (h : SqT K H a xs) : SqT K H' a xs := by
  rcases h with (h | ⟨o, h⟩) | h
  · exact .inl (.inl (e _ _ h))
  · exact .inl (.inr ⟨o, e _ _ h⟩)
  · exact .inr h
/-- all tuples are as they were -/
def Tps (H H' : Hp) : Prop := ∀ a, (∀ xs, H a = some (.tup xs) → H' a = some (.tup xs)) ∧ ∀ o xs, H a = some (.frz o (.tup xs)) → H' a = some (.frz o (.tup xs))
theorem Tps.sq {K : PySem.W.Frag} {H H' : Hp} {a : Addr} {xs : List V} (e : Tps H H') (h : SqT K H a xs) : SqT K H' a xs := by
  rcases h with (h | ⟨o, h⟩) | h
  · exact .inl (.inl ((e a).1 _ h))
  · exact .inl (.inr ⟨o, (e a).2 _ _ h⟩)
  · exact .inr h
theorem Tps.refl {H : Hp} : Tps H H := fun _ => ⟨fun _ h => h, fun _ _ h => h⟩
theorem Tps.trans {H H1 H2 : Hp} (a : Tps H H1) (b : Tps H1 H2) : Tps H H2 := fun c => ⟨fun xs h => (b c).1 xs ((a c).1 xs h), fun o xs h => (b c).2 o xs ((a c).2 o xs h)⟩
theorem Tps.of {H H' : Hp} (s : Same H H') : Tps H H' := fun a => ⟨fun xs h => s _ _ h, fun o xs h => s _ _ h⟩
theorem Kp.tps {p : Addr} {H H' : Hp} (k : Kp p H H') {xs : List V} (h : H p = some (.lst xs)) : Tps H H' := fun a => ⟨fun ys e => k _ _ e (ne_of e h (by intro z; cases z)), fun o ys e => k _ _ e (ne_of e h (by intro z; cases z))⟩
theorem Kp.seq {K : PySem.W.Frag} {p b : Addr} {H H' : Hp} {xs : List V} (k : Kp p H H') (h : SqL K H b xs) (n : b ≠ p) : SqL K H' b xs := by
  rcases h with (h | ⟨o, h⟩) | h
  · exact .inl (.inl (k _ _ h n))
  · exact .inl (.inr ⟨o, k _ _ h n⟩)
  · exact .inr h
/-! ### data -/
def Shp (n : Nat) (d : PyData) : Prop := d.canLay0 = true ∧ d.depth ≤ n
theorem Shp.shaped {n : Nat} {d : PyData} (h : Shp n d) (hn : n ≤ 64) : SeqAt.shaped d = true := by
  unfold SeqAt.shaped
  rw [h.1, decide_eq_true (Nat.le_trans h.2 hn)]
  rfl
theorem Shp.eqv {n : Nat} {d : PyData} (h : Shp n d) : PyData.eqv d d = true := SeqAt.eqv_refl d h.1
theorem Shp.int (i : Int) : Shp 0 (.int i) := ⟨by simp [PyData.canLay0], by simp [PyData.depth]⟩
theorem Shp.non : Shp 0 .none := ⟨by simp [PyData.canLay0], by simp [PyData.depth]⟩
theorem Shp.bool (b : Bool) : Shp 0 (.bool b) := ⟨by simp [PyData.canLay0], by simp [PyData.depth]⟩
theorem Shp.mono {n m : Nat} {d : PyData} (h : Shp n d) (hm : n ≤ m) : Shp m d := ⟨h.1, Nat.le_trans h.2 hm⟩
theorem shpAll {n : Nat} : ∀ {ds : List PyData}, (∀ d ∈ ds, Shp n d) → PyData.canLayAll0 ds = true ∧ PyData.depthAll ds ≤ n
  | [], _ => ⟨by simp [PyData.canLayAll0], by simp [PyData.depthAll]⟩
  | d :: ds, h => by
    have h1 := h d List.mem_cons_self
    have h2 := shpAll (ds := ds) fun x hx => h x (List.mem_cons_of_mem _ hx)
    refine ⟨by rw [PyData.canLayAll0, h1.1, h2.1]; rfl, ?_⟩
    rw [PyData.depthAll]
    exact Nat.max_le.mpr ⟨h1.2, h2.2⟩
theorem Shp.tup {n : Nat} {ds : List PyData} (h : ∀ d ∈ ds, Shp n d) : Shp (n + 1) (.tuple ds) := by
  have := shpAll h
  exact ⟨by rw [PyData.canLay0]; exact this.1, by rw [PyData.depth]; omega⟩
theorem Shp.lst {n : Nat} {ds : List PyData} (h : ∀ d ∈ ds, Shp n d) : Shp (n + 1) (.list ds) := by
  have := shpAll h
  exact ⟨by rw [PyData.canLay0]; exact this.1, by rw [PyData.depth]; omega⟩
theorem dpAll_of {K : PySem.W.Frag} {H : Hp} : ∀ {xs : List V} {ds : List PyData}, xs.length = ds.length → (∀ (i : Nat) x d, xs[i]? = some x → ds[i]? = some d → Dp K H x d) → DpAll K H xs ds
  | [], [], _, _ => .nil
  | x :: xs, d :: ds, hl, h => .cons (h 0 x d rfl rfl) (dpAll_of (by simpa using hl) fun i y e h1 h2 => h (i + 1) y e (by simpa using h1) (by simpa using h2))
theorem dp_ints {K : PySem.W.Frag} {H : Hp} {a : Addr} {ns : List Int} (h : SqT K H a (ns.map V.int)) : Dp K H (.ref a) (.tuple (ns.map PyData.int)) := by
  refine .tup h (dpAll_of (by simp) fun i x d h1 h2 => ?_)
  rw [List.getElem?_map] at h1 h2
  cases e : ns[i]? with
  | none => rw [e] at h1; cases h1
  | some z =>
    rw [e] at h1 h2
    cases h1
    cases h2
    exact .int z
/-! ### slices of tuples -/
section
variable {prog : Program} {w : World} {A : Around} {E : Value → Shared → Prop} {s : Shared}
theorem tup_whole {t sl : Addr} {items : Array Value} {vl vu : Value} {lo hi : Option Int} {Q : Value → Shared → Prop} (ht : IsTup s.heap t items) (hs : s.heap.IsSliceOf sl vl vu .none) (pl : IsPart vl lo) (pu : IsPart vu hi)
    (h0 : HT.sIx items.size 0 lo = 0) (h1 : HT.sIx items.size items.size hi = items.size) (h : Q (.ref t) s) : wpAny (model prog w) A (getItem (.ref t) (.ref sl)) Q E s := by
  have hTs : s.TypeIs (.ref sl) "slice" := by
    obtain ⟨os, hos, hcs, _⟩ := id hs
    exact ⟨os, hos, hcs⟩
  unfold getItem
  try with_reducible refine wpAny_holding ?_
  first | refine wpAny_bind (wpAny_pure ?_) | skip
  refine wpAny_bind (wpAny_sequenceKey ht.typeIs (by decide) (wpAny_bind (wpAny_callSpecial?_slot (name := Str.ofString "__getitem__") ht.typeIs PyProof.Rows.slot_tuple_getitem (wpAny_call_entry PyProof.Rows.slot_tuple_getitem ht.typeIs entry_tuple_getitem ?_ (args_tuple_getitem _ _)))))
  show wpAny _ _ (Builtin.Tuple.tupleItemsOf (.ref t) >>= _) _ _ s
  refine wpAny_bind (tupleItemsOf_ ht (wpAny_bind (wpAny_typeOf hTs ?_)))
  rw [if_pos (by decide)]
  refine wpAny_bind (HT.sliceApplied_gen hs pl pu ?_)
  show wpAny _ _ (if (((HT.sIx items.size 0 lo : Nat) : Int) == 0 && (1 : Int) == 1 && (HT.sIx items.size items.size hi - HT.sIx items.size 0 lo) == items.size) = true then _ else _) _ _ s
  rw [h0, h1, if_pos (by simp)]
  unfold Builtin.Tuple.tupleIsExact
  refine wpAny_bind (wpAny_bind (wpAny_typeOf ht.typeIs (wpAny_pure ?_)))
  rw [if_pos (by decide)]
  first
    | exact wpAny_bind (wpAny_rule (wpAny_pure ⟨_, rfl, wpAny_pure h⟩))
    | exact wpAny_bind (wpAny_rule (wpAny_bind (wpAny_pure (wpAny_pure ⟨_, rfl, wpAny_pure h⟩))))
end
section
variable {X : Cx}
/-- t[lo:hi], the whole of it too (that is t itself) -/
def rSlQ (K : PySem.W.Frag) : V → Option Int → Option Int → Hp → VK → Prop := fun x lo hi H Q => ∃ a xs, x = .ref a ∧ SqT K H a xs ∧
  (cutV xs lo hi = xs → Q (.ref a) H) ∧ ∀ p, H p = none → Q (.ref p) (upd H p (.tup (cutV xs lo hi)))
theorem sl_tupQ : SlR X (rSlQ X.K) := by
  intro pins s σ H x v vl vu lo hi sl Q I rx hs pl pu h
  obtain ⟨a, xs, e, hx, q0, q1⟩ := h
  by_cases hw : HT.sIx xs.length 0 lo = 0 ∧ HT.sIx xs.length xs.length hi = xs.length
  · subst e
    cases rx
    obtain ⟨its, r, ht, hz⟩ := I.tuple hx
    have hlen : its.toArray.size = xs.length := by rw [List.size_toArray]; exact r.length.symm
    refine ⟨"tuple", _, PyProof.Rows.slot_tuple_getitem.lookup, ht.typeIs, ?_⟩
    refine tup_whole ht hs pl pu (by rw [hlen]; exact hw.1) (by rw [hlen]; exact hw.2) ⟨.ref a, H, I, rfl, q0 ?_⟩
    unfold cutV
    rw [hw.1, hw.2]
    simp
  · exact sl_tup pins s σ H x v vl vu lo hi sl Q I rx hs pl pu ⟨a, xs, e, hx, hw, q1⟩
end
/-! ### loops -/
section
variable {K : PySem.W.Frag} {a : Addr} {xs : List V} {g : TG} {tb : TS} {σ : L2.St} {H : Hp} {nx : L2.St → Hp → Prop} {rt : VK}
theorem f_list (Pv : Nat → L2.St → Hp → Prop) (h0 : Pv 0 σ H) (hl : ∀ i σ H, i ≤ xs.length → Pv i σ H → SqL K H a xs)
    (hs : ∀ i x σ H, xs[i]? = some x → Pv i σ H → g x σ H fun σ2 H2 => tb ⟨Pv (i + 1), rt, nx, Pv (i + 1)⟩ σ2 H2) (hd : ∀ σ H, Pv xs.length σ H → nx σ H) :
    ∃ W : Nat → Nat → L2.St → Hp → Prop, (∃ m, W 0 m σ H) ∧ ∀ i m σ H, W i m σ H →
      ((Itl K a).stop i H ∧ nx σ H) ∨ ((Itl K a).go i H ∧ ∃ N : L2.St → Hp → Prop, (∀ σ' H', N σ' H' → ∃ m', m' < m ∧ W (i + 1) m' σ' H') ∧ ∀ x H', (Itl K a).yld i H x H' → g x σ H' fun σ2 H2 => tb ⟨N, rt, nx, N⟩ σ2 H2) :=
  for_list (D := ⟨nx, rt, fun _ _ => False, fun _ _ => False⟩) Pv h0 hl hs hd
theorem f_tup (Pv : Nat → L2.St → Hp → Prop) (h0 : Pv 0 σ H) (hl : ∀ i σ H, i ≤ xs.length → Pv i σ H → SqT K H a xs)
    (hs : ∀ i x σ H, xs[i]? = some x → Pv i σ H → g x σ H fun σ2 H2 => tb ⟨Pv (i + 1), rt, nx, Pv (i + 1)⟩ σ2 H2) (hd : ∀ σ H, Pv xs.length σ H → nx σ H) :
    ∃ W : Nat → Nat → L2.St → Hp → Prop, (∃ m, W 0 m σ H) ∧ ∀ i m σ H, W i m σ H →
      ((Itt K a).stop i H ∧ nx σ H) ∨ ((Itt K a).go i H ∧ ∃ N : L2.St → Hp → Prop, (∀ σ' H', N σ' H' → ∃ m', m' < m ∧ W (i + 1) m' σ' H') ∧ ∀ x H', (Itt K a).yld i H x H' → g x σ H' fun σ2 H2 => tb ⟨N, rt, nx, N⟩ σ2 H2) :=
  for_tup (D := ⟨nx, rt, fun _ _ => False, fun _ _ => False⟩) Pv h0 hl hs hd
theorem f_range {lo : Int} {n : Nat} (Pv : Nat → L2.St → Hp → Prop) (h0 : Pv 0 σ H)
    (hs : ∀ i σ H, i < n → Pv i σ H → g (.int (lo + i)) σ H fun σ2 H2 => tb ⟨Pv (i + 1), rt, nx, Pv (i + 1)⟩ σ2 H2) (hd : ∀ σ H, Pv n σ H → nx σ H) :
    ∃ W : Nat → Nat → L2.St → Hp → Prop, (∃ m, W 0 m σ H) ∧ ∀ i m σ H, W i m σ H →
      ((Itr lo n).stop i H ∧ nx σ H) ∨ ((Itr lo n).go i H ∧ ∃ N : L2.St → Hp → Prop, (∀ σ' H', N σ' H' → ∃ m', m' < m ∧ W (i + 1) m' σ' H') ∧ ∀ x H', (Itr lo n).yld i H x H' → g x σ H' fun σ2 H2 => tb ⟨N, rt, nx, N⟩ σ2 H2) :=
  for_range (D := ⟨nx, rt, fun _ _ => False, fun _ _ => False⟩) Pv h0 hs hd
theorem f_rangeC {lo c : Int} {n : Nat} (Pv : Nat → L2.St → Hp → Prop) (h0 : Pv 0 σ H)
    (hs : ∀ i σ H, i < n → Pv i σ H → g (.int (lo + (i : Nat) * c)) σ H fun σ2 H2 => tb ⟨Pv (i + 1), rt, nx, Pv (i + 1)⟩ σ2 H2) (hd : ∀ σ H, Pv n σ H → nx σ H) :
    ∃ W : Nat → Nat → L2.St → Hp → Prop, (∃ m, W 0 m σ H) ∧ ∀ i m σ H, W i m σ H →
      ((Itc lo c n).stop i H ∧ nx σ H) ∨ ((Itc lo c n).go i H ∧ ∃ N : L2.St → Hp → Prop, (∀ σ' H', N σ' H' → ∃ m', m' < m ∧ W (i + 1) m' σ' H') ∧ ∀ x H', (Itc lo c n).yld i H x H' → g x σ H' fun σ2 H2 => tb ⟨N, rt, nx, N⟩ σ2 H2) :=
  for_rangeC (D := ⟨nx, rt, fun _ _ => False, fun _ _ => False⟩) Pv h0 hs hd
theorem i_rng3 {ta : TA} {R : It → Hp → Prop} (h : ta σ H fun vs H1 => ∃ (i j c : Int) (n : Nat), vs = [.int i, .int j, .int c] ∧ RgC i j c n ∧ R (Itc i c n) H1) : iRng3 ta σ H R := h
variable {tt : TT} {te : TE} {ws : List Nat} {D : Addr} {Qd : Hp → Prop} {σ' : L2.St}
theorem l_list (Pv : Nat → Hp → Prop) (h0 : Pv 0 (upd H D (.lst []))) (hl : ∀ i H, i ≤ xs.length → Pv i H → SqL K H a xs)
    (hs : ∀ i x H, xs[i]? = some x → Pv i H → g x σ' H fun σ2 H2 => wipe σ2 ws = σ' ∧ tt σ2 H2 fun b H3 =>
      if b = true then te σ2 H3 fun y H4 => ∃ acc, H4 D = some (.lst acc) ∧ acc.length < sizeLine ∧ Pv (i + 1) (upd H4 D (.lst (acc ++ [y]))) else Pv (i + 1) H3) (hd : ∀ H, Pv xs.length H → Qd H) (e : wipe σ' ws = σ' := by rfl) :
    ∃ W : Nat → Nat → Hp → Prop, (∃ m, W 0 m (upd H D (.lst []))) ∧ ∀ i m H, W i m H →
      ((Itl K a).stop i H ∧ Qd H) ∨ ((Itl K a).go i H ∧ ∃ Nx : Hp → Prop, (∀ H', Nx H' → ∃ m', m' < m ∧ W (i + 1) m' H') ∧ ∀ x H', (Itl K a).yld i H x H' → g x σ' H' fun σ2 H2 => wipe σ2 ws = σ' ∧ tt σ2 H2 fun b H3 =>
        if b = true then te σ2 H3 fun y H4 => ∃ acc, H4 D = some (.lst acc) ∧ acc.length < sizeLine ∧ Nx (upd H4 D (.lst (acc ++ [y]))) else Nx H3) := by
  have h := lc_list (K := K) (a := a) (xs := xs) (g := g) (tt := tt) (te := te) (vs := ws) (σ := σ') (H1 := H) (D := D) (Qd := Qd) Pv h0 hl (by rw [e]; exact hs) hd
  rw [e] at h
  exact h
theorem l_tup (Pv : Nat → Hp → Prop) (h0 : Pv 0 (upd H D (.lst []))) (hl : ∀ i H, i ≤ xs.length → Pv i H → SqT K H a xs)
    (hs : ∀ i x H, xs[i]? = some x → Pv i H → g x σ' H fun σ2 H2 => wipe σ2 ws = σ' ∧ tt σ2 H2 fun b H3 =>
      if b = true then te σ2 H3 fun y H4 => ∃ acc, H4 D = some (.lst acc) ∧ acc.length < sizeLine ∧ Pv (i + 1) (upd H4 D (.lst (acc ++ [y]))) else Pv (i + 1) H3) (hd : ∀ H, Pv xs.length H → Qd H) (e : wipe σ' ws = σ' := by rfl) :
    ∃ W : Nat → Nat → Hp → Prop, (∃ m, W 0 m (upd H D (.lst []))) ∧ ∀ i m H, W i m H →
      ((Itt K a).stop i H ∧ Qd H) ∨ ((Itt K a).go i H ∧ ∃ Nx : Hp → Prop, (∀ H', Nx H' → ∃ m', m' < m ∧ W (i + 1) m' H') ∧ ∀ x H', (Itt K a).yld i H x H' → g x σ' H' fun σ2 H2 => wipe σ2 ws = σ' ∧ tt σ2 H2 fun b H3 =>
        if b = true then te σ2 H3 fun y H4 => ∃ acc, H4 D = some (.lst acc) ∧ acc.length < sizeLine ∧ Nx (upd H4 D (.lst (acc ++ [y]))) else Nx H3) := by
  have h := lc_tup (K := K) (a := a) (xs := xs) (g := g) (tt := tt) (te := te) (vs := ws) (σ := σ') (H1 := H) (D := D) (Qd := Qd) Pv h0 hl (by rw [e]; exact hs) hd
  rw [e] at h
  exact h
theorem l_range {lo : Int} {n : Nat} (Pv : Nat → Hp → Prop) (h0 : Pv 0 (upd H D (.lst [])))
    (hs : ∀ i H, i < n → Pv i H → g (.int (lo + i)) σ' H fun σ2 H2 => wipe σ2 ws = σ' ∧ tt σ2 H2 fun b H3 =>
      if b = true then te σ2 H3 fun y H4 => ∃ acc, H4 D = some (.lst acc) ∧ acc.length < sizeLine ∧ Pv (i + 1) (upd H4 D (.lst (acc ++ [y]))) else Pv (i + 1) H3) (hd : ∀ H, Pv n H → Qd H) (e : wipe σ' ws = σ' := by rfl) :
    ∃ W : Nat → Nat → Hp → Prop, (∃ m, W 0 m (upd H D (.lst []))) ∧ ∀ i m H, W i m H →
      ((Itr lo n).stop i H ∧ Qd H) ∨ ((Itr lo n).go i H ∧ ∃ Nx : Hp → Prop, (∀ H', Nx H' → ∃ m', m' < m ∧ W (i + 1) m' H') ∧ ∀ x H', (Itr lo n).yld i H x H' → g x σ' H' fun σ2 H2 => wipe σ2 ws = σ' ∧ tt σ2 H2 fun b H3 =>
        if b = true then te σ2 H3 fun y H4 => ∃ acc, H4 D = some (.lst acc) ∧ acc.length < sizeLine ∧ Nx (upd H4 D (.lst (acc ++ [y]))) else Nx H3) := by
  have h := lc_range (lo := lo) (n := n) (g := g) (tt := tt) (te := te) (vs := ws) (σ := σ') (H1 := H) (D := D) (Qd := Qd) Pv h0 (by rw [e]; exact hs) hd
  rw [e] at h
  exact h
/-! a comprehension whose elements lay nothing -/
theorem l_rangeP {lo : Int} {n : Nat} (f : Nat → V) (hD : H D = none) (hn : n ≤ 1000000)
    (hs : ∀ i H' (R : VK), i < n → Same H H' → R (f i) H' → g (.int (lo + i)) σ' H' fun σ2 H2 => wipe σ2 ws = σ' ∧ tt σ2 H2 fun b H3 => if b = true then te σ2 H3 R else False)
    (hd : ∀ H', Same H H' → H' D = some (.lst ((List.range n).map f)) → Qd H') (e : wipe σ' ws = σ' := by rfl)
    (htt : ∀ (σ2 : L2.St) (H2 : Hp) (A : Hp → Prop) (B : Hp → Prop), (tt σ2 H2 fun b H3 => if b = true then A H3 else False) → tt σ2 H2 fun b H3 => if b = true then A H3 else B H3 := by intro _ _ _ _ h; exact h) (hg : ∀ x (σ2 : L2.St) (H2 : Hp) (A B : L2.St → Hp → Prop), (∀ s h, A s h → B s h) → g x σ2 H2 A → g x σ2 H2 B := by intro _ _ _ _ _ h q; exact h _ _ q) :
    ∃ W : Nat → Nat → Hp → Prop, (∃ m, W 0 m (upd H D (.lst []))) ∧ ∀ i m H, W i m H →
      ((Itr lo n).stop i H ∧ Qd H) ∨ ((Itr lo n).go i H ∧ ∃ Nx : Hp → Prop, (∀ H', Nx H' → ∃ m', m' < m ∧ W (i + 1) m' H') ∧ ∀ x H', (Itr lo n).yld i H x H' → g x σ' H' fun σ2 H2 => wipe σ2 ws = σ' ∧ tt σ2 H2 fun b H3 =>
        if b = true then te σ2 H3 fun y H4 => ∃ acc, H4 D = some (.lst acc) ∧ acc.length < sizeLine ∧ Nx (upd H4 D (.lst (acc ++ [y]))) else Nx H3) := by
  refine l_range (fun i H' => Same H H' ∧ H' D = some (.lst ((List.range i).map f))) ⟨same_new hD, upd_same⟩ (fun i H' hi h => ?_) (fun H' h => hd H' h.1 h.2) e
  obtain ⟨s, hD'⟩ := h
  refine hg _ _ _ _ _ (fun σ2 H2 q => ⟨q.1, htt _ _ _ _ q.2⟩) (hs i H' _ hi s ⟨_, hD', ?_, fun b o hb => ?_, ?_⟩)
  · rw [List.length_map, List.length_range, sizeLine_eq]; omega
  · rw [upd_ne (ne_of_none hb hD)]; exact s _ _ hb
  · rw [upd_same, List.range_succ, List.map_append] <;> rfl
theorem l_listP (f : Nat → V) (hD : H D = none) (hn : xs.length ≤ 1000000) (hx : SqL K H a xs)
    (hs : ∀ i x H' (R : VK), xs[i]? = some x → Same H H' → R (f i) H' → g x σ' H' fun σ2 H2 => wipe σ2 ws = σ' ∧ tt σ2 H2 fun b H3 => if b = true then te σ2 H3 R else False)
    (hd : ∀ H', Same H H' → H' D = some (.lst ((List.range xs.length).map f)) → Qd H') (e : wipe σ' ws = σ' := by rfl)
    (htt : ∀ (σ2 : L2.St) (H2 : Hp) (A : Hp → Prop) (B : Hp → Prop), (tt σ2 H2 fun b H3 => if b = true then A H3 else False) → tt σ2 H2 fun b H3 => if b = true then A H3 else B H3 := by intro _ _ _ _ h; exact h) (hg : ∀ x (σ2 : L2.St) (H2 : Hp) (A B : L2.St → Hp → Prop), (∀ s h, A s h → B s h) → g x σ2 H2 A → g x σ2 H2 B := by intro _ _ _ _ _ h q; exact h _ _ q) :
    ∃ W : Nat → Nat → Hp → Prop, (∃ m, W 0 m (upd H D (.lst []))) ∧ ∀ i m H, W i m H →
      ((Itl K a).stop i H ∧ Qd H) ∨ ((Itl K a).go i H ∧ ∃ Nx : Hp → Prop, (∀ H', Nx H' → ∃ m', m' < m ∧ W (i + 1) m' H') ∧ ∀ x H', (Itl K a).yld i H x H' → g x σ' H' fun σ2 H2 => wipe σ2 ws = σ' ∧ tt σ2 H2 fun b H3 =>
        if b = true then te σ2 H3 fun y H4 => ∃ acc, H4 D = some (.lst acc) ∧ acc.length < sizeLine ∧ Nx (upd H4 D (.lst (acc ++ [y]))) else Nx H3) := by
  refine l_list (xs := xs) (fun i H' => Same H H' ∧ H' D = some (.lst ((List.range i).map f))) ⟨same_new hD, upd_same⟩ (fun i H' _ h => Same.seq h.1 hx) (fun i x H' hi h => ?_) (fun H' h => hd H' h.1 h.2) e
  obtain ⟨s, hD'⟩ := h
  have hlt := (List.getElem?_eq_some_iff.mp hi).1
  refine hg _ _ _ _ _ (fun σ2 H2 q => ⟨q.1, htt _ _ _ _ q.2⟩) (hs i x H' _ hi s ⟨_, hD', ?_, fun b o hb => ?_, ?_⟩)
  · rw [List.length_map, List.length_range, sizeLine_eq]; omega
  · rw [upd_ne (ne_of_none hb hD)]; exact s _ _ hb
  · rw [upd_same, List.range_succ, List.map_append] <;> rfl
theorem l_tupP (f : Nat → V) (hD : H D = none) (hn : xs.length ≤ 1000000) (hx : SqT K H a xs)
    (hs : ∀ i x H' (R : VK), xs[i]? = some x → Same H H' → R (f i) H' → g x σ' H' fun σ2 H2 => wipe σ2 ws = σ' ∧ tt σ2 H2 fun b H3 => if b = true then te σ2 H3 R else False)
    (hd : ∀ H', Same H H' → H' D = some (.lst ((List.range xs.length).map f)) → Qd H') (e : wipe σ' ws = σ' := by rfl)
    (htt : ∀ (σ2 : L2.St) (H2 : Hp) (A : Hp → Prop) (B : Hp → Prop), (tt σ2 H2 fun b H3 => if b = true then A H3 else False) → tt σ2 H2 fun b H3 => if b = true then A H3 else B H3 := by intro _ _ _ _ h; exact h) (hg : ∀ x (σ2 : L2.St) (H2 : Hp) (A B : L2.St → Hp → Prop), (∀ s h, A s h → B s h) → g x σ2 H2 A → g x σ2 H2 B := by intro _ _ _ _ _ h q; exact h _ _ q) :
    ∃ W : Nat → Nat → Hp → Prop, (∃ m, W 0 m (upd H D (.lst []))) ∧ ∀ i m H, W i m H →
      ((Itt K a).stop i H ∧ Qd H) ∨ ((Itt K a).go i H ∧ ∃ Nx : Hp → Prop, (∀ H', Nx H' → ∃ m', m' < m ∧ W (i + 1) m' H') ∧ ∀ x H', (Itt K a).yld i H x H' → g x σ' H' fun σ2 H2 => wipe σ2 ws = σ' ∧ tt σ2 H2 fun b H3 =>
        if b = true then te σ2 H3 fun y H4 => ∃ acc, H4 D = some (.lst acc) ∧ acc.length < sizeLine ∧ Nx (upd H4 D (.lst (acc ++ [y]))) else Nx H3) := by
  refine l_tup (xs := xs) (fun i H' => Same H H' ∧ H' D = some (.lst ((List.range i).map f))) ⟨same_new hD, upd_same⟩ (fun i H' _ h => Same.tup h.1 hx) (fun i x H' hi h => ?_) (fun H' h => hd H' h.1 h.2) e
  obtain ⟨s, hD'⟩ := h
  have hlt := (List.getElem?_eq_some_iff.mp hi).1
  refine hg _ _ _ _ _ (fun σ2 H2 q => ⟨q.1, htt _ _ _ _ q.2⟩) (hs i x H' _ hi s ⟨_, hD', ?_, fun b o hb => ?_, ?_⟩)
  · rw [List.length_map, List.length_range, sizeLine_eq]; omega
  · rw [upd_ne (ne_of_none hb hD)]; exact s _ _ hb
  · rw [upd_same, List.range_succ, List.map_append] <;> rfl
end
theorem i_yes {σ : L2.St} {H : Hp} {Q : Bool → Hp → Prop} (q : Q true H) : tYes σ H Q := q
/-! ### ifs -/
theorem c_dec {P A B : Prop} [Decidable P] (h1 : P → A) (h2 : ¬ P → B) : if decide P = true then A else B := by
  by_cases h : P
  · rw [if_pos (decide_eq_true h)]; exact h1 h
  · rw [if_neg (by rw [decide_eq_false h]; exact Bool.false_ne_true)]; exact h2 h
theorem c_decN {P A B : Prop} [Decidable P] (h1 : ¬ P → A) (h2 : P → B) : if (!decide P) = true then A else B := by
  by_cases h : P
  · rw [if_neg (by rw [decide_eq_true h]; exact Bool.false_ne_true)]; exact h2 h
  · rw [if_pos (by rw [decide_eq_false h]; rfl)]; exact h1 h
theorem c_nt {A B : Prop} (h : B) : if (!true) = true then A else B := iteF h
theorem c_nf {A B : Prop} (h : A) : if (!false) = true then A else B := iteT h
theorem c_bool {b : Bool} {A B : Prop} (h1 : b = true → A) (h2 : b = false → B) : if b = true then A else B := by
  cases b
  · exact iteF (h2 rfl)
  · exact iteT (h1 rfl)
theorem c_yes {P A B : Prop} [Decidable P] (h : P) (h1 : A) : if decide P = true then A else B := by rw [if_pos (decide_eq_true h)]; exact h1
theorem c_no {P A B : Prop} [Decidable P] (h : ¬ P) (h1 : B) : if decide P = true then A else B := by rw [if_neg (by rw [decide_eq_false h]; exact Bool.false_ne_true)]; exact h1
theorem c_yesN {P A B : Prop} [Decidable P] (h : ¬ P) (h1 : A) : if (!decide P) = true then A else B := by rw [if_pos (by rw [decide_eq_false h]; rfl)]; exact h1
theorem c_noN {P A B : Prop} [Decidable P] (h : P) (h1 : B) : if (!decide P) = true then A else B := by rw [if_neg (by rw [decide_eq_true h]; exact Bool.false_ne_true)]; exact h1
section
variable {K : PySem.W.Frag} {σ : L2.St} {H : Hp} {Q : VK}
theorem i_slA {p : Addr} {xs : List V} {lo hi : Option Int} (h : SqT K H p xs) (q : ∀ (r : Addr) (H' : Hp), Same H H' → SqT K H' r (cutV xs lo hi) → Q (.ref r) H') : rSlQ K (.ref p) lo hi H Q :=
  ⟨p, xs, rfl, h, fun e => q p H (Same.refl H) (by rw [e]; exact h), fun r hr => q r _ (same_new hr) (SqT.of upd_same)⟩
theorem i_eqD {x y : V} {d e : PyData} {n m : Nat} (h1 : Dp K H x d) (h2 : Dp K H y e) (s1 : Shp n d) (s2 : Shp m e) (hn : n ≤ 64) (hm : m ≤ 64) (q : Q (.bl (PyData.eqv d e)) H) : rEqD K x y H Q := ⟨d, e, h1, h2, s1.shaped hn, s2.shaped hm, q⟩
theorem i_neD {x y : V} {d e : PyData} {n m : Nat} (h1 : Dp K H x d) (h2 : Dp K H y e) (s1 : Shp n d) (s2 : Shp m e) (hn : n ≤ 64) (hm : m ≤ 64) (q : Q (.bl (!PyData.eqv d e)) H) : rNeD K x y H Q := ⟨d, e, h1, h2, s1.shaped hn, s2.shaped hm, q⟩
/-- == and != of the same data -/
theorem i_eqS' {x y : V} {d : PyData} {n : Nat} (h1 : Dp K H x d) (h2 : Dp K H y d) (s1 : Shp n d) (hn : n ≤ 64) (q : Q (.bl true) H) : rEqD K x y H Q := i_eqD h1 h2 s1 s1 hn hn (by rw [s1.eqv]; exact q)
theorem i_neS' {x y : V} {d : PyData} {n : Nat} (h1 : Dp K H x d) (h2 : Dp K H y d) (s1 : Shp n d) (hn : n ≤ 64) (q : Q (.bl false) H) : rNeD K x y H Q := i_neD h1 h2 s1 s1 hn hn (by rw [s1.eqv]; exact q)
theorem i_while {c : TT} {tb : TS} {nx : L2.St → Hp → Prop} {rt : VK} {bk ct : L2.St → Hp → Prop} (W : Nat → L2.St → Hp → Prop) (h0 : ∃ m, W m σ H) (h : ∀ m σ H, W m σ H →
  c σ H fun b H1 => if b = true then ∃ N : L2.St → Hp → Prop, (∀ σ' H', N σ' H' → ∃ m', m' < m ∧ W m' σ' H') ∧ tb ⟨N, rt, nx, N⟩ σ H1 else nx σ H1) : tWhile c tb ⟨nx, rt, bk, ct⟩ σ H := ⟨W, h0, h⟩
theorem i_par {i j : Nat} {ta : TA} {nx : L2.St → Hp → Prop} {rt : VK} {bk ct : L2.St → Hp → Prop} (h : ta σ H fun vs H1 => ∃ v w, vs = [v, w] ∧ nx ((σ.set i (some v)).set j (some w)) H1) : tPar i j ta ⟨nx, rt, bk, ct⟩ σ H := h
theorem i_two {x y : V} {R : V → V → Prop} (q : R x y) : ∃ v w, [x, y] = [v, w] ∧ R v w := ⟨x, y, rfl, q⟩
theorem Dp.same {K : PySem.W.Frag} {H H' : Hp} (s : Same H H') : ∀ (d : PyData) (v : V), Dp K H v d → Dp K H' v d := by
  intro d v h
  exact Dp.rec (motive_1 := fun v d _ => Dp K H' v d) (motive_2 := fun vs ds _ => DpAll K H' vs ds) .non (fun b => .bl b) (fun i => .int i) (fun x => .str x) (fun h _ q => .lst (s.seq h) q) (fun h _ q => .tup (Same.tup s h) q) .nil (fun _ _ h1 h2 => .cons h1 h2) h
end
/-! ### a def that can be called -/
structure Df (K : PySem.W.Frag) (mg : Str → Option Value) (x : Str) (st : Stmt) (f : Addr) (fd : FuncData) (ps : List Str) : Prop where
  fn : Fun K x x st f fd
  mgf : mg x = some (.ref f)
  bi : Binds K fd ps []
/-- a def of the text by its promise: it lets no exception out -/
structure Cl (P : Program) (w : World) (K : PySem.W.Frag) (mg : Str → Option Value) (base : Heap) (k : Nat) (x : Str) (sp : Sp) : Prop where
  ex : ∃ (f : Addr) (fd : FuncData) (ps : List Str), FnOk P w K mg base CX0 k f fd ps sp ∧ mg x = some (.ref f) ∧ PySem.W.keepIn K (.ref f) = true ∧ Binds K fd ps []
section
variable {P : Program} {w : World} {K : PySem.W.Frag} {mg : Str → Option Value} {base : Heap}
theorem Df.ok {x : Str} {st : Stmt} {f : Addr} {fd : FuncData} {ps N : List Str} {k : Nat} {sp : Sp} (F : Df K mg x st f fd ps) (S : FnScope N ps (defScope st)) (len : ∀ vs H Q E, sp vs H Q E → vs.length = ps.length)
    (hbody : ∀ (cdv : Value) (A : Around) (outer : List Env) (s : Shared) (H : Hp) (vs : List V) (Q : VK) (E : XK), Room k (A.deeper (envOfC x (defScope st) s.heap.objs.size f cdv)) → sp vs H Q E →
      ∃ t, PSs (cxOf CX0 P w K mg base N x (defScope st) f cdv A outer s H E).nox (defBody st) t ∧ t { nx := fun _ H' => Q .non H', rt := Q } (start N vs) H) : FnOk P w K mg base CX0 (k + 1) f fd ps sp :=
  F.fn.ok S len hbody
theorem Df.cl {x : Str} {st : Stmt} {f : Addr} {fd : FuncData} {ps : List Str} {k : Nat} {sp : Sp} (F : Df K mg x st f fd ps) (o : FnOk P w K mg base CX0 k f fd ps sp) : Cl P w K mg base k x sp :=
  ⟨f, fd, ps, o, F.mgf, F.fn.kp, F.bi⟩
variable {X : Cx}
theorem pe_cl {x : Str} {sp : Sp} {j k : Nat} {e : Expr} {es : List Expr} {t : TA} {p pos : Pos} (c : Cl X.prog X.w X.K X.mg X.base k x sp) (hr : Room j X.A) (hk : k ≤ j) (hg : Gl X x) (ha : PA X (e :: es) t)
    (hdb : (x == ("__debug__" : Str)) = false := by decide) (he : starEach (e :: es) X.env = (false, eval e X.env) :: starEach es X.env := by rfl) (hpl : (backTo pos (starEach es X.env)).any (·.1) = false := by rfl) :
    PE X (.Call (.Name x p) (e :: es) [] pos) (tCall sp [] E0 t) := by
  obtain ⟨f, fd, ps, F, hm, kp, b⟩ := c.ex
  exact pe_call F (hr.mono hk) hg hm kp b .nil pass0 ha hdb he hpl
theorem pe_cl0 {x : Str} {sp : Sp} {j k : Nat} {p pos : Pos} (c : Cl X.prog X.w X.K X.mg X.base k x sp) (hr : Room j X.A) (hk : k ≤ j) (hg : Gl X x) (hdb : (x == ("__debug__" : Str)) = false := by decide) :
    PE X (.Call (.Name x p) [] [] pos) (tCall sp [] E0 tNil) := by
  obtain ⟨f, fd, ps, F, hm, kp, b⟩ := c.ex
  exact pe_call0 F (hr.mono hk) hg hm kp b .nil pass0 hdb
/-- a constant of the module's top -/
def Cn (mg : Str → Option Value) (x : Str) (v : V) : Prop := ∃ u, mg x = some u ∧ RelV v u
theorem pe_cn {x : Str} {v : V} {pos : Pos} (hg : Gl X x) (h : Cn X.mg x v) (hd : (x == ("__debug__" : Str)) = false := by decide) : PE X (.Name x pos) (tC v) := by
  obtain ⟨u, hm, r⟩ := h
  exact pe_glob hg hm r hd
section
variable {K : PySem.W.Frag} {T : String} {name : Str} {id : String} {r : V → List V → Hp → VK → Prop} {o e : Expr} {es : List Expr} {apos cpos pos : Pos} {to ta : TE} {t : TA}
theorem pe_bm0K (hK : X.K = K) (pa : PlainAttrs T) (slot : Slot T name id) (hty : typeOf (.builtin id) = pure (.type "method_descriptor")) (hm : MtR X id r) (ho : PE X o to)
    (hbase : attributeBase o name X.env (eval o X.env) = eval o X.env := by rfl) (hline : (apos.endLine == cpos.line) = true := by rfl) : PE X (.Call (.Attribute o name apos) [] [] cpos) (tBM0 K T r to) := by
  subst hK; exact pe_bm0 pa slot hty hm ho hbase hline
theorem pe_bmK (hK : X.K = K) (pa : PlainAttrs T) (slot : Slot T name id) (hty : typeOf (.builtin id) = pure (.type "method_descriptor")) (hm : MtR X id r) (ho : PE X o to) (ha : PA X (e :: es) t)
    (hbase : attributeBase o name X.env (eval o X.env) = eval o X.env := by rfl)
    (hfew : ((backTo cpos (starEach (e :: es) X.env)).all (fun x => !x.1) && (backToKw cpos (keywordEach [] X.env)).all (fun x => x.1.isSome)
      && decide ((e :: es).length + ([] : List Keyword).length + (if ([] : List Keyword).isEmpty then 0 else 1) < 30)) = true := by rfl)
    (hline : (apos.endLine == cpos.line) = true := by rfl) (hs : starEach (e :: es) X.env = (false, eval e X.env) :: starEach es X.env := by rfl) (hplain : (backTo cpos (starEach es X.env)).any (·.1) = false := by rfl) :
    PE X (.Call (.Attribute o name apos) (e :: es) [] cpos) (tBM K T r to t) := by
  subst hK; exact pe_bm pa slot hty hm ho ha hbase hfew hline hs hplain
theorem pe_fldK (hK : X.K = K) {f : Str} (he : PE X e ta) (hb : attributeBase e f X.env (eval e X.env) = eval e X.env) : PE X (.Attribute e f pos) (tFld K ta f) := by
  subst hK; exact pe_fld he hb
theorem pg_tupK (hK : X.K = K) {es : List Expr} {k : Nat} {t : TGs} {n : Nat} (hc : X.calm = true) (h : PGs X es t)
    (hn : (assignEach es X.env).length = n := by rfl) (hst : (assignEach es X.env).findIdx? (·.1) = none := by rfl) : PG X (.Tuple es k pos) (gTup K n t) := by
  subst hK; exact pg_tup hc h hn hst
end
theorem get_list : L2.PGet X (rIxL X.K) := by
  intro pins s σ H x y v u Q I rx ry h
  obtain ⟨p, xs, i, z, rfl, rfl, hq, he, q⟩ := h
  cases rx
  obtain ⟨t, rfl⟩ := ry
  obtain ⟨its, r, pl, hz⟩ := I.list hq
  obtain ⟨j, h1, h2, h3, h4, h5⟩ := atI_get he
  obtain ⟨w, ew, rw'⟩ := r.get h2
  have hl := r.length
  have hn := line63
  have fin : EP X pins σ Q w s := ⟨z, H, I, rw', q⟩
  by_cases h0 : 0 ≤ i
  · have hj : i.toNat = j := by
      rw [seqIndex_of h0 h5] at h1
      exact Option.some.inj h1
    exact wpAny_getItem_list pl.isList h0 (by omega) (by rw [hj]; simpa using ew) fin
  · have hj : (i + (its.toArray.size : Int)).toNat = j := by
      rw [seqIndex_neg (by omega) h4] at h1
      rw [List.size_toArray, ← hl]
      exact Option.some.inj h1
    exact wpAny_getItem_list_neg pl.isList (by omega) (by rw [List.size_toArray] <;> omega) (by omega) (by rw [hj]; simpa using ew) fin
end
theorem perm_erase {α : Type} : ∀ (l : List α) (i : Nat) (h : i < l.length), (l[i] :: l.eraseIdx i).Perm l
  | x :: r, 0, _ => List.Perm.refl _
  | x :: r, i + 1, h => (List.Perm.swap x (r[i]'(Nat.lt_of_succ_lt_succ h)) (r.eraseIdx i)).trans ((perm_erase r i (Nat.lt_of_succ_lt_succ h)).cons x)
theorem ints_at {ns : List Int} {i : Nat} {x : V} (h : (ns.map V.int)[i]? = some x) : ∃ z, x = .int z ∧ ns[i]? = some z ∧ ns.take (i + 1) = ns.take i ++ [z] ∧ i < ns.length := by
  rw [List.getElem?_map] at h
  cases e : ns[i]? with
  | none => rw [e] at h; cases h
  | some z =>
    rw [e] at h
    exact ⟨z, (Option.some.inj h).symm, rfl, by rw [List.take_add_one, e]; rfl, (List.getElem?_eq_some_iff.mp e).1⟩
theorem at_lt {α : Type} {xs : List α} {i : Int} (h0 : 0 ≤ i) (h : i < xs.length) : ∃ v, atI xs i = some v ∧ v ∈ xs ∧ xs[i.toNat]? = some v := by
  have hl : i.toNat < xs.length := by omega
  refine ⟨xs[i.toNat], ?_, List.getElem_mem hl, List.getElem?_eq_getElem hl⟩
  have := atI_nat (xs := xs) (j := i.toNat) (v := xs[i.toNat]) (List.getElem?_eq_getElem hl)
  rw [Int.toNat_of_nonneg h0] at this
  exact this
theorem ixN_of {n : Nat} {i : Int} (h0 : 0 ≤ i) (h : i < n) : ixN n i = some i.toNat := by
  unfold ixN
  rw [if_pos h0, if_pos h]
end Jp

namespace Law
open PySem PySem.Spec PyProof.Rows L2 Jp
/-! ### the walk's small steps -/
local macro_rules | `(tactic| wtm_at "jset") => `(tactic| (first | (simp only [wipe, List.map_cons, List.map_nil, List.set_cons_zero, List.set_cons_succ]; done) | (simp only [wipe, List.map_cons, List.map_nil, List.set_cons_zero, List.set_cons_succ]; exact rfl) | exact rfl))
local macro_rules | `(tactic| wtm_at "jw1") => `(tactic| first
  | ((with_reducible refine' i_var ?h ?_); (case h => exact rfl))
  | with_reducible refine' i_c ?_ | with_reducible refine' i_op ?_ | with_reducible refine' i_seq ?_ | with_reducible refine' i_asg ?_
  | ((with_reducible refine' i_gNameE ?e ?_); (case e => wtm_at "jset"))
  | with_reducible refine' i_ret ?_ | with_reducible refine' i_test ?_ | with_reducible refine' i_isb ?_
  | with_reducible refine' i_cons ?_ | with_reducible refine' i_nil ?_ | with_reducible refine' i_call ?_ | with_reducible refine' i_cb ?_
  | with_reducible refine' i_rI0 ?_ | ((with_reducible refine' i_rI ?c ?_); (case c => wtm_at "jside")) | with_reducible refine' i_rU ?_
  | with_reducible refine' i_eqI ?_ | with_reducible refine' i_neI ?_ | with_reducible refine' i_eqB ?_ | with_reducible refine' i_neB ?_ | with_reducible refine' i_eqS ?_ | with_reducible refine' i_neS ?_
  | with_reducible refine' i_isN ?_ | with_reducible refine' i_notN ?_
  | with_reducible refine' i_un ?_ | with_reducible refine' i_drop ?_ | with_reducible refine' i_retN ?_ | with_reducible refine' i_next ?_
  | ((with_reducible refine' i_ixL ?h ?e ?_); (case h => wtm_at "jsq"); (case e => wtm_at "jat"))
  | ((with_reducible refine' i_ixT ?h ?e ?_); (case h => wtm_at "jsq"); (case e => wtm_at "jat"))
  | ((with_reducible refine' i_ix1 (i_ixL ?h ?e ?_)); (case h => wtm_at "jsq"); (case e => wtm_at "jat"))
  | ((with_reducible refine' i_ix2 (i_ixT ?h ?e ?_)); (case h => wtm_at "jsq"); (case e => wtm_at "jat"))
  | with_reducible refine' i_gSub ?_
  | ((with_reducible refine' i_setL ?h ?e ?_); (case h => wtm_at "jhp"); (case e => wtm_at "jixn"))
  | ((with_reducible refine' i_gTup ?h ?e ?_); (case h => wtm_at "jsq"); (case e => rfl)) | with_reducible refine' i_gCons ?_ | with_reducible refine' i_gNil ?_
  | with_reducible refine' i_int ?_ | with_reducible refine' i_intB ?_ | with_reducible refine' i_abs ?_ | with_reducible refine' i_max2 ?_ | with_reducible refine' i_min2 ?_
  | ((with_reducible refine' i_lenL ?h ?_); (case h => wtm_at "jsq")) | ((with_reducible refine' i_lenT ?h ?_); (case h => wtm_at "jsq"))
  | ((with_reducible refine' i_tupL ?h ?_); (case h => wtm_at "jsq")) | ((with_reducible refine' i_lstL ?h ?_); (case h => wtm_at "jsq")) | ((with_reducible refine' i_lstT ?h ?_); (case h => wtm_at "jsq")) | ((with_reducible refine' i_tupT ?h ?_); (case h => wtm_at "jsq"))
  | ((with_reducible refine' i_new ?h ?_); (case h => wtm_at "jlen"))
  | with_reducible refine' i_tup ?_ | with_reducible refine' i_lst ?_ | with_reducible refine' i_if ?_ | with_reducible refine' i_andV ?_ | with_reducible refine' i_orV ?_ | with_reducible refine' i_notV ?_ | with_reducible refine' i_B ?_
  | with_reducible refine' i_and ?_ | with_reducible refine' i_or ?_ | with_reducible refine' i_not ?_ | with_reducible refine' i_break ?_ | with_reducible refine' i_cont ?_
  | ((with_reducible refine' i_augE ?h ?_); (case h => exact rfl)) | with_reducible refine' i_augS ?_ | with_reducible refine' i_ipI ?_
  | with_reducible refine' i_for ?_ | with_reducible refine' i_iList ?_ | with_reducible refine' i_iTup ?_ | ((with_reducible refine' i_isL ?h ?_); (case h => wtm_at "jsq")) | ((with_reducible refine' i_isT ?h ?_); (case h => wtm_at "jsq"))
  | with_reducible refine' i_rng1 ?_ | with_reducible refine' i_rng2 ?_
  | ((with_reducible refine' i_isR1 ?h1 ?h2 ?_); (case h1 => wtm_at "jside"); (case h2 => wtm_at "jside"))
  | ((with_reducible refine' i_isR2 ?h1 ?h2 ?h3 ?h4 ?_); (case h1 => wtm_at "jside"); (case h2 => wtm_at "jside"); (case h3 => wtm_at "jside"); (case h4 => wtm_at "jside"))
  | ((with_reducible refine' i_lc ?e ?_); (case e => wtm_at "jset"))
  | with_reducible refine' i_yes ?_ | with_reducible refine' i_sl ?_ | with_reducible refine' i_par ?_ | with_reducible refine' i_two ?_ | with_reducible refine' i_noPart ?_ | with_reducible refine' i_part ?_ | with_reducible refine' i_isI ?_
  | with_reducible refine' i_bm ?_ | with_reducible refine' i_bm0 ?_ | ((with_reducible refine' i_tyL ?h ?_); (case h => wtm_at "jsq"))
  | ((with_reducible refine' i_app ?h ?e ?_); (case h => wtm_at "jhp"); (case e => wtm_at "jsmall"))
  | with_reducible refine' i_chain ?_ | ((with_reducible refine' i_cat ?h1 ?h2 ?e ?_); (case h1 => wtm_at "jhp"); (case h2 => wtm_at "jhp"); (case e => wtm_at "jlen"))
  | with_reducible refine iteT ?_ | with_reducible refine iteF ?_ | with_reducible refine' c_nt ?_ | with_reducible refine' c_nf ?_)
local macro_rules | `(tactic| wtm_at "js") => `(tactic| repeat (wtm_at "jw1"))
local macro_rules | `(tactic| wtm_at "jw") => `(tactic| repeat (first | wtm_at "jw1" | with_reducible refine' i_ifS ?_))
local macro_rules | `(tactic| wtm_at "jlen") => `(tactic| first | decide | (simp [sizeLine]; done) | omega)
/- a condition of an operation -/
local macro_rules | `(tactic| wtm_at "jside") => `(tactic| first | with_reducible assumption | omega | decide | (simp only [List.length_map]; omega) | (refine Or.inl ?_; decide) | (refine Or.inr ?_; decide) | (refine ⟨?_, ?_⟩ <;> omega) | (refine Or.inl ?_; constructor <;> omega) | (refine Or.inr ?_; constructor <;> omega) | (refine ⟨by decide, by decide, by decide⟩) | (with_reducible refine wide_div ?_ (b := 64) ?_ ?_ ?_ <;> first | omega | decide))
/- H p = some o -/
local macro_rules | `(tactic| wtm_at "jhp") => `(tactic| first | assumption | with_reducible exact upd_same | ((with_reducible refine' Eq.trans (upd_ne ?hne) ?hgo); (case hne => wtm_at "jne"); (case hgo => wtm_at "jhp")))
local macro_rules | `(tactic| wtm_at "jne") => `(tactic| first | assumption | (refine Ne.symm ?_; assumption) | (refine ne_of_none (by assumption) (by assumption)) | (refine (ne_of_none (by assumption) (by assumption)).symm))
local macro_rules | `(tactic| wtm_at "jsq") => `(tactic| first | assumption | ((with_reducible refine' SqL.of ?hh); (case hh => wtm_at "jhp")) | ((with_reducible refine' SqT.of ?hh); (case hh => wtm_at "jhp")) | ((with_reducible refine' Same.seq (same_new ?hn) ?hh); (case hn => assumption); (case hh => wtm_at "jsq")) | ((with_reducible refine' Same.tup (same_new ?hn) ?hh); (case hn => assumption); (case hh => wtm_at "jsq")))
/- the item at a place -/
local macro_rules | `(tactic| wtm_at "jat") => `(tactic| first | exact rfl | assumption)
local macro_rules | `(tactic| wtm_at "jixn") => `(tactic| first | exact rfl | assumption)
local macro_rules | `(tactic| wtm_at "jsmall") => `(tactic| first | assumption | exact small1000 (by first | assumption | omega | (simp; done) | (simp; omega)))

def top (i : Nat) : Stmt := PySem.Challenge.pw_judgedplay_k27_roads_judged.main.body.getD i (.Pass ⟨0, 0, 0, 0⟩)
abbrev s__law_begin : Stmt := top 12
abbrev N__law_begin : List Str := ["script", "cell"]
theorem sc__law_begin : FnScope N__law_begin ["script"] (defScope s__law_begin) := ⟨rfl, rfl, rfl, by decide +kernel, rfl, by decide +kernel, by decide +kernel⟩
abbrev s__law_draw : Stmt := top 13
abbrev N__law_draw : List Str := ["d", "many", "found", "size", "cell"]
theorem sc__law_draw : FnScope N__law_draw ["d", "many"] (defScope s__law_draw) := ⟨rfl, rfl, rfl, by decide +kernel, rfl, by decide +kernel, by decide +kernel⟩
abbrev s__law_pick : Stmt := top 14
abbrev N__law_pick : List Str := ["d", "row"]
theorem sc__law_pick : FnScope N__law_pick ["d", "row"] (defScope s__law_pick) := ⟨rfl, rfl, rfl, by decide +kernel, rfl, by decide +kernel, by decide +kernel⟩
abbrev s__law_rare : Stmt := top 15
abbrev N__law_rare : List Str := ["d", "many"]
theorem sc__law_rare : FnScope N__law_rare ["d", "many"] (defScope s__law_rare) := ⟨rfl, rfl, rfl, by decide +kernel, rfl, by decide +kernel, by decide +kernel⟩
abbrev s__law_fates : Stmt := top 18
abbrev N__law_fates : List Str := ["d", "frames", "late", "lost", "found", "run", "k", "one"]
theorem sc__law_fates : FnScope N__law_fates ["d", "frames", "late", "lost"] (defScope s__law_fates) := ⟨rfl, rfl, rfl, by decide +kernel, rfl, by decide +kernel, by decide +kernel⟩
abbrev s__law_one_fate : Stmt := top 23
abbrev N__law_one_fate : List Str := ["d", "late", "one"]
theorem sc__law_one_fate : FnScope N__law_one_fate ["d", "late"] (defScope s__law_one_fate) := ⟨rfl, rfl, rfl, by decide +kernel, rfl, by decide +kernel, by decide +kernel⟩
abbrev s__law_lost_run : Stmt := top 24
abbrev N__law_lost_run : List Str := ["d", "frames", "late", "many", "first", "found", "frame"]
theorem sc__law_lost_run : FnScope N__law_lost_run ["d", "frames", "late", "many"] (defScope s__law_lost_run) := ⟨rfl, rfl, rfl, by decide +kernel, rfl, by decide +kernel, by decide +kernel⟩
abbrev s__law_right_fates : Stmt := top 25
abbrev N__law_right_fates : List Str := ["d", "frames", "late", "lost", "way", "frame", "phase", "found"]
theorem sc__law_right_fates : FnScope N__law_right_fates ["d", "frames", "late", "lost"] (defScope s__law_right_fates) := ⟨rfl, rfl, rfl, by decide +kernel, rfl, by decide +kernel, by decide +kernel⟩
abbrev s__law_right_road : Stmt := top 26
abbrev N__law_right_road : List Str := ["d", "numbers", "seats", "receivers", "frames", "late", "lost", "found", "sender", "rows", "receiver"]
theorem sc__law_right_road : FnScope N__law_right_road ["d", "numbers"] (defScope s__law_right_road) := ⟨rfl, rfl, rfl, by decide +kernel, rfl, by decide +kernel, by decide +kernel⟩
abbrev s__law_shuffled : Stmt := top 16
abbrev N__law_shuffled : List Str := ["d", "row", "left", "found", "k"]
theorem sc__law_shuffled : FnScope N__law_shuffled ["d", "row"] (defScope s__law_shuffled) := ⟨rfl, rfl, rfl, by decide +kernel, rfl, by decide +kernel, by decide +kernel⟩
abbrev s__law_other_numbers : Stmt := top 33
abbrev N__law_other_numbers : List Str := ["numbers", "seats", "receivers", "frames", "late", "lost", "found", "other"]
theorem sc__law_other_numbers : FnScope N__law_other_numbers ["numbers"] (defScope s__law_other_numbers) := ⟨rfl, rfl, rfl, by decide +kernel, rfl, by decide +kernel, by decide +kernel⟩
abbrev s__law_other_fates : Stmt := top 29
abbrev N__law_other_fates : List Str := ["d", "late", "far", "found"]
theorem sc__law_other_fates : FnScope N__law_other_fates ["d", "late"] (defScope s__law_other_fates) := ⟨rfl, rfl, rfl, by decide +kernel, rfl, by decide +kernel, by decide +kernel⟩
abbrev s__law_put : Stmt := top 27
abbrev N__law_put : List Str := ["row", "at", "thing"]
theorem sc__law_put : FnScope N__law_put ["row", "at", "thing"] (defScope s__law_put) := ⟨rfl, rfl, rfl, by decide +kernel, rfl, by decide +kernel, by decide +kernel⟩
abbrev s__law_other_rows : Stmt := top 30
abbrev N__law_other_rows : List Str := ["d", "row", "numbers", "seats", "receivers", "frames", "late", "lost", "found", "thing", "frame", "many"]
theorem sc__law_other_rows : FnScope N__law_other_rows ["d", "row", "numbers"] (defScope s__law_other_rows) := ⟨rfl, rfl, rfl, by decide +kernel, rfl, by decide +kernel, by decide +kernel⟩
abbrev s__law_put_row : Stmt := top 28
abbrev N__law_put_row : List Str := ["road", "sender", "receiver", "thing"]
theorem sc__law_put_row : FnScope N__law_put_row ["road", "sender", "receiver", "thing"] (defScope s__law_put_row) := ⟨rfl, rfl, rfl, by decide +kernel, rfl, by decide +kernel, by decide +kernel⟩
abbrev s__law_spoilt_ways : Stmt := top 31
abbrev N__law_spoilt_ways : List Str := ["d", "road", "numbers", "seats", "receivers", "frames", "late", "lost", "ways", "sender", "receiver", "found", "fate", "row", "rows", "both"]
theorem sc__law_spoilt_ways : FnScope N__law_spoilt_ways ["d", "road", "numbers"] (defScope s__law_spoilt_ways) := ⟨rfl, rfl, rfl, by decide +kernel, rfl, by decide +kernel, by decide +kernel⟩
abbrev s__law_spoilt_senders : Stmt := top 32
abbrev N__law_spoilt_senders : List Str := ["d", "road", "numbers", "seats", "receivers", "frames", "late", "lost", "found", "sender", "straight", "frame", "silent", "row", "rows", "thing", "receiver", "one"]
theorem sc__law_spoilt_senders : FnScope N__law_spoilt_senders ["d", "road", "numbers"] (defScope s__law_spoilt_senders) := ⟨rfl, rfl, rfl, by decide +kernel, rfl, by decide +kernel, by decide +kernel⟩
abbrev s_is_row : Stmt := top 2
abbrev N_is_row : List Str := ["thing", "many"]
theorem sc_is_row : FnScope N_is_row ["thing", "many"] (defScope s_is_row) := ⟨rfl, rfl, rfl, by decide +kernel, rfl, by decide +kernel, by decide +kernel⟩
abbrev s_keeps_bounds : Stmt := top 8
abbrev N_keeps_bounds : List Str := ["fates", "l", "lost", "fate"]
theorem sc_keeps_bounds : FnScope N_keeps_bounds ["fates", "l"] (defScope s_keeps_bounds) := ⟨rfl, rfl, rfl, by decide +kernel, rfl, by decide +kernel, by decide +kernel⟩
abbrev s_is_int : Stmt := top 1
abbrev N_is_int : List Str := ["thing"]
theorem sc_is_int : FnScope N_is_int ["thing"] (defScope s_is_int) := ⟨rfl, rfl, rfl, by decide +kernel, rfl, by decide +kernel, by decide +kernel⟩
abbrev s_is_ints : Stmt := top 3
abbrev N_is_ints : List Str := ["thing", "one"]
theorem sc_is_ints : FnScope N_is_ints ["thing"] (defScope s_is_ints) := ⟨rfl, rfl, rfl, by decide +kernel, rfl, by decide +kernel, by decide +kernel⟩
abbrev s_is_ints_between : Stmt := top 4
abbrev N_is_ints_between : List Str := ["thing", "low", "high", "one"]
theorem sc_is_ints_between : FnScope N_is_ints_between ["thing", "low", "high"] (defScope s_is_ints_between) := ⟨rfl, rfl, rfl, by decide +kernel, rfl, by decide +kernel, by decide +kernel⟩
abbrev s_is_fate : Stmt := top 7
abbrev N_is_fate : List Str := ["thing", "d"]
theorem sc_is_fate : FnScope N_is_fate ["thing", "d"] (defScope s_is_fate) := ⟨rfl, rfl, rfl, by decide +kernel, rfl, by decide +kernel, by decide +kernel⟩
abbrev s_is_fates : Stmt := top 9
abbrev N_is_fates : List Str := ["thing", "frames", "d", "l", "fate"]
theorem sc_is_fates : FnScope N_is_fates ["thing", "frames", "d", "l"] (defScope s_is_fates) := ⟨rfl, rfl, rfl, by decide +kernel, rfl, by decide +kernel, by decide +kernel⟩
abbrev s_is_road : Stmt := top 10
abbrev N_is_road : List Str := ["road", "seats", "receivers", "frames", "d", "l", "sender", "receiver", "fates"]
theorem sc_is_road : FnScope N_is_road ["road", "seats", "receivers", "frames", "d", "l"] (defScope s_is_road) := ⟨rfl, rfl, rfl, by decide +kernel, rfl, by decide +kernel, by decide +kernel⟩
abbrev s__law_is_int : Stmt := top 17
abbrev N__law_is_int : List Str := ["thing"]
theorem sc__law_is_int : FnScope N__law_is_int ["thing"] (defScope s__law_is_int) := ⟨rfl, rfl, rfl, by decide +kernel, rfl, by decide +kernel, by decide +kernel⟩
abbrev s__law_is_fate : Stmt := top 19
abbrev N__law_is_fate : List Str := ["thing", "late", "delay"]
theorem sc__law_is_fate : FnScope N__law_is_fate ["thing", "late"] (defScope s__law_is_fate) := ⟨rfl, rfl, rfl, by decide +kernel, rfl, by decide +kernel, by decide +kernel⟩
abbrev s__law_is_fates : Stmt := top 20
abbrev N__law_is_fates : List Str := ["thing", "frames", "late", "lost", "fate", "first"]
theorem sc__law_is_fates : FnScope N__law_is_fates ["thing", "frames", "late", "lost"] (defScope s__law_is_fates) := ⟨rfl, rfl, rfl, by decide +kernel, rfl, by decide +kernel, by decide +kernel⟩
abbrev s__law_lets : Stmt := top 21
abbrev N__law_lets : List Str := ["road", "numbers", "seats", "receivers", "frames", "late", "lost", "sender", "rows", "receiver", "fates"]
theorem sc__law_lets : FnScope N__law_lets ["road", "numbers"] (defScope s__law_lets) := ⟨rfl, rfl, rfl, by decide +kernel, rfl, by decide +kernel, by decide +kernel⟩
abbrev s__law_is_judged : Stmt := top 22
abbrev N__law_is_judged : List Str := ["road", "numbers", "seats", "receivers", "frames", "late", "lost", "told"]
theorem sc__law_is_judged : FnScope N__law_is_judged ["road", "numbers"] (defScope s__law_is_judged) := ⟨rfl, rfl, rfl, by decide +kernel, rfl, by decide +kernel, by decide +kernel⟩
abbrev s_law : Stmt := top 34
abbrev N_law : List Str := ["script", "d", "seats", "receivers", "frames", "numbers", "road", "things", "thing", "row"]
theorem sc_law : FnScope N_law ["script"] (defScope s_law) := ⟨rfl, rfl, rfl, by decide +kernel, rfl, by decide +kernel, by decide +kernel⟩
/-- what the text's top has: built-ins that are still so, constants -/
structure Txt (mg : Str → Option Value) : Prop where
  b_int : mg "int" = none
  b_len : mg "len" = none
  b_abs : mg "abs" = none
  b_range : mg "range" = none
  b_tuple : mg "tuple" = none
  b_min : mg "min" = none
  b_list : mg "list" = none
  b_reversed : mg "reversed" = none
  b_isinstance : mg "isinstance" = none
  b_bool : mg "bool" = none
  c_MOST_COPIES : Cn mg "MOST_COPIES" (.int 2)
/-! ### the draws -/
/-- a row of draws stands at p, its cells at a -/
def DrawAt (H : Hp) (p a : Addr) : Prop := ∃ (ns : List Int) (pos pend seed : Int), H p = some (.lst [.ref a, .int pos, .int pend, .int seed]) ∧ H a = some (.lst (ns.map V.int)) ∧ a ≠ p ∧ 0 ≤ pos
theorem DrawAt.same {H H' : Hp} {p a : Addr} (d : DrawAt H p a) (s : Same H H') : DrawAt H' p a := by
  obtain ⟨ns, pos, pend, seed, h1, h2, h3, h4⟩ := d
  exact ⟨ns, pos, pend, seed, s _ _ h1, s _ _ h2, h3, h4⟩
/-- behind draws: the row stands, all else is as it was -/
structure Drew (p a : Addr) (H H' : Hp) : Prop where
  at_ : DrawAt H' p a
  kp : Kp p H H'
theorem Drew.trans {p a : Addr} {H H1 H2 : Hp} (x : Drew p a H H1) (y : Drew p a H1 H2) : Drew p a H H2 := ⟨y.at_, x.kp.trans y.kp⟩
theorem Drew.new {p a q : Addr} {H H1 : Hp} {o : HO} (x : Drew p a H H1) (h : H1 q = none) : Drew p a H (upd H1 q o) := ⟨x.at_.same (same_new h), x.kp.trans (.of (same_new h))⟩
theorem Drew.same {p a : Addr} {H H1 H2 : Hp} (x : Drew p a H H1) (s : Same H1 H2) : Drew p a H H2 := ⟨x.at_.same s, x.kp.trans (.of s)⟩
theorem DrawAt.drew {p a : Addr} {H : Hp} (d : DrawAt H p a) : Drew p a H H := ⟨d, Kp.refl⟩
theorem DrawAt.some {H : Hp} {p a : Addr} (d : DrawAt H p a) : ∃ xs, H p = some (.lst xs) := by
  obtain ⟨ns, pos, pend, seed, h1, _⟩ := d
  exact ⟨_, h1⟩
theorem DrawAt.ne_none {H : Hp} {p a q : Addr} (d : DrawAt H p a) (h : H q = none) : q ≠ p := by
  obtain ⟨xs, e⟩ := d.some
  exact (ne_of_none e h).symm
theorem DrawAt.ne_noneA {H : Hp} {p a q : Addr} (d : DrawAt H p a) (h : H q = none) : q ≠ a := by
  obtain ⟨ns, pos, pend, seed, _, h1, _⟩ := d
  exact (ne_of_none h1 h).symm
theorem Drew.free {p a q : Addr} {H H' : Hp} (w : Drew p a H H') (h : H' q = none) : H q = none := by
  cases e : H q with
  | none => rfl
  | some o =>
    by_cases hq : q = p
    · obtain ⟨xs, e'⟩ := w.at_.some
      rw [hq, e'] at h; cases h
    · rw [w.kp _ _ e hq] at h; cases h
/-- a thing of our own, made behind H, is written -/
theorem Drew.put {p a q : Addr} {H H1 : Hp} {o : HO} (x : Drew p a H H1) (d : DrawAt H p a) (h : H q = none) : Drew p a H (upd H1 q o) := by
  have n1 := d.ne_none h
  have n2 := d.ne_noneA h
  obtain ⟨ns, pos, pend, seed, h1, h2, h3, h4⟩ := x.at_
  refine ⟨⟨ns, pos, pend, seed, by rw [upd_ne n1.symm]; exact h1, by rw [upd_ne n2.symm]; exact h2, h3, h4⟩, fun b u hb hne => ?_⟩
  rw [upd_ne (ne_of_none hb h)]
  exact x.kp _ _ hb hne
theorem Drew.tps {p a : Addr} {H H' : Hp} (w : Drew p a H H') (d : DrawAt H p a) : Tps H H' := by
  obtain ⟨xs, e⟩ := d.some
  exact w.kp.tps e
def sp__law_begin (K : PySem.W.Frag) : Sp := fun vs H Q _ => ∃ (a : Addr) (ns : List Int), vs = [.ref a] ∧ SqL K H a (ns.map V.int) ∧ ns.length ≤ 63 ∧
  ∀ (p c : Addr) (H' : Hp), Same H H' → H p = none → H c = none → DrawAt H' p c → Q (.ref p) H'
theorem ok__law_begin {P : Program} {w : World} {K : PySem.W.Frag} {mg : Str → Option Value} {base : Heap} {f : Addr} {fd : FuncData} (F : Df K mg "_law_begin" s__law_begin f fd ["script"]) (T : Txt mg) : FnOk P w K mg base CX0 1 f fd ["script"] (sp__law_begin K) := by
  refine F.ok sc__law_begin (fun vs H Q E h => ?_) (fun cdv A outer s H vs Q E hr h => ?_)
  · obtain ⟨a, ns, rfl, _⟩ := h
    rfl
  · obtain ⟨a, ns, rfl, hS, hl, k⟩ := h
    refine ⟨_, (pss_one (ps_ret (pe_lst (pa_cons (pe_lc (own := [("cell", 1)]) (g := gName 1) (tt := tYes) rfl sc__law_begin.nd (pi_list (pv 0)) (blkOk_by (own := [("cell", 1)]) (N := N__law_begin) (sc := defScope s__law_begin) (by decide +kernel)) (fun _ _ _ _ _ => (pg_name (i := 1) sc__law_begin.nd rfl (Or.inl rfl))) (fun _ _ _ _ _ => pts_nil) (fun _ _ _ _ _ => (pe_callTy (T := "int") c_int (by rfl) T.b_int (by decide +kernel) (pa_cons (pv 1) pa_nil)))) (pa_cons pe_int (pa_cons pe_int (pa_cons pe_int pa_nil))))))), ?_⟩
    try dsimp only [cxOf, Cx.nox, Cx.wish]
    refine st_of (σ' := [some _, none]) rfl ?_
    wtm_at "jw"
    intro D hD
    refine l_list (xs := ns.map V.int) (fun i H1 => Same H H1 ∧ H1 D = some (.lst ((ns.take i).map V.int))) ⟨same_new hD, upd_same⟩ (fun i H1 _ h => h.1.seq hS) (fun i x H1 hi h => ?_) (fun H1 h => ?_)
    · obtain ⟨s1, h1⟩ := h
      rw [List.getElem?_map] at hi
      cases e : ns[i]? with
      | none => rw [e] at hi; cases hi
      | some z =>
        rw [e] at hi
        cases hi
        have hlt : i < ns.length := (List.getElem?_eq_some_iff.mp e).1
        wtm_at "jw"
        refine ⟨rfl, ?_⟩
        wtm_at "jw"
        refine ⟨_, h1, small1000 (by rw [List.length_map, List.length_take]; omega), ?_, ?_⟩
        · intro b o hb
          have hne : b ≠ D := ne_of_none hb hD
          rw [upd_ne hne]
          exact s1 _ _ hb
        · rw [upd_same, List.take_add_one, e, List.map_append]
          rfl
    · obtain ⟨s1, h1⟩ := h
      rw [List.length_map, List.take_length] at h1
      wtm_at "jw"
      intro p hp
      have hne : D ≠ p := ne_of_none h1 hp
      refine k p D _ (fun b o hb => ?_) (s1.free hp) hD ⟨ns, 0, 0, 11, upd_same, by rw [upd_ne hne]; exact h1, hne, by decide⟩
      rw [upd_ne (ne_of_none (s1 _ _ hb) hp)]
      exact s1 _ _ hb
def sp__law_draw (K : PySem.W.Frag) : Sp := fun vs H Q _ => ∃ (p a : Addr) (many : Int), vs = [.ref p, .int many] ∧ DrawAt H p a ∧ 0 < many ∧ many < 18446744073709551616 ∧
  ∀ (r : Int) (H' : Hp), 0 ≤ r → r < many → Drew p a H H' → Q (.int r) H'
theorem ok__law_draw {P : Program} {w : World} {K : PySem.W.Frag} {mg : Str → Option Value} {base : Heap} {f : Addr} {fd : FuncData} (F : Df K mg "_law_draw" s__law_draw f fd ["d", "many"]) (T : Txt mg) : FnOk P w K mg base CX0 1 f fd ["d", "many"] (sp__law_draw K) := by
  refine F.ok sc__law_draw (fun vs H Q E h => ?_) (fun cdv A outer s H vs Q E hr h => ?_)
  · obtain ⟨p, a, m, rfl, _⟩ := h
    rfl
  · obtain ⟨p, a, m, rfl, ⟨ns, pos, pend, seed, hp, ha, nap, h0⟩, hm0, hm1, k⟩ := h
    have fin : ∀ (z : Int) (pos' pend' seed' : Int) (H' : Hp), 0 ≤ pos' → H' p = some (.lst [.ref a, .int pos', .int pend', .int seed']) → Kp p H H' → Q (.int (z % m)) H' := fun z pos' pend' seed' H' hp' h1 h2 =>
      k _ _ (Int.emod_nonneg _ (by omega)) (Int.emod_lt_of_pos _ hm0) ⟨⟨ns, pos', pend', seed', h1, h2 _ _ ha nap, nap, hp'⟩, h2⟩
    refine ⟨_, (pss_cons (ps_if (pt_cmpR op_gt (pe_ix (r := rIxL K) ix_list (pv 0) pe_int (fun _ _ => rfl)) pe_int (nomark _)) (pss_cons (ps_set (i := 2) sc__law_draw.nd rfl (Or.inl rfl) (pe_ix (r := rIxL K) ix_list (pv 0) pe_int (fun _ _ => rfl)))
      (pss_cons (ps_asg (pe_op op_fdivW (pv 2) (pv 1)) (pg_sub (pv 0) pe_int set_list))
      (pss_one (ps_ret (pe_op op_mod (pe_callTy (T := "int") c_int (by rfl) T.b_int (by decide +kernel) (pa_cons (pv 2) pa_nil)) (pv 1)))))) pss_nil)
      (pss_cons (ps_set (i := 3) sc__law_draw.nd rfl (Or.inl rfl) pe_int)
      (pss_cons (ps_if (pt_cmpR op_lt (pe_ix (r := rIxL K) ix_list (pv 0) pe_int (fun _ _ => rfl)) (pe_callB (id := "len") (r := qLen K) c_len (by rfl) T.b_len (by decide +kernel) (pa_cons (pe_ix (r := rIxL K) ix_list (pv 0) pe_int (fun _ _ => rfl)) pa_nil)) (nomark _)) (pss_cons (ps_set (i := 4) sc__law_draw.nd rfl (Or.inl rfl) (pe_ix (r := rIx K) ix_seq (pe_ix (r := rIxL K) ix_list (pv 0) pe_int (fun _ _ => rfl)) (pe_ix (r := rIxL K) ix_list (pv 0) pe_int (fun _ _ => rfl)) (fun _ _ => rfl)))
      (pss_one (ps_set (i := 3) sc__law_draw.nd rfl (Or.inl rfl) (pe_op op_add (pe_op op_mul pe_int (pe_callB (id := "abs") c_abs (by rfl) T.b_abs (by decide +kernel) (pa_cons (pv 4) pa_nil))) (pe_callTy (T := "int") c_int (by rfl) T.b_int (by decide +kernel) (pa_cons (pe_cmpR op_lt (pv 4) pe_int (nomark _)) pa_nil)))))) pss_nil)
      (pss_cons (ps_augS (pv 0) pe_int get_list pe_int iop_add set_list)
      (pss_cons (ps_if (pt_cmpR op_ge (pv 3) (pe_op op_mul pe_int (pe_op op_pow pe_int pe_int)) (nomark _)) (pss_cons (ps_set (i := 2) sc__law_draw.nd rfl (Or.inl rfl) (pe_op op_mod (pe_callTy (T := "int") c_int (by rfl) T.b_int (by decide +kernel) (pa_cons (pe_op op_fdiv (pv 3) pe_int) pa_nil)) (pe_op op_shl pe_int pe_int)))
      (pss_cons (ps_asg (pe_op op_fdivW (pv 2) (pv 1)) (pg_sub (pv 0) pe_int set_list))
      (pss_one (ps_ret (pe_op op_mod (pe_callTy (T := "int") c_int (by rfl) T.b_int (by decide +kernel) (pa_cons (pv 2) pa_nil)) (pv 1)))))) pss_nil)
      (pss_cons (ps_asg (pe_op op_mod (pe_callTy (T := "int") c_int (by rfl) T.b_int (by decide +kernel) (pa_cons (pe_op op_add (pe_op op_add (pe_op op_add (pe_op op_mul (pe_ix (r := rIxL K) ix_list (pv 0) pe_int (fun _ _ => rfl)) pe_int) (pe_op op_mul (pe_op op_mod (pe_callTy (T := "int") c_int (by rfl) T.b_int (by decide +kernel) (pa_cons (pv 3) pa_nil)) pe_int) pe_int)) (pe_op op_mul (pe_ix (r := rIxL K) ix_list (pv 0) pe_int (fun _ _ => rfl)) pe_int)) pe_int) pa_nil)) pe_int) (pg_sub (pv 0) pe_int set_list))
      (pss_one (ps_ret (pe_op op_mod (pe_callTy (T := "int") c_int (by rfl) T.b_int (by decide +kernel) (pa_cons (pe_op op_fdiv (pe_ix (r := rIxL K) ix_list (pv 0) pe_int (fun _ _ => rfl)) pe_int) pa_nil)) (pv 1)))))))))), ?_⟩
    try dsimp only [cxOf, Cx.nox, Cx.wish]
    refine st_of (σ' := [some _, some _, none, none, none]) rfl ?_
    wtm_at "jw"
    refine c_dec (fun h => ?_) (fun h => ?_)
    · wtm_at "jw"
      exact fin _ _ _ _ _ h0 upd_same Kp.upd
    · wtm_at "jw"
      refine c_dec (fun h1 => ?_) (fun h1 => ?_)
      · obtain ⟨c, hc⟩ : ∃ c : Int, atI (ns.map V.int) pos = some (.int c) := by
          obtain ⟨v, e, hv, _⟩ := at_lt (xs := ns.map V.int) h0 h1
          obtain ⟨z, _, rfl⟩ := List.mem_map.mp hv
          exact ⟨z, e⟩
        wtm_at "jw"
        refine c_dec (fun h2 => ?_) (fun h2 => ?_)
        · wtm_at "jw"
          exact fin _ (pos + 1) _ _ _ (by omega) upd_same (Kp.upd.trans Kp.upd)
        · wtm_at "jw"
          exact fin _ (pos + 1) _ _ _ (by omega) upd_same (Kp.upd.trans Kp.upd)
      · wtm_at "jw"
        refine c_dec (fun h2 => ?_) (fun h2 => ?_)
        · wtm_at "jw"
          exact fin _ (pos + 1) _ _ _ (by omega) upd_same (Kp.upd.trans Kp.upd)
        · wtm_at "jw"
          exact fin _ (pos + 1) _ _ _ (by omega) upd_same (Kp.upd.trans Kp.upd)

def sp__law_pick (K : PySem.W.Frag) : Sp := fun vs H Q _ => ∃ (p a b : Addr) (xs : List V), vs = [.ref p, .ref b] ∧ DrawAt H p a ∧ ((b ≠ p ∧ SqL K H b xs) ∨ SqT K H b xs) ∧ 0 < xs.length ∧ xs.length < 1073741824 ∧
  ∀ (x : V) (H' : Hp), x ∈ xs → Drew p a H H' → Q x H'
theorem ok__law_pick {P : Program} {w : World} {K : PySem.W.Frag} {mg : Str → Option Value} {base : Heap} {f : Addr} {fd : FuncData} (F : Df K mg "_law_pick" s__law_pick f fd ["d", "row"]) (T : Txt mg)
    (c__law_draw : Cl P w K mg base 1 "_law_draw" (sp__law_draw K)) : FnOk P w K mg base CX0 2 f fd ["d", "row"] (sp__law_pick K) := by
  refine F.ok sc__law_pick (fun vs H Q E h => ?_) (fun cdv A outer s H vs Q E hr h => ?_)
  · obtain ⟨p, a, b, xs, rfl, _⟩ := h
    rfl
  · obtain ⟨p, a, b, xs, rfl, hd, hb, hl0, hl1, k⟩ := h
    refine ⟨_, (pss_one (ps_ret (pe_ix (r := rIx K) ix_seq (pv 1) (pe_cl c__law_draw hr (by decide) rfl (pa_cons (pv 0) (pa_cons (pe_callB (id := "len") (r := qLen K) c_len (by rfl) T.b_len (by decide +kernel) (pa_cons (pv 1) pa_nil)) pa_nil))) (fun _ _ => rfl)))), ?_⟩
    try dsimp only [cxOf, Cx.nox, Cx.wish]
    refine st_of (σ' := [some _, some _]) rfl ?_
    rcases hb with ⟨nb, hb⟩ | hb
    all_goals
      wtm_at "jw"
      refine ⟨p, a, _, rfl, hd, by omega, by omega, fun r H' hr0 hr1 w => ?_⟩
      obtain ⟨v, e, hv, _⟩ := at_lt hr0 hr1
    · have hb' := w.kp.seq hb nb
      wtm_at "jw"
      exact k _ _ hv w
    · have hb' := (w.tps hd).sq hb
      wtm_at "jw"
      exact k _ _ hv w

def sp__law_shuffled (K : PySem.W.Frag) : Sp := fun vs H Q _ => ∃ (p a b : Addr) (xs : List V), vs = [.ref p, .ref b] ∧ DrawAt H p a ∧ (SqL K H b xs ∨ SqT K H b xs) ∧ xs.length ≤ 1000 ∧
  ∀ (q : Addr) (ys : List V) (H' : Hp), Drew p a H H' → H q = none → H' q = some (.lst ys) → ys.Perm xs → Q (.ref q) H'
theorem ok__law_shuffled {P : Program} {w : World} {K : PySem.W.Frag} {mg : Str → Option Value} {base : Heap} {f : Addr} {fd : FuncData} (F : Df K mg "_law_shuffled" s__law_shuffled f fd ["d", "row"]) (T : Txt mg)
    (c__law_draw : Cl P w K mg base 1 "_law_draw" (sp__law_draw K)) : FnOk P w K mg base CX0 2 f fd ["d", "row"] (sp__law_shuffled K) := by
  refine F.ok sc__law_shuffled (fun vs H Q E h => ?_) (fun cdv A outer s H vs Q E hr h => ?_)
  · obtain ⟨p, a, b, xs, rfl, _⟩ := h
    rfl
  · obtain ⟨p, a, b, xs, rfl, hd, hb, hl, k⟩ := h
    refine ⟨_, (pss_cons (ps_set (i := 2) sc__law_shuffled.nd rfl (Or.inl rfl) (pe_callTy (T := "list") (r := rLstOf K) c_lst (by rfl) T.b_list (by decide +kernel) (pa_cons (pv 1) pa_nil)))
      (pss_cons (ps_set (i := 3) sc__law_shuffled.nd rfl (Or.inl rfl) (pe_lst pa_nil))
      (pss_cons (ps_for PassesOwn.never rfl (pi_range1 rfl T.b_range (pa_cons (pe_callB (id := "len") (r := qLen K) c_len (by rfl) T.b_len (by decide +kernel) (pa_cons (pv 2) pa_nil)) pa_nil)) (pg_name (i := 4) sc__law_shuffled.nd rfl (Or.inl rfl)) (pss_one (ps_expr (pe_bmK (K := K) rfl PySem.F.plainAttrs_list PySem.F.slot_list_append PySem.F.type_list_append mt_append (pv 3) (pa_cons (pe_bmK (K := K) rfl PySem.F.plainAttrs_list PySem.F.slot_list_pop PySem.F.type_list_pop mt_popAt (pv 2) (pa_cons (pe_cl c__law_draw hr (by decide) rfl (pa_cons (pv 0) (pa_cons (pe_callB (id := "len") (r := qLen K) c_len (by rfl) T.b_len (by decide +kernel) (pa_cons (pv 2) pa_nil)) pa_nil))) pa_nil)) pa_nil)))))
      (pss_one (ps_ret (pv 3)))))), ?_⟩
    try dsimp only [cxOf, Cx.nox, Cx.wish]
    refine st_of (σ' := [some _, some _, none, none, none]) rfl ?_
    wtm_at "js"
    refine ⟨b, xs, rfl, hb, fun L hL => ?_⟩
    wtm_at "js"
    intro D hD
    have nLD : L ≠ D := by
      intro e
      rw [e, upd_same] at hD
      cases hD
    have hD0 : H D = none := by rw [upd_ne nLD.symm] at hD; exact hD
    wtm_at "js"
    have d0 : Drew p a H (upd (upd H L (.lst xs)) D (.lst [])) := (hd.drew.new hL).put hd hD0
    refine f_range (fun i σ H' => ∃ (v : Option V) (us ws : List V), σ = [some (.ref p), some (.ref b), some (.ref L), some (.ref D), v] ∧ Drew p a H H' ∧ H' L = some (.lst us) ∧ H' D = some (.lst ws) ∧ (ws ++ us).Perm xs ∧ ws.length = i) ⟨none, xs, [], rfl, d0, by rw [upd_ne nLD]; exact upd_same, upd_same, List.Perm.refl _, rfl⟩ (fun i σ H' hi h => ?_) (fun σ H' h => ?_)
    · obtain ⟨v, us, ws, rfl, d1, hL1, hD1, hp, hw⟩ := h
      have hlen : ws.length + us.length = xs.length := by
        have := hp.length_eq
        rw [List.length_append] at this
        exact this
      have hi' : i < xs.length := by omega
      wtm_at "js"
      refine ⟨p, a, _, rfl, d1.at_, by omega, by omega, fun r H2 r0 r1 d2 => ?_⟩
      have nLp : L ≠ p := hd.ne_none hL
      have nDp : D ≠ p := hd.ne_none hD0
      have hL2 := d2.kp _ _ hL1 nLp
      have hD2 := d2.kp _ _ hD1 nDp
      have hrl : r.toNat < us.length := by omega
      wtm_at "js"
      refine i_popAt hL2 r0 r1 (by omega) (List.getElem?_eq_getElem hrl) ?_
      have d3 := (d1.trans d2).put (o := .lst (us.eraseIdx r.toNat)) hd hL
      have hD3 : (upd H2 L (.lst (us.eraseIdx r.toNat))) D = some (.lst ws) := by rw [upd_ne nLD.symm]; exact hD2
      have hws : ws.length < sizeLine := small1000 (by omega)
      wtm_at "js"
      refine ⟨_, us.eraseIdx r.toNat, ws ++ [us[r.toNat]], rfl, d3.put hd hD0, by rw [upd_ne nLD, upd_same], upd_same, ?_, by simp [hw]⟩
      have e : (us[r.toNat] :: us.eraseIdx r.toNat).Perm us := perm_erase us _ hrl
      rw [List.append_assoc]
      exact ((List.Perm.refl ws).append e).trans hp
    · obtain ⟨v, us, ws, rfl, d1, hL1, hD1, hp, hw⟩ := h
      have hlen := hp.length_eq
      rw [List.length_append] at hlen
      have hus : us = [] := List.eq_nil_of_length_eq_zero (by omega)
      rw [hus, List.append_nil] at hp
      wtm_at "js"
      exact k D ws _ d1 hD0 hD1 hp

/-! ### pairs of ints, tuples of them -/
/-- the pairs of rows stand at rs -/
def Prw (H : Hp) (rs : List Addr) (rows : List (Int × Int)) : Prop := rs.length = rows.length ∧ ∀ (i : Nat) (r : Addr) (p : Int × Int), rs[i]? = some r → rows[i]? = some p → H r = some (.tup [.int p.1, .int p.2])
/-- a tuple of pairs -/
def Prs (H : Hp) (a : Addr) (rows : List (Int × Int)) : Prop := ∃ rs : List Addr, H a = some (.tup (rs.map V.ref)) ∧ Prw H rs rows
/-- a list of pairs -/
def LPr (H : Hp) (a : Addr) (rows : List (Int × Int)) : Prop := ∃ rs : List Addr, H a = some (.lst (rs.map V.ref)) ∧ Prw H rs rows
theorem Prw.nil {H : Hp} : Prw H [] [] := ⟨rfl, fun i r p h => by simp at h⟩
theorem Prw.tps {H H' : Hp} {rs : List Addr} {rows : List (Int × Int)} (w : Prw H rs rows) (t : Tps H H') : Prw H' rs rows := ⟨w.1, fun i r p h1 h2 => (t r).1 _ (w.2 i r p h1 h2)⟩
theorem Prw.same {H H' : Hp} {rs : List Addr} {rows : List (Int × Int)} (w : Prw H rs rows) (s : Same H H') : Prw H' rs rows := w.tps (Tps.of s)
theorem Prw.snoc {H : Hp} {rs : List Addr} {rows : List (Int × Int)} {q : Addr} {x y : Int} (w : Prw H rs rows) (h : H q = some (.tup [.int x, .int y])) : Prw H (rs ++ [q]) (rows ++ [(x, y)]) := by
  refine ⟨by simp [w.1], fun i r p h1 h2 => ?_⟩
  have hl := w.1
  by_cases hi : i < rs.length
  · rw [List.getElem?_append_left hi] at h1
    rw [List.getElem?_append_left (by omega)] at h2
    exact w.2 i r p h1 h2
  · rw [List.getElem?_append_right (by omega)] at h1
    rw [List.getElem?_append_right (by omega)] at h2
    rw [hl] at h1
    cases e : i - rows.length with
    | zero =>
      rw [e] at h1 h2
      cases h1
      cases h2
      exact h
    | succ n =>
      rw [e] at h1
      cases h1
theorem Prs.tps {H H' : Hp} {a : Addr} {rows : List (Int × Int)} (h : Prs H a rows) (t : Tps H H') : Prs H' a rows := by
  obtain ⟨rs, ha, w⟩ := h
  exact ⟨rs, (t a).1 _ ha, w.tps t⟩
theorem Prs.same {H H' : Hp} {a : Addr} {rows : List (Int × Int)} (h : Prs H a rows) (s : Same H H') : Prs H' a rows := h.tps (Tps.of s)
theorem LPr.same {H H' : Hp} {a : Addr} {rows : List (Int × Int)} (h : LPr H a rows) (s : Same H H') : LPr H' a rows := by
  obtain ⟨rs, ha, w⟩ := h
  exact ⟨rs, s _ _ ha, w.same s⟩
theorem LPr.kp {H H' : Hp} {p a : Addr} {xs : List V} {rows : List (Int × Int)} (h : LPr H a rows) (k : Kp p H H') (hp : H p = some (.lst xs)) (n : a ≠ p) : LPr H' a rows := by
  obtain ⟨rs, ha, w⟩ := h
  exact ⟨rs, k _ _ ha n, w.tps (k.tps hp)⟩
theorem Prw.put {H : Hp} {D : Addr} {rs : List Addr} {xs ys : List V} {rows : List (Int × Int)} (w : Prw H rs rows) (h : H D = some (.lst xs)) : Prw (upd H D (.lst ys)) rs rows := by
  refine ⟨w.1, fun i r p h1 h2 => ?_⟩
  have hr := w.2 i r p h1 h2
  rw [upd_ne (ne_of hr h (by intro z; cases z))]
  exact hr
/-- a new pair behind the others -/
theorem LPr.add {H : Hp} {D q : Addr} {rs : List Addr} {rows : List (Int × Int)} {x y : Int} (h : H D = some (.lst (rs.map V.ref))) (w : Prw H rs rows) (hq : H q = none) :
    LPr (upd (upd H q (.tup [.int x, .int y])) D (.lst (rs.map V.ref ++ [.ref q]))) D (rows ++ [(x, y)]) := by
  have hD : upd H q (.tup [.int x, .int y]) D = some (.lst (rs.map V.ref)) := by rw [upd_ne (ne_of_none h hq)]; exact h
  refine ⟨rs ++ [q], by rw [upd_same, List.map_append]; rfl, Prw.put (xs := rs.map V.ref) ((w.same (same_new hq)).snoc upd_same) hD⟩
/-- a pair that stands already -/
theorem LPr.add' {H : Hp} {D q : Addr} {rs : List Addr} {rows : List (Int × Int)} {x y : Int} (h : H D = some (.lst (rs.map V.ref))) (w : Prw H rs rows) (hq : H q = some (.tup [.int x, .int y])) :
    LPr (upd H D (.lst (rs.map V.ref ++ [.ref q]))) D (rows ++ [(x, y)]) :=
  ⟨rs ++ [q], by rw [upd_same, List.map_append]; rfl, (w.snoc hq).put h⟩
theorem Prw.at {H : Hp} {rs : List Addr} {rows : List (Int × Int)} {i : Nat} {v : V} (w : Prw H rs rows) (h : (rs.map V.ref)[i]? = some v) : ∃ r p, v = .ref r ∧ rs[i]? = some r ∧ rows[i]? = some p ∧ H r = some (.tup [.int p.1, .int p.2]) ∧ rows.take (i + 1) = rows.take i ++ [p] ∧ i < rows.length := by
  rw [List.getElem?_map] at h
  cases e : rs[i]? with
  | none => rw [e] at h; cases h
  | some r =>
    rw [e] at h
    have hi := (List.getElem?_eq_some_iff.mp e).1
    have hl := w.1
    have e2 : rows[i]? = some (rows[i]'(by omega)) := List.getElem?_eq_getElem (by omega)
    exact ⟨r, _, (Option.some.inj h).symm, rfl, e2, w.2 i r _ e e2, by rw [List.take_add_one, e2]; rfl, by omega⟩
def prD (p : Int × Int) : PyData := .tuple [.int p.1, .int p.2]
theorem dp_prs {K : PySem.W.Frag} {H : Hp} {a : Addr} {rows : List (Int × Int)} (h : Prs H a rows) : Dp K H (.ref a) (.tuple (rows.map prD)) := by
  obtain ⟨rs, ha, w⟩ := h
  refine .tup (SqT.of ha) (dpAll_of (by simp [w.1]) fun i x d h1 h2 => ?_)
  obtain ⟨r, p, rfl, e1, e2, hr, _⟩ := w.at h1
  rw [List.getElem?_map, e2] at h2
  cases h2
  exact dp_ints (ns := [p.1, p.2]) (SqT.of hr)
theorem shp_prs (rows : List (Int × Int)) : Shp 2 (.tuple (rows.map prD)) :=
  Shp.tup fun d hd => by
    obtain ⟨p, _, rfl⟩ := List.mem_map.mp hd
    exact Shp.tup fun e he => by
      rcases List.mem_cons.mp he with rfl | he
      · exact (Shp.int _)
      · rcases List.mem_cons.mp he with rfl | he
        · exact (Shp.int _)
        · cases he
theorem shp_ints (ns : List Int) : Shp 1 (.tuple (ns.map PyData.int)) :=
  Shp.tup fun d hd => by
    obtain ⟨p, _, rfl⟩ := List.mem_map.mp hd
    exact Shp.int _
theorem put_same {H H' : Hp} {D : Addr} {o : HO} (s : Same H H') (h : H D = none) : Same H (upd H' D o) := fun b u hb => by
  rw [upd_ne (ne_of_none hb h)]
  exact s _ _ hb
theorem tps_put {H : Hp} {D : Addr} {xs ys : List V} (h : H D = some (.lst xs)) : Tps H (upd H D (.lst ys)) := (Kp.upd (p := D)).tps h

/-! ### dicts with int keys -/
section
variable {K : PySem.W.Frag} {σ : L2.St} {H : Hp} {Q : VK}
theorem i_dget {td ty : TE} (h : td σ H fun x H1 => ty σ H1 fun y H2 => ∃ a v, x = .ref a ∧ DGet H2 a y (some v) ∧ Q v H2) : tDGet td ty σ H Q := h
theorem i_dgetI {p : Addr} {i : Int} {v : V} {kvs : List (L2.Key × V)} {R : V → Prop} (h : Rd H p (.dK kvs)) (e : valV kvs (.inl i) = some v) (q : R v) : ∃ a v', V.ref p = .ref a ∧ DGet H a (.int i) (some v') ∧ R v' :=
  ⟨p, v, rfl, .inl ⟨kvs, .inl i, h, rfl, e.symm⟩, q⟩
theorem i_din {td ty : TE} (h : ty σ H fun y H1 => td σ H1 fun x H2 => ∃ a o, x = .ref a ∧ DGet H2 a y o ∧ Q (.bl o.isSome) H2) : tDIn ty td σ H Q := h
theorem i_dinI {p : Addr} {i : Int} {kvs : List (L2.Key × V)} {R : Option V → Prop} (h : Rd H p (.dK kvs)) (q : R (valV kvs (.inl i))) : ∃ a o, V.ref p = .ref a ∧ DGet H a (.int i) o ∧ R o :=
  ⟨p, _, rfl, .inl ⟨kvs, .inl i, h, rfl, rfl⟩, q⟩
theorem i_dput {td ty tv : TE} {nx : L2.St → Hp → Prop} {rt : VK} {bk ct : L2.St → Hp → Prop} (h : tv σ H fun v H1 => td σ H1 fun x H2 => ty σ H2 fun y H3 => ∃ a H4, x = .ref a ∧ DPut H3 a y v H4 ∧ nx σ H4) : sDPut td ty tv ⟨nx, rt, bk, ct⟩ σ H := h
theorem i_dputI {p : Addr} {i : Int} {v : V} {kvs : List (L2.Key × V)} {R : Hp → Prop} (h : H p = some (.dK kvs)) (hl : kvs.length ≤ 10000) (q : R (upd H p (.dK (putK kvs (.inl i) v)))) : ∃ a H4, V.ref p = .ref a ∧ DPut H a (.int i) v H4 ∧ R H4 :=
  ⟨p, _, rfl, .inl ⟨kvs, .inl i, h, rfl, by rw [sizeLine_eq]; omega, rfl⟩, q⟩
theorem i_dnew (q : ∀ p, H p = none → Q (.ref p) (upd H p (.dK []))) : tDNewK σ H Q := q
def rSortDI : List V → Hp → VK → Prop := fun xs H Q => ∃ (a : Addr) (kvs : List (L2.Key × V)) (ks : List Int), xs = [.ref a] ∧ Rd H a (.dK kvs) ∧ kvs.map (·.1) = ks.map Sum.inl ∧ ks.length < 64 ∧ ∀ (ys : List Int) (p : Addr), ys.Perm ks → ys.Pairwise (· ≤ ·) → H p = none → Q (.ref p) (upd H p (.lst (ys.map V.int)))
theorem c_sortDI {X : Cx} (hc : X.calm = true) : CallR X (.builtin "sorted") rSortDI := call_sortedDI hc
end
/-- the dict's entries are the map m of ints -/
def DI (kvs : List (L2.Key × V)) (m : Int → Option Int) : Prop := (∀ i : Int, valV kvs (.inl i) = (m i).map V.int) ∧ ∃ ks : List Int, kvs.map (·.1) = ks.map Sum.inl ∧ ks.Nodup
theorem DI.nil : DI [] fun _ => none := ⟨fun _ => rfl, [], rfl, List.nodup_nil⟩
theorem putK_keys {kvs : List (L2.Key × V)} {k : L2.Key} {v : V} : (putK kvs k v).map (·.1) = if (valV kvs k).isSome = true then kvs.map (·.1) else kvs.map (·.1) ++ [k] := by
  unfold putK
  rw [valV_any]
  by_cases h : (valV kvs k).isSome = true
  · rw [if_pos h, if_pos h, List.map_map]
    refine List.map_congr_left fun p _ => ?_
    show (if p.1 = k then (p.1, v) else p).1 = p.1
    split <;> rfl
  · rw [if_neg h, if_neg h, List.map_append]
    rfl
theorem DI.put {kvs : List (L2.Key × V)} {m : Int → Option Int} {i v : Int} (d : DI kvs m) : DI (putK kvs (.inl i) (.int v)) (fun j => if j = i then some v else m j) := by
  obtain ⟨h, ks, hk, hn⟩ := d
  refine ⟨fun j => ?_, ?_⟩
  · rw [valV_put]
    show _ = Option.map V.int (if j = i then some v else m j)
    by_cases e : j = i
    · subst e
      rw [if_pos rfl, if_pos rfl]
      rfl
    · rw [if_neg (by intro z; exact e (Sum.inl.inj z)), if_neg e]
      exact h j
  · rw [putK_keys]
    by_cases e : (valV kvs (.inl i)).isSome = true
    · rw [if_pos e]
      exact ⟨ks, hk, hn⟩
    · rw [if_neg e, hk]
      refine ⟨ks ++ [i], by rw [List.map_append]; rfl, ?_⟩
      have hni : ¬ i ∈ ks := fun hi => by
        have e1 : valV kvs (.inl i) = none := by
          cases q : valV kvs (.inl i) with
          | none => rfl
          | some z => rw [q] at e; exact absurd rfl e
        refine valV_not e1 ?_
        rw [hk]
        exact List.mem_map.mpr ⟨i, hi, rfl⟩
      exact nd_snoc hn hni
theorem DI.mem {kvs : List (L2.Key × V)} {m : Int → Option Int} {ks : List Int} (d : DI kvs m) (hk : kvs.map (·.1) = ks.map Sum.inl) (i : Int) : i ∈ ks ↔ (m i).isSome = true := by
  have h := d.1 i
  constructor
  · intro hi
    cases e : m i with
    | some z => rfl
    | none =>
      rw [e] at h
      refine absurd ?_ (valV_not h)
      rw [hk]
      exact List.mem_map.mpr ⟨i, hi, rfl⟩
  · intro hi
    obtain ⟨z, hz⟩ := Option.isSome_iff_exists.mp hi
    rw [hz] at h
    have := valV_in h
    rw [hk] at this
    obtain ⟨j, hj, e⟩ := List.mem_map.mp this
    exact Sum.inl.inj e ▸ hj
/-- distinct ints of 0 .. n - 1 are at most n -/
theorem nodup_len : ∀ (n : Nat) (l : List Int), l.Nodup → (∀ x ∈ l, 0 ≤ x ∧ x < n) → l.length ≤ n
  | 0, l, _, h => by
    cases l with
    | nil => exact Nat.le_refl _
    | cons x r => have := h x List.mem_cons_self; omega
  | n + 1, l, hn, h => by
    by_cases hm : (n : Int) ∈ l
    · have e := List.length_erase_of_mem hm
      have := nodup_len n (l.erase (n : Int)) (hn.erase _) fun x hx => by
        have h1 := (List.Nodup.mem_erase_iff hn).mp hx
        have h2 := h x h1.2
        have : x ≠ (n : Int) := h1.1
        omega
      omega
    · have := nodup_len n l hn fun x hx => by
        have h2 := h x hx
        have : x ≠ (n : Int) := fun e => hm (e ▸ hx)
        omega
      omega
theorem DI.len {kvs : List (L2.Key × V)} {m : Int → Option Int} {n : Nat} (d : DI kvs m) (h : ∀ i, (m i).isSome = true → 0 ≤ i ∧ i < n) : kvs.length ≤ n := by
  obtain ⟨ks, hk, hn⟩ := d.2
  have e : kvs.length = ks.length := by
    have := congrArg List.length hk
    rw [List.length_map, List.length_map] at this
    exact this
  rw [e]
  exact nodup_len n ks hn fun x hx => h x ((d.mem hk x).mp hx)
/-- ints in order, all of them distinct -/
theorem lt_of_le_nodup : ∀ {l : List Int}, l.Pairwise (· ≤ ·) → l.Nodup → l.Pairwise (· < ·)
  | [], _, _ => .nil
  | a :: r, h, n => by
    rw [List.pairwise_cons] at h
    rw [List.nodup_cons] at n
    refine List.pairwise_cons.mpr ⟨fun x hx => ?_, lt_of_le_nodup h.2 n.2⟩
    have h1 := h.1 x hx
    have h2 : x ≠ a := fun e => n.1 (e ▸ hx)
    omega
theorem sorted_ext : ∀ {l1 l2 : List Int}, l1.Pairwise (· < ·) → l2.Pairwise (· < ·) → (∀ x, x ∈ l1 ↔ x ∈ l2) → l1 = l2
  | [], [], _, _, _ => rfl
  | [], b :: r, _, _, h => by have := (h b).mpr List.mem_cons_self; cases this
  | a :: r, [], _, _, h => by have := (h a).mp List.mem_cons_self; cases this
  | a :: r, b :: t, h1, h2, h => by
    rw [List.pairwise_cons] at h1 h2
    have ha := (h a).mp List.mem_cons_self
    have hb := (h b).mpr List.mem_cons_self
    have e : a = b := by
      rcases List.mem_cons.mp ha with e | ha
      · exact e
      · rcases List.mem_cons.mp hb with e | hb
        · exact e.symm
        · have := h2.1 a ha
          have := h1.1 b hb
          omega
    subst e
    rw [sorted_ext h1.2 h2.2 fun x => ⟨fun hx => ?_, fun hx => ?_⟩]
    · rcases List.mem_cons.mp ((h x).mp (List.mem_cons_of_mem _ hx)) with e | q
      · have := h1.1 x hx
        omega
      · exact q
    · rcases List.mem_cons.mp ((h x).mpr (List.mem_cons_of_mem _ hx)) with e | q
      · have := h2.1 x hx
        omega
      · exact q
theorem putK_le {kvs : List (L2.Key × V)} {k : L2.Key} {v : V} : (putK kvs k v).length ≤ kvs.length + 1 := by
  have h := congrArg List.length (putK_keys (kvs := kvs) (k := k) (v := v))
  rw [List.length_map] at h
  rw [h]
  split
  · rw [List.length_map]; omega
  · rw [List.length_append, List.length_map]; simp

/-! ### immutable data: None, bools, ints, texts, tuples of them -/
mutual
inductive TD (K : PySem.W.Frag) (H : Hp) : V → PyData → Prop
  | non : TD K H .non .none
  | bl (b : Bool) : TD K H (.bl b) (.bool b)
  | int (i : Int) : TD K H (.int i) (.int i)
  | str (x : Str) : TD K H (.str x) (.str x)
  | tup {a : Addr} {xs : List V} {ds : List PyData} : SqT K H a xs → TDs K H xs ds → TD K H (.ref a) (.tuple ds)
inductive TDs (K : PySem.W.Frag) (H : Hp) : List V → List PyData → Prop
  | nil : TDs K H [] []
  | cons {v : V} {vs : List V} {d : PyData} {ds : List PyData} : TD K H v d → TDs K H vs ds → TDs K H (v :: vs) (d :: ds)
end
def oD : Option Int → PyData
  | none => .none
  | some z => .int z
def ovO : Option Int → V
  | none => .non
  | some z => .int z
def pD (p : Int × Int) : PyData := .tuple [.int p.1, .int p.2]
section
variable {K : PySem.W.Frag} {H H' : Hp}
theorem TD.tps (t : Tps H H') {v : V} {d : PyData} (h : TD K H v d) : TD K H' v d :=
  TD.rec (motive_1 := fun v d _ => TD K H' v d) (motive_2 := fun vs ds _ => TDs K H' vs ds) .non (fun b => .bl b) (fun i => .int i) (fun x => .str x) (fun h _ q => .tup (t.sq h) q) .nil (fun _ _ h1 h2 => .cons h1 h2) h
theorem TDs.tps (t : Tps H H') {vs : List V} {ds : List PyData} (h : TDs K H vs ds) : TDs K H' vs ds :=
  TDs.rec (motive_1 := fun v d _ => TD K H' v d) (motive_2 := fun vs ds _ => TDs K H' vs ds) .non (fun b => .bl b) (fun i => .int i) (fun x => .str x) (fun h _ q => .tup (t.sq h) q) .nil (fun _ _ h1 h2 => .cons h1 h2) h
theorem TD.dp {v : V} {d : PyData} (h : TD K H v d) : Dp K H v d :=
  TD.rec (motive_1 := fun v d _ => Dp K H v d) (motive_2 := fun vs ds _ => DpAll K H vs ds) .non (fun b => .bl b) (fun i => .int i) (fun x => .str x) (fun h _ q => .tup h q) .nil (fun _ _ h1 h2 => .cons h1 h2) h
theorem TDs.dp {vs : List V} {ds : List PyData} (h : TDs K H vs ds) : DpAll K H vs ds :=
  TDs.rec (motive_1 := fun v d _ => Dp K H v d) (motive_2 := fun vs ds _ => DpAll K H vs ds) .non (fun b => .bl b) (fun i => .int i) (fun x => .str x) (fun h _ q => .tup h q) .nil (fun _ _ h1 h2 => .cons h1 h2) h
theorem TD.same (s : Same H H') {v : V} {d : PyData} (h : TD K H v d) : TD K H' v d := h.tps (Tps.of s)
theorem TDs.same (s : Same H H') {vs : List V} {ds : List PyData} (h : TDs K H vs ds) : TDs K H' vs ds := h.tps (Tps.of s)
theorem TDs.len : ∀ {vs : List V} {ds : List PyData}, TDs K H vs ds → vs.length = ds.length
  | [], _, .nil => rfl
  | v :: vs, _, .cons h t => by rw [List.length_cons, List.length_cons, TDs.len t]
theorem TDs.get : ∀ {vs : List V} {ds : List PyData} {i : Nat} {d : PyData}, TDs K H vs ds → ds[i]? = some d → ∃ v, vs[i]? = some v ∧ TD K H v d
  | _, _, _, _, .nil, e => by simp at e
  | _, _, 0, _, .cons (v := v) h t, e => by
    cases e
    exact ⟨v, rfl, h⟩
  | _, _, i + 1, _, .cons h t, e => by
    obtain ⟨v, e2, q⟩ := TDs.get (i := i) t (by simpa using e)
    exact ⟨v, by simpa using e2, q⟩
theorem TDs.at {vs : List V} {ds : List PyData} {i : Nat} {v : V} (h : TDs K H vs ds) (e : vs[i]? = some v) : ∃ d, ds[i]? = some d ∧ TD K H v d ∧ ds.take (i + 1) = ds.take i ++ [d] ∧ i < ds.length := by
  have hi := (List.getElem?_eq_some_iff.mp e).1
  have hl := h.len
  have e2 : ds[i]? = some (ds[i]'(by omega)) := List.getElem?_eq_getElem (by omega)
  obtain ⟨v', e3, q⟩ := h.get e2
  rw [e] at e3
  cases e3
  exact ⟨_, e2, q, by rw [List.take_add_one, e2]; rfl, by omega⟩
theorem TDs.mem {vs : List V} {ds : List PyData} {v : V} (h : TDs K H vs ds) (hv : v ∈ vs) : ∃ d, d ∈ ds ∧ TD K H v d := by
  obtain ⟨i, hi⟩ := List.getElem?_of_mem hv
  obtain ⟨d, e, q, _⟩ := h.at hi
  exact ⟨d, List.mem_of_getElem? e, q⟩
theorem TDs.of : ∀ {vs : List V} {ds : List PyData}, vs.length = ds.length → (∀ (i : Nat) v d, vs[i]? = some v → ds[i]? = some d → TD K H v d) → TDs K H vs ds
  | [], [], _, _ => .nil
  | v :: vs, d :: ds, hl, h => .cons (h 0 v d rfl rfl) (TDs.of (by simpa using hl) fun i y e h1 h2 => h (i + 1) y e (by simpa using h1) (by simpa using h2))
theorem TDs.app : ∀ {vs us : List V} {ds es : List PyData}, TDs K H vs ds → TDs K H us es → TDs K H (vs ++ us) (ds ++ es)
  | _, _, _, _, .nil, h => h
  | _, _, _, _, .cons h t, q => .cons h (TDs.app t q)
theorem TDs.snoc {vs : List V} {ds : List PyData} {v : V} {d : PyData} (h : TDs K H vs ds) (q : TD K H v d) : TDs K H (vs ++ [v]) (ds ++ [d]) := h.app (.cons q .nil)
theorem TDs.map {α : Type} {f : α → V} {g : α → PyData} : ∀ {l : List α}, (∀ x ∈ l, TD K H (f x) (g x)) → TDs K H (l.map f) (l.map g)
  | [], _ => .nil
  | x :: r, h => .cons (h x List.mem_cons_self) (TDs.map fun y hy => h y (List.mem_cons_of_mem _ hy))
theorem TDs.ints (ns : List Int) : TDs K H (ns.map V.int) (ns.map PyData.int) := TDs.map fun x _ => .int x
theorem TD.ovO (o : Option Int) : TD K H (ovO o) (oD o) := by cases o <;> constructor
theorem TDs.ovs (os : List (Option Int)) : TDs K H (os.map Law.ovO) (os.map oD) := TDs.map fun x _ => TD.ovO x
theorem TD.tup_inv {v : V} {ds : List PyData} (h : TD K H v (.tuple ds)) : ∃ a xs, v = .ref a ∧ SqT K H a xs ∧ TDs K H xs ds := by
  cases h with
  | tup a b => exact ⟨_, _, rfl, a, b⟩
theorem TD.int_inv {v : V} {i : Int} (h : TD K H v (.int i)) : v = .int i := by cases h; rfl
theorem TD.non_inv {v : V} (h : TD K H v .none) : v = .non := by cases h; rfl
theorem TD.str_inv {v : V} {i : Str} (h : TD K H v (.str i)) : v = .str i := by cases h; rfl
theorem TD.bl_inv {v : V} {i : Bool} (h : TD K H v (.bool i)) : v = .bl i := by cases h; rfl
theorem TD.ov_inv {v : V} {o : Option Int} (h : TD K H v (oD o)) : v = Law.ovO o := by
  cases o with
  | none => exact h.non_inv
  | some z => exact h.int_inv
theorem TDs.ints_inv : ∀ {ns : List Int} {vs : List V}, TDs K H vs (ns.map PyData.int) → vs = ns.map V.int
  | [], _, h => by cases h; rfl
  | n :: ns, _, h => by
    cases h with
    | cons a b => rw [a.int_inv, TDs.ints_inv b]; rfl
theorem TDs.ovs_inv : ∀ {os : List (Option Int)} {vs : List V}, TDs K H vs (os.map oD) → vs = os.map Law.ovO
  | [], _, h => by cases h; rfl
  | n :: ns, _, h => by
    cases h with
    | cons a b => rw [a.ov_inv, TDs.ovs_inv b]; rfl
theorem TD.pair_inv {v : V} {p : Int × Int} (h : TD K H v (pD p)) : ∃ a, v = .ref a ∧ SqT K H a [.int p.1, .int p.2] := by
  obtain ⟨a, xs, e, s, q⟩ := h.tup_inv
  rw [TDs.ints_inv (ns := [p.1, p.2]) q] at s
  exact ⟨a, e, s⟩
theorem TD.of {a : Addr} {xs : List V} {ds : List PyData} (h : H a = some (.tup xs)) (q : TDs K H xs ds) : TD K H (.ref a) (.tuple ds) := .tup (SqT.of h) q
/-- a new tuple of data -/
theorem TD.new {a : Addr} {xs : List V} {ds : List PyData} (h : H a = none) (q : TDs K H xs ds) : TD K (upd H a (.tup xs)) (.ref a) (.tuple ds) := .of upd_same (q.same (same_new h))
/-- a list of data -/
def LD (K : PySem.W.Frag) (H : Hp) (a : Addr) (ds : List PyData) : Prop := ∃ vs, H a = some (.lst vs) ∧ TDs K H vs ds
theorem LD.same (s : Same H H') {a : Addr} {ds : List PyData} (h : LD K H a ds) : LD K H' a ds := by
  obtain ⟨vs, e, q⟩ := h
  exact ⟨vs, s _ _ e, q.same s⟩
theorem LD.kp {p a : Addr} {xs : List V} {ds : List PyData} (h : LD K H a ds) (k : Kp p H H') (hp : H p = some (.lst xs)) (n : a ≠ p) : LD K H' a ds := by
  obtain ⟨vs, e, q⟩ := h
  exact ⟨vs, k _ _ e n, q.tps (k.tps hp)⟩
theorem LD.put {a : Addr} {xs vs : List V} {ds : List PyData} (h : H a = some (.lst xs)) (q : TDs K H vs ds) : LD K (upd H a (.lst vs)) a ds := ⟨vs, upd_same, q.tps (tps_put h)⟩
theorem LD.new {a : Addr} {vs : List V} {ds : List PyData} (h : H a = none) (q : TDs K H vs ds) : LD K (upd H a (.lst vs)) a ds := ⟨vs, upd_same, q.same (same_new h)⟩
theorem LD.snoc {a : Addr} {vs : List V} {v : V} {d : PyData} {ds : List PyData} (h : H a = some (.lst vs)) (q : TDs K H vs ds) (x : TD K H v d) : LD K (upd H a (.lst (vs ++ [v]))) a (ds ++ [d]) := .put h (q.snoc x)
variable {σ : L2.St} {Q : VK}
theorem i_tyLD {p : Addr} {ds : List PyData} {R : Prop} (s : LD K H p ds) (q : R) : tyV K "list" (.ref p) H ∧ R := by
  obtain ⟨vs, e, _⟩ := s
  exact i_tyL (SqL.of e) q
theorem i_lenLD {p : Addr} {ds : List PyData} (s : LD K H p ds) (q : Q (.int ds.length) H) : qLen K [.ref p] H Q := by
  obtain ⟨vs, e, t⟩ := s
  rw [← t.len] at q
  exact i_lenL (SqL.of e) q
theorem i_ixD {p : V} {ds : List PyData} {i : Int} {d : PyData} (h : TD K H p (.tuple ds)) (h0 : 0 ≤ i) (e : ds[i.toNat]? = some d) (q : ∀ y, TD K H y d → Q y H) : rIxT K p (.int i) H Q := by
  obtain ⟨a, xs, rfl, s, t⟩ := h.tup_inv
  obtain ⟨y, ey, hy⟩ := t.get e
  refine ⟨a, xs, i, y, rfl, rfl, s, ?_, q y hy⟩
  have := atI_nat (xs := xs) (j := i.toNat) (v := y) ey
  rw [Int.toNat_of_nonneg h0] at this
  exact this
theorem i_ixDI {p : V} {ds : List PyData} {i j : Int} (h : TD K H p (.tuple ds)) (h0 : 0 ≤ i) (e : ds[i.toNat]? = some (.int j)) (q : Q (.int j) H) : rIxT K p (.int i) H Q :=
  i_ixD h h0 e fun y hy => by rw [hy.int_inv]; exact q
theorem i_ixDO {p : V} {ds : List PyData} {i : Int} {o : Option Int} (h : TD K H p (.tuple ds)) (h0 : 0 ≤ i) (e : ds[i.toNat]? = some (oD o)) (q : Q (ovO o) H) : rIxT K p (.int i) H Q :=
  i_ixD h h0 e fun y hy => by rw [hy.ov_inv]; exact q
theorem i_ixDS {p : V} {ds : List PyData} {i : Int} {j : Str} (h : TD K H p (.tuple ds)) (h0 : 0 ≤ i) (e : ds[i.toNat]? = some (.str j)) (q : Q (.str j) H) : rIxT K p (.int i) H Q :=
  i_ixD h h0 e fun y hy => by rw [hy.str_inv]; exact q
theorem i_lenDt {p : V} {ds : List PyData} (h : TD K H p (.tuple ds)) (q : Q (.int ds.length) H) : qLen K [p] H Q := by
  obtain ⟨a, xs, rfl, s, t⟩ := h.tup_inv
  rw [← t.len] at q
  exact i_lenT s q
theorem i_gTupD {n : Nat} {t : TGs} {v : V} {ds : List PyData} {R : L2.St → Hp → Prop} (h : TD K H v (.tuple ds)) (e : ds.length = n) (q : ∀ xs, TDs K H xs ds → t xs σ H R) : gTup K n t v σ H R := by
  obtain ⟨a, xs, rfl, s, u⟩ := h.tup_inv
  exact i_gTup s (by rw [u.len, e]) (q xs u)
theorem i_gPair {n : Nat} {t : TGs} {v : V} {p : Int × Int} {R : L2.St → Hp → Prop} (h : TD K H v (pD p)) (e : 2 = n) (q : t [.int p.1, .int p.2] σ H R) : gTup K n t v σ H R := by
  obtain ⟨a, rfl, s⟩ := h.pair_inv
  exact i_gTup s e q
theorem i_isTD {v : V} {ds : List PyData} {R : Addr → Prop} (h : TD K H v (.tuple ds)) (q : ∀ a xs, v = .ref a → SqT K H a xs → TDs K H xs ds → R a) : ∃ a', v = .ref a' ∧ (∃ xs, SqT K H a' xs) ∧ R a' := by
  obtain ⟨a, xs, e, s, t⟩ := h.tup_inv
  exact ⟨a, e, ⟨xs, s⟩, q a xs e s t⟩
theorem i_lstTD {v : V} {ds : List PyData} (h : TD K H v (.tuple ds)) (q : ∀ xs l, TDs K H xs ds → H l = none → Q (.ref l) (upd H l (.lst xs))) : rLstOf K [v] H Q := by
  obtain ⟨a, xs, rfl, s, t⟩ := h.tup_inv
  exact i_lstT s fun l hl => q xs l t hl
theorem i_tupTD {v : V} {ds : List PyData} (h : TD K H v (.tuple ds)) (q : Q v H) : rTupOf K [v] H Q := by
  obtain ⟨a, xs, rfl, s, t⟩ := h.tup_inv
  exact i_tupT s q
theorem TDs.pair_at {vs : List V} {ps : List (Int × Int)} {i : Nat} {v : V} (h : TDs K H vs (ps.map pD)) (e : vs[i]? = some v) : ∃ p, ps[i]? = some p ∧ TD K H v (pD p) ∧ ps.take (i + 1) = ps.take i ++ [p] ∧ i < ps.length := by
  obtain ⟨d, e1, t, _, hl⟩ := h.at e
  rw [List.getElem?_map] at e1
  cases e2 : ps[i]? with
  | none => rw [e2] at e1; cases e1
  | some p =>
    rw [e2] at e1
    cases e1
    exact ⟨p, rfl, t, by rw [List.take_add_one, e2]; rfl, (List.getElem?_eq_some_iff.mp e2).1⟩
theorem i_eqNI {j : Int} (q : Q (.bl false) H) : rEq .non (.int j) H Q := ⟨rfl, by
  have e : decide (V.non = V.int j) = false := by simp
  rw [e]; exact q⟩
/-! shapes -/
theorem Shp.str {x : Str} (h : PyData.canLay0 (.str x) = true) : Shp 0 (.str x) := ⟨h, by simp [PyData.depth]⟩
theorem Shp.oD (o : Option Int) : Shp 0 (oD o) := by
  cases o with
  | none => exact Shp.non
  | some z => exact Shp.int z
theorem Shp.ovs (os : List (Option Int)) : Shp 1 (.tuple (os.map Law.oD)) := Shp.tup fun d hd => by
  obtain ⟨x, _, rfl⟩ := List.mem_map.mp hd
  exact Shp.oD x
theorem Shp.pD (p : Int × Int) : Shp 1 (pD p) := Shp.tup fun d hd => by
  rcases List.mem_cons.mp hd with rfl | hd
  · exact Shp.int _
  · rcases List.mem_cons.mp hd with rfl | hd
    · exact Shp.int _
    · cases hd
theorem Shp.prs (ps : List (Int × Int)) : Shp 2 (.tuple (ps.map Law.pD)) := Shp.tup fun d hd => by
  obtain ⟨x, _, rfl⟩ := List.mem_map.mp hd
  exact Shp.pD x
/-! dicts with text keys -/
theorem i_disp {trs : List (TE × TE)} (h : ∀ p, H p = none → tPairs trs σ (upd H p (.dK [])) fun ps H2 => H2 p = some (.dK []) ∧ ∃ kvs : List (L2.Key × V), ps = kvs.map (fun kv => (kV kv.1, kv.2)) ∧ kvs.length ≤ 15 ∧ Q (.ref p) (upd H2 p (.dK (mergeK [] kvs)))) : tDisp trs σ H Q := h
theorem i_pNil {R : List (V × V) → Hp → Prop} (h : R [] H) : tPairs [] σ H R := h
theorem i_pCons {tk tv : TE} {r : List (TE × TE)} {R : List (V × V) → Hp → Prop} (h : tk σ H fun x H1 => tv σ H1 fun y H2 => tPairs r σ H2 fun ps H3 => R ((x, y) :: ps) H3) : tPairs ((tk, tv) :: r) σ H R := h
theorem i_dgetS {p : Addr} {i : Str} {v : V} {kvs : List (L2.Key × V)} {R : V → Prop} (h : Rd H p (.dK kvs)) (e : valV kvs (.inr i) = some v) (q : R v) : ∃ a v', V.ref p = .ref a ∧ DGet H a (.str i) (some v') ∧ R v' :=
  ⟨p, v, rfl, .inl ⟨kvs, .inr i, h, rfl, e.symm⟩, q⟩
end
/- data at the heap of the goal -/
local macro_rules | `(tactic| wtm_at "jtd") => `(tactic| first | assumption | ((with_reducible refine' TD.same (same_new ?hn) ?hh); (case hn => assumption); (case hh => wtm_at "jtd")))
local macro_rules | `(tactic| wtm_at "jw1") => `(tactic| first
  | ((with_reducible refine' i_ixDI ?h ?h0 ?e ?_); (case h => wtm_at "jtd"); (case h0 => wtm_at "jside"); (case e => wtm_at "jat"))
  | ((with_reducible refine' i_ixDO ?h ?h0 ?e ?_); (case h => wtm_at "jtd"); (case h0 => wtm_at "jside"); (case e => wtm_at "jat"))
  | ((with_reducible refine' i_ixDS ?h ?h0 ?e ?_); (case h => wtm_at "jtd"); (case h0 => wtm_at "jside"); (case e => wtm_at "jat"))
  | ((with_reducible refine' i_ix2 (i_ixDI ?h ?h0 ?e ?_)); (case h => wtm_at "jtd"); (case h0 => wtm_at "jside"); (case e => wtm_at "jat"))
  | ((with_reducible refine' i_ix2 (i_ixDO ?h ?h0 ?e ?_)); (case h => wtm_at "jtd"); (case h0 => wtm_at "jside"); (case e => wtm_at "jat"))
  | ((with_reducible refine' i_ixD ?h ?h0 ?e ?_); (case h => wtm_at "jtd"); (case h0 => wtm_at "jside"); (case e => wtm_at "jat"); intro _ _)
  | ((with_reducible refine' i_ix2 (i_ixD ?h ?h0 ?e ?_)); (case h => wtm_at "jtd"); (case h0 => wtm_at "jside"); (case e => wtm_at "jat"); intro _ _)
  | ((with_reducible refine' i_lenDt ?h ?_); (case h => wtm_at "jtd"))
  | with_reducible refine' i_eqNI ?_
  | ((with_reducible refine' i_tyLD ?h ?_); (case h => assumption))
  | ((with_reducible refine' i_lenLD ?h ?_); (case h => assumption))
  | ((with_reducible refine' i_gPair ?h ?e ?_); (case h => wtm_at "jtd"); (case e => rfl))
  | with_reducible refine' i_pNil ?_ | with_reducible refine' i_pCons ?_)

/-! ### draws and picks, said shortly -/
section
variable {K : PySem.W.Frag} {p a B : Addr} {H0 H : Hp} {Q : VK} {E : XK}
theorem drawL {m : Int} (w : Drew p a H0 H) (h0 : 0 < m) (h1 : m < 18446744073709551616) (q : ∀ z H', 0 ≤ z → z < m → Drew p a H H' → Drew p a H0 H' → Q (.int z) H') : sp__law_draw K [.ref p, .int m] H Q E :=
  ⟨p, a, m, rfl, w.at_, h0, h1, fun z H' z0 z1 e => q z H' z0 z1 e (w.trans e)⟩
theorem pickL {xs : List V} (P : Int → Prop) (ns : List Int) (w : Drew p a H0 H) (hB : H B = none) (e : xs = ns.map V.int) (h0 : 0 < ns.length) (h1 : ns.length < 1000) (hP : ∀ z ∈ ns, P z)
    (q : ∀ z H', P z → Drew p a H H' → Drew p a H0 H' → Q (.int z) H') : sp__law_pick K [.ref p, .ref B] (upd H B (.lst xs)) Q E := by
  subst e
  refine ⟨p, a, B, ns.map V.int, rfl, w.at_.same (same_new hB), .inl ⟨w.at_.ne_none hB, SqL.of upd_same⟩, by rw [List.length_map]; exact h0, by rw [List.length_map]; omega, fun x H' hx e => ?_⟩
  obtain ⟨z, hz, rfl⟩ := List.mem_map.mp hx
  have e1 := (w.at_.drew.new (o := .lst (ns.map V.int)) hB).trans e
  exact q z H' (hP z hz) e1 (w.trans e1)
theorem pickV {xs : List V} (w : Drew p a H0 H) (hB : H B = none) (h0 : 0 < xs.length) (h1 : xs.length < 1000) (q : ∀ x H', x ∈ xs → Drew p a H H' → Drew p a H0 H' → Q x H') : sp__law_pick K [.ref p, .ref B] (upd H B (.lst xs)) Q E := by
  refine ⟨p, a, B, xs, rfl, w.at_.same (same_new hB), .inl ⟨w.at_.ne_none hB, SqL.of upd_same⟩, h0, by omega, fun x H' hx e => ?_⟩
  have e1 := (w.at_.drew.new (o := .lst xs) hB).trans e
  exact q x H' hx e1 (w.trans e1)
/-- a pick out of a list that stands -/
theorem pickS {xs : List V} (w : Drew p a H0 H) (hB : H B = some (.lst xs)) (n : B ≠ p) (h0 : 0 < xs.length) (h1 : xs.length < 1000000) (q : ∀ x H', x ∈ xs → Drew p a H H' → Drew p a H0 H' → Q x H') : sp__law_pick K [.ref p, .ref B] H Q E :=
  ⟨p, a, B, xs, rfl, w.at_, .inl ⟨n, SqL.of hB⟩, h0, by omega, fun x H' hx e => q x H' hx e (w.trans e)⟩
theorem pickT {xs : List V} (w : Drew p a H0 H) (hB : SqT K H B xs) (h0 : 0 < xs.length) (h1 : xs.length < 1000000) (q : ∀ x H', x ∈ xs → Drew p a H H' → Drew p a H0 H' → Q x H') : sp__law_pick K [.ref p, .ref B] H Q E :=
  ⟨p, a, B, xs, rfl, w.at_, .inr hB, h0, by omega, fun x H' hx e => q x H' hx e (w.trans e)⟩
end
theorem LD.drew {K : PySem.W.Frag} {p a f : Addr} {H H' : Hp} {ds : List PyData} (h : LD K H f ds) (d : DrawAt H p a) (e : Drew p a H H') (n : f ≠ p) : LD K H' f ds := by
  obtain ⟨xs, hp⟩ := d.some
  exact h.kp e.kp hp n
theorem LPr.drew {p a f : Addr} {H H' : Hp} {fo : List (Int × Int)} (h : LPr H f fo) (d : DrawAt H p a) (e : Drew p a H H') (n : f ≠ p) : LPr H' f fo := by
  obtain ⟨xs, hp⟩ := d.some
  exact h.kp e.kp hp n
/-- a pure choice of two -/
theorem i_ifP {σ : L2.St} {H : Hp} {Q : VK} {c : TT} {ta tb : TE} (P : V → Prop) (hc : ∀ R : Bool → Hp → Prop, (∀ b, R b H) → c σ H R) (ha : ∀ R : VK, (∀ v, P v → R v H) → ta σ H R) (hb : ∀ R : VK, (∀ v, P v → R v H) → tb σ H R) (q : ∀ v, P v → Q v H) : tIf c ta tb σ H Q :=
  hc _ fun b => by
    cases b
    · exact hb _ q
    · exact ha _ q
theorem all_two {P : Int → Prop} {x y : Int} (h1 : P x) (h2 : P y) : ∀ z ∈ [x, y], P z := by simp; exact ⟨h1, h2⟩

theorem i_andTJ {t u : TT} {σ : L2.St} {H : Hp} {Q : Bool → Hp → Prop} (J : Bool → Hp → Prop) (h1 : ∀ b H', J b H' → Q b H') (h2 : ∀ R : Bool → Hp → Prop, (∀ b H', J b H' → R b H') → tAnd t u σ H R) : tAnd t u σ H Q := h2 _ h1
/-- what is wanted of each place -/
def AllI {α : Type} (P : Nat → α → Prop) (l : List α) : Prop := ∀ i x, l[i]? = some x → P i x
/-- an if-expression that draws, told once behind it -/
theorem i_ifJ {σ : L2.St} {H : Hp} {Q : VK} {c : TT} {ta tb : TE} (J : V → Hp → Prop) (h1 : ∀ v H', J v H' → Q v H') (h2 : ∀ R : VK, (∀ v H', J v H' → R v H') → tIf c ta tb σ H R) : tIf c ta tb σ H Q := h2 _ h1
local macro_rules | `(tactic| wtm_at "jif") => `(tactic| repeat ((fail_if_success (with_reducible refine' i_if ?_)); wtm_at "jw1"))
theorem AllI.nil {α : Type} {P : Nat → α → Prop} : AllI P ([] : List α) := fun i x h => by simp at h
theorem AllI.snoc {α : Type} {P : Nat → α → Prop} {l : List α} {x : α} (h : AllI P l) (hx : P l.length x) : AllI P (l ++ [x]) := fun i y hy => by
  by_cases hi : i < l.length
  · rw [List.getElem?_append_left hi] at hy
    exact h i y hy
  · rw [List.getElem?_append_right (by omega)] at hy
    cases e : i - l.length with
    | zero =>
      rw [e] at hy
      cases hy
      obtain rfl : i = l.length := by omega
      exact hx
    | succ n =>
      rw [e] at hy
      cases hy

/-! ### tuple(reversed(x)), x a tuple -/
section
open RT
theorem nolen_rt : typeLookup (.type "reversed") "__len__" = pure none := by rw [typeLookup_type, builtinLookup_eq_fast]; kernel_rfl
theorem slot_rt_hint : Slot "reversed" "__length_hint__" "reversed.__length_hint__" :=
  .of (owner := "reversed") (n := "__length_hint__") (by rw [typeLookup_type, builtinLookup_eq_fast]; kernel_rfl) (by decide +kernel) (by decide +kernel) (by decide +kernel)
    (by first | exact .inl (by decide +kernel) | exact .inr (by decide +kernel)) (by rw [isSubtype_type]; kernel_rfl)
theorem entry_rt_hint : entryFor table "reversed.__length_hint__" = some Builtin.«reversed.__length_hint__» := entryFor_of_tree (by kernel_rfl)
theorem args_rt_hint (a : Value) : argsOk "reversed.__length_hint__" ⟨[a], []⟩ := by
  unfold argsOk; rw [signature?_of (id := "reversed.__length_hint__") (n := ['_', '_', 't', 'n', 'i', 'h', '_', 'h', 't', 'g', 'n', 'e', 'l', '_', '_']) (o := ['d', 'e', 's', 'r', 'e', 'v', 'e', 'r']) (by kernel_rfl) owner_rt]; kernel_rfl

def StR (it t : Addr) (items : Array Value) (i : Nat) (s : Shared) : Prop := i ≤ items.size ∧ IsRt s.heap it t ((items.size : Int) - 1 - (i : Int)) ∧ IsTup s.heap t items

theorem walks_rt {prog : Program} {w : World} {A : Around} (hh : A.handled = none) (it t : Addr) (hne : t ≠ it) (items : Array Value) (hsz : items.size ≤ sizeLine) :
    WalksS prog w A it [it, t] [it] (fun a b => b = a) items.size (fun i v => items[items.size - 1 - i]? = some v) (StR it t items) where
  sub := fun b hb => by simp at hb; simp [hb]
  grefl := fun _ => rfl
  gtrans := fun _ _ _ h1 h2 => h2.trans h1
  frame := fun i s h' tk x _ hk => ⟨x.1, x.2.1.at fun o e => hk it (by simp) o e, by obtain ⟨o, ho, r⟩ := x.2.2; exact ⟨o, hk t (by simp) _ ho, r⟩⟩
  item := fun i s Q E hi x hQ => by
    have e : (items.size : Int) - 1 - (i : Int) = ((items.size - 1 - i : Nat) : Int) := by omega
    have hit := x.2.1
    rw [e] at hit
    have hx : items[items.size - 1 - i]? = some (items[items.size - 1 - i]'(by omega)) := Array.getElem?_eq_getElem (by omega)
    refine next_rt_item hit x.2.2 hx hsz fun h' hit' hs' => ?_
    have e2 : ((items.size - 1 - i : Nat) : Int) - 1 = (items.size : Int) - 1 - ((i + 1 : Nat) : Int) := by omega
    rw [e2] at hit'
    refine hQ _ _ hx ⟨hi, hit', ?_⟩ ⟨fun b o hb eo => hs'.extBut b o (fun h => hb (by simp [h])) eo, rfl, rfl, rfl, Nat.le_succ _⟩
    obtain ⟨o, ho, r⟩ := x.2.2
    exact ⟨o, (hs'.2 t hne).trans ho, r⟩
  done := fun s Q E x hQ => by
    have e : (items.size : Int) - 1 - (items.size : Int) = -1 := by omega
    have hit := x.2.1
    rw [e] at hit
    exact next_rt_end hh hit fun h' he' => hQ _ ⟨fun b o hb eo => he' b o (fun h => hb (by simp [h])) eo, rfl, rfl, rfl, Nat.le_refl _⟩
  self := fun _ _ _ _ x hQ => iter_rt x.2.1 hQ

section
variable {prog : Program} {w : World} {A : Around} {E : Value → Shared → Prop} {s : Shared}
theorem call_hint_rt {it t : Addr} {n : Nat} {items : Array Value} {Q : Value → Shared → Prop} (hit : IsRt s.heap it t ((n : Int) - 1)) (ht : IsTup s.heap t items) (en : items.size = n) (hn : n ≤ sizeLine)
    (h : ∀ tk tk', Q (.int n tk') { s with toks := tk }) : wpAny (model prog w) A (call (.builtin "reversed.__length_hint__") [.ref it]) Q E s := by
  obtain ⟨o, ho, hc, hd⟩ := id hit
  have h63 := line63
  refine wpAny_call_entry slot_rt_hint hit.typeIs entry_rt_hint ?_ (args_rt_hint _)
  unfold Builtin.«reversed.__length_hint__»
  refine wpAny_bind (wpAny_of_eq (a := (Value.ref it)) rfl ?_)
  try dsimp only
  refine wpAny_bind (wpAny_field ho hd (x := .ref t) rfl ?_)
  try dsimp only
  refine wpAny_ite_split (fun hab => absurd hab (by simp)) (fun _ => ?_)
  refine wpAny_bind (len_tuple ht (by omega) ?_)
  refine wpAny_bind (wpAny_of_eq (a := some ((items.size : Nat) : Int)) rfl ?_)
  try dsimp only
  refine wpAny_bind (wpAny_field (s := { s with toks := s.toks + 1 + 1 }) ho hd (x := rawInt ((n : Int) - 1)) rfl ?_)
  show wpAny _ _ (if ((items.size : Nat) : Int) < ((n : Int) - 1) + 1 then _ else _) _ _ _
  rw [if_neg (by omega)]
  have e : (n : Int) - 1 + 1 = n := by omega
  rw [e]
  unfold retInt
  refine wpAny_bind (wpAny_mkInt ?_)
  exact wpAny_pure ⟨_, rfl, h _ _⟩

theorem asInt_i (i : Int) (t : Tok) : asInt? (Value.int i t) = pure (some i) := by rfl
theorem tail_i {α : Type} {i : Int} {t : Tok} {k : Option Int → Sem α} {Q : α → Shared → Prop} (h : wpAny (model prog w) A (k (some i)) Q E s) : wpAny (model prog w) A (asInt? (.int i t) >>= k) Q E s := by
  refine wpAny_bind ?_
  rw [asInt_i]
  exact wpAny_pure h
theorem hint_rt {it t : Addr} {n : Nat} {items : Array Value} {Q : Bool → Shared → Prop} (hit : IsRt s.heap it t ((n : Int) - 1)) (ht : IsTup s.heap t items) (en : items.size = n) (hn : n ≤ sizeLine)
    (h : ∀ tk, Q ((n : Int) != 0) { s with toks := tk }) : wpAny (model prog w) A (Builtin.List.listLengthHint (.ref it)) Q E s := by
  have h63 := line63
  unfold Builtin.List.listLengthHint
  refine wpAny_bind (wpAny_specialOf hit.typeIs nolen_rt ?_)
  show wpAny _ A (specialOf (Value.ref it) (Str.ofString "__length_hint__") >>= _) _ _ _
  refine wpAny_bind (wpAny_specialOf hit.typeIs slot_rt_hint.lookup ?_)
  generalize hid : ("reversed.__length_hint__" : String) = id0
  wp_delta
  rw [show splitId id0 = some ("reversed", "__length_hint__") from by subst hid; decide +kernel]
  subst hid
  refine wpAny_bind (wpAny_isInstance (b := true) hit.typeIs (by rw [isSubtype_type]; kernel_rfl) ?_)
  refine wpAny_ite_split (fun hab => absurd hab (by decide)) (fun _ => ?_)
  refine wpAny_ite_split (fun hab => absurd hab (by decide +kernel)) (fun _ => ?_)
  refine wpAny_bind (wpAny_rule ?_)
  simp only [slot_rt_hint.bind]
  refine wpAny_bind (wpAny_pure ?_)
  refine wpAny_bind (wpAny_attempt (call_hint_rt hit ht en hn fun tk tk' => ?_))
  have htl : Builtin.List.listTooLong ((n : Int).toNat) = false := decide_eq_false (by rw [Int.toNat_natCast]; omega)
  have hfx : Builtin.List.listFitsIndex (n : Int) = true := by unfold Builtin.List.listFitsIndex; rw [Bool.and_eq_true]; exact ⟨decide_eq_true (by omega), decide_eq_true (by omega)⟩
  have hn0 : ¬ ((n : Int) < 0) := by omega
  clear h63 hit
  generalize ((n : Nat) : Int) = z at *
  refine wpAny_bind (m := asInt? (Value.int z tk')) ?_
  rw [asInt_i]
  refine wpAny_pure ?_
  simp only [hfx, htl, Bool.not_true, Bool.false_eq_true, if_false, hn0]
  exact wpAny_pure (h _)
theorem IsTup.push' {h : Heap} {t : Addr} {items : Array Value} (o : Obj) (x : IsTup h t items) : IsTup (h.push o) t items := by obtain ⟨o', ho, r⟩ := x; exact ⟨o', Heap.get?_push_of_some _ ho, r⟩
theorem isRt_push' {h : Heap} {a t : Addr} {i : Int} (o : Obj) (x : IsRt h a t i) : IsRt (h.push o) a t i := x.at fun o' e => Heap.get?_push_of_some _ e
theorem collect_rt {it t : Addr} {items : Array Value} {Q : List Value → Shared → Prop} (hh : A.handled = none) (hit : IsRt s.heap it t ((items.size : Int) - 1)) (ht : IsTup s.heap t items) (hne : t ≠ it) (hn : items.size ≤ sizeLine)
    (hQ : ∀ (h' : Heap) (tk : Nat) (acc : Array Value), (∀ b o, b ≠ it → s.heap.get? b = some o → h'.get? b = some o) → ItemsOf (fun i v => items[items.size - 1 - i]? = some v) acc items.size → Q acc.toList { s with heap := h', toks := tk }) :
    wpAny (model prog w) A (collect (.ref it)) Q E s := by
  have W := walks_rt (prog := prog) (w := w) (A := A.in1) hh it t hne items hn
  obtain ⟨oi, hoi, _⟩ := id hit
  obtain ⟨ol, hol, _⟩ := id ht
  have hSi : s.heap.objs.size ≠ it := Nat.ne_of_gt (Heap.lt_size hoi)
  have hSl : s.heap.objs.size ≠ t := Nat.ne_of_gt (Heap.lt_size hol)
  have hSf : s.heap.objs.size ∉ [it, t] := by simp only [List.mem_cons, List.not_mem_nil, or_false, not_or]; exact ⟨hSi, hSl⟩
  unfold collect
  refine wpAny_bind (wpAny_runValue (codeAny_builtin F.entry_proto_collect ?_))
  rw [Around.under_plainId F.plain_proto_collect _]
  show wpAny _ A.in1 (newList [] >>= fun l' => again (.builtin "list.__iadd__" ⟨[l', .ref it], []⟩)) _ _ s
  refine wpAny_bind (wpAny_newObj_type ?_)
  refine wpAny_pure ⟨plainId_quiet F.plain_list_iadd _, codeAny_builtin F.entry_list_iadd ?_⟩
  rw [Around.under_plainId F.plain_list_iadd _]
  have hS₁ : (s.heap.push { cls := .type "list", data := .seq ([] : List Value).toArray }).get? s.heap.objs.size = some { cls := .type "list", data := .seq ([] : List Value).toArray } := Heap.get?_push_size _ rfl
  have hit1 := isRt_push' (a := it) (t := t) (i := (items.size : Int) - 1) (h := s.heap) { cls := .type "list", data := .seq ([] : List Value).toArray } hit
  have ht1 := IsTup.push' { cls := .type "list", data := .seq ([] : List Value).toArray } ht
  have hT : ({ s with heap := s.heap.push { cls := .type "list", data := .seq ([] : List Value).toArray } } : Shared).TypeIs (.ref it) "reversed" := IsRt.typeIs (s := { s with heap := s.heap.push { cls := .type "list", data := .seq ([] : List Value).toArray } }) hit1
  have h1 : Builtin.List.listSameRef (.ref s.heap.objs.size) (.ref it) = false := by simp [Builtin.List.listSameRef, hSi]
  show wpAny _ A.in1 (Builtin.List.listExtendWith (.ref s.heap.objs.size) (.ref it) (.ref s.heap.objs.size)) _ _ _
  unfold Builtin.List.listExtendWith
  refine wpAny_bind (wpAny_typeOf hT ?_)
  rw [if_neg (by rw [h1]; decide)]
  refine wpAny_bind (iter_rt (s := { s with heap := s.heap.push { cls := .type "list", data := .seq ([] : List Value).toArray } }) hit1 ?_)
  refine wpAny_bind (wpAny_holding (hint_rt (s := { s with heap := s.heap.push { cls := .type "list", data := .seq ([] : List Value).toArray } }) hit1 ht1 rfl hn fun tk => ?_))
  have oth : ∀ b o, b ≠ s.heap.objs.size → (s.heap.push { cls := .type "list", data := .seq ([] : List Value).toArray }).get? b = some o →
      (((s.heap.push { cls := .type "list", data := .seq ([] : List Value).toArray }).update s.heap.objs.size (Obj.mapSeq (·.push Value.none))).update s.heap.objs.size (Obj.mapSeq (·.pop))).get? b = some o :=
    fun b o hb e => (Heap.get?_update_other _ _ (Ne.symm hb)).trans ((Heap.get?_update_other _ _ (Ne.symm hb)).trans e)
  have e0 : ((items.size : Nat) : Int) - 1 - ((0 : Nat) : Int) = (items.size : Int) - 1 := by omega
  have key : ∀ (R : Result → Shared → Prop) (h : Heap) (c₁ tk : Nat), (∀ b o, b ≠ s.heap.objs.size → (s.heap.push { cls := .type "list", data := .seq ([] : List Value).toArray }).get? b = some o → h.get? b = some o) →
      h.get? s.heap.objs.size = some { cls := .type "list", data := .seq #[] c₁ } →
      (∀ (h' : Heap) (tk' : Nat) (acc : Array Value) (c' : Nat), (∀ b o, b ≠ it → s.heap.get? b = some o → h'.get? b = some o) → h'.get? s.heap.objs.size = some { cls := .type "list", dict := none, data := .seq acc c', slots := #[] } →
        ItemsOf (fun i v => items[items.size - 1 - i]? = some v) acc items.size → R (.ok (.ret (.ref s.heap.objs.size))) { s with heap := h', toks := tk' }) →
      codeAny (model prog w) A (.builtin "list.extend.loop" ⟨[.ref s.heap.objs.size, .ref it, .ref s.heap.objs.size], []⟩) R { s with heap := h, toks := tk } := by
    intro R h c₁ tk ho hg hR
    refine codeAny_extend_loopS W hn _ hSf _ items.size 0 _ _ _ rfl (Nat.zero_le _) ⟨Nat.zero_le _, ?_, ?_⟩ hg (ItemsOf.nil _) fun s' acc' c' hm hS' hacc => ?_
    · rw [e0]; exact hit1.at fun o e => ho it o (Ne.symm hSi) e
    · obtain ⟨o, e, r⟩ := ht1; exact ⟨o, ho t o (Ne.symm hSl) e, r⟩
    · rw [Moved.eq_with hm]
      refine hR s'.heap s'.toks acc' c' (fun b o hb e => hm.heap b o (fun hmem => ?_) (ho b o (Nat.ne_of_lt (Heap.lt_size e)) (Heap.get?_push_of_some _ e))) hS' hacc
      rcases List.mem_cons.mp hmem with e' | hmem
      · exact absurd (Heap.lt_size e) (by rw [e']; exact Nat.lt_irrefl _)
      · exact hb (List.mem_singleton.mp hmem)
  refine wpAny_ite_split (fun _ => ?_) (fun _ => wpAny_pure ⟨plainId_quiet F.plain_extend_loop _, key _ _ 0 tk (fun b o _ e => e) hS₁ fun h' tk' acc c' hk hS' hacc => ?_⟩)
  · refine wpAny_bind (wpAny_rule ?_)
    refine wpAny_bind ?_
    show wpAny _ _ (updateSeq s.heap.objs.size (·.push .none) >>= fun _ => updateSeq s.heap.objs.size (·.pop)) _ _ _
    refine wpAny_bind (wpAny_updateSeq hS₁ rfl ?_)
    have hS₂ := Heap.get?_update_self (Obj.mapSeq (·.push Value.none)) hS₁ rfl
    refine wpAny_updateSeq (hz := by seq_fits) hS₂ rfl ?_
    have hS₃ := Heap.get?_update_self (Obj.mapSeq (·.pop)) hS₂ rfl
    refine wpAny_pure ⟨plainId_quiet F.plain_extend_loop _, key _ _ _ tk oth hS₃ fun h' tk' acc c' hk hS' hacc => ?_⟩
    show wpAny _ A (load s.heap.objs.size >>= _) _ _ _
    refine wpAny_bind (wpAny_load hS' ?_)
    exact wpAny_pure (hQ _ _ _ hk hacc)
  · show wpAny _ A (load s.heap.objs.size >>= _) _ _ _
    refine wpAny_bind (wpAny_load hS' ?_)
    exact wpAny_pure (hQ _ _ _ hk hacc)
theorem code_tuple_new_rt {it l : Addr} {items : Array Value} {Q₁ : Value → Shared → Prop} (hh : A.handled = none) (hit : IsRt s.heap it l ((items.size : Int) - 1)) (hl : IsTup s.heap l items) (hne : l ≠ it) (hn : items.size ≤ sizeLine)
    (h : ∀ (h' : Heap) (tk : Nat) (acc : Array Value), (∀ b o, b ≠ it → s.heap.get? b = some o → h'.get? b = some o) → ItemsOf (fun i v => items[items.size - 1 - i]? = some v) acc items.size →
      Q₁ (.ref h'.objs.size) { s with heap := h'.push { cls := .type "tuple", data := .seq acc }, toks := tk }) :
    codeAny (model prog w) A (.call (.builtin "tuple.__new__") ⟨[.type "tuple", .ref it], []⟩) (wants Q₁ E) s := by
  refine codeAny_of_tree ?_
  show wpAny _ A.in1 (do checkBuiltinCall "tuple.__new__" ⟨[.type "tuple", .ref it], []⟩; again (.builtin "tuple.__new__" ⟨[.type "tuple", .ref it], []⟩)) _ _ s
  refine wpAny_bind (wpAny_of_eq (F.newCall_tuple_1 _) (wpAny_pure ⟨plainId_quiet F.plain_tuple_new _, codeAny_builtin F.entry_tuple_new ?_⟩))
  rw [Around.under_plainId F.plain_tuple_new _]
  have hsub := sub_tuple_self
  have hinit := init_tuple_lookup
  have hmh := madeHere_tuple
  have hTI : s.TypeIs (.ref it) "reversed" := hit.typeIs
  have hh1 : A.in1.handled = none := hh
  wp_walk using wpAny_typeOf hTI, collect_rt (A := A.in1) hh1 hit hl hne hn
  intro h' tk acc hk hacc
  show wpAny _ _ (Builtin.Tuple.tupleExact acc.toList.toArray >>= fun v => ret v) _ _ _
  unfold Builtin.Tuple.tupleExact
  refine wpAny_bind (wpAny_newObj_type ?_ (by show acc.toList.toArray.size ≤ sizeLine; simp only [Array.toArray_toList]; rw [hacc.1]; exact hn))
  refine wpAny_pure ?_
  have e : acc.toList.toArray = acc := by simp
  rw [e]
  exact h h' tk acc hk hacc
theorem call_tuple_rt {it l : Addr} {items : Array Value} {Q : Value → Shared → Prop} (hh : A.handled = none) (hit : IsRt s.heap it l ((items.size : Int) - 1)) (hl : IsTup s.heap l items) (hne : l ≠ it) (hn : items.size ≤ sizeLine)
    (hQ : ∀ (h' : Heap) (tk : Nat) (acc : Array Value), (∀ b o, b ≠ it → s.heap.get? b = some o → h'.get? b = some o) → ItemsOf (fun i v => items[items.size - 1 - i]? = some v) acc items.size →
      Q (.ref h'.objs.size) { s with heap := h'.push { cls := .type "tuple", data := .seq acc }, toks := tk }) :
    wpAny (model prog w) A (call (.type "tuple") [.ref it]) Q E s := by
  refine callType_codes (Q₁ := fun obj s₁ => s₁.TypeIs obj "tuple" ∧ Q obj s₁) F.called_tuple (F.typeCall_tuple_1 _) F.entry_object_init
    (code_tuple_new_rt (A := A.in1) hh hit hl hne hn fun h' tk acc hk hacc => ⟨⟨_, Heap.get?_push_size _ rfl, rfl⟩, hQ h' tk acc hk hacc⟩) fun obj s₁ h₁ => ?_
  exact ⟨h₁.1, F.args_object_init_2 obj _, object_init_meets F.called_tuple.init.lookup F.called_tuple.made (by decide) prog w A.in1 _ s₁ ⟨h₁.1, rfl, h₁.2⟩⟩
end
/-- tuple(reversed(x)), x a list: a new tuple -/
def tTupRt (K : PySem.W.Frag) (te : TE) : TE := fun σ H Q => te σ H fun v H1 => ∃ (a : Addr) (xs : List V), v = .ref a ∧ SqT K H1 a xs ∧ ∀ q, H1 q = none → Q (.ref q) (upd H1 q (.tup xs.reverse))
section
variable {X : Cx}
theorem pe_tupRt {e : Expr} {te : TE} {p p2 pos pos2 : Pos} (hc : X.calm = true) (hg : Gl X "tuple") (hm : X.mg "tuple" = none) (hg2 : Gl X "reversed") (hm2 : X.mg "reversed" = none) (he : PE X e te)
    (hs : starEach [e] X.env = (false, eval e X.env) :: starEach [] X.env := by rfl)
    (hs2 : starEach [.Call (.Name "reversed" p2) [e] [] pos2] X.env = (false, eval (.Call (.Name "reversed" p2) [e] [] pos2) X.env) :: starEach [] X.env := by rfl) :
    PE X (.Call (.Name "tuple" p) [.Call (.Name "reversed" p2) [e] [] pos2] [] pos) (tTupRt X.K te) := by
  refine ⟨fun pins s σ H Q I h => ?_⟩
  refine Call_ (ld_blt I hg hm boot_tuple (PyProof.Rows.callWith_type1 (args_cons (Call_ (ld_blt I hg2 hm2 PyProof.Rows.boot_reversed (PyProof.Rows.callWith_type1 (args_cons (thn (he.run pins s σ H _ I h) fun u s1 ⟨v, H1, I1, r1, q1⟩ => args_nil ?_) hs) hs rfl))) hs2) hs2 rfl))
  obtain ⟨a, xs, ev, hq, q⟩ := q1
  subst ev
  obtain rfl : u = Value.ref a := r1
  obtain ⟨its, rv, p', hz⟩ := I1.tuple hq
  have hn63 := line63
  have hl0 := rv.length
  refine call_reversed_tup p' (fun A E Q k => len_tuple p' (by simp only [List.size_toArray] <;> omega) k) (args_nil ?_)
  have k0 : ∀ b o, s1.heap.get? b = some o → (s1.heap.push (rtObj a ((its.toArray.size : Int) - 1))).get? b = some o := fun b o e => Heap.get?_push_of_some _ e
  have I2 : Inv X pins σ H1 { s1 with heap := s1.heap.push (rtObj a ((its.toArray.size : Int) - 1)), toks := s1.toks + 1 + 1 } := I1.kept (t' := s1.toks + 1 + 1) k0
  obtain ⟨f0, f1, f2, f3, f4, f5⟩ := I1.fpOk (H' := H1) (b := s1.heap.objs.size) (Nat.le_refl _) (I1.hok.fresh (Nat.le_refl _))
  obtain ⟨ol, hol, _⟩ := id p'
  have hne : a ≠ s1.heap.objs.size := Nat.ne_of_lt (Heap.lt_size hol)
  have hn : its.toArray.size ≤ sizeLine := by rw [List.size_toArray, ← rv.length]; exact hz
  refine call_tuple_rt (s := { s1 with heap := s1.heap.push (rtObj a ((its.toArray.size : Int) - 1)), toks := s1.toks + 1 + 1 }) (I1.ok.hd hc) ⟨_, Heap.get?_push_size _ rfl, rfl, rfl⟩ (IsTup.push' _ p') hne hn fun h' tk acc hk hi => ?_
  have I3 : Inv X pins σ H1 { s1 with heap := h', toks := tk } := I2.turned (t' := tk) (fun b o hb e => hk b o hb e) f0 f1 f3 f4 f5
  refine ⟨.ref h'.objs.size, upd H1 h'.objs.size (.tup xs.reverse), I3.laid (t' := tk) (fun c o e => Heap.get?_push_of_some _ e) (Nat.le_refl _) (show ObjOk X.prog X.w _ _ _ (.tup xs.reverse) from ⟨by rw [List.length_reverse]; exact hz, acc.toList, vals_rev rv hi, ?_⟩), rfl, q _ (I3.hok.fresh (Nat.le_refl _))⟩
  rw [Array.toArray_toList]
  exact IsTup.new _ _
end
end

/-! ### s * n, s one sign -/
section
variable {X : Cx}
def repS (s : Str) (n : Int) : Str := if n = 1 then s else ⟨(List.replicate n.toNat s.cps).foldl (· ++ ·) #[]⟩
def rMulS : R2 := fun x y H Q => ∃ s n, x = .str s ∧ y = .int n ∧ s.length = 1 ∧ 1 ≤ n ∧ n ≤ 1000 ∧ Q (.str (repS s n)) H
theorem op_mulS : OpR X (binaryOp .Mult) rMulS := by
  intro pins s σ H x y v u Q I rx ry h
  obtain ⟨i, n, rfl, rfl, hl, h1, h2, q⟩ := h
  obtain ⟨t, rfl⟩ := rx
  obtain ⟨t', rfl⟩ := ry
  refine P.mul_str ?_ (fun _ _ => ?_) (fun _ _ => ?_) ?_
  · rw [decide_eq_false (by omega), decide_eq_false (by omega)] <;> rfl
  · have : (1 : Int) ≤ (2 ^ 63 - 1) / n := Int.le_ediv_of_mul_le (by omega) (by omega)
    omega
  · rw [hl]
    unfold Builtin.Str.tooLong
    rw [sizeLine_eq]
    exact decide_eq_false (by omega)
  · rw [if_neg (by omega), hl]
    unfold repS at q
    by_cases hn : n = 1
    · subst hn
      rw [if_pos rfl] at q
      rw [if_pos (by decide)]
      exact ⟨.str i, H, I, ⟨_, rfl⟩, q⟩
    · rw [if_neg hn] at q
      rw [if_neg (by simpa using hn)]
      refine ⟨?_, .str _, H, I.tok _, ⟨_, rfl⟩, q⟩
      have e : ∀ (m : Nat) (acc : Array Nat), ((List.replicate m i.cps).foldl (fun x y => x ++ y) acc).size = acc.size + m * i.cps.size := fun m => by
        induction m with
        | zero => intro acc; simp
        | succ m ih =>
          intro acc
          rw [List.replicate_succ, List.foldl_cons, ih, Array.size_append, Nat.succ_mul]
          omega
      have h3 := e n.toNat #[]
      have h4 : i.cps.size = 1 := hl
      rw [h4] at h3
      show ((List.replicate n.toNat i.cps).foldl (fun x y => x ++ y) #[]).size ≤ sizeLine
      rw [h3, sizeLine_eq]
      simp
      omega
end

/-! ### isinstance of data -/
theorem sqT_ty {K : PySem.W.Frag} {H : Hp} {a : Addr} {xs : List V} (h : SqT K H a xs) : TyX K H (.ref a) (.type "tuple") := by
  rcases h with (h | ⟨o, h⟩) | ⟨o, vs, c, e, h1, _⟩
  · exact .base (.tup h)
  · exact .fTuple h
  · exact .kTuple e h1
theorem TD.ty {K : PySem.W.Frag} {H : Hp} {v : V} {ds : List PyData} (h : TD K H v (.tuple ds)) : TyX K H v (.type "tuple") := by
  obtain ⟨a, xs, rfl, s, _⟩ := h.tup_inv
  exact sqT_ty s
theorem i_isiT {K : PySem.W.Frag} {H : Hp} {Q : VK} {v : V} {ds : List PyData} {n : String} {b : Bool} (h : TD K H v (.tuple ds)) (e : PySem.W.kitOne K (.type "tuple") (.type n) = some b) (q : Q (.bl b) H) : rIsi K [v, .ty n] H Q := i_isi h.ty e q
def isTup : PyData → Bool
  | .tuple _ => true
  | _ => false
theorem i_isiTup {K : PySem.W.Frag} {H : Hp} {Q : VK} {v : V} {d : PyData} (h : TD K H v d) (q : Q (.bl (isTup d)) H) : rIsi K [v, .ty "tuple"] H Q := by
  cases d with
  | none =>
    obtain rfl := h.non_inv
    exact i_isi (.base .non) rfl q
  | bool b =>
    obtain rfl := h.bl_inv
    exact i_isi (.base (.bl b)) rfl q
  | int i =>
    obtain rfl := h.int_inv
    exact i_isi (.base (.int i)) rfl q
  | str s =>
    obtain rfl := h.str_inv
    exact i_isi (.base (.str s)) rfl q
  | tuple ds => exact i_isiT h rfl q
  | list ds => cases h
  | dict kvs => cases h

/-! ### roads judged (for k27, k28) -/
def isID : PyData → Bool
  | .int _ => true
  | _ => false
def sp_is_int (K : PySem.W.Frag) : Sp := fun vs H Q _ => ∃ (v : V) (d : PyData), vs = [v] ∧ TD K H v d ∧ Q (.bl (isID d)) H
theorem ok_is_int {P : Program} {w : World} {K : PySem.W.Frag} {mg : Str → Option Value} {base : Heap} {f : Addr} {fd : FuncData} (F : Df K mg "is_int" s_is_int f fd ["thing"]) (T : Txt mg) : FnOk P w K mg base CX0 1 f fd ["thing"] (sp_is_int K) := by
  refine F.ok sc_is_int (fun vs H Q E h => ?_) (fun cdv A outer s H vs Q E hr h => ?_)
  · obtain ⟨v, d, rfl, _⟩ := h
    rfl
  · obtain ⟨v, d, rfl, hv, q⟩ := h
    refine ⟨_, (pss_one (ps_ret (pe_and (pe_callB (id := "isinstance") (r := rIsi K) call_isi (by rfl) T.b_isinstance (by decide +kernel) (pa_cons (pv 0) (pa_cons (pe_bltn (v := .ty "int") (u := Value.type "int") (by rfl) T.b_int (by decide +kernel) rfl) pa_nil))) (pe_one (pe_not (pe_callB (id := "isinstance") (r := rIsi K) call_isi (by rfl) T.b_isinstance (by decide +kernel) (pa_cons (pv 0) (pa_cons (pe_bltn (v := .ty "bool") (u := Value.type "bool") (by rfl) T.b_bool (by decide +kernel) rfl) pa_nil)))))))), ?_⟩
    try dsimp only [cxOf, Cx.nox, Cx.wish]
    refine st_of (σ' := [some _]) rfl ?_
    cases d with
    | none =>
      obtain rfl := hv.non_inv
      wtm_at "jw"
      refine i_isi (.base .non) rfl ?_
      wtm_at "jw"
      exact q
    | bool b =>
      obtain rfl := hv.bl_inv
      wtm_at "jw"
      refine i_isi (b := true) (.base (.bl b)) (kit_ty (by decide +kernel)) ?_
      wtm_at "jw"
      refine i_isi (b := true) (.base (.bl b)) rfl ?_
      wtm_at "jw"
      exact q
    | int i =>
      obtain rfl := hv.int_inv
      wtm_at "jw"
      refine i_isi (.base (.int i)) rfl ?_
      wtm_at "jw"
      refine i_isi (.base (.int i)) rfl ?_
      wtm_at "jw"
      exact q
    | str s =>
      obtain rfl := hv.str_inv
      wtm_at "jw"
      refine i_isi (.base (.str s)) rfl ?_
      wtm_at "jw"
      exact q
    | tuple ds =>
      wtm_at "jw"
      refine i_isiT hv rfl ?_
      wtm_at "jw"
      exact q
    | list ds => cases hv
    | dict kvs => cases hv
def rowB (n : Int) : PyData → Bool
  | .tuple ds => decide ((ds.length : Int) = n)
  | _ => false
def sp_is_row (K : PySem.W.Frag) : Sp := fun vs H Q _ => ∃ (v : V) (d : PyData) (n : Int), vs = [v, .int n] ∧ TD K H v d ∧ Q (.bl (rowB n d)) H
theorem ok_is_row {P : Program} {w : World} {K : PySem.W.Frag} {mg : Str → Option Value} {base : Heap} {f : Addr} {fd : FuncData} (F : Df K mg "is_row" s_is_row f fd ["thing", "many"]) (T : Txt mg) : FnOk P w K mg base CX0 1 f fd ["thing", "many"] (sp_is_row K) := by
  refine F.ok sc_is_row (fun vs H Q E h => ?_) (fun cdv A outer s H vs Q E hr h => ?_)
  · obtain ⟨v, d, n, rfl, _⟩ := h
    rfl
  · obtain ⟨v, d, n, rfl, hv, q⟩ := h
    refine ⟨_, (pss_one (ps_ret (pe_and (pe_callB (id := "isinstance") (r := rIsi K) call_isi (by rfl) T.b_isinstance (by decide +kernel) (pa_cons (pv 0) (pa_cons (pe_bltn (v := .ty "tuple") (u := Value.type "tuple") (by rfl) T.b_tuple (by decide +kernel) rfl) pa_nil))) (pe_one (pe_cmpR op_eq (pe_callB (id := "len") (r := qLen K) c_len (by rfl) T.b_len (by decide +kernel) (pa_cons (pv 0) pa_nil)) (pv 1) (nomark _)))))), ?_⟩
    try dsimp only [cxOf, Cx.nox, Cx.wish]
    refine st_of (σ' := [some _, some _]) rfl ?_
    wtm_at "jw"
    refine i_isiTup hv ?_
    wtm_at "jw"
    cases d with
    | tuple ds =>
      unfold isTup
      wtm_at "jw"
      exact q
    | _ =>
      unfold isTup
      wtm_at "jw"
      exact q
def isIs : PyData → Bool
  | .tuple ds => ds.all isID
  | _ => false
theorem all_take {α : Type} {f : α → Bool} {l : List α} {i : Nat} {x : α} (h : (l.take i).all f = true) (e : l.take (i + 1) = l.take i ++ [x]) (hx : f x = true) : (l.take (i + 1)).all f = true := by
  rw [e, List.all_append, h]; simp [hx]
theorem all_no {α : Type} {f : α → Bool} {l : List α} {i : Nat} {x : α} (e : l[i]? = some x) (hx : f x = false) : l.all f = false := by
  rw [List.all_eq_false]
  exact ⟨x, List.mem_of_getElem? e, by rw [hx]; exact Bool.false_ne_true⟩
def sp_is_ints (K : PySem.W.Frag) : Sp := fun vs H Q _ => ∃ (v : V) (d : PyData), vs = [v] ∧ TD K H v d ∧ Q (.bl (isIs d)) H
theorem ok_is_ints {P : Program} {w : World} {K : PySem.W.Frag} {mg : Str → Option Value} {base : Heap} {f : Addr} {fd : FuncData} (F : Df K mg "is_ints" s_is_ints f fd ["thing"]) (T : Txt mg)
    (c_is_int : Cl P w K mg base 1 "is_int" (sp_is_int K)) : FnOk P w K mg base CX0 2 f fd ["thing"] (sp_is_ints K) := by
  refine F.ok sc_is_ints (fun vs H Q E h => ?_) (fun cdv A outer s H vs Q E hr h => ?_)
  · obtain ⟨v, d, rfl, _⟩ := h
    rfl
  · obtain ⟨v, d, rfl, hv, q⟩ := h
    refine ⟨_, (pss_cons (ps_if (pt_not (pt_val (pe_callB (id := "isinstance") (r := rIsi K) call_isi (by rfl) T.b_isinstance (by decide +kernel) (pa_cons (pv 0) (pa_cons (pe_bltn (v := .ty "tuple") (u := Value.type "tuple") (by rfl) T.b_tuple (by decide +kernel) rfl) pa_nil))))) (pss_one (ps_ret pe_bl)) pss_nil)
      (pss_cons (ps_for PassesOwn.never rfl (pi_tup (pv 0)) (pg_name (i := 1) sc_is_ints.nd rfl (Or.inl rfl)) (pss_one (ps_if (pt_not (pt_val (pe_cl c_is_int hr (by decide) rfl (pa_cons (pv 1) pa_nil)))) (pss_one (ps_ret pe_bl)) pss_nil)))
      (pss_one (ps_ret pe_bl)))), ?_⟩
    try dsimp only [cxOf, Cx.nox, Cx.wish]
    refine st_of (σ' := [some _, none]) rfl ?_
    wtm_at "jw"
    refine i_isiTup hv ?_
    cases d with
    | tuple ds =>
      obtain ⟨a, xs, rfl, hS, hT⟩ := hv.tup_inv
      unfold isTup
      wtm_at "jw"
      refine f_tup (xs := xs) (fun i σ H' => H' = H ∧ (ds.take i).all isID = true ∧ ∃ v1, σ = [some (.ref a), v1]) ⟨rfl, rfl, none, rfl⟩ (fun i σ H' _ h => by rw [h.1]; exact hS) (fun i x σ H' hi h => ?_) (fun σ H' h => ?_)
      · obtain ⟨rfl, hal, v1, rfl⟩ := h
        obtain ⟨d, hd, hx, e, _⟩ := hT.at hi
        wtm_at "jw"
        refine ⟨x, d, rfl, hx, ?_⟩
        wtm_at "jw"
        cases hid : isID d with
        | true =>
          wtm_at "jw"
          exact ⟨rfl, all_take hal e hid, _, rfl⟩
        | false =>
          wtm_at "jw"
          have : isIs (.tuple ds) = false := all_no hd hid
          rw [this] at q
          exact q
      · obtain ⟨rfl, hal, v1, rfl⟩ := h
        rw [hT.len, List.take_length] at hal
        wtm_at "jw"
        rw [show isIs (.tuple ds) = true from hal] at q
        exact q
    | _ =>
      unfold isTup
      wtm_at "jw"
      exact q
def okI (lo hi : Int) : PyData → Bool
  | .int z => decide (lo ≤ z) && decide (z ≤ hi)
  | _ => false
def okD (lo hi : Int) : PyData → Bool
  | .tuple ds => ds.all (okI lo hi)
  | _ => false
theorem ok_ints {lo hi : Int} {d : PyData} (h : okI lo hi d = true) : isID d = true := by
  cases d <;> first | rfl | cases h
theorem okD_isIs {lo hi : Int} {d : PyData} (h : isIs d = false) : okD lo hi d = false := by
  cases d with
  | tuple ds =>
    unfold isIs at h
    simp only at h
    rw [List.all_eq_false] at h
    obtain ⟨x, hx, hn⟩ := h
    show ds.all (okI lo hi) = false
    rw [List.all_eq_false]
    exact ⟨x, hx, fun z => hn (ok_ints z)⟩
  | _ => rfl
def sp_is_ints_between (K : PySem.W.Frag) : Sp := fun vs H Q _ => ∃ (v : V) (d : PyData) (lo hi : Int), vs = [v, .int lo, .int hi] ∧ TD K H v d ∧ Q (.bl (okD lo hi d)) H
theorem ok_is_ints_between {P : Program} {w : World} {K : PySem.W.Frag} {mg : Str → Option Value} {base : Heap} {f : Addr} {fd : FuncData} (F : Df K mg "is_ints_between" s_is_ints_between f fd ["thing", "low", "high"]) (T : Txt mg)
    (c_is_ints : Cl P w K mg base 2 "is_ints" (sp_is_ints K)) : FnOk P w K mg base CX0 3 f fd ["thing", "low", "high"] (sp_is_ints_between K) := by
  refine F.ok sc_is_ints_between (fun vs H Q E h => ?_) (fun cdv A outer s H vs Q E hr h => ?_)
  · obtain ⟨v, d, lo, hi, rfl, _⟩ := h
    rfl
  · obtain ⟨v, d, lo, hi, rfl, hv, q⟩ := h
    refine ⟨_, (pss_cons (ps_if (pt_not (pt_val (pe_cl c_is_ints hr (by decide) rfl (pa_cons (pv 0) pa_nil)))) (pss_one (ps_ret pe_bl)) pss_nil)
      (pss_cons (ps_for PassesOwn.never rfl (pi_tup (pv 0)) (pg_name (i := 3) sc_is_ints_between.nd rfl (Or.inl rfl)) (pss_one (ps_if (pt_not (pt_chain op_le op_le (pv 1) (pv 3) (pv 2))) (pss_one (ps_ret pe_bl)) pss_nil)))
      (pss_one (ps_ret pe_bl)))), ?_⟩
    try dsimp only [cxOf, Cx.nox, Cx.wish]
    refine st_of (σ' := [some _, some _, some _, none]) rfl ?_
    wtm_at "jw"
    refine ⟨v, d, rfl, hv, ?_⟩
    wtm_at "jw"
    cases hid : isIs d with
    | false =>
      wtm_at "jw"
      rw [okD_isIs hid] at q
      exact q
    | true =>
      wtm_at "jw"
      cases d with
      | tuple ds =>
        obtain ⟨a, xs, rfl, hS, hT⟩ := hv.tup_inv
        have hid' : ds.all isID = true := hid
        rw [List.all_eq_true] at hid'
        wtm_at "jw"
        refine f_tup (xs := xs) (fun i σ H' => H' = H ∧ (ds.take i).all (okI lo hi) = true ∧ ∃ v1, σ = [some (.ref a), some (.int lo), some (.int hi), v1]) ⟨rfl, rfl, none, rfl⟩ (fun i σ H' _ h => by rw [h.1]; exact hS) (fun i x σ H' hi' h => ?_) (fun σ H' h => ?_)
        · obtain ⟨rfl, hal, v1, rfl⟩ := h
          obtain ⟨d, hd, hx, e, _⟩ := hT.at hi'
          have hdi := hid' d (List.mem_of_getElem? hd)
          cases d with
          | int z =>
            obtain rfl := hx.int_inv
            wtm_at "jw"
            refine c_dec (fun h1 => ?_) (fun h1 => ?_)
            · wtm_at "jw"
              refine c_decN (fun h2 => ?_) (fun h2 => ?_)
              · wtm_at "jw"
                have : okD lo hi (.tuple ds) = false := all_no hd (by simp [okI, h2])
                rw [this] at q
                exact q
              · wtm_at "jw"
                exact ⟨rfl, all_take hal e (by simp [okI, h1, h2]), _, rfl⟩
            · wtm_at "jw"
              have : okD lo hi (.tuple ds) = false := all_no hd (by simp [okI, h1])
              rw [this] at q
              exact q
          | _ => cases hdi
        · obtain ⟨rfl, hal, v1, rfl⟩ := h
          rw [hT.len, List.take_length] at hal
          wtm_at "jw"
          rw [show okD lo hi (.tuple ds) = true from hal] at q
          exact q
      | _ => cases hid
/-- the ints of a row -/
def iD (ds : List PyData) (i : Nat) : Int := match ds[i]? with
  | some (.int z) => z
  | _ => 0
def fateB (dl : Int) : PyData → Bool
  | .tuple ds => ds.all (okI 0 dl) && (decide (ds.length ≤ 2) && (decide (ds.length < 2) || decide (iD ds 0 ≤ iD ds 1)))
  | _ => false
theorem fateB_t (dl : Int) (ds : List PyData) : fateB dl (.tuple ds) = (ds.all (okI 0 dl) && (decide (ds.length ≤ 2) && (decide (ds.length < 2) || decide (iD ds 0 ≤ iD ds 1)))) := rfl
theorem len_two {α : Type} : ∀ {l : List α}, l.length ≤ 2 → ¬ l.length < 2 → ∃ x y, l = [x, y]
  | [], _, h => absurd (by simp) h
  | [_], _, h => absurd (by simp) h
  | [x, y], _, _ => ⟨x, y, rfl⟩
  | _ :: _ :: _ :: _, h, _ => by simp at h
def sp_is_fate (K : PySem.W.Frag) : Sp := fun vs H Q _ => ∃ (v : V) (d : PyData) (dl : Int), vs = [v, .int dl] ∧ TD K H v d ∧ Q (.bl (fateB dl d)) H
theorem ok_is_fate {P : Program} {w : World} {K : PySem.W.Frag} {mg : Str → Option Value} {base : Heap} {f : Addr} {fd : FuncData} (F : Df K mg "is_fate" s_is_fate f fd ["thing", "d"]) (T : Txt mg)
    (c_is_ints_between : Cl P w K mg base 3 "is_ints_between" (sp_is_ints_between K)) : FnOk P w K mg base CX0 4 f fd ["thing", "d"] (sp_is_fate K) := by
  refine F.ok sc_is_fate (fun vs H Q E h => ?_) (fun cdv A outer s H vs Q E hr h => ?_)
  · obtain ⟨v, d, dl, rfl, _⟩ := h
    rfl
  · obtain ⟨v, d, dl, rfl, hv, q⟩ := h
    refine ⟨_, (pss_cons (ps_if (PW.pt (pw_or (pt_not (pt_val (pe_cl c_is_ints_between hr (by decide) rfl (pa_cons (pv 0) (pa_cons pe_int (pa_cons (pv 1) pa_nil)))))) (pw_or1 (pt_cmpR op_gt (pe_callB (id := "len") (r := qLen K) c_len (by rfl) T.b_len (by decide +kernel) (pa_cons (pv 0) pa_nil)) (pe_cn rfl T.c_MOST_COPIES) (nomark _))))) (pss_one (ps_ret pe_bl)) pss_nil)
      (pss_one (ps_ret (pe_or (pe_cmpR op_lt (pe_callB (id := "len") (r := qLen K) c_len (by rfl) T.b_len (by decide +kernel) (pa_cons (pv 0) pa_nil)) pe_int (nomark _)) (pe_one (pe_cmpR op_le (pe_ix (r := rIxT K) ix_tup (pv 0) pe_int (fun _ _ => rfl)) (pe_ix (r := rIxT K) ix_tup (pv 0) pe_int (fun _ _ => rfl)) (nomark _))))))), ?_⟩
    try dsimp only [cxOf, Cx.nox, Cx.wish]
    refine st_of (σ' := [some _, some _]) rfl ?_
    wtm_at "jw"
    refine ⟨v, d, 0, dl, rfl, hv, ?_⟩
    wtm_at "jw"
    cases hok : okD 0 dl d with
    | false =>
      wtm_at "jw"
      have : fateB dl d = false := by
        cases d with
        | tuple ds => rw [fateB_t, show ds.all (okI 0 dl) = false from hok]; rfl
        | _ => rfl
      rw [this] at q
      exact q
    | true =>
      cases d with
      | tuple ds =>
        have e1 : ds.all (okI 0 dl) = true := hok
        rw [fateB_t, e1, Bool.true_and] at q
        wtm_at "jw"
        refine c_dec (fun h => ?_) (fun h => ?_)
        · have hn : ¬ ds.length ≤ 2 := by omega
          rw [decide_eq_false hn, Bool.false_and] at q
          wtm_at "jw"
          exact q
        · have hn : ds.length ≤ 2 := by omega
          rw [decide_eq_true hn, Bool.true_and] at q
          wtm_at "jw"
          refine c_dec (fun h2 => ?_) (fun h2 => ?_)
          · have hn2 : ds.length < 2 := by omega
            rw [decide_eq_true hn2, Bool.true_or] at q
            exact q
          · have hn2 : ¬ ds.length < 2 := by omega
            rw [decide_eq_false hn2, Bool.false_or] at q
            obtain ⟨x, y, rfl⟩ := len_two hn hn2
            rw [List.all_eq_true] at e1
            have hx := e1 x (by simp)
            have hy := e1 y (by simp)
            cases x with
            | int i =>
              cases y with
              | int j =>
                wtm_at "jw"
                exact q
              | _ => cases hy
            | _ => cases hx
      | _ => cases hok
def emT : PyData → Bool
  | .tuple [] => true
  | _ => false
def kstep (l : Int) (st : Option Int) (f : PyData) : Option Int := match st with
  | none => none
  | some lost => if emT f then (if lost + 1 > l then none else some (lost + 1)) else some 0
theorem kstep_s (l lost : Int) (d : PyData) : kstep l (some lost) d = if emT d = true then (if lost + 1 > l then none else some (lost + 1)) else some 0 := rfl
def keepB (l : Int) (ds : List PyData) : Bool := (ds.foldl (kstep l) (some 0)).isSome
theorem kst_none {l : Int} : ∀ ds : List PyData, ds.foldl (kstep l) none = none
  | [] => rfl
  | d :: ds => by rw [List.foldl_cons]; exact kst_none ds
theorem keep_no {l : Int} {ds : List PyData} {i : Nat} (h : (ds.take i).foldl (kstep l) (some 0) = none) : keepB l ds = false := by
  unfold keepB
  rw [← List.take_append_drop i ds, List.foldl_append, h, kst_none]
  rfl
def sp_keeps_bounds (K : PySem.W.Frag) : Sp := fun vs H Q _ => ∃ (v : V) (ds : List PyData) (l : Int), vs = [v, .int l] ∧ TD K H v (.tuple ds) ∧ (∀ d ∈ ds, isTup d = true) ∧ Q (.bl (keepB l ds)) H
theorem ok_keeps_bounds {P : Program} {w : World} {K : PySem.W.Frag} {mg : Str → Option Value} {base : Heap} {f : Addr} {fd : FuncData} (F : Df K mg "keeps_bounds" s_keeps_bounds f fd ["fates", "l"]) (T : Txt mg) : FnOk P w K mg base CX0 1 f fd ["fates", "l"] (sp_keeps_bounds K) := by
  refine F.ok sc_keeps_bounds (fun vs H Q E h => ?_) (fun cdv A outer s H vs Q E hr h => ?_)
  · obtain ⟨v, ds, l, rfl, _⟩ := h
    rfl
  · obtain ⟨v, ds, l, rfl, hv, ht, q⟩ := h
    obtain ⟨a, xs, rfl, hS, hT⟩ := hv.tup_inv
    refine ⟨_, (pss_cons (ps_set (i := 2) sc_keeps_bounds.nd rfl (Or.inl rfl) pe_int)
      (pss_cons (ps_for PassesOwn.never rfl (pi_tup (pv 0)) (pg_name (i := 3) sc_keeps_bounds.nd rfl (Or.inl rfl)) (pss_one (ps_if (pt_cmpR op_eq (pe_callB (id := "len") (r := qLen K) c_len (by rfl) T.b_len (by decide +kernel) (pa_cons (pv 3) pa_nil)) pe_int (nomark _)) (pss_cons (ps_aug (i := 2) sc_keeps_bounds.nd rfl (Or.inl rfl) pe_int iop_add)
      (pss_one (ps_if (pt_cmpR op_gt (pv 2) (pv 1) (nomark _)) (pss_one (ps_ret pe_bl)) pss_nil))) (pss_one (ps_set (i := 2) sc_keeps_bounds.nd rfl (Or.inl rfl) pe_int)))))
      (pss_one (ps_ret pe_bl)))), ?_⟩
    try dsimp only [cxOf, Cx.nox, Cx.wish]
    refine st_of (σ' := [some _, some _, none, none]) rfl ?_
    wtm_at "jw"
    refine f_tup (xs := xs) (fun i σ H' => H' = H ∧ ∃ (lost : Int) (v3 : Option V), (ds.take i).foldl (kstep l) (some 0) = some lost ∧ σ = [some (.ref a), some (.int l), some (.int lost), v3]) ⟨rfl, 0, none, rfl, rfl⟩ (fun i σ H' _ h => by rw [h.1]; exact hS) (fun i x σ H' hi h => ?_) (fun σ H' h => ?_)
    · obtain ⟨rfl, lost, v3, hf, rfl⟩ := h
      obtain ⟨d, hd, hx, e, _⟩ := hT.at hi
      have hdt := ht d (List.mem_of_getElem? hd)
      have e1 : (ds.take (i + 1)).foldl (kstep l) (some 0) = kstep l (some lost) d := by rw [e, List.foldl_append, hf]; rfl
      cases d with
      | tuple fs =>
        wtm_at "jw"
        refine c_dec (fun h => ?_) (fun h => ?_)
        · have hfs : fs = [] := List.length_eq_zero_iff.mp (by omega)
          subst hfs
          wtm_at "jw"
          refine c_dec (fun h2 => ?_) (fun h2 => ?_)
          · wtm_at "jw"
            have e2 : keepB l ds = false := keep_no (i := i + 1) (by rw [e1, kstep_s, if_pos (by rfl), if_pos h2])
            rw [e2] at q
            exact q
          · wtm_at "jw"
            exact ⟨rfl, lost + 1, _, by rw [e1, kstep_s, if_pos (by rfl), if_neg h2], rfl⟩
        · wtm_at "jw"
          refine ⟨rfl, 0, _, ?_, rfl⟩
          rw [e1, kstep_s, if_neg]
          cases fs with
          | nil => exact absurd rfl h
          | cons y ys => exact Bool.false_ne_true
      | _ => cases hdt
    · obtain ⟨rfl, lost, v3, hf, rfl⟩ := h
      rw [hT.len, List.take_length] at hf
      wtm_at "jw"
      have e2 : keepB l ds = true := by unfold keepB; rw [hf]; rfl
      rw [e2] at q
      exact q
def fatesB (fr dl l : Int) : PyData → Bool
  | .tuple ds => decide ((ds.length : Int) = fr) && (ds.all (fateB dl) && keepB l ds)
  | _ => false
theorem fatesB_t (fr dl l : Int) (ds : List PyData) : fatesB fr dl l (.tuple ds) = (decide ((ds.length : Int) = fr) && (ds.all (fateB dl) && keepB l ds)) := rfl
theorem fate_tup {dl : Int} {d : PyData} (h : fateB dl d = true) : isTup d = true := by
  cases d <;> first | rfl | cases h
def sp_is_fates (K : PySem.W.Frag) : Sp := fun vs H Q _ => ∃ (v : V) (d : PyData) (fr dl l : Int), vs = [v, .int fr, .int dl, .int l] ∧ TD K H v d ∧ Q (.bl (fatesB fr dl l d)) H
theorem ok_is_fates {P : Program} {w : World} {K : PySem.W.Frag} {mg : Str → Option Value} {base : Heap} {f : Addr} {fd : FuncData} (F : Df K mg "is_fates" s_is_fates f fd ["thing", "frames", "d", "l"]) (T : Txt mg)
    (c_keeps_bounds : Cl P w K mg base 1 "keeps_bounds" (sp_keeps_bounds K))
    (c_is_row : Cl P w K mg base 1 "is_row" (sp_is_row K))
    (c_is_fate : Cl P w K mg base 4 "is_fate" (sp_is_fate K)) : FnOk P w K mg base CX0 5 f fd ["thing", "frames", "d", "l"] (sp_is_fates K) := by
  refine F.ok sc_is_fates (fun vs H Q E h => ?_) (fun cdv A outer s H vs Q E hr h => ?_)
  · obtain ⟨v, d, fr, dl, l, rfl, _⟩ := h
    rfl
  · obtain ⟨v, d, fr, dl, l, rfl, hv, q⟩ := h
    refine ⟨_, (pss_cons (ps_if (pt_not (pt_val (pe_cl c_is_row hr (by decide) rfl (pa_cons (pv 0) (pa_cons (pv 1) pa_nil))))) (pss_one (ps_ret pe_bl)) pss_nil)
      (pss_cons (ps_for PassesOwn.never rfl (pi_tup (pv 0)) (pg_name (i := 4) sc_is_fates.nd rfl (Or.inl rfl)) (pss_one (ps_if (pt_not (pt_val (pe_cl c_is_fate hr (by decide) rfl (pa_cons (pv 4) (pa_cons (pv 2) pa_nil))))) (pss_one (ps_ret pe_bl)) pss_nil)))
      (pss_one (ps_ret (pe_cl c_keeps_bounds hr (by decide) rfl (pa_cons (pv 0) (pa_cons (pv 3) pa_nil))))))), ?_⟩
    try dsimp only [cxOf, Cx.nox, Cx.wish]
    refine st_of (σ' := [some _, some _, some _, some _, none]) rfl ?_
    wtm_at "jw"
    refine ⟨v, d, fr, rfl, hv, ?_⟩
    wtm_at "jw"
    cases hrow : rowB fr d with
    | false =>
      wtm_at "jw"
      have : fatesB fr dl l d = false := by
        cases d with
        | tuple ds => rw [fatesB_t, show decide ((ds.length : Int) = fr) = false from hrow]; rfl
        | _ => rfl
      rw [this] at q
      exact q
    | true =>
      cases d with
      | tuple ds =>
        have e1 : decide ((ds.length : Int) = fr) = true := hrow
        rw [fatesB_t, e1, Bool.true_and] at q
        obtain ⟨a, xs, rfl, hS, hT⟩ := hv.tup_inv
        wtm_at "jw"
        refine f_tup (xs := xs) (fun i σ H' => H' = H ∧ (ds.take i).all (fateB dl) = true ∧ ∃ v4, σ = [some (.ref a), some (.int fr), some (.int dl), some (.int l), v4]) ⟨rfl, rfl, none, rfl⟩ (fun i σ H' _ h => by rw [h.1]; exact hS) (fun i x σ H' hi' h => ?_) (fun σ H' h => ?_)
        · obtain ⟨rfl, hal, v4, rfl⟩ := h
          obtain ⟨d, hd, hx, e, _⟩ := hT.at hi'
          wtm_at "jw"
          refine ⟨x, d, dl, rfl, hx, ?_⟩
          wtm_at "jw"
          cases hid : fateB dl d with
          | true =>
            wtm_at "jw"
            exact ⟨rfl, all_take hal e hid, _, rfl⟩
          | false =>
            wtm_at "jw"
            rw [all_no hd hid, Bool.false_and] at q
            exact q
        · obtain ⟨rfl, hal, v4, rfl⟩ := h
          rw [hT.len, List.take_length] at hal
          rw [hal, Bool.true_and] at q
          rw [List.all_eq_true] at hal
          wtm_at "jw"
          refine ⟨_, ds, l, rfl, hv, fun d hd => fate_tup (hal d hd), ?_⟩
          wtm_at "jw"
          exact q
      | _ => cases hrow
def gD (ds : List PyData) (i : Nat) : PyData := ds[i]?.getD .none
def cellB (fr dl l : Int) (s r : Nat) (x : PyData) : Bool := if r = s then PyData.eqv x (.tuple []) else fatesB fr dl l x
def rowsB (R : Nat) (fr dl l : Int) (s : Nat) : PyData → Bool
  | .tuple ds => decide ((ds.length : Int) = (R : Int)) && (List.range R).all fun r => cellB fr dl l s r (gD ds r)
  | _ => false
def roadB (S R : Nat) (fr dl l : Int) : PyData → Bool
  | .tuple ds => decide ((ds.length : Int) = (S : Int)) && (List.range S).all fun s => rowsB R fr dl l s (gD ds s)
  | _ => false
theorem rowsB_t (R : Nat) (fr dl l : Int) (s : Nat) (ds : List PyData) : rowsB R fr dl l s (.tuple ds) = (decide ((ds.length : Int) = (R : Int)) && (List.range R).all fun r => cellB fr dl l s r (gD ds r)) := rfl
theorem roadB_t (S R : Nat) (fr dl l : Int) (ds : List PyData) : roadB S R fr dl l (.tuple ds) = (decide ((ds.length : Int) = (S : Int)) && (List.range S).all fun s => rowsB R fr dl l s (gD ds s)) := rfl
theorem rng_all {n i : Nat} {f : Nat → Bool} (h : (List.range i).all f = true) (hf : f i = true) : (List.range (i + 1)).all f = true := by
  rw [List.range_succ, List.all_append, h]; simp [hf]
theorem rng_no {n i : Nat} {f : Nat → Bool} (h : i < n) (hf : f i = false) : (List.range n).all f = false := by
  rw [List.all_eq_false]
  exact ⟨i, List.mem_range.mpr h, by rw [hf]; exact Bool.false_ne_true⟩
theorem gD_at {ds : List PyData} {i : Nat} (h : i < ds.length) : ds[i]? = some (gD ds i) := by
  unfold gD
  rw [List.getElem?_eq_getElem h]
  rfl
theorem Shp.item {n : Nat} {ds : List PyData} {d : PyData} (h : Shp (n + 1) (.tuple ds)) (hd : d ∈ ds) : Shp n d := by
  obtain ⟨h1, h2⟩ := h
  rw [PyData.canLay0] at h1
  rw [PyData.depth] at h2
  have h2' : PyData.depthAll ds ≤ n := by omega
  clear h2
  induction ds with
  | nil => cases hd
  | cons x r ih =>
    rw [PyData.canLayAll0, Bool.and_eq_true] at h1
    rw [PyData.depthAll] at h2'
    rcases List.mem_cons.mp hd with rfl | hd
    · exact ⟨h1.1, Nat.le_trans (Nat.le_max_left _ _) h2'⟩
    · exact ih hd h1.2 (Nat.le_trans (Nat.le_max_right _ _) h2')
def sp_is_road (K : PySem.W.Frag) : Sp := fun vs H Q _ => ∃ (v : V) (d : PyData) (S R : Nat) (fr dl l : Int), vs = [v, .int (S : Int), .int (R : Int), .int fr, .int dl, .int l] ∧ TD K H v d ∧ Shp 20 d ∧ S < 1000 ∧ R < 1000 ∧ ∀ H', Same H H' → Q (.bl (roadB S R fr dl l d)) H'
theorem ok_is_road {P : Program} {w : World} {K : PySem.W.Frag} {mg : Str → Option Value} {base : Heap} {f : Addr} {fd : FuncData} (F : Df K mg "is_road" s_is_road f fd ["road", "seats", "receivers", "frames", "d", "l"]) (T : Txt mg)
    (c_is_row : Cl P w K mg base 1 "is_row" (sp_is_row K))
    (c_is_fates : Cl P w K mg base 5 "is_fates" (sp_is_fates K)) : FnOk P w K mg base CX0 6 f fd ["road", "seats", "receivers", "frames", "d", "l"] (sp_is_road K) := by
  refine F.ok sc_is_road (fun vs H Q E h => ?_) (fun cdv A outer s H vs Q E hr h => ?_)
  · obtain ⟨v, d, S, R, fr, dl, l, rfl, _⟩ := h
    rfl
  · obtain ⟨v, d, S, R, fr, dl, l, rfl, hv, shp, hS1, hR1, q⟩ := h
    refine ⟨_, (pss_cons (ps_if (pt_not (pt_val (pe_cl c_is_row hr (by decide) rfl (pa_cons (pv 0) (pa_cons (pv 1) pa_nil))))) (pss_one (ps_ret pe_bl)) pss_nil)
      (pss_cons (ps_for PassesOwn.never rfl (pi_range1 rfl T.b_range (pa_cons (pv 1) pa_nil)) (pg_name (i := 6) sc_is_road.nd rfl (Or.inl rfl)) (pss_cons (ps_if (pt_not (pt_val (pe_cl c_is_row hr (by decide) rfl (pa_cons (pe_ix (r := rIxT K) ix_tup (pv 0) (pv 6) (fun _ _ => rfl)) (pa_cons (pv 2) pa_nil))))) (pss_one (ps_ret pe_bl)) pss_nil)
      (pss_one (ps_for PassesOwn.never rfl (pi_range1 rfl T.b_range (pa_cons (pv 2) pa_nil)) (pg_name (i := 7) sc_is_road.nd rfl (Or.inl rfl)) (pss_cons (ps_set (i := 8) sc_is_road.nd rfl (Or.inl rfl) (pe_ix (r := rIxT K) ix_tup (pe_ix (r := rIxT K) ix_tup (pv 0) (pv 6) (fun _ _ => rfl)) (pv 7) (fun _ _ => rfl)))
      (pss_one (ps_if (pt_cmpR op_eq (pv 7) (pv 6) (nomark _)) (pss_one (ps_if (pt_cmpR (r := rNeD K) (op_neD hr.units) (pv 8) (pe_tup pa_nil) (nomark _)) (pss_one (ps_ret pe_bl)) pss_nil)) (pss_one (ps_if (pt_not (pt_val (pe_cl c_is_fates hr (by decide) rfl (pa_cons (pv 8) (pa_cons (pv 3) (pa_cons (pv 4) (pa_cons (pv 5) pa_nil))))))) (pss_one (ps_ret pe_bl)) pss_nil)))))))))
      (pss_one (ps_ret pe_bl)))), ?_⟩
    try dsimp only [cxOf, Cx.nox, Cx.wish]
    refine st_of (σ' := [some _, some _, some _, some _, some _, some _, none, none, none]) rfl ?_
    wtm_at "jw"
    refine ⟨v, d, (S : Int), rfl, hv, ?_⟩
    wtm_at "jw"
    cases hrow : rowB (S : Int) d with
    | false =>
      wtm_at "jw"
      have : roadB S R fr dl l d = false := by
        cases d with
        | tuple ds => rw [roadB_t, show decide ((ds.length : Int) = (S : Int)) = false from hrow]; rfl
        | _ => rfl
      rw [this] at q
      exact q _ (Same.refl H)
    | true =>
      cases d with
      | tuple ds =>
        have e1 : decide ((ds.length : Int) = (S : Int)) = true := hrow
        have e1' := of_decide_eq_true e1
        rw [roadB_t, e1, Bool.true_and] at q
        wtm_at "jw"
        refine f_range (fun i σ H' => Same H H' ∧ ((List.range i).all fun s => rowsB R fr dl l s (gD ds s)) = true ∧ ∃ (v6 v7 v8 : Option V), σ = [some v, some (.int (S : Int)), some (.int (R : Int)), some (.int fr), some (.int dl), some (.int l), v6, v7, v8])
          ⟨Same.refl H, rfl, none, none, none, rfl⟩ (fun i σ H' hi h => ?_) (fun σ H' h => ?_)
        · obtain ⟨s1, hal, v6, v7, v8, rfl⟩ := h
          rw [Int.zero_add]
          have hi' : i < S := by simpa using hi
          have ei : ds[((i : Nat) : Int).toNat]? = some (gD ds i) := by rw [Int.toNat_natCast]; exact gD_at (by omega)
          have i0 : (0 : Int) ≤ (i : Int) := by omega
          have hv1 := hv.same s1
          have shr : Shp 19 (gD ds i) := Shp.item shp (List.mem_of_getElem? (gD_at (by omega)))
          wtm_at "jw"
          rename_i y hy
          refine ⟨y, gD ds i, (R : Int), rfl, hy, ?_⟩
          wtm_at "jw"
          cases hrow2 : rowB (R : Int) (gD ds i) with
          | false =>
            wtm_at "jw"
            have e2 : rowsB R fr dl l i (gD ds i) = false := by
              cases hg : gD ds i with
              | tuple cs => rw [hg] at hrow2; rw [rowsB_t, show decide ((cs.length : Int) = (R : Int)) = false from hrow2]; rfl
              | _ => rfl
            rw [rng_no hi' e2] at q
            exact q _ s1
          | true =>
            generalize hg : gD ds i = g at ei hy shr hrow2
            cases g with
            | tuple cs =>
              have e3 : decide ((cs.length : Int) = (R : Int)) = true := hrow2
              have e3' := of_decide_eq_true e3
              have e4 : rowsB R fr dl l i (gD ds i) = (List.range R).all fun r => cellB fr dl l i r (gD cs r) := by
                rw [hg, rowsB_t, e3, Bool.true_and]
              wtm_at "jw"
              refine f_range (fun j σ H' => Same H H' ∧ ((List.range j).all fun r => cellB fr dl l i r (gD cs r)) = true ∧ ∃ (v7 v8 : Option V), σ = [some v, some (.int (S : Int)), some (.int (R : Int)), some (.int fr), some (.int dl), some (.int l), some (.int (i : Int)), v7, v8])
                ⟨s1, rfl, v7, v8, rfl⟩ (fun j σ H' hj h => ?_) (fun σ H' h => ?_)
              · obtain ⟨s2, hal2, v7, v8, rfl⟩ := h
                rw [Int.zero_add]
                have hj' : j < R := by simpa using hj
                have hv2 := hv.same s2
                have ej : cs[((j : Nat) : Int).toNat]? = some (gD cs j) := by rw [Int.toNat_natCast]; exact gD_at (by omega)
                have j0 : (0 : Int) ≤ (j : Int) := by omega
                have shc : Shp 18 (gD cs j) := Shp.item shr (List.mem_of_getElem? (gD_at (by omega)))
                wtm_at "js"
                rename_i y2 hy2 c hc
                refine i_ifS ?_
                wtm_at "js"
                refine c_dec (fun h => ?_) (fun h => ?_)
                · have h' : j = i := by omega
                  have e5 : cellB fr dl l i j (gD cs j) = PyData.eqv (gD cs j) (.tuple []) := by unfold cellB; rw [if_pos h']
                  wtm_at "jw"
                  intro T hT
                  have s3 := same_new (o := .tup []) hT
                  refine i_neD (hc.same s3).dp (TD.new (K := K) (xs := []) (ds := []) hT .nil).dp shc (Shp.tup (n := 0) (ds := []) fun _ h => by cases h) (by decide) (by decide) ?_
                  wtm_at "jw"
                  cases e6 : PyData.eqv (gD cs j) (.tuple []) with
                  | false =>
                    wtm_at "jw"
                    rw [e6] at e5
                    rw [rng_no hj' e5] at e4
                    rw [rng_no hi' e4] at q
                    exact q _ (s2.trans s3)
                  | true =>
                    wtm_at "jw"
                    rw [e6] at e5
                    exact ⟨s2.trans s3, rng_all (n := R) hal2 e5, _, _, rfl⟩
                · have h' : ¬ j = i := by omega
                  have e5 : cellB fr dl l i j (gD cs j) = fatesB fr dl l (gD cs j) := by unfold cellB; rw [if_neg h']
                  wtm_at "jw"
                  refine ⟨c, _, fr, dl, l, rfl, hc, ?_⟩
                  wtm_at "jw"
                  cases e6 : fatesB fr dl l (gD cs j) with
                  | false =>
                    wtm_at "jw"
                    rw [e6] at e5
                    rw [rng_no hj' e5] at e4
                    rw [rng_no hi' e4] at q
                    exact q _ s2
                  | true =>
                    wtm_at "jw"
                    rw [e6] at e5
                    exact ⟨s2, rng_all (n := R) hal2 e5, _, _, rfl⟩
              · obtain ⟨s2, hal2, v7, v8, rfl⟩ := h
                rw [show ((R : Nat) : Int).toNat = R from Int.toNat_natCast R] at hal2
                rw [hal2] at e4
                exact ⟨s2, rng_all (n := S) hal e4, _, _, _, rfl⟩
            | _ => cases hrow2
        · obtain ⟨s1, hal, v6, v7, v8, rfl⟩ := h
          rw [show ((S : Nat) : Int).toNat = S from Int.toNat_natCast S] at hal
          rw [hal] at q
          wtm_at "jw"
          exact q _ s1
      | _ => cases hrow

/-! ### roads, plainly (for k27, k28, k29) -/
def fD (f : List Int) : PyData := .tuple (f.map PyData.int)
def fsD (F : List (List Int)) : PyData := .tuple (F.map fD)
theorem em_fD (f : List Int) : emT (fD f) = f.isEmpty := by cases f <;> rfl
def rowC (R s : Nat) (c : PyData) : PyData := .tuple ((List.range R).map fun r => if r = s then .tuple [] else c)
def roadC (S R : Nat) (c : PyData) : PyData := .tuple ((List.range S).map fun s => rowC R s c)
def CellP (P : PyData → Prop) (s r : Nat) (c : PyData) : Prop := (r = s → c = .tuple []) ∧ (r ≠ s → P c)
def RowP (R : Nat) (P : PyData → Prop) (s : Nat) (row : PyData) : Prop := ∃ cells, row = .tuple cells ∧ cells.length = R ∧ AllI (CellP P s) cells
def RoadP (S R : Nat) (P : PyData → Prop) (d : PyData) : Prop := ∃ rows, d = .tuple rows ∧ rows.length = S ∧ AllI (RowP R P) rows
theorem roadC_P (S R : Nat) (c : PyData) : RoadP S R (· = c) (roadC S R c) := by
  refine ⟨_, rfl, by simp, fun s row hr => ?_⟩
  rw [List.getElem?_map] at hr
  cases e : (List.range S)[s]? with
  | none => rw [e] at hr; cases hr
  | some s' =>
    obtain ⟨h1, h2⟩ := List.getElem?_eq_some_iff.mp e
    rw [List.getElem_range] at h2
    subst h2
    rw [e] at hr
    cases hr
    refine ⟨_, rfl, by simp, fun r c' hc => ?_⟩
    rw [List.getElem?_map] at hc
    cases e2 : (List.range R)[r]? with
    | none => rw [e2] at hc; cases hc
    | some r' =>
      obtain ⟨h3, h4⟩ := List.getElem?_eq_some_iff.mp e2
      rw [List.getElem_range] at h4
      subst h4
      rw [e2] at hc
      cases hc
      exact ⟨fun h => if_pos h, fun h => if_neg h⟩
theorem eqv_nil : PyData.eqv (.tuple []) (.tuple []) = true := by simp [PyData.eqv, PyData.eqvAll]
theorem roadP_B {S R : Nat} {fr dl l : Int} {P : PyData → Prop} {d : PyData} {b : Bool} (h : RoadP S R P d) (hb : ∀ c, P c → fatesB fr dl l c = b) (h1 : 1 ≤ S) (h2 : S ≤ R) : roadB S R fr dl l d = (b || decide (R = 1)) := by
  obtain ⟨rows, rfl, hl, hr⟩ := h
  unfold roadB
  simp only
  rw [decide_eq_true (show (rows.length : Int) = (S : Int) by omega), Bool.true_and]
  have row : ∀ s, s < S → rowsB R fr dl l s (gD rows s) = ((List.range R).all fun r => decide (r = s) || b) := fun s hs => by
    obtain ⟨cells, e, hcl, hc⟩ := hr s _ (gD_at (by omega))
    rw [e]
    unfold rowsB
    simp only
    rw [decide_eq_true (show (cells.length : Int) = (R : Int) by omega), Bool.true_and]
    rw [Bool.eq_iff_iff, List.all_eq_true, List.all_eq_true]
    refine forall_congr' fun r => ⟨fun h hr' => ?_, fun h hr' => ?_⟩
    · have := h hr'
      have hrl : r < R := List.mem_range.mp hr'
      have hp := hc r _ (gD_at (by omega))
      unfold cellB at this
      by_cases e2 : r = s
      · simp [e2]
      · rw [if_neg e2, hb _ (hp.2 e2)] at this
        simp [this]
    · have := h hr'
      have hrl : r < R := List.mem_range.mp hr'
      have hp := hc r _ (gD_at (by omega))
      unfold cellB
      by_cases e2 : r = s
      · rw [if_pos e2, hp.1 e2]
        exact eqv_nil
      · rw [if_neg e2, hb _ (hp.2 e2)]
        simpa [e2] using this
  have e3 : ((List.range S).all fun s => rowsB R fr dl l s (gD rows s)) = ((List.range S).all fun s => (List.range R).all fun r => decide (r = s) || b) := by
    rw [Bool.eq_iff_iff, List.all_eq_true, List.all_eq_true]
    refine forall_congr' fun s => ?_
    constructor
    · intro h hs
      rw [← row s (List.mem_range.mp hs)]
      exact h hs
    · intro h hs
      rw [row s (List.mem_range.mp hs)]
      exact h hs
  rw [e3]
  cases b with
  | true => simp
  | false =>
    rw [Bool.false_or, Bool.eq_iff_iff, List.all_eq_true, decide_eq_true_eq]
    constructor
    · intro h
      have h3 := h 0 (List.mem_range.mpr (by omega))
      rw [List.all_eq_true] at h3
      by_cases hR : R = 1
      · exact hR
      · have h4 := h3 1 (List.mem_range.mpr (by omega))
        simp at h4
    · intro hR s hs
      rw [List.all_eq_true]
      intro r hr'
      have := List.mem_range.mp hs
      have := List.mem_range.mp hr'
      simp
      omega
/-- fates within bounds -/
def GoodF (late lost : Nat) (F : List (List Int)) : Prop := (∀ f ∈ F, f = [] ∨ (∃ x : Int, 0 ≤ x ∧ x ≤ late ∧ f = [x]) ∨ ∃ x y : Int, 0 ≤ x ∧ x ≤ y ∧ y ≤ late ∧ f = [x, y]) ∧ ∃ n, (F.map fD).foldl (kstep lost) (some 0) = some n
theorem good_B {fr late lost : Nat} {F : List (List Int)} (h : GoodF late lost F) (hl : F.length = fr) : fatesB fr late lost (fsD F) = true := by
  obtain ⟨h1, n, h2⟩ := h
  unfold fatesB fsD
  simp only
  have e1 : (F.map fD).all (fateB late) = true := by
    rw [List.all_eq_true]
    intro d hd
    obtain ⟨f, hf, rfl⟩ := List.mem_map.mp hd
    rcases h1 f hf with rfl | ⟨x, x0, x1, rfl⟩ | ⟨x, y, x0, xy, y1, rfl⟩
    · rfl
    · simp [fD, fateB, okI, x0, x1]
    · simp [fD, fateB, okI, iD, x0, xy, y1]
      omega
  have e2 : keepB lost (F.map fD) = true := by unfold keepB; rw [h2]; rfl
  rw [e1, e2, decide_eq_true (by rw [List.length_map, hl])]
  rfl
theorem GoodF.nonneg {late lost : Nat} {F : List (List Int)} (h : GoodF late lost F) : ∀ f ∈ F, ∀ x ∈ f, 0 ≤ x ∧ x ≤ (late : Int) := fun f hf x hx => by
  rcases h.1 f hf with rfl | ⟨a, a0, a1, rfl⟩ | ⟨a, b, a0, ab, b1, rfl⟩
  · cases hx
  · rcases List.mem_cons.mp hx with rfl | hx
    · exact ⟨a0, a1⟩
    · cases hx
  · rcases List.mem_cons.mp hx with rfl | hx
    · exact ⟨a0, by omega⟩
    · rcases List.mem_cons.mp hx with rfl | hx
      · exact ⟨by omega, b1⟩
      · cases hx
/-! when a letter is heard -/
def hst (acc : Option Int) (z : Int) : Option Int := match acc with
  | none => some z
  | some b => if z < b then some z else some b
def gF (F : List (List Int)) (f : Nat) : List Int := F[f]?.getD []
def comesF (F : List (List Int)) (a n : Nat) : List Int := (List.range' a n).flatMap fun f => (gF F f).map fun z => (f : Int) + z
def hF (F : List (List Int)) (a : Nat) : Option Int := (comesF F a (F.length - a)).foldl hst none
theorem hst_min : ∀ (l : List Int) (b : Int), ∃ c, l.foldl hst (some b) = some c ∧ c ≤ b ∧ (∀ x ∈ l, c ≤ x) ∧ (c = b ∨ c ∈ l)
  | [], b => ⟨b, rfl, by omega, fun x hx => (by cases hx), .inl rfl⟩
  | x :: l, b => by
    rw [List.foldl_cons]
    by_cases h : x < b
    · obtain ⟨c, e, h1, h2, h3⟩ := hst_min l x
      refine ⟨c, by rw [show hst (some b) x = some x from if_pos h]; exact e, by omega, fun y hy => ?_, ?_⟩
      · rcases List.mem_cons.mp hy with rfl | hy
        · exact h1
        · exact h2 y hy
      · rcases h3 with rfl | h3
        · exact .inr List.mem_cons_self
        · exact .inr (List.mem_cons_of_mem _ h3)
    · obtain ⟨c, e, h1, h2, h3⟩ := hst_min l b
      refine ⟨c, by rw [show hst (some b) x = some b from if_neg h]; exact e, h1, fun y hy => ?_, ?_⟩
      · rcases List.mem_cons.mp hy with rfl | hy
        · omega
        · exact h2 y hy
      · rcases h3 with rfl | h3
        · exact .inl rfl
        · exact .inr (List.mem_cons_of_mem _ h3)
theorem hst_none (l : List Int) : (l = [] ∧ l.foldl hst none = none) ∨ ∃ c, l.foldl hst none = some c ∧ c ∈ l ∧ ∀ x ∈ l, c ≤ x := by
  cases l with
  | nil => exact .inl ⟨rfl, rfl⟩
  | cons x l =>
    obtain ⟨c, e, h1, h2, h3⟩ := hst_min l x
    refine .inr ⟨c, e, ?_, fun y hy => ?_⟩
    · rcases h3 with rfl | h3
      · exact List.mem_cons_self
      · exact List.mem_cons_of_mem _ h3
    · rcases List.mem_cons.mp hy with rfl | hy
      · exact h1
      · exact h2 y hy
theorem mem_comes {F : List (List Int)} {a : Nat} {z : Int} : z ∈ comesF F a (F.length - a) ↔ ∃ f, a ≤ f ∧ f < F.length ∧ ∃ x ∈ gF F f, z = (f : Int) + x := by
  unfold comesF
  rw [List.mem_flatMap]
  constructor
  · rintro ⟨f, hf, h⟩
    obtain ⟨x, hx, rfl⟩ := List.mem_map.mp h
    have := List.mem_range'_1.mp hf
    exact ⟨f, this.1, by omega, x, hx, rfl⟩
  · rintro ⟨f, h1, h2, x, hx, rfl⟩
    exact ⟨f, List.mem_range'_1.mpr ⟨h1, by omega⟩, List.mem_map.mpr ⟨x, hx, rfl⟩⟩
theorem hF_eq {F : List (List Int)} {a f : Nat} {x z : Int} (h1 : a ≤ f) (h2 : f < F.length) (hx : x ∈ gF F f) (hz : z = (f : Int) + x) (hm : ∀ g, a ≤ g → g < F.length → ∀ y ∈ gF F g, z ≤ (g : Int) + y) : hF F a = some z := by
  unfold hF
  rcases hst_none (comesF F a (F.length - a)) with ⟨e, _⟩ | ⟨c, e, hc, hmin⟩
  · have := mem_comes.mpr ⟨f, h1, h2, x, hx, rfl⟩
    rw [e] at this
    cases this
  · rw [e]
    obtain ⟨g, g1, g2, y, hy, rfl⟩ := mem_comes.mp hc
    have h3 := hm g g1 g2 y hy
    have h4 := hmin z (mem_comes.mpr ⟨f, h1, h2, x, hx, hz⟩)
    congr 1
    omega
/-- in time: what is asked of a frame -/
def InT (F : List (List Int)) (lost most f : Nat) : Prop := (hF F f = none → ¬ f + lost < F.length) ∧ ∀ b, hF F f = some b → (f : Int) ≤ b ∧ b ≤ (f : Int) + most
theorem kst_run {l : Nat} : ∀ (L : List PyData) (a : Int), 0 ≤ a → (∃ n, L.foldl (kstep l) (some a) = some n) → (l : Int) < a + L.length → ∃ (g : Nat) (d : PyData), (L[g]? = some d ∧ emT d = false ∧ (g : Int) ≤ l - a) ∨ (l : Int) < a
  | [], a, h0, _, hl => ⟨0, .none, .inr (by simpa using hl)⟩
  | d :: L, a, h0, ⟨n, hn⟩, hl => by
    rw [List.foldl_cons] at hn
    by_cases hla : (l : Int) < a
    · exact ⟨0, .none, .inr hla⟩
    · cases e : emT d with
      | false => exact ⟨0, d, .inl ⟨rfl, e, by omega⟩⟩
      | true =>
        have e1 : kstep l (some a) d = if a + 1 > (l : Int) then none else some (a + 1) := by unfold kstep; simp only [e, if_true]
        by_cases h2 : a + 1 > (l : Int)
        · rw [e1, if_pos h2, kst_none] at hn
          cases hn
        · rw [e1, if_neg h2] at hn
          obtain ⟨g, d', h | h⟩ := kst_run L (a + 1) (by omega) ⟨n, hn⟩ (by rw [List.length_cons] at hl; omega)
          · exact ⟨g + 1, d', .inl ⟨by simpa using h.1, h.2.1, by omega⟩⟩
          · omega
theorem kst_pre {l : Nat} {L M : List PyData} {n : Int} (h : (L ++ M).foldl (kstep l) (some 0) = some n) : ∃ a, L.foldl (kstep l) (some 0) = some a ∧ M.foldl (kstep l) (some a) = some n := by
  rw [List.foldl_append] at h
  cases e : L.foldl (kstep l) (some 0) with
  | none => rw [e, kst_none] at h; cases h
  | some a => rw [e] at h; exact ⟨a, rfl, h⟩
theorem kst_nn {l : Nat} : ∀ (L : List PyData) (a n : Int), 0 ≤ a → a ≤ l → L.foldl (kstep l) (some a) = some n → 0 ≤ n ∧ n ≤ l
  | [], a, n, h0, h1, h => by cases h; exact ⟨h0, h1⟩
  | d :: L, a, n, h0, h1, h => by
    rw [List.foldl_cons] at h
    cases e : emT d with
    | false =>
      have e1 : kstep l (some a) d = some 0 := by unfold kstep; simp only [e, if_neg Bool.false_ne_true]
      rw [e1] at h
      exact kst_nn L 0 n (by omega) (by omega) h
    | true =>
      have e1 : kstep l (some a) d = if a + 1 > (l : Int) then none else some (a + 1) := by unfold kstep; simp only [e, if_true]
      by_cases h2 : a + 1 > (l : Int)
      · rw [e1, if_pos h2, kst_none] at h
        cases h
      · rw [e1, if_neg h2] at h
        exact kst_nn L (a + 1) n (by omega) (by omega) h
theorem GoodF.inT {late lost : Nat} {F : List (List Int)} (h : GoodF late lost F) : ∀ f, f < F.length → InT F lost (late + lost) f := fun f hf => by
  obtain ⟨_, n, hk⟩ := id h
  have nn := h.nonneg
  have gmem : ∀ g, g < F.length → gF F g ∈ F := fun g hg => by
    unfold gF
    rw [List.getElem?_eq_getElem hg]
    exact List.getElem_mem hg
  -- the first letter behind f that is not lost
  have first : f + lost < F.length → ∃ g, f ≤ g ∧ g ≤ f + lost ∧ g < F.length ∧ gF F g ≠ [] := fun hl => by
    rw [← List.take_append_drop f F, List.map_append] at hk
    obtain ⟨a, h1, h2⟩ := kst_pre hk
    obtain ⟨a0, a1⟩ := kst_nn _ 0 a (by omega) (by omega) h1
    obtain ⟨g, d, h3 | h3⟩ := kst_run _ a a0 ⟨n, h2⟩ (by rw [List.length_map, List.length_drop]; omega)
    · obtain ⟨h3, h4, h5⟩ := h3
      rw [List.getElem?_map, List.getElem?_drop] at h3
      cases e : F[f + g]? with
      | none => rw [e] at h3; cases h3
      | some w =>
        rw [e] at h3
        cases h3
        rw [em_fD] at h4
        refine ⟨f + g, by omega, by omega, (List.getElem?_eq_some_iff.mp e).1, ?_⟩
        unfold gF
        rw [e]
        intro z
        change w = [] at z
        rw [z] at h4
        cases h4
    · omega
  constructor
  · intro hn hl
    obtain ⟨g, g1, g2, g3, g4⟩ := first hl
    cases e : gF F g with
    | nil => exact g4 e
    | cons x r =>
      unfold hF at hn
      rcases hst_none (comesF F f (F.length - f)) with ⟨e2, _⟩ | ⟨c, e2, _⟩
      · have := mem_comes.mpr ⟨g, g1, g3, x, by rw [e]; exact List.mem_cons_self, rfl⟩
        rw [e2] at this
        cases this
      · rw [e2] at hn
        cases hn
  · intro b hb
    unfold hF at hb
    rcases hst_none (comesF F f (F.length - f)) with ⟨e2, e3⟩ | ⟨c, e2, hc, hmin⟩
    · rw [e3] at hb
      cases hb
    · rw [e2] at hb
      cases hb
      obtain ⟨g, g1, g2, y, hy, rfl⟩ := mem_comes.mp hc
      have := nn _ (gmem g g2) y hy
      refine ⟨by omega, ?_⟩
      by_cases hl : f + lost < F.length
      · obtain ⟨g', p1, p2, p3, p4⟩ := first hl
        cases e : gF F g' with
        | nil => exact absurd e p4
        | cons x r =>
          have hx : x ∈ gF F g' := by rw [e]; exact List.mem_cons_self
          have h6 := hmin _ (mem_comes.mpr ⟨g', p1, p3, x, hx, rfl⟩)
          have h7 := nn _ (gmem g' p3) x hx
          omega
      · omega

/-! ### expressions of data, drawn or not -/
theorem TDs.take {K : PySem.W.Frag} {H : Hp} : ∀ (n : Nat) {vs : List V} {ds : List PyData}, TDs K H vs ds → TDs K H (vs.take n) (ds.take n)
  | 0, _, _, _ => .nil
  | n + 1, _, _, .nil => .nil
  | n + 1, _, _, .cons h t => .cons h (TDs.take n t)
theorem TDs.drop {K : PySem.W.Frag} {H : Hp} : ∀ (n : Nat) {vs : List V} {ds : List PyData}, TDs K H vs ds → TDs K H (vs.drop n) (ds.drop n)
  | 0, _, _, h => h
  | n + 1, _, _, .nil => .nil
  | n + 1, _, _, .cons h t => TDs.drop n t
theorem TDs.reverse {K : PySem.W.Frag} {H : Hp} : ∀ {vs : List V} {ds : List PyData}, TDs K H vs ds → TDs K H vs.reverse ds.reverse
  | _, _, .nil => .nil
  | _, _, .cons h t => by rw [List.reverse_cons, List.reverse_cons]; exact (TDs.reverse t).snoc h
def cutL {α : Type} (xs : List α) (lo hi : Option Int) : List α := (xs.drop (HT.sIx xs.length 0 lo)).take (HT.sIx xs.length xs.length hi - HT.sIx xs.length 0 lo)
theorem TDs.cut {K : PySem.W.Frag} {H : Hp} {vs : List V} {ds : List PyData} (h : TDs K H vs ds) (lo hi : Option Int) : TDs K H (cutV vs lo hi) (cutL ds lo hi) := by
  unfold cutV cutL
  rw [h.len]
  exact (h.drop _).take _
theorem cutL_mem {α : Type} {xs : List α} {lo hi : Option Int} {x : α} (h : x ∈ cutL xs lo hi) : x ∈ xs := List.mem_of_mem_drop (List.mem_of_mem_take h)
theorem cutL_len {α : Type} (xs : List α) (lo hi : Option Int) : (cutL xs lo hi).length ≤ xs.length := by
  unfold cutL
  rw [List.length_take, List.length_drop]
  omega
section
variable {K : PySem.W.Frag} {p a : Addr} {H0 : Hp} {σ : L2.St} {n k : Nat}
/-- an int, nothing laid -/
def IE (σ : L2.St) (te : TE) (m : Int) : Prop := ∀ (H : Hp) (Q : VK), Q (.int m) H → te σ H Q
theorem IE.c {i : Int} : IE σ (tC (.int i)) i := fun _ _ q => q
theorem IE.neg {i : Int} {te : TE} (h : IE σ te i) : IE σ (tUn (rU fun i => V.int (-i)) te) (-i) := fun H Q q => h H _ ⟨i, rfl, q⟩
theorem IE.var {i : Nat} {m : Int} (e : σ[i]? = some (some (.int m))) : IE σ (tVar i) m := fun _ _ q => ⟨_, e, q⟩
theorem IE.add {ta tb : TE} {i j : Int} (h1 : IE σ ta i) (h2 : IE σ tb j) : IE σ (tOp (rI0 fun i j => V.int (i + j)) ta tb) (i + j) := fun H Q q => h1 H _ (h2 H _ ⟨i, j, rfl, rfl, q⟩)
theorem IE.sub {ta tb : TE} {i j : Int} (h1 : IE σ ta i) (h2 : IE σ tb j) : IE σ (tOp (rI0 fun i j => V.int (i - j)) ta tb) (i - j) := fun H Q q => h1 H _ (h2 H _ ⟨i, j, rfl, rfl, q⟩)
def DE (K : PySem.W.Frag) (p a : Addr) (H0 : Hp) (σ : L2.St) (n : Nat) (te : TE) : Prop := ∀ (H : Hp) (Q : VK), Drew p a H0 H → (∀ v d H', Drew p a H H' → TD K H' v d → Shp n d → Q v H') → te σ H Q
/-- a tuple, its items of depth n -/
def DT (K : PySem.W.Frag) (p a : Addr) (H0 : Hp) (σ : L2.St) (n k : Nat) (te : TE) : Prop := ∀ (H : Hp) (Q : VK), Drew p a H0 H → (∀ v ds H', Drew p a H H' → TD K H' v (.tuple ds) → (∀ d ∈ ds, Shp n d) → ds.length ≤ k → Q v H') → te σ H Q
def DA (K : PySem.W.Frag) (p a : Addr) (H0 : Hp) (σ : L2.St) (n k : Nat) (t : TA) : Prop := ∀ (H : Hp) (Q : List V → Hp → Prop), Drew p a H0 H → (∀ vs ds H', Drew p a H H' → TDs K H' vs ds → (∀ d ∈ ds, Shp n d) → ds.length = k → Q vs H') → t σ H Q
theorem shp_snoc' {ds : List PyData} {d : PyData} (h : ∀ x ∈ ds, Shp n x) (hd : Shp n d) : ∀ x ∈ ds ++ [d], Shp n x := fun x hx => by
  rcases List.mem_append.mp hx with hx | hx
  · exact h x hx
  · rw [List.mem_singleton.mp hx]; exact hd
theorem DT.de {te : TE} (h : DT K p a H0 σ n k te) : DE K p a H0 σ (n + 1) te := fun H Q w q => h H Q w fun v ds H' e t s _ => q v _ H' e t (Shp.tup s)
theorem DE.ie {te : TE} {m : Int} (h : IE σ te m) : DE K p a H0 σ n te := fun H Q w q => h H _ (q _ _ H w.at_.drew (.int m) ((Shp.int m).mono (Nat.zero_le _)))
theorem DE.non : DE K p a H0 σ n (tC .non) := fun H Q w q => q _ _ H w.at_.drew .non (Shp.non.mono (Nat.zero_le _))
theorem DE.str {s : Str} (h : PyData.canLay0 (.str s) = true) : DE K p a H0 σ n (tC (.str s)) := fun H Q w q => q _ _ H w.at_.drew (.str s) ((Shp.str h).mono (Nat.zero_le _))
theorem DE.var {i : Nat} {v : V} {d : PyData} (e : σ[i]? = some (some v)) (d0 : DrawAt H0 p a) (h : TD K H0 v d) (s : Shp n d) : DE K p a H0 σ n (tVar i) := fun H Q w q => ⟨_, e, q _ _ H w.at_.drew (h.tps (w.tps d0)) s⟩
theorem DT.var {i : Nat} {v : V} {ds : List PyData} (e : σ[i]? = some (some v)) (d0 : DrawAt H0 p a) (h : TD K H0 v (.tuple ds)) (s : ∀ d ∈ ds, Shp n d) (l : ds.length ≤ k) : DT K p a H0 σ n k (tVar i) := fun H Q w q => ⟨_, e, q _ _ H w.at_.drew (h.tps (w.tps d0)) s l⟩
theorem DA.nil : DA K p a H0 σ n 0 tNil := fun H Q w q => q [] [] H w.at_.drew .nil (fun d h => by cases h) rfl
theorem DA.cons {te : TE} {t : TA} (h1 : DE K p a H0 σ n te) (h2 : DA K p a H0 σ n k t) : DA K p a H0 σ n (k + 1) (tCons te t) := fun H Q w q =>
  h1 H _ w fun v d H1 e1 t1 s1 => h2 H1 _ (w.trans e1) fun vs ds H2 e2 ts ss l => q (v :: vs) (d :: ds) H2 (e1.trans e2) (.cons (t1.tps (e2.tps e1.at_)) ts) (fun x hx => by
    rcases List.mem_cons.mp hx with rfl | hx
    · exact s1
    · exact ss x hx) (by simp [l])
theorem DT.tup {t : TA} (h : DA K p a H0 σ n k t) (hk : k ≤ 1000) : DT K p a H0 σ n k (tTup t) := fun H Q w q =>
  h H _ w fun vs ds H1 e1 ts ss l => ⟨by rw [ts.len, l, sizeLine_eq]; omega, fun b hb => q (.ref b) ds _ (e1.new hb) (TD.new hb ts) ss (by omega)⟩
theorem DT.cat {ta tb : TE} {j : Nat} (h1 : DT K p a H0 σ n k ta) (h2 : DT K p a H0 σ n j tb) (hk : k + j ≤ 1000) : DT K p a H0 σ n (k + j) (tOp (rCatA K) ta tb) := fun H Q w q =>
  h1 H _ w fun v ds H1 e1 t1 s1 l1 => h2 H1 _ (w.trans e1) fun u es H2 e2 t2 s2 l2 => by
    obtain ⟨b, xs, rfl, sx, tx⟩ := (t1.tps (e2.tps e1.at_)).tup_inv
    obtain ⟨c, ys, rfl, sy, ty⟩ := t2.tup_inv
    refine i_catA sx sy (by rw [tx.len, ty.len, sizeLine_eq]; omega) fun r H3 s3 hr => q (.ref r) (ds ++ es) H3 ((e1.trans e2).same s3) (.tup hr ((tx.same s3).app (ty.same s3))) (fun d hd => ?_) (by rw [List.length_append]; omega)
    rcases List.mem_append.mp hd with hd | hd
    · exact s1 d hd
    · exact s2 d hd
def DP (p a : Addr) (H0 : Hp) (σ : L2.St) (t : TO) : Prop := ∀ (H : Hp) (Q : Option Int → Hp → Prop), (∀ o, Q o H) → t σ H Q
theorem DP.none : DP p a H0 σ tNoPart := fun H Q q => q Option.none
theorem DP.some {te : TE} {m : Int} (h : IE σ te m) : DP p a H0 σ (tPart te) := fun H Q q => h H _ ⟨m, rfl, q _⟩
theorem DT.slice {te : TE} {tl th : TO} (h : DT K p a H0 σ n k te) (hl : DP p a H0 σ tl) (hh : DP p a H0 σ th) : DT K p a H0 σ n k (L2.tSl (rSlQ K) te tl th) := fun H Q w q =>
  h H _ w fun v ds H1 e1 t1 s1 l1 => hl H1 _ fun lo => hh H1 _ fun hi => by
    obtain ⟨b, xs, rfl, sx, tx⟩ := t1.tup_inv
    exact i_slA sx fun r H2 s2 hr => q (.ref r) (cutL ds lo hi) H2 (e1.same s2) (.tup hr ((tx.same s2).cut lo hi)) (fun d hd => s1 d (cutL_mem hd)) (Nat.le_trans (cutL_len _ _ _) l1)
theorem DT.rev {te : TE} (h : DT K p a H0 σ n k te) : DT K p a H0 σ n k (tTupRt K te) := fun H Q w q =>
  h H _ w fun v ds H1 e1 t1 s1 l1 => by
    obtain ⟨b, xs, rfl, sx, tx⟩ := t1.tup_inv
    exact ⟨b, xs, rfl, sx, fun r hr => q (.ref r) ds.reverse _ (e1.new hr) (TD.new hr tx.reverse) (fun d hd => s1 d (List.mem_reverse.mp hd)) (by rw [List.length_reverse]; exact l1)⟩
theorem DE.draw {te : TE} {m : Int} (e : σ[0]? = some (some (.ref p))) (h : IE σ te m) (h0 : 0 < m) (h1 : m < 18446744073709551616) : DE K p a H0 σ n (tCall (sp__law_draw K) [] E0 (tCons (tVar 0) (tCons te tNil))) := fun H Q w q =>
  ⟨_, e, h H _ (show sp__law_draw K [.ref p, .int m] H Q E0 from drawL w.at_.drew h0 h1 fun z H' _ _ e1 _ => q _ _ H' e1 (.int z) ((Shp.int z).mono (Nat.zero_le _)))⟩
theorem dt_run {te : TE} {H : Hp} {Q : VK} (h : DT K p a H σ n k te) (d0 : DrawAt H p a) (q : ∀ v ds H', Drew p a H H' → TD K H' v (.tuple ds) → (∀ d ∈ ds, Shp n d) → ds.length ≤ k → Q v H') : te σ H Q := h H Q d0.drew q
/-- a list display -/
theorem de_lst {t : TA} {H : Hp} {Q : VK} (d0 : DrawAt H p a) (h : DA K p a H σ n k t) (hk : k ≤ 1000) (q : ∀ D H' ds, Drew p a H H' → H D = none → LD K H' D ds → ds.length = k → (∀ d ∈ ds, Shp n d) → Q (.ref D) H') : tLst t σ H Q :=
  h H _ d0.drew fun vs ds H1 e1 ts ss l => ⟨by rw [ts.len, l, sizeLine_eq]; omega, fun b hb => q b _ ds (e1.new hb) (e1.free hb) (.new hb ts) l ss⟩
/-- found + [..] -/
theorem de_cat {i : Nat} {t : TA} {H : Hp} {Q : VK} {D : Addr} {ds : List PyData} (e : σ[i]? = some (some (.ref D))) (d0 : DrawAt H p a) (hL : LD K H D ds) (nD : D ≠ p) (h : DA K p a H σ n k t) (hk : k + ds.length ≤ 1000) (q : ∀ G H' es, Drew p a H H' → H G = none → LD K H' G (ds ++ es) → es.length = k → (∀ d ∈ es, Shp n d) → Q (.ref G) H') : tOp rCat (tVar i) (tLst t) σ H Q :=
  ⟨_, e, h H _ d0.drew fun vs es H1 e1 ts ss l => ⟨by rw [ts.len, l, sizeLine_eq]; omega, fun b hb => by
    obtain ⟨us, hu, tu⟩ := hL.drew d0 e1 nD
    have e2 := e1.new (o := .lst vs) hb
    have s2 := same_new (o := .lst vs) hb
    refine i_cat (s2 _ _ hu) upd_same (by rw [tu.len, ts.len, sizeLine_eq]; omega) fun G hG => ?_
    exact q G _ es (e2.new hG) (e2.free hG) (.new hG ((tu.same s2).app (ts.same s2))) l ss⟩⟩
/-- found.append(e); all else stands -/
theorem de_appK {i : Nat} {te : TE} {Hb H : Hp} {D : Addr} {ds : List PyData} {nx : L2.St → Hp → Prop} {rt : VK} {bk ct : L2.St → Hp → Prop} (e : σ[i]? = some (some (.ref D))) (d0 : DrawAt Hb p a) (w : Drew p a Hb H) (hD : Hb D = none) (hL : LD K H D ds) (h : DE K p a H σ n te) (hl : ds.length < 1000)
    (q : ∀ d H', Drew p a Hb H' → (∀ b o, H b = some o → b ≠ D → b ≠ p → H' b = some o) → Tps H H' → LD K H' D (ds ++ [d]) → Shp n d → nx σ H') : tDrop (tBM K "list" rAppend (tVar i) (tCons te tNil)) ⟨nx, rt, bk, ct⟩ σ H := by
  refine ⟨_, e, ?_⟩
  obtain ⟨us, hu, tu⟩ := id hL
  refine i_tyL (SqL.of hu) (h H _ w.at_.drew fun v d H1 e1 t1 s1 => ?_)
  have nD := d0.ne_none hD
  obtain ⟨us1, hu1, tu1⟩ := hL.drew w.at_ e1 nD
  show rAppend (V.ref D) [v] H1 fun _ H2 => nx σ H2
  refine i_app hu1 (small1000 (by rw [tu1.len]; omega)) ?_
  exact q d _ ((w.trans e1).put d0 hD) (fun b o hb n1 n2 => by rw [upd_ne n1]; exact e1.kp _ _ hb n2) ((e1.tps w.at_).trans (tps_put hu1)) (LD.snoc hu1 tu1 t1) s1
theorem de_app {i : Nat} {te : TE} {Hb H : Hp} {D : Addr} {ds : List PyData} {nx : L2.St → Hp → Prop} {rt : VK} {bk ct : L2.St → Hp → Prop} (e : σ[i]? = some (some (.ref D))) (d0 : DrawAt Hb p a) (w : Drew p a Hb H) (hD : Hb D = none) (hL : LD K H D ds) (h : DE K p a H σ n te) (hl : ds.length < 1000)
    (q : ∀ d H', Drew p a Hb H' → LD K H' D (ds ++ [d]) → Shp n d → nx σ H') : tDrop (tBM K "list" rAppend (tVar i) (tCons te tNil)) ⟨nx, rt, bk, ct⟩ σ H :=
  de_appK e d0 w hD hL h hl fun d H' w' _ _ hL' s => q d H' w' hL' s
/-- 'x' * n -/
theorem DE.mulx {i m : Nat} {s : Str} (hs : s.length = 1) (hok : ∀ k < 60, PyData.strOk (repS s ((k : Nat) : Int)) = true) (e : σ[i]? = some (some (.int (m : Int)))) (h0 : 1 ≤ m) (h1 : m < 60) : DE K p a H0 σ n (tOp rMulS (tC (.str s)) (tVar i)) := fun H Q w q =>
  ⟨_, e, s, m, rfl, rfl, hs, by omega, by omega, q _ _ H w.at_.drew (.str _) ((Shp.str (by rw [PyData.canLay0]; exact hok m h1)).mono (Nat.zero_le _))⟩
theorem TDs.atI {H : Hp} {xs : List V} {ds : List PyData} {k : Int} {d : PyData} (h : TDs K H xs ds) (e : L2.atI ds k = some d) : ∃ x, L2.atI xs k = some x ∧ TD K H x d := by
  unfold L2.atI at e ⊢
  rw [h.len]
  cases hi : ixN ds.length k with
  | none => rw [hi] at e; cases e
  | some j =>
    rw [hi] at e
    exact h.get e
theorem DE.idx {i : Nat} {v : V} {ds : List PyData} {tk : TE} {k : Int} {d : PyData} (e : σ[i]? = some (some v)) (d0 : DrawAt H0 p a) (h : TD K H0 v (.tuple ds)) (hk : IE σ tk k) (hd : L2.atI ds k = some d) (s : Shp n d) : DE K p a H0 σ n (tOp (rIxT K) (tVar i) tk) := fun H Q w q => by
  obtain ⟨b, xs, rfl, sx, tx⟩ := (h.tps (w.tps d0)).tup_inv
  obtain ⟨x, ex, tx'⟩ := tx.atI hd
  exact ⟨_, e, hk H _ ⟨b, xs, k, x, rfl, rfl, sx, ex, q x d H w.at_.drew tx' s⟩⟩
/-- tuple([e for x in range(m)]) -/
theorem DT.compR {i j m : Nat} {te : TE} {ws : List Nat} {σ' : L2.St} (hσ : wipe σ ws = σ') (hw0 : wipe σ' ws = σ') (hw : ∀ x, wipe (σ'.set j (some x)) ws = σ') (e : σ[i]? = some (some (.int (m : Int)))) (d0 : DrawAt H0 p a) (hm : m < 1000) (he : ∀ x, DE K p a H0 (σ'.set j (some x)) n te) :
    DT K p a H0 σ n m (tCB (rTupOf K) (tCons (tLc (iRng1 (tCons (tVar i) tNil)) (gName j) tYes te ws) tNil)) := fun H Q w q => by
  refine i_cb (i_cons (i_lc hσ (i_rng1 (i_cons (i_var e (i_nil (i_isR1 (by omega) (by omega) fun C hC => ?_)))))))
  have CH := w.free hC
  have nC := d0.ne_none CH
  refine l_range (fun r H' => Drew p a H H' ∧ ∃ ds, LD K H' C ds ∧ ds.length = r ∧ ∀ d ∈ ds, Shp n d) ⟨w.at_.drew.new hC, [], .new hC .nil, rfl, fun d h => by cases h⟩ (fun r H' hr h => ?_) (fun H' h => ?_) hw0
  · obtain ⟨w1, ds, hL, dl, hds⟩ := h
    have hr' : r < m := by simpa using hr
    refine ⟨hw _, ?_⟩
    refine he _ H' _ (w.trans w1) fun v d H2 e2 t2 s2 => ?_
    obtain ⟨us, hu, tu⟩ := hL.drew w1.at_ e2 nC
    exact ⟨us, hu, small1000 (by rw [tu.len]; omega), ((w1.trans e2).put w.at_ hC), ds ++ [d], LD.snoc hu tu t2, by simp [dl], shp_snoc' hds s2⟩
  · obtain ⟨w1, ds, ⟨us, hu, tu⟩, dl, hds⟩ := h
    refine i_nil (i_tupL (SqL.of hu) fun T hT => ?_)
    exact q _ ds _ (w1.new hT) (TD.new hT tu) hds (by rw [dl]; simp)
/-- what is appended by a loop that goes on -/
theorem shp_snoc {ds : List PyData} {d : PyData} (h : ∀ x ∈ ds, Shp n x) (hd : Shp n d) : ∀ x ∈ ds ++ [d], Shp n x := fun x hx => by
  rcases List.mem_append.mp hx with hx | hx
  · exact h x hx
  · rw [List.mem_singleton.mp hx]; exact hd
theorem shp_app {ds es : List PyData} (h : ∀ x ∈ ds, Shp n x) (hd : ∀ x ∈ es, Shp n x) : ∀ x ∈ ds ++ es, Shp n x := fun x hx => by
  rcases List.mem_append.mp hx with hx | hx
  · exact h x hx
  · exact hd x hx
end
local macro_rules | `(tactic| wtm_at "dk") => `(tactic| first
  | assumption | decide | omega
  | ((refine fun d hd => Shp.mono (n := 1) ?hu (by omega)); (case hu => (revert d hd; assumption)))
  | ((refine fun d hd => Shp.mono (n := 2) ?hu (by omega)); (case hu => (revert d hd; assumption)))
  | ((refine fun d hd => Shp.mono (n := 3) ?hu (by omega)); (case hu => (revert d hd; assumption))))
local macro_rules | `(tactic| wtm_at "ie") => `(tactic| repeat (first | with_reducible exact IE.c | ((with_reducible refine' IE.var ?e); (case e => exact rfl)) | with_reducible apply IE.add | with_reducible apply IE.sub | with_reducible apply IE.neg))
local macro_rules | `(tactic| wtm_at "dt") => `(tactic| first
  | ((with_reducible refine' DT.tup ?h ?hk); (case h => wtm_at "da"); (case hk => wtm_at "dk"))
  | ((with_reducible refine' DT.cat ?h1 ?h2 ?hk); (case h1 => wtm_at "dt"); (case h2 => wtm_at "dt"); (case hk => wtm_at "dk"))
  | ((with_reducible refine' DT.slice ?h ?hl ?hh); (case h => wtm_at "dt"); (case hl => wtm_at "dp"); (case hh => wtm_at "dp"))
  | ((with_reducible refine' DT.rev ?h); (case h => wtm_at "dt"))
  | ((with_reducible refine' DT.compR ?hs ?hw0 ?hw ?e ?d0 ?hm ?he); (case hs => wtm_at "jset"); (case hw0 => wtm_at "jset"); (case hw => (intro _; wtm_at "jset")); (case e => exact rfl); (case d0 => assumption); (case hm => omega); (case he => (intro _; wtm_at "de")))
  | ((with_reducible refine' DT.var ?e ?d0 ?h ?s ?l); (case e => exact rfl); (case d0 => assumption); (case h => assumption); (case s => wtm_at "dk"); (case l => wtm_at "dk")))
local macro_rules | `(tactic| wtm_at "dp") => `(tactic| first | with_reducible exact DP.none | ((with_reducible refine' DP.some ?h); (case h => wtm_at "ie")))
local macro_rules | `(tactic| wtm_at "da") => `(tactic| first | with_reducible exact DA.nil | ((with_reducible refine' DA.cons ?h1 ?h2); (case h1 => wtm_at "de"); (case h2 => wtm_at "da")))
local macro_rules | `(tactic| wtm_at "de") => `(tactic| first
  | with_reducible exact DE.non
  | ((with_reducible refine' DE.str ?h); (case h => decide +kernel))
  | ((with_reducible refine' DE.ie ?h); (case h => (wtm_at "ie"; done)))
  | ((with_reducible refine' DE.draw ?e ?h ?h0 ?h1); (case e => exact rfl); (case h => wtm_at "ie"); (case h0 => wtm_at "dk"); (case h1 => wtm_at "dk"))
  | ((with_reducible refine' DT.de ?h); (case h => wtm_at "dt"))
  | ((with_reducible refine' DE.var ?e ?d0 ?h ?s); (case e => exact rfl); (case d0 => assumption); (case h => assumption); (case s => wtm_at "dk"))
  | wtm_at "dx")
local macro_rules | `(tactic| wtm_at "dx") => `(tactic| first
  | ((with_reducible refine' DE.mulx ?hs ?hok ?e ?h0 ?h1); (case hs => decide +kernel); (case hok => decide +kernel); (case e => exact rfl); (case h0 => omega); (case h1 => omega))
  | ((with_reducible refine' DE.idx ?e ?d0 ?h ?hk ?hd ?s); (case e => exact rfl); (case d0 => assumption); (case h => assumption); (case hk => wtm_at "ie"); (case hd => assumption); (case s => assumption)))

/-! ### windows and runs (for k27) -/
def winB (lost : Nat) (ds : List PyData) : Bool := (List.range (ds.length - lost)).all fun f => ((ds.drop f).take (lost + 1)).any fun d => !emT d
theorem win_ok {lost : Nat} {ds : List PyData} (h : winB lost ds = true) : ∀ i, i ≤ ds.length → ∃ r : Nat, (ds.take i).foldl (kstep lost) (some 0) = some (r : Int) ∧ r ≤ lost ∧ r ≤ i ∧ ∀ j, i ≤ j + r → j < i → ∃ d, ds[j]? = some d ∧ emT d = true
  | 0, _ => ⟨0, rfl, by omega, by omega, fun j _ h => by omega⟩
  | i + 1, hi => by
    obtain ⟨r, h1, h2, h3, h4⟩ := win_ok h i (by omega)
    have hd : ds[i]? = some (ds[i]'(by omega)) := List.getElem?_eq_getElem (by omega)
    generalize ds[i]'(by omega) = d at hd
    have e1 : (ds.take (i + 1)).foldl (kstep lost) (some 0) = kstep lost (some (r : Int)) d := by
      rw [List.take_add_one, hd, List.foldl_append, h1]
      rfl
    rw [e1, kstep_s]
    cases e : emT d with
    | false => exact ⟨0, by simp, by omega, by omega, fun j _ h => by omega⟩
    | true =>
      rw [if_pos rfl]
      by_cases hr : (r : Int) + 1 > (lost : Int)
      · exfalso
        have hrl : r = lost := by omega
        subst hrl
        unfold winB at h
        rw [List.all_eq_true] at h
        have hw := h (i - r) (List.mem_range.mpr (by omega))
        rw [List.any_eq_true] at hw
        obtain ⟨x, hx, hne⟩ := hw
        obtain ⟨g, hg⟩ := List.getElem?_of_mem hx
        have hgl := (List.getElem?_eq_some_iff.mp hg).1
        rw [List.length_take] at hgl
        rw [List.getElem?_take, if_pos (by omega), List.getElem?_drop] at hg
        by_cases hgi : i - r + g = i
        · rw [hgi, hd] at hg
          cases hg
          rw [e] at hne
          cases hne
        · obtain ⟨d', hd', e'⟩ := h4 (i - r + g) (by omega) (by omega)
          rw [hd'] at hg
          cases hg
          rw [e'] at hne
          cases hne
      · rw [if_neg hr]
        refine ⟨r + 1, rfl, by omega, by omega, fun j hj hji => ?_⟩
        by_cases e2 : j = i
        · subst e2
          exact ⟨d, hd, e⟩
        · exact h4 j (by omega) (by omega)
theorem win_keep (lost : Nat) (ds : List PyData) : keepB lost ds = winB lost ds := by
  cases hw : winB lost ds with
  | true =>
    obtain ⟨r, h1, _⟩ := win_ok hw ds.length (Nat.le_refl _)
    rw [List.take_length] at h1
    unfold keepB
    rw [h1]
    rfl
  | false =>
    cases hk : keepB lost ds with
    | false => rfl
    | true =>
      exfalso
      unfold keepB at hk
      obtain ⟨n, hn⟩ := Option.isSome_iff_exists.mp hk
      have : winB lost ds = true := by
        unfold winB
        rw [List.all_eq_true]
        intro f hf
        have hf' := List.mem_range.mp hf
        have hn' := hn
        rw [← List.take_append_drop f ds] at hn'
        obtain ⟨a, h1, h2⟩ := kst_pre hn'
        obtain ⟨a0, a1⟩ := kst_nn _ 0 a (by omega) (by omega) h1
        obtain ⟨g, d, h3 | h3⟩ := kst_run _ a a0 ⟨n, h2⟩ (by rw [List.length_drop]; omega)
        · obtain ⟨h3, h4, h5⟩ := h3
          rw [List.any_eq_true]
          refine ⟨d, ?_, by rw [h4]; rfl⟩
          refine List.mem_of_getElem? (i := g) ?_
          rw [List.getElem?_take, if_pos (by omega)]
          exact h3
        · omega
      rw [this] at hw
      cases hw
theorem eqv_nilB (d : PyData) (h : d.canLay0 = true) : PyData.eqv d (.tuple []) = emT d := by
  cases d with
  | tuple ds =>
    cases ds with
    | nil => simp [PyData.eqv, PyData.eqvAll, emT]
    | cons x r => simp [PyData.eqv, PyData.eqvAll, emT]
  | _ => simp [PyData.eqv, emT]
theorem take_min {α : Type} (ds : List α) (i : Nat) : ds.take (min i ds.length) = ds.take i := by
  by_cases h : i ≤ ds.length
  · rw [Nat.min_eq_left h]
  · rw [Nat.min_eq_right (by omega), List.take_length, List.take_of_length_le (by omega)]
theorem drop_min {α : Type} (ds : List α) (i : Nat) : ds.drop (min i ds.length) = ds.drop i := by
  by_cases h : i ≤ ds.length
  · rw [Nat.min_eq_left h]
  · rw [Nat.min_eq_right (by omega), List.drop_length, List.drop_eq_nil_of_le (by omega)]
theorem cut_take {α : Type} (ds : List α) (i : Nat) : cutL ds none (some (i : Int)) = ds.take i := by
  unfold cutL HT.sIx
  simp only
  rw [if_neg (by omega), Int.toNat_natCast, List.drop_zero, Nat.sub_zero, take_min]
theorem cut_drop {α : Type} (ds : List α) (i : Nat) : cutL ds (some (i : Int)) none = ds.drop i := by
  unfold cutL HT.sIx
  simp only
  rw [if_neg (by omega), Int.toNat_natCast, drop_min, List.take_of_length_le]
  rw [List.length_drop]
  omega
theorem cut_win {α : Type} (ds : List α) (f l : Nat) (h : f + l < ds.length) : cutL ds (some (f : Int)) (some ((f : Int) + (l : Int) + 1)) = (ds.drop f).take (l + 1) := by
  unfold cutL HT.sIx
  simp only
  rw [if_neg (by omega), if_neg (by omega), Int.toNat_natCast, drop_min, show ((f : Int) + (l : Int) + 1).toNat = f + l + 1 by omega, Nat.min_eq_left (by omega), Nat.min_eq_left (by omega), show f + l + 1 - f = l + 1 by omega]

/-! ### the law's drawn fates -/
def sp__law_fates (K : PySem.W.Frag) : Sp := fun vs H Q _ => ∃ (p a : Addr) (fr late lost : Nat), vs = [.ref p, .int (fr : Int), .int (late : Int), .int (lost : Int)] ∧ DrawAt H p a ∧ fr < 1000 ∧ late < 1000 ∧ ∀ v (F : List (List Int)) H', Drew p a H H' → TD K H' v (fsD F) → F.length = fr → GoodF late lost F → Q v H'
theorem ok__law_fates {P : Program} {w : World} {K : PySem.W.Frag} {mg : Str → Option Value} {base : Heap} {f : Addr} {fd : FuncData} (F : Df K mg "_law_fates" s__law_fates f fd ["d", "frames", "late", "lost"]) (T : Txt mg)
    (c__law_draw : Cl P w K mg base 1 "_law_draw" (sp__law_draw K)) : FnOk P w K mg base CX0 2 f fd ["d", "frames", "late", "lost"] (sp__law_fates K) := by
  refine F.ok sc__law_fates (fun vs H Q E h => ?_) (fun cdv A outer s H vs Q E hr h => ?_)
  · obtain ⟨p, a, fr, late, lost, rfl, _⟩ := h
    rfl
  · obtain ⟨p, a, fr, late, lost, rfl, d0, f1, l1, q⟩ := h
    refine ⟨_, (pss_cons (ps_set (i := 4) sc__law_fates.nd rfl (Or.inl rfl) (pe_lst pa_nil))
      (pss_cons (ps_set (i := 5) sc__law_fates.nd rfl (Or.inl rfl) pe_int)
      (pss_cons (ps_for PassesOwn.never rfl (pi_range1 rfl T.b_range (pa_cons (pv 1) pa_nil)) (pg_name (i := 6) sc__law_fates.nd rfl (Or.inl rfl)) (pss_one (ps_if (PW.pt (pw_and (pt_cmpR op_lt (pv 5) (pv 3) (nomark _)) (pw_and1 (pt_cmpR op_eq (pe_cl c__law_draw hr (by decide) rfl (pa_cons (pv 0) (pa_cons pe_int pa_nil))) pe_int (nomark _))))) (pss_cons (ps_aug (i := 5) sc__law_fates.nd rfl (Or.inl rfl) pe_int iop_add)
      (pss_one (ps_expr (pe_bmK (K := K) rfl PySem.F.plainAttrs_list PySem.F.slot_list_append PySem.F.type_list_append mt_append (pv 4) (pa_cons (pe_tup pa_nil) pa_nil))))) (pss_cons (ps_set (i := 5) sc__law_fates.nd rfl (Or.inl rfl) pe_int)
      (pss_cons (ps_set (i := 7) sc__law_fates.nd rfl (Or.inl rfl) (pe_cl c__law_draw hr (by decide) rfl (pa_cons (pv 0) (pa_cons (pe_op op_add (pv 2) pe_int) pa_nil))))
      (pss_one (ps_if (pt_cmpR op_eq (pe_cl c__law_draw hr (by decide) rfl (pa_cons (pv 0) (pa_cons pe_int pa_nil))) pe_int (nomark _)) (pss_one (ps_expr (pe_bmK (K := K) rfl PySem.F.plainAttrs_list PySem.F.slot_list_append PySem.F.type_list_append mt_append (pv 4) (pa_cons (pe_tup (pa_cons (pv 7) (pa_cons (pe_op op_add (pv 7) (pe_cl c__law_draw hr (by decide) rfl (pa_cons (pv 0) (pa_cons (pe_op op_sub (pe_op op_add (pv 2) pe_int) (pv 7)) pa_nil)))) pa_nil))) pa_nil)))) (pss_one (ps_expr (pe_bmK (K := K) rfl PySem.F.plainAttrs_list PySem.F.slot_list_append PySem.F.type_list_append mt_append (pv 4) (pa_cons (pe_tup (pa_cons (pv 7) pa_nil)) pa_nil)))))))))))
      (pss_one (ps_ret (pe_callTy (T := "tuple") (r := rTupOf K) c_tup (by rfl) T.b_tuple (by decide +kernel) (pa_cons (pv 4) pa_nil))))))), ?_⟩
    try dsimp only [cxOf, Cx.nox, Cx.wish]
    refine st_of (σ' := [some _, some _, some _, some _, none, none, none, none]) rfl ?_
    wtm_at "jw"
    intro BL hBL
    have nB := d0.ne_none hBL
    wtm_at "jw"
    refine f_range (fun i σ H' => Drew p a H H' ∧ ∃ (F : List (List Int)) (run : Int) (v6 v7 : Option V), LD K H' BL (F.map fD) ∧ F.length = i ∧ (∀ f ∈ F, f = [] ∨ (∃ x : Int, 0 ≤ x ∧ x ≤ late ∧ f = [x]) ∨ ∃ x y : Int, 0 ≤ x ∧ x ≤ y ∧ y ≤ late ∧ f = [x, y]) ∧ (F.map fD).foldl (kstep lost) (some 0) = some run ∧
        σ = [some (.ref p), some (.int (fr : Int)), some (.int (late : Int)), some (.int (lost : Int)), some (.ref BL), some (.int run), v6, v7])
      ⟨d0.drew.new hBL, [], 0, none, none, .new hBL .nil, rfl, fun f h => (by cases h), rfl, rfl⟩ (fun i σ H' hi h => ?_) (fun σ H' h => ?_)
    · obtain ⟨w1, F, run, v6, v7, hB1, hFl, hFb, hrun, rfl⟩ := h
      have hi' : i < fr := by simpa using hi
      wtm_at "jw1"
      refine i_ifS ?_
      refine i_andTJ (fun b H2 => Drew p a H' H2 ∧ (b = true → run < (lost : Int))) (fun b H2 h => ?_) (fun R hR => ?_)
      · obtain ⟨e2, hb⟩ := h
        have w2 := w1.trans e2
        have hB2 := hB1.drew w1.at_ e2 nB
        refine c_bool (fun e => ?_) (fun e => ?_)
        · have hlt := hb e
          obtain ⟨us, hus, tus⟩ := hB2
          have hul := tus.len
          rw [List.length_map] at hul
          wtm_at "jw"
          intro T hT
          have tT : TD K (upd H2 T (.tup [])) (.ref T) (fD []) := TD.new hT .nil
          have hus3 := same_new (o := .tup []) hT _ _ hus
          have tus3 := tus.same (same_new (o := .tup []) hT)
          have w3 := w2.new (o := .tup []) hT
          generalize upd H2 T (.tup []) = H3 at w3 tT hus3 tus3 ⊢
          have hsm : us.length < sizeLine := small1000 (by omega)
          wtm_at "jw"
          refine ⟨w3.put d0 hBL, F ++ [[]], run + 1, _, _, by rw [List.map_append]; exact LD.snoc hus3 tus3 tT, by simp [hFl], fun f hf => ?_, ?_, rfl⟩
          · rcases List.mem_append.mp hf with hf | hf
            · exact hFb f hf
            · exact .inl (List.mem_singleton.mp hf)
          · rw [List.map_append, List.foldl_append, hrun]
            show (if run + 1 > (lost : Int) then none else some (run + 1)) = some (run + 1)
            rw [if_neg (by omega)]
        · wtm_at "jw"
          refine drawL w2 (by omega) (by omega) fun x H3 x0 x1 e3 w3 => ?_
          have hB3 := hB2.drew w2.at_ e3 nB
          wtm_at "jw"
          refine drawL w3 (by decide) (by decide) fun z H4 _ _ e4 w4 => ?_
          have hB4 := hB3.drew w3.at_ e4 nB
          wtm_at "jw"
          refine c_dec (fun hz => ?_) (fun hz => ?_)
          · wtm_at "jw"
            refine drawL w4 (by omega) (by omega) fun y H5 y0 y1 e5 w5 => ?_
            obtain ⟨us, hus, tus⟩ := hB4.drew w4.at_ e5 nB
            have hul := tus.len
            rw [List.length_map] at hul
            wtm_at "jw"
            intro T hT
            have tT : TD K (upd H5 T (.tup [.int x, .int (x + y)])) (.ref T) (fD [x, x + y]) := TD.new hT (.cons (.int _) (.cons (.int _) .nil))
            have hus3 := same_new (o := .tup [.int x, .int (x + y)]) hT _ _ hus
            have tus3 := tus.same (same_new (o := .tup [.int x, .int (x + y)]) hT)
            have w6 := w5.new (o := .tup [.int x, .int (x + y)]) hT
            generalize upd H5 T (.tup [.int x, .int (x + y)]) = H6 at w6 tT hus3 tus3 ⊢
            have hsm : us.length < sizeLine := small1000 (by omega)
            wtm_at "jw"
            refine ⟨w6.put d0 hBL, F ++ [[x, x + y]], 0, _, _, by rw [List.map_append]; exact LD.snoc hus3 tus3 tT, by simp [hFl], fun f hf => ?_, ?_, rfl⟩
            · rcases List.mem_append.mp hf with hf | hf
              · exact hFb f hf
              · exact .inr (.inr ⟨x, x + y, x0, by omega, by omega, List.mem_singleton.mp hf⟩)
            · rw [List.map_append, List.foldl_append, hrun]
              rfl
          · obtain ⟨us, hus, tus⟩ := hB4
            have hul := tus.len
            rw [List.length_map] at hul
            wtm_at "jw"
            intro T hT
            have tT : TD K (upd H4 T (.tup [.int x])) (.ref T) (fD [x]) := TD.new hT (.cons (.int _) .nil)
            have hus3 := same_new (o := .tup [.int x]) hT _ _ hus
            have tus3 := tus.same (same_new (o := .tup [.int x]) hT)
            have w6 := w4.new (o := .tup [.int x]) hT
            generalize upd H4 T (.tup [.int x]) = H6 at w6 tT hus3 tus3 ⊢
            have hsm : us.length < sizeLine := small1000 (by omega)
            wtm_at "jw"
            refine ⟨w6.put d0 hBL, F ++ [[x]], 0, _, _, by rw [List.map_append]; exact LD.snoc hus3 tus3 tT, by simp [hFl], fun f hf => ?_, ?_, rfl⟩
            · rcases List.mem_append.mp hf with hf | hf
              · exact hFb f hf
              · exact .inr (.inl ⟨x, x0, by omega, List.mem_singleton.mp hf⟩)
            · rw [List.map_append, List.foldl_append, hrun]
              rfl
      · wtm_at "jw"
        refine c_dec (fun h => ?_) (fun h => ?_)
        · wtm_at "jw"
          refine drawL w1 (by decide) (by decide) fun z H3 _ _ e3 w3 => ?_
          wtm_at "jw"
          exact hR _ _ ⟨e3, fun _ => h⟩
        · wtm_at "jw"
          exact hR _ _ ⟨w1.at_.drew, fun h => by cases h⟩
    · obtain ⟨w1, F, run, v6, v7, ⟨us, hus, tus⟩, hFl, hFb, hrun, rfl⟩ := h
      wtm_at "jw"
      intro T hT
      exact q _ F _ (w1.new hT) (TD.new hT tus) (by simpa using hFl) ⟨hFb, run, hrun⟩

def sp__law_rare (K : PySem.W.Frag) : Sp := fun vs H Q _ => ∃ (p a : Addr) (m : Int), vs = [.ref p, .int m] ∧ DrawAt H p a ∧ 0 < m ∧ m < 1000 ∧ ∀ b H', Drew p a H H' → Q (.bl b) H'
theorem ok__law_rare {P : Program} {w : World} {K : PySem.W.Frag} {mg : Str → Option Value} {base : Heap} {f : Addr} {fd : FuncData} (F : Df K mg "_law_rare" s__law_rare f fd ["d", "many"]) (T : Txt mg)
    (c__law_draw : Cl P w K mg base 1 "_law_draw" (sp__law_draw K)) : FnOk P w K mg base CX0 2 f fd ["d", "many"] (sp__law_rare K) := by
  refine F.ok sc__law_rare (fun vs H Q E h => ?_) (fun cdv A outer s H vs Q E hr h => ?_)
  · obtain ⟨p, a, m, rfl, _⟩ := h
    rfl
  · obtain ⟨p, a, m, rfl, d0, h0, h1, q⟩ := h
    refine ⟨_, (pss_one (ps_ret (pe_cmpR op_eq (pe_cl c__law_draw hr (by decide) rfl (pa_cons (pv 0) (pa_cons (pv 1) pa_nil))) (pe_op op_fdiv (pv 1) pe_int) (nomark _)))), ?_⟩
    try dsimp only [cxOf, Cx.nox, Cx.wish]
    refine st_of (σ' := [some _, some _]) rfl ?_
    wtm_at "jw"
    refine drawL d0.drew (by omega) (by omega) fun z H' _ _ e w => ?_
    wtm_at "jw"
    exact q _ _ w
/-! ### the law's own judge -/
def sp__law_is_int (K : PySem.W.Frag) : Sp := fun vs H Q _ => ∃ (v : V) (d : PyData), vs = [v] ∧ TD K H v d ∧ Q (.bl (isID d)) H
theorem ok__law_is_int {P : Program} {w : World} {K : PySem.W.Frag} {mg : Str → Option Value} {base : Heap} {f : Addr} {fd : FuncData} (F : Df K mg "_law_is_int" s__law_is_int f fd ["thing"]) (T : Txt mg) : FnOk P w K mg base CX0 1 f fd ["thing"] (sp__law_is_int K) := by
  refine F.ok sc__law_is_int (fun vs H Q E h => ?_) (fun cdv A outer s H vs Q E hr h => ?_)
  · obtain ⟨v, d, rfl, _⟩ := h
    rfl
  · obtain ⟨v, d, rfl, hv, q⟩ := h
    refine ⟨_, (pss_one (ps_ret (pe_and (pe_callB (id := "isinstance") (r := rIsi K) call_isi (by rfl) T.b_isinstance (by decide +kernel) (pa_cons (pv 0) (pa_cons (pe_bltn (v := .ty "int") (u := Value.type "int") (by rfl) T.b_int (by decide +kernel) rfl) pa_nil))) (pe_one (pe_not (pe_callB (id := "isinstance") (r := rIsi K) call_isi (by rfl) T.b_isinstance (by decide +kernel) (pa_cons (pv 0) (pa_cons (pe_bltn (v := .ty "bool") (u := Value.type "bool") (by rfl) T.b_bool (by decide +kernel) rfl) pa_nil)))))))), ?_⟩
    try dsimp only [cxOf, Cx.nox, Cx.wish]
    refine st_of (σ' := [some _]) rfl ?_
    cases d with
    | none =>
      obtain rfl := hv.non_inv
      wtm_at "jw"
      refine i_isi (.base .non) rfl ?_
      wtm_at "jw"
      exact q
    | bool b =>
      obtain rfl := hv.bl_inv
      wtm_at "jw"
      refine i_isi (b := true) (.base (.bl b)) (kit_ty (by decide +kernel)) ?_
      wtm_at "jw"
      refine i_isi (b := true) (.base (.bl b)) rfl ?_
      wtm_at "jw"
      exact q
    | int i =>
      obtain rfl := hv.int_inv
      wtm_at "jw"
      refine i_isi (.base (.int i)) rfl ?_
      wtm_at "jw"
      refine i_isi (.base (.int i)) rfl ?_
      wtm_at "jw"
      exact q
    | str s =>
      obtain rfl := hv.str_inv
      wtm_at "jw"
      refine i_isi (.base (.str s)) rfl ?_
      wtm_at "jw"
      exact q
    | tuple ds =>
      wtm_at "jw"
      refine i_isiT hv rfl ?_
      wtm_at "jw"
      exact q
    | list ds => cases hv
    | dict kvs => cases hv
theorem okI_no {lo hi : Int} {d : PyData} (h : isID d = false) : okI lo hi d = false := by
  cases d <;> first | rfl | cases h
def sp__law_is_fate (K : PySem.W.Frag) : Sp := fun vs H Q _ => ∃ (v : V) (d : PyData) (dl : Int), vs = [v, .int dl] ∧ TD K H v d ∧ Q (.bl (fateB dl d)) H
theorem ok__law_is_fate {P : Program} {w : World} {K : PySem.W.Frag} {mg : Str → Option Value} {base : Heap} {f : Addr} {fd : FuncData} (F : Df K mg "_law_is_fate" s__law_is_fate f fd ["thing", "late"]) (T : Txt mg)
    (c__law_is_int : Cl P w K mg base 1 "_law_is_int" (sp__law_is_int K)) : FnOk P w K mg base CX0 2 f fd ["thing", "late"] (sp__law_is_fate K) := by
  refine F.ok sc__law_is_fate (fun vs H Q E h => ?_) (fun cdv A outer s H vs Q E hr h => ?_)
  · obtain ⟨v, d, dl, rfl, _⟩ := h
    rfl
  · obtain ⟨v, d, dl, rfl, hv, q⟩ := h
    refine ⟨_, (pss_cons (ps_if (PW.pt (pw_or (pt_not (pt_val (pe_callB (id := "isinstance") (r := rIsi K) call_isi (by rfl) T.b_isinstance (by decide +kernel) (pa_cons (pv 0) (pa_cons (pe_bltn (v := .ty "tuple") (u := Value.type "tuple") (by rfl) T.b_tuple (by decide +kernel) rfl) pa_nil))))) (pw_or1 (pt_cmpR op_gt (pe_callB (id := "len") (r := qLen K) c_len (by rfl) T.b_len (by decide +kernel) (pa_cons (pv 0) pa_nil)) pe_int (nomark _))))) (pss_one (ps_ret pe_bl)) pss_nil)
      (pss_cons (ps_for PassesOwn.never rfl (pi_tup (pv 0)) (pg_name (i := 2) sc__law_is_fate.nd rfl (Or.inl rfl)) (pss_one (ps_if (PW.pt (pw_or (pt_not (pt_val (pe_cl c__law_is_int hr (by decide) rfl (pa_cons (pv 2) pa_nil)))) (pw_or1 (pt_not (pt_chain op_le op_le pe_int (pv 2) (pv 1)))))) (pss_one (ps_ret pe_bl)) pss_nil)))
      (pss_one (ps_ret (pe_or (pe_cmpR op_lt (pe_callB (id := "len") (r := qLen K) c_len (by rfl) T.b_len (by decide +kernel) (pa_cons (pv 0) pa_nil)) pe_int (nomark _)) (pe_one (pe_cmpR op_le (pe_ix (r := rIxT K) ix_tup (pv 0) pe_int (fun _ _ => rfl)) (pe_ix (r := rIxT K) ix_tup (pv 0) pe_int (fun _ _ => rfl)) (nomark _)))))))), ?_⟩
    try dsimp only [cxOf, Cx.nox, Cx.wish]
    refine st_of (σ' := [some _, some _, none]) rfl ?_
    wtm_at "jw"
    refine i_isiTup hv ?_
    cases d with
    | tuple ds =>
      obtain ⟨a, xs, rfl, hS, hT⟩ := hv.tup_inv
      unfold isTup
      wtm_at "jw"
      refine c_dec (fun h => ?_) (fun h => ?_)
      · have hn : ¬ ds.length ≤ 2 := by have := hT.len; omega
        rw [fateB_t, decide_eq_false hn, Bool.false_and, Bool.and_false] at q
        wtm_at "jw"
        exact q
      · have hn : ds.length ≤ 2 := by have := hT.len; omega
        rw [fateB_t, decide_eq_true hn, Bool.true_and] at q
        wtm_at "jw"
        refine f_tup (xs := xs) (fun i σ H' => H' = H ∧ (ds.take i).all (okI 0 dl) = true ∧ ∃ v1, σ = [some (.ref a), some (.int dl), v1]) ⟨rfl, rfl, none, rfl⟩ (fun i σ H' _ h => by rw [h.1]; exact hS) (fun i x σ H' hi' h => ?_) (fun σ H' h => ?_)
        · obtain ⟨rfl, hal, v1, rfl⟩ := h
          obtain ⟨d, hd, hx, e, _⟩ := hT.at hi'
          wtm_at "jw"
          refine ⟨x, d, rfl, hx, ?_⟩
          wtm_at "jw"
          cases hid : isID d with
          | false =>
            wtm_at "jw"
            rw [all_no hd (okI_no hid), Bool.false_and] at q
            exact q
          | true =>
            cases d with
            | int z =>
              obtain rfl := hx.int_inv
              wtm_at "jw"
              refine c_dec (fun h1 => ?_) (fun h1 => ?_)
              · wtm_at "jw"
                refine c_decN (fun h2 => ?_) (fun h2 => ?_)
                · wtm_at "jw"
                  rw [all_no hd (show okI 0 dl (.int z) = false by simp [okI, h2]), Bool.false_and] at q
                  exact q
                · wtm_at "jw"
                  exact ⟨rfl, all_take hal e (by simp [okI, h1, h2]), _, rfl⟩
              · wtm_at "jw"
                rw [all_no hd (show okI 0 dl (.int z) = false by simp [okI, h1]), Bool.false_and] at q
                exact q
            | _ => cases hid
        · obtain ⟨rfl, hal, v1, rfl⟩ := h
          rw [hT.len, List.take_length] at hal
          rw [hal, Bool.true_and] at q
          wtm_at "jw"
          refine c_dec (fun h2 => ?_) (fun h2 => ?_)
          · have hn2 : ds.length < 2 := by have := hT.len; omega
            rw [decide_eq_true hn2, Bool.true_or] at q
            exact q
          · have hn2 : ¬ ds.length < 2 := by have := hT.len; omega
            rw [decide_eq_false hn2, Bool.false_or] at q
            obtain ⟨x, y, rfl⟩ := len_two hn hn2
            rw [List.all_eq_true] at hal
            have hx := hal x (by simp)
            have hy := hal y (by simp)
            cases x with
            | int i =>
              cases y with
              | int j =>
                wtm_at "jw"
                exact q
              | _ => cases hy
            | _ => cases hx
    | _ =>
      unfold isTup
      wtm_at "jw"
      exact q
theorem fate_shp {dl : Int} {d : PyData} (h : fateB dl d = true) : Shp 1 d := by
  cases d with
  | tuple ds =>
    rw [fateB_t, Bool.and_eq_true, List.all_eq_true] at h
    refine Shp.tup fun x hx => ?_
    have := h.1 x hx
    cases x with
    | int z => exact Shp.int z
    | _ => cases this
  | _ => cases h
theorem len_em {fs : List PyData} : decide ((fs.length : Int) > 0) = !emT (.tuple fs) := by
  cases fs with
  | nil => rfl
  | cons x r => simp [emT]
theorem eqvL (L : List PyData) : PyData.eqv (.list L) (.list []) = L.isEmpty := by
  cases L with
  | nil => simp [PyData.eqv, PyData.eqvAll]
  | cons x r => simp [PyData.eqv, PyData.eqvAll]
def sp__law_is_fates (K : PySem.W.Frag) : Sp := fun vs H Q _ => ∃ (v : V) (d : PyData) (fr dl : Int) (l : Nat), vs = [v, .int fr, .int dl, .int (l : Int)] ∧ TD K H v d ∧ fr < 1000 ∧ l < 1000 ∧ ∀ H', Same H H' → Q (.bl (fatesB fr dl l d)) H'
theorem ok__law_is_fates {P : Program} {w : World} {K : PySem.W.Frag} {mg : Str → Option Value} {base : Heap} {f : Addr} {fd : FuncData} (F : Df K mg "_law_is_fates" s__law_is_fates f fd ["thing", "frames", "late", "lost"]) (T : Txt mg)
    (c__law_is_fate : Cl P w K mg base 2 "_law_is_fate" (sp__law_is_fate K)) : FnOk P w K mg base CX0 3 f fd ["thing", "frames", "late", "lost"] (sp__law_is_fates K) := by
  refine F.ok sc__law_is_fates (fun vs H Q E h => ?_) (fun cdv A outer s H vs Q E hr h => ?_)
  · obtain ⟨v, d, fr, dl, l, rfl, _⟩ := h
    rfl
  · obtain ⟨v, d, fr, dl, l, rfl, hv, f1, l1, q⟩ := h
    refine ⟨_, (pss_cons (ps_if (PW.pt (pw_or (pt_not (pt_val (pe_callB (id := "isinstance") (r := rIsi K) call_isi (by rfl) T.b_isinstance (by decide +kernel) (pa_cons (pv 0) (pa_cons (pe_bltn (v := .ty "tuple") (u := Value.type "tuple") (by rfl) T.b_tuple (by decide +kernel) rfl) pa_nil))))) (pw_or1 (pt_cmpR op_ne (pe_callB (id := "len") (r := qLen K) c_len (by rfl) T.b_len (by decide +kernel) (pa_cons (pv 0) pa_nil)) (pv 1) (nomark _))))) (pss_one (ps_ret pe_bl)) pss_nil)
      (pss_cons (ps_for PassesOwn.never rfl (pi_tup (pv 0)) (pg_name (i := 4) sc__law_is_fates.nd rfl (Or.inl rfl)) (pss_one (ps_if (pt_not (pt_val (pe_cl c__law_is_fate hr (by decide) rfl (pa_cons (pv 4) (pa_cons (pv 2) pa_nil))))) (pss_one (ps_ret pe_bl)) pss_nil)))
      (pss_cons (ps_for PassesOwn.never rfl (pi_range1 rfl T.b_range (pa_cons (pe_op op_sub (pv 1) (pv 3)) pa_nil)) (pg_name (i := 5) sc__law_is_fates.nd rfl (Or.inl rfl)) (pss_one (ps_if (pt_cmpR (r := rEqD K) (op_eqD hr.units) (pe_lc (own := [("fate", 4)]) (g := gName 4) rfl sc__law_is_fates.nd (pi_tup (pe_slice (r := rSlQ K) sl_tupQ (pv 0) (po_some (pv 5)) (po_some (pe_op op_add (pe_op op_add (pv 5) (pv 3)) pe_int)))) (blkOk_by (own := [("fate", 4)]) (N := N__law_is_fates) (sc := defScope s__law_is_fates) (by decide +kernel)) (fun _ _ _ _ _ => (pg_name (i := 4) sc__law_is_fates.nd rfl (Or.inl rfl))) (fun _ _ _ _ _ => pts_one (pt_cmpR op_gt (pe_callB (id := "len") (r := qLen K) c_len (by rfl) T.b_len (by decide +kernel) (pa_cons (pv 4) pa_nil)) pe_int (nomark _))) (fun _ _ _ _ _ => (pv 4))) (pe_lst pa_nil) (nomark _)) (pss_one (ps_ret pe_bl)) pss_nil)))
      (pss_one (ps_ret pe_bl))))), ?_⟩
    try dsimp only [cxOf, Cx.nox, Cx.wish]
    refine st_of (σ' := [some _, some _, some _, some _, none, none]) rfl ?_
    wtm_at "jw"
    refine i_isiTup hv ?_
    cases d with
    | tuple ds =>
      obtain ⟨a, xs, rfl, hS, hT⟩ := hv.tup_inv
      have hxl := hT.len
      unfold isTup
      wtm_at "jw"
      refine c_decN (fun h => ?_) (fun h => ?_)
      · have e1 : decide ((ds.length : Int) = fr) = false := decide_eq_false (by omega)
        rw [fatesB_t, e1] at q
        wtm_at "jw"
        exact q _ (Same.refl H)
      · have e1 : decide ((ds.length : Int) = fr) = true := decide_eq_true (by omega)
        have e1' : (ds.length : Int) = fr := by omega
        rw [fatesB_t, e1, Bool.true_and] at q
        wtm_at "jw"
        refine f_tup (xs := xs) (fun i σ H' => H' = H ∧ (ds.take i).all (fateB dl) = true ∧ ∃ v4, σ = [some (.ref a), some (.int fr), some (.int dl), some (.int (l : Int)), v4, none]) ⟨rfl, rfl, none, rfl⟩ (fun i σ H' _ h => by rw [h.1]; exact hS) (fun i x σ H' hi' h => ?_) (fun σ H' h => ?_)
        · obtain ⟨rfl, hal, v4, rfl⟩ := h
          obtain ⟨d, hd, hx, e, _⟩ := hT.at hi'
          wtm_at "jw"
          refine ⟨x, d, dl, rfl, hx, ?_⟩
          wtm_at "jw"
          cases hid : fateB dl d with
          | true =>
            wtm_at "jw"
            exact ⟨rfl, all_take hal e hid, _, rfl⟩
          | false =>
            wtm_at "jw"
            rw [all_no hd hid, Bool.false_and] at q
            exact q _ (Same.refl _)
        · obtain ⟨rfl, hal, v4, rfl⟩ := h
          rw [hT.len, List.take_length] at hal
          rw [hal, Bool.true_and, win_keep] at q
          rw [List.all_eq_true] at hal
          wtm_at "jw"
          refine f_range (fun i σ H2 => Same H' H2 ∧ ((List.range i).all fun f => ((ds.drop f).take (l + 1)).any fun d => !emT d) = true ∧ ∃ v4 v5, σ = [some (.ref a), some (.int fr), some (.int dl), some (.int (l : Int)), v4, v5]) ⟨Same.refl _, rfl, v4, none, rfl⟩ (fun i σ H2 hi h => ?_) (fun σ H2 h => ?_)
          · obtain ⟨s2, hal2, v4, v5, rfl⟩ := h
            rw [Int.zero_add]
            have hil : i + l < ds.length := by omega
            have hS2 := (Tps.of s2).sq hS
            wtm_at "jw"
            refine i_slA hS2 fun r H3 s3 hr3 => ?_
            have hT3 := ((hT.same s2).same s3).cut (some (i : Int)) (some ((i : Int) + (l : Int) + 1))
            rw [cut_win ds i l hil] at hT3
            have hmem : ∀ d ∈ (ds.drop i).take (l + 1), isTup d = true ∧ Shp 1 d := fun d hd => by
              have := hal d (List.mem_of_mem_drop (List.mem_of_mem_take hd))
              exact ⟨fate_tup this, fate_shp this⟩
            have q' : ((ds.drop i).take (l + 1)).any (fun d => !emT d) = false → ∀ H'', Same H' H'' → Q (.bl false) H'' := fun hn H'' s'' => by
              have e2 : winB l ds = false := rng_no (n := ds.length - l) (i := i) (by omega) hn
              rw [e2] at q
              exact q _ s''
            have al : ((ds.drop i).take (l + 1)).any (fun d => !emT d) = true → ((List.range (i + 1)).all fun f => ((ds.drop f).take (l + 1)).any fun d => !emT d) = true := fun hy => rng_all (n := i) hal2 hy
            have hwl : ((ds.drop i).take (l + 1)).length ≤ 1000 := by rw [List.length_take]; omega
            generalize (ds.drop i).take (l + 1) = ws at hT3 hmem q' al hwl
            generalize cutV xs (some (i : Int)) (some ((i : Int) + (l : Int) + 1)) = us at hr3 hT3
            wtm_at "jw"
            intro C hC
            refine l_tup (xs := us) (fun j H4 => Same H3 H4 ∧ LD K H4 C ((ws.take j).filter fun d => !emT d)) ⟨same_new hC, .new hC .nil⟩ (fun j H4 _ h => (Tps.of h.1).sq hr3) (fun j x H4 hj h => ?_) (fun H4 h => ?_)
            · obtain ⟨s4, zs, hz, tz⟩ := h
              obtain ⟨d, hd, hx, e, hjw⟩ := hT3.at hj
              have hdm := (hmem d (List.mem_of_getElem? hd)).1
              have hx4 := hx.same s4
              rw [e, List.filter_append]
              cases d with
              | tuple fs =>
                wtm_at "jw"
                refine ⟨rfl, ?_⟩
                wtm_at "jw"
                have hzl : zs.length ≤ 1000 := by
                  rw [tz.len]
                  refine Nat.le_trans (List.length_filter_le _ _) (Nat.le_trans ?_ hwl)
                  rw [List.length_take]
                  omega
                refine c_dec (fun h => ?_) (fun h => ?_)
                · have e3 : (!emT (.tuple fs)) = true := by rw [← len_em]; exact decide_eq_true h
                  rw [List.filter_cons_of_pos (p := fun d => !emT d) e3, List.filter_nil]
                  wtm_at "jw"
                  exact ⟨zs, hz, small1000 hzl, put_same s4 hC, LD.snoc hz tz hx4⟩
                · have e3 : ¬ (!emT (.tuple fs)) = true := by rw [← len_em]; exact fun z => h (of_decide_eq_true z)
                  rw [List.filter_cons_of_neg (p := fun d => !emT d) e3, List.filter_nil, List.append_nil]
                  wtm_at "jw"
                  exact ⟨s4, zs, hz, tz⟩
              | _ => cases hdm
            · obtain ⟨s4, zs, hz, tz⟩ := h
              rw [hT3.len, List.take_length] at tz
              wtm_at "jw"
              intro N hN
              have s5 := same_new (o := .lst []) hN
              have hall : ∀ d ∈ ws.filter (fun d => !emT d), Shp 1 d := fun d hd => (hmem d (List.mem_filter.mp hd).1).2
              refine i_eqD (d := .list (ws.filter fun d => !emT d)) (e := .list []) (n := 2) (m := 1) (.lst (SqL.of (s5 _ _ hz)) (tz.same s5).dp) (.lst (SqL.of upd_same) .nil) (Shp.lst hall) (Shp.lst (n := 0) fun _ h => by cases h) (by decide) (by decide) ?_
              rw [eqvL]
              wtm_at "jw"
              have hany : ws.any (fun d => !emT d) = !(ws.filter fun d => !emT d).isEmpty := by
                rw [Bool.eq_iff_iff, List.any_eq_true]
                simp
              cases e3 : (ws.filter fun d => !emT d).isEmpty with
              | true =>
                rw [e3] at hany
                wtm_at "jw"
                exact q' hany _ (((s2.trans s3).trans s4).trans s5)
              | false =>
                rw [e3] at hany
                wtm_at "jw"
                exact ⟨((s2.trans s3).trans s4).trans s5, al hany, _, _, rfl⟩
          · obtain ⟨s2, hal2, v4, v5, rfl⟩ := h
            have e2 : winB l ds = true := by
              unfold winB
              rw [← hal2]
              congr 2
              omega
            rw [e2] at q
            wtm_at "jw"
            exact q _ s2
    | _ =>
      unfold isTup
      wtm_at "jw"
      exact q _ (Same.refl H)
def sp__law_lets (K : PySem.W.Frag) : Sp := fun vs H Q _ => ∃ (v : V) (na : Addr) (d : PyData) (S R l : Nat) (fr dl : Int), vs = [v, .ref na] ∧ SqT K H na [.int (S : Int), .int (R : Int), .int fr, .int dl, .int (l : Int)] ∧ TD K H v d ∧ Shp 20 d ∧ S < 1000 ∧ R < 1000 ∧ fr < 1000 ∧ l < 1000 ∧ ∀ H', Same H H' → Q (.bl (roadB S R fr dl l d)) H'
theorem ok__law_lets {P : Program} {w : World} {K : PySem.W.Frag} {mg : Str → Option Value} {base : Heap} {f : Addr} {fd : FuncData} (F : Df K mg "_law_lets" s__law_lets f fd ["road", "numbers"]) (T : Txt mg)
    (c__law_is_fates : Cl P w K mg base 3 "_law_is_fates" (sp__law_is_fates K)) : FnOk P w K mg base CX0 4 f fd ["road", "numbers"] (sp__law_lets K) := by
  refine F.ok sc__law_lets (fun vs H Q E h => ?_) (fun cdv A outer s H vs Q E hr h => ?_)
  · obtain ⟨v, na, d, S, R, l, fr, dl, rfl, _⟩ := h
    rfl
  · obtain ⟨v, na, d, S, R, l, fr, dl, rfl, hn, hv, shp, hS1, hR1, hf1, hl1, q⟩ := h
    refine ⟨_, (pss_cons (ps_asg (pv 1) (pg_tupK (K := K) rfl rfl (pgs_cons (pg_name (i := 2) sc__law_lets.nd rfl (Or.inl rfl)) (pgs_cons (pg_name (i := 3) sc__law_lets.nd rfl (Or.inl rfl)) (pgs_cons (pg_name (i := 4) sc__law_lets.nd rfl (Or.inl rfl)) (pgs_cons (pg_name (i := 5) sc__law_lets.nd rfl (Or.inl rfl)) (pgs_cons (pg_name (i := 6) sc__law_lets.nd rfl (Or.inl rfl)) pgs_nil)))))))
      (pss_cons (ps_if (PW.pt (pw_or (pt_not (pt_val (pe_callB (id := "isinstance") (r := rIsi K) call_isi (by rfl) T.b_isinstance (by decide +kernel) (pa_cons (pv 0) (pa_cons (pe_bltn (v := .ty "tuple") (u := Value.type "tuple") (by rfl) T.b_tuple (by decide +kernel) rfl) pa_nil))))) (pw_or1 (pt_cmpR op_ne (pe_callB (id := "len") (r := qLen K) c_len (by rfl) T.b_len (by decide +kernel) (pa_cons (pv 0) pa_nil)) (pv 2) (nomark _))))) (pss_one (ps_ret pe_bl)) pss_nil)
      (pss_cons (ps_for PassesOwn.never rfl (pi_range1 rfl T.b_range (pa_cons (pv 2) pa_nil)) (pg_name (i := 7) sc__law_lets.nd rfl (Or.inl rfl)) (pss_cons (ps_set (i := 8) sc__law_lets.nd rfl (Or.inl rfl) (pe_ix (r := rIxT K) ix_tup (pv 0) (pv 7) (fun _ _ => rfl)))
      (pss_cons (ps_if (PW.pt (pw_or (pt_not (pt_val (pe_callB (id := "isinstance") (r := rIsi K) call_isi (by rfl) T.b_isinstance (by decide +kernel) (pa_cons (pv 8) (pa_cons (pe_bltn (v := .ty "tuple") (u := Value.type "tuple") (by rfl) T.b_tuple (by decide +kernel) rfl) pa_nil))))) (pw_or1 (pt_cmpR op_ne (pe_callB (id := "len") (r := qLen K) c_len (by rfl) T.b_len (by decide +kernel) (pa_cons (pv 8) pa_nil)) (pv 3) (nomark _))))) (pss_one (ps_ret pe_bl)) pss_nil)
      (pss_one (ps_for PassesOwn.never rfl (pi_range1 rfl T.b_range (pa_cons (pv 3) pa_nil)) (pg_name (i := 9) sc__law_lets.nd rfl (Or.inl rfl)) (pss_cons (ps_set (i := 10) sc__law_lets.nd rfl (Or.inl rfl) (pe_ix (r := rIxT K) ix_tup (pv 8) (pv 9) (fun _ _ => rfl)))
      (pss_one (ps_if (pt_cmpR op_eq (pv 9) (pv 7) (nomark _)) (pss_one (ps_if (PW.pt (pw_or (pt_not (pt_val (pe_callB (id := "isinstance") (r := rIsi K) call_isi (by rfl) T.b_isinstance (by decide +kernel) (pa_cons (pv 10) (pa_cons (pe_bltn (v := .ty "tuple") (u := Value.type "tuple") (by rfl) T.b_tuple (by decide +kernel) rfl) pa_nil))))) (pw_or1 (pt_cmpR op_gt (pe_callB (id := "len") (r := qLen K) c_len (by rfl) T.b_len (by decide +kernel) (pa_cons (pv 10) pa_nil)) pe_int (nomark _))))) (pss_one (ps_ret pe_bl)) pss_nil)) (pss_one (ps_if (pt_not (pt_val (pe_cl c__law_is_fates hr (by decide) rfl (pa_cons (pv 10) (pa_cons (pv 4) (pa_cons (pv 5) (pa_cons (pv 6) pa_nil))))))) (pss_one (ps_ret pe_bl)) pss_nil))))))))))
      (pss_one (ps_ret pe_bl))))), ?_⟩
    try dsimp only [cxOf, Cx.nox, Cx.wish]
    refine st_of (σ' := [some _, some _, none, none, none, none, none, none, none, none, none]) rfl ?_
    wtm_at "jw"
    refine i_isiTup hv ?_
    cases d with
    | tuple ds =>
      unfold isTup
      wtm_at "jw"
      refine c_decN (fun h => ?_) (fun h => ?_)
      · have e1 : decide ((ds.length : Int) = (S : Int)) = false := decide_eq_false h
        rw [roadB_t, e1] at q
        wtm_at "jw"
        exact q _ (Same.refl H)
      · have e1 : decide ((ds.length : Int) = (S : Int)) = true := decide_eq_true h
        rw [roadB_t, e1, Bool.true_and] at q
        wtm_at "jw"
        refine f_range (fun i σ H' => Same H H' ∧ ((List.range i).all fun s => rowsB R fr dl l s (gD ds s)) = true ∧ ∃ (v6 v7 v8 v9 : Option V), σ = [some v, some (.ref na), some (.int (S : Int)), some (.int (R : Int)), some (.int fr), some (.int dl), some (.int (l : Int)), v6, v7, v8, v9])
          ⟨Same.refl H, rfl, none, none, none, none, rfl⟩ (fun i σ H' hi h => ?_) (fun σ H' h => ?_)
        · obtain ⟨s1, hal, v6, v7, v8, v9, rfl⟩ := h
          rw [Int.zero_add]
          have hi' : i < S := by simpa using hi
          have ei : ds[((i : Nat) : Int).toNat]? = some (gD ds i) := by rw [Int.toNat_natCast]; exact gD_at (by omega)
          have i0 : (0 : Int) ≤ (i : Int) := by omega
          have hv1 := hv.same s1
          have shr : Shp 19 (gD ds i) := Shp.item shp (List.mem_of_getElem? (gD_at (by omega)))
          wtm_at "jw"
          rename_i y hy
          refine i_isiTup (d := gD ds i) (by assumption) ?_
          generalize hg : gD ds i = g at ei hy shr
          cases g with
          | tuple cs =>
            unfold isTup
            wtm_at "jw"
            refine c_decN (fun h => ?_) (fun h => ?_)
            · have e2 : rowsB R fr dl l i (gD ds i) = false := by rw [hg, rowsB_t, decide_eq_false h, Bool.false_and]
              rw [rng_no hi' e2] at q
              wtm_at "jw"
              exact q _ s1
            · have e4 : rowsB R fr dl l i (gD ds i) = (List.range R).all fun r => cellB fr dl l i r (gD cs r) := by rw [hg, rowsB_t, decide_eq_true h, Bool.true_and]
              wtm_at "jw"
              refine f_range (fun j σ H' => Same H H' ∧ TD K H' y (.tuple cs) ∧ ((List.range j).all fun r => cellB fr dl l i r (gD cs r)) = true ∧ ∃ (v8 v9 : Option V), σ = [some v, some (.ref na), some (.int (S : Int)), some (.int (R : Int)), some (.int fr), some (.int dl), some (.int (l : Int)), some (.int (i : Int)), some y, v8, v9])
                ⟨s1, hy, rfl, v8, v9, rfl⟩ (fun j σ H' hj h => ?_) (fun σ H' h => ?_)
              · obtain ⟨s2, hy2, hal2, v8, v9, rfl⟩ := h
                rw [Int.zero_add]
                have hj' : j < R := by simpa using hj
                have ej : cs[((j : Nat) : Int).toNat]? = some (gD cs j) := by rw [Int.toNat_natCast]; exact gD_at (by omega)
                have j0 : (0 : Int) ≤ (j : Int) := by omega
                have shc : Shp 18 (gD cs j) := Shp.item shr (List.mem_of_getElem? (gD_at (by omega)))
                wtm_at "jw"
                rename_i c hc
                refine c_dec (fun h => ?_) (fun h => ?_)
                · have h' : j = i := by omega
                  have e5 : cellB fr dl l i j (gD cs j) = emT (gD cs j) := by unfold cellB; rw [if_pos h', eqv_nilB _ shc.1]
                  have no : emT (gD cs j) = false → Q (.bl false) H' := fun e6 => by
                    rw [e6] at e5
                    rw [rng_no hj' e5] at e4
                    rw [rng_no hi' e4] at q
                    exact q _ s2
                  have yes : emT (gD cs j) = true → ((List.range (j + 1)).all fun r => cellB fr dl l i r (gD cs r)) = true := fun e6 => by
                    rw [e6] at e5
                    exact rng_all (n := R) hal2 e5
                  generalize gD cs j = c' at hc no yes
                  wtm_at "jw"
                  refine i_isiTup hc ?_
                  cases c' with
                  | tuple fs =>
                    unfold isTup
                    wtm_at "jw"
                    refine c_dec (fun h => ?_) (fun h => ?_)
                    · wtm_at "jw"
                      refine no ?_
                      cases fs with
                      | nil => simp at h
                      | cons x r => rfl
                    · wtm_at "jw"
                      refine ⟨s2, hy2, yes ?_, _, _, rfl⟩
                      cases fs with
                      | nil => rfl
                      | cons x r => exfalso; rw [List.length_cons] at h; omega
                  | _ =>
                    unfold isTup
                    wtm_at "jw"
                    exact no rfl
                · have h' : ¬ j = i := by omega
                  have e5 : cellB fr dl l i j (gD cs j) = fatesB fr dl l (gD cs j) := by unfold cellB; rw [if_neg h']
                  wtm_at "jw"
                  refine ⟨c, _, fr, dl, l, rfl, hc, hf1, hl1, fun H3 s3 => ?_⟩
                  wtm_at "jw"
                  cases e6 : fatesB fr dl l (gD cs j) with
                  | false =>
                    wtm_at "jw"
                    rw [e6] at e5
                    rw [rng_no hj' e5] at e4
                    rw [rng_no hi' e4] at q
                    exact q _ (s2.trans s3)
                  | true =>
                    wtm_at "jw"
                    rw [e6] at e5
                    exact ⟨s2.trans s3, hy2.same s3, rng_all (n := R) hal2 e5, _, _, rfl⟩
              · obtain ⟨s2, hy2, hal2, v8, v9, rfl⟩ := h
                rw [show ((R : Nat) : Int).toNat = R from Int.toNat_natCast R] at hal2
                rw [hal2] at e4
                exact ⟨s2, rng_all (n := S) hal e4, _, _, _, _, rfl⟩
          | _ =>
            have e2 : rowsB R fr dl l i (gD ds i) = false := by rw [hg]; rfl
            rw [rng_no hi' e2] at q
            unfold isTup
            wtm_at "jw"
            exact q _ s1
        · obtain ⟨s1, hal, v6, v7, v8, v9, rfl⟩ := h
          rw [show ((S : Nat) : Int).toNat = S from Int.toNat_natCast S] at hal
          rw [hal] at q
          wtm_at "jw"
          exact q _ s1
    | _ =>
      unfold isTup
      wtm_at "jw"
      exact q _ (Same.refl H)
def sp__law_is_judged (K : PySem.W.Frag) : Sp := fun vs H Q _ => ∃ (v : V) (na : Addr) (d : PyData) (S R l : Nat) (fr dl : Int), vs = [v, .ref na] ∧ SqT K H na [.int (S : Int), .int (R : Int), .int fr, .int dl, .int (l : Int)] ∧ TD K H v d ∧ Shp 20 d ∧ S < 1000 ∧ R < 1000 ∧ fr < 1000 ∧ l < 1000 ∧ ∀ H', Same H H' → Q (.bl true) H'
theorem ok__law_is_judged {P : Program} {w : World} {K : PySem.W.Frag} {mg : Str → Option Value} {base : Heap} {f : Addr} {fd : FuncData} (F : Df K mg "_law_is_judged" s__law_is_judged f fd ["road", "numbers"]) (T : Txt mg)
    (c_is_road : Cl P w K mg base 6 "is_road" (sp_is_road K))
    (c__law_lets : Cl P w K mg base 4 "_law_lets" (sp__law_lets K)) : FnOk P w K mg base CX0 7 f fd ["road", "numbers"] (sp__law_is_judged K) := by
  refine F.ok sc__law_is_judged (fun vs H Q E h => ?_) (fun cdv A outer s H vs Q E hr h => ?_)
  · obtain ⟨v, na, d, S, R, l, fr, dl, rfl, _⟩ := h
    rfl
  · obtain ⟨v, na, d, S, R, l, fr, dl, rfl, hn, hv, shp, hS1, hR1, hf1, hl1, q⟩ := h
    refine ⟨_, (pss_cons (ps_asg (pv 1) (pg_tupK (K := K) rfl rfl (pgs_cons (pg_name (i := 2) sc__law_is_judged.nd rfl (Or.inl rfl)) (pgs_cons (pg_name (i := 3) sc__law_is_judged.nd rfl (Or.inl rfl)) (pgs_cons (pg_name (i := 4) sc__law_is_judged.nd rfl (Or.inl rfl)) (pgs_cons (pg_name (i := 5) sc__law_is_judged.nd rfl (Or.inl rfl)) (pgs_cons (pg_name (i := 6) sc__law_is_judged.nd rfl (Or.inl rfl)) pgs_nil)))))))
      (pss_cons (ps_set (i := 7) sc__law_is_judged.nd rfl (Or.inl rfl) (pe_cl c_is_road hr (by decide) rfl (pa_cons (pv 0) (pa_cons (pv 2) (pa_cons (pv 3) (pa_cons (pv 4) (pa_cons (pv 5) (pa_cons (pv 6) pa_nil))))))))
      (pss_one (ps_ret (pe_and (pe_callB (id := "isinstance") (r := rIsi K) call_isi (by rfl) T.b_isinstance (by decide +kernel) (pa_cons (pv 7) (pa_cons (pe_bltn (v := .ty "bool") (u := Value.type "bool") (by rfl) T.b_bool (by decide +kernel) rfl) pa_nil))) (pe_one (pe_cmpR op_eq (pv 7) (pe_cl c__law_lets hr (by decide) rfl (pa_cons (pv 0) (pa_cons (pv 1) pa_nil))) (nomark _)))))))), ?_⟩
    try dsimp only [cxOf, Cx.nox, Cx.wish]
    refine st_of (σ' := [some _, some _, none, none, none, none, none, none]) rfl ?_
    wtm_at "jw"
    refine ⟨v, d, S, R, fr, dl, l, rfl, hv, shp, hS1, hR1, fun H1 s1 => ?_⟩
    wtm_at "jw"
    refine i_isi (.base (.bl _)) rfl ?_
    wtm_at "jw"
    refine ⟨v, na, d, S, R, l, fr, dl, rfl, (Tps.of s1).sq hn, hv.same s1, shp, hS1, hR1, hf1, hl1, fun H2 s2 => ?_⟩
    wtm_at "jw"
    rw [show decide (roadB S R fr dl l d = roadB S R fr dl l d) = true from decide_eq_true rfl]
    exact q _ (s1.trans s2)
/-! ### the law's drawn roads -/
local macro_rules | `(tactic| wtm_at "jls") => `(tactic| repeat ((fail_if_success (with_reducible refine' i_lst ?_)); (fail_if_success (with_reducible refine' (i_op (r := rCat) ?_))); (fail_if_success (with_reducible refine' i_drop ?_)); wtm_at "jw1"))
def sp__law_one_fate (K : PySem.W.Frag) : Sp := fun vs H Q _ => ∃ (p a : Addr) (late : Int), vs = [.ref p, .int late] ∧ DrawAt H p a ∧ 0 ≤ late ∧ late < 1000 ∧ ∀ v d H', Drew p a H H' → TD K H' v d → Shp 1 d → Q v H'
theorem ok__law_one_fate {P : Program} {w : World} {K : PySem.W.Frag} {mg : Str → Option Value} {base : Heap} {f : Addr} {fd : FuncData} (F : Df K mg "_law_one_fate" s__law_one_fate f fd ["d", "late"]) (T : Txt mg)
    (c__law_draw : Cl P w K mg base 1 "_law_draw" (sp__law_draw K)) : FnOk P w K mg base CX0 2 f fd ["d", "late"] (sp__law_one_fate K) := by
  refine F.ok sc__law_one_fate (fun vs H Q E h => ?_) (fun cdv A outer s H vs Q E hr h => ?_)
  · obtain ⟨p, a, late, rfl, _⟩ := h
    rfl
  · obtain ⟨p, a, late, rfl, d0, l0, l1, q⟩ := h
    refine ⟨_, (pss_cons (ps_set (i := 2) sc__law_one_fate.nd rfl (Or.inl rfl) (pe_cl c__law_draw hr (by decide) rfl (pa_cons (pv 0) (pa_cons (pe_op op_add (pv 1) pe_int) pa_nil))))
      (pss_cons (ps_if (pt_cmpR op_eq (pe_cl c__law_draw hr (by decide) rfl (pa_cons (pv 0) (pa_cons pe_int pa_nil))) pe_int (nomark _)) (pss_one (ps_ret (pe_tup (pa_cons (pv 2) (pa_cons (pe_op op_add (pv 2) (pe_cl c__law_draw hr (by decide) rfl (pa_cons (pv 0) (pa_cons (pe_op op_sub (pe_op op_add (pv 1) pe_int) (pv 2)) pa_nil)))) pa_nil))))) pss_nil)
      (pss_one (ps_ret (pe_tup (pa_cons (pv 2) pa_nil)))))), ?_⟩
    try dsimp only [cxOf, Cx.nox, Cx.wish]
    refine st_of (σ' := [some _, some _, none]) rfl ?_
    wtm_at "jw"
    refine drawL d0.drew (by omega) (by omega) fun x H1 x0 x1 e1 w1 => ?_
    wtm_at "jw"
    refine drawL w1 (by decide) (by decide) fun z H2 _ _ e2 w2 => ?_
    wtm_at "jw"
    refine c_dec (fun hz => ?_) (fun hz => ?_)
    · wtm_at "jw"
      refine drawL w2 (by omega) (by omega) fun y H3 y0 y1 e3 w3 => ?_
      wtm_at "jw"
      intro T hT
      exact q _ _ _ (w3.new hT) (TD.new (ds := [.int x, .int (x + y)]) hT (.cons (.int _) (.cons (.int _) .nil))) (shp_ints [x, x + y])
    · wtm_at "jw"
      intro T hT
      exact q _ _ _ (w2.new hT) (TD.new (ds := [.int x]) hT (.cons (.int _) .nil)) (shp_ints [x])
theorem min_nat (f m : Nat) : (if (m : Int) < (f : Int) then (m : Int) else (f : Int)) = ((min f m : Nat) : Int) := by
  split <;> omega
/-- a row of fates, drawn -/
def RowD (fr : Nat) (d : PyData) : Prop := ∃ fs, d = .tuple fs ∧ fs.length = fr ∧ ∀ f ∈ fs, Shp 1 f
theorem RowD.nil_or {fr : Nat} {d : PyData} (h : RowD fr d) : Shp 2 d := by
  obtain ⟨fs, rfl, _, h⟩ := h
  exact Shp.tup h
theorem emp1 : Shp 1 (.tuple []) := Shp.tup fun _ h => by cases h
def sp__law_lost_run (K : PySem.W.Frag) : Sp := fun vs H Q _ => ∃ (p a : Addr) (fr late many : Nat), vs = [.ref p, .int (fr : Int), .int (late : Int), .int (many : Int)] ∧ DrawAt H p a ∧ many ≤ fr ∧ fr < 1000 ∧ late < 1000 ∧ ∀ v d H', Drew p a H H' → TD K H' v d → RowD fr d → Q v H'
theorem ok__law_lost_run {P : Program} {w : World} {K : PySem.W.Frag} {mg : Str → Option Value} {base : Heap} {f : Addr} {fd : FuncData} (F : Df K mg "_law_lost_run" s__law_lost_run f fd ["d", "frames", "late", "many"]) (T : Txt mg)
    (c__law_draw : Cl P w K mg base 1 "_law_draw" (sp__law_draw K))
    (c__law_one_fate : Cl P w K mg base 2 "_law_one_fate" (sp__law_one_fate K)) : FnOk P w K mg base CX0 3 f fd ["d", "frames", "late", "many"] (sp__law_lost_run K) := by
  refine F.ok sc__law_lost_run (fun vs H Q E h => ?_) (fun cdv A outer s H vs Q E hr h => ?_)
  · obtain ⟨p, a, fr, late, many, rfl, _⟩ := h
    rfl
  · obtain ⟨p, a, fr, late, many, rfl, d0, m1, f1, l1, q⟩ := h
    refine ⟨_, (pss_cons (ps_set (i := 4) sc__law_lost_run.nd rfl (Or.inl rfl) (pe_cl c__law_draw hr (by decide) rfl (pa_cons (pv 0) (pa_cons (pe_op op_add (pe_op op_sub (pv 1) (pv 3)) pe_int) pa_nil))))
      (pss_cons (ps_set (i := 5) sc__law_lost_run.nd rfl (Or.inl rfl) (pe_lst pa_nil))
      (pss_cons (ps_for PassesOwn.never rfl (pi_range1 rfl T.b_range (pa_cons (pv 1) pa_nil)) (pg_name (i := 6) sc__law_lost_run.nd rfl (Or.inl rfl)) (pss_one (ps_expr (pe_bmK (K := K) rfl PySem.F.plainAttrs_list PySem.F.slot_list_append PySem.F.type_list_append mt_append (pv 5) (pa_cons (pe_ifExp (pt_chain op_le op_lt (pv 4) (pv 6) (pe_op op_add (pv 4) (pv 3))) (pe_tup pa_nil) (pe_cl c__law_one_fate hr (by decide) rfl (pa_cons (pv 0) (pa_cons (pv 2) pa_nil)))) pa_nil)))))
      (pss_one (ps_ret (pe_callTy (T := "tuple") (r := rTupOf K) c_tup (by rfl) T.b_tuple (by decide +kernel) (pa_cons (pv 5) pa_nil))))))), ?_⟩
    try dsimp only [cxOf, Cx.nox, Cx.wish]
    refine st_of (σ' := [some _, some _, some _, some _, none, none, none]) rfl ?_
    wtm_at "jw"
    refine drawL d0.drew (by omega) (by omega) fun x H1 x0 x1 e1 w1 => ?_
    wtm_at "jw"
    intro BL hBL
    have BLH := w1.free hBL
    have hB2 : LD K (upd H1 BL (.lst [])) BL [] := .new hBL .nil
    have w2 := w1.new (o := .lst []) hBL
    generalize upd H1 BL (.lst []) = H2 at hB2 w2 ⊢
    wtm_at "jw"
    refine f_range (fun i σ H' => Drew p a H H' ∧ ∃ ds v6, LD K H' BL ds ∧ ds.length = i ∧ (∀ d ∈ ds, Shp 1 d) ∧ σ = [some (.ref p), some (.int (fr : Int)), some (.int (late : Int)), some (.int (many : Int)), some (.int x), some (.ref BL), v6])
      ⟨w2, [], none, hB2, rfl, fun d h => (by cases h), rfl⟩ (fun i σ H' hi h => ?_) (fun σ H' h => ?_)
    · obtain ⟨w3, ds, v6, hB3, dl, hds, rfl⟩ := h
      have hi' : i < fr := by simpa using hi
      wtm_at "jw1"
      refine de_app (n := 1) rfl d0 w3 BLH hB3 (fun H4 Q' w q' => ?_) (by omega) fun d H4 w4 hB4 sd => ⟨w4, ds ++ [d], _, hB4, by simp [dl], shp_snoc hds sd, rfl⟩
      have emp : ∀ T, H4 T = none → Q' (.ref T) (upd H4 T (.tup [])) := fun T hT => q' _ _ _ (w.at_.drew.new hT) (TD.new (ds := []) hT .nil) emp1
      have one : ∀ E', sp__law_one_fate K [.ref p, .int (late : Int)] H4 Q' E' := fun E' => ⟨p, a, _, rfl, w.at_, by omega, by omega, fun v d H' e t s => q' v d H' e t s⟩
      wtm_at "jw"
      refine c_dec (fun h => ?_) (fun h => ?_)
      · wtm_at "jw"
        refine c_dec (fun h => ?_) (fun h => ?_)
        · wtm_at "jw"
          exact emp
        · wtm_at "jw"
          exact one _
      · wtm_at "jw"
        exact one _
    · obtain ⟨w3, ds, v6, ⟨us, hus, tus⟩, dl, hds, rfl⟩ := h
      wtm_at "jw"
      intro T hT
      exact q _ _ _ (w3.new hT) (TD.new hT tus) ⟨ds, rfl, by simpa using dl, hds⟩
def sp__law_right_fates (K : PySem.W.Frag) : Sp := fun vs H Q _ => ∃ (p a : Addr) (fr late lost : Nat), vs = [.ref p, .int (fr : Int), .int (late : Int), .int (lost : Int)] ∧ DrawAt H p a ∧ fr < 1000 ∧ late < 1000 ∧ lost < 1000 ∧ ∀ v d H', Drew p a H H' → TD K H' v d → RowD fr d → Q v H'
theorem ok__law_right_fates {P : Program} {w : World} {K : PySem.W.Frag} {mg : Str → Option Value} {base : Heap} {f : Addr} {fd : FuncData} (F : Df K mg "_law_right_fates" s__law_right_fates f fd ["d", "frames", "late", "lost"]) (T : Txt mg)
    (c__law_draw : Cl P w K mg base 1 "_law_draw" (sp__law_draw K))
    (c__law_fates : Cl P w K mg base 2 "_law_fates" (sp__law_fates K))
    (c__law_lost_run : Cl P w K mg base 3 "_law_lost_run" (sp__law_lost_run K))
    (c__law_one_fate : Cl P w K mg base 2 "_law_one_fate" (sp__law_one_fate K)) : FnOk P w K mg base CX0 4 f fd ["d", "frames", "late", "lost"] (sp__law_right_fates K) := by
  refine F.ok sc__law_right_fates (fun vs H Q E h => ?_) (fun cdv A outer s H vs Q E hr h => ?_)
  · obtain ⟨p, a, fr, late, lost, rfl, _⟩ := h
    rfl
  · obtain ⟨p, a, fr, late, lost, rfl, d0, f1, l1, l2, q⟩ := h
    refine ⟨_, (pss_cons (ps_set (i := 4) sc__law_right_fates.nd rfl (Or.inl rfl) (pe_cl c__law_draw hr (by decide) rfl (pa_cons (pv 0) (pa_cons pe_int pa_nil))))
      (pss_cons (ps_if (pt_cmpR op_eq (pv 4) pe_int (nomark _)) (pss_one (ps_ret (pe_cl c__law_fates hr (by decide) rfl (pa_cons (pv 0) (pa_cons (pv 1) (pa_cons (pv 2) (pa_cons (pv 3) pa_nil))))))) pss_nil)
      (pss_cons (ps_if (pt_cmpR op_eq (pv 4) pe_int (nomark _)) (pss_one (ps_ret (pe_cl c__law_lost_run hr (by decide) rfl (pa_cons (pv 0) (pa_cons (pv 1) (pa_cons (pv 2) (pa_cons (pe_callB (id := "min") (c_min2 rfl) (by rfl) T.b_min (by decide +kernel) (pa_cons (pv 1) (pa_cons (pv 3) pa_nil))) pa_nil))))))) pss_nil)
      (pss_cons (ps_if (pt_cmpR op_eq (pv 4) pe_int (nomark _)) (pss_one (ps_ret (pe_callTy (T := "tuple") (r := rTupOf K) c_tup (by rfl) T.b_tuple (by decide +kernel) (pa_cons (pe_lc (own := [("frame", 5)]) (g := gName 5) (tt := tYes) rfl sc__law_right_fates.nd (pi_range1 rfl T.b_range (pa_cons (pv 1) pa_nil)) (blkOk_by (own := [("frame", 5)]) (N := N__law_right_fates) (sc := defScope s__law_right_fates) (by decide +kernel)) (fun _ _ _ _ _ => (pg_name (i := 5) sc__law_right_fates.nd rfl (Or.inl rfl))) (fun _ _ _ _ _ => pts_nil) (fun _ _ _ _ _ => (pe_tup (pa_cons (pv 2) (pa_cons (pv 2) pa_nil))))) pa_nil)))) pss_nil)
      (pss_cons (ps_set (i := 6) sc__law_right_fates.nd rfl (Or.inl rfl) (pe_cl c__law_draw hr (by decide) rfl (pa_cons (pv 0) (pa_cons (pe_op op_add (pv 3) pe_int) pa_nil))))
      (pss_cons (ps_set (i := 7) sc__law_right_fates.nd rfl (Or.inl rfl) (pe_lst pa_nil))
      (pss_cons (ps_for PassesOwn.never rfl (pi_range1 rfl T.b_range (pa_cons (pv 1) pa_nil)) (pg_name (i := 5) sc__law_right_fates.nd rfl (Or.inl rfl)) (pss_one (ps_expr (pe_bmK (K := K) rfl PySem.F.plainAttrs_list PySem.F.slot_list_append PySem.F.type_list_append mt_append (pv 7) (pa_cons (pe_ifExp (pt_cmpR op_eq (pe_op op_mod (pe_callTy (T := "int") c_int (by rfl) T.b_int (by decide +kernel) (pa_cons (pe_op op_add (pv 5) (pv 6)) pa_nil)) (pe_op op_add (pv 3) pe_int)) (pv 3) (nomark _)) (pe_cl c__law_one_fate hr (by decide) rfl (pa_cons (pv 0) (pa_cons (pv 2) pa_nil))) (pe_tup pa_nil)) pa_nil)))))
      (pss_one (ps_ret (pe_callTy (T := "tuple") (r := rTupOf K) c_tup (by rfl) T.b_tuple (by decide +kernel) (pa_cons (pv 7) pa_nil))))))))))), ?_⟩
    try dsimp only [cxOf, Cx.nox, Cx.wish]
    refine st_of (σ' := [some _, some _, some _, some _, none, none, none, none]) rfl ?_
    wtm_at "jw"
    refine drawL d0.drew (by omega) (by omega) fun x H1 x0 x1 e1 w1 => ?_
    wtm_at "jw"
    refine c_dec (fun h => ?_) (fun h => ?_)
    · wtm_at "jw"
      refine ⟨p, a, fr, late, lost, rfl, w1.at_, f1, l1, fun v F H2 e2 tv fl gf => ?_⟩
      refine q _ _ _ (w1.trans e2) tv ⟨_, rfl, by rw [List.length_map]; exact fl, fun d hd => ?_⟩
      obtain ⟨f, _, rfl⟩ := List.mem_map.mp hd
      exact shp_ints f
    · wtm_at "jw"
      refine c_dec (fun h => ?_) (fun h => ?_)
      · wtm_at "jw"
        refine ⟨p, a, fr, late, min fr lost, by rw [min_nat]; rfl, w1.at_, Nat.min_le_left _ _, f1, l1, fun v d H2 e2 tv rd => ?_⟩
        exact q _ _ _ (w1.trans e2) tv rd
      · wtm_at "jw"
        refine c_dec (fun h => ?_) (fun h => ?_)
        · wtm_at "jw"
          intro C hC
          have CH := w1.free hC
          refine l_range (fun j H' => Drew p a H H' ∧ ∃ ds, LD K H' C ds ∧ ds.length = j ∧ ∀ d ∈ ds, Shp 1 d) ⟨w1.new hC, [], .new hC .nil, rfl, fun d h => by cases h⟩ (fun j H' hj h => ?_) (fun H' h => ?_)
          · obtain ⟨w2, ds, ⟨us, hus, tus⟩, dl, hds⟩ := h
            have hj' : j < fr := by simpa using hj
            have hul := tus.len
            wtm_at "jw"
            refine ⟨rfl, ?_⟩
            wtm_at "jw"
            intro T hT
            have s3 := same_new (o := .tup [.int (late : Int), .int (late : Int)]) hT
            exact ⟨us, s3 _ _ hus, small1000 (by omega), (w2.new hT).put d0 CH, ds ++ [.tuple [.int late, .int late]], LD.snoc (s3 _ _ hus) (tus.same s3) (TD.new hT (.cons (.int _) (.cons (.int _) .nil))), by simp [dl], shp_snoc hds (shp_ints [(late : Int), late])⟩
          · obtain ⟨w2, ds, ⟨us, hus, tus⟩, dl, hds⟩ := h
            wtm_at "jw"
            intro T hT
            exact q _ _ _ (w2.new hT) (TD.new hT tus) ⟨ds, rfl, by simpa using dl, hds⟩
        · wtm_at "jw"
          refine drawL w1 (by omega) (by omega) fun y H2 y0 y1 e2 w2 => ?_
          wtm_at "jw"
          intro BL hBL
          have BLH := w2.free hBL
          have hB2 : LD K (upd H2 BL (.lst [])) BL [] := .new hBL .nil
          have w2 := w2.new (o := .lst []) hBL
          generalize upd H2 BL (.lst []) = H3 at hB2 w2 ⊢
          wtm_at "jw"
          refine f_range (fun i σ H' => Drew p a H H' ∧ ∃ ds v6, LD K H' BL ds ∧ ds.length = i ∧ (∀ d ∈ ds, Shp 1 d) ∧ σ = [some (.ref p), some (.int (fr : Int)), some (.int (late : Int)), some (.int (lost : Int)), some (.int x), v6, some (.int y), some (.ref BL)])
            ⟨w2, [], none, hB2, rfl, fun d h => (by cases h), rfl⟩ (fun i σ H' hi h => ?_) (fun σ H' h => ?_)
          · obtain ⟨w3, ds, v6, hB3, dl, hds, rfl⟩ := h
            have hi' : i < fr := by simpa using hi
            wtm_at "jw1"
            refine de_app (n := 1) rfl d0 w3 BLH hB3 (fun H4 Q' w q' => ?_) (by omega) fun d H4 w4 hB4 sd => ⟨w4, ds ++ [d], _, hB4, by simp [dl], shp_snoc hds sd, rfl⟩
            have emp : ∀ T, H4 T = none → Q' (.ref T) (upd H4 T (.tup [])) := fun T hT => q' _ _ _ (w.at_.drew.new hT) (TD.new (ds := []) hT .nil) emp1
            have one : ∀ E', sp__law_one_fate K [.ref p, .int (late : Int)] H4 Q' E' := fun E' => ⟨p, a, _, rfl, w.at_, by omega, by omega, fun v d H' e t s => q' v d H' e t s⟩
            wtm_at "jw"
            refine c_dec (fun h => ?_) (fun h => ?_)
            · wtm_at "jw"
              exact one _
            · wtm_at "jw"
              exact emp
          · obtain ⟨w3, ds, v6, ⟨us, hus, tus⟩, dl, hds, rfl⟩ := h
            wtm_at "jw"
            intro T hT
            exact q _ _ _ (w3.new hT) (TD.new hT tus) ⟨ds, rfl, by simpa using dl, hds⟩
/-- the rows of a road, drawn: a cell is a row of fates, or nothing -/
def CellD (fr : Nat) (c : PyData) : Prop := c = .tuple [] ∨ RowD fr c
def RowsD (R fr : Nat) (r : PyData) : Prop := ∃ cells, r = .tuple cells ∧ cells.length = R ∧ AllI (fun _ c => CellD fr c) cells
/-- numbers of a road -/
def NumsAt (K : PySem.W.Frag) (H : Hp) (na : Addr) (S R fr late lost : Nat) : Prop := SqT K H na [.int (S : Int), .int (R : Int), .int (fr : Int), .int (late : Int), .int (lost : Int)] ∧ 1 ≤ S ∧ S ≤ 5 ∧ S ≤ R ∧ R ≤ 6 ∧ 1 ≤ fr ∧ fr ≤ 50 ∧ late < 4 ∧ lost < 4
theorem NumsAt.tps {K : PySem.W.Frag} {H H' : Hp} {na : Addr} {S R fr late lost : Nat} (h : NumsAt K H na S R fr late lost) (t : Tps H H') : NumsAt K H' na S R fr late lost := ⟨t.sq h.1, h.2⟩
/-- off the diagonal every cell is a row of fates -/
def RdD (S R fr : Nat) (rows : List PyData) : Prop := rows.length = S ∧ AllI (fun s r => ∃ cells, r = .tuple cells ∧ cells.length = R ∧ AllI (fun k c => (k = s → c = .tuple []) ∧ (k ≠ s → RowD fr c)) cells) rows
def sp__law_right_road (K : PySem.W.Frag) : Sp := fun vs H Q _ => ∃ (p a na : Addr) (S R fr late lost : Nat), vs = [.ref p, .ref na] ∧ DrawAt H p a ∧ NumsAt K H na S R fr late lost ∧ ∀ v rows H', Drew p a H H' → TD K H' v (.tuple rows) → RdD S R fr rows → Q v H'
theorem ok__law_right_road {P : Program} {w : World} {K : PySem.W.Frag} {mg : Str → Option Value} {base : Heap} {f : Addr} {fd : FuncData} (F : Df K mg "_law_right_road" s__law_right_road f fd ["d", "numbers"]) (T : Txt mg)
    (c__law_right_fates : Cl P w K mg base 4 "_law_right_fates" (sp__law_right_fates K)) : FnOk P w K mg base CX0 5 f fd ["d", "numbers"] (sp__law_right_road K) := by
  refine F.ok sc__law_right_road (fun vs H Q E h => ?_) (fun cdv A outer s H vs Q E hr h => ?_)
  · obtain ⟨p, a, na, S, R, fr, late, lost, rfl, _⟩ := h
    rfl
  · obtain ⟨p, a, na, S, R, fr, late, lost, rfl, d0, ⟨hn, S0, S1, SR, R1, f0, f1, l1, l2⟩, q⟩ := h
    refine ⟨_, (pss_cons (ps_asg (pv 1) (pg_tupK (K := K) rfl rfl (pgs_cons (pg_name (i := 2) sc__law_right_road.nd rfl (Or.inl rfl)) (pgs_cons (pg_name (i := 3) sc__law_right_road.nd rfl (Or.inl rfl)) (pgs_cons (pg_name (i := 4) sc__law_right_road.nd rfl (Or.inl rfl)) (pgs_cons (pg_name (i := 5) sc__law_right_road.nd rfl (Or.inl rfl)) (pgs_cons (pg_name (i := 6) sc__law_right_road.nd rfl (Or.inl rfl)) pgs_nil)))))))
      (pss_cons (ps_set (i := 7) sc__law_right_road.nd rfl (Or.inl rfl) (pe_lst pa_nil))
      (pss_cons (ps_for PassesOwn.never rfl (pi_range1 rfl T.b_range (pa_cons (pv 2) pa_nil)) (pg_name (i := 8) sc__law_right_road.nd rfl (Or.inl rfl)) (pss_cons (ps_set (i := 9) sc__law_right_road.nd rfl (Or.inl rfl) (pe_lst pa_nil))
      (pss_cons (ps_for PassesOwn.never rfl (pi_range1 rfl T.b_range (pa_cons (pv 3) pa_nil)) (pg_name (i := 10) sc__law_right_road.nd rfl (Or.inl rfl)) (pss_one (ps_expr (pe_bmK (K := K) rfl PySem.F.plainAttrs_list PySem.F.slot_list_append PySem.F.type_list_append mt_append (pv 9) (pa_cons (pe_ifExp (pt_cmpR op_eq (pv 10) (pv 8) (nomark _)) (pe_tup pa_nil) (pe_cl c__law_right_fates hr (by decide) rfl (pa_cons (pv 0) (pa_cons (pv 4) (pa_cons (pv 5) (pa_cons (pv 6) pa_nil)))))) pa_nil)))))
      (pss_one (ps_expr (pe_bmK (K := K) rfl PySem.F.plainAttrs_list PySem.F.slot_list_append PySem.F.type_list_append mt_append (pv 7) (pa_cons (pe_callTy (T := "tuple") (r := rTupOf K) c_tup (by rfl) T.b_tuple (by decide +kernel) (pa_cons (pv 9) pa_nil)) pa_nil)))))))
      (pss_one (ps_ret (pe_callTy (T := "tuple") (r := rTupOf K) c_tup (by rfl) T.b_tuple (by decide +kernel) (pa_cons (pv 7) pa_nil))))))), ?_⟩
    try dsimp only [cxOf, Cx.nox, Cx.wish]
    refine st_of (σ' := [some _, some _, none, none, none, none, none, none, none, none, none]) rfl ?_
    wtm_at "jw"
    intro BL hBL
    have nB := d0.ne_none hBL
    wtm_at "jw"
    refine f_range (fun i σ H' => Drew p a H H' ∧ ∃ (ds : List PyData) (v8 v9 v10 : Option V), LD K H' BL ds ∧ ds.length = i ∧ AllI (fun s r => ∃ cells, r = .tuple cells ∧ cells.length = R ∧ AllI (fun k c => (k = s → c = .tuple []) ∧ (k ≠ s → RowD fr c)) cells) ds ∧
        σ = [some (.ref p), some (.ref na), some (.int (S : Int)), some (.int (R : Int)), some (.int (fr : Int)), some (.int (late : Int)), some (.int (lost : Int)), some (.ref BL), v8, v9, v10])
      ⟨d0.drew.new hBL, [], none, none, none, .new hBL .nil, rfl, .nil, rfl⟩ (fun i σ H' hi h => ?_) (fun σ H' h => ?_)
    · obtain ⟨w1, ds, v8, v9, v10, hB1, hdl, hds, rfl⟩ := h
      rw [Int.zero_add]
      have hi' : i < S := by simpa using hi
      wtm_at "jw"
      intro CL hCL
      have CLH := w1.free hCL
      have nC := d0.ne_none CLH
      have nCB : BL ≠ CL := by
        obtain ⟨us, hus, _⟩ := hB1
        exact ne_of_none hus hCL
      wtm_at "jw"
      refine f_range (fun j σ H' => Drew p a H H' ∧ LD K H' BL ds ∧ ∃ (cs : List PyData) (v10 : Option V), LD K H' CL cs ∧ cs.length = j ∧ AllI (fun k c => (k = i → c = .tuple []) ∧ (k ≠ i → RowD fr c)) cs ∧
          σ = [some (.ref p), some (.ref na), some (.int (S : Int)), some (.int (R : Int)), some (.int (fr : Int)), some (.int (late : Int)), some (.int (lost : Int)), some (.ref BL), some (.int (i : Int)), some (.ref CL), v10])
        ⟨w1.new hCL, hB1.same (same_new hCL), [], v10, .new hCL .nil, rfl, .nil, rfl⟩ (fun j σ H' hj h => ?_) (fun σ H' h => ?_)
      · obtain ⟨w2, hB2, cs, v10, hC2, hcl, hcs, rfl⟩ := h
        rw [Int.zero_add]
        have hj' : j < R := by simpa using hj
        wtm_at "jw"
        refine c_dec (fun h => ?_) (fun h => ?_)
        · obtain ⟨us, hus, tus⟩ := hC2
          have hul := tus.len
          wtm_at "jw"
          intro T hT
          have tT : TD K (upd H' T (.tup [])) (.ref T) (.tuple []) := TD.new hT .nil
          have s3 := same_new (o := .tup []) hT
          have hus3 := s3 _ _ hus
          have tus3 := tus.same s3
          have w3 := w2.same s3
          have hB3 := hB2.same s3
          generalize upd H' T (.tup []) = H3 at w3 tT hus3 tus3 hB3 ⊢
          have hsm : us.length < sizeLine := small1000 (by omega)
          wtm_at "jw"
          exact ⟨w3.put d0 CLH, hB3.kp Kp.upd hus3 nCB, cs ++ [.tuple []], _, LD.snoc hus3 tus3 tT, by simp [hcl], hcs.snoc ⟨fun _ => rfl, fun n => absurd (show cs.length = i by omega) n⟩, rfl⟩
        · wtm_at "jw"
          refine ⟨p, a, fr, late, lost, rfl, w2.at_, by omega, by omega, by omega, fun v d H3 e3 tv rd => ?_⟩
          have hB3 := hB2.drew w2.at_ e3 nB
          obtain ⟨us, hus, tus⟩ := hC2.drew w2.at_ e3 nC
          have hul := tus.len
          have hsm : us.length < sizeLine := small1000 (by omega)
          wtm_at "jw"
          exact ⟨(w2.trans e3).put d0 CLH, hB3.kp Kp.upd hus nCB, cs ++ [d], _, LD.snoc hus tus tv, by simp [hcl], hcs.snoc ⟨fun e => absurd (show (j : Int) = i by omega) h, fun _ => rd⟩, rfl⟩
      · obtain ⟨w2, ⟨us, hus, tus⟩, cs, v10, ⟨us2, hus2, tus2⟩, hcl, hcs, rfl⟩ := h
        have hul := tus.len
        wtm_at "jw"
        intro T hT
        have tT : TD K (upd H' T (.tup us2)) (.ref T) (.tuple cs) := TD.new hT tus2
        have s3 := same_new (o := .tup us2) hT
        have hus3 := s3 _ _ hus
        have tus3 := tus.same s3
        have w3 := w2.same s3
        generalize upd H' T (.tup us2) = H3 at w3 tT hus3 tus3 ⊢
        have hsm : us.length < sizeLine := small1000 (by omega)
        wtm_at "jw"
        refine ⟨w3.put d0 hBL, ds ++ [.tuple cs], _, _, _, LD.snoc hus3 tus3 tT, by simp [hdl], hds.snoc ⟨cs, rfl, by simpa using hcl, by rw [hdl]; exact hcs⟩, rfl⟩
    · obtain ⟨w1, ds, v8, v9, v10, ⟨us, hus, tus⟩, hdl, hds, rfl⟩ := h
      wtm_at "jw"
      intro T hT
      exact q _ _ _ (w1.new hT) (TD.new hT tus) ⟨by simpa using hdl, hds⟩
/-! ### what is put in -/
def putL {α : Type} (ds : List α) (i : Nat) (d : α) : List α := ds.take i ++ d :: ds.drop (i + 1)
theorem putL_len {α : Type} {ds : List α} {i : Nat} {d : α} (h : i < ds.length) : (putL ds i d).length = ds.length := by
  unfold putL
  rw [List.length_append, List.length_take, List.length_cons, List.length_drop]
  omega
theorem putL_len2 {α : Type} (ds : List α) (i : Nat) (d : α) : (putL ds i d).length ≤ ds.length + 1 := by
  unfold putL
  rw [List.length_append, List.length_take, List.length_cons, List.length_drop]
  omega
theorem putL_mem {α : Type} {ds : List α} {i : Nat} {d x : α} (h : x ∈ putL ds i d) : x = d ∨ x ∈ ds := by
  unfold putL at h
  rcases List.mem_append.mp h with h | h
  · exact .inr (List.mem_of_mem_take h)
  · rcases List.mem_cons.mp h with h | h
    · exact .inl h
    · exact .inr (List.mem_of_mem_drop h)
def sp__law_put (K : PySem.W.Frag) : Sp := fun vs H Q _ => ∃ (v u : V) (ds : List PyData) (d : PyData) (i : Nat), vs = [v, .int (i : Int), u] ∧ TD K H v (.tuple ds) ∧ TD K H u d ∧ ds.length ≤ 500 ∧ ∀ v' H', Same H H' → TD K H' v' (.tuple (putL ds i d)) → Q v' H'
theorem ok__law_put {P : Program} {w : World} {K : PySem.W.Frag} {mg : Str → Option Value} {base : Heap} {f : Addr} {fd : FuncData} (F : Df K mg "_law_put" s__law_put f fd ["row", "at", "thing"]) (T : Txt mg) : FnOk P w K mg base CX0 1 f fd ["row", "at", "thing"] (sp__law_put K) := by
  refine F.ok sc__law_put (fun vs H Q E h => ?_) (fun cdv A outer s H vs Q E hr h => ?_)
  · obtain ⟨v, u, ds, d, i, rfl, _⟩ := h
    rfl
  · obtain ⟨v, u, ds, d, i, rfl, hv, hu', hl, q⟩ := h
    obtain ⟨b, xs, rfl, sx, tx⟩ := hv.tup_inv
    refine ⟨_, (pss_one (ps_ret (pe_op (r := rCatA K) op_catA (pe_op (r := rCatA K) op_catA (pe_slice (r := rSlQ K) sl_tupQ (pv 0) po_none (po_some (pv 1))) (pe_tup (pa_cons (pv 2) pa_nil))) (pe_slice (r := rSlQ K) sl_tupQ (pv 0) (po_some (pe_op op_add (pv 1) pe_int)) po_none)))), ?_⟩
    try dsimp only [cxOf, Cx.nox, Cx.wish]
    refine st_of (σ' := [some _, some _, some _]) rfl ?_
    wtm_at "jw"
    refine i_slA sx fun r1 H1 s1 h1 => ?_
    have t1 := (tx.same s1).cut none (some (i : Int))
    rw [cut_take] at t1
    have l1 := t1.len
    rw [List.length_take] at l1
    generalize cutV xs none (some (i : Int)) = ys at h1 t1 l1
    wtm_at "jw"
    intro T hT
    have s2 := same_new (o := .tup [u]) hT
    have h2 : SqT K (upd H1 T (.tup [u])) T [u] := SqT.of upd_same
    have h1' := (Tps.of s2).sq h1
    have t1' := t1.same s2
    have tu := (hu'.same s1).same s2
    have s12 := s1.trans s2
    generalize upd H1 T (.tup [u]) = H2 at s12 h2 h1' t1' tu ⊢
    refine i_catA h1' h2 (by rw [sizeLine_eq]; simp; omega) fun r3 H3 s3 h3 => ?_
    have s13 := s12.trans s3
    have sx3 := (Tps.of s13).sq sx
    wtm_at "jw"
    refine i_slA sx3 fun r4 H4 s4 h4 => ?_
    have t4 := (tx.same (s13.trans s4)).cut (some ((i : Int) + 1)) none
    rw [show ((i : Int) + 1) = ((i + 1 : Nat) : Int) from rfl, cut_drop] at t4
    have l4 := t4.len
    rw [List.length_drop] at l4
    rw [show ((i : Int) + 1) = ((i + 1 : Nat) : Int) from rfl] at h4
    generalize cutV xs (some ((i + 1 : Nat) : Int)) none = zs at h4 t4 l4
    have h3' := (Tps.of s4).sq h3
    refine i_catA h3' h4 (by rw [sizeLine_eq]; simp; omega) fun r5 H5 s5 h5 => ?_
    refine q _ _ ((s13.trans s4).trans s5) (.tup h5 ?_)
    have := (((t1'.same s3).app (.cons (tu.same s3) .nil)).same (s4.trans s5)).app (t4.same s5)
    unfold putL
    rw [show ds.take i ++ d :: ds.drop (i + 1) = (ds.take i ++ [d]) ++ ds.drop (i + 1) by simp]
    exact this
def putR (rows : List PyData) (s : Nat) (cells : List PyData) (r : Nat) (d : PyData) : List PyData := putL rows s (.tuple (putL cells r d))
def sp__law_put_row (K : PySem.W.Frag) : Sp := fun vs H Q _ => ∃ (v u : V) (rows cells : List PyData) (d : PyData) (s r : Nat), vs = [v, .int (s : Int), .int (r : Int), u] ∧ TD K H v (.tuple rows) ∧ rows[s]? = some (.tuple cells) ∧ TD K H u d ∧ rows.length ≤ 500 ∧ cells.length ≤ 500 ∧ ∀ v' H', Same H H' → TD K H' v' (.tuple (putR rows s cells r d)) → Q v' H'
theorem ok__law_put_row {P : Program} {w : World} {K : PySem.W.Frag} {mg : Str → Option Value} {base : Heap} {f : Addr} {fd : FuncData} (F : Df K mg "_law_put_row" s__law_put_row f fd ["road", "sender", "receiver", "thing"]) (T : Txt mg)
    (c__law_put : Cl P w K mg base 1 "_law_put" (sp__law_put K)) : FnOk P w K mg base CX0 2 f fd ["road", "sender", "receiver", "thing"] (sp__law_put_row K) := by
  refine F.ok sc__law_put_row (fun vs H Q E h => ?_) (fun cdv A outer s H vs Q E hr h => ?_)
  · obtain ⟨v, u, rows, cells, d, s, r, rfl, _⟩ := h
    rfl
  · obtain ⟨v, u, rows, cells, d, i, r, rfl, hv, hi, hu', hl, hl2, q⟩ := h
    have ei : rows[((i : Nat) : Int).toNat]? = some (.tuple cells) := by rw [Int.toNat_natCast]; exact hi
    have i0 : (0 : Int) ≤ (i : Int) := by omega
    refine ⟨_, (pss_one (ps_ret (pe_cl c__law_put hr (by decide) rfl (pa_cons (pv 0) (pa_cons (pv 1) (pa_cons (pe_cl c__law_put hr (by decide) rfl (pa_cons (pe_ix (r := rIxT K) ix_tup (pv 0) (pv 1) (fun _ _ => rfl)) (pa_cons (pv 2) (pa_cons (pv 3) pa_nil)))) pa_nil)))))), ?_⟩
    try dsimp only [cxOf, Cx.nox, Cx.wish]
    refine st_of (σ' := [some _, some _, some _, some _]) rfl ?_
    wtm_at "jw"
    rename_i y hy
    refine ⟨y, u, cells, d, r, rfl, hy, hu', hl2, fun v1 H1 s1 t1 => ?_⟩
    wtm_at "jw"
    refine ⟨v, v1, rows, _, i, rfl, hv.same s1, t1, hl, fun v2 H2 s2 t2 => ?_⟩
    exact q _ _ (s1.trans s2) t2
/-- a road, with anything of depth n in it -/
def RdM (S R n : Nat) (rows : List PyData) : Prop := rows.length = S ∧ ∀ row ∈ rows, ∃ cells, row = .tuple cells ∧ cells.length = R ∧ ∀ c ∈ cells, Shp n c
theorem RdM.shp {S R n : Nat} {rows : List PyData} (h : RdM S R n rows) : ∀ row ∈ rows, Shp (n + 1) row := fun row hr => by
  obtain ⟨cells, rfl, _, hc⟩ := h.2 row hr
  exact Shp.tup hc
theorem RdM.mono {S R n m : Nat} {rows : List PyData} (h : RdM S R n rows) (hm : n ≤ m) : RdM S R m rows := ⟨h.1, fun row hr => by
  obtain ⟨cells, e, l, hc⟩ := h.2 row hr
  exact ⟨cells, e, l, fun c hcm => (hc c hcm).mono hm⟩⟩
theorem RdM.at {S R n s : Nat} {rows : List PyData} (h : RdM S R n rows) (hs : s < S) : ∃ cells, rows[s]? = some (.tuple cells) ∧ cells.length = R ∧ ∀ c ∈ cells, Shp n c := by
  have e : rows[s]? = some (rows[s]'(by rw [h.1]; exact hs)) := List.getElem?_eq_getElem _
  obtain ⟨cells, e2, l, hc⟩ := h.2 _ (List.mem_of_getElem? e)
  exact ⟨cells, by rw [e, e2], l, hc⟩
theorem RdM.put {S R n s r : Nat} {rows cells : List PyData} {d : PyData} (h : RdM S R n rows) (hs : rows[s]? = some (.tuple cells)) (hc : ∀ c ∈ cells, Shp n c) (hl : cells.length = R) (hr : r < R) (hd : Shp n d) : RdM S R n (putR rows s cells r d) := by
  refine ⟨(putL_len (List.getElem?_eq_some_iff.mp hs).1).trans h.1, fun row hrow => ?_⟩
  rcases putL_mem hrow with rfl | hrow
  · refine ⟨_, rfl, (putL_len (by omega)).trans hl, fun c hc' => ?_⟩
    rcases putL_mem hc' with rfl | hc'
    · exact hd
    · exact hc c hc'
  · exact h.2 row hrow
theorem RdD.m {S R fr : Nat} {rows : List PyData} (h : RdD S R fr rows) : RdM S R 2 rows := ⟨h.1, fun row hr => by
  obtain ⟨s, hs⟩ := List.getElem?_of_mem hr
  obtain ⟨cells, rfl, hl, hc⟩ := h.2 s row hs
  refine ⟨cells, rfl, hl, fun c hcm => ?_⟩
  obtain ⟨k, hk⟩ := List.getElem?_of_mem hcm
  obtain ⟨h1, h2⟩ := hc k c hk
  by_cases e : k = s
  · rw [h1 e]
    exact emp1.mono (by omega)
  · exact (h2 e).nil_or⟩
theorem RdD.way {S R fr s r : Nat} {rows : List PyData} (h : RdD S R fr rows) (hs : s < S) (hr : r < R) (ne : r ≠ s) : ∃ cells fs, rows[s]? = some (.tuple cells) ∧ cells.length = R ∧ (∀ c ∈ cells, Shp 2 c) ∧ cells[r]? = some (.tuple fs) ∧ fs.length = fr ∧ ∀ f ∈ fs, Shp 1 f := by
  obtain ⟨cells, e1, l1, c1⟩ := h.m.at hs
  obtain ⟨cells', e2, l2, c2⟩ := h.2 s _ e1
  cases e2
  have e3 : cells[r]? = some (cells[r]'(by omega)) := List.getElem?_eq_getElem _
  obtain ⟨fs, e4, l4, c4⟩ := (c2 r _ e3).2 ne
  exact ⟨cells, fs, e1, l1, c1, by rw [e3, e4], l4, c4⟩
/-- what may be drawn as an oddity: a list of data of depth n -/
def OddL (K : PySem.W.Frag) (H : Hp) (D : Addr) (n m : Nat) : Prop := ∃ ds, LD K H D ds ∧ ds.length ≤ m ∧ ∀ d ∈ ds, Shp n d
def sp__law_other_fates (K : PySem.W.Frag) : Sp := fun vs H Q _ => ∃ (p a : Addr) (late : Int), vs = [.ref p, .int late] ∧ DrawAt H p a ∧ 0 ≤ late ∧ late < 1000 ∧ ∀ D H', Drew p a H H' → H D = none → OddL K H' D 8 40 → Q (.ref D) H'
theorem ok__law_other_fates {P : Program} {w : World} {K : PySem.W.Frag} {mg : Str → Option Value} {base : Heap} {f : Addr} {fd : FuncData} (F : Df K mg "_law_other_fates" s__law_other_fates f fd ["d", "late"]) (T : Txt mg)
    (c__law_draw : Cl P w K mg base 1 "_law_draw" (sp__law_draw K)) : FnOk P w K mg base CX0 2 f fd ["d", "late"] (sp__law_other_fates K) := by
  refine F.ok sc__law_other_fates (fun vs H Q E h => ?_) (fun cdv A outer s H vs Q E hr h => ?_)
  · obtain ⟨p, a, late, rfl, _⟩ := h
    rfl
  · obtain ⟨p, a, late, rfl, d0, l0, l1, q⟩ := h
    refine ⟨_, (pss_cons (ps_set (i := 2) sc__law_other_fates.nd rfl (Or.inl rfl) (pe_op op_add (pe_op op_add (pv 1) pe_int) (pe_cl c__law_draw hr (by decide) rfl (pa_cons (pv 0) (pa_cons pe_int pa_nil)))))
      (pss_cons (ps_set (i := 3) sc__law_other_fates.nd rfl (Or.inl rfl) (pe_lst (pa_cons (pe_tup pa_nil) (pa_cons (pe_tup (pa_cons (pv 1) pa_nil)) (pa_cons (pe_tup (pa_cons pe_int pa_nil)) (pa_cons (pe_tup (pa_cons pe_int (pa_cons (pv 1) pa_nil))) (pa_cons (pe_tup (pa_cons (pv 1) (pa_cons (pv 1) pa_nil))) (pa_cons (pe_tup (pa_cons pe_int (pa_cons pe_int pa_nil))) (pa_cons (pe_tup (pa_cons (pe_cl c__law_draw hr (by decide) rfl (pa_cons (pv 0) (pa_cons (pe_op op_add (pv 1) pe_int) pa_nil))) (pa_cons (pv 1) pa_nil))) pa_nil)))))))))
      (pss_cons (ps_set (i := 3) sc__law_other_fates.nd rfl (Or.inl rfl) (pe_op op_cat (pv 3) (pe_lst (pa_cons (pe_tup (pa_cons (pv 2) pa_nil)) (pa_cons (pe_tup (pa_cons (pe_un un_neg pe_int) pa_nil)) (pa_cons (pe_tup (pa_cons pe_int (pa_cons (pv 2) pa_nil))) (pa_cons (pe_tup (pa_cons (pv 2) (pa_cons (pv 2) pa_nil))) (pa_cons (pe_tup (pa_cons (pe_un un_neg pe_int) (pa_cons (pv 1) pa_nil))) (pa_cons (pe_tup (pa_cons pe_int (pa_cons pe_int (pa_cons (pv 1) pa_nil)))) (pa_cons (pe_tup (pa_cons (pv 1) (pa_cons (pv 1) (pa_cons (pv 1) pa_nil)))) (pa_cons (pe_tup (pa_cons pe_int (pa_cons pe_int (pa_cons pe_int (pa_cons pe_int pa_nil))))) pa_nil)))))))))))
      (pss_cons (ps_set (i := 3) sc__law_other_fates.nd rfl (Or.inl rfl) (pe_op op_cat (pv 3) (pe_lst (pa_cons pe_non (pa_cons pe_int (pa_cons (pv 1) (pa_cons pe_str (pa_cons pe_str (pa_cons (pe_tup (pa_cons (pe_tup pa_nil) pa_nil)) (pa_cons (pe_tup (pa_cons (pe_tup (pa_cons pe_int pa_nil)) pa_nil)) (pa_cons (pe_tup (pa_cons pe_non pa_nil)) (pa_cons (pe_tup (pa_cons pe_str pa_nil)) (pa_cons (pe_tup (pa_cons pe_int (pa_cons pe_non pa_nil))) (pa_cons (pe_tup (pa_cons pe_int (pa_cons pe_str pa_nil))) (pa_cons (pe_tup (pa_cons pe_int (pa_cons (pe_tup (pa_cons (pv 1) pa_nil)) pa_nil))) pa_nil)))))))))))))))
      (pss_cons (ps_if (pt_cmpR op_gt (pv 1) pe_int (nomark _)) (pss_one (ps_expr (pe_bmK (K := K) rfl PySem.F.plainAttrs_list PySem.F.slot_list_append PySem.F.type_list_append mt_append (pv 3) (pa_cons (pe_tup (pa_cons (pv 1) (pa_cons (pe_cl c__law_draw hr (by decide) rfl (pa_cons (pv 0) (pa_cons (pv 1) pa_nil))) pa_nil))) pa_nil)))) pss_nil)
      (pss_one (ps_ret (pv 3)))))))), ?_⟩
    try dsimp only [cxOf, Cx.nox, Cx.wish]
    refine st_of (σ' := [some _, some _, none, none]) rfl ?_
    wtm_at "jls"
    refine drawL d0.drew (by decide) (by decide) fun x H1 x0 x1 e1 w1 => ?_
    wtm_at "jls"
    have a1 := w1.at_
    refine de_lst (K := K) (n := 8) (k := 7) a1 (by wtm_at "da") (by decide) fun D H2 ds e2 hD hL hl hs => ?_
    have a2 := e2.at_
    have nD := a1.ne_none hD
    have w2 := w1.trans e2
    wtm_at "jls"
    refine de_cat (K := K) (n := 8) (k := 8) rfl a2 hL nD (by wtm_at "da") (by omega) fun D2 H3 es e3 hD2 hL2 hl2 hs2 => ?_
    have a3 := e3.at_
    have nD2 := a2.ne_none hD2
    have w3 := w2.trans e3
    wtm_at "jls"
    refine de_cat (K := K) (n := 8) (k := 12) rfl a3 hL2 nD2 (by wtm_at "da") (by rw [List.length_append]; omega) fun D3 H4 fs e4 hD3 hL3 hl3 hs3 => ?_
    have w4 := w3.trans e4
    have a4 := e4.at_
    have D3H := w3.free hD3
    have hsA := shp_app (shp_app hs hs2) hs3
    have hlA : ((ds ++ es) ++ fs).length = 27 := by simp; omega
    generalize (ds ++ es) ++ fs = gs at hL3 hsA hlA
    wtm_at "js"
    refine i_ifS ?_
    wtm_at "js"
    refine c_dec (fun h => ?_) (fun h => ?_)
    · refine de_app (K := K) (n := 8) rfl d0 w4 D3H hL3 (by wtm_at "de") (by omega) fun d H5 w5 hL5 sd => ?_
      wtm_at "jw"
      exact q _ _ w5 D3H ⟨_, hL5, by simp; omega, shp_snoc hsA sd⟩
    · wtm_at "jw"
      exact q _ _ w4 D3H ⟨_, hL3, by omega, hsA⟩
theorem strOk_x : ∀ k < 60, PyData.strOk (repS (Str.ofString "x") ((k : Nat) : Int)) = true := by decide +kernel
def sp__law_other_rows (K : PySem.W.Frag) : Sp := fun vs H Q _ => ∃ (p a na : Addr) (v : V) (fs : List PyData) (S R fr late lost : Nat), vs = [.ref p, v, .ref na] ∧ DrawAt H p a ∧ NumsAt K H na S R fr late lost ∧ TD K H v (.tuple fs) ∧ fs.length = fr ∧ (∀ f ∈ fs, Shp 1 f) ∧ ∀ D H', Drew p a H H' → H D = none → OddL K H' D 12 40 → Q (.ref D) H'
theorem ok__law_other_rows {P : Program} {w : World} {K : PySem.W.Frag} {mg : Str → Option Value} {base : Heap} {f : Addr} {fd : FuncData} (F : Df K mg "_law_other_rows" s__law_other_rows f fd ["d", "row", "numbers"]) (T : Txt mg)
    (c__law_put : Cl P w K mg base 1 "_law_put" (sp__law_put K))
    (c__law_lost_run : Cl P w K mg base 3 "_law_lost_run" (sp__law_lost_run K))
    (c__law_draw : Cl P w K mg base 1 "_law_draw" (sp__law_draw K)) : FnOk P w K mg base CX0 4 f fd ["d", "row", "numbers"] (sp__law_other_rows K) := by
  refine F.ok sc__law_other_rows (fun vs H Q E h => ?_) (fun cdv A outer s H vs Q E hr h => ?_)
  · obtain ⟨p, a, na, v, fs, S, R, fr, late, lost, rfl, _⟩ := h
    rfl
  · obtain ⟨p, a, na, v, fs, S, R, fr, late, lost, rfl, d0, ⟨hn, S0, S1, SR, R1, f0, f1, l1, l2⟩, hv, hfl, hfs, q⟩ := h
    have hfl50 : fs.length ≤ 50 := by omega
    refine ⟨_, (pss_cons (ps_asg (pv 2) (pg_tupK (K := K) rfl rfl (pgs_cons (pg_name (i := 3) sc__law_other_rows.nd rfl (Or.inl rfl)) (pgs_cons (pg_name (i := 4) sc__law_other_rows.nd rfl (Or.inl rfl)) (pgs_cons (pg_name (i := 5) sc__law_other_rows.nd rfl (Or.inl rfl)) (pgs_cons (pg_name (i := 6) sc__law_other_rows.nd rfl (Or.inl rfl)) (pgs_cons (pg_name (i := 7) sc__law_other_rows.nd rfl (Or.inl rfl)) pgs_nil)))))))
      (pss_cons (ps_set (i := 8) sc__law_other_rows.nd rfl (Or.inl rfl) (pe_lst (pa_cons (pe_slice (r := rSlQ K) sl_tupQ (pv 1) po_none (po_some (pe_un un_neg pe_int))) (pa_cons (pe_slice (r := rSlQ K) sl_tupQ (pv 1) (po_some pe_int) po_none) (pa_cons (pe_op (r := rCatA K) op_catA (pv 1) (pe_tup (pa_cons (pe_tup (pa_cons pe_int pa_nil)) pa_nil))) (pa_cons (pe_op (r := rCatA K) op_catA (pv 1) (pe_tup (pa_cons (pe_tup pa_nil) pa_nil))) (pa_cons (pe_tup pa_nil) (pa_cons pe_non (pa_cons pe_str (pa_cons (pv 5) (pa_cons (pe_op op_mulS pe_str (pv 5)) (pa_cons (pe_tup (pa_cons (pv 1) pa_nil)) pa_nil))))))))))))
      (pss_cons (ps_for PassesOwn.never rfl (pi_list (pe_lst (pa_cons pe_non (pa_cons pe_int (pa_cons pe_str (pa_cons (pe_tup pa_nil) (pa_cons (pe_tup (pa_cons (pe_tup pa_nil) pa_nil)) (pa_cons (pe_tup (pa_cons (pe_op op_add (pv 6) pe_int) pa_nil)) (pa_cons (pe_tup (pa_cons (pv 6) (pa_cons (pv 6) pa_nil))) pa_nil))))))))) (pg_name (i := 9) sc__law_other_rows.nd rfl (Or.inr rfl)) (pss_one (ps_expr (pe_bmK (K := K) rfl PySem.F.plainAttrs_list PySem.F.slot_list_append PySem.F.type_list_append mt_append (pv 8) (pa_cons (pe_callTy (T := "tuple") (r := rTupOf K) c_tup (by rfl) T.b_tuple (by decide +kernel) (pa_cons (pe_lc (own := [("frame", 10)]) (g := gName 10) (tt := tYes) rfl sc__law_other_rows.nd (pi_range1 rfl T.b_range (pa_cons (pv 5) pa_nil)) (blkOk_by (own := [("frame", 10)]) (N := N__law_other_rows) (sc := defScope s__law_other_rows) (by decide +kernel)) (fun _ _ _ _ _ => (pg_name (i := 10) sc__law_other_rows.nd rfl (Or.inl rfl))) (fun _ _ _ _ _ => pts_nil) (fun _ _ _ _ _ => (pv 9))) pa_nil)) pa_nil)))))
      (pss_cons (ps_expr (pe_bmK (K := K) rfl PySem.F.plainAttrs_list PySem.F.slot_list_append PySem.F.type_list_append mt_append (pv 8) (pa_cons (pe_op (r := rCatA K) op_catA (pe_slice (r := rSlQ K) sl_tupQ (pv 1) (po_some pe_int) po_none) (pe_slice (r := rSlQ K) sl_tupQ (pv 1) po_none (po_some pe_int))) pa_nil)))
      (pss_cons (ps_expr (pe_bmK (K := K) rfl PySem.F.plainAttrs_list PySem.F.slot_list_append PySem.F.type_list_append mt_append (pv 8) (pa_cons (pe_tupRt rfl (by rfl) T.b_tuple (by rfl) T.b_reversed (pv 1)) pa_nil)))
      (pss_cons (ps_for PassesOwn.never rfl (pi_list (pe_lst (pa_cons (pv 7) (pa_cons (pv 7) (pa_cons (pe_op op_add (pv 7) pe_int) (pa_cons (pe_op op_add (pv 7) pe_int) (pa_cons (pe_op op_add (pv 7) pe_int) pa_nil))))))) (pg_name (i := 11) sc__law_other_rows.nd rfl (Or.inl rfl)) (pss_one (ps_expr (pe_bmK (K := K) rfl PySem.F.plainAttrs_list PySem.F.slot_list_append PySem.F.type_list_append mt_append (pv 8) (pa_cons (pe_cl c__law_lost_run hr (by decide) rfl (pa_cons (pv 0) (pa_cons (pv 5) (pa_cons (pv 6) (pa_cons (pe_callB (id := "min") (c_min2 rfl) (by rfl) T.b_min (by decide +kernel) (pa_cons (pv 5) (pa_cons (pv 11) pa_nil))) pa_nil))))) pa_nil)))))
      (pss_cons (ps_expr (pe_bmK (K := K) rfl PySem.F.plainAttrs_list PySem.F.slot_list_append PySem.F.type_list_append mt_append (pv 8) (pa_cons (pe_cl c__law_put hr (by decide) rfl (pa_cons (pv 1) (pa_cons (pe_cl c__law_draw hr (by decide) rfl (pa_cons (pv 0) (pa_cons (pv 5) pa_nil))) (pa_cons (pe_tup pa_nil) pa_nil)))) pa_nil)))
      (pss_one (ps_ret (pv 8)))))))))), ?_⟩
    try dsimp only [cxOf, Cx.nox, Cx.wish]
    refine st_of (σ' := [some _, some _, some _, none, none, none, none, none, none, none, none, none]) rfl ?_
    wtm_at "jls"
    refine de_lst (K := K) (n := 12) (k := 10) d0 (by wtm_at "da") (by decide) fun D H1 ds1 e1 hD hL hl hs => ?_
    have a1 := e1.at_
    have nD := d0.ne_none hD
    wtm_at "jls"
    refine de_lst (K := K) (n := 11) (k := 7) a1 (by wtm_at "da") (by decide) fun L H2 ts e2 hLn hLL hll hls => ?_
    have w2 := e1.trans e2
    have hL2 := hL.drew a1 e2 nD
    obtain ⟨us, hus, tus⟩ := hLL
    have nLD : L ≠ D := by
      obtain ⟨vs1, h1, _⟩ := hL
      exact (ne_of_none h1 hLn).symm
    have nL := a1.ne_none hLn
    wtm_at "jls"
    refine f_list (xs := us) (fun i σ H' => Drew p a H H' ∧ H' L = some (.lst us) ∧ TDs K H' us ts ∧ ∃ ds v9 v10, LD K H' D ds ∧ ds.length = 10 + i ∧ (∀ d ∈ ds, Shp 12 d) ∧ σ = [some (.ref p), some v, some (.ref na), some (.int (S : Int)), some (.int (R : Int)), some (.int (fr : Int)), some (.int (late : Int)), some (.int (lost : Int)), some (.ref D), v9, v10, none])
      ⟨w2, hus, tus, ds1, none, none, hL2, by omega, hs, rfl⟩ (fun i σ H' _ h => SqL.of h.2.1) (fun i x σ H' hi h => ?_) (fun σ H' h => ?_)
    · obtain ⟨w3, hus3, tus3, ds, v9, v10, hD3, hdl, hds, rfl⟩ := h
      obtain ⟨d, hd, hx, _, hit⟩ := tus3.at hi
      have a3 := w3.at_
      have sd : Shp 11 d := hls d (List.mem_of_getElem? hd)
      wtm_at "jw1"
      refine de_appK (K := K) (n := 12) rfl d0 w3 hD hD3 (by wtm_at "de") (by omega) fun d' H4 w4 kp tp hD4 sd' => ?_
      exact ⟨w4, kp _ _ hus3 nLD nL, tus3.tps tp, _, _, _, hD4, by simp; omega, shp_snoc hds sd', rfl⟩
    · obtain ⟨w3, hus3, tus3, ds, v9, v10, hD3, hdl, hds, rfl⟩ := h
      have hul := tus3.len
      rw [hul, hll] at hdl
      have a3 := w3.at_
      have hv3 := hv.tps (w3.tps d0)
      wtm_at "jls"
      refine de_app (K := K) (n := 12) rfl d0 w3 hD hD3 (by wtm_at "de") (by omega) fun d4 H4 w4 hD4 sd4 => ?_
      have a4 := w4.at_
      have hv4 := hv.tps (w4.tps d0)
      wtm_at "jls"
      refine de_app (K := K) (n := 12) rfl d0 w4 hD hD4 (by wtm_at "de") (by simp; omega) fun d5 H5 w5 hD5 sd5 => ?_
      have hds5 := shp_snoc (shp_snoc hds sd4) sd5
      have hdl5 : ((ds ++ [d4]) ++ [d5]).length = 19 := by simp; omega
      generalize (ds ++ [d4]) ++ [d5] = ds5 at hD5 hds5 hdl5
      wtm_at "jw"
      intro M hM
      have w6 := w5.new (o := .lst [.int (lost : Int), .int (lost : Int), .int ((lost : Int) + 1), .int ((lost : Int) + 1), .int ((lost : Int) + 2)]) hM
      have hD6 := hD5.same (same_new (o := .lst [.int (lost : Int), .int (lost : Int), .int ((lost : Int) + 1), .int ((lost : Int) + 1), .int ((lost : Int) + 2)]) hM)
      have hM6 : upd H5 M (.lst [.int (lost : Int), .int (lost : Int), .int ((lost : Int) + 1), .int ((lost : Int) + 1), .int ((lost : Int) + 2)]) M = some (.lst [.int (lost : Int), .int (lost : Int), .int ((lost : Int) + 1), .int ((lost : Int) + 1), .int ((lost : Int) + 2)]) := upd_same
      have nMD : M ≠ D := by
        obtain ⟨vs1, h1, _⟩ := hD5
        exact (ne_of_none h1 hM).symm
      have nM := w5.at_.ne_none hM
      generalize upd H5 M (.lst [.int (lost : Int), .int (lost : Int), .int ((lost : Int) + 1), .int ((lost : Int) + 1), .int ((lost : Int) + 2)]) = H6 at w6 hD6 hM6 ⊢
      wtm_at "jw"
      refine f_list (xs := [.int (lost : Int), .int (lost : Int), .int ((lost : Int) + 1), .int ((lost : Int) + 1), .int ((lost : Int) + 2)]) (fun i σ H' => Drew p a H H' ∧ H' M = some (.lst [.int (lost : Int), .int (lost : Int), .int ((lost : Int) + 1), .int ((lost : Int) + 1), .int ((lost : Int) + 2)]) ∧ ∃ ds v11, LD K H' D ds ∧ ds.length = 19 + i ∧ (∀ d ∈ ds, Shp 12 d) ∧ σ = [some (.ref p), some v, some (.ref na), some (.int (S : Int)), some (.int (R : Int)), some (.int (fr : Int)), some (.int (late : Int)), some (.int (lost : Int)), some (.ref D), v9, v10, v11])
        ⟨w6, hM6, ds5, none, hD6, by omega, hds5, rfl⟩ (fun i σ H' _ h => SqL.of h.2.1) (fun i x σ H' hi h => ?_) (fun σ H' h => ?_)
      · obtain ⟨w7, hM7, ds7, v11, hD7, hdl7, hds7, rfl⟩ := h
        have hil := (List.getElem?_eq_some_iff.mp hi).1
        simp only [List.length_cons, List.length_nil] at hil
        obtain ⟨m, rfl⟩ : ∃ m : Nat, x = .int (m : Int) := by
          have := List.mem_of_getElem? hi
          simp only [List.mem_cons, List.not_mem_nil, or_false] at this
          rcases this with h | h | h | h | h
          · exact ⟨lost, h⟩
          · exact ⟨lost, h⟩
          · exact ⟨lost + 1, h⟩
          · exact ⟨lost + 1, h⟩
          · exact ⟨lost + 2, h⟩
        wtm_at "jw1"
        refine de_appK (K := K) (n := 12) rfl d0 w7 hD hD7 (fun H8 Q' w q' => ?_) (by omega) fun d' H8 w8 kp tp hD8 sd' => ?_
        · wtm_at "jw"
          refine ⟨p, a, fr, late, min fr m, by rw [min_nat]; rfl, w.at_, Nat.min_le_left _ _, by omega, by omega, fun v' d' H' e t rd => ?_⟩
          exact q' v' d' H' e t (rd.nil_or.mono (by omega))
        · exact ⟨w8, kp _ _ hM7 nMD nM, _, _, hD8, by simp; omega, shp_snoc hds7 sd', rfl⟩
      · obtain ⟨w7, hM7, ds7, v11, hD7, hdl7, hds7, rfl⟩ := h
        have hdl7' : ds7.length = 24 := hdl7
        have hv7 := hv.tps (w7.tps d0)
        wtm_at "jls"
        refine de_app (K := K) (n := 12) rfl d0 w7 hD hD7 (fun H8 Q' w q' => ?_) (by omega) fun d8 H8 w8 hD8 sd8 => ?_
        · wtm_at "jw"
          refine drawL w.at_.drew (by omega) (by omega) fun z H9 z0 z1 e9 w9 => ?_
          obtain ⟨zn, rfl⟩ := Int.eq_ofNat_of_zero_le z0
          wtm_at "jw"
          intro T hT
          have w10 := w9.new (o := .tup []) hT
          refine ⟨v, .ref T, fs, .tuple [], zn, rfl, hv7.tps ((w.trans w10).tps w7.at_), TD.new hT .nil, by omega, fun v' H' s' t' => ?_⟩
          refine q' v' _ H' (w10.same s') t' ((Shp.tup (n := 1) fun x hx => ?_).mono (by omega))
          rcases putL_mem hx with rfl | hx
          · exact emp1
          · exact hfs x hx
        · wtm_at "jw"
          exact q _ _ w8 hD ⟨_, hD8, by simp; omega, shp_snoc hds7 sd8⟩
def sp__law_spoilt_ways (K : PySem.W.Frag) : Sp := fun vs H Q _ => ∃ (p a na : Addr) (v : V) (rows : List PyData) (S R fr late lost : Nat), vs = [.ref p, v, .ref na] ∧ DrawAt H p a ∧ NumsAt K H na S R fr late lost ∧ TD K H v (.tuple rows) ∧ RdD S R fr rows ∧ ∀ D H', Drew p a H H' → H D = none → OddL K H' D 15 100 → Q (.ref D) H'
theorem ok__law_spoilt_ways {P : Program} {w : World} {K : PySem.W.Frag} {mg : Str → Option Value} {base : Heap} {f : Addr} {fd : FuncData} (F : Df K mg "_law_spoilt_ways" s__law_spoilt_ways f fd ["d", "road", "numbers"]) (T : Txt mg)
    (c__law_other_fates : Cl P w K mg base 2 "_law_other_fates" (sp__law_other_fates K))
    (c__law_pick : Cl P w K mg base 2 "_law_pick" (sp__law_pick K))
    (c__law_other_rows : Cl P w K mg base 4 "_law_other_rows" (sp__law_other_rows K))
    (c__law_put_row : Cl P w K mg base 2 "_law_put_row" (sp__law_put_row K))
    (c__law_put : Cl P w K mg base 1 "_law_put" (sp__law_put K))
    (c__law_draw : Cl P w K mg base 1 "_law_draw" (sp__law_draw K)) : FnOk P w K mg base CX0 5 f fd ["d", "road", "numbers"] (sp__law_spoilt_ways K) := by
  refine F.ok sc__law_spoilt_ways (fun vs H Q E h => ?_) (fun cdv A outer s H vs Q E hr h => ?_)
  · obtain ⟨p, a, na, v, rows, S, R, fr, late, lost, rfl, _⟩ := h
    rfl
  · obtain ⟨p, a, na, v, rows, S, R, fr, late, lost, rfl, d0, hnums, hv, hrd, q⟩ := h
    obtain ⟨hn, S0, S1, SR, R1, f0, f1, l1, l2⟩ := id hnums
    have hrl := hrd.1
    refine ⟨_, (pss_cons (ps_asg (pv 2) (pg_tupK (K := K) rfl rfl (pgs_cons (pg_name (i := 3) sc__law_spoilt_ways.nd rfl (Or.inl rfl)) (pgs_cons (pg_name (i := 4) sc__law_spoilt_ways.nd rfl (Or.inl rfl)) (pgs_cons (pg_name (i := 5) sc__law_spoilt_ways.nd rfl (Or.inl rfl)) (pgs_cons (pg_name (i := 6) sc__law_spoilt_ways.nd rfl (Or.inl rfl)) (pgs_cons (pg_name (i := 7) sc__law_spoilt_ways.nd rfl (Or.inl rfl)) pgs_nil)))))))
      (pss_cons (ps_set (i := 8) sc__law_spoilt_ways.nd rfl (Or.inl rfl) (pe_lst pa_nil))
      (pss_cons (ps_for PassesOwn.never rfl (pi_range1 rfl T.b_range (pa_cons (pv 3) pa_nil)) (pg_name (i := 9) sc__law_spoilt_ways.nd rfl (Or.inl rfl)) (pss_one (ps_for PassesOwn.never rfl (pi_range1 rfl T.b_range (pa_cons (pv 4) pa_nil)) (pg_name (i := 10) sc__law_spoilt_ways.nd rfl (Or.inl rfl)) (pss_one (ps_if (pt_cmpR op_ne (pv 10) (pv 9) (nomark _)) (pss_one (ps_expr (pe_bmK (K := K) rfl PySem.F.plainAttrs_list PySem.F.slot_list_append PySem.F.type_list_append mt_append (pv 8) (pa_cons (pe_tup (pa_cons (pv 9) (pa_cons (pv 10) pa_nil))) pa_nil)))) pss_nil)))))
      (pss_cons (ps_set (i := 11) sc__law_spoilt_ways.nd rfl (Or.inl rfl) (pe_lst pa_nil))
      (pss_cons (ps_if (pt_cmpR op_eq (pe_callB (id := "len") (r := qLen K) c_len (by rfl) T.b_len (by decide +kernel) (pa_cons (pv 8) pa_nil)) pe_int (nomark _)) (pss_one (ps_ret (pv 11))) pss_nil)
      (pss_cons (ps_for PassesOwn.never rfl (pi_list (pe_cl c__law_other_fates hr (by decide) rfl (pa_cons (pv 0) (pa_cons (pv 6) pa_nil)))) (pg_name (i := 12) sc__law_spoilt_ways.nd rfl (Or.inl rfl)) (pss_cons (ps_asg (pe_cl c__law_pick hr (by decide) rfl (pa_cons (pv 0) (pa_cons (pv 8) pa_nil))) (pg_tupK (K := K) rfl rfl (pgs_cons (pg_name (i := 9) sc__law_spoilt_ways.nd rfl (Or.inl rfl)) (pgs_cons (pg_name (i := 10) sc__law_spoilt_ways.nd rfl (Or.inl rfl)) pgs_nil))))
      (pss_cons (ps_set (i := 13) sc__law_spoilt_ways.nd rfl (Or.inl rfl) (pe_cl c__law_put hr (by decide) rfl (pa_cons (pe_ix (r := rIxT K) ix_tup (pe_ix (r := rIxT K) ix_tup (pv 1) (pv 9) (fun _ _ => rfl)) (pv 10) (fun _ _ => rfl)) (pa_cons (pe_cl c__law_draw hr (by decide) rfl (pa_cons (pv 0) (pa_cons (pv 5) pa_nil))) (pa_cons (pv 12) pa_nil)))))
      (pss_one (ps_expr (pe_bmK (K := K) rfl PySem.F.plainAttrs_list PySem.F.slot_list_append PySem.F.type_list_append mt_append (pv 11) (pa_cons (pe_cl c__law_put_row hr (by decide) rfl (pa_cons (pv 1) (pa_cons (pv 9) (pa_cons (pv 10) (pa_cons (pv 13) pa_nil))))) pa_nil)))))))
      (pss_cons (ps_asg (pe_cl c__law_pick hr (by decide) rfl (pa_cons (pv 0) (pa_cons (pv 8) pa_nil))) (pg_tupK (K := K) rfl rfl (pgs_cons (pg_name (i := 9) sc__law_spoilt_ways.nd rfl (Or.inl rfl)) (pgs_cons (pg_name (i := 10) sc__law_spoilt_ways.nd rfl (Or.inl rfl)) pgs_nil))))
      (pss_cons (ps_for PassesOwn.never rfl (pi_list (pe_cl c__law_other_rows hr (by decide) rfl (pa_cons (pv 0) (pa_cons (pe_ix (r := rIxT K) ix_tup (pe_ix (r := rIxT K) ix_tup (pv 1) (pv 9) (fun _ _ => rfl)) (pv 10) (fun _ _ => rfl)) (pa_cons (pv 2) pa_nil))))) (pg_name (i := 13) sc__law_spoilt_ways.nd rfl (Or.inl rfl)) (pss_one (ps_expr (pe_bmK (K := K) rfl PySem.F.plainAttrs_list PySem.F.slot_list_append PySem.F.type_list_append mt_append (pv 11) (pa_cons (pe_cl c__law_put_row hr (by decide) rfl (pa_cons (pv 1) (pa_cons (pv 9) (pa_cons (pv 10) (pa_cons (pv 13) pa_nil))))) pa_nil)))))
      (pss_cons (ps_set (i := 14) sc__law_spoilt_ways.nd rfl (Or.inl rfl) (pe_ix (r := rIxT K) ix_tup (pv 1) (pv 9) (fun _ _ => rfl)))
      (pss_cons (ps_set (i := 15) sc__law_spoilt_ways.nd rfl (Or.inl rfl) (pe_cl c__law_put_row hr (by decide) rfl (pa_cons (pv 1) (pa_cons (pv 9) (pa_cons (pv 9) (pa_cons (pe_ix (r := rIxT K) ix_tup (pv 14) (pv 10) (fun _ _ => rfl)) pa_nil))))))
      (pss_one (ps_ret (pe_op op_cat (pv 11) (pe_lst (pa_cons (pv 15) (pa_cons (pe_cl c__law_put_row hr (by decide) rfl (pa_cons (pv 15) (pa_cons (pv 9) (pa_cons (pv 10) (pa_cons (pe_tup pa_nil) pa_nil))))) pa_nil)))))))))))))))), ?_⟩
    try dsimp only [cxOf, Cx.nox, Cx.wish]
    refine st_of (σ' := [some _, some _, some _, none, none, none, none, none, none, none, none, none, none, none, none, none]) rfl ?_
    wtm_at "jw"
    intro W hW
    have nW := d0.ne_none hW
    have w1 := d0.drew.new (o := .lst []) hW
    have hW1 : LPr (upd H W (.lst [])) W [] := ⟨[], upd_same, .nil⟩
    generalize upd H W (.lst []) = H1 at w1 hW1 ⊢
    wtm_at "jw"
    refine f_range (fun i σ H' => Drew p a H H' ∧ ∃ (ps : List (Int × Int)) (v9 v10 : Option V), LPr H' W ps ∧ ps.length ≤ 6 * i ∧ (∀ t ∈ ps, ∃ s r : Nat, t = ((s : Int), (r : Int)) ∧ s < S ∧ r < R ∧ r ≠ s) ∧
        σ = [some (.ref p), some v, some (.ref na), some (.int (S : Int)), some (.int (R : Int)), some (.int (fr : Int)), some (.int (late : Int)), some (.int (lost : Int)), some (.ref W), v9, v10, none, none, none, none, none])
      ⟨w1, [], none, none, hW1, by simp, fun t h => (by cases h), rfl⟩ (fun i σ H' hi h => ?_) (fun σ H' h => ?_)
    · obtain ⟨w2, ps, v9, v10, hW2, hpl, hps, rfl⟩ := h
      rw [Int.zero_add]
      have hi' : i < S := by simpa using hi
      wtm_at "jw"
      refine f_range (fun j σ H' => Drew p a H H' ∧ ∃ (ps : List (Int × Int)) (v10 : Option V), LPr H' W ps ∧ ps.length ≤ 6 * i + j ∧ (∀ t ∈ ps, ∃ s r : Nat, t = ((s : Int), (r : Int)) ∧ s < S ∧ r < R ∧ r ≠ s) ∧
          σ = [some (.ref p), some v, some (.ref na), some (.int (S : Int)), some (.int (R : Int)), some (.int (fr : Int)), some (.int (late : Int)), some (.int (lost : Int)), some (.ref W), some (.int (i : Int)), v10, none, none, none, none, none])
        ⟨w2, ps, v10, hW2, by omega, hps, rfl⟩ (fun j σ H' hj h => ?_) (fun σ H' h => ?_)
      · obtain ⟨w3, ps, v10, ⟨rs, hrs, wr⟩, hpl, hps, rfl⟩ := h
        rw [Int.zero_add]
        have hj' : j < R := by simpa using hj
        have hrl' := wr.1
        wtm_at "jw"
        refine c_decN (fun h => ?_) (fun h => ?_)
        · wtm_at "jw"
          intro T hT
          have hrsT := same_new (o := .tup [.int (i : Int), .int (j : Int)]) hT _ _ hrs
          have hsm : (rs.map V.ref).length < sizeLine := small1000 (by rw [List.length_map]; omega)
          wtm_at "jw"
          refine ⟨(w3.new hT).put d0 hW, ps ++ [((i : Int), (j : Int))], _, LPr.add hrs wr hT, by simp; omega, fun t ht => ?_, rfl⟩
          rcases List.mem_append.mp ht with ht | ht
          · exact hps t ht
          · exact ⟨i, j, List.mem_singleton.mp ht, hi', hj', by omega⟩
        · wtm_at "jw"
          exact ⟨w3, ps, _, ⟨rs, hrs, wr⟩, by omega, hps, rfl⟩
      · obtain ⟨w3, ps, v10, hW3, hpl, hps, rfl⟩ := h
        exact ⟨w3, ps, _, _, hW3, by omega, hps, rfl⟩
    · obtain ⟨w2, ps, v9, v10, ⟨rs, hrs, wr⟩, hpl, hps, rfl⟩ := h
      have hpl' : ps.length ≤ 40 := by omega
      have hrl' := wr.1
      wtm_at "jw"
      intro D hD
      have DH := w2.free hD
      have nD := d0.ne_none DH
      have hD3 : LD K (upd H' D (.lst [])) D [] := .new hD .nil
      have w3 := w2.new (o := .lst []) hD
      have hrs3 := same_new (o := .lst []) hD _ _ hrs
      have wr3 := wr.same (same_new (o := .lst []) hD)
      have nWD : W ≠ D := ne_of_none hrs hD
      generalize upd H' D (.lst []) = H3 at w3 hD3 hrs3 wr3 ⊢
      wtm_at "jw"
      refine c_dec (fun h => ?_) (fun h => ?_)
      · wtm_at "jw"
        exact q _ _ w3 DH ⟨_, hD3, by simp, fun d h => by cases h⟩
      · have hps0 : 0 < rs.length := by
          rw [List.length_map] at h
          omega
        wtm_at "jw"
        refine ⟨p, a, (late : Int), rfl, w3.at_, by omega, by omega, fun O H4 e4 hO hOL => ?_⟩
        have w4 := w3.trans e4
        have hD4 := hD3.drew w3.at_ e4 nD
        have hrs4 := e4.kp _ _ hrs3 nW
        have wr4 := wr3.tps (e4.tps w3.at_)
        obtain ⟨ts, ⟨us, hus, tus⟩, htl, hts⟩ := hOL
        have nOp := w3.at_.ne_none hO
        have nOD : O ≠ D := by
          obtain ⟨_, hd, _⟩ := hD3
          exact (ne_of_none hd hO).symm
        have hul := tus.len
        wtm_at "jw"
        refine f_list (xs := us) (fun i σ H' => Drew p a H H' ∧ H' O = some (.lst us) ∧ TDs K H' us ts ∧ H' W = some (.lst (rs.map V.ref)) ∧ Prw H' rs ps ∧ ∃ ds v9 v10 v12 v13, LD K H' D ds ∧ ds.length = i ∧ (∀ d ∈ ds, Shp 15 d) ∧
            σ = [some (.ref p), some v, some (.ref na), some (.int (S : Int)), some (.int (R : Int)), some (.int (fr : Int)), some (.int (late : Int)), some (.int (lost : Int)), some (.ref W), v9, v10, some (.ref D), v12, v13, none, none])
          ⟨w4, hus, tus, hrs4, wr4, [], v9, v10, none, none, hD4, rfl, fun d h => (by cases h), rfl⟩ (fun i σ H' _ h => SqL.of h.2.1) (fun i x σ H' hi h => ?_) (fun σ H' h => ?_)
        · obtain ⟨w5, hus5, tus5, hrs5, wr5, ds, v9, v10, v12, v13, hD5, hdl, hds, rfl⟩ := h
          obtain ⟨d, hd, hx, _, hit⟩ := tus5.at hi
          have sd : Shp 8 d := hts d (List.mem_of_getElem? hd)
          wtm_at "jw"
          refine pickS w5 hrs5 nW (by rw [List.length_map]; exact hps0) (by rw [List.length_map]; omega) fun x6 H6 hx6 e6 w6 => ?_
          obtain ⟨k6, hk6⟩ := List.getElem?_of_mem hx6
          obtain ⟨r6, p6, rfl, _, ep6, hr6, _⟩ := wr5.at hk6
          obtain ⟨si, ri, rfl, hs, hr', hne⟩ := hps p6 (List.mem_of_getElem? ep6)
          have t6 := e6.tps w5.at_
          have hr6' := (t6 r6).1 _ hr6
          obtain ⟨cells, fs, er, lc, sc, ec, lf, sf⟩ := hrd.way hs hr' hne
          have hv6 := hv.tps (w6.tps d0)
          have er' : rows[((si : Nat) : Int).toNat]? = some (.tuple cells) := by rw [Int.toNat_natCast]; exact er
          have ec' : cells[((ri : Nat) : Int).toNat]? = some (.tuple fs) := by rw [Int.toNat_natCast]; exact ec
          have si0 : (0 : Int) ≤ (si : Int) := by omega
          have ri0 : (0 : Int) ≤ (ri : Int) := by omega
          have hus6 := e6.kp _ _ hus5 nOp
          have hrs6 := e6.kp _ _ hrs5 nW
          have hD6 := hD5.drew w5.at_ e6 nD
          wtm_at "jw"
          rename_i y1 hy1 y2 hy2
          refine drawL w6 (by omega) (by omega) fun z H7 z0 z1 e7 w7 => ?_
          obtain ⟨zn, rfl⟩ := Int.eq_ofNat_of_zero_le z0
          have t7 := e7.tps w6.at_
          wtm_at "jw"
          refine ⟨y2, x, fs, d, zn, rfl, hy2.tps t7, (hx.tps t6).tps t7, by omega, fun v' H8 s8 tv' => ?_⟩
          have w8 := w7.same s8
          have s9 : Shp 9 (.tuple (putL fs zn d)) := Shp.tup fun y hy => by
            rcases putL_mem hy with rfl | hy
            · exact sd
            · exact (sf y hy).mono (by omega)
          have hD8 := (hD6.drew w6.at_ e7 nD).same s8
          have hv8 := hv.tps (w8.tps d0)
          wtm_at "jls"
          refine de_appK (K := K) (n := 15) rfl d0 w8 DH hD8 (fun H9 Q' w q' => ?_) (by omega) fun d' H9 w9 kp tp hD9 sd' => ?_
          · wtm_at "jw"
            refine ⟨v, v', rows, cells, _, si, ri, rfl, hv8.tps (w.tps w8.at_), er, tv'.tps (w.tps w8.at_), by omega, by omega, fun v'' H' s' t' => ?_⟩
            exact q' v'' _ H' (w.at_.drew.same s') t' ((Shp.tup ((hrd.m.mono (by omega)).put er (fun c hc => (sc c hc).mono (by omega)) lc hr' s9).shp).mono (by omega))
          · exact ⟨w9, kp _ _ (s8 _ _ (e7.kp _ _ hus6 nOp)) nOD nOp, ((((tus5.tps t6).tps t7).same s8).tps tp), kp _ _ (s8 _ _ (e7.kp _ _ hrs6 nW)) nWD nW, ((((wr5.tps t6).tps t7).same s8).tps tp), _, _, _, _, _, hD9, by simp [hdl], shp_snoc hds sd', rfl⟩
        · obtain ⟨w5, hus5, tus5, hrs5, wr5, ds, v9, v10, v12, v13, hD5, hdl, hds, rfl⟩ := h
          wtm_at "jw"
          refine pickS w5 hrs5 nW (by rw [List.length_map]; exact hps0) (by rw [List.length_map]; omega) fun x6 H6 hx6 e6 w6 => ?_
          obtain ⟨k6, hk6⟩ := List.getElem?_of_mem hx6
          obtain ⟨r6, p6, rfl, _, ep6, hr6, _⟩ := wr5.at hk6
          obtain ⟨si, ri, rfl, hs, hr', hne⟩ := hps p6 (List.mem_of_getElem? ep6)
          have t6 := e6.tps w5.at_
          have hr6' := (t6 r6).1 _ hr6
          obtain ⟨cells, fs, er, lc, sc, ec, lf, sf⟩ := hrd.way hs hr' hne
          have hv6 := hv.tps (w6.tps d0)
          have er' : rows[((si : Nat) : Int).toNat]? = some (.tuple cells) := by rw [Int.toNat_natCast]; exact er
          have ec' : cells[((ri : Nat) : Int).toNat]? = some (.tuple fs) := by rw [Int.toNat_natCast]; exact ec
          have si0 : (0 : Int) ≤ (si : Int) := by omega
          have ri0 : (0 : Int) ≤ (ri : Int) := by omega
          have hD6 := hD5.drew w5.at_ e6 nD
          wtm_at "jw"
          rename_i y1 hy1 y2 hy2
          refine ⟨p, a, na, y2, fs, S, R, fr, late, lost, rfl, w6.at_, hnums.tps (w6.tps d0), hy2, lf, sf, fun O2 H7 e7 hO2 hOL2 => ?_⟩
          have w7 := w6.trans e7
          have hD7 := hD6.drew w6.at_ e7 nD
          obtain ⟨ts2, ⟨us2, hus2, tus2⟩, htl2, hts2⟩ := hOL2
          have nO2p := w6.at_.ne_none hO2
          have nO2D : O2 ≠ D := by
            obtain ⟨_, hd, _⟩ := hD6
            exact (ne_of_none hd hO2).symm
          have hul2 := tus2.len
          wtm_at "jw"
          refine f_list (xs := us2) (fun i σ H' => Drew p a H H' ∧ H' O2 = some (.lst us2) ∧ TDs K H' us2 ts2 ∧ ∃ ds' v13, LD K H' D ds' ∧ ds'.length = us.length + i ∧ (∀ d ∈ ds', Shp 15 d) ∧
              σ = [some (.ref p), some v, some (.ref na), some (.int (S : Int)), some (.int (R : Int)), some (.int (fr : Int)), some (.int (late : Int)), some (.int (lost : Int)), some (.ref W), some (.int (si : Int)), some (.int (ri : Int)), some (.ref D), v12, v13, none, none])
            ⟨w7, hus2, tus2, ds, v13, hD7, by omega, hds, rfl⟩ (fun i σ H' _ h => SqL.of h.2.1) (fun i x σ H' hi h => ?_) (fun σ H' h => ?_)
          · obtain ⟨w8, hus8, tus8, ds', v13, hD8, hdl8, hds8, rfl⟩ := h
            obtain ⟨d, hd, hx, _, hit⟩ := tus8.at hi
            have sd : Shp 12 d := hts2 d (List.mem_of_getElem? hd)
            have hv8 := hv.tps (w8.tps d0)
            wtm_at "jw1"
            refine de_appK (K := K) (n := 15) rfl d0 w8 DH hD8 (fun H9 Q' w q' => ?_) (by omega) fun d' H9 w9 kp tp hD9 sd' => ?_
            · wtm_at "jw"
              refine ⟨v, x, rows, cells, _, si, ri, rfl, hv8.tps (w.tps w8.at_), er, hx.tps (w.tps w8.at_), by omega, by omega, fun v'' H' s' t' => ?_⟩
              exact q' v'' _ H' (w.at_.drew.same s') t' ((Shp.tup ((hrd.m.mono (by omega)).put er (fun c hc => (sc c hc).mono (by omega)) lc hr' sd).shp).mono (by omega))
            · exact ⟨w9, kp _ _ hus8 nO2D nO2p, tus8.tps tp, _, _, hD9, by simp; omega, shp_snoc hds8 sd', rfl⟩
          · obtain ⟨w8, hus8, tus8, ds', v13, hD8, hdl8, hds8, rfl⟩ := h
            have hv8 := hv.tps (w8.tps d0)
            wtm_at "jw"
            rename_i y3 hy3 y4 hy4
            have hR2 : si < R := by omega
            refine ⟨v, y4, rows, cells, _, si, si, rfl, hv8, er, hy4, by omega, by omega, fun vb H9 s9 tb => ?_⟩
            have w9 := w8.same s9
            have hD9 := hD8.same s9
            have a9 := w9.at_
            have s2f : Shp 2 (.tuple fs) := Shp.tup sf
            have mb := (hrd.m).put er sc lc hR2 s2f
            obtain ⟨cells2, er2, lc2, sc2⟩ := mb.at hs
            have sb : Shp 15 (.tuple (putR rows si cells si (.tuple fs))) := (Shp.tup mb.shp).mono (by omega)
            wtm_at "jls"
            refine de_cat (K := K) (n := 15) (k := 2) rfl a9 hD9 nD (DA.cons (DE.var rfl a9 tb sb) (DA.cons (fun H10 Q' w q' => ?_) DA.nil)) (by omega) fun G H10 es e10 hG hLG lG sG => ?_
            · wtm_at "jw"
              intro T hT
              have w11 := w.new (o := .tup []) hT
              refine ⟨vb, .ref T, _, cells2, .tuple [], si, ri, rfl, tb.tps (w11.tps a9), er2, TD.new hT .nil, by rw [mb.1]; omega, by omega, fun v'' H' s' t' => ?_⟩
              exact q' v'' _ H' ((w.at_.drew.new hT).same s') t' ((Shp.tup (mb.put er2 sc2 lc2 hr' (emp1.mono (by omega))).shp).mono (by omega))
            · exact q _ _ (w9.trans e10) (w9.free hG) ⟨_, hLG, by rw [List.length_append]; omega, shp_app hds8 sG⟩
theorem atI_zero {α : Type} {l : List α} (h : 0 < l.length) : ∃ x, L2.atI l 0 = some x ∧ x ∈ l := by
  refine ⟨l[0], ?_, List.getElem_mem h⟩
  exact atI_nat (j := 0) (List.getElem?_eq_getElem h)
theorem atI_neg1 {α : Type} {l : List α} (h : 0 < l.length) : ∃ x, L2.atI l (-1) = some x ∧ x ∈ l := by
  obtain ⟨l', x, rfl⟩ : ∃ l' x, l = l' ++ [x] := ⟨l.dropLast, l.getLast (List.ne_nil_of_length_pos h), (List.dropLast_concat_getLast _).symm⟩
  exact ⟨x, atI_last l' x, by simp⟩
/-- for thing in [..]: found.append(put(..)) : what stands in each turn -/
def sp__law_spoilt_senders (K : PySem.W.Frag) : Sp := fun vs H Q _ => ∃ (p a na : Addr) (v : V) (rows : List PyData) (S R fr late lost : Nat), vs = [.ref p, v, .ref na] ∧ DrawAt H p a ∧ NumsAt K H na S R fr late lost ∧ TD K H v (.tuple rows) ∧ RdD S R fr rows ∧ ∀ D H', Drew p a H H' → H D = none → OddL K H' D 15 100 → Q (.ref D) H'
theorem ok__law_spoilt_senders {P : Program} {w : World} {K : PySem.W.Frag} {mg : Str → Option Value} {base : Heap} {f : Addr} {fd : FuncData} (F : Df K mg "_law_spoilt_senders" s__law_spoilt_senders f fd ["d", "road", "numbers"]) (T : Txt mg)
    (c__law_draw : Cl P w K mg base 1 "_law_draw" (sp__law_draw K))
    (c__law_put_row : Cl P w K mg base 2 "_law_put_row" (sp__law_put_row K))
    (c__law_put : Cl P w K mg base 1 "_law_put" (sp__law_put K)) : FnOk P w K mg base CX0 3 f fd ["d", "road", "numbers"] (sp__law_spoilt_senders K) := by
  refine F.ok sc__law_spoilt_senders (fun vs H Q E h => ?_) (fun cdv A outer s H vs Q E hr h => ?_)
  · obtain ⟨p, a, na, v, rows, S, R, fr, late, lost, rfl, _⟩ := h
    rfl
  · obtain ⟨p, a, na, v, rows, S, R, fr, late, lost, rfl, d0, hnums, hv, hrd, q⟩ := h
    obtain ⟨hn, S0, S1, SR, R1, f0, f1, l1, l2⟩ := id hnums
    have hrl := hrd.1
    have hm := hrd.m
    have hrs3 : ∀ d ∈ rows, Shp 3 d := hm.shp
    have hrl5 : rows.length ≤ 5 := by omega
    refine ⟨_, (pss_cons (ps_asg (pv 2) (pg_tupK (K := K) rfl rfl (pgs_cons (pg_name (i := 3) sc__law_spoilt_senders.nd rfl (Or.inl rfl)) (pgs_cons (pg_name (i := 4) sc__law_spoilt_senders.nd rfl (Or.inl rfl)) (pgs_cons (pg_name (i := 5) sc__law_spoilt_senders.nd rfl (Or.inl rfl)) (pgs_cons (pg_name (i := 6) sc__law_spoilt_senders.nd rfl (Or.inl rfl)) (pgs_cons (pg_name (i := 7) sc__law_spoilt_senders.nd rfl (Or.inl rfl)) pgs_nil)))))))
      (pss_cons (ps_set (i := 8) sc__law_spoilt_senders.nd rfl (Or.inl rfl) (pe_lst pa_nil))
      (pss_cons (ps_set (i := 9) sc__law_spoilt_senders.nd rfl (Or.inl rfl) (pe_cl c__law_draw hr (by decide) rfl (pa_cons (pv 0) (pa_cons (pv 3) pa_nil))))
      (pss_cons (ps_set (i := 10) sc__law_spoilt_senders.nd rfl (Or.inl rfl) (pe_callTy (T := "tuple") (r := rTupOf K) c_tup (by rfl) T.b_tuple (by decide +kernel) (pa_cons (pe_lc (own := [("frame", 11)]) (g := gName 11) (tt := tYes) rfl sc__law_spoilt_senders.nd (pi_range1 rfl T.b_range (pa_cons (pv 5) pa_nil)) (blkOk_by (own := [("frame", 11)]) (N := N__law_spoilt_senders) (sc := defScope s__law_spoilt_senders) (by decide +kernel)) (fun _ _ _ _ _ => (pg_name (i := 11) sc__law_spoilt_senders.nd rfl (Or.inl rfl))) (fun _ _ _ _ _ => pts_nil) (fun _ _ _ _ _ => (pe_tup (pa_cons pe_int pa_nil)))) pa_nil)))
      (pss_cons (ps_set (i := 12) sc__law_spoilt_senders.nd rfl (Or.inl rfl) (pe_callTy (T := "tuple") (r := rTupOf K) c_tup (by rfl) T.b_tuple (by decide +kernel) (pa_cons (pe_lc (own := [("frame", 11)]) (g := gName 11) (tt := tYes) rfl sc__law_spoilt_senders.nd (pi_range1 rfl T.b_range (pa_cons (pv 5) pa_nil)) (blkOk_by (own := [("frame", 11)]) (N := N__law_spoilt_senders) (sc := defScope s__law_spoilt_senders) (by decide +kernel)) (fun _ _ _ _ _ => (pg_name (i := 11) sc__law_spoilt_senders.nd rfl (Or.inl rfl))) (fun _ _ _ _ _ => pts_nil) (fun _ _ _ _ _ => (pe_tup pa_nil))) pa_nil)))
      (pss_cons (ps_for PassesOwn.never rfl (pi_list (pe_lst (pa_cons (pv 10) (pa_cons (pv 12) (pa_cons (pe_tup (pa_cons (pe_tup pa_nil) pa_nil)) (pa_cons (pe_tup (pa_cons (pe_tup (pa_cons pe_int pa_nil)) pa_nil)) (pa_cons (pe_tup (pa_cons pe_non pa_nil)) (pa_cons pe_non (pa_cons pe_str (pa_cons pe_int (pa_cons pe_str pa_nil))))))))))) (pg_name (i := 13) sc__law_spoilt_senders.nd rfl (Or.inl rfl)) (pss_one (ps_expr (pe_bmK (K := K) rfl PySem.F.plainAttrs_list PySem.F.slot_list_append PySem.F.type_list_append mt_append (pv 8) (pa_cons (pe_cl c__law_put_row hr (by decide) rfl (pa_cons (pv 1) (pa_cons (pv 9) (pa_cons (pv 9) (pa_cons (pv 13) pa_nil))))) pa_nil)))))
      (pss_cons (ps_set (i := 14) sc__law_spoilt_senders.nd rfl (Or.inl rfl) (pe_ix (r := rIxT K) ix_tup (pv 1) (pv 9) (fun _ _ => rfl)))
      (pss_cons (ps_for PassesOwn.never rfl (pi_list (pe_lst (pa_cons (pe_slice (r := rSlQ K) sl_tupQ (pv 14) po_none (po_some (pe_un un_neg pe_int))) (pa_cons (pe_slice (r := rSlQ K) sl_tupQ (pv 14) (po_some pe_int) po_none) (pa_cons (pe_op (r := rCatA K) op_catA (pv 14) (pe_tup (pa_cons (pe_tup pa_nil) pa_nil))) (pa_cons (pe_op (r := rCatA K) op_catA (pv 14) (pe_tup (pa_cons (pv 10) pa_nil))) (pa_cons (pe_op (r := rCatA K) op_catA (pe_tup (pa_cons (pv 10) pa_nil)) (pv 14)) (pa_cons (pe_tupRt rfl (by rfl) T.b_tuple (by rfl) T.b_reversed (pv 14)) pa_nil)))))))) (pg_name (i := 15) sc__law_spoilt_senders.nd rfl (Or.inl rfl)) (pss_one (ps_expr (pe_bmK (K := K) rfl PySem.F.plainAttrs_list PySem.F.slot_list_append PySem.F.type_list_append mt_append (pv 8) (pa_cons (pe_cl c__law_put hr (by decide) rfl (pa_cons (pv 1) (pa_cons (pv 9) (pa_cons (pv 15) pa_nil)))) pa_nil)))))
      (pss_cons (ps_for PassesOwn.never rfl (pi_list (pe_lst (pa_cons (pe_tup pa_nil) (pa_cons pe_non (pa_cons pe_str (pa_cons (pv 4) (pa_cons (pe_op op_mulS pe_str (pv 4)) (pa_cons (pe_tup (pa_cons (pv 14) pa_nil)) (pa_cons (pe_callTy (T := "tuple") (r := rTupOf K) c_tup (by rfl) T.b_tuple (by decide +kernel) (pa_cons (pe_lc (own := [("receiver", 16)]) (g := gName 16) (tt := tYes) rfl sc__law_spoilt_senders.nd (pi_range1 rfl T.b_range (pa_cons (pv 4) pa_nil)) (blkOk_by (own := [("receiver", 16)]) (N := N__law_spoilt_senders) (sc := defScope s__law_spoilt_senders) (by decide +kernel)) (fun _ _ _ _ _ => (pg_name (i := 16) sc__law_spoilt_senders.nd rfl (Or.inl rfl))) (fun _ _ _ _ _ => pts_nil) (fun _ _ _ _ _ => pe_non)) pa_nil)) pa_nil))))))))) (pg_name (i := 15) sc__law_spoilt_senders.nd rfl (Or.inl rfl)) (pss_one (ps_expr (pe_bmK (K := K) rfl PySem.F.plainAttrs_list PySem.F.slot_list_append PySem.F.type_list_append mt_append (pv 8) (pa_cons (pe_cl c__law_put hr (by decide) rfl (pa_cons (pv 1) (pa_cons (pv 9) (pa_cons (pv 15) pa_nil)))) pa_nil)))))
      (pss_cons (ps_set (i := 8) sc__law_spoilt_senders.nd rfl (Or.inl rfl) (pe_op op_cat (pv 8) (pe_lst (pa_cons (pe_slice (r := rSlQ K) sl_tupQ (pv 1) po_none (po_some (pe_un un_neg pe_int))) (pa_cons (pe_slice (r := rSlQ K) sl_tupQ (pv 1) (po_some pe_int) po_none) (pa_cons (pe_op (r := rCatA K) op_catA (pv 1) (pe_tup (pa_cons (pe_ix (r := rIxT K) ix_tup (pv 1) pe_int (fun _ _ => rfl)) pa_nil))) (pa_cons (pe_op (r := rCatA K) op_catA (pe_tup (pa_cons (pe_ix (r := rIxT K) ix_tup (pv 1) (pe_un un_neg pe_int) (fun _ _ => rfl)) pa_nil)) (pv 1)) (pa_cons (pe_op (r := rCatA K) op_catA (pe_slice (r := rSlQ K) sl_tupQ (pv 1) (po_some pe_int) po_none) (pe_slice (r := rSlQ K) sl_tupQ (pv 1) po_none (po_some pe_int))) pa_nil))))))))
      (pss_cons (ps_set (i := 8) sc__law_spoilt_senders.nd rfl (Or.inl rfl) (pe_op op_cat (pv 8) (pe_lst (pa_cons (pe_tupRt rfl (by rfl) T.b_tuple (by rfl) T.b_reversed (pv 1)) (pa_cons (pe_tup pa_nil) (pa_cons pe_non (pa_cons pe_str (pa_cons pe_str (pa_cons (pv 3) (pa_cons (pe_op op_mulS pe_str (pv 3)) (pa_cons (pe_tup (pa_cons (pv 1) pa_nil)) (pa_cons (pe_tup (pa_cons (pe_tup pa_nil) pa_nil)) (pa_cons (pe_tup (pa_cons pe_non pa_nil)) (pa_cons (pe_tup (pa_cons pe_int (pa_cons pe_int pa_nil))) pa_nil))))))))))))))
      (pss_cons (ps_expr (pe_bmK (K := K) rfl PySem.F.plainAttrs_list PySem.F.slot_list_append PySem.F.type_list_append mt_append (pv 8) (pa_cons (pe_callTy (T := "tuple") (r := rTupOf K) c_tup (by rfl) T.b_tuple (by decide +kernel) (pa_cons (pe_lc (own := [("one", 17)]) (g := gName 17) (tt := tYes) rfl sc__law_spoilt_senders.nd (pi_range1 rfl T.b_range (pa_cons (pv 3) pa_nil)) (blkOk_by (own := [("one", 17)]) (N := N__law_spoilt_senders) (sc := defScope s__law_spoilt_senders) (by decide +kernel)) (fun _ _ _ _ _ => (pg_name (i := 17) sc__law_spoilt_senders.nd rfl (Or.inl rfl))) (fun _ _ _ _ _ => pts_nil) (fun _ _ _ _ _ => pe_non)) pa_nil)) pa_nil)))
      (pss_one (ps_ret (pv 8))))))))))))))), ?_⟩
    try dsimp only [cxOf, Cx.nox, Cx.wish]
    refine st_of (σ' := [some _, some _, some _, none, none, none, none, none, none, none, none, none, none, none, none, none, none, none]) rfl ?_
    wtm_at "jw"
    intro D hD
    have nD := d0.ne_none hD
    have hD1 : LD K (upd H D (.lst [])) D [] := .new hD .nil
    have w1 := d0.drew.new (o := .lst []) hD
    generalize upd H D (.lst []) = H1 at w1 hD1 ⊢
    wtm_at "jw"
    refine drawL w1 (by omega) (by omega) fun z H2 z0 z1 e2 w2 => ?_
    obtain ⟨si, rfl⟩ := Int.eq_ofNat_of_zero_le z0
    have hs : si < S := by omega
    have hsR : si < R := by omega
    have hD2 := hD1.drew w1.at_ e2 nD
    obtain ⟨cells, er, lc, sc⟩ := hm.at hs
    have er' : rows[((si : Nat) : Int).toNat]? = some (.tuple cells) := by rw [Int.toNat_natCast]; exact er
    have si0 : (0 : Int) ≤ (si : Int) := by omega
    have lc6 : cells.length ≤ 6 := by omega
    wtm_at "jw1"
    wtm_at "jw1"
    wtm_at "jw1"
    have a2 := w2.at_
    refine dt_run (K := K) (n := 1) (k := fr) (by wtm_at "dt") a2 fun vS dsS H3 e3 tS sS lS => ?_
    have a3 := e3.at_
    wtm_at "jw1"
    wtm_at "jw1"
    wtm_at "jw1"
    refine dt_run (K := K) (n := 1) (k := fr) (by wtm_at "dt") a3 fun vT dsT H4 e4 tT sT lT => ?_
    have a4 := e4.at_
    have w4 := (w2.trans e3).trans e4
    have tS4 := tS.tps (e4.tps a3)
    have hD4 := (hD2.drew a2 e3 nD).drew a3 e4 nD
    have hv4 := hv.tps (w4.tps d0)
    wtm_at "jls"
    refine de_lst (K := K) (n := 10) (k := 9) a4 (by wtm_at "da") (by decide) fun L H5 ts e5 hLn hLL hll hls => ?_
    have w5 := w4.trans e5
    have hD5 := hD4.drew a4 e5 nD
    have tS5 := tS4.tps (e5.tps a4)
    obtain ⟨us, hus, tus⟩ := hLL
    have nLD : L ≠ D := by
      obtain ⟨_, h1, _⟩ := hD4
      exact (ne_of_none h1 hLn).symm
    have nL := a4.ne_none hLn
    have hul := tus.len
    wtm_at "jls"
    refine f_list (xs := us) (fun i σ H' => Drew p a H H' ∧ H' L = some (.lst us) ∧ TDs K H' us ts ∧ TD K H' vS (.tuple dsS) ∧ ∃ ds v13, LD K H' D ds ∧ ds.length = i ∧ (∀ d ∈ ds, Shp 15 d) ∧ σ = [some (.ref p), some v, some (.ref na), some (.int (S : Int)), some (.int (R : Int)), some (.int (fr : Int)), some (.int (late : Int)), some (.int (lost : Int)), some (.ref D), some (.int (si : Int)), some vS, none, some vT, v13, none, none, none, none])
      ⟨w5, hus, tus, tS5, [], none, hD5, rfl, fun d h => (by cases h), rfl⟩ (fun i σ H' _ h => SqL.of h.2.1) (fun i x σ H' hi h => ?_) (fun σ H' h => ?_)
    · obtain ⟨w6, hus6, tus6, tS6, ds, v13, hD6, hdl, hds, rfl⟩ := h
      obtain ⟨d, hd, hx, _, hit⟩ := tus6.at hi
      have sd : Shp 10 d := hls d (List.mem_of_getElem? hd)
      have hv6 := hv.tps (w6.tps d0)
      wtm_at "jw1"
      refine de_appK (K := K) (n := 15) rfl d0 w6 hD hD6 (fun H9 Q' w q' => ?_) (by omega) fun d' H9 w9 kp tp hD9 sd' => ?_
      · wtm_at "jw"
        refine ⟨v, x, rows, cells, _, si, si, rfl, hv6.tps (w.tps w6.at_), er, hx.tps (w.tps w6.at_), by omega, by omega, fun v'' H' s' t' => ?_⟩
        exact q' v'' _ H' (w.at_.drew.same s') t' ((Shp.tup ((hm.mono (by omega)).put er (fun c hc => (sc c hc).mono (by omega)) lc hsR sd).shp).mono (by omega))
      · exact ⟨w9, kp _ _ hus6 nLD nL, tus6.tps tp, tS6.tps tp, _, _, hD9, by simp [hdl], shp_snoc hds sd', rfl⟩
    · obtain ⟨w6, hus6, tus6, tS6, ds, v13, hD6, hdl, hds, rfl⟩ := h
      have hdl9 : ds.length = 9 := by omega
      have hv6 := hv.tps (w6.tps d0)
      have a6 := w6.at_
      wtm_at "jls"
      rename_i y hy
      wtm_at "jls"
      refine de_lst (K := K) (n := 10) (k := 6) a6 (by wtm_at "da") (by decide) fun L2 H7 ts2 e7 hLn2 hLL2 hll2 hls2 => ?_
      have w7 := w6.trans e7
      have hD7 := hD6.drew a6 e7 nD
      have hy7 := hy.tps (e7.tps a6)
      obtain ⟨us2, hus2, tus2⟩ := hLL2
      have nLD2 : L2 ≠ D := by
        obtain ⟨_, h1, _⟩ := hD6
        exact (ne_of_none h1 hLn2).symm
      have nL2 := a6.ne_none hLn2
      have hul2 := tus2.len
      wtm_at "jls"
      refine f_list (xs := us2) (fun i σ H' => Drew p a H H' ∧ H' L2 = some (.lst us2) ∧ TDs K H' us2 ts2 ∧ TD K H' y (.tuple cells) ∧ ∃ ds v15, LD K H' D ds ∧ ds.length = 9 + i ∧ (∀ d ∈ ds, Shp 15 d) ∧ σ = [some (.ref p), some v, some (.ref na), some (.int (S : Int)), some (.int (R : Int)), some (.int (fr : Int)), some (.int (late : Int)), some (.int (lost : Int)), some (.ref D), some (.int (si : Int)), some vS, none, some vT, v13, some y, v15, none, none])
        ⟨w7, hus2, tus2, hy7, ds, none, hD7, by omega, hds, rfl⟩ (fun i σ H' _ h => SqL.of h.2.1) (fun i x σ H' hi h => ?_) (fun σ H' h => ?_)
      · obtain ⟨w8, hus8, tus8, hy8, ds8, v15, hD8, hdl8, hds8, rfl⟩ := h
        obtain ⟨d, hd, hx, _, hit⟩ := tus8.at hi
        have sd : Shp 10 d := hls2 d (List.mem_of_getElem? hd)
        have hv8 := hv.tps (w8.tps d0)
        wtm_at "jw1"
        refine de_appK (K := K) (n := 15) rfl d0 w8 hD hD8 (fun H9 Q' w q' => ?_) (by omega) fun d' H9 w9 kp tp hD9 sd' => ?_
        · wtm_at "jw"
          refine ⟨v, x, rows, d, si, rfl, hv8.tps (w.tps w8.at_), hx.tps (w.tps w8.at_), by omega, fun v'' H' s' t' => ?_⟩
          refine q' v'' _ H' (w.at_.drew.same s') t' ((Shp.tup (n := 10) fun c hc => ?_).mono (by omega))
          rcases putL_mem hc with rfl | hc
          · exact sd
          · exact (hrs3 c hc).mono (by omega)
        · exact ⟨w9, kp _ _ hus8 nLD2 nL2, tus8.tps tp, hy8.tps tp, _, _, hD9, by simp; omega, shp_snoc hds8 sd', rfl⟩
      · obtain ⟨w8, hus8, tus8, hy8, ds8, v15, hD8, hdl8, hds8, rfl⟩ := h
        have hdl15 : ds8.length = 15 := by omega
        have a8 := w8.at_
        wtm_at "jls"
        refine de_lst (K := K) (n := 10) (k := 7) a8 (by wtm_at "da") (by decide) fun L3 H9 ts3 e9 hLn3 hLL3 hll3 hls3 => ?_
        have w9 := w8.trans e9
        have hD9 := hD8.drew a8 e9 nD
        obtain ⟨us3, hus3, tus3⟩ := hLL3
        have nLD3 : L3 ≠ D := by
          obtain ⟨_, h1, _⟩ := hD8
          exact (ne_of_none h1 hLn3).symm
        have nL3 := a8.ne_none hLn3
        have hul3 := tus3.len
        wtm_at "jls"
        refine f_list (xs := us3) (fun i σ H' => Drew p a H H' ∧ H' L3 = some (.lst us3) ∧ TDs K H' us3 ts3 ∧ ∃ ds v15, LD K H' D ds ∧ ds.length = 15 + i ∧ (∀ d ∈ ds, Shp 15 d) ∧ σ = [some (.ref p), some v, some (.ref na), some (.int (S : Int)), some (.int (R : Int)), some (.int (fr : Int)), some (.int (late : Int)), some (.int (lost : Int)), some (.ref D), some (.int (si : Int)), some vS, none, some vT, v13, some y, v15, none, none])
          ⟨w9, hus3, tus3, ds8, v15, hD9, by omega, hds8, rfl⟩ (fun i σ H' _ h => SqL.of h.2.1) (fun i x σ H' hi h => ?_) (fun σ H' h => ?_)
        · obtain ⟨w10, hus10, tus10, ds10, v15, hD10, hdl10, hds10, rfl⟩ := h
          obtain ⟨d, hd, hx, _, hit⟩ := tus10.at hi
          have sd : Shp 10 d := hls3 d (List.mem_of_getElem? hd)
          have hv10 := hv.tps (w10.tps d0)
          wtm_at "jw1"
          refine de_appK (K := K) (n := 15) rfl d0 w10 hD hD10 (fun H9 Q' w q' => ?_) (by omega) fun d' H9 w9 kp tp hD9 sd' => ?_
          · wtm_at "jw"
            refine ⟨v, x, rows, d, si, rfl, hv10.tps (w.tps w10.at_), hx.tps (w.tps w10.at_), by omega, fun v'' H' s' t' => ?_⟩
            refine q' v'' _ H' (w.at_.drew.same s') t' ((Shp.tup (n := 10) fun c hc => ?_).mono (by omega))
            rcases putL_mem hc with rfl | hc
            · exact sd
            · exact (hrs3 c hc).mono (by omega)
          · exact ⟨w9, kp _ _ hus10 nLD3 nL3, tus10.tps tp, _, _, hD9, by simp; omega, shp_snoc hds10 sd', rfl⟩
        · obtain ⟨w10, hus10, tus10, ds10, v15, hD10, hdl10, hds10, rfl⟩ := h
          have hdl22 : ds10.length = 22 := by omega
          have a10 := w10.at_
          have hv10 := hv.tps (w10.tps d0)
          obtain ⟨d00, e00, m00⟩ := atI_zero (l := rows) (by omega)
          obtain ⟨d01, e01, m01⟩ := atI_neg1 (l := rows) (by omega)
          have s00 : Shp 13 d00 := (hrs3 _ m00).mono (by omega)
          have s01 : Shp 13 d01 := (hrs3 _ m01).mono (by omega)
          wtm_at "jls"
          refine de_cat (K := K) (n := 14) (k := 5) rfl a10 hD10 nD (by wtm_at "da") (by omega) fun G H11 es e11 hG hLG lG sG => ?_
          have w11 := w10.trans e11
          have a11 := w11.at_
          have hv11 := hv.tps (w11.tps d0)
          have nG := a10.ne_none hG
          wtm_at "jls"
          refine de_cat (K := K) (n := 14) (k := 11) rfl a11 hLG nG (by wtm_at "da") (by rw [List.length_append]; omega) fun G2 H12 es2 e12 hG2 hLG2 lG2 sG2 => ?_
          have w12 := w11.trans e12
          have a12 := w12.at_
          have G2H := w11.free hG2
          have sA : ∀ d ∈ ((ds10 ++ es) ++ es2), Shp 15 d := shp_app (shp_app hds10 fun d hd => (sG d hd).mono (by omega)) fun d hd => (sG2 d hd).mono (by omega)
          have lA : ((ds10 ++ es) ++ es2).length = 38 := by simp; omega
          generalize (ds10 ++ es) ++ es2 = gs at hLG2 sA lA
          wtm_at "jls"
          refine de_app (K := K) (n := 15) rfl d0 w12 G2H hLG2 (by wtm_at "de") (by omega) fun d' H13 w13 hL13 sd' => ?_
          wtm_at "jw"
          exact q _ _ w13 G2H ⟨_, hL13, by simp; omega, shp_snoc sA sd'⟩
/-! expressions, exactly -/
section
variable {K : PySem.W.Frag} {p a : Addr} {H0 : Hp} {σ : L2.St}
def DX (K : PySem.W.Frag) (p a : Addr) (H0 : Hp) (σ : L2.St) (te : TE) (d : PyData) : Prop := ∀ (H : Hp) (Q : VK), Drew p a H0 H → (∀ v H', Drew p a H H' → TD K H' v d → Q v H') → te σ H Q
def DXs (K : PySem.W.Frag) (p a : Addr) (H0 : Hp) (σ : L2.St) (t : TA) (ds : List PyData) : Prop := ∀ (H : Hp) (Q : List V → Hp → Prop), Drew p a H0 H → (∀ vs H', Drew p a H H' → TDs K H' vs ds → Q vs H') → t σ H Q
theorem DX.ie {te : TE} {m : Int} (h : IE σ te m) : DX K p a H0 σ te (.int m) := fun H Q w q => h H _ (q _ H w.at_.drew (.int m))
theorem DX.var {i : Nat} {v : V} {d : PyData} (e : σ[i]? = some (some v)) (d0 : DrawAt H0 p a) (h : TD K H0 v d) : DX K p a H0 σ (tVar i) d := fun H Q w q => ⟨_, e, q _ H w.at_.drew (h.tps (w.tps d0))⟩
theorem DXs.nil : DXs K p a H0 σ tNil [] := fun H Q w q => q [] H w.at_.drew .nil
theorem DXs.cons {te : TE} {t : TA} {d : PyData} {ds : List PyData} (h1 : DX K p a H0 σ te d) (h2 : DXs K p a H0 σ t ds) : DXs K p a H0 σ (tCons te t) (d :: ds) := fun H Q w q =>
  h1 H _ w fun v H1 e1 t1 => h2 H1 _ (w.trans e1) fun vs H2 e2 ts => q (v :: vs) H2 (e1.trans e2) (.cons (t1.tps (e2.tps e1.at_)) ts)
theorem DX.tup {t : TA} {ds : List PyData} (h : DXs K p a H0 σ t ds) (hk : ds.length ≤ 1000) : DX K p a H0 σ (tTup t) (.tuple ds) := fun H Q w q =>
  h H _ w fun vs H1 e1 ts => ⟨by rw [ts.len, sizeLine_eq]; omega, fun b hb => q (.ref b) _ (e1.new hb) (TD.new hb ts)⟩
theorem IE.mul {ta tb : TE} {i j : Int} (h1 : IE σ ta i) (h2 : IE σ tb j) (c : CMul i j) : IE σ (tOp (rI CMul fun i j => V.int (i * j)) ta tb) (i * j) := fun H Q q => h1 H _ (h2 H _ ⟨i, j, rfl, rfl, c, q⟩)
theorem dx_lst {t : TA} {H : Hp} {Q : VK} {ds : List PyData} (d0 : DrawAt H p a) (h : DXs K p a H σ t ds) (hk : ds.length ≤ 1000) (q : ∀ D H', Drew p a H H' → H D = none → LD K H' D ds → Q (.ref D) H') : tLst t σ H Q :=
  h H _ d0.drew fun vs H1 e1 ts => ⟨by rw [ts.len, sizeLine_eq]; omega, fun b hb => q b _ (e1.new hb) (e1.free hb) (.new hb ts)⟩
theorem dx_cat {i : Nat} {t : TA} {H : Hp} {Q : VK} {D : Addr} {ds es : List PyData} (e : σ[i]? = some (some (.ref D))) (d0 : DrawAt H p a) (hL : LD K H D ds) (nD : D ≠ p) (h : DXs K p a H σ t es) (hk : es.length + ds.length ≤ 1000) (q : ∀ G H', Drew p a H H' → H G = none → LD K H' G (ds ++ es) → Q (.ref G) H') : tOp rCat (tVar i) (tLst t) σ H Q :=
  ⟨_, e, h H _ d0.drew fun vs H1 e1 ts => ⟨by rw [ts.len, sizeLine_eq]; omega, fun b hb => by
    obtain ⟨us, hu, tu⟩ := hL.drew d0 e1 nD
    have e2 := e1.new (o := .lst vs) hb
    have s2 := same_new (o := .lst vs) hb
    refine i_cat (s2 _ _ hu) upd_same (by rw [tu.len, ts.len, sizeLine_eq]; omega) fun G hG => ?_
    exact q G _ (e2.new hG) (e2.free hG) (.new hG ((tu.same s2).app (ts.same s2)))⟩⟩
theorem dx_app {i : Nat} {te : TE} {Hb H : Hp} {D : Addr} {ds : List PyData} {d : PyData} {nx : L2.St → Hp → Prop} {rt : VK} {bk ct : L2.St → Hp → Prop} (e : σ[i]? = some (some (.ref D))) (d0 : DrawAt Hb p a) (w : Drew p a Hb H) (hD : Hb D = none) (hL : LD K H D ds) (h : DX K p a H σ te d) (hl : ds.length < 1000)
    (q : ∀ H', Drew p a Hb H' → LD K H' D (ds ++ [d]) → nx σ H') : tDrop (tBM K "list" rAppend (tVar i) (tCons te tNil)) ⟨nx, rt, bk, ct⟩ σ H := by
  refine ⟨_, e, ?_⟩
  obtain ⟨us, hu, tu⟩ := id hL
  refine i_tyL (SqL.of hu) (h H _ w.at_.drew fun v H1 e1 t1 => ?_)
  have nD := d0.ne_none hD
  obtain ⟨us1, hu1, tu1⟩ := hL.drew w.at_ e1 nD
  show rAppend (V.ref D) [v] H1 fun _ H2 => nx σ H2
  refine i_app hu1 (small1000 (by rw [tu1.len]; omega)) ?_
  exact q _ ((w.trans e1).put d0 hD) (LD.snoc hu1 tu1 t1)
end
local macro_rules | `(tactic| wtm_at "xi") => `(tactic| repeat (first | with_reducible exact IE.c | ((with_reducible refine' IE.var ?e); (case e => exact rfl)) | with_reducible apply IE.add | with_reducible apply IE.sub | ((with_reducible refine' IE.mul IE.c ?h2 ?c); (case h2 => wtm_at "xi"); (case c => wtm_at "jside"))))
local macro_rules | `(tactic| wtm_at "xa") => `(tactic| first | with_reducible exact DXs.nil | ((with_reducible refine' DXs.cons ?h1 ?h2); (case h1 => wtm_at "xe"); (case h2 => wtm_at "xa")))
local macro_rules | `(tactic| wtm_at "xe") => `(tactic| first
  | ((with_reducible refine' DX.tup ?h ?hk); (case h => wtm_at "xa"); (case hk => simp))
  | ((with_reducible refine' DX.ie ?h); (case h => (wtm_at "xi"; done)))
  | ((with_reducible refine' DX.var ?e ?d0 ?h); (case e => exact rfl); (case d0 => assumption); (case h => assumption)))
def NumD (d : PyData) : Prop := ∃ (S R l : Nat) (fr dl : Int), d = .tuple [.int (S : Int), .int (R : Int), .int fr, .int dl, .int (l : Int)] ∧ S < 1000 ∧ R < 1000 ∧ fr < 1000 ∧ l < 1000
theorem numD_mk {s r f d l : Int} (h1 : 0 ≤ s ∧ s < 1000) (h2 : 0 ≤ r ∧ r < 1000) (h3 : f < 1000) (h4 : 0 ≤ l ∧ l < 1000) : NumD (.tuple [.int s, .int r, .int f, .int d, .int l]) :=
  ⟨s.toNat, r.toNat, l.toNat, f, d, by rw [Int.toNat_of_nonneg h1.1, Int.toNat_of_nonneg h2.1, Int.toNat_of_nonneg h4.1], by omega, by omega, h3, by omega⟩
theorem num_snoc {ds : List PyData} {d : PyData} (h : ∀ x ∈ ds, NumD x) (hd : NumD d) : ∀ x ∈ ds ++ [d], NumD x := fun x hx => by
  rcases List.mem_append.mp hx with hx | hx
  · exact h x hx
  · rw [List.mem_singleton.mp hx]; exact hd
def sp__law_other_numbers (K : PySem.W.Frag) : Sp := fun vs H Q _ => ∃ (p a na : Addr) (S R fr late lost : Nat), vs = [.ref na] ∧ DrawAt H p a ∧ NumsAt K H na S R fr late lost ∧ R ≤ S + 1 ∧ ∀ D ds H', Drew p a H H' → H D = none → LD K H' D ds → ds.length ≤ 100 → (∀ d ∈ ds, NumD d) → Q (.ref D) H'
theorem ok__law_other_numbers {P : Program} {w : World} {K : PySem.W.Frag} {mg : Str → Option Value} {base : Heap} {f : Addr} {fd : FuncData} (F : Df K mg "_law_other_numbers" s__law_other_numbers f fd ["numbers"]) (T : Txt mg) : FnOk P w K mg base CX0 1 f fd ["numbers"] (sp__law_other_numbers K) := by
  refine F.ok sc__law_other_numbers (fun vs H Q E h => ?_) (fun cdv A outer s H vs Q E hr h => ?_)
  · obtain ⟨p, a, na, S, R, fr, late, lost, rfl, _⟩ := h
    rfl
  · obtain ⟨p, a, na, S, R, fr, late, lost, rfl, d0, hnums, RS, q⟩ := h
    obtain ⟨hn, S0, S1, SR, R1, f0, f1, l1, l2⟩ := id hnums
    have tn : TD K H (.ref na) (.tuple [.int (S : Int), .int (R : Int), .int (fr : Int), .int (late : Int), .int (lost : Int)]) := .tup hn (.cons (.int _) (.cons (.int _) (.cons (.int _) (.cons (.int _) (.cons (.int _) .nil)))))
    refine ⟨_, (pss_cons (ps_asg (pv 0) (pg_tupK (K := K) rfl rfl (pgs_cons (pg_name (i := 1) sc__law_other_numbers.nd rfl (Or.inl rfl)) (pgs_cons (pg_name (i := 2) sc__law_other_numbers.nd rfl (Or.inl rfl)) (pgs_cons (pg_name (i := 3) sc__law_other_numbers.nd rfl (Or.inl rfl)) (pgs_cons (pg_name (i := 4) sc__law_other_numbers.nd rfl (Or.inl rfl)) (pgs_cons (pg_name (i := 5) sc__law_other_numbers.nd rfl (Or.inl rfl)) pgs_nil)))))))
      (pss_cons (ps_set (i := 6) sc__law_other_numbers.nd rfl (Or.inl rfl) (pe_lst (pa_cons (pv 0) (pa_cons (pe_tup (pa_cons (pv 1) (pa_cons (pe_op op_sub (pe_op op_add (pe_op op_mul pe_int (pv 1)) pe_int) (pv 2)) (pa_cons (pv 3) (pa_cons (pv 4) (pa_cons (pv 5) pa_nil)))))) pa_nil))))
      (pss_cons (ps_set (i := 6) sc__law_other_numbers.nd rfl (Or.inl rfl) (pe_op op_cat (pv 6) (pe_lst (pa_cons (pe_tup (pa_cons (pv 1) (pa_cons (pv 2) (pa_cons (pe_op op_add (pv 3) pe_int) (pa_cons (pv 4) (pa_cons (pv 5) pa_nil)))))) pa_nil))))
      (pss_cons (ps_if (pt_cmpR op_gt (pv 3) pe_int (nomark _)) (pss_one (ps_expr (pe_bmK (K := K) rfl PySem.F.plainAttrs_list PySem.F.slot_list_append PySem.F.type_list_append mt_append (pv 6) (pa_cons (pe_tup (pa_cons (pv 1) (pa_cons (pv 2) (pa_cons (pe_op op_sub (pv 3) pe_int) (pa_cons (pv 4) (pa_cons (pv 5) pa_nil)))))) pa_nil)))) pss_nil)
      (pss_cons (ps_if (pt_cmpR op_gt (pv 1) pe_int (nomark _)) (pss_one (ps_expr (pe_bmK (K := K) rfl PySem.F.plainAttrs_list PySem.F.slot_list_append PySem.F.type_list_append mt_append (pv 6) (pa_cons (pe_tup (pa_cons (pe_op op_sub (pv 1) pe_int) (pa_cons (pe_op op_sub (pv 2) pe_int) (pa_cons (pv 3) (pa_cons (pv 4) (pa_cons (pv 5) pa_nil)))))) pa_nil)))) pss_nil)
      (pss_cons (ps_if (pt_cmpR op_lt (pv 1) pe_int (nomark _)) (pss_one (ps_expr (pe_bmK (K := K) rfl PySem.F.plainAttrs_list PySem.F.slot_list_append PySem.F.type_list_append mt_append (pv 6) (pa_cons (pe_tup (pa_cons (pe_op op_add (pv 1) pe_int) (pa_cons (pe_op op_add (pv 2) pe_int) (pa_cons (pv 3) (pa_cons (pv 4) (pa_cons (pv 5) pa_nil)))))) pa_nil)))) pss_nil)
      (pss_cons (ps_for PassesOwn.never rfl (pi_range1 rfl T.b_range (pa_cons pe_int pa_nil)) (pg_name (i := 7) sc__law_other_numbers.nd rfl (Or.inl rfl)) (pss_cons (ps_expr (pe_bmK (K := K) rfl PySem.F.plainAttrs_list PySem.F.slot_list_append PySem.F.type_list_append mt_append (pv 6) (pa_cons (pe_tup (pa_cons (pv 1) (pa_cons (pv 2) (pa_cons (pv 3) (pa_cons (pv 7) (pa_cons (pv 5) pa_nil)))))) pa_nil)))
      (pss_one (ps_expr (pe_bmK (K := K) rfl PySem.F.plainAttrs_list PySem.F.slot_list_append PySem.F.type_list_append mt_append (pv 6) (pa_cons (pe_tup (pa_cons (pv 1) (pa_cons (pv 2) (pa_cons (pv 3) (pa_cons (pv 4) (pa_cons (pv 7) pa_nil)))))) pa_nil))))))
      (pss_one (ps_ret (pv 6)))))))))), ?_⟩
    try dsimp only [cxOf, Cx.nox, Cx.wish]
    refine st_of (σ' := [some _, none, none, none, none, none, none, none]) rfl ?_
    wtm_at "jls"
    refine dx_lst (K := K) (ds := [.tuple [.int (S : Int), .int (R : Int), .int (fr : Int), .int (late : Int), .int (lost : Int)], .tuple [.int (S : Int), .int (2 * (S : Int) + 1 - (R : Int)), .int (fr : Int), .int (late : Int), .int (lost : Int)]]) d0 (by wtm_at "xa") (by simp) fun D H1 e1 hD hL => ?_
    have a1 := e1.at_
    have nD := d0.ne_none hD
    wtm_at "jls"
    refine dx_cat (K := K) (es := [.tuple [.int (S : Int), .int (R : Int), .int ((fr : Int) + 1), .int (late : Int), .int (lost : Int)]]) rfl a1 hL nD (by wtm_at "xa") (by simp) fun G H2 e2 hG hLG => ?_
    have w2 := e1.trans e2
    have GH := e1.free hG
    have nm0 : ∀ d ∈ ([.tuple [.int (S : Int), .int (R : Int), .int (fr : Int), .int (late : Int), .int (lost : Int)], .tuple [.int (S : Int), .int (2 * (S : Int) + 1 - (R : Int)), .int (fr : Int), .int (late : Int), .int (lost : Int)]] ++ [.tuple [.int (S : Int), .int (R : Int), .int ((fr : Int) + 1), .int (late : Int), .int (lost : Int)]] : List PyData), NumD d := fun d hd => by
      simp only [List.cons_append, List.nil_append, List.mem_cons, List.not_mem_nil, or_false] at hd
      rcases hd with rfl | rfl | rfl
      · exact numD_mk (by omega) (by omega) (by omega) (by omega)
      · exact numD_mk (by omega) (by omega) (by omega) (by omega)
      · exact numD_mk (by omega) (by omega) (by omega) (by omega)
    have l3 : ([.tuple [.int (S : Int), .int (R : Int), .int (fr : Int), .int (late : Int), .int (lost : Int)], .tuple [.int (S : Int), .int (2 * (S : Int) + 1 - (R : Int)), .int (fr : Int), .int (late : Int), .int (lost : Int)]] ++ [.tuple [.int (S : Int), .int (R : Int), .int ((fr : Int) + 1), .int (late : Int), .int (lost : Int)]] : List PyData).length ≤ 3 := by simp
    generalize ([.tuple [.int (S : Int), .int (R : Int), .int (fr : Int), .int (late : Int), .int (lost : Int)], .tuple [.int (S : Int), .int (2 * (S : Int) + 1 - (R : Int)), .int (fr : Int), .int (late : Int), .int (lost : Int)]] ++ [.tuple [.int (S : Int), .int (R : Int), .int ((fr : Int) + 1), .int (late : Int), .int (lost : Int)]] : List PyData) = ds3 at hLG nm0 l3
    wtm_at "jls"
    refine i_ifC (fun σ' H' => Drew p a H H' ∧ ∃ ds, LD K H' G ds ∧ ds.length ≤ 4 ∧ (∀ d ∈ ds, NumD d) ∧ σ' = [some (.ref na), some (.int (S : Int)), some (.int (R : Int)), some (.int (fr : Int)), some (.int (late : Int)), some (.int (lost : Int)), some (.ref G), none]) (fun σ' H3 h => ?_) (fun N hN => ?_)
    · obtain ⟨w3, ds, hL3, dl, hds, rfl⟩ := h
      wtm_at "jls"
      refine i_ifC (fun σ' H' => Drew p a H H' ∧ ∃ ds, LD K H' G ds ∧ ds.length ≤ 5 ∧ (∀ d ∈ ds, NumD d) ∧ σ' = [some (.ref na), some (.int (S : Int)), some (.int (R : Int)), some (.int (fr : Int)), some (.int (late : Int)), some (.int (lost : Int)), some (.ref G), none]) (fun σ' H4 h => ?_) (fun N hN => ?_)
      · obtain ⟨w4, ds, hL4, dl, hds, rfl⟩ := h
        wtm_at "jls"
        refine i_ifC (fun σ' H' => Drew p a H H' ∧ ∃ ds, LD K H' G ds ∧ ds.length ≤ 6 ∧ (∀ d ∈ ds, NumD d) ∧ σ' = [some (.ref na), some (.int (S : Int)), some (.int (R : Int)), some (.int (fr : Int)), some (.int (late : Int)), some (.int (lost : Int)), some (.ref G), none]) (fun σ' H5 h => ?_) (fun N hN => ?_)
        · obtain ⟨w5, ds, hL5, dl, hds, rfl⟩ := h
          wtm_at "jls"
          refine f_range (fun i σ H' => Drew p a H H' ∧ ∃ ds v7, LD K H' G ds ∧ ds.length ≤ 6 + 2 * i ∧ (∀ d ∈ ds, NumD d) ∧ σ = [some (.ref na), some (.int (S : Int)), some (.int (R : Int)), some (.int (fr : Int)), some (.int (late : Int)), some (.int (lost : Int)), some (.ref G), v7])
            ⟨w5, ds, none, hL5, dl, hds, rfl⟩ (fun i σ H' hi h => ?_) (fun σ H' h => ?_)
          · obtain ⟨w6, ds, v7, hL6, dl, hds, rfl⟩ := h
            have hi4 : i < 4 := hi
            rw [Int.zero_add]
            wtm_at "jls"
            refine dx_app (K := K) rfl d0 w6 GH hL6 (by wtm_at "xe") (by omega) fun H7 w7 hL7 => ?_
            wtm_at "jls"
            refine dx_app (K := K) rfl d0 w7 GH hL7 (by wtm_at "xe") (by rw [List.length_append]; simp; omega) fun H8 w8 hL8 => ?_
            exact ⟨w8, _, _, hL8, by simp; omega, num_snoc (num_snoc hds (numD_mk (by omega) (by omega) (by omega) (by omega))) (numD_mk (by omega) (by omega) (by omega) (by omega)), rfl⟩
          · obtain ⟨w6, ds, v7, hL6, dl, hds, rfl⟩ := h
            wtm_at "jw"
            exact q _ ds _ w6 GH hL6 (Nat.le_trans dl (by decide)) hds
        · refine i_ifS ?_
          wtm_at "js"
          refine c_dec (fun h => ?_) (fun h => ?_)
          · refine dx_app (K := K) rfl d0 w4 GH hL4 (by wtm_at "xe") (by omega) fun H7 w7 hL7 => ?_
            exact hN _ _ ⟨w7, _, hL7, by simp; omega, num_snoc hds (numD_mk (by omega) (by omega) (by omega) (by omega)), rfl⟩
          · wtm_at "jw"
            exact hN _ _ ⟨w4, ds, hL4, by omega, hds, rfl⟩
      · refine i_ifS ?_
        wtm_at "js"
        refine c_dec (fun h => ?_) (fun h => ?_)
        · refine dx_app (K := K) rfl d0 w3 GH hL3 (by wtm_at "xe") (by omega) fun H7 w7 hL7 => ?_
          exact hN _ _ ⟨w7, _, hL7, by simp; omega, num_snoc hds (numD_mk (by omega) (by omega) (by omega) (by omega)), rfl⟩
        · wtm_at "jw"
          exact hN _ _ ⟨w3, ds, hL3, by omega, hds, rfl⟩
    · refine i_ifS ?_
      wtm_at "js"
      refine c_dec (fun h => ?_) (fun h => ?_)
      · refine dx_app (K := K) rfl d0 w2 GH hLG (by wtm_at "xe") (by omega) fun H7 w7 hL7 => ?_
        exact hN _ _ ⟨w7, _, hL7, by simp; omega, num_snoc nm0 (numD_mk (by omega) (by omega) (by omega) (by omega)), rfl⟩
      · wtm_at "jw"
        exact hN _ _ ⟨w2, ds3, hLG, by omega, nm0, rfl⟩
def sp_law (K : PySem.W.Frag) : Sp := fun vs H Q _ => ∃ (a : Addr) (ns : List Int), vs = [.ref a] ∧ SqL K H a (ns.map V.int) ∧ ns.length ≤ 63 ∧ ∀ H', Q (.bl true) H'
theorem ok_law {P : Program} {w : World} {K : PySem.W.Frag} {mg : Str → Option Value} {base : Heap} {f : Addr} {fd : FuncData} (F : Df K mg "law" s_law f fd ["script"]) (T : Txt mg)
    (c__law_begin : Cl P w K mg base 1 "_law_begin" (sp__law_begin K))
    (c__law_pick : Cl P w K mg base 2 "_law_pick" (sp__law_pick K))
    (c__law_rare : Cl P w K mg base 2 "_law_rare" (sp__law_rare K))
    (c__law_right_road : Cl P w K mg base 5 "_law_right_road" (sp__law_right_road K))
    (c__law_shuffled : Cl P w K mg base 2 "_law_shuffled" (sp__law_shuffled K))
    (c__law_other_numbers : Cl P w K mg base 1 "_law_other_numbers" (sp__law_other_numbers K))
    (c__law_draw : Cl P w K mg base 1 "_law_draw" (sp__law_draw K))
    (c__law_spoilt_ways : Cl P w K mg base 5 "_law_spoilt_ways" (sp__law_spoilt_ways K))
    (c__law_spoilt_senders : Cl P w K mg base 3 "_law_spoilt_senders" (sp__law_spoilt_senders K))
    (c__law_is_judged : Cl P w K mg base 7 "_law_is_judged" (sp__law_is_judged K)) : FnOk P w K mg base CX0 8 f fd ["script"] (sp_law K) := by
  refine F.ok sc_law (fun vs H Q E h => ?_) (fun cdv A outer s H vs Q E hr h => ?_)
  · obtain ⟨a, ns, rfl, _⟩ := h
    rfl
  · obtain ⟨a, ns, rfl, hS, hl, q⟩ := h
    refine ⟨_, (pss_cons (ps_set (i := 1) sc_law.nd rfl (Or.inl rfl) (pe_cl c__law_begin hr (by decide) rfl (pa_cons (pv 0) pa_nil)))
      (pss_cons (ps_set (i := 2) sc_law.nd rfl (Or.inl rfl) (pe_cl c__law_pick hr (by decide) rfl (pa_cons (pv 1) (pa_cons (pe_lst (pa_cons pe_int (pa_cons pe_int (pa_cons pe_int (pa_cons pe_int (pa_cons pe_int pa_nil)))))) pa_nil))))
      (pss_cons (ps_set (i := 3) sc_law.nd rfl (Or.inl rfl) (pe_op op_add (pv 2) (pe_cl c__law_draw hr (by decide) rfl (pa_cons (pv 1) (pa_cons pe_int pa_nil)))))
      (pss_cons (ps_set (i := 4) sc_law.nd rfl (Or.inl rfl) (pe_op op_add pe_int (pe_cl c__law_draw hr (by decide) rfl (pa_cons (pv 1) (pa_cons pe_int pa_nil)))))
      (pss_cons (ps_if (pt_val (pe_cl c__law_rare hr (by decide) rfl (pa_cons (pv 1) (pa_cons pe_int pa_nil)))) (pss_one (ps_set (i := 4) sc_law.nd rfl (Or.inl rfl) pe_int)) pss_nil)
      (pss_cons (ps_set (i := 5) sc_law.nd rfl (Or.inl rfl) (pe_tup (pa_cons (pv 2) (pa_cons (pv 3) (pa_cons (pv 4) (pa_cons (pe_cl c__law_draw hr (by decide) rfl (pa_cons (pv 1) (pa_cons pe_int pa_nil))) (pa_cons (pe_cl c__law_draw hr (by decide) rfl (pa_cons (pv 1) (pa_cons pe_int pa_nil))) pa_nil)))))))
      (pss_cons (ps_set (i := 6) sc_law.nd rfl (Or.inl rfl) (pe_cl c__law_right_road hr (by decide) rfl (pa_cons (pv 1) (pa_cons (pv 5) pa_nil))))
      (pss_cons (ps_set (i := 7) sc_law.nd rfl (Or.inl rfl) (pe_cl c__law_shuffled hr (by decide) rfl (pa_cons (pv 1) (pa_cons (pe_op op_cat (pe_cl c__law_spoilt_ways hr (by decide) rfl (pa_cons (pv 1) (pa_cons (pv 6) (pa_cons (pv 5) pa_nil)))) (pe_cl c__law_spoilt_senders hr (by decide) rfl (pa_cons (pv 1) (pa_cons (pv 6) (pa_cons (pv 5) pa_nil))))) pa_nil))))
      (pss_cons (ps_for PassesOwn.never rfl (pi_list (pv 7)) (pg_name (i := 8) sc_law.nd rfl (Or.inl rfl)) (pss_one (ps_if (pt_not (pt_val (pe_cl c__law_is_judged hr (by decide) rfl (pa_cons (pv 8) (pa_cons (pv 5) pa_nil))))) (pss_one (ps_ret pe_bl)) pss_nil)))
      (pss_cons (ps_for PassesOwn.never rfl (pi_list (pe_cl c__law_other_numbers hr (by decide) rfl (pa_cons (pv 5) pa_nil))) (pg_name (i := 9) sc_law.nd rfl (Or.inl rfl)) (pss_one (ps_if (pt_not (pt_val (pe_cl c__law_is_judged hr (by decide) rfl (pa_cons (pv 6) (pa_cons (pv 9) pa_nil))))) (pss_one (ps_ret pe_bl)) pss_nil)))
      (pss_one (ps_ret pe_bl)))))))))))), ?_⟩
    try dsimp only [cxOf, Cx.nox, Cx.wish]
    refine st_of (σ' := [some _, none, none, none, none, none, none, none, none, none]) rfl ?_
    wtm_at "jw"
    refine ⟨a, ns, rfl, hS, hl, fun p c H1 s1 hp hc d1 => ?_⟩
    wtm_at "jw"
    intro B hB
    wtm_at "jw"
    refine pickL (fun z => 1 ≤ z ∧ z ≤ 4) [2, 1, 2, 3, 4] d1.drew hB rfl (by simp) (by simp) (by simp) fun z1 H2 hz1 _ w2 => ?_
    obtain ⟨S, rfl⟩ := Int.eq_ofNat_of_zero_le (show 0 ≤ z1 by omega)
    wtm_at "jw"
    refine drawL w2 (by decide) (by decide) fun z2 H3 z20 z21 _ w3 => ?_
    obtain ⟨zR, rfl⟩ := Int.eq_ofNat_of_zero_le z20
    wtm_at "jw"
    refine drawL w3 (by decide) (by decide) fun z3 H4 z30 z31 _ w4 => ?_
    obtain ⟨zf, rfl⟩ := Int.eq_ofNat_of_zero_le z30
    obtain ⟨R, eR⟩ : ∃ R : Nat, R = S + zR := ⟨_, rfl⟩
    have eR' : (S : Int) + (zR : Int) = (R : Int) := by omega
    rw [eR']
    wtm_at "js"
    refine i_ifC (fun σ' H' => Drew p c H1 H' ∧ ∃ fr : Nat, 1 ≤ fr ∧ fr ≤ 50 ∧ σ' = [some (.ref a), some (.ref p), some (.int (S : Int)), some (.int (R : Int)), some (.int (fr : Int)), none, none, none, none, none]) (fun σ' H5 h => ?_) (fun N hN => ?_)
    · obtain ⟨w5, fr, f0, f1, rfl⟩ := h
      wtm_at "jw"
      refine drawL w5 (by decide) (by decide) fun z6 H6 z60 z61 _ w6 => ?_
      obtain ⟨late, rfl⟩ := Int.eq_ofNat_of_zero_le z60
      wtm_at "jw"
      refine drawL w6 (by decide) (by decide) fun z7 H7 z70 z71 _ w7 => ?_
      obtain ⟨lost, rfl⟩ := Int.eq_ofNat_of_zero_le z70
      wtm_at "jw"
      intro na hna
      have w8 := w7.new (o := .tup [.int (S : Int), .int (R : Int), .int (fr : Int), .int (late : Int), .int (lost : Int)]) hna
      have hnums : NumsAt K (upd H7 na (.tup [.int (S : Int), .int (R : Int), .int (fr : Int), .int (late : Int), .int (lost : Int)])) na S R fr late lost := ⟨SqT.of upd_same, by omega, by omega, by omega, by omega, f0, f1, by omega, by omega⟩
      generalize upd H7 na (.tup [.int (S : Int), .int (R : Int), .int (fr : Int), .int (late : Int), .int (lost : Int)]) = H8 at w8 hnums ⊢
      wtm_at "jw"
      refine ⟨p, c, na, S, R, fr, late, lost, rfl, w8.at_, hnums, fun v rows H9 e9 tv hrd => ?_⟩
      have w9 := w8.trans e9
      have hn9 := hnums.tps (e9.tps w8.at_)
      have shp : Shp 20 (.tuple rows) := (Shp.tup hrd.m.shp).mono (by omega)
      wtm_at "jw"
      refine ⟨p, c, na, v, rows, S, R, fr, late, lost, rfl, w9.at_, hn9, tv, hrd, fun L1 H10 e10 hL1 o1 => ?_⟩
      have tv10 := tv.tps (e10.tps w9.at_)
      have hn10 := hn9.tps (e10.tps w9.at_)
      have w10 := w9.trans e10
      wtm_at "jw"
      refine ⟨p, c, na, v, rows, S, R, fr, late, lost, rfl, w10.at_, hn10, tv10, hrd, fun L2 H11 e11 hL2 o2 => ?_⟩
      have tv11 := tv10.tps (e11.tps w10.at_)
      have hn11 := hn10.tps (e11.tps w10.at_)
      have w11 := w10.trans e11
      obtain ⟨ds1, hLD1, dl1, hd1⟩ := o1
      obtain ⟨us1, hu1, tu1⟩ := hLD1.drew w10.at_ e11 (w9.at_.ne_none hL1)
      obtain ⟨ds2, ⟨us2, hu2, tu2⟩, dl2, hd2⟩ := o2
      have ul1 := tu1.len
      have ul2 := tu2.len
      first | refine i_cat hu1 hu2 (by rw [sizeLine_eq]; omega) ?_ | skip
      intro L3 hL3
      have s12 := same_new (o := .lst (us1 ++ us2)) hL3
      have w12 := w11.same s12
      have tv12 := tv11.same s12
      have hn12 := hn11.tps (Tps.of s12)
      have hu3 : upd H11 L3 (.lst (us1 ++ us2)) L3 = some (.lst (us1 ++ us2)) := upd_same
      have tu3 := (tu1.same s12).app (tu2.same s12)
      generalize upd H11 L3 (.lst (us1 ++ us2)) = H12 at s12 w12 tv12 hn12 hu3 tu3 ⊢
      wtm_at "jw"
      refine ⟨p, c, L3, us1 ++ us2, rfl, w12.at_, .inl (SqL.of hu3), by rw [List.length_append]; omega, fun L4 ys H13 e13 hL4 hu4 perm => ?_⟩
      have w13 := w12.trans e13
      have t13 := e13.tps w12.at_
      have tv13 := tv12.tps t13
      have hn13 := hn12.tps t13
      have tu13 := tu3.tps t13
      have hthing : ∀ x ∈ ys, ∃ d, TD K H13 x d ∧ Shp 20 d := fun x hx => by
        obtain ⟨d, hd, tx⟩ := tu13.mem (perm.mem_iff.mp hx)
        refine ⟨d, tx, ?_⟩
        rcases List.mem_append.mp hd with hd | hd
        · exact (hd1 d hd).mono (by omega)
        · exact (hd2 d hd).mono (by omega)
      wtm_at "jw"
      refine f_list (xs := ys) (fun i σ H' => Same H13 H' ∧ ∃ v8, σ = [some (.ref a), some (.ref p), some (.int (S : Int)), some (.int (R : Int)), some (.int (fr : Int)), some (.ref na), some v, some (.ref L4), v8, none]) ⟨Same.refl _, none, rfl⟩ (fun i σ H' _ h => SqL.of (h.1 _ _ hu4)) (fun i x σ H' hi h => ?_) (fun σ H' h => ?_)
      · obtain ⟨s14, v8, rfl⟩ := h
        obtain ⟨d, tx, sd⟩ := hthing x (List.mem_of_getElem? hi)
        wtm_at "jw"
        refine ⟨x, na, d, S, R, lost, fr, late, rfl, (hn13.tps (Tps.of s14)).1, tx.same s14, sd, by omega, by omega, by omega, by omega, fun H15 s15 => ?_⟩
        wtm_at "jw"
        exact ⟨s14.trans s15, _, rfl⟩
      · obtain ⟨s14, v8, rfl⟩ := h
        have w14 := w13.same s14
        have tv14 := tv13.same s14
        have hn14 := hn13.tps (Tps.of s14)
        wtm_at "jw"
        refine ⟨p, c, na, S, R, fr, late, lost, rfl, w14.at_, hn14, by omega, fun L5 ns5 H15 e15 hL5 hLD5 nl5 hnd5 => ?_⟩
        have tv15 := tv14.tps (e15.tps w14.at_)
        obtain ⟨us5, hu5, tu5⟩ := hLD5
        wtm_at "jw"
        refine f_list (xs := us5) (fun i σ H' => Same H15 H' ∧ ∃ v9, σ = [some (.ref a), some (.ref p), some (.int (S : Int)), some (.int (R : Int)), some (.int (fr : Int)), some (.ref na), some v, some (.ref L4), v8, v9]) ⟨Same.refl _, none, rfl⟩ (fun i σ H' _ h => SqL.of (h.1 _ _ hu5)) (fun i x σ H' hi h => ?_) (fun σ H' h => ?_)
        · obtain ⟨s16, v9, rfl⟩ := h
          obtain ⟨d, hd, tx, _⟩ := tu5.at hi
          obtain ⟨S', R', l', fr', dl', rfl, q1, q2, q3, q4⟩ := hnd5 d (List.mem_of_getElem? hd)
          obtain ⟨b, xs, rfl, sx, tx'⟩ := (tx.same s16).tup_inv
          have ex : xs = [.int (S' : Int), .int (R' : Int), .int fr', .int dl', .int (l' : Int)] := TDs.ints_inv (ns := [(S' : Int), (R' : Int), fr', dl', (l' : Int)]) tx'
          subst ex
          wtm_at "jw"
          refine ⟨v, b, _, S', R', l', fr', dl', rfl, sx, tv15.same s16, shp, q1, q2, q3, q4, fun H17 s17 => ?_⟩
          wtm_at "jw"
          exact ⟨s16.trans s17, _, rfl⟩
        · obtain ⟨s16, v9, rfl⟩ := h
          wtm_at "jw"
          exact q _
    · refine i_ifS ?_
      wtm_at "jw"
      refine ⟨p, c, 37, rfl, w4.at_, by decide, by decide, fun b H5 e5 => ?_⟩
      have w5 := w4.trans e5
      wtm_at "jw"
      refine c_bool (fun e => ?_) (fun e => ?_)
      · wtm_at "jw"
        exact hN _ _ ⟨w5, 45, by omega, by omega, rfl⟩
      · wtm_at "jw"
        exact hN _ _ ⟨w5, 1 + zf, by omega, by omega, by rw [Int.natCast_add]; rfl⟩
theorem law_hands {K : PySem.W.Frag} {H : Hp} (a : Addr) (ns : List Int) (hl : ns.length ≤ 63) (hb : ∀ z ∈ ns, Builtin.Int.intBits z ≤ 1048576) (h : SqL K H a (ns.map V.int)) :
    sp_law K [.ref a] H (fun v _ => v = .bl true) fun _ _ _ => False := ⟨a, ns, rfl, h, hl, fun _ => rfl⟩
theorem all_mk {l : PySem.W.OpenLaw} {w : World} {K : PySem.W.Frag} {h : Heap} {mg : Str → Option Value} {fa : Addr} (X : K.In h) (G : h.Ns mainGlobals mg) (hfa : mg "law" = some (.ref fa))
    {f__law_begin : Addr} {od__law_begin an__law_begin : Option Addr} {sl__law_begin : Array (Option Value)} {oc__law_begin kV__law_begin dc__law_begin pm__law_begin cd__law_begin ct__law_begin : Value}
    {f__law_draw : Addr} {od__law_draw an__law_draw : Option Addr} {sl__law_draw : Array (Option Value)} {oc__law_draw kV__law_draw dc__law_draw pm__law_draw cd__law_draw ct__law_draw : Value}
    {f__law_pick : Addr} {od__law_pick an__law_pick : Option Addr} {sl__law_pick : Array (Option Value)} {oc__law_pick kV__law_pick dc__law_pick pm__law_pick cd__law_pick ct__law_pick : Value}
    {f__law_rare : Addr} {od__law_rare an__law_rare : Option Addr} {sl__law_rare : Array (Option Value)} {oc__law_rare kV__law_rare dc__law_rare pm__law_rare cd__law_rare ct__law_rare : Value}
    {f__law_fates : Addr} {od__law_fates an__law_fates : Option Addr} {sl__law_fates : Array (Option Value)} {oc__law_fates kV__law_fates dc__law_fates pm__law_fates cd__law_fates ct__law_fates : Value}
    {f__law_one_fate : Addr} {od__law_one_fate an__law_one_fate : Option Addr} {sl__law_one_fate : Array (Option Value)} {oc__law_one_fate kV__law_one_fate dc__law_one_fate pm__law_one_fate cd__law_one_fate ct__law_one_fate : Value}
    {f__law_lost_run : Addr} {od__law_lost_run an__law_lost_run : Option Addr} {sl__law_lost_run : Array (Option Value)} {oc__law_lost_run kV__law_lost_run dc__law_lost_run pm__law_lost_run cd__law_lost_run ct__law_lost_run : Value}
    {f__law_right_fates : Addr} {od__law_right_fates an__law_right_fates : Option Addr} {sl__law_right_fates : Array (Option Value)} {oc__law_right_fates kV__law_right_fates dc__law_right_fates pm__law_right_fates cd__law_right_fates ct__law_right_fates : Value}
    {f__law_right_road : Addr} {od__law_right_road an__law_right_road : Option Addr} {sl__law_right_road : Array (Option Value)} {oc__law_right_road kV__law_right_road dc__law_right_road pm__law_right_road cd__law_right_road ct__law_right_road : Value}
    {f__law_shuffled : Addr} {od__law_shuffled an__law_shuffled : Option Addr} {sl__law_shuffled : Array (Option Value)} {oc__law_shuffled kV__law_shuffled dc__law_shuffled pm__law_shuffled cd__law_shuffled ct__law_shuffled : Value}
    {f__law_other_numbers : Addr} {od__law_other_numbers an__law_other_numbers : Option Addr} {sl__law_other_numbers : Array (Option Value)} {oc__law_other_numbers kV__law_other_numbers dc__law_other_numbers pm__law_other_numbers cd__law_other_numbers ct__law_other_numbers : Value}
    {f__law_other_fates : Addr} {od__law_other_fates an__law_other_fates : Option Addr} {sl__law_other_fates : Array (Option Value)} {oc__law_other_fates kV__law_other_fates dc__law_other_fates pm__law_other_fates cd__law_other_fates ct__law_other_fates : Value}
    {f__law_put : Addr} {od__law_put an__law_put : Option Addr} {sl__law_put : Array (Option Value)} {oc__law_put kV__law_put dc__law_put pm__law_put cd__law_put ct__law_put : Value}
    {f__law_other_rows : Addr} {od__law_other_rows an__law_other_rows : Option Addr} {sl__law_other_rows : Array (Option Value)} {oc__law_other_rows kV__law_other_rows dc__law_other_rows pm__law_other_rows cd__law_other_rows ct__law_other_rows : Value}
    {f__law_put_row : Addr} {od__law_put_row an__law_put_row : Option Addr} {sl__law_put_row : Array (Option Value)} {oc__law_put_row kV__law_put_row dc__law_put_row pm__law_put_row cd__law_put_row ct__law_put_row : Value}
    {f__law_spoilt_ways : Addr} {od__law_spoilt_ways an__law_spoilt_ways : Option Addr} {sl__law_spoilt_ways : Array (Option Value)} {oc__law_spoilt_ways kV__law_spoilt_ways dc__law_spoilt_ways pm__law_spoilt_ways cd__law_spoilt_ways ct__law_spoilt_ways : Value}
    {f__law_spoilt_senders : Addr} {od__law_spoilt_senders an__law_spoilt_senders : Option Addr} {sl__law_spoilt_senders : Array (Option Value)} {oc__law_spoilt_senders kV__law_spoilt_senders dc__law_spoilt_senders pm__law_spoilt_senders cd__law_spoilt_senders ct__law_spoilt_senders : Value}
    {f_is_row : Addr} {od_is_row an_is_row : Option Addr} {sl_is_row : Array (Option Value)} {oc_is_row kV_is_row dc_is_row pm_is_row cd_is_row ct_is_row : Value}
    {f_keeps_bounds : Addr} {od_keeps_bounds an_keeps_bounds : Option Addr} {sl_keeps_bounds : Array (Option Value)} {oc_keeps_bounds kV_keeps_bounds dc_keeps_bounds pm_keeps_bounds cd_keeps_bounds ct_keeps_bounds : Value}
    {f_is_int : Addr} {od_is_int an_is_int : Option Addr} {sl_is_int : Array (Option Value)} {oc_is_int kV_is_int dc_is_int pm_is_int cd_is_int ct_is_int : Value}
    {f_is_ints : Addr} {od_is_ints an_is_ints : Option Addr} {sl_is_ints : Array (Option Value)} {oc_is_ints kV_is_ints dc_is_ints pm_is_ints cd_is_ints ct_is_ints : Value}
    {f_is_ints_between : Addr} {od_is_ints_between an_is_ints_between : Option Addr} {sl_is_ints_between : Array (Option Value)} {oc_is_ints_between kV_is_ints_between dc_is_ints_between pm_is_ints_between cd_is_ints_between ct_is_ints_between : Value}
    {f_is_fate : Addr} {od_is_fate an_is_fate : Option Addr} {sl_is_fate : Array (Option Value)} {oc_is_fate kV_is_fate dc_is_fate pm_is_fate cd_is_fate ct_is_fate : Value}
    {f_is_fates : Addr} {od_is_fates an_is_fates : Option Addr} {sl_is_fates : Array (Option Value)} {oc_is_fates kV_is_fates dc_is_fates pm_is_fates cd_is_fates ct_is_fates : Value}
    {f_is_road : Addr} {od_is_road an_is_road : Option Addr} {sl_is_road : Array (Option Value)} {oc_is_road kV_is_road dc_is_road pm_is_road cd_is_road ct_is_road : Value}
    {f__law_is_int : Addr} {od__law_is_int an__law_is_int : Option Addr} {sl__law_is_int : Array (Option Value)} {oc__law_is_int kV__law_is_int dc__law_is_int pm__law_is_int cd__law_is_int ct__law_is_int : Value}
    {f__law_is_fate : Addr} {od__law_is_fate an__law_is_fate : Option Addr} {sl__law_is_fate : Array (Option Value)} {oc__law_is_fate kV__law_is_fate dc__law_is_fate pm__law_is_fate cd__law_is_fate ct__law_is_fate : Value}
    {f__law_is_fates : Addr} {od__law_is_fates an__law_is_fates : Option Addr} {sl__law_is_fates : Array (Option Value)} {oc__law_is_fates kV__law_is_fates dc__law_is_fates pm__law_is_fates cd__law_is_fates ct__law_is_fates : Value}
    {f__law_lets : Addr} {od__law_lets an__law_lets : Option Addr} {sl__law_lets : Array (Option Value)} {oc__law_lets kV__law_lets dc__law_lets pm__law_lets cd__law_lets ct__law_lets : Value}
    {f__law_is_judged : Addr} {od__law_is_judged an__law_is_judged : Option Addr} {sl__law_is_judged : Array (Option Value)} {oc__law_is_judged kV__law_is_judged dc__law_is_judged pm__law_is_judged cd__law_is_judged ct__law_is_judged : Value}
    {f_law : Addr} {od_law an_law : Option Addr} {sl_law : Array (Option Value)} {oc_law kV_law dc_law pm_law cd_law ct_law : Value}
    (a__law_begin : PySem.W.nsIn K mainGlobals "_law_begin" = some (some (.ref f__law_begin))) (l__law_begin : K.lookup f__law_begin = some ⟨oc__law_begin, od__law_begin, .func (PySem.W.fnOf "_law_begin" "_law_begin" (defArgs s__law_begin) (defBody s__law_begin) (defScope s__law_begin) .none kV__law_begin dc__law_begin pm__law_begin an__law_begin cd__law_begin ct__law_begin), sl__law_begin⟩) (c__law_begin : PySem.W.codeIn K cd__law_begin "_law_begin" = true) (k__law_begin : PySem.W.keepIn K (.ref f__law_begin) = true)
    (a__law_draw : PySem.W.nsIn K mainGlobals "_law_draw" = some (some (.ref f__law_draw))) (l__law_draw : K.lookup f__law_draw = some ⟨oc__law_draw, od__law_draw, .func (PySem.W.fnOf "_law_draw" "_law_draw" (defArgs s__law_draw) (defBody s__law_draw) (defScope s__law_draw) .none kV__law_draw dc__law_draw pm__law_draw an__law_draw cd__law_draw ct__law_draw), sl__law_draw⟩) (c__law_draw : PySem.W.codeIn K cd__law_draw "_law_draw" = true) (k__law_draw : PySem.W.keepIn K (.ref f__law_draw) = true)
    (a__law_pick : PySem.W.nsIn K mainGlobals "_law_pick" = some (some (.ref f__law_pick))) (l__law_pick : K.lookup f__law_pick = some ⟨oc__law_pick, od__law_pick, .func (PySem.W.fnOf "_law_pick" "_law_pick" (defArgs s__law_pick) (defBody s__law_pick) (defScope s__law_pick) .none kV__law_pick dc__law_pick pm__law_pick an__law_pick cd__law_pick ct__law_pick), sl__law_pick⟩) (c__law_pick : PySem.W.codeIn K cd__law_pick "_law_pick" = true) (k__law_pick : PySem.W.keepIn K (.ref f__law_pick) = true)
    (a__law_rare : PySem.W.nsIn K mainGlobals "_law_rare" = some (some (.ref f__law_rare))) (l__law_rare : K.lookup f__law_rare = some ⟨oc__law_rare, od__law_rare, .func (PySem.W.fnOf "_law_rare" "_law_rare" (defArgs s__law_rare) (defBody s__law_rare) (defScope s__law_rare) .none kV__law_rare dc__law_rare pm__law_rare an__law_rare cd__law_rare ct__law_rare), sl__law_rare⟩) (c__law_rare : PySem.W.codeIn K cd__law_rare "_law_rare" = true) (k__law_rare : PySem.W.keepIn K (.ref f__law_rare) = true)
    (a__law_fates : PySem.W.nsIn K mainGlobals "_law_fates" = some (some (.ref f__law_fates))) (l__law_fates : K.lookup f__law_fates = some ⟨oc__law_fates, od__law_fates, .func (PySem.W.fnOf "_law_fates" "_law_fates" (defArgs s__law_fates) (defBody s__law_fates) (defScope s__law_fates) .none kV__law_fates dc__law_fates pm__law_fates an__law_fates cd__law_fates ct__law_fates), sl__law_fates⟩) (c__law_fates : PySem.W.codeIn K cd__law_fates "_law_fates" = true) (k__law_fates : PySem.W.keepIn K (.ref f__law_fates) = true)
    (a__law_one_fate : PySem.W.nsIn K mainGlobals "_law_one_fate" = some (some (.ref f__law_one_fate))) (l__law_one_fate : K.lookup f__law_one_fate = some ⟨oc__law_one_fate, od__law_one_fate, .func (PySem.W.fnOf "_law_one_fate" "_law_one_fate" (defArgs s__law_one_fate) (defBody s__law_one_fate) (defScope s__law_one_fate) .none kV__law_one_fate dc__law_one_fate pm__law_one_fate an__law_one_fate cd__law_one_fate ct__law_one_fate), sl__law_one_fate⟩) (c__law_one_fate : PySem.W.codeIn K cd__law_one_fate "_law_one_fate" = true) (k__law_one_fate : PySem.W.keepIn K (.ref f__law_one_fate) = true)
    (a__law_lost_run : PySem.W.nsIn K mainGlobals "_law_lost_run" = some (some (.ref f__law_lost_run))) (l__law_lost_run : K.lookup f__law_lost_run = some ⟨oc__law_lost_run, od__law_lost_run, .func (PySem.W.fnOf "_law_lost_run" "_law_lost_run" (defArgs s__law_lost_run) (defBody s__law_lost_run) (defScope s__law_lost_run) .none kV__law_lost_run dc__law_lost_run pm__law_lost_run an__law_lost_run cd__law_lost_run ct__law_lost_run), sl__law_lost_run⟩) (c__law_lost_run : PySem.W.codeIn K cd__law_lost_run "_law_lost_run" = true) (k__law_lost_run : PySem.W.keepIn K (.ref f__law_lost_run) = true)
    (a__law_right_fates : PySem.W.nsIn K mainGlobals "_law_right_fates" = some (some (.ref f__law_right_fates))) (l__law_right_fates : K.lookup f__law_right_fates = some ⟨oc__law_right_fates, od__law_right_fates, .func (PySem.W.fnOf "_law_right_fates" "_law_right_fates" (defArgs s__law_right_fates) (defBody s__law_right_fates) (defScope s__law_right_fates) .none kV__law_right_fates dc__law_right_fates pm__law_right_fates an__law_right_fates cd__law_right_fates ct__law_right_fates), sl__law_right_fates⟩) (c__law_right_fates : PySem.W.codeIn K cd__law_right_fates "_law_right_fates" = true) (k__law_right_fates : PySem.W.keepIn K (.ref f__law_right_fates) = true)
    (a__law_right_road : PySem.W.nsIn K mainGlobals "_law_right_road" = some (some (.ref f__law_right_road))) (l__law_right_road : K.lookup f__law_right_road = some ⟨oc__law_right_road, od__law_right_road, .func (PySem.W.fnOf "_law_right_road" "_law_right_road" (defArgs s__law_right_road) (defBody s__law_right_road) (defScope s__law_right_road) .none kV__law_right_road dc__law_right_road pm__law_right_road an__law_right_road cd__law_right_road ct__law_right_road), sl__law_right_road⟩) (c__law_right_road : PySem.W.codeIn K cd__law_right_road "_law_right_road" = true) (k__law_right_road : PySem.W.keepIn K (.ref f__law_right_road) = true)
    (a__law_shuffled : PySem.W.nsIn K mainGlobals "_law_shuffled" = some (some (.ref f__law_shuffled))) (l__law_shuffled : K.lookup f__law_shuffled = some ⟨oc__law_shuffled, od__law_shuffled, .func (PySem.W.fnOf "_law_shuffled" "_law_shuffled" (defArgs s__law_shuffled) (defBody s__law_shuffled) (defScope s__law_shuffled) .none kV__law_shuffled dc__law_shuffled pm__law_shuffled an__law_shuffled cd__law_shuffled ct__law_shuffled), sl__law_shuffled⟩) (c__law_shuffled : PySem.W.codeIn K cd__law_shuffled "_law_shuffled" = true) (k__law_shuffled : PySem.W.keepIn K (.ref f__law_shuffled) = true)
    (a__law_other_numbers : PySem.W.nsIn K mainGlobals "_law_other_numbers" = some (some (.ref f__law_other_numbers))) (l__law_other_numbers : K.lookup f__law_other_numbers = some ⟨oc__law_other_numbers, od__law_other_numbers, .func (PySem.W.fnOf "_law_other_numbers" "_law_other_numbers" (defArgs s__law_other_numbers) (defBody s__law_other_numbers) (defScope s__law_other_numbers) .none kV__law_other_numbers dc__law_other_numbers pm__law_other_numbers an__law_other_numbers cd__law_other_numbers ct__law_other_numbers), sl__law_other_numbers⟩) (c__law_other_numbers : PySem.W.codeIn K cd__law_other_numbers "_law_other_numbers" = true) (k__law_other_numbers : PySem.W.keepIn K (.ref f__law_other_numbers) = true)
    (a__law_other_fates : PySem.W.nsIn K mainGlobals "_law_other_fates" = some (some (.ref f__law_other_fates))) (l__law_other_fates : K.lookup f__law_other_fates = some ⟨oc__law_other_fates, od__law_other_fates, .func (PySem.W.fnOf "_law_other_fates" "_law_other_fates" (defArgs s__law_other_fates) (defBody s__law_other_fates) (defScope s__law_other_fates) .none kV__law_other_fates dc__law_other_fates pm__law_other_fates an__law_other_fates cd__law_other_fates ct__law_other_fates), sl__law_other_fates⟩) (c__law_other_fates : PySem.W.codeIn K cd__law_other_fates "_law_other_fates" = true) (k__law_other_fates : PySem.W.keepIn K (.ref f__law_other_fates) = true)
    (a__law_put : PySem.W.nsIn K mainGlobals "_law_put" = some (some (.ref f__law_put))) (l__law_put : K.lookup f__law_put = some ⟨oc__law_put, od__law_put, .func (PySem.W.fnOf "_law_put" "_law_put" (defArgs s__law_put) (defBody s__law_put) (defScope s__law_put) .none kV__law_put dc__law_put pm__law_put an__law_put cd__law_put ct__law_put), sl__law_put⟩) (c__law_put : PySem.W.codeIn K cd__law_put "_law_put" = true) (k__law_put : PySem.W.keepIn K (.ref f__law_put) = true)
    (a__law_other_rows : PySem.W.nsIn K mainGlobals "_law_other_rows" = some (some (.ref f__law_other_rows))) (l__law_other_rows : K.lookup f__law_other_rows = some ⟨oc__law_other_rows, od__law_other_rows, .func (PySem.W.fnOf "_law_other_rows" "_law_other_rows" (defArgs s__law_other_rows) (defBody s__law_other_rows) (defScope s__law_other_rows) .none kV__law_other_rows dc__law_other_rows pm__law_other_rows an__law_other_rows cd__law_other_rows ct__law_other_rows), sl__law_other_rows⟩) (c__law_other_rows : PySem.W.codeIn K cd__law_other_rows "_law_other_rows" = true) (k__law_other_rows : PySem.W.keepIn K (.ref f__law_other_rows) = true)
    (a__law_put_row : PySem.W.nsIn K mainGlobals "_law_put_row" = some (some (.ref f__law_put_row))) (l__law_put_row : K.lookup f__law_put_row = some ⟨oc__law_put_row, od__law_put_row, .func (PySem.W.fnOf "_law_put_row" "_law_put_row" (defArgs s__law_put_row) (defBody s__law_put_row) (defScope s__law_put_row) .none kV__law_put_row dc__law_put_row pm__law_put_row an__law_put_row cd__law_put_row ct__law_put_row), sl__law_put_row⟩) (c__law_put_row : PySem.W.codeIn K cd__law_put_row "_law_put_row" = true) (k__law_put_row : PySem.W.keepIn K (.ref f__law_put_row) = true)
    (a__law_spoilt_ways : PySem.W.nsIn K mainGlobals "_law_spoilt_ways" = some (some (.ref f__law_spoilt_ways))) (l__law_spoilt_ways : K.lookup f__law_spoilt_ways = some ⟨oc__law_spoilt_ways, od__law_spoilt_ways, .func (PySem.W.fnOf "_law_spoilt_ways" "_law_spoilt_ways" (defArgs s__law_spoilt_ways) (defBody s__law_spoilt_ways) (defScope s__law_spoilt_ways) .none kV__law_spoilt_ways dc__law_spoilt_ways pm__law_spoilt_ways an__law_spoilt_ways cd__law_spoilt_ways ct__law_spoilt_ways), sl__law_spoilt_ways⟩) (c__law_spoilt_ways : PySem.W.codeIn K cd__law_spoilt_ways "_law_spoilt_ways" = true) (k__law_spoilt_ways : PySem.W.keepIn K (.ref f__law_spoilt_ways) = true)
    (a__law_spoilt_senders : PySem.W.nsIn K mainGlobals "_law_spoilt_senders" = some (some (.ref f__law_spoilt_senders))) (l__law_spoilt_senders : K.lookup f__law_spoilt_senders = some ⟨oc__law_spoilt_senders, od__law_spoilt_senders, .func (PySem.W.fnOf "_law_spoilt_senders" "_law_spoilt_senders" (defArgs s__law_spoilt_senders) (defBody s__law_spoilt_senders) (defScope s__law_spoilt_senders) .none kV__law_spoilt_senders dc__law_spoilt_senders pm__law_spoilt_senders an__law_spoilt_senders cd__law_spoilt_senders ct__law_spoilt_senders), sl__law_spoilt_senders⟩) (c__law_spoilt_senders : PySem.W.codeIn K cd__law_spoilt_senders "_law_spoilt_senders" = true) (k__law_spoilt_senders : PySem.W.keepIn K (.ref f__law_spoilt_senders) = true)
    (a_is_row : PySem.W.nsIn K mainGlobals "is_row" = some (some (.ref f_is_row))) (l_is_row : K.lookup f_is_row = some ⟨oc_is_row, od_is_row, .func (PySem.W.fnOf "is_row" "is_row" (defArgs s_is_row) (defBody s_is_row) (defScope s_is_row) .none kV_is_row dc_is_row pm_is_row an_is_row cd_is_row ct_is_row), sl_is_row⟩) (c_is_row : PySem.W.codeIn K cd_is_row "is_row" = true) (k_is_row : PySem.W.keepIn K (.ref f_is_row) = true)
    (a_keeps_bounds : PySem.W.nsIn K mainGlobals "keeps_bounds" = some (some (.ref f_keeps_bounds))) (l_keeps_bounds : K.lookup f_keeps_bounds = some ⟨oc_keeps_bounds, od_keeps_bounds, .func (PySem.W.fnOf "keeps_bounds" "keeps_bounds" (defArgs s_keeps_bounds) (defBody s_keeps_bounds) (defScope s_keeps_bounds) .none kV_keeps_bounds dc_keeps_bounds pm_keeps_bounds an_keeps_bounds cd_keeps_bounds ct_keeps_bounds), sl_keeps_bounds⟩) (c_keeps_bounds : PySem.W.codeIn K cd_keeps_bounds "keeps_bounds" = true) (k_keeps_bounds : PySem.W.keepIn K (.ref f_keeps_bounds) = true)
    (a_is_int : PySem.W.nsIn K mainGlobals "is_int" = some (some (.ref f_is_int))) (l_is_int : K.lookup f_is_int = some ⟨oc_is_int, od_is_int, .func (PySem.W.fnOf "is_int" "is_int" (defArgs s_is_int) (defBody s_is_int) (defScope s_is_int) .none kV_is_int dc_is_int pm_is_int an_is_int cd_is_int ct_is_int), sl_is_int⟩) (c_is_int : PySem.W.codeIn K cd_is_int "is_int" = true) (k_is_int : PySem.W.keepIn K (.ref f_is_int) = true)
    (a_is_ints : PySem.W.nsIn K mainGlobals "is_ints" = some (some (.ref f_is_ints))) (l_is_ints : K.lookup f_is_ints = some ⟨oc_is_ints, od_is_ints, .func (PySem.W.fnOf "is_ints" "is_ints" (defArgs s_is_ints) (defBody s_is_ints) (defScope s_is_ints) .none kV_is_ints dc_is_ints pm_is_ints an_is_ints cd_is_ints ct_is_ints), sl_is_ints⟩) (c_is_ints : PySem.W.codeIn K cd_is_ints "is_ints" = true) (k_is_ints : PySem.W.keepIn K (.ref f_is_ints) = true)
    (a_is_ints_between : PySem.W.nsIn K mainGlobals "is_ints_between" = some (some (.ref f_is_ints_between))) (l_is_ints_between : K.lookup f_is_ints_between = some ⟨oc_is_ints_between, od_is_ints_between, .func (PySem.W.fnOf "is_ints_between" "is_ints_between" (defArgs s_is_ints_between) (defBody s_is_ints_between) (defScope s_is_ints_between) .none kV_is_ints_between dc_is_ints_between pm_is_ints_between an_is_ints_between cd_is_ints_between ct_is_ints_between), sl_is_ints_between⟩) (c_is_ints_between : PySem.W.codeIn K cd_is_ints_between "is_ints_between" = true) (k_is_ints_between : PySem.W.keepIn K (.ref f_is_ints_between) = true)
    (a_is_fate : PySem.W.nsIn K mainGlobals "is_fate" = some (some (.ref f_is_fate))) (l_is_fate : K.lookup f_is_fate = some ⟨oc_is_fate, od_is_fate, .func (PySem.W.fnOf "is_fate" "is_fate" (defArgs s_is_fate) (defBody s_is_fate) (defScope s_is_fate) .none kV_is_fate dc_is_fate pm_is_fate an_is_fate cd_is_fate ct_is_fate), sl_is_fate⟩) (c_is_fate : PySem.W.codeIn K cd_is_fate "is_fate" = true) (k_is_fate : PySem.W.keepIn K (.ref f_is_fate) = true)
    (a_is_fates : PySem.W.nsIn K mainGlobals "is_fates" = some (some (.ref f_is_fates))) (l_is_fates : K.lookup f_is_fates = some ⟨oc_is_fates, od_is_fates, .func (PySem.W.fnOf "is_fates" "is_fates" (defArgs s_is_fates) (defBody s_is_fates) (defScope s_is_fates) .none kV_is_fates dc_is_fates pm_is_fates an_is_fates cd_is_fates ct_is_fates), sl_is_fates⟩) (c_is_fates : PySem.W.codeIn K cd_is_fates "is_fates" = true) (k_is_fates : PySem.W.keepIn K (.ref f_is_fates) = true)
    (a_is_road : PySem.W.nsIn K mainGlobals "is_road" = some (some (.ref f_is_road))) (l_is_road : K.lookup f_is_road = some ⟨oc_is_road, od_is_road, .func (PySem.W.fnOf "is_road" "is_road" (defArgs s_is_road) (defBody s_is_road) (defScope s_is_road) .none kV_is_road dc_is_road pm_is_road an_is_road cd_is_road ct_is_road), sl_is_road⟩) (c_is_road : PySem.W.codeIn K cd_is_road "is_road" = true) (k_is_road : PySem.W.keepIn K (.ref f_is_road) = true)
    (a__law_is_int : PySem.W.nsIn K mainGlobals "_law_is_int" = some (some (.ref f__law_is_int))) (l__law_is_int : K.lookup f__law_is_int = some ⟨oc__law_is_int, od__law_is_int, .func (PySem.W.fnOf "_law_is_int" "_law_is_int" (defArgs s__law_is_int) (defBody s__law_is_int) (defScope s__law_is_int) .none kV__law_is_int dc__law_is_int pm__law_is_int an__law_is_int cd__law_is_int ct__law_is_int), sl__law_is_int⟩) (c__law_is_int : PySem.W.codeIn K cd__law_is_int "_law_is_int" = true) (k__law_is_int : PySem.W.keepIn K (.ref f__law_is_int) = true)
    (a__law_is_fate : PySem.W.nsIn K mainGlobals "_law_is_fate" = some (some (.ref f__law_is_fate))) (l__law_is_fate : K.lookup f__law_is_fate = some ⟨oc__law_is_fate, od__law_is_fate, .func (PySem.W.fnOf "_law_is_fate" "_law_is_fate" (defArgs s__law_is_fate) (defBody s__law_is_fate) (defScope s__law_is_fate) .none kV__law_is_fate dc__law_is_fate pm__law_is_fate an__law_is_fate cd__law_is_fate ct__law_is_fate), sl__law_is_fate⟩) (c__law_is_fate : PySem.W.codeIn K cd__law_is_fate "_law_is_fate" = true) (k__law_is_fate : PySem.W.keepIn K (.ref f__law_is_fate) = true)
    (a__law_is_fates : PySem.W.nsIn K mainGlobals "_law_is_fates" = some (some (.ref f__law_is_fates))) (l__law_is_fates : K.lookup f__law_is_fates = some ⟨oc__law_is_fates, od__law_is_fates, .func (PySem.W.fnOf "_law_is_fates" "_law_is_fates" (defArgs s__law_is_fates) (defBody s__law_is_fates) (defScope s__law_is_fates) .none kV__law_is_fates dc__law_is_fates pm__law_is_fates an__law_is_fates cd__law_is_fates ct__law_is_fates), sl__law_is_fates⟩) (c__law_is_fates : PySem.W.codeIn K cd__law_is_fates "_law_is_fates" = true) (k__law_is_fates : PySem.W.keepIn K (.ref f__law_is_fates) = true)
    (a__law_lets : PySem.W.nsIn K mainGlobals "_law_lets" = some (some (.ref f__law_lets))) (l__law_lets : K.lookup f__law_lets = some ⟨oc__law_lets, od__law_lets, .func (PySem.W.fnOf "_law_lets" "_law_lets" (defArgs s__law_lets) (defBody s__law_lets) (defScope s__law_lets) .none kV__law_lets dc__law_lets pm__law_lets an__law_lets cd__law_lets ct__law_lets), sl__law_lets⟩) (c__law_lets : PySem.W.codeIn K cd__law_lets "_law_lets" = true) (k__law_lets : PySem.W.keepIn K (.ref f__law_lets) = true)
    (a__law_is_judged : PySem.W.nsIn K mainGlobals "_law_is_judged" = some (some (.ref f__law_is_judged))) (l__law_is_judged : K.lookup f__law_is_judged = some ⟨oc__law_is_judged, od__law_is_judged, .func (PySem.W.fnOf "_law_is_judged" "_law_is_judged" (defArgs s__law_is_judged) (defBody s__law_is_judged) (defScope s__law_is_judged) .none kV__law_is_judged dc__law_is_judged pm__law_is_judged an__law_is_judged cd__law_is_judged ct__law_is_judged), sl__law_is_judged⟩) (c__law_is_judged : PySem.W.codeIn K cd__law_is_judged "_law_is_judged" = true) (k__law_is_judged : PySem.W.keepIn K (.ref f__law_is_judged) = true)
    (a_law : PySem.W.nsIn K mainGlobals "law" = some (some (.ref f_law))) (l_law : K.lookup f_law = some ⟨oc_law, od_law, .func (PySem.W.fnOf "law" "law" (defArgs s_law) (defBody s_law) (defScope s_law) .none kV_law dc_law pm_law an_law cd_law ct_law), sl_law⟩) (c_law : PySem.W.codeIn K cd_law "law" = true) (k_law : PySem.W.keepIn K (.ref f_law) = true)
    (z_int : PySem.W.nsIn K mainGlobals "int" = some none)
    (z_len : PySem.W.nsIn K mainGlobals "len" = some none)
    (z_abs : PySem.W.nsIn K mainGlobals "abs" = some none)
    (z_range : PySem.W.nsIn K mainGlobals "range" = some none)
    (z_tuple : PySem.W.nsIn K mainGlobals "tuple" = some none)
    (z_min : PySem.W.nsIn K mainGlobals "min" = some none)
    (z_list : PySem.W.nsIn K mainGlobals "list" = some none)
    (z_reversed : PySem.W.nsIn K mainGlobals "reversed" = some none)
    (z_isinstance : PySem.W.nsIn K mainGlobals "isinstance" = some none)
    (z_bool : PySem.W.nsIn K mainGlobals "bool" = some none)
    {u_MOST_COPIES : Value} (n_MOST_COPIES : PySem.W.nsIn K mainGlobals "MOST_COPIES" = some (some u_MOST_COPIES)) (r_MOST_COPIES : RelV (.int 2) u_MOST_COPIES)
    : ∃ fd : FuncData, (∀ (s : Shared) (v : Value), BindsTo s fd ⟨[v], []⟩ [("script", v)]) ∧ ∀ base : Heap, K.In base → base.Ns mainGlobals mg → FnOk l.prog w K mg base CX0 8 fa fd ["script"] (sp_law K) := by
  have e := hfa.symm.trans (PySem.W.mg_of X G a_law)
  cases e
  have T : Txt mg := ⟨PySem.W.mg_none_of X G z_int, PySem.W.mg_none_of X G z_len, PySem.W.mg_none_of X G z_abs, PySem.W.mg_none_of X G z_range, PySem.W.mg_none_of X G z_tuple, PySem.W.mg_none_of X G z_min, PySem.W.mg_none_of X G z_list, PySem.W.mg_none_of X G z_reversed, PySem.W.mg_none_of X G z_isinstance, PySem.W.mg_none_of X G z_bool, ⟨_, PySem.W.mg_of X G n_MOST_COPIES, r_MOST_COPIES⟩⟩
  have F__law_begin := fun_mk (st := s__law_begin) l__law_begin c__law_begin k__law_begin
  have D__law_begin : Df K mg "_law_begin" s__law_begin f__law_begin _ ["script"] := ⟨F__law_begin, PySem.W.mg_of X G a__law_begin, F__law_begin.binds (ps := ["script"]) fun _ _ _ _ _ _ us hl => match us, hl with | [_], _ => rfl⟩
  have F__law_draw := fun_mk (st := s__law_draw) l__law_draw c__law_draw k__law_draw
  have D__law_draw : Df K mg "_law_draw" s__law_draw f__law_draw _ ["d", "many"] := ⟨F__law_draw, PySem.W.mg_of X G a__law_draw, F__law_draw.binds (ps := ["d", "many"]) fun _ _ _ _ _ _ us hl => match us, hl with | [_, _], _ => rfl⟩
  have F__law_pick := fun_mk (st := s__law_pick) l__law_pick c__law_pick k__law_pick
  have D__law_pick : Df K mg "_law_pick" s__law_pick f__law_pick _ ["d", "row"] := ⟨F__law_pick, PySem.W.mg_of X G a__law_pick, F__law_pick.binds (ps := ["d", "row"]) fun _ _ _ _ _ _ us hl => match us, hl with | [_, _], _ => rfl⟩
  have F__law_rare := fun_mk (st := s__law_rare) l__law_rare c__law_rare k__law_rare
  have D__law_rare : Df K mg "_law_rare" s__law_rare f__law_rare _ ["d", "many"] := ⟨F__law_rare, PySem.W.mg_of X G a__law_rare, F__law_rare.binds (ps := ["d", "many"]) fun _ _ _ _ _ _ us hl => match us, hl with | [_, _], _ => rfl⟩
  have F__law_fates := fun_mk (st := s__law_fates) l__law_fates c__law_fates k__law_fates
  have D__law_fates : Df K mg "_law_fates" s__law_fates f__law_fates _ ["d", "frames", "late", "lost"] := ⟨F__law_fates, PySem.W.mg_of X G a__law_fates, F__law_fates.binds (ps := ["d", "frames", "late", "lost"]) fun _ _ _ _ _ _ us hl => match us, hl with | [_, _, _, _], _ => rfl⟩
  have F__law_one_fate := fun_mk (st := s__law_one_fate) l__law_one_fate c__law_one_fate k__law_one_fate
  have D__law_one_fate : Df K mg "_law_one_fate" s__law_one_fate f__law_one_fate _ ["d", "late"] := ⟨F__law_one_fate, PySem.W.mg_of X G a__law_one_fate, F__law_one_fate.binds (ps := ["d", "late"]) fun _ _ _ _ _ _ us hl => match us, hl with | [_, _], _ => rfl⟩
  have F__law_lost_run := fun_mk (st := s__law_lost_run) l__law_lost_run c__law_lost_run k__law_lost_run
  have D__law_lost_run : Df K mg "_law_lost_run" s__law_lost_run f__law_lost_run _ ["d", "frames", "late", "many"] := ⟨F__law_lost_run, PySem.W.mg_of X G a__law_lost_run, F__law_lost_run.binds (ps := ["d", "frames", "late", "many"]) fun _ _ _ _ _ _ us hl => match us, hl with | [_, _, _, _], _ => rfl⟩
  have F__law_right_fates := fun_mk (st := s__law_right_fates) l__law_right_fates c__law_right_fates k__law_right_fates
  have D__law_right_fates : Df K mg "_law_right_fates" s__law_right_fates f__law_right_fates _ ["d", "frames", "late", "lost"] := ⟨F__law_right_fates, PySem.W.mg_of X G a__law_right_fates, F__law_right_fates.binds (ps := ["d", "frames", "late", "lost"]) fun _ _ _ _ _ _ us hl => match us, hl with | [_, _, _, _], _ => rfl⟩
  have F__law_right_road := fun_mk (st := s__law_right_road) l__law_right_road c__law_right_road k__law_right_road
  have D__law_right_road : Df K mg "_law_right_road" s__law_right_road f__law_right_road _ ["d", "numbers"] := ⟨F__law_right_road, PySem.W.mg_of X G a__law_right_road, F__law_right_road.binds (ps := ["d", "numbers"]) fun _ _ _ _ _ _ us hl => match us, hl with | [_, _], _ => rfl⟩
  have F__law_shuffled := fun_mk (st := s__law_shuffled) l__law_shuffled c__law_shuffled k__law_shuffled
  have D__law_shuffled : Df K mg "_law_shuffled" s__law_shuffled f__law_shuffled _ ["d", "row"] := ⟨F__law_shuffled, PySem.W.mg_of X G a__law_shuffled, F__law_shuffled.binds (ps := ["d", "row"]) fun _ _ _ _ _ _ us hl => match us, hl with | [_, _], _ => rfl⟩
  have F__law_other_numbers := fun_mk (st := s__law_other_numbers) l__law_other_numbers c__law_other_numbers k__law_other_numbers
  have D__law_other_numbers : Df K mg "_law_other_numbers" s__law_other_numbers f__law_other_numbers _ ["numbers"] := ⟨F__law_other_numbers, PySem.W.mg_of X G a__law_other_numbers, F__law_other_numbers.binds (ps := ["numbers"]) fun _ _ _ _ _ _ us hl => match us, hl with | [_], _ => rfl⟩
  have F__law_other_fates := fun_mk (st := s__law_other_fates) l__law_other_fates c__law_other_fates k__law_other_fates
  have D__law_other_fates : Df K mg "_law_other_fates" s__law_other_fates f__law_other_fates _ ["d", "late"] := ⟨F__law_other_fates, PySem.W.mg_of X G a__law_other_fates, F__law_other_fates.binds (ps := ["d", "late"]) fun _ _ _ _ _ _ us hl => match us, hl with | [_, _], _ => rfl⟩
  have F__law_put := fun_mk (st := s__law_put) l__law_put c__law_put k__law_put
  have D__law_put : Df K mg "_law_put" s__law_put f__law_put _ ["row", "at", "thing"] := ⟨F__law_put, PySem.W.mg_of X G a__law_put, F__law_put.binds (ps := ["row", "at", "thing"]) fun _ _ _ _ _ _ us hl => match us, hl with | [_, _, _], _ => rfl⟩
  have F__law_other_rows := fun_mk (st := s__law_other_rows) l__law_other_rows c__law_other_rows k__law_other_rows
  have D__law_other_rows : Df K mg "_law_other_rows" s__law_other_rows f__law_other_rows _ ["d", "row", "numbers"] := ⟨F__law_other_rows, PySem.W.mg_of X G a__law_other_rows, F__law_other_rows.binds (ps := ["d", "row", "numbers"]) fun _ _ _ _ _ _ us hl => match us, hl with | [_, _, _], _ => rfl⟩
  have F__law_put_row := fun_mk (st := s__law_put_row) l__law_put_row c__law_put_row k__law_put_row
  have D__law_put_row : Df K mg "_law_put_row" s__law_put_row f__law_put_row _ ["road", "sender", "receiver", "thing"] := ⟨F__law_put_row, PySem.W.mg_of X G a__law_put_row, F__law_put_row.binds (ps := ["road", "sender", "receiver", "thing"]) fun _ _ _ _ _ _ us hl => match us, hl with | [_, _, _, _], _ => rfl⟩
  have F__law_spoilt_ways := fun_mk (st := s__law_spoilt_ways) l__law_spoilt_ways c__law_spoilt_ways k__law_spoilt_ways
  have D__law_spoilt_ways : Df K mg "_law_spoilt_ways" s__law_spoilt_ways f__law_spoilt_ways _ ["d", "road", "numbers"] := ⟨F__law_spoilt_ways, PySem.W.mg_of X G a__law_spoilt_ways, F__law_spoilt_ways.binds (ps := ["d", "road", "numbers"]) fun _ _ _ _ _ _ us hl => match us, hl with | [_, _, _], _ => rfl⟩
  have F__law_spoilt_senders := fun_mk (st := s__law_spoilt_senders) l__law_spoilt_senders c__law_spoilt_senders k__law_spoilt_senders
  have D__law_spoilt_senders : Df K mg "_law_spoilt_senders" s__law_spoilt_senders f__law_spoilt_senders _ ["d", "road", "numbers"] := ⟨F__law_spoilt_senders, PySem.W.mg_of X G a__law_spoilt_senders, F__law_spoilt_senders.binds (ps := ["d", "road", "numbers"]) fun _ _ _ _ _ _ us hl => match us, hl with | [_, _, _], _ => rfl⟩
  have F_is_row := fun_mk (st := s_is_row) l_is_row c_is_row k_is_row
  have D_is_row : Df K mg "is_row" s_is_row f_is_row _ ["thing", "many"] := ⟨F_is_row, PySem.W.mg_of X G a_is_row, F_is_row.binds (ps := ["thing", "many"]) fun _ _ _ _ _ _ us hl => match us, hl with | [_, _], _ => rfl⟩
  have F_keeps_bounds := fun_mk (st := s_keeps_bounds) l_keeps_bounds c_keeps_bounds k_keeps_bounds
  have D_keeps_bounds : Df K mg "keeps_bounds" s_keeps_bounds f_keeps_bounds _ ["fates", "l"] := ⟨F_keeps_bounds, PySem.W.mg_of X G a_keeps_bounds, F_keeps_bounds.binds (ps := ["fates", "l"]) fun _ _ _ _ _ _ us hl => match us, hl with | [_, _], _ => rfl⟩
  have F_is_int := fun_mk (st := s_is_int) l_is_int c_is_int k_is_int
  have D_is_int : Df K mg "is_int" s_is_int f_is_int _ ["thing"] := ⟨F_is_int, PySem.W.mg_of X G a_is_int, F_is_int.binds (ps := ["thing"]) fun _ _ _ _ _ _ us hl => match us, hl with | [_], _ => rfl⟩
  have F_is_ints := fun_mk (st := s_is_ints) l_is_ints c_is_ints k_is_ints
  have D_is_ints : Df K mg "is_ints" s_is_ints f_is_ints _ ["thing"] := ⟨F_is_ints, PySem.W.mg_of X G a_is_ints, F_is_ints.binds (ps := ["thing"]) fun _ _ _ _ _ _ us hl => match us, hl with | [_], _ => rfl⟩
  have F_is_ints_between := fun_mk (st := s_is_ints_between) l_is_ints_between c_is_ints_between k_is_ints_between
  have D_is_ints_between : Df K mg "is_ints_between" s_is_ints_between f_is_ints_between _ ["thing", "low", "high"] := ⟨F_is_ints_between, PySem.W.mg_of X G a_is_ints_between, F_is_ints_between.binds (ps := ["thing", "low", "high"]) fun _ _ _ _ _ _ us hl => match us, hl with | [_, _, _], _ => rfl⟩
  have F_is_fate := fun_mk (st := s_is_fate) l_is_fate c_is_fate k_is_fate
  have D_is_fate : Df K mg "is_fate" s_is_fate f_is_fate _ ["thing", "d"] := ⟨F_is_fate, PySem.W.mg_of X G a_is_fate, F_is_fate.binds (ps := ["thing", "d"]) fun _ _ _ _ _ _ us hl => match us, hl with | [_, _], _ => rfl⟩
  have F_is_fates := fun_mk (st := s_is_fates) l_is_fates c_is_fates k_is_fates
  have D_is_fates : Df K mg "is_fates" s_is_fates f_is_fates _ ["thing", "frames", "d", "l"] := ⟨F_is_fates, PySem.W.mg_of X G a_is_fates, F_is_fates.binds (ps := ["thing", "frames", "d", "l"]) fun _ _ _ _ _ _ us hl => match us, hl with | [_, _, _, _], _ => rfl⟩
  have F_is_road := fun_mk (st := s_is_road) l_is_road c_is_road k_is_road
  have D_is_road : Df K mg "is_road" s_is_road f_is_road _ ["road", "seats", "receivers", "frames", "d", "l"] := ⟨F_is_road, PySem.W.mg_of X G a_is_road, F_is_road.binds (ps := ["road", "seats", "receivers", "frames", "d", "l"]) fun _ _ _ _ _ _ us hl => match us, hl with | [_, _, _, _, _, _], _ => rfl⟩
  have F__law_is_int := fun_mk (st := s__law_is_int) l__law_is_int c__law_is_int k__law_is_int
  have D__law_is_int : Df K mg "_law_is_int" s__law_is_int f__law_is_int _ ["thing"] := ⟨F__law_is_int, PySem.W.mg_of X G a__law_is_int, F__law_is_int.binds (ps := ["thing"]) fun _ _ _ _ _ _ us hl => match us, hl with | [_], _ => rfl⟩
  have F__law_is_fate := fun_mk (st := s__law_is_fate) l__law_is_fate c__law_is_fate k__law_is_fate
  have D__law_is_fate : Df K mg "_law_is_fate" s__law_is_fate f__law_is_fate _ ["thing", "late"] := ⟨F__law_is_fate, PySem.W.mg_of X G a__law_is_fate, F__law_is_fate.binds (ps := ["thing", "late"]) fun _ _ _ _ _ _ us hl => match us, hl with | [_, _], _ => rfl⟩
  have F__law_is_fates := fun_mk (st := s__law_is_fates) l__law_is_fates c__law_is_fates k__law_is_fates
  have D__law_is_fates : Df K mg "_law_is_fates" s__law_is_fates f__law_is_fates _ ["thing", "frames", "late", "lost"] := ⟨F__law_is_fates, PySem.W.mg_of X G a__law_is_fates, F__law_is_fates.binds (ps := ["thing", "frames", "late", "lost"]) fun _ _ _ _ _ _ us hl => match us, hl with | [_, _, _, _], _ => rfl⟩
  have F__law_lets := fun_mk (st := s__law_lets) l__law_lets c__law_lets k__law_lets
  have D__law_lets : Df K mg "_law_lets" s__law_lets f__law_lets _ ["road", "numbers"] := ⟨F__law_lets, PySem.W.mg_of X G a__law_lets, F__law_lets.binds (ps := ["road", "numbers"]) fun _ _ _ _ _ _ us hl => match us, hl with | [_, _], _ => rfl⟩
  have F__law_is_judged := fun_mk (st := s__law_is_judged) l__law_is_judged c__law_is_judged k__law_is_judged
  have D__law_is_judged : Df K mg "_law_is_judged" s__law_is_judged f__law_is_judged _ ["road", "numbers"] := ⟨F__law_is_judged, PySem.W.mg_of X G a__law_is_judged, F__law_is_judged.binds (ps := ["road", "numbers"]) fun _ _ _ _ _ _ us hl => match us, hl with | [_, _], _ => rfl⟩
  have F_law := fun_mk (st := s_law) l_law c_law k_law
  have D_law : Df K mg "law" s_law _ _ ["script"] := ⟨F_law, PySem.W.mg_of X G a_law, F_law.binds (ps := ["script"]) fun _ _ _ _ _ _ us hl => match us, hl with | [_], _ => rfl⟩
  refine ⟨PySem.W.fnOf "law" "law" (defArgs s_law) (defBody s_law) (defScope s_law) .none kV_law dc_law pm_law an_law cd_law ct_law, fun s v => .of_eq rfl, fun base _ _ => ?_⟩
  have C__law_begin : Cl l.prog w K mg base 1 "_law_begin" (sp__law_begin K) := D__law_begin.cl (ok__law_begin D__law_begin T )
  have C__law_draw : Cl l.prog w K mg base 1 "_law_draw" (sp__law_draw K) := D__law_draw.cl (ok__law_draw D__law_draw T )
  have C__law_pick : Cl l.prog w K mg base 2 "_law_pick" (sp__law_pick K) := D__law_pick.cl (ok__law_pick D__law_pick T C__law_draw)
  have C__law_rare : Cl l.prog w K mg base 2 "_law_rare" (sp__law_rare K) := D__law_rare.cl (ok__law_rare D__law_rare T C__law_draw)
  have C__law_fates : Cl l.prog w K mg base 2 "_law_fates" (sp__law_fates K) := D__law_fates.cl (ok__law_fates D__law_fates T C__law_draw)
  have C__law_one_fate : Cl l.prog w K mg base 2 "_law_one_fate" (sp__law_one_fate K) := D__law_one_fate.cl (ok__law_one_fate D__law_one_fate T C__law_draw)
  have C__law_lost_run : Cl l.prog w K mg base 3 "_law_lost_run" (sp__law_lost_run K) := D__law_lost_run.cl (ok__law_lost_run D__law_lost_run T C__law_draw C__law_one_fate)
  have C__law_right_fates : Cl l.prog w K mg base 4 "_law_right_fates" (sp__law_right_fates K) := D__law_right_fates.cl (ok__law_right_fates D__law_right_fates T C__law_draw C__law_fates C__law_lost_run C__law_one_fate)
  have C__law_right_road : Cl l.prog w K mg base 5 "_law_right_road" (sp__law_right_road K) := D__law_right_road.cl (ok__law_right_road D__law_right_road T C__law_right_fates)
  have C__law_shuffled : Cl l.prog w K mg base 2 "_law_shuffled" (sp__law_shuffled K) := D__law_shuffled.cl (ok__law_shuffled D__law_shuffled T C__law_draw)
  have C__law_other_numbers : Cl l.prog w K mg base 1 "_law_other_numbers" (sp__law_other_numbers K) := D__law_other_numbers.cl (ok__law_other_numbers D__law_other_numbers T )
  have C__law_other_fates : Cl l.prog w K mg base 2 "_law_other_fates" (sp__law_other_fates K) := D__law_other_fates.cl (ok__law_other_fates D__law_other_fates T C__law_draw)
  have C__law_put : Cl l.prog w K mg base 1 "_law_put" (sp__law_put K) := D__law_put.cl (ok__law_put D__law_put T )
  have C__law_other_rows : Cl l.prog w K mg base 4 "_law_other_rows" (sp__law_other_rows K) := D__law_other_rows.cl (ok__law_other_rows D__law_other_rows T C__law_put C__law_lost_run C__law_draw)
  have C__law_put_row : Cl l.prog w K mg base 2 "_law_put_row" (sp__law_put_row K) := D__law_put_row.cl (ok__law_put_row D__law_put_row T C__law_put)
  have C__law_spoilt_ways : Cl l.prog w K mg base 5 "_law_spoilt_ways" (sp__law_spoilt_ways K) := D__law_spoilt_ways.cl (ok__law_spoilt_ways D__law_spoilt_ways T C__law_other_fates C__law_pick C__law_other_rows C__law_put_row C__law_put C__law_draw)
  have C__law_spoilt_senders : Cl l.prog w K mg base 3 "_law_spoilt_senders" (sp__law_spoilt_senders K) := D__law_spoilt_senders.cl (ok__law_spoilt_senders D__law_spoilt_senders T C__law_draw C__law_put_row C__law_put)
  have C_is_row : Cl l.prog w K mg base 1 "is_row" (sp_is_row K) := D_is_row.cl (ok_is_row D_is_row T )
  have C_keeps_bounds : Cl l.prog w K mg base 1 "keeps_bounds" (sp_keeps_bounds K) := D_keeps_bounds.cl (ok_keeps_bounds D_keeps_bounds T )
  have C_is_int : Cl l.prog w K mg base 1 "is_int" (sp_is_int K) := D_is_int.cl (ok_is_int D_is_int T )
  have C_is_ints : Cl l.prog w K mg base 2 "is_ints" (sp_is_ints K) := D_is_ints.cl (ok_is_ints D_is_ints T C_is_int)
  have C_is_ints_between : Cl l.prog w K mg base 3 "is_ints_between" (sp_is_ints_between K) := D_is_ints_between.cl (ok_is_ints_between D_is_ints_between T C_is_ints)
  have C_is_fate : Cl l.prog w K mg base 4 "is_fate" (sp_is_fate K) := D_is_fate.cl (ok_is_fate D_is_fate T C_is_ints_between)
  have C_is_fates : Cl l.prog w K mg base 5 "is_fates" (sp_is_fates K) := D_is_fates.cl (ok_is_fates D_is_fates T C_keeps_bounds C_is_row C_is_fate)
  have C_is_road : Cl l.prog w K mg base 6 "is_road" (sp_is_road K) := D_is_road.cl (ok_is_road D_is_road T C_is_row C_is_fates)
  have C__law_is_int : Cl l.prog w K mg base 1 "_law_is_int" (sp__law_is_int K) := D__law_is_int.cl (ok__law_is_int D__law_is_int T )
  have C__law_is_fate : Cl l.prog w K mg base 2 "_law_is_fate" (sp__law_is_fate K) := D__law_is_fate.cl (ok__law_is_fate D__law_is_fate T C__law_is_int)
  have C__law_is_fates : Cl l.prog w K mg base 3 "_law_is_fates" (sp__law_is_fates K) := D__law_is_fates.cl (ok__law_is_fates D__law_is_fates T C__law_is_fate)
  have C__law_lets : Cl l.prog w K mg base 4 "_law_lets" (sp__law_lets K) := D__law_lets.cl (ok__law_lets D__law_lets T C__law_is_fates)
  have C__law_is_judged : Cl l.prog w K mg base 7 "_law_is_judged" (sp__law_is_judged K) := D__law_is_judged.cl (ok__law_is_judged D__law_is_judged T C_is_road C__law_lets)
  exact ok_law D_law T C__law_begin C__law_pick C__law_rare C__law_right_road C__law_shuffled C__law_other_numbers C__law_draw C__law_spoilt_ways C__law_spoilt_senders C__law_is_judged
theorem walk {l : PySem.W.OpenLaw} {q : Program} {loose : List Str} {XP : (Str → Option Value) → Heap → Prop} {YP : World → Heap → Prop} {d : DefRec} {K : Params → PySem.W.Frag} (hn : l.most = some 63) (hdf : d.params.defaults = [])
    (hY : ∀ (w : World) (h : Heap), YP w h → (K w.params).In h)
    (F : ∀ (w : World) (mg : Str → Option Value) (fa : Addr) (h : Heap), (K w.params).In h → h.Ns mainGlobals mg → mg d.name = some (.ref fa) →
      ∃ fd : FuncData, (∀ (s : Shared) (u : Value), BindsTo s fd ⟨[u], []⟩ [("script", u)]) ∧ ∀ base : Heap, (K w.params).In base → base.Ns mainGlobals mg → FnOk l.prog w (K w.params) mg base CX0 8 fa fd ["script"] (sp_law (K w.params))) :
    PySem.W.WalkO q loose XP YP l.row.toRowW d [] (fun f vs => PySem.call f vs) :=
  L2.walk_ofB (n := 63) (k := 8) (x := "script") (CX := fun _ => CX0) (sp := fun w => sp_law (K w.params)) hn (by decide) hdf ⟨rfl, by decide, by decide⟩ hY F (fun _ _ a ns hl hb _ hS => law_hands a ns hl hb hS) fun _ _ _ _ _ z => z
end Law
open PySem PySem.W PyProof.Rows in
set_option maxRecDepth 100000 in
set_option maxHeartbeats 0 in
theorem PySem.Challenge.cw_judgedplay_k27_roads_judged_holds : PySem.Challenge.rw_judgedplay_k27_roads_judged.Holds := by
  w_on; o_law; k_head; (case hw => w_witness2)
  k_fill
  refine Law.walk (l := PySem.Challenge.rw_judgedplay_k27_roads_judged) rfl rfl (fun w h Y => PySem.W.kIn_of Y) ?F
  case F =>
    intro w mg fa h KX G hmg
    refine' Law.all_mk KX G hmg ?a__law_begin ?l__law_begin ?c__law_begin ?k__law_begin ?a__law_draw ?l__law_draw ?c__law_draw ?k__law_draw ?a__law_pick ?l__law_pick ?c__law_pick ?k__law_pick ?a__law_rare ?l__law_rare ?c__law_rare ?k__law_rare ?a__law_fates ?l__law_fates ?c__law_fates ?k__law_fates ?a__law_one_fate ?l__law_one_fate ?c__law_one_fate ?k__law_one_fate ?a__law_lost_run ?l__law_lost_run ?c__law_lost_run ?k__law_lost_run ?a__law_right_fates ?l__law_right_fates ?c__law_right_fates ?k__law_right_fates ?a__law_right_road ?l__law_right_road ?c__law_right_road ?k__law_right_road ?a__law_shuffled ?l__law_shuffled ?c__law_shuffled ?k__law_shuffled ?a__law_other_numbers ?l__law_other_numbers ?c__law_other_numbers ?k__law_other_numbers ?a__law_other_fates ?l__law_other_fates ?c__law_other_fates ?k__law_other_fates ?a__law_put ?l__law_put ?c__law_put ?k__law_put ?a__law_other_rows ?l__law_other_rows ?c__law_other_rows ?k__law_other_rows ?a__law_put_row ?l__law_put_row ?c__law_put_row ?k__law_put_row ?a__law_spoilt_ways ?l__law_spoilt_ways ?c__law_spoilt_ways ?k__law_spoilt_ways ?a__law_spoilt_senders ?l__law_spoilt_senders ?c__law_spoilt_senders ?k__law_spoilt_senders ?a_is_row ?l_is_row ?c_is_row ?k_is_row ?a_keeps_bounds ?l_keeps_bounds ?c_keeps_bounds ?k_keeps_bounds ?a_is_int ?l_is_int ?c_is_int ?k_is_int ?a_is_ints ?l_is_ints ?c_is_ints ?k_is_ints ?a_is_ints_between ?l_is_ints_between ?c_is_ints_between ?k_is_ints_between ?a_is_fate ?l_is_fate ?c_is_fate ?k_is_fate ?a_is_fates ?l_is_fates ?c_is_fates ?k_is_fates ?a_is_road ?l_is_road ?c_is_road ?k_is_road ?a__law_is_int ?l__law_is_int ?c__law_is_int ?k__law_is_int ?a__law_is_fate ?l__law_is_fate ?c__law_is_fate ?k__law_is_fate ?a__law_is_fates ?l__law_is_fates ?c__law_is_fates ?k__law_is_fates ?a__law_lets ?l__law_lets ?c__law_lets ?k__law_lets ?a__law_is_judged ?l__law_is_judged ?c__law_is_judged ?k__law_is_judged ?a_law ?l_law ?c_law ?k_law ?z_int ?z_len ?z_abs ?z_range ?z_tuple ?z_min ?z_list ?z_reversed ?z_isinstance ?z_bool ?n_MOST_COPIES ?r_MOST_COPIES
    (case a__law_begin => k_is)
    (case l__law_begin => k_is)
    (case c__law_begin => k_is)
    (case k__law_begin => k_is)
    (case a__law_draw => k_is)
    (case l__law_draw => k_is)
    (case c__law_draw => k_is)
    (case k__law_draw => k_is)
    (case a__law_pick => k_is)
    (case l__law_pick => k_is)
    (case c__law_pick => k_is)
    (case k__law_pick => k_is)
    (case a__law_rare => k_is)
    (case l__law_rare => k_is)
    (case c__law_rare => k_is)
    (case k__law_rare => k_is)
    (case a__law_fates => k_is)
    (case l__law_fates => k_is)
    (case c__law_fates => k_is)
    (case k__law_fates => k_is)
    (case a__law_one_fate => k_is)
    (case l__law_one_fate => k_is)
    (case c__law_one_fate => k_is)
    (case k__law_one_fate => k_is)
    (case a__law_lost_run => k_is)
    (case l__law_lost_run => k_is)
    (case c__law_lost_run => k_is)
    (case k__law_lost_run => k_is)
    (case a__law_right_fates => k_is)
    (case l__law_right_fates => k_is)
    (case c__law_right_fates => k_is)
    (case k__law_right_fates => k_is)
    (case a__law_right_road => k_is)
    (case l__law_right_road => k_is)
    (case c__law_right_road => k_is)
    (case k__law_right_road => k_is)
    (case a__law_shuffled => k_is)
    (case l__law_shuffled => k_is)
    (case c__law_shuffled => k_is)
    (case k__law_shuffled => k_is)
    (case a__law_other_numbers => k_is)
    (case l__law_other_numbers => k_is)
    (case c__law_other_numbers => k_is)
    (case k__law_other_numbers => k_is)
    (case a__law_other_fates => k_is)
    (case l__law_other_fates => k_is)
    (case c__law_other_fates => k_is)
    (case k__law_other_fates => k_is)
    (case a__law_put => k_is)
    (case l__law_put => k_is)
    (case c__law_put => k_is)
    (case k__law_put => k_is)
    (case a__law_other_rows => k_is)
    (case l__law_other_rows => k_is)
    (case c__law_other_rows => k_is)
    (case k__law_other_rows => k_is)
    (case a__law_put_row => k_is)
    (case l__law_put_row => k_is)
    (case c__law_put_row => k_is)
    (case k__law_put_row => k_is)
    (case a__law_spoilt_ways => k_is)
    (case l__law_spoilt_ways => k_is)
    (case c__law_spoilt_ways => k_is)
    (case k__law_spoilt_ways => k_is)
    (case a__law_spoilt_senders => k_is)
    (case l__law_spoilt_senders => k_is)
    (case c__law_spoilt_senders => k_is)
    (case k__law_spoilt_senders => k_is)
    (case a_is_row => k_is)
    (case l_is_row => k_is)
    (case c_is_row => k_is)
    (case k_is_row => k_is)
    (case a_keeps_bounds => k_is)
    (case l_keeps_bounds => k_is)
    (case c_keeps_bounds => k_is)
    (case k_keeps_bounds => k_is)
    (case a_is_int => k_is)
    (case l_is_int => k_is)
    (case c_is_int => k_is)
    (case k_is_int => k_is)
    (case a_is_ints => k_is)
    (case l_is_ints => k_is)
    (case c_is_ints => k_is)
    (case k_is_ints => k_is)
    (case a_is_ints_between => k_is)
    (case l_is_ints_between => k_is)
    (case c_is_ints_between => k_is)
    (case k_is_ints_between => k_is)
    (case a_is_fate => k_is)
    (case l_is_fate => k_is)
    (case c_is_fate => k_is)
    (case k_is_fate => k_is)
    (case a_is_fates => k_is)
    (case l_is_fates => k_is)
    (case c_is_fates => k_is)
    (case k_is_fates => k_is)
    (case a_is_road => k_is)
    (case l_is_road => k_is)
    (case c_is_road => k_is)
    (case k_is_road => k_is)
    (case a__law_is_int => k_is)
    (case l__law_is_int => k_is)
    (case c__law_is_int => k_is)
    (case k__law_is_int => k_is)
    (case a__law_is_fate => k_is)
    (case l__law_is_fate => k_is)
    (case c__law_is_fate => k_is)
    (case k__law_is_fate => k_is)
    (case a__law_is_fates => k_is)
    (case l__law_is_fates => k_is)
    (case c__law_is_fates => k_is)
    (case k__law_is_fates => k_is)
    (case a__law_lets => k_is)
    (case l__law_lets => k_is)
    (case c__law_lets => k_is)
    (case k__law_lets => k_is)
    (case a__law_is_judged => k_is)
    (case l__law_is_judged => k_is)
    (case c__law_is_judged => k_is)
    (case k__law_is_judged => k_is)
    (case a_law => k_is)
    (case l_law => k_is)
    (case c_law => k_is)
    (case k_law => k_is)
    (case z_int => k_is)
    (case z_len => k_is)
    (case z_abs => k_is)
    (case z_range => k_is)
    (case z_tuple => k_is)
    (case z_min => k_is)
    (case z_list => k_is)
    (case z_reversed => k_is)
    (case z_isinstance => k_is)
    (case z_bool => k_is)
    (case n_MOST_COPIES => k_is)
    (case r_MOST_COPIES => first | exact ⟨_, rfl⟩ | rfl)
#print axioms PySem.Challenge.cw_judgedplay_k27_roads_judged_holds
